import PyProof.Rows.All
import Wide.All
import OpenK.AllK
import Wide.FinOn
import HandS.ForMost
import HandS.Wide
import HandS.IsInst
import HandS.Defaults
import HandS.Codes
import PyProof.InstNe
import HandS.Style
import PyProof.ReprRoads
import PyProof.ReprLen
import HandS.ForExc
import HandS.ExcInit
import HandS.ExcField
import HandS.ExcIs
import PyProof.NeKinds
import HandS.MakeKw
import PySem.Challenge.RW_windowrows_k21_cells
set_option Elab.async false
set_option linter.all false
set_option maxRecDepth 100000
set_option maxHeartbeats 2000000
namespace Wr
open PySem PySem.Spec PyProof.Rows L2
/-! ### readings, one lemma a construct: what is left to be shown behind it -/
section
variable {σ : L2.St} {H : Hp} {Q : VK} {QB : Bool → Hp → Prop} {QA : List V → Hp → Prop} {D : Ends} {t u : TS} {te ta tb : TE} {tt tu : TT} {i j : Int} {v : V} {K : PySem.W.Frag}
theorem r_seq (h : t { D with nx := u D } σ H) : tSeq t u D σ H := h
theorem r_next (h : D.nx σ H) : tNext D σ H := h
theorem r_asg {g : TG} (h : te σ H fun x H1 => g x σ H1 D.nx) : tAsg te g D σ H := h
theorem r_drop (h : te σ H fun _ H1 => D.nx σ H1) : tDrop te D σ H := h
theorem r_ret (h : te σ H D.rt) : tRet te D σ H := h
theorem r_ifs (h : tt σ H fun b H1 => if b = true then t D σ H1 else u D σ H1) : tIfS tt t u D σ H := h
theorem r_gname {n : Nat} {QS : L2.St → Hp → Prop} (h : QS (σ.set n (some v)) H) : gName n v σ H QS := h
theorem r_gsub {to ti : TE} {s : TSet} {QS : L2.St → Hp → Prop} (h : to σ H fun o H1 => ti σ H1 fun i H2 => s o i v H2 fun H3 => QS σ H3) : gSub to ti s v σ H QS := h
theorem r_gtup {n : Nat} {tg : TGs} {a : Addr} {xs : List V} {QS : L2.St → Hp → Prop} (h1 : SqT K H a xs) (h2 : xs.length = n) (h : tg xs σ H QS) : gTup K n tg (.ref a) σ H QS := ⟨a, xs, rfl, h1, h2, h⟩
theorem r_gcons {g : TG} {tg : TGs} {xs : List V} {QS : L2.St → Hp → Prop} (h : g v σ H fun s' H' => tg xs s' H' QS) : gCons g tg (v :: xs) σ H QS := ⟨v, xs, rfl, h⟩
theorem r_gnil {QS : L2.St → Hp → Prop} (h : QS σ H) : gNil [] σ H QS := ⟨rfl, h⟩
theorem r_var {n : Nat} (e : σ[n]? = some (some v)) (h : Q v H) : tVar n σ H Q := ⟨v, e, h⟩
theorem r_c (h : Q v H) : tC v σ H Q := h
theorem r_op {r : R2} (h : ta σ H fun x H1 => tb σ H1 fun y H2 => r x y H2 Q) : tOp r ta tb σ H Q := h
theorem r_un {r : V → Hp → VK → Prop} (h : ta σ H fun x H1 => r x H1 Q) : tUn r ta σ H Q := h
theorem r_I {C : Int → Int → Prop} {g : Int → Int → V} (c : C i j) (h : Q (g i j) H) : rI C g (.int i) (.int j) H Q := ⟨i, j, rfl, rfl, c, h⟩
theorem r_I0 {g : Int → Int → V} (h : Q (g i j) H) : rI0 g (.int i) (.int j) H Q := ⟨i, j, rfl, rfl, h⟩
theorem r_U {g : Int → V} (h : Q (g i) H) : rU g (.int i) H Q := ⟨i, rfl, h⟩
theorem r_test (h : te σ H fun x H1 => ∃ k, x = .bl k ∧ QB k H1) : tTest te σ H QB := h
theorem r_tB (h : te σ H fun x H1 => ∃ k, x = .bl k ∧ QB k H1) : tB te σ H QB := h
theorem r_bl {b : Bool} {F : Bool → Prop} (h : F b) : ∃ k, V.bl b = .bl k ∧ F k := ⟨b, rfl, h⟩
theorem r_and (h : tt σ H fun c H1 => if c = true then tu σ H1 QB else QB false H1) : tAnd tt tu σ H QB := h
theorem r_or (h : tt σ H fun c H1 => if c = true then QB true H1 else tu σ H1 QB) : tOr tt tu σ H QB := h
theorem r_not (h : tt σ H fun c H1 => QB (!c) H1) : tNot tt σ H QB := h
theorem r_andV (h : ta σ H fun x H1 => ∃ c, x = .bl c ∧ if c = true then tb σ H1 Q else Q (.bl false) H1) : tAndV ta tb σ H Q := h
theorem r_orV (h : ta σ H fun x H1 => ∃ c, x = .bl c ∧ if c = true then Q (.bl true) H1 else tb σ H1 Q) : tOrV ta tb σ H Q := h
theorem r_notV (h : ta σ H fun x H1 => ∃ c, x = .bl c ∧ Q (.bl (!c)) H1) : tNotV ta σ H Q := h
theorem r_ife (h : tt σ H fun c H1 => if c = true then ta σ H1 Q else tb σ H1 Q) : tIf tt ta tb σ H Q := h
theorem eq_dint : decide (V.int i = V.int j) = decide (i = j) := by
  by_cases e : i = j
  · rw [e, decide_eq_true rfl, decide_eq_true rfl]
  · rw [decide_eq_false e, decide_eq_false fun z => e (V.int.inj z)]
theorem eq_dbl {a b : Bool} : decide (V.bl a = V.bl b) = (a == b) := by cases a <;> cases b <;> rfl
theorem eq_dstr {a b : Str} : decide (V.str a = V.str b) = decide (a = b) := by
  by_cases e : a = b
  · rw [e, decide_eq_true rfl, decide_eq_true rfl]
  · rw [decide_eq_false e, decide_eq_false fun z => e (V.str.inj z)]
theorem r_eqI (h : Q (.bl (decide (i = j))) H) : rEq (.int i) (.int j) H Q := ⟨rfl, by rw [eq_dint]; exact h⟩
theorem r_neI (h : Q (.bl (!decide (i = j))) H) : rNe (.int i) (.int j) H Q := ⟨rfl, by rw [eq_dint]; exact h⟩
theorem r_eqB {a b : Bool} (h : Q (.bl (a == b)) H) : rEq (.bl a) (.bl b) H Q := ⟨rfl, by rw [eq_dbl]; exact h⟩
theorem r_neB {a b : Bool} (h : Q (.bl (!(a == b))) H) : rNe (.bl a) (.bl b) H Q := ⟨rfl, by rw [eq_dbl]; exact h⟩
theorem r_eqS {a b : Str} (h : Q (.bl (decide (a = b))) H) : rEq (.str a) (.str b) H Q := ⟨rfl, by rw [eq_dstr]; exact h⟩
theorem r_neS {a b : Str} (h : Q (.bl (!decide (a = b))) H) : rNe (.str a) (.str b) H Q := ⟨rfl, by rw [eq_dstr]; exact h⟩
theorem r_ixL {p : Addr} {xs : List V} (h1 : SqL K H p xs) (h2 : atI xs i = some v) (h : Q v H) : rIxL K (.ref p) (.int i) H Q := ⟨p, xs, i, v, rfl, rfl, h1, h2, h⟩
theorem r_ixT {p : Addr} {xs : List V} (h1 : SqT K H p xs) (h2 : atI xs i = some v) (h : Q v H) : rIxT K (.ref p) (.int i) H Q := ⟨p, xs, i, v, rfl, rfl, h1, h2, h⟩
theorem r_setL {p : Addr} {xs : List V} {n : Nat} {QH : Hp → Prop} (h1 : H p = some (.lst xs)) (h2 : ixN xs.length i = some n) (h : QH (upd H p (.lst (xs.set n v)))) : rSetL (.ref p) (.int i) v H QH := ⟨p, xs, i, n, rfl, rfl, h1, h2, h⟩
theorem r_nil (h : QA [] H) : tNil σ H QA := h
theorem r_cons {tr : TA} (h : te σ H fun x H1 => tr σ H1 fun xs H2 => QA (x :: xs) H2) : tCons te tr σ H QA := h
theorem r_cb {r : List V → Hp → VK → Prop} {ts : TA} (h : ts σ H fun vs H1 => r vs H1 Q) : tCB r ts σ H Q := h
theorem r_call {sp : Sp} {dvs : List V} {E : XK} {ts : TA} (h : ts σ H fun vs H1 => sp (vs ++ dvs) H1 Q E) : tCall sp dvs E ts σ H Q := h
theorem r_lst {ts : TA} (h : ts σ H fun xs H1 => xs.length ≤ sizeLine ∧ ∀ p, H1 p = none → Q (.ref p) (upd H1 p (.lst xs))) : tLst ts σ H Q := h
theorem r_tup {ts : TA} (h : ts σ H fun xs H1 => xs.length ≤ sizeLine ∧ ∀ p, H1 p = none → Q (.ref p) (upd H1 p (.tup xs))) : tTup ts σ H Q := h
theorem r_new {n : Nat} {F : Addr → Prop} (h1 : Nat.ble n 1000 = true) (h : ∀ p, H p = none → F p) : n ≤ sizeLine ∧ ∀ p, H p = none → F p := ⟨Nat.le_of_lt (small1000 (Nat.le_of_ble_eq_true h1)), h⟩
theorem r_ite {c : Prop} [Decidable c] {A B : Prop} (h1 : c → A) (h2 : ¬ c → B) : if decide c = true then A else B := by
  by_cases e : c
  · rw [decide_eq_true e]; exact iteT (h1 e)
  · rw [decide_eq_false e]; exact iteF (h2 e)
theorem r_iten {c : Prop} [Decidable c] {A B : Prop} (h1 : ¬ c → A) (h2 : c → B) : if (!decide c) = true then A else B := by
  by_cases e : c
  · rw [decide_eq_true e]; exact iteF (h2 e)
  · rw [decide_eq_false e]; exact iteT (h1 e)
theorem r_iteb {b : Bool} {A B : Prop} (h1 : b = true → A) (h2 : b = false → B) : if b = true then A else B := by
  cases b
  · exact iteF (h2 rfl)
  · exact iteT (h1 rfl)
theorem r_itebn {b : Bool} {A B : Prop} (h1 : b = false → A) (h2 : b = true → B) : if (!b) = true then A else B := by
  cases b
  · exact iteT (h1 rfl)
  · exact iteF (h2 rfl)
theorem iteNT {A B : Prop} (h : B) : if (!true) = true then A else B := iteF h
theorem iteNF {A B : Prop} (h : A) : if (!false) = true then A else B := iteT h
/-- int(n), abs(n), len(list) by words of their own -/
def rInt1 : List V → Hp → VK → Prop := fun xs H Q => ∃ i, xs = [.int i] ∧ Q (.int i) H
def rIntB : List V → Hp → VK → Prop := fun xs H Q => ∃ k, xs = [.bl k] ∧ Q (.int (if k then 1 else 0)) H
def rAbs1 : List V → Hp → VK → Prop := fun xs H Q => ∃ i, xs = [.int i] ∧ Q (.int (if i < 0 then -i else i)) H
def rLenL (K : PySem.W.Frag) : List V → Hp → VK → Prop := fun xs H Q => ∃ p ys, xs = [.ref p] ∧ (SqL K H p ys ∨ SqT K H p ys) ∧ Q (.int ys.length) H
theorem c_int1 {X : Cx} : CallR X (.type "int") rInt1 := fun pins s σ H xs us Q I r h => call_int1 pins s σ H xs us Q I r (Or.inl h)
theorem c_intB {X : Cx} : CallR X (.type "int") rIntB := fun pins s σ H xs us Q I r h => call_int1 pins s σ H xs us Q I r (Or.inr h)
theorem c_abs {X : Cx} : CallR X (.builtin "abs") rAbs1 := call_abs
theorem c_len {X : Cx} : CallR X (.builtin "len") (rLenL X.K) := call_len_seq
theorem r_int1 (h : Q (.int i) H) : rInt1 [.int i] H Q := ⟨i, rfl, h⟩
theorem r_intB {b : Bool} (h : Q (.int (if b then 1 else 0)) H) : rIntB [.bl b] H Q := ⟨b, rfl, h⟩
theorem r_abs1 (h : Q (.int (if i < 0 then -i else i)) H) : rAbs1 [.int i] H Q := ⟨i, rfl, h⟩
theorem r_lenL {p : Addr} {xs : List V} (h1 : SqL K H p xs) (h : Q (.int xs.length) H) : rLenL K [.ref p] H Q := ⟨p, xs, rfl, .inl h1, h⟩
theorem r_lenT {p : Addr} {xs : List V} (h1 : SqT K H p xs) (h : Q (.int xs.length) H) : rLenL K [.ref p] H Q := ⟨p, xs, rfl, .inr h1, h⟩
theorem r_bm {T : String} {r : V → List V → Hp → VK → Prop} {to : TE} {ts : TA} (h : to σ H fun x H1 => tyV K T x H1 ∧ ts σ H1 fun xs H2 => r x xs H2 Q) : tBM K T r to ts σ H Q := h
theorem r_tyL {p : Addr} {xs : List V} {A : Prop} (h1 : SqL K H p xs) (h : A) : tyV K "list" (.ref p) H ∧ A := ⟨Or.inl ⟨rfl, xs, h1⟩, h⟩
theorem r_app {p : Addr} {xs : List V} (h1 : H p = some (.lst xs)) (h2 : xs.length < sizeLine) (h : Q .non (upd H p (.lst (xs ++ [v])))) : rAppend (.ref p) [v] H Q := ⟨p, xs, v, rfl, rfl, h1, h2, h⟩
theorem r_isi {x c : V} {tv uv : Value} {b : Bool} (h1 : ClsV c uv) (h2 : TyX K H x tv) (h3 : PySem.W.kitOne K tv uv = some b) (h : Q (.bl b) H) : rIsi K [x, c] H Q := ⟨x, c, tv, uv, b, rfl, h1, h2, h3, h⟩
end
theorem bit_ok {b : Bool} : -(2 ^ 64) < (if b then (1 : Int) else 0) ∧ (if b then (1 : Int) else 0) < 2 ^ 64 := by cases b <;> decide
def kAt (ns : List Int) (i : Nat) : Int := ns.getD i 0
theorem ati_n {ns : List Int} {j : Nat} (h : j < ns.length) : atI (ns.map V.int) (j : Int) = some (.int (kAt ns j)) := atI_nat (by
  rw [List.getElem?_map, List.getElem?_eq_getElem h]
  show some (V.int ns[j]) = _
  rw [kAt, List.getD_eq_getElem?_getD, List.getElem?_eq_getElem h]
  rfl)
theorem ati_int {ns : List Int} {i : Int} (h0 : 0 ≤ i) (h1 : i < ns.length) : atI (ns.map V.int) i = some (.int (kAt ns i.toNat)) := by
  have e := ati_n (ns := ns) (j := i.toNat) (by omega)
  rw [Int.toNat_of_nonneg h0] at e
  exact e
theorem ati_last {ns : List Int} (h : 0 < ns.length) : atI (ns.map V.int) (-1) = some (.int (kAt ns (ns.length - 1))) := by
  unfold atI ixN
  rw [if_neg (by decide), if_pos (by rw [List.length_map]; omega), List.length_map]
  show (ns.map V.int)[((-1 : Int) + ns.length).toNat]? = _
  rw [show ((-1 : Int) + ns.length).toNat = ns.length - 1 by omega, List.getElem?_map, List.getElem?_eq_getElem (by omega)]
  rw [kAt, List.getD_eq_getElem?_getD, List.getElem?_eq_getElem (by omega)]
  rfl
theorem ixn_in {n : Nat} {i : Int} (h0 : 0 ≤ i) (h1 : i < n) : ixN n i = some i.toNat := by
  unfold ixN
  rw [if_pos h0, if_pos h1]
theorem same_new {H : Hp} {p : Addr} {o : HO} (h : H p = none) : Same H (upd H p o) := fun b x e => by
  rw [upd_ne (ne_of_none e h)]
  exact e
theorem nox_K {CX : CXT} {P : Program} {w : World} {K : PySem.W.Frag} {mg : Str → Option Value} {base : Heap} {N : List Str} {qual : Str} {sc : Scope} {f : Addr} {cd : Value} {A : Around} {outer : List Env} {s : Shared} {H : Hp} {E : XK} : (cxOf CX P w K mg base N qual sc f cd A outer s H E).nox.K = K := rfl
theorem cx_K {CX : CXT} {P : Program} {w : World} {K : PySem.W.Frag} {mg : Str → Option Value} {base : Heap} {N : List Str} {qual : Str} {sc : Scope} {f : Addr} {cd : Value} {A : Around} {outer : List Env} {s : Shared} {H : Hp} {E : XK} : (cxOf CX P w K mg base N qual sc f cd A outer s H E).K = K := rfl
section
variable {H : Hp} {Q : VK} {i j : Int} {K : PySem.W.Frag}
/-- % and // and * that hand on a letter -/
theorem r_mod (c : 0 < j) (h : ∀ k : Int, 0 ≤ k → k < j → k = i % j → Q (.int k) H) : rI (fun _ j => 0 < j) (fun i j => .int (i % j)) (.int i) (.int j) H Q :=
  ⟨i, j, rfl, rfl, c, h _ (Int.emod_nonneg _ (by omega)) (Int.emod_lt_of_pos _ c) rfl⟩
theorem r_fdiv (c : 0 < j) (c2 : j < 2 ^ 200) (h : ∀ k : Int, (0 ≤ i → 0 ≤ k) → k = i / j → Q (.int k) H) : rI CDivW (fun i j => .int (i / j)) (.int i) (.int j) H Q :=
  ⟨i, j, rfl, rfl, wide_div (b := 201) c (by omega) (by decide) (by decide), h _ (fun z => Int.ediv_nonneg z (by omega)) rfl⟩
theorem r_mul (c : CMul i j) (h : ∀ k : Int, k = i * j → Q (.int k) H) : rI CMul (fun i j => .int (i * j)) (.int i) (.int j) H Q := ⟨i, j, rfl, rfl, c, h _ rfl⟩
theorem r_lenI {p : Addr} {ns : List Int} (h1 : H p = some (.lst (ns.map V.int))) (h : Q (.int ns.length) H) : rLenL K [.ref p] H Q := ⟨p, _, rfl, .inl (.inl (.inl h1)), by rw [List.length_map]; exact h⟩
end
theorem bl_to {a b : Bool} {Q : VK} {H : Hp} (q : Q (.bl b) H) (e : a = b) : Q (.bl a) H := e ▸ q
/-! ### comprehensions by words of their own -/
def lcGo (J : It) (g : TG) (tt : TT) (te : TE) (vs : List Nat) (σ : L2.St) (Q : VK) (H1 : Hp) : Prop :=
  ∀ D, H1 D = none → ∃ W : Nat → Nat → Hp → Prop, (∃ m, W 0 m (upd H1 D (.lst []))) ∧
    ∀ i m H, W i m H → (J.stop i H ∧ Q (.ref D) H) ∨
      (J.go i H ∧ ∃ Nx : Hp → Prop, (∀ H', Nx H' → ∃ m', m' < m ∧ W (i + 1) m' H') ∧
        ∀ x H', J.yld i H x H' → g x (wipe σ vs) H' fun σ2 H2 => wipe σ2 vs = wipe σ vs ∧ tt σ2 H2 fun b H3 =>
          if b = true then te σ2 H3 fun y H4 => ∃ acc, H4 D = some (.lst acc) ∧ acc.length < sizeLine ∧ Nx (upd H4 D (.lst (acc ++ [y]))) else Nx H3)
section
variable {σ : L2.St} {H : Hp} {Q : VK} {te tl : TE} {K : PySem.W.Frag} {a : Addr} {xs : List V}
theorem r_lc {wi : TI} {g : TG} {tt : TT} {vs : List Nat} (h : wi σ H fun J H1 => lcGo J g tt te vs σ Q H1) : tLc wi g tt te vs σ H Q := h
theorem r_il {R : It → Hp → Prop} (h : tl σ H fun x H1 => ∃ a, x = .ref a ∧ (∃ xs, SqL K H1 a xs) ∧ R (Itl K a) H1) : iList K tl σ H R := h
theorem r_it {R : It → Hp → Prop} (h : tl σ H fun x H1 => ∃ a, x = .ref a ∧ (∃ xs, SqT K H1 a xs) ∧ R (Itt K a) H1) : iTup K tl σ H R := h
theorem r_itl {F : Addr → Prop} (hS : SqL K H a xs) (h : F a) : ∃ b, V.ref a = .ref b ∧ (∃ xs, SqL K H b xs) ∧ F b := ⟨a, rfl, ⟨xs, hS⟩, h⟩
theorem r_itt {F : Addr → Prop} (hS : SqT K H a xs) (h : F a) : ∃ b, V.ref a = .ref b ∧ (∃ xs, SqT K H b xs) ∧ F b := ⟨a, rfl, ⟨xs, hS⟩, h⟩
theorem r_rng1 {ta : TA} {R : It → Hp → Prop} (h : ta σ H fun vs H1 => ∃ j : Int, vs = [.int j] ∧ -(2 ^ 62) ≤ j ∧ j < 2 ^ 62 ∧ R (Itr 0 j.toNat) H1) : iRng1 ta σ H R := h
theorem r_rng2 {ta : TA} {R : It → Hp → Prop} (h : ta σ H fun vs H1 => ∃ i j : Int, vs = [.int i, .int j] ∧ (-(2 ^ 62) ≤ i ∧ i < 2 ^ 62 ∧ -(2 ^ 62) ≤ j ∧ j < 2 ^ 62) ∧ R (Itr i (j - i).toNat) H1) : iRng2 ta σ H R := h
theorem r_upto {j : Int} {F : Int → Prop} (h1 : -1000000 ≤ j) (h2 : j ≤ 1000000) (h : F j) : ∃ k : Int, [V.int j] = [.int k] ∧ -(2 ^ 62) ≤ k ∧ k < 2 ^ 62 ∧ F k := ⟨j, rfl, by omega, by omega, h⟩
theorem r_from {i j : Int} {F : Int → Int → Prop} (h0 : -1000000 ≤ i ∧ i ≤ 1000000) (h1 : -1000000 ≤ j ∧ j ≤ 1000000) (h : F i j) : ∃ i' j' : Int, [V.int i, V.int j] = [.int i', .int j'] ∧ (-(2 ^ 62) ≤ i' ∧ i' < 2 ^ 62 ∧ -(2 ^ 62) ≤ j' ∧ j' < 2 ^ 62) ∧ F i' j' := ⟨i, j, rfl, by omega, h⟩
theorem r_for {wi : TI} {g : TG} {tb : TS} {D : Ends} (h : wi σ H fun J H1 => ∃ W : Nat → Nat → L2.St → Hp → Prop, (∃ m, W 0 m σ H1) ∧ ∀ i m σ H, W i m σ H →
      (J.stop i H ∧ D.nx σ H) ∨ (J.go i H ∧ ∃ N : L2.St → Hp → Prop, (∀ σ' H', N σ' H' → ∃ m', m' < m ∧ W (i + 1) m' σ' H') ∧
        ∀ x H', J.yld i H x H' → g x σ H' fun σ2 H2 => tb { D with nx := N, ct := N, bk := D.nx } σ2 H2)) : tFor wi g tb D σ H := h
theorem wipe1 {n : Nat} {x : V} : wipe ((wipe σ [n]).set n (some x)) [n] = wipe σ [n] := by
  show ((σ.set n none).set n (some x)).set n none = σ.set n none
  rw [List.set_set, List.set_set]
/-- [e for x in xs], e a value by a function of x, the heap only grows aside -/
theorem lc_map {n : Nat} (f : V → V) (hS : SqL K H a xs) (hz : xs.length ≤ 1000) (he : ∀ (x : V) (H' : Hp) (QQ : VK), x ∈ xs → Same H H' → QQ (f x) H' → te ((wipe σ [n]).set n (some x)) H' QQ)
    (hq : ∀ D, H D = none → Q (.ref D) (upd H D (.lst (xs.map f)))) : lcGo (Itl K a) (gName n) tYes te [n] σ Q H := by
  intro D hD
  refine lc_list (K := K) (a := a) (xs := xs) (fun i H' => H' = upd H D (.lst ((xs.take i).map f))) rfl (fun i H' _ e => by subst e; exact (same_new hD).seq hS) ?_ ?_
  · rintro i x H' hx rfl
    refine ⟨wipe1, ?_⟩
    show te _ _ _
    refine he x _ _ (List.mem_of_getElem? hx) (same_new hD) ⟨(xs.take i).map f, upd_same, ?_, ?_⟩
    · rw [List.length_map, List.length_take]
      exact small1000 (by omega)
    · rw [upd_upd, List.take_add_one, hx, List.map_append]
      rfl
  · rintro H' rfl
    rw [List.take_length]
    exact hq D hD
end
section
variable {σ : L2.St} {H : Hp} {Q : VK} {te : TE} {K : PySem.W.Frag} {QO : Option Int → Hp → Prop}
theorem r_sl {r : V → Option Int → Option Int → Hp → VK → Prop} {tl th : TO} (h : te σ H fun x H1 => tl σ H1 fun l H2 => th σ H2 fun u H3 => r x l u H3 Q) : tSl r te tl th σ H Q := h
theorem r_np (h : QO none H) : tNoPart σ H QO := h
theorem r_pt (h : te σ H fun x H1 => ∃ i, x = .int i ∧ QO (some i) H1) : tPart te σ H QO := h
theorem r_pti {i : Int} {F : Int → Prop} (h : F i) : ∃ k, V.int i = .int k ∧ F k := ⟨i, rfl, h⟩
theorem r_slL {a : Addr} {xs : List V} {lo hi : Option Int} (hS : SqL K H a xs) (h : ∀ p, H p = none → Q (.ref p) (upd H p (.lst (cutV xs lo hi)))) : rSlL K (.ref a) lo hi H Q := ⟨a, xs, rfl, hS, h⟩
end
theorem cut_none {xs : List V} {n : Nat} (h : xs.length ≤ n) : cutV xs none (some (n : Int)) = xs := by
  unfold cutV
  rw [HT.sIx_none, show HT.sIx xs.length xs.length (some (n : Int)) = min n xs.length from HT.sIx_nat xs.length xs.length n]
  rw [List.drop_zero, Nat.sub_zero, Nat.min_eq_right h, List.take_length]
/-! ### the draws of a script -/
structure Drw (H : Hp) (d c r : Addr) : Prop where
  dc : d ≠ c
  dr : d ≠ r
  cr : c ≠ r
  ex : ∃ (ns rs : List Int) (t : Int), H d = some (.lst [.ref c, .ref r, .int t]) ∧ H c = some (.lst (ns.map V.int)) ∧ H r = some (.lst (rs.map V.int)) ∧ ns.length = rs.length ∧ 0 < ns.length ∧ 0 ≤ t ∧ ∀ x ∈ rs, 0 ≤ x
def Ext (d r : Addr) (H H' : Hp) : Prop := ∀ b o, H b = some o → b ≠ d → b ≠ r → H' b = some o
theorem Ext.refl {d r : Addr} {H : Hp} : Ext d r H H := fun _ _ e _ _ => e
theorem Ext.trans {d r : Addr} {H H1 H2 : Hp} (a : Ext d r H H1) (b : Ext d r H1 H2) : Ext d r H H2 := fun x o e n1 n2 => b x o (a x o e n1 n2) n1 n2
theorem Ext.of {d r : Addr} {H H' : Hp} (s : Same H H') : Ext d r H H' := fun b o e _ _ => s b o e
theorem Drw.same {H H' : Hp} {d c r : Addr} (D : Drw H d c r) (s : Same H H') : Drw H' d c r := by
  obtain ⟨dc, dr, cr, ns, rs, t, h1, h2, h3, h⟩ := D
  exact ⟨dc, dr, cr, ns, rs, t, s _ _ h1, s _ _ h2, s _ _ h3, h⟩
theorem Drw.new {H : Hp} {d c r p : Addr} {o : HO} (D : Drw H d c r) (h : H p = none) : Drw (upd H p o) d c r := D.same (same_new h)
theorem Drw.ned {H : Hp} {d c r p : Addr} (D : Drw H d c r) (h : H p = none) : p ≠ d := by
  obtain ⟨_, _, _, _, _, _, h1, _⟩ := D
  exact (ne_of_none h1 h).symm
theorem Drw.ner {H : Hp} {d c r p : Addr} (D : Drw H d c r) (h : H p = none) : p ≠ r := by
  obtain ⟨_, _, _, _, _, _, _, _, h1, _⟩ := D
  exact (ne_of_none h1 h).symm
theorem Drw.nec {H : Hp} {d c r p : Addr} (D : Drw H d c r) (h : H p = none) : p ≠ c := by
  obtain ⟨_, _, _, _, _, _, _, h1, _⟩ := D
  exact (ne_of_none h1 h).symm
theorem getD_left {xs : List Int} {y : Int} {i : Nat} (h : i < xs.length) : (xs ++ [y]).getD i 0 = xs.getD i 0 := by
  rw [List.getD_eq_getElem?_getD, List.getD_eq_getElem?_getD, List.getElem?_append_left h]
theorem getD_end {xs : List Int} {y : Int} : (xs ++ [y]).getD xs.length 0 = y := by
  rw [List.getD_eq_getElem?_getD, List.getElem?_append_right (Nat.le_refl _), Nat.sub_self]
  rfl
theorem Drw.back {H H' : Hp} {d c r p : Addr} (D : Drw H d c r) (e : Ext d r H H') (h : H' p = none) (D' : Drw H' d c r := by assumption) : H p = none := by
  cases q : H p with
  | none => rfl
  | some o =>
    have z := e p o q (D'.ned h) (D'.ner h)
    rw [h] at z
    cases z
theorem Drw.put {H : Hp} {d c r p : Addr} {o : HO} (D : Drw H d c r) (h1 : p ≠ d) (h2 : p ≠ r) (h3 : p ≠ c) : Drw (upd H p o) d c r := by
  obtain ⟨dc, dr, cr, ns, rs, t, g1, g2, g3, h⟩ := D
  exact ⟨dc, dr, cr, ns, rs, t, (upd_ne h1.symm).trans g1, (upd_ne h3.symm).trans g2, (upd_ne h2.symm).trans g3, h⟩
def spDraw : Sp := fun vs H Q _ => ∃ (d c r : Addr) (m : Int), vs = [.ref d, .int m] ∧ Drw H d c r ∧ 0 < m ∧ m < 2 ^ 200 ∧ ∀ (k : Int) (H' : Hp), 0 ≤ k → k < m → Drw H' d c r → Ext d r H H' → Q (.int k) H'
def spBegin (K : PySem.W.Frag) : Sp := fun vs H Q _ => ∃ (a : Addr) (ns : List Int), vs = [.ref a] ∧ SqL K H a (ns.map V.int) ∧ ns.length ≤ 63 ∧
  ∀ (d c r : Addr) (H' : Hp), Drw H' d c r → Same H H' → H d = none → H c = none → H r = none → Q (.ref d) H'
def restOf (v : V) : V := match v with
  | .int x => .int ((if x < 0 then -x else x) * (if decide ((10 : Int) ^ 18 ≤ (if x < 0 then -x else x)) then 1 else 0))
  | w => w
def restI (x : Int) : Int := (if x < 0 then -x else x) * (if decide ((10 : Int) ^ 18 ≤ (if x < 0 then -x else x)) then 1 else 0)
theorem rest_map (ns : List Int) : (ns.map V.int).map restOf = (ns.map restI).map V.int := by
  rw [List.map_map, List.map_map]
  rfl
theorem rest_nn (x : Int) : 0 ≤ restI x := by
  unfold restI
  refine Int.mul_nonneg ?_ ?_
  · split <;> omega
  · split <;> omega
/-! ### calls by keywords alone -/
section
variable {X : Cx} {CX : CXT} {k : Nat} {f : Addr} {fd : FuncData} {ps ks : List Str} {sp : Sp} {E : XK} {x : Str} {p pos : Pos} {kws : List Keyword} {tk : TA} {g : List Value → List Value → List Value} {gV : List V → List V → List V}
theorem pe_callN0 (F : FnOk X.prog X.w X.K X.mg X.base CX k f fd ps sp) (hr : Room k X.A) (hg : Gl X x) (hm : X.mg x = some (.ref f)) (hk : PySem.W.keepIn X.K (.ref f) = true) (hb : KBn X.K fd ps 0 ks g gV) (hx : Passes CX X E) (hkw : PK X kws tk)
    (hall : (backToKw pos (keywordEach kws X.env)).all (fun q => q.1.isSome) = true := by rfl) (hks : (backToKw pos (keywordEach kws X.env)).filterMap (fun q => q.1) = ks := by rfl) (hdb : (x == ("__debug__" : Str)) = false := by decide)
    (hpl : ((backTo pos (starEach [] X.env)).any (fun q => q.1) || (backToKw pos (keywordEach kws X.env)).any (fun q => q.1.isNone)) = false := by rfl) :
    PE X (.Call (.Name x p) [] kws pos) (tCallN 0 ks.length sp gV E tNil tk) := by
  refine ⟨fun pins s σ H Q I h => wpAny_Call_Name_kw (ld_glob I hg hm ?_ hdb)⟩
  refine PySem.W.callWith_KW0 (h₀ := X.base) I.ok.mod.kin hk hall (thn (hkw.run pos pins s σ H _ I h) fun ws s2 hh => ?_) hpl
  obtain ⟨zs, H2, I2, rz, l1, l2, q2⟩ := hh
  refine ⟨I2.kIn, ?_⟩
  rw [hks]
  exact run_fnN (us := []) (vs := []) F hr hb hx I2 .nil rz rfl l2 q2
theorem r_callN {n m : Nat} {ts : TA} {σ : L2.St} {H : Hp} {Q : VK} (h : ts σ H fun vs H1 => tk σ H1 fun zs H2 => vs.length = n ∧ zs.length = m ∧ sp (gV vs zs) H2 Q E) : tCallN n m sp gV E ts tk σ H Q := h
end
theorem kb_mk {K : PySem.W.Frag} {x qual : Str} {st : Stmt} {f : Addr} {fd : FuncData} {ps ks : List Str} {g : List Value → List Value → List Value} {gV : List V → List V → List V} (F : Fun K x qual st f fd)
    (h : ∀ (kV doc pm : Value) (an : Option Addr) (cdv ct : Value) (ws : List Value), ws.length = ks.length → bindArgs (PySem.W.fnOf x qual (defArgs st) (defBody st) (defScope st) .none kV doc pm an cdv ct) ⟨[], ks.zip ws⟩ = pure (ps.zip (g [] ws)))
    (hrel : ∀ {vs : List V} {us : List Value} {zs : List V} {ws : List Value}, Vals vs us → Vals zs ws → Vals (gV vs zs) (g us ws)) : KBn K fd ps 0 ks g gV := by
  obtain ⟨oc, od, kV, doc, pm, an, cdv, ct, osl, rfl, lk, hcd⟩ := F.ex
  refine ⟨fun s us ws _ l1 l2 => ?_, hrel⟩
  have e : us = [] := List.length_eq_zero_iff.mp l1
  subst e
  exact .of_eq (h kV doc pm an cdv ct ws l2)
section
variable {σ : L2.St} {H : Hp} {D : Ends} {ta : TA}
theorem r_par {i j : Nat} (h : ta σ H fun vs H1 => ∃ v w, vs = [v, w] ∧ D.nx ((σ.set i (some v)).set j (some w)) H1) : tPar i j ta D σ H := h
theorem r_par3 {i j l : Nat} (h : ta σ H fun vs H1 => ∃ u v w, vs = [u, v, w] ∧ D.nx (((σ.set i (some u)).set j (some v)).set l (some w)) H1) : tPar3 i j l ta D σ H := h
theorem r_two {a b : V} {F : V → V → Prop} (h : F a b) : ∃ v w, [a, b] = [v, w] ∧ F v w := ⟨a, b, rfl, h⟩
theorem r_three {a b c : V} {F : V → V → V → Prop} (h : F a b c) : ∃ u v w, [a, b, c] = [u, v, w] ∧ F u v w := ⟨a, b, c, rfl, h⟩
end
/-- [e for x in range(..)], e draws -/
theorem lc_draws {σ : L2.St} {H : Hp} {Q : VK} {te : TE} {n m : Nat} {lo : Int} {d c r : Addr} {P : Int → Prop} (hm : m ≤ 1000) (D0 : Drw H d c r)
    (he : ∀ (i : Nat) (H' : Hp) (QQ : VK), i < m → Drw H' d c r → Ext d r H H' → (∀ (k : Int) (H'' : Hp), P k → Drw H'' d c r → Ext d r H' H'' → QQ (.int k) H'') → te ((wipe σ [n]).set n (some (.int (lo + i)))) H' QQ)
    (hq : ∀ (l : Addr) (ss : List Int) (H' : Hp), ss.length = m → (∀ x ∈ ss, P x) → H l = none → H' l = some (.lst (ss.map V.int)) → Drw H' d c r → Ext d r H H' → Q (.ref l) H') : lcGo (Itr lo m) (gName n) tYes te [n] σ Q H := by
  intro l nl
  have ld := D0.ned nl
  have lr := D0.ner nl
  have lc := D0.nec nl
  refine lc_range (fun i H' => ∃ ss : List Int, ss.length = i ∧ (∀ x ∈ ss, P x) ∧ H' l = some (.lst (ss.map V.int)) ∧ Drw H' d c r ∧ Ext d r H H') ⟨[], rfl, fun x hx => (nomatch hx), upd_same, D0.new nl, Ext.of (same_new nl)⟩ ?_ ?_
  · rintro i H' hi ⟨ss, hl, hp, hs, D1, E1⟩
    refine ⟨wipe1, ?_⟩
    show te _ _ _
    refine he i H' _ hi D1 E1 fun k H'' hk D2 E2 => ⟨ss.map V.int, E2 _ _ hs ld lr, ?_, ?_⟩
    · rw [List.length_map]
      exact small1000 (by omega)
    · refine ⟨ss ++ [k], by rw [List.length_append, hl]; rfl, fun x hx => ?_, by rw [upd_same, List.map_append]; rfl, D2.put ld lr lc, fun b o e n1 n2 => ?_⟩
      · rcases List.mem_append.mp hx with z | z
        · exact hp x z
        · rw [List.mem_singleton.mp z]; exact hk
      · rw [upd_ne (ne_of_none e nl)]
        exact E2 b o (E1 b o e n1 n2) n1 n2
  · rintro H' ⟨ss, hl, hp, hs, D1, E1⟩
    exact hq l ss H' hl hp nl hs D1 E1
section
variable {σ : L2.St} {H : Hp} {D : Ends} {te : TE} {Q : VK}
theorem r_aug {i : Nat} {ti : TIp} {x : V} (e : σ[i]? = some (some x)) (h : te σ H fun y H1 => ti x y H1 fun z H2 => D.nx (σ.set i (some z)) H2) : tAug i te ti D σ H := ⟨x, e, h⟩
theorem r_ext2 {l b : Addr} {xs zs : List V} (h1 : H l = some (.lst xs)) (h2 : H b = some (.lst zs)) (hz : xs.length + zs.length ≤ 1000) (h : Q (.ref l) (upd H l (.lst (xs ++ zs)))) : rExt2 (.ref l) (.ref b) H Q := ⟨l, b, xs, zs, rfl, rfl, h1, h2, Nat.le_of_lt (small1000 hz), h⟩
theorem r_ipI {f : Int → Int → Int} {i j : Int} (h : Q (.int (f i j)) H) : ipI f (.int i) (.int j) H Q := ⟨i, j, rfl, rfl, h⟩
end
/-! ### operators of own classes: by the class's own def -/
section
open PySem.W
variable {prog : Program} {w : World} {A : Around} {E : Value → Shared → Prop} {s : Shared} {K : PySem.W.Frag} {x C f : Addr} {ox : Obj} {od : Option Obj} {b tb : Value}
theorem check_obj {M : Model} {rest : List Value} {Q : Unit → Shared → Prop} (X : K.In s.heap) (I : InstAt s.heap x ox C od) (hob : subIn K (.ref C) (.type "object") = some true) (ha : argsOk "object.__ne__" ⟨.ref x :: rest, []⟩) (hq : Q () s) :
    wpAny M A (checkBuiltinCall "object.__ne__" ⟨.ref x :: rest, []⟩) Q E s := by
  simp only [checkBuiltinCall, F.cmpKind_ne, F.cmpSplit_ne]
  refine wpAny_bind ?_
  unfold isInstance
  refine wpAny_bind (I.type.here ((looks_subIn X hob).here ?_))
  simp only [Bool.not_true, Bool.false_eq_true, if_false]
  cases hsig : Manifest.signature? "object.__ne__" with
  | none => exact wpAny_pure hq
  | some sig =>
    simp only [argsOk, hsig] at ha
    show wpAny M A (Bind.checkArgs "object.__ne__" sig ⟨.ref x :: rest, []⟩) Q E _
    rw [show Bind.checkArgs "object.__ne__" sig ⟨.ref x :: rest, []⟩ = pure () from ha]
    exact wpAny_pure hq
theorem bound_ne {M : Model} {args : List Value} {Q : Option Value → Shared → Prop} (X : K.In s.heap) (I : InstAt s.heap x ox C od) (hs : findIn K (.ref C) "__ne__" = some (some (.builtin "object.__ne__")))
    (h : wpAny M A (call (.builtin "object.__ne__") (.ref x :: args)) (fun v => Q (some v)) E s) : wpAny M A (callSpecialIfBound? (.ref x) "__ne__" args) Q E s := by
  simp only [callSpecialIfBound?, bindSpecialIfBound?]
  have hb : bindSpecial (.builtin "object.__ne__") (.ref x) = pure (.builtin "object.__ne__", [.ref x]) := F.cmp_object.ne.bind _
  have fin : wpAny M A (call (.builtin "object.__ne__") ([.ref x] ++ args) >>= fun v => pure (some v)) Q E s := wpAny_bind (wpAny_mono h (fun v s' h' => wpAny_pure h') fun _ _ h' => h')
  refine wpAny_holding (wpAny_bind (wpAny_bind (wpAny_bind (I.type.here ((looks_findIn X hs).here ?_)))))
  refine wpAny_bind (wpAny_askSetting (wpAny_ite ?_))
  rw [hb]
  split
  · exact wpAny_bind (wpAny_pure (wpAny_pure (by exact fin)))
  · exact wpAny_tryCatch (wpAny_bind (wpAny_pure (wpAny_pure (by exact fin))))
theorem ne_own {Q : Value → Shared → Prop} (hu : A.units + 1 < cLine) (X : K.In s.heap) (I : InstAt s.heap x ox C od) (hb : Looks (model prog w) s.heap (typeOf b) tb) (hn : notFirst K C tb = true)
    (hne : findIn K (.ref C) "__ne__" = some (some (.builtin "object.__ne__"))) (hob : subIn K (.ref C) (.type "object") = some true) (hs : findIn K (.ref C) "__eq__" = some (some (.ref f))) (hf : isFn K (.ref f) = true)
    (h : wpAny (model prog w) A.in1 (call (.ref f) [.ref x, b]) (fun v s' => ∃ k, v = .bool k ∧ Q (.bool (!k)) s') E s) : wpAny (model prog w) A (richCompare .NotEq (.ref x) b) Q E s := by
  have one : wpAny (model prog w) A (tryCompare (.ref x) (cmpInfo .NotEq).2.1 b) (fun r s' => ∃ v, r = some v ∧ Q v s') E s := by
    unfold tryCompare
    refine wpAny_bind (bound_ne X I hne (wpAny_call (codeAny_call_builtin F.cmp_object.ne.plain F.cmpEntry_ne (check_obj X I hob (F.cmpArgs_ne _ _) ?_))))
    unfold Builtin.«object.__ne__»
    repeat (first
      | with_reducible refine wpAny_cRoomFor hu ?_
      | (refine wpAny_bind (m := callSpecialIfBound? (.ref x) (Str.ofString "__eq__") [b])
          (ifBound_K X I hs hf (wpAny_mono h (fun r s' hr => by
            obtain ⟨k, rfl, hq⟩ := hr
            repeat (first | exact wpAny_pure ⟨_, rfl, hq⟩ | (refine wpAny_bind (m := truthy (.bool _)) (wpAny_truthy_bool ?_)) | wp_step)) fun _ _ e => e)))
      | wp_step)
  unfold richCompare
  simp only [oneThing_ref]
  refine wpAny_holding (wpAny_bind (wpAny_cRoomFor (Nat.lt_of_succ_lt hu) ?_))
  refine wpAny_bind (I.type.here (wpAny_bind (hb.here ?_)))
  split
  · rename_i q
    have e : subIn K tb (.ref C) = some false := by
      rcases Bool.or_eq_true_iff.mp hn with e | e
      · rw [beq_iff_eq.mp e] at q; simp at q
      · exact beq_iff_eq.mp e
    refine wpAny_bind ((looks_subIn X e).here ?_)
    simp only [Bool.false_eq_true, if_false]
    refine wpAny_bind (wpAny_mono one (fun r s' z => ?_) fun _ _ e => e)
    obtain ⟨v, rfl, hq⟩ := z
    exact wpAny_pure hq
  · refine wpAny_bind (wpAny_pure ?_)
    simp only [Bool.false_eq_true, if_false]
    refine wpAny_bind (wpAny_mono one (fun r s' z => ?_) fun _ _ e => e)
    obtain ⟨v, rfl, hq⟩ := z
    exact wpAny_pure hq
theorem neg_own {M : Model} {Q : Value → Shared → Prop} (X : K.In s.heap) (I : InstAt s.heap x ox C od) (hs : findIn K (.ref C) "__neg__" = some (some (.ref f))) (hf : isFn K (.ref f) = true)
    (h : wpAny M A (call (.ref f) [.ref x]) Q E s) : wpAny M A (unaryOp .USub (.ref x)) Q E s := by
  unfold unaryOp
  refine wpAny_holding ?_
  dsimp only
  rw [if_neg (by decide)]
  exact wpAny_bind (special_fn X I hs (beq_iff_eq.mp hf) (wpAny_mono h (fun _ _ z => wpAny_pure z) fun _ _ z => z))
end
section
variable {X : Cx} {CX : CXT} {k : Nat} {g C : Addr} {fd : FuncData} {ps : List Str} {sp : Sp} {E : XK}
theorem cmpb {P : Value → Shared → Prop} {z : V} {v : Value} {s' : Shared} (r : RelV z v) (h : P v s') : PySem.W.CmpBack P v s' := by
  cases z with
  | non => cases (show v = Value.none from r); exact h
  | bl b => cases (show v = Value.bool b from r); exact h
  | int i => obtain ⟨t, rfl⟩ := (show ∃ t, v = Value.int i t from r); exact h
  | str x => obtain ⟨t, rfl⟩ := (show ∃ t, v = Value.str x t from r); exact h
  | byt b => obtain ⟨t, rfl⟩ := (show ∃ t, v = Value.bytes b t from r); exact h
  | flt b => obtain ⟨t, rfl⟩ := (show ∃ t, v = Value.float b t from r); exact h
  | ref a => cases (show v = Value.ref a from r); exact h
  | ty n => cases (show v = Value.type n from r); exact h
/-- what an own operator of the class at C asks: the left one is an instance, the right one's type is known and not below C -/
def rCmpO (K : PySem.W.Frag) (C : Addr) (sp : Sp) (E : XK) : R2 := fun x y H Q => ∃ a dx fs t, x = .ref a ∧ H a = some (.ins C dx fs) ∧ TyX K H y t ∧ PySem.W.notFirst K C t = true ∧ sp [x, y] H Q E
def rNeO (K : PySem.W.Frag) (C : Addr) (sp : Sp) (E : XK) : R2 := fun x y H Q => ∃ a dx fs t, x = .ref a ∧ H a = some (.ins C dx fs) ∧ TyX K H y t ∧ PySem.W.notFirst K C t = true ∧ sp [x, y] H (fun v H' => ∃ b, v = .bl b ∧ Q (.bl (!b)) H') E
def rAddO (C : Addr) (sp : Sp) (E : XK) : R2 := fun x y H Q => ∃ a dx fs b dy gs, x = .ref a ∧ y = .ref b ∧ H a = some (.ins C dx fs) ∧ H b = some (.ins C dy gs) ∧ sp [x, y] H Q E
def rNegO (C : Addr) (sp : Sp) (E : XK) : V → Hp → VK → Prop := fun x H Q => ∃ a dx fs, x = .ref a ∧ H a = some (.ins C dx fs) ∧ sp [x] H Q E
theorem inst_at {pins : List (Addr × Obj)} {σ : L2.St} {H : Hp} {s : Shared} {a dx : Addr} {fs : List (Str × V)} (I : Inv X pins σ H s) (h : H a = some (.ins C dx fs)) : ∃ ox od, PySem.W.InstAt s.heap a ox C od := by
  obtain ⟨mA, O, _⟩ := ins_get I.hok h
  obtain ⟨od, J, _⟩ := O.look
  exact ⟨_, _, J⟩
theorem op_cmpO {op : CmpOp} (hop : ∀ a b, compareOp op a b = richCompare op a b) (hs : PySem.W.findIn X.K (.ref C) (cmpInfo op).2.1 = some (some (.ref g))) (hf : PySem.W.isFn X.K (.ref g) = true) (F : FnOk X.prog X.w X.K X.mg X.base CX k g fd ps sp) (hr : Room k X.A) (hb : Binds X.K fd ps []) (hx : Passes CX X E) :
    OpR X (compareOp op) (rCmpO X.K C sp E) := by
  intro pins s σ H x y v u Q I rx ry h
  obtain ⟨a, dx, fs, t, rfl, ha, ty, hn, q⟩ := h
  cases (show v = Value.ref a from rx)
  obtain ⟨ox, od, J⟩ := inst_at I ha
  obtain ⟨P, Z, p, _⟩ := kit_of I ry ty
  obtain ⟨m, hF⟩ := I.fr
  rw [hop]
  refine PySem.W.cmp_K (op := op) (tb := t) hr.units0 hF I.ok.mod.kin J (Z.ty _ _ I.kIn p) hn hs hf ?_
  refine wpAny_mono (run_fn (ds := []) (dvs := []) (vs := [.ref a, y]) F hr hb .nil hx I (.cons rfl (.cons ry .nil)) (by rw [List.append_nil]; exact q)) (fun w s' z => ?_) fun _ _ e => e
  obtain ⟨z', H', I', rz, qz⟩ := z
  exact cmpb rz ⟨z', H', I', rz, qz⟩
theorem op_eqO (hs : PySem.W.findIn X.K (.ref C) "__eq__" = some (some (.ref g))) (hf : PySem.W.isFn X.K (.ref g) = true) (F : FnOk X.prog X.w X.K X.mg X.base CX k g fd ps sp) (hr : Room k X.A) (hb : Binds X.K fd ps []) (hx : Passes CX X E) :
    OpR X (compareOp .Eq) (rCmpO X.K C sp E) := op_cmpO (fun _ _ => rfl) hs hf F hr hb hx
theorem op_neO (hs : PySem.W.findIn X.K (.ref C) "__eq__" = some (some (.ref g))) (hf : PySem.W.isFn X.K (.ref g) = true) (hne : PySem.W.findIn X.K (.ref C) "__ne__" = some (some (.builtin "object.__ne__"))) (hob : PySem.W.subIn X.K (.ref C) (.type "object") = some true)
    (F : FnOk X.prog X.w X.K X.mg X.base CX k g fd ps sp) (hr : Room (k + 1) X.A) (hb : Binds X.K fd ps []) (hx : Passes CX X E) : OpR X (compareOp .NotEq) (rNeO X.K C sp E) := by
  intro pins s σ H x y v u Q I rx ry h
  obtain ⟨a, dx, fs, t, rfl, ha, ty, hn, q⟩ := h
  cases (show v = Value.ref a from rx)
  obtain ⟨ox, od, J⟩ := inst_at I ha
  obtain ⟨P, Z, p, _⟩ := kit_of I ry ty
  have hu := hr.units
  show wpAny _ _ (richCompare .NotEq _ _) _ _ _
  refine ne_own (by omega) I.kIn J (Z.ty _ _ I.kIn p) hn hne hob hs hf ?_
  have r2 : Vals [V.ref a, y] [Value.ref a, u] := .cons rfl (.cons ry .nil)
  have hl : ([Value.ref a, u] ++ []).length = ps.length := by
    rw [List.append_nil, ← r2.length]
    exact F.len _ _ _ _ q
  refine wpAny_call (codeAny_mono (F.run X.A.in1 X.stack s H ⟨[.ref a, u], []⟩ [.ref a, u] _ _ E hr.in1 I.env0.in1 (by have z := hb s [.ref a, u] I.kIn hl; rw [List.append_nil] at z; exact z) r2 q) fun r s' hq => ?_)
  cases r with
  | error e => exact hx pins σ H s e s' I hq
  | ok fl =>
    cases fl with
    | ret z =>
      obtain ⟨v', H', I', rv, b, rfl, qz⟩ := I.after hq
      cases rv
      exact ⟨b, rfl, .bl (!b), H', I', rfl, qz⟩
    | next => exact False.elim hq
    | brk => exact False.elim hq
    | cont => exact False.elim hq
theorem op_binO {op : Operator} (hc : PySem.W.selfFirst X.K C = true) (hs : PySem.W.findIn X.K (.ref C) (PySem.dunder op.info.2) = some (some (.ref g))) (hf : PySem.W.isFn X.K (.ref g) = true) (F : FnOk X.prog X.w X.K X.mg X.base CX k g fd ps sp) (hr : Room k X.A) (hb : Binds X.K fd ps []) (hx : Passes CX X E) :
    OpR X (binaryOp op) (rAddO C sp E) := by
  intro pins s σ H x y v u Q I rx ry h
  obtain ⟨a, dx, fs, b, dy, gs, rfl, rfl, ha, hb', q⟩ := h
  cases (show v = Value.ref a from rx)
  cases (show u = Value.ref b from ry)
  obtain ⟨ox, od, J⟩ := inst_at I ha
  obtain ⟨oy, oe, J'⟩ := inst_at I hb'
  obtain ⟨m, hF⟩ := I.fr
  refine PySem.W.binop_K (op := op) hF I.ok.mod.kin J J'.type hc hs hf ?_
  refine wpAny_mono (run_fn (ds := []) (dvs := []) (vs := [.ref a, .ref b]) F hr hb .nil hx I (.cons rfl (.cons rfl .nil)) (by rw [List.append_nil]; exact q)) (fun w s' z => ?_) fun _ _ e => e
  obtain ⟨z', H', I', rz, qz⟩ := z
  exact cmpb rz ⟨z', H', I', rz, qz⟩
theorem un_negO (hs : PySem.W.findIn X.K (.ref C) "__neg__" = some (some (.ref g))) (hf : PySem.W.isFn X.K (.ref g) = true) (F : FnOk X.prog X.w X.K X.mg X.base CX k g fd ps sp) (hr : Room k X.A) (hb : Binds X.K fd ps []) (hx : Passes CX X E) :
    UnR X (unaryOp .USub) (rNegO C sp E) := by
  intro pins s σ H x v Q I rx h
  obtain ⟨a, dx, fs, rfl, ha, q⟩ := h
  cases (show v = Value.ref a from rx)
  obtain ⟨ox, od, J⟩ := inst_at I ha
  exact neg_own I.kIn J hs hf (run_fn (ds := []) (dvs := []) (vs := [.ref a]) F hr hb .nil hx I (.cons rfl .nil) (by rw [List.append_nil]; exact q))
/-- v in x, x of an own class with its own __contains__, which hands back a truth -/
def rInO (C : Addr) (sp : Sp) (E : XK) : R2 := fun x y H Q => ∃ a dx fs, y = .ref a ∧ H a = some (.ins C dx fs) ∧ sp [y, x] H (fun v H' => ∃ b, v = .bl b ∧ Q (.bl b) H') E
theorem op_inO (hs : PySem.W.findIn X.K (.ref C) "__contains__" = some (some (.ref g))) (hf : PySem.W.isFn X.K (.ref g) = true) (F : FnOk X.prog X.w X.K X.mg X.base CX k g fd ps sp) (hr : Room k X.A) (hb : Binds X.K fd ps []) (hx : Passes CX X E) :
    OpR X (compareOp .In) (rInO C sp E) := by
  intro pins s σ H x y v u Q I rx ry h
  obtain ⟨a, dx, fs, rfl, ha, q⟩ := h
  cases (show u = Value.ref a from ry)
  obtain ⟨ox, od, J⟩ := inst_at I ha
  obtain ⟨m, hF⟩ := I.fr
  refine PySem.W.in_K hF I.ok.mod.kin J hs hf (wpAny_mono (run_fn (ds := []) (dvs := []) (vs := [.ref a, x]) F hr hb .nil hx I (.cons rfl (.cons rx .nil)) (by rw [List.append_nil]; exact q)) (fun w s' z => ?_) fun _ _ e => e)
  obtain ⟨z', H', I', rz, b, rfl, qz⟩ := z
  cases rz
  exact wpAny_truthy_bool ⟨.bl b, H', I', rfl, qz⟩
end
/-! ### fields, methods, new instances -/
section
variable {σ : L2.St} {H : Hp} {Q : VK} {K : PySem.W.Frag} {te ta tv : TE} {a C dx : Addr} {fs : List (Str × V)} {f : Str} {v : V} {D : Ends}
theorem r_fld (h : ta σ H fun x H1 => ∃ a C dx fs v, x = .ref a ∧ H1 a = some (.ins C dx fs) ∧ Cls K C ∧ NoAttr K C f ∧ fs.lookup f = some v ∧ Q v H1) : tFld K ta f σ H Q := h
theorem r_get {F : V → Prop} (e : H a = some (.ins C dx fs)) (c : Cls K C) (n : NoAttr K C f) (l : fs.lookup f = some v) (h : F v) : ∃ a' C dx fs v, V.ref a = .ref a' ∧ H a' = some (.ins C dx fs) ∧ Cls K C ∧ NoAttr K C f ∧ fs.lookup f = some v ∧ F v := ⟨a, C, dx, fs, v, rfl, e, c, n, l, h⟩
theorem r_sfld (h : tv σ H fun y H1 => ta σ H1 fun x H2 => ∃ a C dx fs, x = .ref a ∧ H2 a = some (.ins C dx fs) ∧ Cls K C ∧ NoAttr K C f ∧ fs.length < 1000 ∧ D.nx σ (upd H2 a (.ins C dx (putF f y fs)))) : sFld K ta tv f D σ H := h
theorem r_put {F : Hp → Prop} {y : V} (e : H a = some (.ins C dx fs)) (c : Cls K C) (n : NoAttr K C f) (l : fs.length < 1000) (h : F (upd H a (.ins C dx (putF f y fs)))) : ∃ a' C dx fs, V.ref a = .ref a' ∧ H a' = some (.ins C dx fs) ∧ Cls K C ∧ NoAttr K C f ∧ fs.length < 1000 ∧ F (upd H a' (.ins C dx (putF f y fs))) := ⟨a, C, dx, fs, rfl, e, c, n, l, h⟩
theorem r_meth {m : Str} {sp : Sp} {dvs : List V} {E : XK} {ts : TA} (h : ta σ H fun x H1 => ∃ a dx fs, x = .ref a ∧ H1 a = some (.ins C dx fs) ∧ fs.lookup m = none ∧ ts σ H1 fun vs H2 => sp (x :: (vs ++ dvs)) H2 Q E) : tMeth C m sp dvs E ta ts σ H Q := h
theorem r_who {m : Str} {A : Prop} (e : H a = some (.ins C dx fs)) (l : fs.lookup m = none) (h : A) : ∃ a' dx fs, V.ref a = .ref a' ∧ H a' = some (.ins C dx fs) ∧ fs.lookup m = none ∧ A := ⟨a, dx, fs, rfl, e, l, h⟩
theorem r_make {sp : Sp} {dvs : List V} {E : XK} {ts : TA} (h : ts σ H fun vs H1 => ∀ x dx, H1 x = none → H1 dx = none → dx ≠ x → sp (.ref x :: (vs ++ dvs)) (upd (upd H1 dx (.own x)) x (.ins C dx [])) (fun v H2 => v = .non ∧ Q (.ref x) H2) E) : tMake C sp dvs E ts σ H Q := h
end
theorem same_make {H H' : Hp} {x dx C : Addr} (nx : H x = none) (nd : H dx = none) (s : ∀ b o, (upd (upd H dx (.own x)) x (.ins C dx [])) b = some o → b ≠ x → H' b = some o) : Same H H' := fun b o e =>
  s b o (by rw [upd_ne (ne_of_none e nx), upd_ne (ne_of_none e nd)]; exact e) (ne_of_none e nx)
/-! ### defs that may ask repr of lists and tuples: called where no repr is under way -/
structure FnG (P : Program) (w : World) (K : PySem.W.Frag) (mg : Str → Option Value) (base : Heap) (CX : CXT) (k : Nat) (f : Addr) (fd : FuncData) (ps : List Str) (sp : Sp) : Prop where
  len : ∀ vs H Q E, sp vs H Q E → vs.length = ps.length
  run : ∀ (A : Around) (outer : List Env) (s : Shared) (H : Hp) (args : Args) (us : List Value) (vs : List V) (Q : VK) (E : XK), A.guards = some [] → Room k A → Env0 P w K mg base A outer s H →
    BindsTo s fd args (ps.zip us) → Vals vs us → sp vs H Q E → codeAny (model P w) A (.call (.ref f) args) (CR CX outer P w H s Q E) s
section
variable {P : Program} {w : World} {K : PySem.W.Frag} {mg : Str → Option Value} {base : Heap}
theorem okG {x qual : Str} {st : Stmt} {f : Addr} {fd : FuncData} {N ps : List Str} {k : Nat} {sp : Sp} (F : Fun K x qual st f fd) (S : FnScope N ps (defScope st)) (len : ∀ vs H Q E, sp vs H Q E → vs.length = ps.length)
    (hbody : ∀ (cdv : Value) (A : Around) (outer : List Env) (s : Shared) (H : Hp) (vs : List V) (Q : VK) (E : XK), A.guards = some [] → Room k (A.deeper (envOfC qual (defScope st) s.heap.objs.size f cdv)) → sp vs H Q E →
      ∃ t, PSs (cxOf CX0 P w K mg base N qual (defScope st) f cdv A outer s H E).nox (defBody st) t ∧ t { nx := fun _ H' => Q .non H', rt := Q } (start N vs) H) : FnG P w K mg base CX0 (k + 1) f fd ps sp := by
  obtain ⟨oc, od, kV, doc, pm, an, cdv, ct, osl, rfl, lk, hcd⟩ := F.ex
  refine ⟨len, fun A outer s H args us vs Q E hG hr e0 hb r hsp => ?_⟩
  -- the body's reading is kept for this around alone: elsewhere the promise is not asked
  have inn : K.In s.heap := e0.mod.kin.keeps fun b o e => (e0.bs b o e).1
  have nol : s.heap.NoLimit := e0.mod.nolimit.keeps fun b o e => (e0.bs b o e).1
  have par : ∀ y ∈ ps.zip us, (defScope st).names.lookup y.1 = some .local ∨ ((defScope st).names.lookup y.1 = some .cell ∧ ((cellsFrom (s.heap.objs.size + 1) (defScope st).names []).lookup y.1).isSome = true) := by
    intro y hy
    have hm : y.1 ∈ ps := (List.of_mem_zip (show (y.1, y.2) ∈ ps.zip us from hy)).1
    exact (S.par y.1 hm).imp (fun z => z) fun z => ⟨z, PySem.W.cellsFrom_some _ _ _ (.inl z)⟩
  obtain ⟨t, ht, hq⟩ := hbody cdv A outer s H vs Q E hG (hr.deeper _) hsp
  refine codeAny_call_function hr.depth (inn _ _ lk) rfl S.co S.gen rfl (PySem.W.codeRec_of inn hcd) (hb _ _ _ _ ?_)
  refine wpAny_newFunctionEnv_cells S.kind par fun env he s1 x => ?_
  subst he
  refine ⟨nol.keeps x.toInCall.keep, codeAny_func ?_⟩
  have I := inv_start (CX := CX0) (E := E) S hr.hd e0 (len _ _ _ _ hsp) r x
  refine wpAny_mono (ht.nox.run [] s1 (start N vs) H _ I hq) (fun fl s' hs => ?_) fun e s' hs => hs
  cases fl with
  | ret u =>
    obtain ⟨v, σ', H', J, rv, q⟩ := hs
    exact ⟨v, H', J.os, J.bare, J.base, J.hok, rv, q⟩
  | next =>
    obtain ⟨σ', H', J, q⟩ := hs
    exact ⟨V.non, H', J.os, J.bare, J.base, J.hok, rfl, q⟩
  | brk => exact False.elim hs.choose_spec.choose_spec.2
  | cont => exact False.elim hs.choose_spec.choose_spec.2
theorem deeper_guards {A : Around} {env : Env} (h : A.guards = some []) : (A.deeper env).guards = some [] := h
end
section
variable {X : Cx} {CX : CXT} {k : Nat} {f : Addr} {fd : FuncData} {ps : List Str} {sp : Sp} {dvs : List V} {ds : List Value} {E : XK} {x : Str} {p pos : Pos} {e : Expr} {es : List Expr} {t : TA}
theorem pe_callG (hG : X.A.guards = some []) (F : FnG X.prog X.w X.K X.mg X.base CX k f fd ps sp) (hr : Room k X.A) (hg : Gl X x) (hm : X.mg x = some (.ref f)) (hk : PySem.W.keepIn X.K (.ref f) = true) (hb : Binds X.K fd ps ds) (hd : Vals dvs ds) (hx : Passes CX X E)
    (ha : PA X (e :: es) t) (hdb : (x == ("__debug__" : Str)) = false := by decide) (he : starEach (e :: es) X.env = (false, eval e X.env) :: starEach es X.env := by rfl) (hpl : (backTo pos (starEach es X.env)).any (fun q => q.1) = false := by rfl) :
    PE X (.Call (.Name x p) (e :: es) [] pos) (tCall sp dvs E t) := by
  refine ⟨fun pins s σ H Q I h => wpAny_Call_Name_kw (ld_glob I hg hm ?_ hdb)⟩
  refine PySem.W.callWith_K (h₀ := X.base) I.ok.mod.kin hk (thn (ha.run pos pins s σ H _ I h) fun us s1 hh => ?_) he hpl
  obtain ⟨vs, H1, I1, r, q⟩ := hh
  refine ⟨I1.kIn, ?_⟩
  have r2 : Vals (vs ++ dvs) (us ++ ds) := r.append hd
  have hl : (us ++ ds).length = ps.length := by rw [← r2.length]; exact F.len _ _ _ _ q
  refine wpAny_call (codeAny_mono (F.run X.A X.stack s1 H1 ⟨us, []⟩ (us ++ ds) (vs ++ dvs) Q E hG hr I1.env0 (hb s1 us I1.kIn hl) r2 q) fun r s' hq => ?_)
  match r, hq with
  | .error e, hq => exact hx pins σ H1 s1 e s' I1 hq
  | .ok (.ret u), hq => exact I1.after hq
  | .ok .next, hq => exact False.elim hq
  | .ok .brk, hq => exact False.elim hq
  | .ok .cont, hq => exact False.elim hq
/-- repr of a list or a tuple of plain things -/
def rRepr (K : PySem.W.Frag) : List V → Hp → VK → Prop := fun xs H Q => ∃ (a : Addr) (d : PyData), xs = [.ref a] ∧ Dp K H (.ref a) d ∧ d.showable = true ∧ d.hasDict = false ∧ d.depth ≤ 20 ∧ d.shown.length ≤ sizeLine ∧ Q (.str d.shown) H
theorem call_repr (hG : X.A.guards = some []) (hu : X.A.units + 64 < cLine) : CallR X (.builtin "repr") (rRepr X.K) := by
  intro pins s σ H xs us Q I r h
  obtain ⟨a, d, rfl, hd, hs, hn, hdp, hz, q⟩ := h
  obtain ⟨u, rfl, ru⟩ := vals1 r
  cases (show u = Value.ref a from ru)
  obtain ⟨as, rd⟩ := Dp.reads I d _ _ hd rfl
  exact repr_of_reads' rd hs (fun z => by rw [hn] at z; cases z) hG (by omega) (fun _ _ z => z) (fun h' u tk hk => ⟨.str d.shown, H, I.kept hk, ⟨u, rfl⟩, q⟩) hz
end
/-! ### the law's own call, of a def of that kind -/
section
variable {P : Program} {w : World} {K : PySem.W.Frag} {mg mb : Str → Option Value} {k : Nat} {fa a : Addr} {fd : FuncData} {x : Str} {sp : Sp} {s : Shared} {vs : List Value} {ns : List Int}
/-- the script alone may be tracked: where it is, what of it is known -/
structure Alone (P : Program) (w : World) (K : PySem.W.Frag) (s : Shared) (a : Addr) (ns : List Int) (H : Hp) : Prop where
  only : Only H
  seq : SqL K H a (ns.map V.int)
  ok : HOk P w H s.heap
  at_ : ∀ b u, H b = some u → b = a
  out : ∀ u, H a = some u → K.lookup a = none
theorem alone_ex (inn : K.In s.heap) (ha : s.heap.get? a = some { cls := .type "list", data := .seq vs.toArray }) (hi : IntsAre vs ns) (hl : ns.length ≤ sizeLine) : ∃ H, Alone P w K s a ns H := by
  have rv := vals_ints hi
  cases hk : K.lookup a with
  | some o =>
    obtain rfl : o = { cls := .type "list", data := .seq vs.toArray } := Option.some.inj ((inn a o hk).symm.trans ha)
    refine ⟨fun _ => none, fun _ => .inl rfl, .inr ⟨_, vs.toArray, _, hk, rfl, rfl, rfl, ?_, ?_⟩, fun _ _ z => (by cases z), fun _ _ z => (by cases z), fun _ z => (by cases z)⟩
    · rw [List.size_toArray, hi.length]; exact hl
    · rw [List.toList_toArray]; exact rv
  | none =>
    have one : ∀ b u, (upd (fun _ => none) a (.frz { cls := .type "list", data := .seq vs.toArray } (.lst (ns.map V.int)))) b = some u → b = a := fun b u z => by
      by_cases hb : b = a
      · exact hb
      · rw [upd_ne hb] at z; cases z
    refine ⟨upd (fun _ => none) a (.frz { cls := .type "list", data := .seq vs.toArray } (.lst (ns.map V.int))), fun b => ?_, .inl (.inr ⟨_, upd_same⟩), fun b u z => ?_, one, fun _ _ => hk⟩
    · by_cases hb : b = a
      · subst hb; exact .inr ⟨_, _, upd_same⟩
      · exact .inl (upd_ne hb)
    · obtain rfl := one b u z
      rw [upd_same] at z
      cases z
      exact ⟨ha, by rw [List.length_map]; exact hl, vs, _, rv, ha⟩
theorem law_callG (inn : K.In s.heap) (hns : s.heap.Ns mainGlobals mg) (hb : s.heap.Ns builtinsNs mb) (hbb : ∀ x : Str, x ≠ "__name__" → mb x = bootBuiltins x) (hlim : s.heap.NoLimit) (hg : s.gens = #[])
    (ha : s.heap.get? a = some { cls := .type "list", data := .seq vs.toArray }) (hi : IntsAre vs ns) (hl : ns.length ≤ sizeLine) (hr : Room k callerA)
    (F : ∀ base : Heap, K.In base → base.Ns mainGlobals mg → FnG P w K mg base CX0 k fa fd [x] sp) (hbind : ∀ (s : Shared) (u : Value), BindsTo s fd ⟨[u], []⟩ [(x, u)])
    (hsp : ∀ H : Hp, Only H → SqL K H a (ns.map V.int) → sp [.ref a] H (fun v _ => v = .bl true) fun _ _ _ => False) :
    codeAny (model P w) callerA (.call (.ref fa) ⟨[.ref a], []⟩) (fun r s' => r = .ok (.ret (.bool true)) ∧ OldK s.heap s'.heap ∧ s'.os = s.os ∧ AllBare s'.gens) s := by
  obtain ⟨H, N⟩ := alone_ex (P := P) (w := w) inn ha hi hl
  -- a dict is not the script: it is not tracked
  have free : ∀ {b : Addr} {o : Obj}, s.heap.get? b = some o → (∀ its n, o.data ≠ .seq its n) → H b = none := fun {b o} e z => by
    cases q : H b with
    | none => rfl
    | some u =>
      obtain rfl := N.at_ b u q
      rw [ha] at e
      cases e
      exact absurd rfl (z _ _)
  have space : ∀ {b : Addr} {m : Str → Option Value}, s.heap.Ns b m → (hidT s.heap H).Ns b m := fun {b m} z => by
    obtain ⟨o, es, ep, e, d, r⟩ := z
    exact ⟨o, es, ep, hidT_get e (free e fun _ _ y => by rw [d] at y; cases y), d, r⟩
  have inb : K.In (hidT s.heap H) := fun b o e => hidT_get (inn b o e) (by
    cases q : H b with
    | none => rfl
    | some u =>
      obtain rfl := N.at_ b u q
      rw [N.out u q] at e
      cases e)
  have md : Mod K mg (hidT s.heap H) := by
    obtain ⟨mc, l1, l2⟩ := hlim
    exact ⟨inb, space hns, ⟨mb, space hb, hbb⟩, mc, space l1, l2⟩
  have e0 : Env0 P w K mg (hidT s.heap H) callerA [] s H := ⟨rfl, md, fun _ _ e => of_hidT e, Nat.le_of_eq (hidT_size _ _), trivial, fun _ z => (nomatch z), N.ok, .of_eq hg⟩
  refine codeAny_mono ((F _ inb (space hns)).run callerA [] s H ⟨[.ref a], []⟩ [.ref a] [.ref a] _ _ rfl hr e0 (hbind s (.ref a)) (.cons rfl .nil) (hsp H N.only N.seq)) fun r s' h => ?_
  match r, h with
  | .error e, h => exact False.elim h
  | .ok .next, h => exact False.elim h
  | .ok .brk, h => exact False.elim h
  | .ok .cont, h => exact False.elim h
  | .ok (.ret u), h =>
    obtain ⟨v, H', os, bare, un, ok', r', q⟩ := h
    obtain rfl : v = .bl true := q
    obtain rfl : u = Value.bool true := r'
    refine ⟨rfl, OldK.of_keep fun b o e => ?_, os, bare⟩
    cases q : H b with
    | none => exact un.keep b o e q (fun z => (nomatch z)) (fun z => (nomatch z))
    | some u =>
      rcases N.only b with z | ⟨ob, xs, z⟩
      · rw [q] at z; cases z
      · have e1 : s.heap.get? b = some ob := (show ObjOk P w H s.heap b (.frz ob (.lst xs)) from N.ok b _ z).1
        have e2 : s'.heap.get? b = some ob := (show ObjOk P w H' s'.heap b (.frz ob (.lst xs)) from ok' b _ (un.frzs b ob _ z)).1
        exact (Option.some.inj (e.symm.trans e1)) ▸ e2
end
theorem walk_ofG {l : PySem.W.OpenLaw} {n k : Nat} {q : Program} {loose : List Str} {XP : (Str → Option Value) → Heap → Prop} {YP : World → Heap → Prop} {d : DefRec} {K : Params → PySem.W.Frag} {sp : World → Sp} {x : Str}
    (hn : l.most = some n) (hn2 : n ≤ sizeLine) (hdf : d.params.defaults = []) (hr : Room k callerA) (hY : ∀ (w : World) (h : Heap), YP w h → (K w.params).In h)
    (F : ∀ (w : World) (mg : Str → Option Value) (fa : Addr) (h : Heap), (K w.params).In h → h.Ns mainGlobals mg → mg d.name = some (.ref fa) →
      ∃ fd : FuncData, (∀ (s : Shared) (u : Value), BindsTo s fd ⟨[u], []⟩ [(x, u)]) ∧ ∀ base : Heap, (K w.params).In base → base.Ns mainGlobals mg → FnG l.prog w (K w.params) mg base CX0 k fa fd [x] (sp w))
    (hsp : ∀ (w : World) (H : Hp) (a : Addr) (ns : List Int), ns.length ≤ n → Only H → SqL (K w.params) H a (ns.map V.int) → sp w [.ref a] H (fun v _ => v = .bl true) fun _ _ _ => False) :
    PySem.W.WalkO q loose XP YP l.row.toRowW d [] (fun f vs => PySem.call f vs) := by
  refine Att.attach_call hn hdf fun w s0 s1 mg mb fa o pm cd doc a vs ns G Y ho hd hcd hmg hobj hints hlen hg => ?_
  obtain ⟨fd, hb, hF⟩ := F w mg fa _ (hY w _ Y) G.T.g hmg
  exact law_callG (hY w _ Y) G.T.g G.T.b G.T.builtins G.T.nolimit hg hobj hints (Nat.le_trans hlen hn2) hr hF hb fun H hO hS => hsp w H a ns hlen hO hS
/-! ### new instances whose __init__ may raise, within a try: what is raised is wished for at the slots -/
section
variable {X : Cx} {CX : CXT} {k : Nat} {f C : Addr} {fd : FuncData} {ps ks : List Str} {sp : Sp} {x : Str} {p pos : Pos} {e : Expr} {es : List Expr} {kws : List Keyword} {t tk : TA} {g : List Value → List Value → List Value} {gV : List V → List V → List V}
theorem run_makeA {pins : List (Addr × Obj)} {σ : L2.St} {H : Hp} {s : Shared} {Q : VK} {E : XK} {us : List Value} {kw : List (Str × Value)} {fu : Value → List Value} {fv : V → List V} (M : Mk X.K C f) (F : FnOk X.prog X.w X.K X.mg X.base CX k f fd ps sp) (hr : Room (k + 1) X.A)
    (hb : ∀ (s' : Shared) (v : Value), X.K.In s'.heap → BindsTo s' fd ⟨v :: us, kw⟩ (ps.zip (fu v))) (rr : ∀ a : Addr, Vals (fv (.ref a)) (fu (.ref a))) (hx : PassesAt CX X σ E) (I : Inv X pins σ H s)
    (h : ∀ x dx, H x = none → H dx = none → dx ≠ x → sp (fv (.ref x)) (upd (upd H dx (.own x)) x (.ins C dx [])) (fun v H2 => v = .non ∧ Q (.ref x) H2) E) :
    wpAny (model X.prog X.w) X.A (call (.ref C) us kw) (EP X pins σ Q) X.xe s := by
  have I2 := Inv.made (C := C) I
  have hq := h (s.heap.objs.size + 1) s.heap.objs.size (I.hok.fresh (Nat.le_succ _)) (I.hok.fresh (Nat.le_refl _)) (Nat.ne_of_lt (Nat.lt_succ_self _))
  refine wpAny_call (make_map (f := f) I.kIn M.makes M.init (beq_iff_eq.mp M.fn) (codeAny_mono (F.run _ X.stack _ _ ⟨Value.ref (s.heap.objs.size + 1) :: us, kw⟩ (fu (.ref (s.heap.objs.size + 1))) (fv (.ref (s.heap.objs.size + 1))) _ E
    (hr.make C us kw) (I2.env0.make C us kw) (hb _ _ I2.kIn) (rr _) hq) fun r s' z => ?_))
  match r, z with
  | .error e, z => exact hx pins _ _ e s' I2 z
  | .ok .next, z => exact False.elim z
  | .ok .brk, z => exact False.elim z
  | .ok .cont, z => exact False.elim z
  | .ok (.ret u), z =>
    obtain ⟨v, H', I3, rv, rfl, q3⟩ := I2.after z
    exact ⟨rv, .ref (s.heap.objs.size + 1), H', I3, rfl, q3⟩
def tMakeS (C : Addr) (sp : Sp) (E : L2.St → XK) (t : TA) : TE := fun σ H Q => t σ H fun vs H1 => ∀ x dx, H1 x = none → H1 dx = none → dx ≠ x → sp (.ref x :: vs) (upd (upd H1 dx (.own x)) x (.ins C dx [])) (fun v H2 => v = .non ∧ Q (.ref x) H2) (E σ)
def tMakeKS (C : Addr) (m : Nat) (sp : Sp) (gV : List V → List V → List V) (E : L2.St → XK) (tk : TA) : TE := fun σ H Q => tk σ H fun zs H1 => zs.length = m ∧ ∀ x dx, H1 x = none → H1 dx = none → dx ≠ x → sp (gV [.ref x] zs) (upd (upd H1 dx (.own x)) x (.ins C dx [])) (fun v H2 => v = .non ∧ Q (.ref x) H2) (E σ)
theorem pe_makeS {E : L2.St → XK} (M : Mk X.K C f) (F : FnOk X.prog X.w X.K X.mg X.base CX k f fd ps sp) (hr : Room (k + 1) X.A) (hg : Gl X x) (hm : X.mg x = some (.ref C)) (hb : Binds X.K fd ps []) (hx : ∀ σ, PassesAt CX X σ (E σ)) (ha : PA X (e :: es) t)
    (hdb : (x == ("__debug__" : Str)) = false := by decide) (he : starEach (e :: es) X.env = (false, eval e X.env) :: starEach es X.env := by rfl) (hpl : (backTo pos (starEach es X.env)).any (fun q => q.1) = false := by rfl) :
    PE X (.Call (.Name x p) (e :: es) [] pos) (tMakeS C sp E t) := by
  refine ⟨fun pins s σ H Q I h => wpAny_Call_Name_kw (ld_glob I hg hm ?_ hdb)⟩
  refine PySem.W.callWith_K (h₀ := X.base) I.ok.mod.kin M.kp (thn (ha.run pos pins s σ H _ I h) fun us s1 hh => ?_) he hpl
  obtain ⟨vs, H1, I1, r, q⟩ := hh
  refine ⟨I1.kIn, ?_⟩
  have hq := q (s1.heap.objs.size + 1) s1.heap.objs.size (I1.hok.fresh (Nat.le_succ _)) (I1.hok.fresh (Nat.le_refl _)) (Nat.ne_of_lt (Nat.lt_succ_self _))
  have hl := F.len _ _ _ _ hq
  have hl2 : vs.length = us.length := r.length
  refine run_makeA (fu := fun v => v :: us) (fv := fun v => v :: vs) M F hr (fun s' v inn => ?_) (fun a => .cons rfl r) (hx σ) I1 q
  have z := hb s' (v :: us) inn (by rw [List.append_nil, List.length_cons, ← hl2]; exact hl)
  rw [List.append_nil] at z
  exact z
theorem pe_makeKS {E : L2.St → XK} (M : Mk X.K C f) (F : FnOk X.prog X.w X.K X.mg X.base CX k f fd ps sp) (hr : Room (k + 1) X.A) (hg : Gl X x) (hm : X.mg x = some (.ref C)) (hb : KBn X.K fd ps 1 ks g gV) (hx : ∀ σ, PassesAt CX X σ (E σ)) (hkw : PK X kws tk)
    (hall : (backToKw pos (keywordEach kws X.env)).all (fun q => q.1.isSome) = true := by rfl) (hks : (backToKw pos (keywordEach kws X.env)).filterMap (fun q => q.1) = ks := by rfl) (hdb : (x == ("__debug__" : Str)) = false := by decide)
    (hpl : ((backTo pos (starEach [] X.env)).any (fun q => q.1) || (backToKw pos (keywordEach kws X.env)).any (fun q => q.1.isNone)) = false := by rfl) :
    PE X (.Call (.Name x p) [] kws pos) (tMakeKS C ks.length sp gV E tk) := by
  refine ⟨fun pins s σ H Q I h => wpAny_Call_Name_kw (ld_glob I hg hm ?_ hdb)⟩
  refine PySem.W.callWith_KW0 (h₀ := X.base) I.ok.mod.kin M.kp hall (thn (hkw.run pos pins s σ H _ I h) fun ws s2 hh => ?_) hpl
  obtain ⟨zs, H2, I2, rz, l2, q2⟩ := hh
  refine ⟨I2.kIn, ?_⟩
  rw [hks]
  exact run_makeA (fu := fun v => g [v] ws) (fv := fun v => gV [v] zs) M F hr (fun s' v inn => hb.to s' [v] ws inn rfl (rz.length.symm.trans l2)) (fun a => hb.rel (.cons rfl .nil) rz) (hx σ) I2 q2
theorem kb_mk1 {K : PySem.W.Frag} {x qual : Str} {st : Stmt} {f : Addr} {fd : FuncData} {ps ks : List Str} {g : List Value → List Value → List Value} {gV : List V → List V → List V} (F : Fun K x qual st f fd)
    (h : ∀ (kV doc pm : Value) (an : Option Addr) (cdv ct : Value) (v : Value) (ws : List Value), ws.length = ks.length → bindArgs (PySem.W.fnOf x qual (defArgs st) (defBody st) (defScope st) .none kV doc pm an cdv ct) ⟨[v], ks.zip ws⟩ = pure (ps.zip (g [v] ws)))
    (hrel : ∀ {vs : List V} {us : List Value} {zs : List V} {ws : List Value}, Vals vs us → Vals zs ws → Vals (gV vs zs) (g us ws)) : KBn K fd ps 1 ks g gV := by
  obtain ⟨oc, od, kV, doc, pm, an, cdv, ct, osl, rfl, lk, hcd⟩ := F.ex
  refine ⟨fun s us ws _ l1 l2 => ?_, hrel⟩
  match us, l1 with
  | [v], _ => exact .of_eq (h kV doc pm an cdv ct v ws l2)
/-- isinstance(e, C), e the caught exception, where its class is C or below it -/
def rIsEp (K : PySem.W.Frag) (cls : Value) (a : Addr) : List V → Hp → VK → Prop := fun xs H Q => ∃ C' : Addr, xs = [.ref a, .ref C'] ∧ PySem.W.isIn K cls C' = true ∧ Q (.bl true) H
theorem call_isEp {a : Addr} {oe : Obj} {cls : Value} {d : Option Addr} {pn : List (Addr × Obj)} (hz : Zc cls d oe) : CallR (X.suite a ((a, oe) :: pn)) (.builtin "isinstance") (rIsEp X.K cls a) := by
  intro pins s σ H xs us Q I r h
  obtain ⟨C', rfl, e, q⟩ := h
  obtain ⟨u1, u2, rfl, r1, r2⟩ := vals2 r
  cases (show u1 = Value.ref a from r1)
  cases (show u2 = Value.ref C' from r2)
  obtain ⟨hget, _⟩ := I.pin (a, oe) (List.mem_append.mpr (.inl List.mem_cons_self))
  exact PySem.W.isi_call I.kIn (fun M A Q E s k q => wpAny_typeOf_ref (k _ _ hget) (by rw [hz.1]; exact q)) e (fun z => nomatch z) ⟨.bl true, H, I, rfl, q⟩
end
section
variable {σ : L2.St} {H : Hp} {Q : VK} {K : PySem.W.Frag} {C : Addr} {sp : Sp} {D : Ends}
theorem r_makeS {E : L2.St → XK} {t : TA} (h : t σ H fun vs H1 => ∀ x dx, H1 x = none → H1 dx = none → dx ≠ x → sp (.ref x :: vs) (upd (upd H1 dx (.own x)) x (.ins C dx [])) (fun v H2 => v = .non ∧ Q (.ref x) H2) (E σ)) : tMakeS C sp E t σ H Q := h
theorem r_makeKS {m : Nat} {gV : List V → List V → List V} {E : L2.St → XK} {tk : TA} (h : tk σ H fun zs H1 => zs.length = m ∧ ∀ x dx, H1 x = none → H1 dx = none → dx ≠ x → sp (gV [.ref x] zs) (upd (upd H1 dx (.own x)) x (.ins C dx [])) (fun v H2 => v = .non ∧ Q (.ref x) H2) (E σ)) : tMakeKS C m sp gV E tk σ H Q := h
theorem r_xf {a : Addr} {cls : Value} {d : Option Addr} {f : Str} {te : TE} (h : te σ H fun x H1 => x = .ref a ∧ cls = .ref C ∧ ∃ (dd : Addr) (fs : List (Str × V)) (v : V), d = some dd ∧ H1 dd = some (.xd fs) ∧ fs.lookup f = some v ∧ Q v H1) : tXf a cls d C f te σ H Q := h
theorem r_isEp {cls : Value} {a C' : Addr} (e : PySem.W.isIn K cls C' = true) (h : Q (.bl true) H) : rIsEp K cls a [.ref a, .ref C'] H Q := ⟨C', rfl, e, h⟩
/-- self.f = e in an exception's __init__: the first field, a later one -/
theorem r_ost {f : Str} {to te : TE} (h : te σ H fun y H1 => to σ H1 fun x H2 => ∃ a C : Addr, x = .ref a ∧ OexC K C ∧ PySem.W.findIn K (.ref C) f = some none ∧
  ((H2 a = some (exo a C none) ∧ ∀ dx, H2 dx = none → dx ≠ a → D.nx σ (upd (upd H2 dx (exd dx [(f, y)])) a (exo a C (some dx)))) ∨
    ∃ (dx : Addr) (fs : List (Str × V)), H2 a = some (exo a C (some dx)) ∧ H2 dx = some (exd dx fs) ∧ fs.length ≤ 900 ∧ D.nx σ (upd H2 dx (exd dx ((f, y) :: fs))))) : tOst K f to te D σ H := h
theorem r_ost1 {a : Addr} {f : Str} {F G : Addr → Addr → Prop} {Z : Addr → Addr → Prop} (T : OexC K C) (n : PySem.W.findIn K (.ref C) f = some none) (ha : H a = some (exo a C none)) (h : F a C) : ∃ a' C : Addr, V.ref a = .ref a' ∧ OexC K C ∧ PySem.W.findIn K (.ref C) f = some none ∧ ((H a' = some (exo a' C none) ∧ F a' C) ∨ G a' C) := ⟨a, C, rfl, T, n, .inl ⟨ha, h⟩⟩
end
/-! ### wrappers that name the written part: for comprehensions, try bodies, suites -/
section
variable {X : Cx} {K : PySem.W.Frag} {o e : Expr} {f : Str} {ta te : TE} {pos : Pos}
theorem pe_fldK (ha : PE X o ta) (hK : X.K = K := by rfl) (hb : attributeBase o f X.env (eval o X.env) = eval o X.env := by rfl) : PE X (.Attribute o f pos) (tFld K ta f) := by
  subst hK
  exact pe_fld ha hb
end
/-! ### a + b by an own def that may raise, within a try -/
def tBinS (C : Addr) (sp : Sp) (E : L2.St → XK) (ta tb : TE) : TE := fun σ H Q => ta σ H fun x H1 => tb σ H1 fun y H2 => ∃ a dx fs b dy gs, x = .ref a ∧ y = .ref b ∧ H2 a = some (.ins C dx fs) ∧ H2 b = some (.ins C dy gs) ∧ sp [x, y] H2 Q (E σ)
section
variable {X : Cx} {CX : CXT} {k : Nat} {g C : Addr} {fd : FuncData} {ps : List Str} {sp : Sp} {a b : Expr} {ta tb : TE} {pos : Pos} {op : Operator}
theorem pe_binS {E : L2.St → XK} (hc : PySem.W.selfFirst X.K C = true) (hs : PySem.W.findIn X.K (.ref C) (PySem.dunder op.info.2) = some (some (.ref g))) (hf : PySem.W.isFn X.K (.ref g) = true) (F : FnOk X.prog X.w X.K X.mg X.base CX k g fd ps sp) (hr : Room k X.A) (hb : Binds X.K fd ps []) (hx : ∀ σ, PassesAt CX X σ (E σ))
    (h1 : PE X a ta) (h2 : PE X b tb) : PE X (.BinOp a op b pos) (tBinS C sp E ta tb) := by
  refine ⟨fun pins s σ H Q I h => wpAny_BinOp (binT h1 h2 I h fun v u s2 x y H2 I2 rx ry q => ?_)⟩
  obtain ⟨p, dx, fs, r, dy, gs, rfl, rfl, ha, hb', q⟩ := q
  cases (show v = Value.ref p from rx)
  cases (show u = Value.ref r from ry)
  obtain ⟨ox, od, J⟩ := inst_at I2 ha
  obtain ⟨oy, oe, J'⟩ := inst_at I2 hb'
  obtain ⟨m, hF⟩ := I2.fr
  refine PySem.W.binop_K (op := op) hF I2.ok.mod.kin J J'.type hc hs hf (wpAny_mono (run_fnS (us := [.ref p, .ref r]) (vs := [.ref p, .ref r]) F hr hb (hx σ) I2 (.cons rfl (.cons rfl .nil)) q) (fun w s' z => ?_) fun _ _ e => e)
  obtain ⟨z', H', I', rz, qz⟩ := z
  exact cmpb rz ⟨z', H', I', rz, qz⟩
end
theorem r_binS {σ : L2.St} {H : Hp} {Q : VK} {C : Addr} {sp : Sp} {E : L2.St → XK} {ta tb : TE} (h : ta σ H fun x H1 => tb σ H1 fun y H2 => ∃ a dx fs b dy gs, x = .ref a ∧ y = .ref b ∧ H2 a = some (.ins C dx fs) ∧ H2 b = some (.ins C dy gs) ∧ sp [x, y] H2 Q (E σ)) : tBinS C sp E ta tb σ H Q := h
/-! ### ends: None or an int -/
def endV : Option Int → V
  | none => .non
  | some i => .int i
def endD : Option Int → PyData
  | none => .none
  | some i => .int i
/-- a small end: what repr takes -/
def EndOk (e : Option Int) : Prop := ∀ i, e = some i → -(10 ^ 60) < i ∧ i < 10 ^ 60
theorem log_ok {i : Int} (h : -(10 ^ 60) < i ∧ i < 10 ^ 60) : i.natAbs.log2 < 1920 := by
  have h1 : i.natAbs < 2 ^ 200 := by
    have : i.natAbs < 10 ^ 60 := by omega
    exact Nat.lt_trans this (by decide)
  have h2 : i.natAbs.log2 < 200 := by
    by_cases e : i.natAbs = 0
    · rw [e]; decide
    · exact (Nat.log2_lt e).mpr h1
  omega
theorem dp_end {K : PySem.W.Frag} {H : Hp} (e : Option Int) : Dp K H (endV e) (endD e) := by
  cases e with
  | none => exact .non
  | some i => exact .int i
theorem show_end {e : Option Int} (h : EndOk e) : (endD e).showable = true := by
  cases e with
  | none => rfl
  | some i => exact decide_eq_true (log_ok (h i rfl))
theorem len_end {e : Option Int} (h : EndOk e) : ((endD e).shown).length ≤ 2000 := by
  cases e with
  | none => decide +kernel
  | some i => exact Nat.le_trans (PyProof.Rows.int_text_len_1921 (log_ok (h i rfl))) (by decide)
section
variable {H : Hp} {Q : VK} {K : PySem.W.Frag} {X : Cx}
def rIsNo : R2 := fun x y H Q => y = .non ∧ Q (.bl (decide (x = .non))) H
def rNotNo : R2 := fun x y H Q => y = .non ∧ Q (.bl (!decide (x = .non))) H
theorem o_isN : OpR X (compareOp .Is) rIsNo := op_isN
theorem o_notN : OpR X (compareOp .IsNot) rNotNo := op_notN
theorem r_isNe {e : Option Int} (h : Q (.bl (!e.isSome)) H) : rIsNo (endV e) .non H Q := by
  cases e with
  | none => exact ⟨rfl, h⟩
  | some i => exact ⟨rfl, h⟩
theorem r_notNe {e : Option Int} (h : Q (.bl e.isSome) H) : rNotNo (endV e) .non H Q := by
  cases e with
  | none => exact ⟨rfl, h⟩
  | some i => exact ⟨rfl, h⟩
theorem r_isNi {i : Int} (h : Q (.bl false) H) : rIsNo (.int i) .non H Q := ⟨rfl, h⟩
theorem r_isNn (h : Q (.bl true) H) : rIsNo .non .non H Q := ⟨rfl, h⟩
theorem r_isNr {a : Addr} (h : Q (.bl false) H) : rIsNo (.ref a) .non H Q := ⟨rfl, h⟩
theorem r_notNi {i : Int} (h : Q (.bl true) H) : rNotNo (.int i) .non H Q := ⟨rfl, h⟩
theorem r_notNn (h : Q (.bl false) H) : rNotNo .non .non H Q := ⟨rfl, h⟩
theorem r_notNr {a : Addr} (h : Q (.bl true) H) : rNotNo (.ref a) .non H Q := ⟨rfl, h⟩
/-- repr of a list of two ends -/
theorem r_repr2 {a : Addr} {b c : Option Int} (h : H a = some (.lst [endV b, endV c])) (hb : EndOk b) (hc : EndOk c) (q : Q (.str (PyData.list [endD b, endD c]).shown) H) : rRepr K [.ref a] H Q := by
  refine ⟨a, .list [endD b, endD c], rfl, .lst (SqL.of h) (.cons (dp_end b) (.cons (dp_end c) .nil)), ?_, ?_, ?_, ?_, q⟩
  · show ((endD b).showable && ((endD c).showable && true)) = true
    rw [show_end hb, show_end hc]; rfl
  · cases b <;> cases c <;> rfl
  · cases b <;> cases c <;> exact Nat.le_of_ble_eq_true rfl
  · have h1 := len_end hb
    have h2 := len_end hc
    have h3 := listText_len_le (PyData.shownAll [endD b, endD c])
    have h4 : (PyData.shownAll [endD b, endD c]).length = 2 := rfl
    have h5 : ((PyData.shownAll [endD b, endD c]).map (fun t => t.length)).sum = (endD b).shown.length + ((endD c).shown.length + 0) := rfl
    show (listText (PyData.shownAll [endD b, endD c])).length ≤ sizeLine
    rw [h5, h4] at h3
    exact Nat.le_trans h3 (Nat.le_trans (show _ ≤ 5000 by omega) (by decide))
end
/-! ### stretches -/
def turnedB : Option Int → Option Int → Bool
  | some a, some b => decide (b < a)
  | _, _ => false
def loB : Option Int → Int → Bool
  | none, _ => true
  | some a, n => decide (a ≤ n)
def hiB : Option Int → Int → Bool
  | none, _ => true
  | some b, n => decide (n ≤ b)
def inB (lo hi : Option Int) (n : Int) : Bool := loB lo n && hiB hi n
def strF (lo hi : Option Int) : List (Str × V) := putF "high" (endV hi) (putF "low" (endV lo) [])
theorem n_lh : ¬ (("low" : Str) = "high") := by decide +kernel
theorem str_low (lo hi : Option Int) : (strF lo hi).lookup ("low" : Str) = some (endV lo) := by
  unfold strF
  rw [lookup_putF, if_neg n_lh, lookup_putF, if_pos rfl]
theorem str_high (lo hi : Option Int) : (strF lo hi).lookup ("high" : Str) = some (endV hi) := by
  unfold strF
  rw [lookup_putF, if_pos rfl]
theorem str_no (lo hi : Option Int) {m : Str} (h1 : ¬ m = "high") (h2 : ¬ m = "low") : (strF lo hi).lookup m = none := by
  unfold strF
  rw [lookup_putF, if_neg h1, lookup_putF, if_neg h2]
  rfl
theorem putF_len (f : Str) (v : V) : ∀ fs : List (Str × V), (putF f v fs).length ≤ fs.length + 1
  | [] => Nat.le_refl _
  | (g, x) :: r => by
    unfold putF
    split
    · show r.length + 1 ≤ r.length + 1 + 1
      omega
    · show (putF f v r).length + 1 ≤ r.length + 1 + 1
      have := putF_len f v r
      omega
def StrAt (C : Addr) (H : Hp) (p : Addr) (lo hi : Option Int) : Prop := ∃ dx, H p = some (.ins C dx (strF lo hi))
theorem StrAt.same {C : Addr} {H H' : Hp} {p : Addr} {lo hi : Option Int} (h : StrAt C H p lo hi) (s : Same H H') : StrAt C H' p lo hi := by
  obtain ⟨dx, e⟩ := h
  exact ⟨dx, s _ _ e⟩
/-- what is no list is not among the draws -/
theorem Ext.keep {d c r : Addr} {H H' : Hp} {b : Addr} {o : HO} (e : Ext d r H H') (D : Drw H d c r) (h : H b = some o) (n : ∀ xs, o ≠ .lst xs) : H' b = some o := by
  obtain ⟨_, _, _, _, _, _, h1, _, h3, _⟩ := D
  exact e b o h (ne_of h h1 (n _)) (ne_of h h3 (n _))
theorem StrAt.ext {C : Addr} {H H' : Hp} {p d c r : Addr} {lo hi : Option Int} (h : StrAt C H p lo hi) (e : Ext d r H H') (D : Drw H d c r) : StrAt C H' p lo hi := by
  obtain ⟨dx, z⟩ := h
  exact ⟨dx, e.keep D z fun _ q => nomatch q⟩
/-- the dict of a TurnedStretch -/
def turnF (lo hi : Option Int) : List (Str × V) := [("high", endV hi), ("low", endV lo)]
theorem turn_low (lo hi : Option Int) : (turnF lo hi).lookup ("low" : Str) = some (endV lo) := by
  unfold turnF
  rw [lookup_put, if_neg n_lh, lookup_put, if_pos rfl]
theorem turn_high (lo hi : Option Int) : (turnF lo hi).lookup ("high" : Str) = some (endV hi) := by
  unfold turnF
  rw [lookup_put, if_pos rfl]
def spTInit (C : Addr) : Sp := fun vs H Q _ => ∃ (a : Addr) (lo hi : Option Int), vs = [.ref a, endV lo, endV hi] ∧ H a = some (exo a C none) ∧
  ∀ (dx : Addr) (H' : Hp), H dx = none → H' a = some (exo a C (some dx)) → H' dx = some (exd dx (turnF lo hi)) → (∀ b o, H b = some o → b ≠ a → H' b = some o) → Q .non H'
def spSInit (C CT : Addr) : Sp := fun vs H Q E => ∃ (p dx : Addr) (lo hi : Option Int), vs = [.ref p, endV lo, endV hi] ∧ H p = some (.ins C dx []) ∧
  (turnedB lo hi = true → ∀ (d : Addr) (H' : Hp), H d = none → H' d = some (.xd (turnF lo hi)) → Same H H' → E (.ref CT) (some d) H') ∧
  (turnedB lo hi = false → ∀ H', StrAt C H' p lo hi → (∀ b o, H b = some o → b ≠ p → H' b = some o) → Q .non H')
def spSIn (C : Addr) : Sp := fun vs H Q _ => ∃ (p : Addr) (lo hi : Option Int) (n : Int), vs = [.ref p, .int n] ∧ StrAt C H p lo hi ∧ Q (.bl (inB lo hi n)) H
/-! ### flat data: None, truths, ints, texts, in a list or a tuple; repr and == of these -/
def vD : V → PyData
  | .non => .none
  | .bl b => .bool b
  | .int i => .int i
  | .str x => .str x
  | _ => .none
def okD : V → Prop
  | .non => True
  | .bl _ => True
  | .int i => -(10 ^ 60) < i ∧ i < 10 ^ 60
  | .str x => (reprText x).length ≤ 1000 ∧ PyData.strOk x = true
  | _ => False
/-- what may be compared: no bound on ints -/
def eqD : V → Prop
  | .non => True
  | .bl _ => True
  | .int _ => True
  | .str x => PyData.strOk x = true
  | _ => False
theorem okD.eq {v : V} (h : okD v) : eqD v := by
  cases v <;> first | exact trivial | exact h.2 | exact h.elim
theorem log_okI {i : Int} (h : -(10 ^ 60) < i ∧ i < 10 ^ 60) : i.natAbs.log2 < 1920 := by
  have h1 : i.natAbs < 2 ^ 200 := by
    have : i.natAbs < 10 ^ 60 := by omega
    exact Nat.lt_trans this (by decide)
  have h2 : i.natAbs.log2 < 200 := by
    by_cases e : i.natAbs = 0
    · rw [e]; decide
    · exact (Nat.log2_lt e).mpr h1
  omega
theorem dp_vD {K : PySem.W.Frag} {H : Hp} {v : V} (h : eqD v) : Dp K H v (vD v) := by
  cases v with
  | non => exact .non
  | bl b => exact .bl b
  | int i => exact .int i
  | str x => exact .str x
  | byt b => exact h.elim
  | flt b => exact h.elim
  | ref a => exact h.elim
  | ty n => exact h.elim
theorem dpAll_vD {K : PySem.W.Frag} {H : Hp} : ∀ {vs : List V}, (∀ v ∈ vs, eqD v) → DpAll K H vs (vs.map vD)
  | [], _ => .nil
  | v :: vs, h => .cons (dp_vD (h v List.mem_cons_self)) (dpAll_vD fun w hw => h w (List.mem_cons_of_mem _ hw))
theorem show_vD : ∀ {vs : List V}, (∀ v ∈ vs, okD v) → PyData.showableAll (vs.map vD) = true
  | [], _ => rfl
  | v :: vs, h => by
    have h1 := h v List.mem_cons_self
    have e : (vD v).showable = true := by
      cases v <;> first | rfl | exact decide_eq_true (log_okI h1)
    show ((vD v).showable && PyData.showableAll (vs.map vD)) = true
    rw [e, show_vD fun w hw => h w (List.mem_cons_of_mem _ hw)]
    rfl
theorem dict_vD : ∀ (vs : List V), PyData.hasDictAll (vs.map vD) = false
  | [] => rfl
  | v :: vs => by
    show ((vD v).hasDict || PyData.hasDictAll (vs.map vD)) = false
    rw [dict_vD vs]
    cases v <;> rfl
theorem depth_vD : ∀ (vs : List V), PyData.depthAll (vs.map vD) = 0
  | [] => rfl
  | v :: vs => by
    show max (vD v).depth (PyData.depthAll (vs.map vD)) = 0
    rw [depth_vD vs]
    cases v <;> rfl
theorem len_vD : ∀ {vs : List V}, (∀ v ∈ vs, okD v) → (PyData.shownAll (vs.map vD)).length = vs.length ∧ ((PyData.shownAll (vs.map vD)).map (fun t => t.length)).sum ≤ 2000 * vs.length
  | [], _ => ⟨rfl, Nat.le_refl _⟩
  | v :: vs, h => by
    obtain ⟨i1, i2⟩ := len_vD (vs := vs) fun w hw => h w (List.mem_cons_of_mem _ hw)
    have h1 := h v List.mem_cons_self
    have e : ((vD v).shown).length ≤ 2000 := by
      cases v with
      | non => decide +kernel
      | bl b => cases b <;> decide +kernel
      | int i => exact Nat.le_trans (PyProof.Rows.int_text_len_1921 (log_okI h1)) (by decide)
      | str x => exact Nat.le_trans h1.1 (by decide)
      | byt b => exact h1.elim
      | flt b => exact h1.elim
      | ref a => exact h1.elim
      | ty n => exact h1.elim
    refine ⟨?_, ?_⟩
    · show (PyData.shownAll (vs.map vD)).length + 1 = vs.length + 1
      rw [i1]
    · show (((vD v).shown).length :: (PyData.shownAll (vs.map vD)).map (fun t => t.length)).sum ≤ 2000 * (vs.length + 1)
      rw [List.sum_cons]
      omega
section
variable {H : Hp} {Q : VK} {K : PySem.W.Frag} {a b : Addr} {vs ws : List V}
def tupD (vs : List V) : PyData := .tuple (vs.map vD)
def lstD (vs : List V) : PyData := .list (vs.map vD)
theorem r_reprT (h : SqT K H a vs) (hv : ∀ v ∈ vs, okD v) (hl : vs.length ≤ 50) (q : Q (.str (tupD vs).shown) H) : rRepr K [.ref a] H Q := by
  refine ⟨a, tupD vs, rfl, .tup h (dpAll_vD fun v hw => (hv v hw).eq), show_vD hv, dict_vD vs, ?_, ?_, q⟩
  · show PyData.depthAll (vs.map vD) + 1 ≤ 20
    rw [depth_vD]
    decide
  · obtain ⟨i1, i2⟩ := len_vD hv
    have h3 := tupleText_len_le (PyData.shownAll (vs.map vD))
    rw [i1] at h3
    exact Nat.le_trans h3 (Nat.le_trans (show _ ≤ 200000 by omega) (by decide))
theorem r_reprL (h : SqL K H a vs) (hv : ∀ v ∈ vs, okD v) (hl : vs.length ≤ 50) (q : Q (.str (lstD vs).shown) H) : rRepr K [.ref a] H Q := by
  refine ⟨a, lstD vs, rfl, .lst h (dpAll_vD fun v hw => (hv v hw).eq), show_vD hv, dict_vD vs, ?_, ?_, q⟩
  · show PyData.depthAll (vs.map vD) + 1 ≤ 20
    rw [depth_vD]
    decide
  · obtain ⟨i1, i2⟩ := len_vD hv
    have h3 := listText_len_le (PyData.shownAll (vs.map vD))
    rw [i1] at h3
    exact Nat.le_trans h3 (Nat.le_trans (show _ ≤ 200000 by omega) (by decide))
theorem lay_vD : ∀ {vs : List V}, (∀ v ∈ vs, eqD v) → PyData.canLayAll0 (vs.map vD) = true
  | [], _ => rfl
  | v :: vs, h => by
    have h1 := h v List.mem_cons_self
    have e : (vD v).canLay0 = true := by cases v <;> first | rfl | exact h1
    show ((vD v).canLay0 && PyData.canLayAll0 (vs.map vD)) = true
    rw [e, lay_vD fun w hw => h w (List.mem_cons_of_mem _ hw)]
    rfl
theorem shaped_tup (h : ∀ v ∈ vs, eqD v) : SeqAt.shaped (tupD vs) = true := by
  unfold SeqAt.shaped
  rw [show (tupD vs).canLay0 = true from lay_vD h]
  show decide (PyData.depthAll (vs.map vD) + 1 ≤ 64) = true
  rw [depth_vD]
  rfl
theorem shaped_lst (h : ∀ v ∈ vs, eqD v) : SeqAt.shaped (lstD vs) = true := by
  unfold SeqAt.shaped
  rw [show (lstD vs).canLay0 = true from lay_vD h]
  show decide (PyData.depthAll (vs.map vD) + 1 ≤ 64) = true
  rw [depth_vD]
  rfl
/-- equality of flat data of the same kinds, place by place -/
def sameKind : V → V → Bool
  | .int _, .bl _ => false
  | .bl _, .int _ => false
  | _, _ => true
theorem eqv_vD {x y : V} (hx : eqD x) (hy : eqD y) (k : sameKind x y = true) : PyData.eqv (vD x) (vD y) = decide (x = y) := by
  cases x <;> cases y <;> first
    | exact hx.elim
    | exact hy.elim
    | (cases k; done)
    | rfl
    | (rw [decide_eq_false fun z => nomatch z]; rfl)
    | skip
  · rename_i a b
    show (a == b) = _
    rw [eq_dbl]
  · rename_i a b
    show (a == b) = _
    rw [eq_dint]
    exact (Bool.beq_eq_decide_eq a b)
  · rename_i a b
    show (a == b) = _
    rw [eq_dstr]
    exact (Bool.beq_eq_decide_eq a b)
theorem eqv_all : ∀ {vs ws : List V}, (∀ v ∈ vs, eqD v) → (∀ v ∈ ws, eqD v) → (∀ p ∈ vs.zip ws, sameKind p.1 p.2 = true) → PyData.eqvAll (vs.map vD) (ws.map vD) = decide (vs = ws)
  | [], [], _, _, _ => rfl
  | [], w :: ws, _, _, _ => by rw [decide_eq_false fun z => nomatch z]; rfl
  | v :: vs, [], _, _, _ => by rw [decide_eq_false fun z => nomatch z]; rfl
  | v :: vs, w :: ws, h1, h2, h3 => by
    show (PyData.eqv (vD v) (vD w) && PyData.eqvAll (vs.map vD) (ws.map vD)) = _
    rw [eqv_vD (h1 v List.mem_cons_self) (h2 w List.mem_cons_self) (h3 (v, w) List.mem_cons_self), eqv_all (fun x hx => h1 x (List.mem_cons_of_mem _ hx)) (fun x hx => h2 x (List.mem_cons_of_mem _ hx)) fun p hp => h3 p (List.mem_cons_of_mem _ hp), Bool.eq_iff_iff, Bool.and_eq_true, decide_eq_true_eq, decide_eq_true_eq, decide_eq_true_eq, List.cons.injEq]
theorem r_neTT (h1 : SqT K H a vs) (h2 : SqT K H b ws) (e1 : ∀ v ∈ vs, eqD v) (e2 : ∀ v ∈ ws, eqD v) (k : ∀ p ∈ vs.zip ws, sameKind p.1 p.2 = true) (q : Q (.bl (!decide (vs = ws))) H) : rNeD K (.ref a) (.ref b) H Q := by
  refine ⟨tupD vs, tupD ws, .tup h1 (dpAll_vD e1), .tup h2 (dpAll_vD e2), shaped_tup e1, shaped_tup e2, ?_⟩
  show Q (.bl (!PyData.eqvAll (vs.map vD) (ws.map vD))) H
  rw [eqv_all e1 e2 k]
  exact q
theorem r_eqTT (h1 : SqT K H a vs) (h2 : SqT K H b ws) (e1 : ∀ v ∈ vs, eqD v) (e2 : ∀ v ∈ ws, eqD v) (k : ∀ p ∈ vs.zip ws, sameKind p.1 p.2 = true) (q : Q (.bl (decide (vs = ws))) H) : rEqD K (.ref a) (.ref b) H Q := by
  refine ⟨tupD vs, tupD ws, .tup h1 (dpAll_vD e1), .tup h2 (dpAll_vD e2), shaped_tup e1, shaped_tup e2, ?_⟩
  show Q (.bl (PyData.eqvAll (vs.map vD) (ws.map vD))) H
  rw [eqv_all e1 e2 k]
  exact q
theorem r_neLL (h1 : SqL K H a vs) (h2 : SqL K H b ws) (e1 : ∀ v ∈ vs, eqD v) (e2 : ∀ v ∈ ws, eqD v) (k : ∀ p ∈ vs.zip ws, sameKind p.1 p.2 = true) (q : Q (.bl (!decide (vs = ws))) H) : rNeD K (.ref a) (.ref b) H Q := by
  refine ⟨lstD vs, lstD ws, .lst h1 (dpAll_vD e1), .lst h2 (dpAll_vD e2), shaped_lst e1, shaped_lst e2, ?_⟩
  show Q (.bl (!PyData.eqvAll (vs.map vD) (ws.map vD))) H
  rw [eqv_all e1 e2 k]
  exact q
end
/-! ### texts whose signs are signs -/
theorem sok_app {x y : Str} (hx : PyData.strOk x = true) (hy : PyData.strOk y = true) : PyData.strOk (x ++ y) = true := by
  show (x.cps ++ y.cps).all _ = true
  rw [Array.all_append]
  exact Bool.and_eq_true_iff.mpr ⟨hx, hy⟩
theorem sok_of (s : String) : PyData.strOk (Str.ofString s) = true := by
  rw [Str.ofString_eq_toList]
  show Array.all _ _ = true
  rw [List.all_toArray, List.all_map, List.all_eq_true]
  intro c _
  refine decide_eq_true ?_
  have := c.valid
  rcases this with z | z
  · exact Nat.lt_trans z (by decide)
  · exact z.2
theorem sok_join : ∀ {ts : List Str}, (∀ t ∈ ts, PyData.strOk t = true) → PyData.strOk (Str.join ", " ts) = true
  | [], _ => by decide +kernel
  | [x], h => h x List.mem_cons_self
  | x :: y :: r, h => by
    show PyData.strOk (x ++ (", " : Str) ++ Str.join ", " (y :: r)) = true
    exact sok_app (sok_app (h x List.mem_cons_self) (sok_of ", ")) (sok_join fun t ht => h t (List.mem_cons_of_mem _ ht))
theorem sok_tup {ts : List Str} (h : ∀ t ∈ ts, PyData.strOk t = true) : PyData.strOk (tupleText ts) = true := by
  unfold tupleText
  exact sok_app (sok_app (sok_of "(") (sok_join h)) (sok_of _)
theorem sok_from : ∀ {ts : List Str} {k : Nat} {acc : Str}, PyData.strOk acc = true → (∀ t ∈ ts, PyData.strOk t = true) → PyData.strOk (textFrom k acc ts) = true
  | [], _, _, ha, _ => ha
  | t :: ts, k, acc, ha, h => by
    unfold textFrom
    refine sok_from ?_ fun x hx => h x (List.mem_cons_of_mem _ hx)
    split
    · exact sok_app (sok_app ha (sok_of ", ")) (h t List.mem_cons_self)
    · exact sok_app ha (h t List.mem_cons_self)
theorem sok_lst {ts : List Str} (h : ∀ t ∈ ts, PyData.strOk t = true) : PyData.strOk (listText ts) = true := by
  unfold listText
  exact sok_app (sok_from (sok_of "[") h) (sok_of "]")
/-- a text whose repr is a text of signs (the laws' own words are) -/
def okR : V → Prop
  | .str x => PyData.strOk (reprText x) = true
  | _ => True
theorem sok_all : ∀ {vs : List V}, (∀ v ∈ vs, okR v) → ∀ t ∈ PyData.shownAll (vs.map vD), PyData.strOk t = true
  | [], _, t, ht => (nomatch ht)
  | v :: vs, h, t, ht => by
    have ht : t ∈ (vD v).shown :: PyData.shownAll (vs.map vD) := ht
    rcases List.mem_cons.mp ht with e | e
    · rw [e]
      cases v with
      | bl b => cases b <;> decide +kernel
      | int i => exact sok_of _
      | str x => exact h _ List.mem_cons_self
      | non => exact sok_of "None"
      | byt b => exact sok_of "None"
      | flt b => exact sok_of "None"
      | ref a => exact sok_of "None"
      | ty n => exact sok_of "None"
    · exact sok_all (fun w hw => h w (List.mem_cons_of_mem _ hw)) t e
theorem sok_tupD {vs : List V} (h : ∀ v ∈ vs, okR v) : PyData.strOk (tupD vs).shown = true := sok_tup (sok_all h)
theorem sok_lstD {vs : List V} (h : ∀ v ∈ vs, okR v) : PyData.strOk (lstD vs).shown = true := sok_lst (sok_all h)
/-! ### a list or a tuple, read alike; comprehensions over tuples and ranges -/
def SqA (K : PySem.W.Frag) (H : Hp) (p : Addr) (xs : List V) : Prop := SqL K H p xs ∨ SqT K H p xs
theorem same_tup {K : PySem.W.Frag} {H H' : Hp} {a : Addr} {xs : List V} (e : Same H H') (h : SqT K H a xs) : SqT K H' a xs := by
  rcases h with (h | ⟨o, h⟩) | h
  · exact .inl (.inl (e _ _ h))
  · exact .inl (.inr ⟨o, e _ _ h⟩)
  · exact .inr h
theorem SqA.same {K : PySem.W.Frag} {H H' : Hp} {a : Addr} {xs : List V} (h : SqA K H a xs) (e : Same H H') : SqA K H' a xs := h.imp (fun z => e.seq z) fun z => same_tup e z
theorem kAt_all {ns : List Int} {P : Int → Prop} (h : ∀ x ∈ ns, P x) {j : Nat} (hj : j < ns.length) : P (kAt ns j) := by
  have e : kAt ns j = ns[j] := by rw [kAt, List.getD_eq_getElem?_getD, List.getElem?_eq_getElem hj]; rfl
  rw [e]
  exact h _ (List.getElem_mem hj)
section
variable {σ : L2.St} {H : Hp} {Q : VK} {te : TE} {K : PySem.W.Frag} {a p : Addr} {xs : List V} {i : Int} {v : V}
theorem r_ixA (h : SqA K H p xs) (e : atI xs i = some v) (q : Q v H) : rIx K (.ref p) (.int i) H Q := by
  rcases h with h | h
  · exact .inl (r_ixL h e q)
  · exact .inr (.inl (r_ixT h e q))
def rTupA (K : PySem.W.Frag) : List V → Hp → VK → Prop := fun xs H Q => ∃ p ys, xs = [.ref p] ∧ ((SqL K H p ys ∧ ∀ l, H l = none → Q (.ref l) (upd H l (.tup ys))) ∨ (SqT K H p ys ∧ Q (.ref p) H))
theorem c_tupA {X : Cx} : CallR X (.type "tuple") (rTupA X.K) := call_tuple_of
theorem r_tupL (h : SqL K H p xs) (q : ∀ l, H l = none → Q (.ref l) (upd H l (.tup xs))) : rTupA K [.ref p] H Q := ⟨p, xs, rfl, .inl ⟨h, q⟩⟩
theorem r_tupA (h : SqA K H p xs) (q : ∀ l H', SqT K H' l xs → Same H H' → Q (.ref l) H') : rTupA K [.ref p] H Q := by
  rcases h with h | h
  · exact ⟨p, xs, rfl, .inl ⟨h, fun l nl => q l _ (SqT.of upd_same) (same_new nl)⟩⟩
  · exact ⟨p, xs, rfl, .inr ⟨h, q p H h (Same.refl H)⟩⟩
def rListA (K : PySem.W.Frag) : List V → Hp → VK → Prop := fun xs H Q => ∃ p ys, xs = [.ref p] ∧ (SqL K H p ys ∨ SqT K H p ys) ∧ ∀ l, H l = none → Q (.ref l) (upd H l (.lst ys))
theorem c_listA {X : Cx} : CallR X (.type "list") (rListA X.K) := call_list_of
theorem r_listA (h : SqA K H p xs) (q : ∀ l, H l = none → Q (.ref l) (upd H l (.lst xs))) : rListA K [.ref p] H Q := ⟨p, xs, rfl, h, q⟩
theorem r_catT {b : Addr} {ys : List V} (h1 : SqT K H a xs) (h2 : SqT K H b ys) (n1 : xs ≠ []) (n2 : ys ≠ []) (hz : xs.length + ys.length ≤ 1000) (q : ∀ p, H p = none → Q (.ref p) (upd H p (.tup (xs ++ ys)))) : rCatT K (.ref a) (.ref b) H Q :=
  ⟨a, b, xs, ys, rfl, rfl, h1, h2, n1, Nat.le_of_lt (small1000 hz), fun z => absurd z n2, fun _ => q⟩
theorem lc_mapT {n : Nat} (f : V → V) (hS : SqT K H a xs) (hz : xs.length ≤ 1000) (he : ∀ (x : V) (H' : Hp) (QQ : VK), x ∈ xs → Same H H' → QQ (f x) H' → te ((wipe σ [n]).set n (some x)) H' QQ)
    (hq : ∀ D, H D = none → Q (.ref D) (upd H D (.lst (xs.map f)))) : lcGo (Itt K a) (gName n) tYes te [n] σ Q H := by
  intro D hD
  refine lc_tup (K := K) (a := a) (xs := xs) (fun i H' => H' = upd H D (.lst ((xs.take i).map f))) rfl (fun i H' _ e => by subst e; exact same_tup (same_new hD) hS) ?_ ?_
  · rintro i x H' hx rfl
    refine ⟨wipe1, ?_⟩
    show te _ _ _
    refine he x _ _ (List.mem_of_getElem? hx) (same_new hD) ⟨(xs.take i).map f, upd_same, ?_, ?_⟩
    · rw [List.length_map, List.length_take]
      exact small1000 (by omega)
    · rw [upd_upd, List.take_add_one, hx, List.map_append]
      rfl
  · rintro H' rfl
    rw [List.take_length]
    exact hq D hD
theorem lc_mapR {n m : Nat} {lo : Int} (f : Nat → V) (hm : m ≤ 1000) (he : ∀ (i : Nat) (H' : Hp) (QQ : VK), i < m → Same H H' → QQ (f i) H' → te ((wipe σ [n]).set n (some (.int (lo + i)))) H' QQ)
    (hq : ∀ D, H D = none → Q (.ref D) (upd H D (.lst ((List.range m).map f)))) : lcGo (Itr lo m) (gName n) tYes te [n] σ Q H := by
  intro D hD
  refine lc_range (fun i H' => H' = upd H D (.lst ((List.range i).map f))) rfl ?_ ?_
  · rintro i H' hi rfl
    refine ⟨wipe1, ?_⟩
    show te _ _ _
    refine he i _ _ hi (same_new hD) ⟨(List.range i).map f, upd_same, ?_, ?_⟩
    · rw [List.length_map, List.length_range]
      exact small1000 (by omega)
    · rw [upd_upd, List.range_succ, List.map_append]
      rfl
  · rintro H' rfl
    exact hq D hD
end
/-! ### xs != [] of any items; comprehensions with any target -/
def rNeE (K : PySem.W.Frag) : R2 := fun x y H Q => ∃ a b xs, x = .ref a ∧ y = .ref b ∧ SqL K H a xs ∧ SqL K H b [] ∧ Q (.bl (!xs.isEmpty)) H
theorem op_neE {X : Cx} (hu : X.A.units < cLine) : OpR X (compareOp .NotEq) (rNeE X.K) := by
  intro pins s σ H x y v u Q I rx ry h
  obtain ⟨a, b, xs, rfl, rfl, h1, h2, q⟩ := h
  cases (show v = Value.ref a from rx)
  cases (show u = Value.ref b from ry)
  obtain ⟨its, r1, ⟨o1, n1, g1, c1, _, d1⟩, _⟩ := I.list h1
  obtain ⟨its2, r2, ⟨o2, n2, g2, c2, _, d2⟩, _⟩ := I.list h2
  cases r2
  show wpAny _ _ (richCompare .NotEq _ _) _ _ _
  cases r1 with
  | nil => exact SeqAt.RcNeAt.lists (e := fun _ => true) ⟨o1, g1, c1, n1, d1⟩ ⟨o2, g2, c2, n2, d2⟩ rfl hu (fun j h1 _ => absurd h1 (Nat.not_lt_zero j)) _ _ _ _ ⟨.bl false, H, I, rfl, q⟩
  | cons ra rb => exact SeqAt.RcNeAt.lists_lengths ⟨o1, g1, c1, n1, d1⟩ ⟨o2, g2, c2, n2, d2⟩ rfl hu _ _ _ _ ⟨.bl true, H, I, rfl, q⟩
section
variable {σ : L2.St} {H : Hp} {Q : VK} {te : TE} {K : PySem.W.Frag} {a b : Addr} {xs : List V}
theorem r_neE (h1 : SqL K H a xs) (h2 : SqL K H b []) (q : Q (.bl (!xs.isEmpty)) H) : rNeE K (.ref a) (.ref b) H Q := ⟨a, b, xs, rfl, rfl, h1, h2, q⟩
/-- [e for target in xs], e a value by a function of the item -/
theorem lc_mapG {g : TG} {vs : List Nat} (f : V → V) (hS : SqL K H a xs) (hz : xs.length ≤ 1000) (he : ∀ (x : V) (H' : Hp) (QQ : VK), x ∈ xs → Same H H' → QQ (f x) H' → g x (wipe σ vs) H' fun σ2 H2 => wipe σ2 vs = wipe σ vs ∧ te σ2 H2 QQ)
    (hq : ∀ D, H D = none → Q (.ref D) (upd H D (.lst (xs.map f)))) : lcGo (Itl K a) g tYes te vs σ Q H := by
  intro D hD
  refine lc_list (K := K) (a := a) (xs := xs) (fun i H' => H' = upd H D (.lst ((xs.take i).map f))) rfl (fun i H' _ e => by subst e; exact (same_new hD).seq hS) ?_ ?_
  · rintro i x H' hx rfl
    refine he x _ _ (List.mem_of_getElem? hx) (same_new hD) ⟨(xs.take i).map f, upd_same, ?_, ?_⟩
    · rw [List.length_map, List.length_take]
      exact small1000 (by omega)
    · rw [upd_upd, List.take_add_one, hx, List.map_append]
      rfl
  · rintro H' rfl
    rw [List.take_length]
    exact hq D hD
end
section
variable {σ : L2.St} {H : Hp} {Q : VK} {te : TE} {tt : TT} {K : PySem.W.Frag} {a : Addr} {xs : List V}
/-- [x for x in xs if test]: what passes the test -/
theorem lc_filt {n : Nat} (f : V → Bool) (hS : SqL K H a xs) (hz : xs.length ≤ 1000) (ht : ∀ (x : V) (H' : Hp) (QT : Bool → Hp → Prop), x ∈ xs → Same H H' → QT (f x) H' → tt ((wipe σ [n]).set n (some x)) H' QT)
    (he : ∀ (x : V) (H' : Hp) (QQ : VK), x ∈ xs → Same H H' → QQ x H' → te ((wipe σ [n]).set n (some x)) H' QQ) (hq : ∀ D, H D = none → Q (.ref D) (upd H D (.lst (xs.filter f)))) : lcGo (Itl K a) (gName n) tt te [n] σ Q H := by
  intro D hD
  refine lc_list (K := K) (a := a) (xs := xs) (fun i H' => H' = upd H D (.lst ((xs.take i).filter f))) rfl (fun i H' _ e => by subst e; exact (same_new hD).seq hS) ?_ ?_
  · rintro i x H' hx rfl
    have hx' := List.mem_of_getElem? hx
    refine ⟨wipe1, ht x _ _ hx' (same_new hD) ?_⟩
    cases hf : f x with
    | true =>
      refine he x _ _ hx' (same_new hD) ⟨(xs.take i).filter f, upd_same, ?_, ?_⟩
      · refine small1000 (Nat.le_trans (List.length_filter_le _ _) ?_)
        rw [List.length_take]
        omega
      · rw [upd_upd, List.take_add_one, hx, List.filter_append]
        show _ = upd H D (.lst (_ ++ List.filter f [x]))
        rw [List.filter_cons, if_pos hf]
        rfl
    | false =>
      show _ = _
      rw [List.take_add_one, hx, List.filter_append]
      show _ = upd H D (.lst (_ ++ List.filter f [x]))
      rw [List.filter_cons, if_neg (by rw [hf]; exact Bool.false_ne_true)]
      show _ = upd H D (.lst (_ ++ []))
      rw [List.append_nil]
  · rintro H' rfl
    rw [List.take_length]
    exact hq D hD
end
theorem sort1 {ns : List Int} {a : Int} (h : ns.Perm [a]) : ns = [a] := List.perm_singleton.mp h
theorem sort2 {ns : List Int} {a b : Int} (h : ns.Perm [a, b]) (hp : ns.Pairwise (· ≤ ·)) : ns = if b < a then [b, a] else [a, b] := by
  obtain ⟨x, y, rfl⟩ : ∃ x y, ns = [x, y] := by
    match ns, h.length_eq with
    | [x, y], _ => exact ⟨x, y, rfl⟩
  have hxy : x ≤ y := by
    have := List.rel_of_pairwise_cons hp (List.mem_singleton_self y)
    exact this
  have hx : x ∈ [a, b] := h.mem_iff.mp List.mem_cons_self
  simp only [List.mem_cons, List.mem_nil_iff, or_false] at hx
  rcases hx with rfl | rfl
  · have hy := List.perm_singleton.mp h.cons_inv
    cases hy
    rw [if_neg (by omega)]
  · have hy := List.perm_singleton.mp (h.trans (List.Perm.swap _ _ _)).cons_inv
    cases hy
    split
    · rfl
    · have : x = a := by omega
      rw [this]
section
variable {σ : L2.St} {H : Hp} {Q : VK} {te : TE} {tt : TT} {K : PySem.W.Frag} {a : Addr} {xs : List V}
/-- the same over a tuple -/
theorem lc_filtT {n : Nat} (f : V → Bool) (hS : SqT K H a xs) (hz : xs.length ≤ 1000) (ht : ∀ (x : V) (H' : Hp) (QT : Bool → Hp → Prop), x ∈ xs → Same H H' → QT (f x) H' → tt ((wipe σ [n]).set n (some x)) H' QT)
    (he : ∀ (x : V) (H' : Hp) (QQ : VK), x ∈ xs → Same H H' → QQ x H' → te ((wipe σ [n]).set n (some x)) H' QQ) (hq : ∀ D, H D = none → Q (.ref D) (upd H D (.lst (xs.filter f)))) : lcGo (Itt K a) (gName n) tt te [n] σ Q H := by
  intro D hD
  refine lc_tup (K := K) (a := a) (xs := xs) (fun i H' => H' = upd H D (.lst ((xs.take i).filter f))) rfl (fun i H' _ e => by subst e; exact same_tup (same_new hD) hS) ?_ ?_
  · rintro i x H' hx rfl
    have hx' := List.mem_of_getElem? hx
    refine ⟨wipe1, ht x _ _ hx' (same_new hD) ?_⟩
    cases hf : f x with
    | true =>
      refine he x _ _ hx' (same_new hD) ⟨(xs.take i).filter f, upd_same, ?_, ?_⟩
      · refine small1000 (Nat.le_trans (List.length_filter_le _ _) ?_)
        rw [List.length_take]
        omega
      · rw [upd_upd, List.take_add_one, hx, List.filter_append]
        show _ = upd H D (.lst (_ ++ List.filter f [x]))
        rw [List.filter_cons, if_pos hf]
        rfl
    | false =>
      show _ = _
      rw [List.take_add_one, hx, List.filter_append]
      show _ = upd H D (.lst (_ ++ List.filter f [x]))
      rw [List.filter_cons, if_neg (by rw [hf]; exact Bool.false_ne_true)]
      show _ = upd H D (.lst (_ ++ []))
      rw [List.append_nil]
  · rintro H' rfl
    rw [List.take_length]
    exact hq D hD
end
/-! ### constants of the top; binding by place and by keywords -/
theorem sqt_const {K : PySem.W.Frag} {H : Hp} {a : Addr} {od : Option Addr} {its : Array Value} {n : Nat} {sl : Array (Option Value)} {vs : List V} (h : K.lookup a = some ⟨.type "tuple", od, .seq its n, sl⟩) (r : Vals vs its.toList) (hl : vs.length ≤ 1000) : SqT K H a vs := by
  refine .inr ⟨_, its, n, h, rfl, rfl, ?_, r⟩
  have e : its.size = vs.length := (Array.length_toList (xs := its)).symm.trans r.length.symm
  rw [e]
  exact Nat.le_of_lt (small1000 hl)
theorem kb_mkN {K : PySem.W.Frag} {x qual : Str} {st : Stmt} {f : Addr} {fd : FuncData} {ps ks : List Str} {n : Nat} (F : Fun K x qual st f fd)
    (h : ∀ (kV doc pm : Value) (an : Option Addr) (cdv ct : Value) (us ws : List Value), us.length = n → ws.length = ks.length → bindArgs (PySem.W.fnOf x qual (defArgs st) (defBody st) (defScope st) .none kV doc pm an cdv ct) ⟨us, ks.zip ws⟩ = pure (ps.zip (us ++ ws))) :
    KBn K fd ps n ks (fun us ws => us ++ ws) (fun vs zs => vs ++ zs) := by
  obtain ⟨oc, od, kV, doc, pm, an, cdv, ct, osl, rfl, lk, hcd⟩ := F.ex
  exact ⟨fun s us ws _ l1 l2 => .of_eq (h kV doc pm an cdv ct us ws l1 l2), fun r1 r2 => r1.append r2⟩
theorem r_makeN {C : Addr} {n m : Nat} {sp : Sp} {gV : List V → List V → List V} {E : XK} {t tk : TA} {σ : L2.St} {H : Hp} {Q : VK} (h : t σ H fun vs H1 => tk σ H1 fun zs H2 => vs.length = n ∧ zs.length = m ∧ ∀ x dx, H2 x = none → H2 dx = none → dx ≠ x → sp (gV (.ref x :: vs) zs) (upd (upd H2 dx (.own x)) x (.ins C dx [])) (fun v H3 => v = .non ∧ Q (.ref x) H3) E) : tMakeN C n m sp gV E t tk σ H Q := h
theorem r_inT {K : PySem.W.Frag} {H : Hp} {Q : VK} {neg : Bool} {x : V} {p : Addr} {xs : List V} (h : SqT K H p xs) (h1 : flatV x = true) (h2 : xs.all flatV = true) (q : Q (.bl (if neg then !inV x xs else inV x xs)) H) : rIn K neg x (.ref p) H Q := ⟨p, xs, rfl, .inr h, h1, h2, q⟩
theorem r_inL {K : PySem.W.Frag} {H : Hp} {Q : VK} {neg : Bool} {x : V} {p : Addr} {xs : List V} (h : SqL K H p xs) (h1 : flatV x = true) (h2 : xs.all flatV = true) (q : Q (.bl (if neg then !inV x xs else inV x xs)) H) : rIn K neg x (.ref p) H Q := ⟨p, xs, rfl, .inl h, h1, h2, q⟩
/-! ### v not in x, x of an own class; is, is not of truths; max of two ints -/
def rNiO (C : Addr) (sp : Sp) (E : XK) : R2 := fun x y H Q => ∃ a dx fs, y = .ref a ∧ H a = some (.ins C dx fs) ∧ sp [y, x] H (fun v H' => ∃ b, v = .bl b ∧ Q (.bl (!b)) H') E
section
variable {X : Cx} {CX : CXT} {k : Nat} {g C : Addr} {fd : FuncData} {ps : List Str} {sp : Sp} {E : XK}
theorem op_niO (hs : PySem.W.findIn X.K (.ref C) "__contains__" = some (some (.ref g))) (hf : PySem.W.isFn X.K (.ref g) = true) (F : FnOk X.prog X.w X.K X.mg X.base CX k g fd ps sp) (hr : Room k X.A) (hb : Binds X.K fd ps []) (hx : Passes CX X E) :
    OpR X (compareOp .NotIn) (rNiO C sp E) := by
  intro pins s σ H x y v u Q I rx ry h
  obtain ⟨a, dx, fs, rfl, ha, q⟩ := h
  cases (show u = Value.ref a from ry)
  obtain ⟨ox, od, J⟩ := inst_at I ha
  obtain ⟨m, hF⟩ := I.fr
  refine PySem.W.notIn_K hF I.ok.mod.kin J hs hf (wpAny_mono (run_fn (ds := []) (dvs := []) (vs := [.ref a, x]) F hr hb .nil hx I (.cons rfl (.cons rx .nil)) (by rw [List.append_nil]; exact q)) (fun w s' z => ?_) fun _ _ e => e)
  obtain ⟨z', H', I', rz, b, rfl, qz⟩ := z
  cases rz
  exact wpAny_truthy_bool ⟨.bl (!b), H', I', rfl, qz⟩
end
section
variable {σ : L2.St} {H : Hp} {Q : VK} {K : PySem.W.Frag}
theorem r_isBl {a b : Bool} (h : Q (.bl (decide (a = b))) H) : rIsB (.bl a) (.bl b) H Q := ⟨a, b, rfl, rfl, h⟩
theorem r_notBl {a b : Bool} (h : Q (.bl (!decide (a = b))) H) : rNotB (.bl a) (.bl b) H Q := ⟨a, b, rfl, rfl, h⟩
def rMax2 : List V → Hp → VK → Prop := fun xs H Q => ∃ i j, xs = [.int i, .int j] ∧ Q (.int (if j > i then j else i)) H
theorem c_max2 {X : Cx} (hc : X.calm = true) : CallR X (.builtin "max") rMax2 := call_max2 hc
theorem r_max2 {i j : Int} (h : ∀ m : Int, i ≤ m → j ≤ m → (m = i ∨ m = j) → m = max i j → Q (.int m) H) : rMax2 [.int i, .int j] H Q := by
  refine ⟨i, j, rfl, h _ ?_ ?_ ?_ ?_⟩
  all_goals split
  all_goals omega
end
/-! ### comprehensions that make a new tuple for each item -/
theorem lc_tups {σ : L2.St} {H : Hp} {Q : VK} {te : TE} {K : PySem.W.Frag} {a : Addr} {xs : List V} {n : Nat} (f : V → List V) (hS : SqL K H a xs) (hz : xs.length ≤ 1000)
    (he : ∀ (x : V) (H' : Hp) (QQ : VK), x ∈ xs → Same H H' → (∀ u H'', H' u = none → H'' u = some (.tup (f x)) → Same H' H'' → QQ (.ref u) H'') → te ((wipe σ [n]).set n (some x)) H' QQ)
    (hq : ∀ D (us : List Addr) H', H D = none → us.length = xs.length → H' D = some (.lst (us.map V.ref)) → (∀ (j : Nat) (u : Addr) (x : V), us[j]? = some u → xs[j]? = some x → H' u = some (.tup (f x))) → Same H H' → Q (.ref D) H') : lcGo (Itl K a) (gName n) tYes te [n] σ Q H := by
  intro D nD
  refine lc_list (K := K) (a := a) (xs := xs) (fun i H' => ∃ us : List Addr, us.length = i ∧ H' D = some (.lst (us.map V.ref)) ∧ (∀ (j : Nat) (u : Addr) (x : V), us[j]? = some u → xs[j]? = some x → H' u = some (.tup (f x))) ∧ Same H H') ⟨[], rfl, upd_same, fun j u x h => (by cases h), same_new nD⟩ (fun i H' _ ⟨_, _, _, _, s⟩ => s.seq hS) ?_ ?_
  · rintro i x H4 hx ⟨us, hl, hD4, hu, s4⟩
    refine ⟨wipe1, ?_⟩
    show te _ _ _
    refine he x H4 _ (List.mem_of_getElem? hx) s4 fun u H5 nu hu5 s5 => ?_
    have hD5 := s5 _ _ hD4
    have hi : i < xs.length := (List.getElem?_eq_some_iff.mp hx).1
    refine ⟨_, hD5, small1000 (by rw [List.length_map, hl]; omega), us ++ [u], by rw [List.length_append, hl]; rfl, by rw [upd_same, List.map_append]; rfl, fun j v y h1 h2 => ?_, fun b o e => (upd_ne (ne_of_none e nD)).trans (s5 _ _ (s4 _ _ e))⟩
    rcases Nat.lt_or_ge j us.length with hj | hj
    · rw [List.getElem?_append_left hj] at h1
      have z := s5 _ _ (hu j v y h1 h2)
      exact (upd_ne (ne_of z hD5 fun q => nomatch q)).trans z
    · rw [List.getElem?_append_right hj] at h1
      cases hk : j - us.length with
      | zero =>
        rw [hk] at h1
        cases h1
        have : j = i := by omega
        rw [this, hx] at h2
        cases h2
        exact (upd_ne (ne_of hu5 hD5 fun q => nomatch q)).trans hu5
      | succ m => rw [hk] at h1; cases h1
  · rintro H4 ⟨us, hl, hD4, hu, s4⟩
    exact hq D us H4 nD hl hD4 hu s4
theorem three_of {α : Type} {us : List α} (h : us.length = 3) : ∃ a b c, us = [a, b, c] := by
  match us, h with
  | [a, b, c], _ => exact ⟨a, b, c, rfl⟩
theorem int_to {a b : Int} {Q : VK} {H : Hp} (q : Q (.int b) H) (e : a = b) : Q (.int a) H := e ▸ q
def top (i : Nat) : Stmt := PySem.Challenge.pw_windowrows_k21_cells.main.body.getD i (.Pass ⟨0, 0, 0, 0⟩)
abbrev s_TurnedStretch___init__ : Stmt := inClass (top 3) 0
theorem sc_TurnedStretch___init__ : FnScope ["self", "low", "high"] ["self", "low", "high"] (defScope s_TurnedStretch___init__) := ⟨rfl, rfl, rfl, by decide +kernel, rfl, by decide +kernel, by decide +kernel⟩
abbrev s_BadOffset___init__ : Stmt := inClass (top 4) 0
theorem sc_BadOffset___init__ : FnScope ["self", "rows", "groups", "distance"] ["self", "rows", "groups", "distance"] (defScope s_BadOffset___init__) := ⟨rfl, rfl, rfl, by decide +kernel, rfl, by decide +kernel, by decide +kernel⟩
abbrev s_possible : Stmt := top 6
theorem sc_possible : FnScope ["rows", "groups", "distance"] ["rows", "groups", "distance"] (defScope s_possible) := ⟨rfl, rfl, rfl, by decide +kernel, rfl, by decide +kernel, by decide +kernel⟩
abbrev s_zone_of : Stmt := top 7
theorem sc_zone_of : FnScope ["rows", "groups"] ["rows", "groups"] (defScope s_zone_of) := ⟨rfl, rfl, rfl, by decide +kernel, rfl, by decide +kernel, by decide +kernel⟩
abbrev s_Offset___init__ : Stmt := inClass (top 8) 0
theorem sc_Offset___init__ : FnScope ["self", "rows", "groups", "distance"] ["self", "rows", "groups", "distance"] (defScope s_Offset___init__) := ⟨rfl, rfl, rfl, by decide +kernel, rfl, by decide +kernel, by decide +kernel⟩
abbrev s_Stretch___init__ : Stmt := inClass (top 10) 0
theorem sc_Stretch___init__ : FnScope ["self", "low", "high"] ["self", "low", "high"] (defScope s_Stretch___init__) := ⟨rfl, rfl, rfl, by decide +kernel, rfl, by decide +kernel, by decide +kernel⟩
abbrev s_Stretch___contains__ : Stmt := inClass (top 10) 1
theorem sc_Stretch___contains__ : FnScope ["self", "number"] ["self", "number"] (defScope s_Stretch___contains__) := ⟨rfl, rfl, rfl, by decide +kernel, rfl, by decide +kernel, by decide +kernel⟩
abbrev s_Stretch___eq__ : Stmt := inClass (top 10) 5
theorem sc_Stretch___eq__ : FnScope ["self", "other"] ["self", "other"] (defScope s_Stretch___eq__) := ⟨rfl, rfl, rfl, by decide +kernel, rfl, by decide +kernel, by decide +kernel⟩
abbrev s_nearest_to : Stmt := top 12
theorem sc_nearest_to : FnScope ["stretch"] ["stretch"] (defScope s_nearest_to) := ⟨rfl, rfl, rfl, by decide +kernel, rfl, by decide +kernel, by decide +kernel⟩
abbrev s_Cell___init__ : Stmt := inClass (top 13) 0
theorem sc_Cell___init__ : FnScope ["self", "zone", "rows", "groups", "distance"] ["self", "zone", "rows", "groups", "distance"] (defScope s_Cell___init__) := ⟨rfl, rfl, rfl, by decide +kernel, rfl, by decide +kernel, by decide +kernel⟩
abbrev s_Cell___contains__ : Stmt := inClass (top 13) 1
theorem sc_Cell___contains__ : FnScope ["self", "offset"] ["self", "offset"] (defScope s_Cell___contains__) := ⟨rfl, rfl, rfl, by decide +kernel, rfl, by decide +kernel, by decide +kernel⟩
abbrev s_Cell___eq__ : Stmt := inClass (top 13) 2
theorem sc_Cell___eq__ : FnScope ["self", "other"] ["self", "other"] (defScope s_Cell___eq__) := ⟨rfl, rfl, rfl, by decide +kernel, rfl, by decide +kernel, by decide +kernel⟩
abbrev s_Cell_nearest : Stmt := inClass (top 13) 3
theorem sc_Cell_nearest : FnScope ["self", "sign", "least", "rows", "distance"] ["self"] (defScope s_Cell_nearest) := ⟨rfl, rfl, rfl, by decide +kernel, rfl, by decide +kernel, by decide +kernel⟩
abbrev s__law_begin : Stmt := top 15
theorem sc__law_begin : FnScope ["_law_script", "_law_cells", "_law_cell"] ["_law_script"] (defScope s__law_begin) := ⟨rfl, rfl, rfl, by decide +kernel, rfl, by decide +kernel, by decide +kernel⟩
abbrev s__law_draw : Stmt := top 16
theorem sc__law_draw : FnScope ["_law_draws", "_law_many", "_law_turn", "_law_at", "_law_cell", "_law_got", "_law_first", "_law_salt", "_law_second", "_law_mixed", "_law_third"] ["_law_draws", "_law_many"] (defScope s__law_draw) := ⟨rfl, rfl, rfl, by decide +kernel, rfl, by decide +kernel, by decide +kernel⟩
abbrev s__law_numbers : Stmt := top 17
theorem sc__law_numbers : FnScope ["_law_draws", "_law_way", "_law_d", "_law_g", "_law_k"] ["_law_draws"] (defScope s__law_numbers) := ⟨rfl, rfl, rfl, by decide +kernel, rfl, by decide +kernel, by decide +kernel⟩
abbrev s__law_stretch : Stmt := top 18
theorem sc__law_stretch : FnScope ["_law_draws", "_law_bottom", "_law_wide", "_law_low", "_law_way"] ["_law_draws", "_law_bottom", "_law_wide"] (defScope s__law_stretch) := ⟨rfl, rfl, rfl, by decide +kernel, rfl, by decide +kernel, by decide +kernel⟩
abbrev s__law_turned : Stmt := top 19
theorem sc__law_turned : FnScope ["_law_pair", "_law_sign"] ["_law_pair", "_law_sign"] (defScope s__law_turned) := ⟨rfl, rfl, rfl, by decide +kernel, rfl, by decide +kernel, by decide +kernel⟩
abbrev s__law_made : Stmt := top 20
theorem sc__law_made : FnScope ["_law_zone_here", "_law_three_here", "_law_sign"] ["_law_zone_here", "_law_three_here", "_law_sign"] (defScope s__law_made) := ⟨rfl, rfl, rfl, by decide +kernel, rfl, by decide +kernel, by decide +kernel⟩
abbrev s__law_three : Stmt := top 21
theorem sc__law_three : FnScope ["_law_draws", "_law_way", "_law_groups", "_law_wide", "_law_rows"] ["_law_draws", "_law_way"] (defScope s__law_three) := ⟨rfl, rfl, rfl, by decide +kernel, rfl, by decide +kernel, by decide +kernel⟩
abbrev s__law_in : Stmt := top 22
theorem sc__law_in : FnScope ["_law_pair", "_law_spot"] ["_law_pair", "_law_spot"] (defScope s__law_in) := ⟨rfl, rfl, rfl, by decide +kernel, rfl, by decide +kernel, by decide +kernel⟩
abbrev s__law_zone : Stmt := top 23
theorem sc__law_zone : FnScope ["_law_d", "_law_g"] ["_law_d", "_law_g"] (defScope s__law_zone) := ⟨rfl, rfl, rfl, by decide +kernel, rfl, by decide +kernel, by decide +kernel⟩
abbrev s__law_other : Stmt := top 24
theorem sc__law_other : FnScope ["_law_draws", "_law_way", "_law_zone_here", "_law_three_here", "_law_sign", "_law_other_here", "_law_axis"] ["_law_draws", "_law_way", "_law_zone_here", "_law_three_here", "_law_sign"] (defScope s__law_other) := ⟨rfl, rfl, rfl, by decide +kernel, rfl, by decide +kernel, by decide +kernel⟩
abbrev s__law_ends : Stmt := top 25
theorem sc__law_ends : FnScope ["_law_three_here", "_law_sign", "_law_found", "_law_pair"] ["_law_three_here", "_law_sign"] (defScope s__law_ends) := ⟨rfl, rfl, rfl, by decide +kernel, rfl, by decide +kernel, by decide +kernel⟩
abbrev s_law : Stmt := top 26
theorem sc_law : FnScope ["_law_script", "_law_draws", "_law_way", "_law_sign", "_law_zone_here", "_law_three_here", "_law_cell", "_law_d", "_law_g", "_law_far", "_law_held", "_law_found", "_law_due", "_law_other_here", "_law_k", "_law_again", "_law_one"] ["_law_script"] (defScope s_law) := ⟨rfl, rfl, rfl, by decide +kernel, rfl, by decide +kernel, by decide +kernel⟩
structure Txt (K : PySem.W.Frag) (mg : Str → Option Value) where
  f_TurnedStretch___init__ : Addr
  d_TurnedStretch___init__ : FuncData
  F_TurnedStretch___init__ : Fun K "__init__" "TurnedStretch.__init__" s_TurnedStretch___init__ f_TurnedStretch___init__ d_TurnedStretch___init__
  b_TurnedStretch___init__ : Binds K d_TurnedStretch___init__ ["self", "low", "high"] []
  f_BadOffset___init__ : Addr
  d_BadOffset___init__ : FuncData
  F_BadOffset___init__ : Fun K "__init__" "BadOffset.__init__" s_BadOffset___init__ f_BadOffset___init__ d_BadOffset___init__
  b_BadOffset___init__ : Binds K d_BadOffset___init__ ["self", "rows", "groups", "distance"] []
  f_possible : Addr
  d_possible : FuncData
  F_possible : Fun K "possible" "possible" s_possible f_possible d_possible
  b_possible : Binds K d_possible ["rows", "groups", "distance"] []
  g_possible : mg "possible" = some (.ref f_possible)
  f_zone_of : Addr
  d_zone_of : FuncData
  F_zone_of : Fun K "zone_of" "zone_of" s_zone_of f_zone_of d_zone_of
  b_zone_of : Binds K d_zone_of ["rows", "groups"] []
  g_zone_of : mg "zone_of" = some (.ref f_zone_of)
  f_Offset___init__ : Addr
  d_Offset___init__ : FuncData
  F_Offset___init__ : Fun K "__init__" "Offset.__init__" s_Offset___init__ f_Offset___init__ d_Offset___init__
  b_Offset___init__ : Binds K d_Offset___init__ ["self", "rows", "groups", "distance"] []
  f_Stretch___init__ : Addr
  d_Stretch___init__ : FuncData
  F_Stretch___init__ : Fun K "__init__" "Stretch.__init__" s_Stretch___init__ f_Stretch___init__ d_Stretch___init__
  b_Stretch___init__ : Binds K d_Stretch___init__ ["self", "low", "high"] []
  f_Stretch___contains__ : Addr
  d_Stretch___contains__ : FuncData
  F_Stretch___contains__ : Fun K "__contains__" "Stretch.__contains__" s_Stretch___contains__ f_Stretch___contains__ d_Stretch___contains__
  b_Stretch___contains__ : Binds K d_Stretch___contains__ ["self", "number"] []
  f_Stretch___eq__ : Addr
  d_Stretch___eq__ : FuncData
  F_Stretch___eq__ : Fun K "__eq__" "Stretch.__eq__" s_Stretch___eq__ f_Stretch___eq__ d_Stretch___eq__
  b_Stretch___eq__ : Binds K d_Stretch___eq__ ["self", "other"] []
  f_nearest_to : Addr
  d_nearest_to : FuncData
  F_nearest_to : Fun K "nearest_to" "nearest_to" s_nearest_to f_nearest_to d_nearest_to
  b_nearest_to : Binds K d_nearest_to ["stretch"] []
  g_nearest_to : mg "nearest_to" = some (.ref f_nearest_to)
  f_Cell___init__ : Addr
  d_Cell___init__ : FuncData
  F_Cell___init__ : Fun K "__init__" "Cell.__init__" s_Cell___init__ f_Cell___init__ d_Cell___init__
  b_Cell___init__ : Binds K d_Cell___init__ ["self", "zone", "rows", "groups", "distance"] []
  f_Cell___contains__ : Addr
  d_Cell___contains__ : FuncData
  F_Cell___contains__ : Fun K "__contains__" "Cell.__contains__" s_Cell___contains__ f_Cell___contains__ d_Cell___contains__
  b_Cell___contains__ : Binds K d_Cell___contains__ ["self", "offset"] []
  f_Cell___eq__ : Addr
  d_Cell___eq__ : FuncData
  F_Cell___eq__ : Fun K "__eq__" "Cell.__eq__" s_Cell___eq__ f_Cell___eq__ d_Cell___eq__
  b_Cell___eq__ : Binds K d_Cell___eq__ ["self", "other"] []
  f_Cell_nearest : Addr
  d_Cell_nearest : FuncData
  F_Cell_nearest : Fun K "nearest" "Cell.nearest" s_Cell_nearest f_Cell_nearest d_Cell_nearest
  b_Cell_nearest : Binds K d_Cell_nearest ["self"] []
  f__law_begin : Addr
  d__law_begin : FuncData
  F__law_begin : Fun K "_law_begin" "_law_begin" s__law_begin f__law_begin d__law_begin
  b__law_begin : Binds K d__law_begin ["_law_script"] []
  g__law_begin : mg "_law_begin" = some (.ref f__law_begin)
  f__law_draw : Addr
  d__law_draw : FuncData
  F__law_draw : Fun K "_law_draw" "_law_draw" s__law_draw f__law_draw d__law_draw
  b__law_draw : Binds K d__law_draw ["_law_draws", "_law_many"] []
  g__law_draw : mg "_law_draw" = some (.ref f__law_draw)
  f__law_numbers : Addr
  d__law_numbers : FuncData
  F__law_numbers : Fun K "_law_numbers" "_law_numbers" s__law_numbers f__law_numbers d__law_numbers
  b__law_numbers : Binds K d__law_numbers ["_law_draws"] []
  g__law_numbers : mg "_law_numbers" = some (.ref f__law_numbers)
  f__law_stretch : Addr
  d__law_stretch : FuncData
  F__law_stretch : Fun K "_law_stretch" "_law_stretch" s__law_stretch f__law_stretch d__law_stretch
  b__law_stretch : Binds K d__law_stretch ["_law_draws", "_law_bottom", "_law_wide"] []
  g__law_stretch : mg "_law_stretch" = some (.ref f__law_stretch)
  f__law_turned : Addr
  d__law_turned : FuncData
  F__law_turned : Fun K "_law_turned" "_law_turned" s__law_turned f__law_turned d__law_turned
  b__law_turned : Binds K d__law_turned ["_law_pair", "_law_sign"] []
  g__law_turned : mg "_law_turned" = some (.ref f__law_turned)
  f__law_made : Addr
  d__law_made : FuncData
  F__law_made : Fun K "_law_made" "_law_made" s__law_made f__law_made d__law_made
  b__law_made : Binds K d__law_made ["_law_zone_here", "_law_three_here", "_law_sign"] []
  g__law_made : mg "_law_made" = some (.ref f__law_made)
  f__law_three : Addr
  d__law_three : FuncData
  F__law_three : Fun K "_law_three" "_law_three" s__law_three f__law_three d__law_three
  b__law_three : Binds K d__law_three ["_law_draws", "_law_way"] []
  g__law_three : mg "_law_three" = some (.ref f__law_three)
  f__law_in : Addr
  d__law_in : FuncData
  F__law_in : Fun K "_law_in" "_law_in" s__law_in f__law_in d__law_in
  b__law_in : Binds K d__law_in ["_law_pair", "_law_spot"] []
  g__law_in : mg "_law_in" = some (.ref f__law_in)
  f__law_zone : Addr
  d__law_zone : FuncData
  F__law_zone : Fun K "_law_zone" "_law_zone" s__law_zone f__law_zone d__law_zone
  b__law_zone : Binds K d__law_zone ["_law_d", "_law_g"] []
  g__law_zone : mg "_law_zone" = some (.ref f__law_zone)
  f__law_other : Addr
  d__law_other : FuncData
  F__law_other : Fun K "_law_other" "_law_other" s__law_other f__law_other d__law_other
  b__law_other : Binds K d__law_other ["_law_draws", "_law_way", "_law_zone_here", "_law_three_here", "_law_sign"] []
  g__law_other : mg "_law_other" = some (.ref f__law_other)
  f__law_ends : Addr
  d__law_ends : FuncData
  F__law_ends : Fun K "_law_ends" "_law_ends" s__law_ends f__law_ends d__law_ends
  b__law_ends : Binds K d__law_ends ["_law_three_here", "_law_sign"] []
  g__law_ends : mg "_law_ends" = some (.ref f__law_ends)
  f_law : Addr
  d_law : FuncData
  F_law : Fun K "law" "law" s_law f_law d_law
  b_law : Binds K d_law ["_law_script"] []
  g_law : mg "law" = some (.ref f_law)
  z_abs : mg "abs" = none
  z_int : mg "int" = none
  z_isinstance : mg "isinstance" = none
  z_len : mg "len" = none
  z_max : mg "max" = none
  z_range : mg "range" = none
  C_WindowError : Addr
  C_TurnedStretch : Addr
  C_BadOffset : Addr
  C_Stretch : Addr
  C_Offset : Addr
  C_Cell : Addr
  g_WindowError : mg "WindowError" = some (.ref C_WindowError)
  g_TurnedStretch : mg "TurnedStretch" = some (.ref C_TurnedStretch)
  ox_TurnedStretch : OexC K C_TurnedStretch
  xf_TurnedStretch : XfC K C_TurnedStretch
  iC_TurnedStretch : PySem.W.findIn K (.ref C_TurnedStretch) "__init__" = some (some (.ref f_TurnedStretch___init__))
  tI_TurnedStretch : PySem.W.typeIn K (.ref f_TurnedStretch___init__) = some (.type "function")
  nf_TurnedStretch_low : PySem.W.findIn K (.ref C_TurnedStretch) "low" = some none
  nf_TurnedStretch_high : PySem.W.findIn K (.ref C_TurnedStretch) "high" = some none
  em_TurnedStretch_TurnedStretch : PySem.W.exmOne K (.ref C_TurnedStretch) (.ref C_TurnedStretch) = some true
  is_TurnedStretch_TurnedStretch : PySem.W.isIn K (.ref C_TurnedStretch) C_TurnedStretch = true
  g_BadOffset : mg "BadOffset" = some (.ref C_BadOffset)
  ox_BadOffset : OexC K C_BadOffset
  xf_BadOffset : XfC K C_BadOffset
  iC_BadOffset : PySem.W.findIn K (.ref C_BadOffset) "__init__" = some (some (.ref f_BadOffset___init__))
  tI_BadOffset : PySem.W.typeIn K (.ref f_BadOffset___init__) = some (.type "function")
  nf_BadOffset_rows : PySem.W.findIn K (.ref C_BadOffset) "rows" = some none
  nf_BadOffset_groups : PySem.W.findIn K (.ref C_BadOffset) "groups" = some none
  nf_BadOffset_distance : PySem.W.findIn K (.ref C_BadOffset) "distance" = some none
  em_BadOffset_BadOffset : PySem.W.exmOne K (.ref C_BadOffset) (.ref C_BadOffset) = some true
  is_BadOffset_BadOffset : PySem.W.isIn K (.ref C_BadOffset) C_BadOffset = true
  g_Stretch : mg "Stretch" = some (.ref C_Stretch)
  c_Stretch : Cls K C_Stretch
  m_Stretch : Mk K C_Stretch f_Stretch___init__
  nf_Stretch_low : NoAttr K C_Stretch "low"
  nf_Stretch_high : NoAttr K C_Stretch "high"
  mt_Stretch___contains__ : Meth K C_Stretch "__contains__" f_Stretch___contains__
  mt_Stretch___eq__ : Meth K C_Stretch "__eq__" f_Stretch___eq__
  ca_Stretch : PySem.W.findIn K (.ref C_Stretch) "__class__" = some (some (.builtin "object.__class__"))
  cn_Stretch : PySem.W.specialIn K (.builtin "object.__class__") "__get__" = some (some (.builtin "getset_descriptor.__get__"))
  ct_Stretch : PySem.W.takesIn K (.builtin "object.__class__") = some true
  cm_Stretch : PySem.W.mroIn K C_Stretch (.type "object") = some true
  ne_Stretch : PySem.W.findIn K (.ref C_Stretch) "__ne__" = some (some (.builtin "object.__ne__"))
  ob_Stretch : PySem.W.subIn K (.ref C_Stretch) (.type "object") = some true
  nt_Stretch : PySem.W.notFirst K C_Stretch (.ref C_Stretch) = true
  g_Offset : mg "Offset" = some (.ref C_Offset)
  c_Offset : Cls K C_Offset
  m_Offset : Mk K C_Offset f_Offset___init__
  nf_Offset_rows : NoAttr K C_Offset "rows"
  nf_Offset_groups : NoAttr K C_Offset "groups"
  nf_Offset_distance : NoAttr K C_Offset "distance"
  nf_Offset_zone : NoAttr K C_Offset "zone"
  ca_Offset : PySem.W.findIn K (.ref C_Offset) "__class__" = some (some (.builtin "object.__class__"))
  cn_Offset : PySem.W.specialIn K (.builtin "object.__class__") "__get__" = some (some (.builtin "getset_descriptor.__get__"))
  ct_Offset : PySem.W.takesIn K (.builtin "object.__class__") = some true
  cm_Offset : PySem.W.mroIn K C_Offset (.type "object") = some true
  g_Cell : mg "Cell" = some (.ref C_Cell)
  c_Cell : Cls K C_Cell
  m_Cell : Mk K C_Cell f_Cell___init__
  nf_Cell_zone : NoAttr K C_Cell "zone"
  nf_Cell_rows : NoAttr K C_Cell "rows"
  nf_Cell_groups : NoAttr K C_Cell "groups"
  nf_Cell_distance : NoAttr K C_Cell "distance"
  mt_Cell___contains__ : Meth K C_Cell "__contains__" f_Cell___contains__
  mt_Cell___eq__ : Meth K C_Cell "__eq__" f_Cell___eq__
  mt_Cell_nearest : Meth K C_Cell "nearest" f_Cell_nearest
  ca_Cell : PySem.W.findIn K (.ref C_Cell) "__class__" = some (some (.builtin "object.__class__"))
  cn_Cell : PySem.W.specialIn K (.builtin "object.__class__") "__get__" = some (some (.builtin "getset_descriptor.__get__"))
  ct_Cell : PySem.W.takesIn K (.builtin "object.__class__") = some true
  cm_Cell : PySem.W.mroIn K C_Cell (.type "object") = some true
  nt_Cell : PySem.W.notFirst K C_Cell (.ref C_Cell) = true
  nt_Cell_list : PySem.W.notFirst K C_Cell (.type "list") = true
  nt_Cell_str : PySem.W.notFirst K C_Cell (.type "str") = true
  ki_Cell_list : PySem.W.kitOne K (.type "list") (.ref C_Cell) = some false
  ki_Cell_str : PySem.W.kitOne K (.type "str") (.ref C_Cell) = some false
  nt_Cell_Offset : PySem.W.notFirst K C_Cell (.ref C_Offset) = true
  ki_Cell_Offset : PySem.W.kitOne K (.ref C_Offset) (.ref C_Cell) = some false

def possB (r g d : Int) : Bool := decide ((g = 0 ∧ d = 0) ∨ (g < 0 ∧ r ≤ g ∧ d ≤ g) ∨ (0 < g ∧ g ≤ r ∧ g ≤ d))
theorem poss_neg (r g d : Int) : possB (-r) (-g) (-d) = possB r g d := by
  unfold possB
  rw [decide_eq_decide]
  omega
def zoneS (r g : Int) : Str := if r = 0 then "self" else if g = 0 then (if 0 < r then "after" else "before") else if 0 < g then "future" else "past"
def offF (r g d : Int) : List (Str × V) := putF "zone" (.str (zoneS r g)) (putF "distance" (.int d) (putF "groups" (.int g) (putF "rows" (.int r) [])))
theorem n_rg : ¬ (("rows" : Str) = "groups") := by decide +kernel
theorem n_rd : ¬ (("rows" : Str) = "distance") := by decide +kernel
theorem n_rz : ¬ (("rows" : Str) = "zone") := by decide +kernel
theorem n_gd : ¬ (("groups" : Str) = "distance") := by decide +kernel
theorem n_gz : ¬ (("groups" : Str) = "zone") := by decide +kernel
theorem n_dz : ¬ (("distance" : Str) = "zone") := by decide +kernel
theorem off_rows (r g d : Int) : (offF r g d).lookup ("rows" : Str) = some (.int r) := by
  unfold offF
  rw [lookup_putF, if_neg n_rz, lookup_putF, if_neg n_rd, lookup_putF, if_neg n_rg, lookup_putF, if_pos rfl]
theorem off_groups (r g d : Int) : (offF r g d).lookup ("groups" : Str) = some (.int g) := by
  unfold offF
  rw [lookup_putF, if_neg n_gz, lookup_putF, if_neg n_gd, lookup_putF, if_pos rfl]
theorem off_distance (r g d : Int) : (offF r g d).lookup ("distance" : Str) = some (.int d) := by
  unfold offF
  rw [lookup_putF, if_neg n_dz, lookup_putF, if_pos rfl]
theorem off_zone (r g d : Int) : (offF r g d).lookup ("zone" : Str) = some (.str (zoneS r g)) := by
  unfold offF
  rw [lookup_putF, if_pos rfl]
theorem off_no (r g d : Int) {m : Str} (h1 : ¬ m = "zone") (h2 : ¬ m = "distance") (h3 : ¬ m = "groups") (h4 : ¬ m = "rows") : (offF r g d).lookup m = none := by
  unfold offF
  rw [lookup_putF, if_neg h1, lookup_putF, if_neg h2, lookup_putF, if_neg h3, lookup_putF, if_neg h4]
  rfl
/-- an Offset stands at p -/
def OffAt (C : Addr) (H : Hp) (p : Addr) (r g d : Int) : Prop := ∃ dx, H p = some (.ins C dx (offF r g d))
theorem OffAt.same {C : Addr} {H H' : Hp} {p : Addr} {r g d : Int} (h : OffAt C H p r g d) (s : Same H H') : OffAt C H' p r g d := by
  obtain ⟨dx, e⟩ := h
  exact ⟨dx, s _ _ e⟩
/-- the dict of a BadOffset -/
def badF (r g d : Int) : List (Str × V) := [("distance", .int d), ("groups", .int g), ("rows", .int r)]
theorem bad_rows (r g d : Int) : (badF r g d).lookup ("rows" : Str) = some (.int r) := by
  unfold badF
  rw [lookup_put, if_neg n_rd, lookup_put, if_neg n_rg, lookup_put, if_pos rfl]
theorem bad_groups (r g d : Int) : (badF r g d).lookup ("groups" : Str) = some (.int g) := by
  unfold badF
  rw [lookup_put, if_neg n_gd, lookup_put, if_pos rfl]
theorem bad_distance (r g d : Int) : (badF r g d).lookup ("distance" : Str) = some (.int d) := by
  unfold badF
  rw [lookup_put, if_pos rfl]
def sp3 (f : Int → Int → Int → Bool) : Sp := fun vs H Q _ => ∃ a b c : Int, vs = [.int a, .int b, .int c] ∧ Q (.bl (f a b c)) H
def spZone2 : Sp := fun vs H Q _ => ∃ a b : Int, vs = [.int a, .int b] ∧ Q (.str (zoneS a b)) H
def spBInit (C : Addr) : Sp := fun vs H Q _ => ∃ (a : Addr) (r g d : Int), vs = [.ref a, .int r, .int g, .int d] ∧ H a = some (exo a C none) ∧
  ∀ (dx : Addr) (H' : Hp), H dx = none → H' a = some (exo a C (some dx)) → H' dx = some (exd dx (badF r g d)) → (∀ b o, H b = some o → b ≠ a → H' b = some o) → Q .non H'
def spOInit (C CB : Addr) : Sp := fun vs H Q E => ∃ (p dx : Addr) (r g d : Int), vs = [.ref p, .int r, .int g, .int d] ∧ H p = some (.ins C dx []) ∧
  (possB r g d = false → ∀ (dd : Addr) (H' : Hp), H dd = none → H' dd = some (.xd (badF r g d)) → Same H H' → E (.ref CB) (some dd) H') ∧
  (possB r g d = true → ∀ H', OffAt C H' p r g d → (∀ b o, H b = some o → b ≠ p → H' b = some o) → Q .non H')
def spOFew (C : Addr) : Sp := fun vs H Q _ => ∃ (p : Addr) (r g d : Int), vs = [.ref p] ∧ OffAt C H p r g d ∧ Q (.int (1 + (if r < 0 then -r else r))) H
def spONeg (C : Addr) : Sp := fun vs H Q _ => ∃ (p : Addr) (r g d : Int), vs = [.ref p] ∧ OffAt C H p r g d ∧ possB r g d = true ∧ ∀ x H', H x = none → Same H H' → OffAt C H' x (-r) (-g) (-d) → Q (.ref x) H'
def spOAdd (C CB : Addr) : Sp := fun vs H Q E => ∃ (p q : Addr) (r g d r' g' d' : Int), vs = [.ref p, .ref q] ∧ OffAt C H p r g d ∧ OffAt C H q r' g' d' ∧
  (possB (r + r') (g + g') (d + d') = false → ∀ (dd : Addr) (H' : Hp), H' dd = some (.xd (badF (r + r') (g + g') (d + d'))) → Same H H' → E (.ref CB) (some dd) H') ∧
  (possB (r + r') (g + g') (d + d') = true → ∀ x H', H x = none → Same H H' → OffAt C H' x (r + r') (g + g') (d + d') → Q (.ref x) H')
def spOEq (C : Addr) : Sp := fun vs H Q _ => ∃ (p q : Addr) (r g d r' g' d' : Int), vs = [.ref p, .ref q] ∧ OffAt C H p r g d ∧ OffAt C H q r' g' d' ∧ Q (.bl (decide (r = r') && (decide (g = g') && decide (d = d')))) H
theorem same_two {H : Hp} {x dx C : Addr} (nx : H x = none) (nd : H dx = none) : Same H (upd (upd H dx (.own x)) x (.ins C dx [])) := fun b o e => (upd_ne (ne_of_none e nx)).trans ((upd_ne (ne_of_none e nd)).trans e)
theorem make_off {C CB : Addr} {H : Hp} {Q : VK} {E : XK} {r g d : Int} (hn : possB r g d = false → ∀ (dd : Addr) (H' : Hp), H' dd = some (.xd (badF r g d)) → Same H H' → E (.ref CB) (some dd) H') (h : possB r g d = true → ∀ x H', H x = none → Same H H' → OffAt C H' x r g d → Q (.ref x) H') :
    ∀ x dx, H x = none → H dx = none → dx ≠ x → spOInit C CB (.ref x :: ([.int r, .int g, .int d] ++ [])) (upd (upd H dx (.own x)) x (.ins C dx [])) (fun v H2 => v = .non ∧ Q (.ref x) H2) E :=
  fun x dx nx nd _ => ⟨x, dx, r, g, d, rfl, upd_same, fun hf dd H' _ hd s => hn hf dd H' hd ((same_two nx nd).trans s), fun ht H' ho hk => ⟨rfl, h ht x H' nx (same_make nx nd hk) ho⟩⟩
/-- the same, read for any end -/
theorem make_offF {C CB : Addr} {H : Hp} {F : Addr → Hp → Prop} {E : XK} {r g d : Int} (hb : possB r g d = true) (h : ∀ x H', H x = none → Same H H' → OffAt C H' x r g d → F x H') :
    ∀ x dx, H x = none → H dx = none → dx ≠ x → spOInit C CB (.ref x :: ([.int r, .int g, .int d] ++ [])) (upd (upd H dx (.own x)) x (.ins C dx [])) (fun v H2 => v = .non ∧ F x H2) E :=
  fun x dx nx nd _ => ⟨x, dx, r, g, d, rfl, upd_same, fun hf => (by rw [hb] at hf; cases hf), fun _ H' ho hk => ⟨rfl, h x H' nx (same_make nx nd hk) ho⟩⟩

abbrev Pr2 := Option Int × Option Int
def cellF (z : Str) (pr pg pd : Addr) : List (Str × V) := putF "distance" (.ref pd) (putF "groups" (.ref pg) (putF "rows" (.ref pr) (putF "zone" (.str z) [])))
theorem cell_zone (z : Str) (pr pg pd : Addr) : (cellF z pr pg pd).lookup ("zone" : Str) = some (.str z) := by
  unfold cellF
  rw [lookup_putF, if_neg (by decide +kernel), lookup_putF, if_neg (by decide +kernel), lookup_putF, if_neg (by decide +kernel), lookup_putF, if_pos rfl]
theorem cell_rows (z : Str) (pr pg pd : Addr) : (cellF z pr pg pd).lookup ("rows" : Str) = some (.ref pr) := by
  unfold cellF
  rw [lookup_putF, if_neg (by decide +kernel), lookup_putF, if_neg (by decide +kernel), lookup_putF, if_pos rfl]
theorem cell_groups (z : Str) (pr pg pd : Addr) : (cellF z pr pg pd).lookup ("groups" : Str) = some (.ref pg) := by
  unfold cellF
  rw [lookup_putF, if_neg (by decide +kernel), lookup_putF, if_pos rfl]
theorem cell_distance (z : Str) (pr pg pd : Addr) : (cellF z pr pg pd).lookup ("distance" : Str) = some (.ref pd) := by
  unfold cellF
  rw [lookup_putF, if_pos rfl]
theorem cell_no (z : Str) (pr pg pd : Addr) {m : Str} (h1 : ¬ m = "distance") (h2 : ¬ m = "groups") (h3 : ¬ m = "rows") (h4 : ¬ m = "zone") : (cellF z pr pg pd).lookup m = none := by
  unfold cellF
  rw [lookup_putF, if_neg h1, lookup_putF, if_neg h2, lookup_putF, if_neg h3, lookup_putF, if_neg h4]
  rfl
structure Cl where
  z : Str
  a : Pr2
  b : Pr2
  c : Pr2
/-- a Cell stands at p -/
structure CellAt (CC CS : Addr) (H : Hp) (p : Addr) (l : Cl) : Prop where
  ex : ∃ dx pr pg pd, H p = some (.ins CC dx (cellF l.z pr pg pd)) ∧ StrAt CS H pr l.a.1 l.a.2 ∧ StrAt CS H pg l.b.1 l.b.2 ∧ StrAt CS H pd l.c.1 l.c.2
theorem CellAt.same {CC CS : Addr} {H H' : Hp} {p : Addr} {l : Cl} (h : CellAt CC CS H p l) (s : Same H H') : CellAt CC CS H' p l := by
  obtain ⟨dx, pr, pg, pd, h1, h2, h3, h4⟩ := h
  exact ⟨dx, pr, pg, pd, s _ _ h1, h2.same s, h3.same s, h4.same s⟩
def Cl.has (l : Cl) (r g d : Int) : Bool := decide (zoneS r g = l.z) && (inB l.a.1 l.a.2 r && (inB l.b.1 l.b.2 g && inB l.c.1 l.c.2 d))
def nrst : Option Int → Option Int → Int
  | some a, some b => if 0 < a then a else if b < 0 then b else 0
  | some a, none => if 0 < a then a else 0
  | none, some b => if b < 0 then b else 0
  | none, none => 0
def absI (x : Int) : Int := if x < 0 then -x else x
def spNrst (C : Addr) : Sp := fun vs H Q _ => ∃ (p : Addr) (lo hi : Option Int), vs = [.ref p] ∧ StrAt C H p lo hi ∧ Q (.int (nrst lo hi)) H
def spCInit (CC CS : Addr) : Sp := fun vs H Q _ => ∃ (p dx pr pg pd : Addr) (z : Str), vs = [.ref p, .str z, .ref pr, .ref pg, .ref pd] ∧ H p = some (.ins CC dx []) ∧
  ∀ H', H' p = some (.ins CC dx (cellF z pr pg pd)) → (∀ b o, H b = some o → b ≠ p → H' b = some o) → Q .non H'
def spCIn (CC CS CO : Addr) : Sp := fun vs H Q _ => ∃ (p q : Addr) (l : Cl) (r g d : Int), vs = [.ref p, .ref q] ∧ CellAt CC CS H p l ∧ OffAt CO H q r g d ∧ Q (.bl (l.has r g d)) H
def Cl.eqB (l m : Cl) : Bool := decide (l.z = m.z ∧ l.a = m.a ∧ l.b = m.b ∧ l.c = m.c)
def spCEq (K : PySem.W.Frag) (CC CS : Addr) : Sp := fun vs H Q _ => ∃ (p : Addr) (l : Cl) (v : V), vs = [.ref p, v] ∧ CellAt CC CS H p l ∧
  ((∃ (q : Addr) (m : Cl), v = .ref q ∧ CellAt CC CS H q m ∧ Q (.bl (l.eqB m)) H) ∨
   (∃ t, TyX K H v t ∧ PySem.W.kitOne K t (.ref CC) = some false ∧ Q (.bl false) H))
def sgnZ (z : Str) : Int := if inV (.str z) [V.str "past", V.str "before"] = true then -1 else 1
def Cl.lg (l : Cl) : Int := absI (nrst l.b.1 l.b.2)
def Cl.lr (l : Cl) : Int := max (absI (nrst l.a.1 l.a.2)) l.lg
def Cl.ld (l : Cl) : Int := max (absI (nrst l.c.1 l.c.2)) l.lg
def spCNear (CC CS CO : Addr) : Sp := fun vs H Q _ => ∃ (p : Addr) (l : Cl), vs = [.ref p] ∧ CellAt CC CS H p l ∧ possB (sgnZ l.z * l.lr) (sgnZ l.z * l.lg) (sgnZ l.z * l.ld) = true ∧
  ∀ x H', H x = none → Same H H' → OffAt CO H' x (sgnZ l.z * l.lr) (sgnZ l.z * l.lg) (sgnZ l.z * l.ld) → Q (.ref x) H'
def spSEq2 (K : PySem.W.Frag) (C : Addr) : Sp := fun vs H Q _ => ∃ (p : Addr) (lo hi : Option Int) (v : V), vs = [.ref p, v] ∧ StrAt C H p lo hi ∧
  ((∃ (q : Addr) (lo' hi' : Option Int), v = .ref q ∧ StrAt C H q lo' hi' ∧ Q (.bl (decide (lo = lo' ∧ hi = hi'))) H) ∨
   (∃ t, TyX K H v t ∧ PySem.W.kitOne K t (.ref C) = some false ∧ Q (.bl false) H))
theorem eqE (a b : Option Int) : decide (endV a = endV b) = decide (a = b) := by
  rw [decide_eq_decide]
  cases a <;> cases b <;> simp [endV]
theorem scalE (a b : Option Int) : scal (endV a) (endV b) = true := by cases a <;> cases b <;> rfl
theorem make_str {C CT : Addr} {H : Hp} {F : Addr → Hp → Prop} {E : XK} {lo hi : Option Int} (hb : turnedB lo hi = false) (h : ∀ x H', H x = none → Same H H' → StrAt C H' x lo hi → F x H') :
    ∀ x dx, H x = none → H dx = none → dx ≠ x → spSInit C CT (.ref x :: ([endV lo, endV hi] ++ [])) (upd (upd H dx (.own x)) x (.ins C dx [])) (fun v H2 => v = .non ∧ F x H2) E :=
  fun x dx nx nd _ => ⟨x, dx, lo, hi, rfl, upd_same, fun hf => (by rw [hb] at hf; cases hf), fun _ H' ho hk => ⟨rfl, h x H' nx (same_make nx nd hk) ho⟩⟩
theorem make_cell {CC CS : Addr} {H : Hp} {F : Addr → Hp → Prop} {E : XK} {l : Cl} {pr pg pd : Addr} (h2 : StrAt CS H pr l.a.1 l.a.2) (h3 : StrAt CS H pg l.b.1 l.b.2) (h4 : StrAt CS H pd l.c.1 l.c.2) (h : ∀ x H', H x = none → Same H H' → CellAt CC CS H' x l → F x H') :
    ∀ x dx, H x = none → H dx = none → dx ≠ x → spCInit CC CS (.ref x :: ([.str l.z, .ref pr, .ref pg, .ref pd] ++ [])) (upd (upd H dx (.own x)) x (.ins CC dx [])) (fun v H2 => v = .non ∧ F x H2) E :=
  fun x dx nx nd _ => ⟨x, dx, pr, pg, pd, l.z, rfl, upd_same, fun H' ho hk => ⟨rfl, h x H' nx (same_make nx nd hk) ⟨dx, pr, pg, pd, ho, h2.same (same_make nx nd hk), h3.same (same_make nx nd hk), h4.same (same_make nx nd hk)⟩⟩⟩
local macro_rules | `(tactic| wtm_at "rd1") => `(tactic| with_reducible first
  | refine r_seq ?_ | refine r_next ?_ | refine r_asg ?_ | refine r_drop ?_ | refine r_ret ?_ | refine r_ifs ?_ | refine r_gname ?_ | refine r_gsub ?_ | refine r_gcons ?_ | refine r_gnil ?_
  | refine r_var rfl ?_ | refine r_c ?_ | refine r_op ?_ | refine r_un ?_ | refine r_I0 ?_ | refine r_U ?_ | refine r_test ?_ | refine r_tB ?_ | refine r_bl ?_
  | refine r_and ?_ | refine r_or ?_ | refine r_not ?_ | refine r_andV ?_ | refine r_orV ?_ | refine r_notV ?_ | refine r_ife ?_
  | refine r_eqI ?_ | refine r_neI ?_ | refine r_eqB ?_ | refine r_neB ?_ | refine r_eqS ?_ | refine r_neS ?_
  | refine r_nil ?_ | refine r_cons ?_ | refine r_cb ?_ | refine r_call ?_ | refine r_lst ?_ | refine r_tup ?_ | refine r_int1 ?_ | refine r_intB ?_ | refine r_abs1 ?_ | refine r_bm ?_ | refine r_sl ?_ | refine r_np ?_ | refine r_pt ?_ | refine r_pti ?_ | refine r_lc ?_ | refine r_il ?_ | refine r_it ?_ | refine r_rng1 ?_ | refine r_rng2 ?_ | refine r_callN ?_ | refine r_fld ?_ | refine r_sfld ?_ | refine r_meth ?_ | refine r_make ?_ | refine r_aug rfl ?_ | refine r_ipI ?_ | refine r_par ?_ | refine r_par3 ?_ | refine r_two ?_ | refine r_three ?_)
local macro_rules | `(tactic| wtm_at "ixs") => `(tactic| first
  | ((with_reducible show rIxL _ (V.ref _) (V.int _) _ _); refine r_ixL (.inl (.inl (by assumption))) (by first | rfl | exact ati_n (by omega) | exact ati_int (by omega) (by omega)) ?_)
  | ((with_reducible show rIxT _ (V.ref _) (V.int _) _ _); refine r_ixT (.inl (.inl (by assumption))) (by first | rfl | exact ati_n (by omega) | exact ati_int (by omega) (by omega)) ?_))
local macro_rules | `(tactic| wtm_at "rd") => `(tactic| repeat first | wtm_at "rd1" | wtm_at "ixs")
local macro_rules | `(tactic| wtm_at "rdi") => `(tactic| repeat' (first | wtm_at "rd1" | wtm_at "ixs" | with_reducible refine iteT ?_ | with_reducible refine iteF ?_ | with_reducible refine iteNT ?_ | with_reducible refine iteNF ?_ | with_reducible refine r_ite (fun _ => ?_) (fun _ => ?_) | with_reducible refine r_iten (fun _ => ?_) (fun _ => ?_)))
local macro_rules | `(tactic| wtm_at "rd1") => `(tactic| with_reducible first
  | refine r_binS ?_ | refine r_makeS ?_ | refine r_makeKS ?_ | refine r_xf ?_ | refine r_ost ?_ | refine r_isNi ?_ | refine r_isNn ?_ | refine r_isNr ?_ | refine r_notNi ?_ | refine r_notNn ?_ | refine r_notNr ?_ | refine r_isNe ?_ | refine r_notNe ?_)
local macro_rules | `(tactic| wtm_at "rd1") => `(tactic| with_reducible refine r_makeN ?_)
local macro_rules | `(tactic| wtm_at "rd1") => `(tactic| with_reducible first | refine r_isBl ?_ | refine r_notBl ?_)
section
variable {P : Program} {w : World} {K : PySem.W.Frag} {mg : Str → Option Value} {base : Heap}
theorem ok__law_draw (T : Txt K mg) : FnOk P w K mg base CX0 1 T.f__law_draw T.d__law_draw ["_law_draws", "_law_many"] spDraw := by
  refine T.F__law_draw.ok sc__law_draw (fun vs H Q E h => ?_) (fun cdv A outer s H vs Q E hr h => ?_)
  · obtain ⟨d, c, r, m, rfl, _⟩ := h
    rfl
  · obtain ⟨d, c, r, m, rfl, D, m0, m1, q⟩ := h
    obtain ⟨dc, dr, cr, ns, rs, t, h1, h2, h3, hl, hp, ht, hn⟩ := D
    refine ⟨_, (pss_cons (ps_set (i := 2) sc__law_draw.nd rfl (by first | exact Or.inl rfl | exact Or.inr rfl) (pe_ix (r := rIxL K) ix_list (pv 0) pe_int (fun _ _ => rfl)))
      (pss_cons (ps_asg (pe_op op_add (pv 2) pe_int) (pg_sub (pv 0) pe_int set_list))
      (pss_cons (ps_set (i := 3) sc__law_draw.nd rfl (by first | exact Or.inl rfl | exact Or.inr rfl) (pe_op op_mod (pe_callTy c_int1 (by rfl) T.z_int (by decide +kernel) (pa_cons (pv 2) pa_nil)) (pe_callB (r := rLenL K) (id := "len") c_len (by rfl) T.z_len (by decide +kernel) (pa_cons (pe_ix (r := rIxL K) ix_list (pv 0) pe_int (fun _ _ => rfl)) pa_nil))))
      (pss_cons (ps_set (i := 4) sc__law_draw.nd rfl (by first | exact Or.inl rfl | exact Or.inr rfl) (pe_ix (r := rIxL K) ix_list (pe_ix (r := rIxL K) ix_list (pv 0) pe_int (fun _ _ => rfl)) (pv 3) (fun _ _ => rfl)))
      (pss_cons (ps_if (pt_cmpR op_gt (pe_ix (r := rIxL K) ix_list (pe_ix (r := rIxL K) ix_list (pv 0) pe_int (fun _ _ => rfl)) (pv 3) (fun _ _ => rfl)) pe_int (nomark _)) (pss_cons (ps_set (i := 5) sc__law_draw.nd rfl (by first | exact Or.inl rfl | exact Or.inr rfl) (pe_op op_mod (pe_callTy c_int1 (by rfl) T.z_int (by decide +kernel) (pa_cons (pe_ix (r := rIxL K) ix_list (pe_ix (r := rIxL K) ix_list (pv 0) pe_int (fun _ _ => rfl)) (pv 3) (fun _ _ => rfl)) pa_nil)) (pv 1)))
      (pss_cons (ps_asg (pe_op op_fdivW (pe_ix (r := rIxL K) ix_list (pe_ix (r := rIxL K) ix_list (pv 0) pe_int (fun _ _ => rfl)) (pv 3) (fun _ _ => rfl)) (pv 1)) (pg_sub (pe_ix (r := rIxL K) ix_list (pv 0) pe_int (fun _ _ => rfl)) (pv 3) set_list))
      (pss_one (ps_ret (pv 5))))) pss_nil)
      (pss_cons (ps_set (i := 6) sc__law_draw.nd rfl (by first | exact Or.inl rfl | exact Or.inr rfl) (pe_op op_mod (pe_callTy c_int1 (by rfl) T.z_int (by decide +kernel) (pa_cons (pe_op op_mul (pe_op op_add (pe_op op_mod (pe_callTy c_int1 (by rfl) T.z_int (by decide +kernel) (pa_cons (pv 4) pa_nil)) pe_int) pe_int) (pe_op op_add (pv 2) pe_int)) pa_nil)) pe_int))
      (pss_cons (ps_set (i := 7) sc__law_draw.nd rfl (by first | exact Or.inl rfl | exact Or.inr rfl) (pe_op op_add (pe_op op_mod (pe_callTy c_int1 (by rfl) T.z_int (by decide +kernel) (pa_cons (pv 4) pa_nil)) pe_int) (pe_op op_mul pe_int (pv 2))))
      (pss_cons (ps_set (i := 8) sc__law_draw.nd rfl (by first | exact Or.inl rfl | exact Or.inr rfl) (pe_op op_mod (pe_callTy c_int1 (by rfl) T.z_int (by decide +kernel) (pa_cons (pe_op op_add (pe_op op_add (pe_op op_mul (pv 6) (pv 6)) (pe_op op_mul pe_int (pv 6))) (pv 7)) pa_nil)) pe_int))
      (pss_cons (ps_set (i := 9) sc__law_draw.nd rfl (by first | exact Or.inl rfl | exact Or.inr rfl) (pe_op op_add (pe_op op_mul (pe_op op_mod (pe_callTy c_int1 (by rfl) T.z_int (by decide +kernel) (pa_cons (pv 8) pa_nil)) pe_int) pe_int) (pe_op op_mul (pe_op op_fdivW (pv 8) pe_int) pe_int)))
      (pss_cons (ps_set (i := 10) sc__law_draw.nd rfl (by first | exact Or.inl rfl | exact Or.inr rfl) (pe_op op_mod (pe_callTy c_int1 (by rfl) T.z_int (by decide +kernel) (pa_cons (pe_op op_add (pv 9) (pv 6)) pa_nil)) pe_int))
      (pss_cons (ps_if (pt_cmpR op_le (pv 1) pe_int (nomark _)) (pss_one (ps_ret (pe_op op_mod (pe_callTy c_int1 (by rfl) T.z_int (by decide +kernel) (pa_cons (pv 10) pa_nil)) (pv 1)))) pss_nil)
      (pss_one (ps_ret (pe_op op_mod (pe_callTy c_int1 (by rfl) T.z_int (by decide +kernel) (pa_cons (pe_op op_add (pe_op op_mul (pv 10) pe_int) (pv 8)) pa_nil)) (pv 1))))))))))))))), ?_⟩
    try simp only [nox_K, cx_K]
    wtm_at "rd"
    refine r_setL (n := 2) h1 rfl ?_
    have g1 : (upd H d (.lst ([.ref c, .ref r, .int t].set 2 (.int (t + 1))))) d = some (.lst [.ref c, .ref r, .int (t + 1)]) := upd_same
    have g2 : (upd H d (.lst ([.ref c, .ref r, .int t].set 2 (.int (t + 1))))) c = some (.lst (ns.map V.int)) := (upd_ne dc.symm).trans h2
    have g3 : (upd H d (.lst ([.ref c, .ref r, .int t].set 2 (.int (t + 1))))) r = some (.lst (rs.map V.int)) := (upd_ne dr.symm).trans h3
    have e1 : Ext d r H (upd H d (.lst ([.ref c, .ref r, .int t].set 2 (.int (t + 1))))) := fun b o e n1 n2 => (upd_ne n1).trans e
    revert g1 g2 g3 e1
    generalize (upd H d (.lst ([.ref c, .ref r, .int t].set 2 (.int (t + 1))))) = H1
    intro g1 g2 g3 e1
    wtm_at "rd"
    refine r_lenI g2 ?_
    refine r_mod (by omega) fun at_ a0 a1 _ => ?_
    wtm_at "rd"
    refine r_ite (fun c1 => ?_) (fun c1 => ?_)
    · wtm_at "rd"
      refine r_mod m0 fun k k0 k1 _ => ?_
      wtm_at "rd"
      refine r_fdiv m0 m1 fun z z0 _ => ?_
      wtm_at "rd"
      refine r_setL g3 (ixn_in a0 (by rw [List.length_map]; omega)) ?_
      wtm_at "rd"
      refine q k _ k0 k1 ⟨dc, dr, cr, ns, rs.set at_.toNat z, t + 1, (upd_ne dr).trans g1, (upd_ne cr).trans g2, ?_, ?_, hp, by omega, ?_⟩ (fun b o e n1 n2 => (upd_ne n2).trans (e1 b o e n1 n2))
      · rw [upd_same, List.map_set]
      · rw [List.length_set]; exact hl
      · intro x hx
        rcases List.mem_or_eq_of_mem_set hx with e | e
        · exact hn x e
        · rw [e]; exact z0 (by omega)
    · wtm_at "rd"
      refine r_mod (by decide) fun x1 l1 u1 _ => ?_
      wtm_at "rd"
      refine r_mul (.inl ⟨by omega, by omega⟩) fun x2 _ => ?_
      wtm_at "rd"
      refine r_mod (by decide) fun first f0 f1 _ => ?_
      wtm_at "rd"
      refine r_mod (by decide) fun x3 l3 u3 _ => ?_
      wtm_at "rd"
      refine r_mul (.inl ⟨by omega, by omega⟩) fun x4 _ => ?_
      wtm_at "rd"
      refine r_mul (.inl ⟨by omega, by omega⟩) fun x5 _ => ?_
      wtm_at "rd"
      refine r_mul (.inl ⟨by omega, by omega⟩) fun x6 _ => ?_
      wtm_at "rd"
      refine r_mod (by decide) fun second s0 s1 _ => ?_
      wtm_at "rd"
      refine r_mod (by decide) fun x7 l7 u7 _ => ?_
      wtm_at "rd"
      refine r_mul (.inl ⟨by omega, by omega⟩) fun x8 _ => ?_
      wtm_at "rd"
      refine r_fdiv (by decide) (by decide) fun x9 _ _ => ?_
      wtm_at "rd"
      refine r_mul (.inr ⟨by omega, by omega⟩) fun x10 _ => ?_
      wtm_at "rd"
      refine r_mod (by decide) fun third t0 t1 _ => ?_
      wtm_at "rd"
      refine r_ite (fun c2 => ?_) (fun c2 => ?_)
      · wtm_at "rd"
        refine r_mod m0 fun k k0 k1 _ => ?_
        exact q k _ k0 k1 ⟨dc, dr, cr, ns, rs, t + 1, g1, g2, g3, hl, hp, by omega, hn⟩ e1
      · wtm_at "rd"
        refine r_mul (.inl ⟨by omega, by omega⟩) fun x11 _ => ?_
        wtm_at "rd"
        refine r_mod m0 fun k k0 k1 _ => ?_
        exact q k _ k0 k1 ⟨dc, dr, cr, ns, rs, t + 1, g1, g2, g3, hl, hp, by omega, hn⟩ e1
theorem ok__law_begin (T : Txt K mg) : FnOk P w K mg base CX0 1 T.f__law_begin T.d__law_begin ["_law_script"] (spBegin K) := by
  refine T.F__law_begin.ok sc__law_begin (fun vs H Q E h => ?_) (fun cdv A outer s H vs Q E hr h => ?_)
  · obtain ⟨a, ns, rfl, _⟩ := h
    rfl
  obtain ⟨a, ns, rfl, hS, hlen, q⟩ := h
  refine ⟨_, (pss_cons (ps_setLc (i := 1) (own := [("_law_cell", 2)]) (g := gName 2) (tt := tYes) rfl sc__law_begin.nd rfl rfl (sw_true rfl rfl rfl (by decide +kernel)) (pi_list (pe_slice sl_list (pv 0) po_none (po_some pe_int))) (blkOk_by (N := ["_law_script", "_law_cells", "_law_cell"]) (sc := defScope s__law_begin) (by decide +kernel)) (fun _ _ _ _ _ => pg_name (i := 2) sc__law_begin.nd rfl (by first | exact Or.inl rfl | exact Or.inr rfl)) (fun _ _ _ _ _ => pts_nil) (fun _ _ _ _ _ => (pe_callTy c_int1 (by rfl) T.z_int (by decide +kernel) (pa_cons (pv 2) pa_nil))))
      (C8.pss_cut (ps_if (pt_cmpR op_eq (pe_callB (r := rLenL K) (id := "len") c_len (by rfl) T.z_len (by decide +kernel) (pa_cons (pv 1) pa_nil)) pe_int (nomark _)) (pss_one (ps_set (i := 1) sc__law_begin.nd rfl (by first | exact Or.inl rfl | exact Or.inr rfl) (pe_lst (pa_cons pe_int pa_nil)))) pss_nil)
      (pss_one (ps_ret (pe_lst (pa_cons (pv 1) (pa_cons (pe_lc (own := [("_law_cell", 2)]) (g := gName 2) (tt := tYes) rfl sc__law_begin.nd (pi_list (pv 1)) (blkOk_by (N := ["_law_script", "_law_cells", "_law_cell"]) (sc := defScope s__law_begin) (by decide +kernel)) (fun _ _ _ _ _ => pg_name (i := 2) sc__law_begin.nd rfl (by first | exact Or.inl rfl | exact Or.inr rfl)) (fun _ _ _ _ _ => pts_nil) (fun _ _ _ _ _ => (pe_op op_mul (pe_callB c_abs (by rfl) T.z_abs (by decide +kernel) (pa_cons (pv 2) pa_nil)) (pe_callTy c_intB (by rfl) T.z_int (by decide +kernel) (pa_cons (pe_cmpR op_ge (pe_callB c_abs (by rfl) T.z_abs (by decide +kernel) (pa_cons (pv 2) pa_nil)) (pe_op op_pow pe_int pe_int) (nomark _)) pa_nil))))) (pa_cons pe_int pa_nil)))))))), ?_⟩
  try simp only [nox_K, cx_K]
  wtm_at "rd"
  refine r_slL hS fun p np => ?_
  have s1 : Same H (upd H p (.lst (cutV (ns.map V.int) none (some 63)))) := same_new np
  have e0 : cutV (ns.map V.int) none (some 63) = ns.map V.int := cut_none (n := 63) (by rw [List.length_map]; exact hlen)
  rw [e0] at s1 ⊢
  have hp : (upd H p (.lst (ns.map V.int))) p = some (.lst (ns.map V.int)) := upd_same
  refine r_itl (SqL.of hp) ?_
  refine lc_map (fun x => x) (SqL.of hp) (by rw [List.length_map]; omega) (fun x H' QQ hx s' hQ => ?_) (fun c nc => ?_)
  · obtain ⟨y, _, rfl⟩ := List.mem_map.mp hx
    wtm_at "rd"
    exact hQ
  have s2 := s1.trans (same_new (o := .lst ((ns.map V.int).map fun x => x)) nc)
  have hc : (upd (upd H p (.lst (ns.map V.int))) c (.lst ((ns.map V.int).map fun x => x))) c = some (.lst (ns.map V.int)) := by rw [upd_same, List.map_id']
  revert s2 hc
  generalize (upd (upd H p (.lst (ns.map V.int))) c (.lst ((ns.map V.int).map fun x => x))) = H2
  intro s2 hc
  wtm_at "rd"
  refine ⟨fun σ H1 => ∃ (c : Addr) (ms : List Int) (x3 : Option V), σ = [some (.ref a), some (.ref c), x3] ∧ H1 c = some (.lst (ms.map V.int)) ∧ 0 < ms.length ∧ ms.length ≤ 63 ∧ Same H H1 ∧ H c = none, ?_, ?_⟩
  · wtm_at "rd"
    refine r_lenI hc ?_
    wtm_at "rd"
    refine r_ite (fun e => ?_) (fun e => ?_)
    · wtm_at "rd"
      refine r_new rfl fun c2 nc2 => ?_
      wtm_at "rd"
      exact ⟨c2, [0], _, rfl, upd_same, by decide, by decide, s2.trans (same_new nc2), s2.free nc2⟩
    · wtm_at "rd"
      exact ⟨c, ns, _, rfl, hc, by omega, hlen, s2, s1.free nc⟩
  rintro σ H1 ⟨c, ms, x3, rfl, hc, h0, h63, s1, nc⟩
  wtm_at "rd"
  refine r_itl (SqL.of hc) ?_
  refine lc_map restOf (SqL.of hc) (by rw [List.length_map]; omega) (fun x H' QQ hx s' hQ => ?_) (fun r nr => ?_)
  · obtain ⟨y, _, rfl⟩ := List.mem_map.mp hx
    wtm_at "rd"
    refine r_I ⟨by decide, by decide, by decide⟩ ?_
    wtm_at "rd"
    exact r_I (.inr bit_ok) hQ
  have s2 : Same H1 (upd H1 r (.lst ((ms.map V.int).map restOf))) := same_new nr
  wtm_at "rd"
  refine r_new rfl fun d nd => ?_
  have hd : H d = none := (s1.trans s2).free nd
  have hcr : c ≠ r := ne_of_none hc nr
  have hdc : d ≠ c := (ne_of_none (s2 _ _ hc) nd).symm
  have hdr : d ≠ r := (ne_of_none (upd_same (H := H1) (a := r)) nd).symm
  refine q d c r _ ⟨hdc, hdr, hcr, ms, ms.map restI, 0, upd_same, ?_, ?_, ?_, h0, by decide, ?_⟩ ((s1.trans s2).trans (same_new nd)) hd nc (s1.free nr)
  · rw [upd_ne hdc.symm]; exact s2 _ _ hc
  · rw [upd_ne hdr.symm, upd_same, rest_map]
  · rw [List.length_map]
  · intro x hx
    obtain ⟨y, _, rfl⟩ := List.mem_map.mp hx
    exact rest_nn y

theorem off_ty (T : Txt K mg) {H : Hp} {p : Addr} {r g d : Int} (h : OffAt T.C_Offset H p r g d) : TyX K H (.ref p) (.ref T.C_Offset) := by
  obtain ⟨dx, e⟩ := h
  exact .base (.ins e T.c_Offset T.ca_Offset T.cn_Offset T.ct_Offset T.cm_Offset)
theorem kit_self {K : PySem.W.Frag} {v : Value} : PySem.W.kitOne K v v = some true := by
  unfold PySem.W.kitOne
  rw [if_pos (beq_self_eq_true v)]
section
variable {H : Hp} {Q : VK} {p : Addr} {r g d : Int} {F : V → Prop}
theorem r_rows (T : Txt K mg) (o : OffAt T.C_Offset H p r g d) (h : F (.int r)) : ∃ a C dx fs v, V.ref p = .ref a ∧ H a = some (.ins C dx fs) ∧ Cls K C ∧ NoAttr K C "rows" ∧ fs.lookup ("rows" : Str) = some v ∧ F v := by
  obtain ⟨dx, e⟩ := o
  exact r_get e T.c_Offset T.nf_Offset_rows (off_rows r g d) h
theorem r_groups (T : Txt K mg) (o : OffAt T.C_Offset H p r g d) (h : F (.int g)) : ∃ a C dx fs v, V.ref p = .ref a ∧ H a = some (.ins C dx fs) ∧ Cls K C ∧ NoAttr K C "groups" ∧ fs.lookup ("groups" : Str) = some v ∧ F v := by
  obtain ⟨dx, e⟩ := o
  exact r_get e T.c_Offset T.nf_Offset_groups (off_groups r g d) h
theorem r_distance (T : Txt K mg) (o : OffAt T.C_Offset H p r g d) (h : F (.int d)) : ∃ a C dx fs v, V.ref p = .ref a ∧ H a = some (.ins C dx fs) ∧ Cls K C ∧ NoAttr K C "distance" ∧ fs.lookup ("distance" : Str) = some v ∧ F v := by
  obtain ⟨dx, e⟩ := o
  exact r_get e T.c_Offset T.nf_Offset_distance (off_distance r g d) h
theorem r_zone (T : Txt K mg) (o : OffAt T.C_Offset H p r g d) (h : F (.str (zoneS r g))) : ∃ a C dx fs v, V.ref p = .ref a ∧ H a = some (.ins C dx fs) ∧ Cls K C ∧ NoAttr K C "zone" ∧ fs.lookup ("zone" : Str) = some v ∧ F v := by
  obtain ⟨dx, e⟩ := o
  exact r_get e T.c_Offset T.nf_Offset_zone (off_zone r g d) h
theorem off_who {m : Str} {A : Prop} {C : Addr} (o : OffAt C H p r g d) (h1 : ¬ m = "zone") (h2 : ¬ m = "distance") (h3 : ¬ m = "groups") (h4 : ¬ m = "rows") (h : A) : ∃ a' dx fs, V.ref p = .ref a' ∧ H a' = some (.ins C dx fs) ∧ fs.lookup m = none ∧ A := by
  obtain ⟨dx, e⟩ := o
  exact r_who e (off_no r g d h1 h2 h3 h4) h
end
theorem ok_possible (T : Txt K mg) : FnOk P w K mg base CX0 1 T.f_possible T.d_possible ["rows", "groups", "distance"] (sp3 possB) := by
  refine T.F_possible.ok sc_possible (fun vs H Q E h => ?_) (fun cdv A outer s H vs Q E hr h => ?_)
  · obtain ⟨a, b, c, rfl, _⟩ := h
    rfl
  obtain ⟨a, b, c, rfl, q⟩ := h
  refine ⟨_, (pss_cons (ps_if (pt_cmpR op_eq (pv 1) pe_int (nomark _)) (pss_one (ps_ret (pe_cmpR op_eq (pv 2) pe_int (nomark _)))) pss_nil)
      (pss_cons (ps_if (pt_cmpR op_lt (pv 1) pe_int (nomark _)) (pss_one (ps_ret (pe_and (pe_cmpR op_le (pv 0) (pv 1) (nomark _)) (pe_one (pe_cmpR op_le (pv 2) (pv 1) (nomark _)))))) pss_nil)
      (pss_one (ps_ret (pe_and (pe_cmpR op_ge (pv 0) (pv 1) (nomark _)) (pe_one (pe_cmpR op_ge (pv 2) (pv 1) (nomark _)))))))), ?_⟩
  try simp only [nox_K, cx_K]
  wtm_at "rdi"
  all_goals (refine bl_to q ?_; rw [Bool.eq_iff_iff]; simp only [possB, decide_eq_true_eq, Bool.false_eq_true, eq_self, true_iff, false_iff]; omega)
theorem ok_zone_of (T : Txt K mg) : FnOk P w K mg base CX0 1 T.f_zone_of T.d_zone_of ["rows", "groups"] spZone2 := by
  refine T.F_zone_of.ok sc_zone_of (fun vs H Q E h => ?_) (fun cdv A outer s H vs Q E hr h => ?_)
  · obtain ⟨a, b, rfl, _⟩ := h
    rfl
  obtain ⟨a, b, rfl, q⟩ := h
  refine ⟨_, (pss_cons (ps_if (pt_cmpR op_eq (pv 0) pe_int (nomark _)) (pss_one (ps_ret pe_str)) pss_nil)
      (pss_cons (ps_if (pt_cmpR op_eq (pv 1) pe_int (nomark _)) (pss_one (ps_ret (pe_ifExp (pt_cmpR op_gt (pv 0) pe_int (nomark _)) pe_str pe_str))) pss_nil)
      (pss_one (ps_ret (pe_ifExp (pt_cmpR op_gt (pv 1) pe_int (nomark _)) pe_str pe_str))))), ?_⟩
  try simp only [nox_K, cx_K]
  unfold zoneS at q
  wtm_at "rdi"
  all_goals (simp only [*, if_true, if_false] at q; exact q)
theorem ok_BadOffset___init__ (T : Txt K mg) : FnOk P w K mg base CX0 1 T.f_BadOffset___init__ T.d_BadOffset___init__ ["self", "rows", "groups", "distance"] (spBInit T.C_BadOffset) := by
  refine T.F_BadOffset___init__.ok sc_BadOffset___init__ (fun vs H Q E h => ?_) (fun cdv A outer s H vs Q E hr h => ?_)
  · obtain ⟨a, r, g, d, rfl, _⟩ := h
    rfl
  obtain ⟨a, r, g, d, rfl, ha, q⟩ := h
  refine ⟨_, (pss_cons (ps_ost (pv 0) (pv 1))
      (pss_cons (ps_ost (pv 0) (pv 2))
      (pss_one (ps_ost (pv 0) (pv 3))))), ?_⟩
  try simp only [nox_K, cx_K]
  wtm_at "rd"
  refine ⟨a, _, rfl, T.ox_BadOffset, T.nf_BadOffset_rows, .inl ⟨ha, fun dx nd ne => ?_⟩⟩
  wtm_at "rd"
  refine ⟨a, _, rfl, T.ox_BadOffset, T.nf_BadOffset_groups, .inr ⟨dx, [("rows", .int r)], upd_same, ?_, Nat.le_of_ble_eq_true rfl, ?_⟩⟩
  · rw [upd_ne ne, upd_same]
  wtm_at "rd"
  refine ⟨a, _, rfl, T.ox_BadOffset, T.nf_BadOffset_distance, .inr ⟨dx, [("groups", .int g), ("rows", .int r)], ?_, upd_same, Nat.le_of_ble_eq_true rfl, ?_⟩⟩
  · rw [upd_ne ne.symm, upd_same]
  wtm_at "rd"
  refine q dx _ nd ?_ upd_same fun b o e nb => ?_
  · rw [upd_ne ne.symm, upd_ne ne.symm, upd_same]
  · rw [upd_ne (ne_of_none e nd), upd_ne (ne_of_none e nd), upd_ne nb, upd_ne (ne_of_none e nd)]
    exact e
theorem raise_bad {C : Addr} {r g d : Int} {H : Hp} {Q : XK} (h : ∀ (dd : Addr) (H' : Hp), H dd = none → H' dd = some (.xd (badF r g d)) → Same H H' → Q (.ref C) (some dd) H') :
    ∀ a, H a = none → spBInit C (.ref a :: ([.int r, .int g, .int d] ++ [])) (upd H a (exo a C none)) (fun v H2 => v = .non ∧ ∃ (dd : Addr) (fs : List (Str × V)), H2 a = some (exo a C (some dd)) ∧ H2 dd = some (exd dd fs) ∧ H dd = none ∧ Q (.ref C) (some dd) (upd (del H2 a) dd (.xd fs))) (fun _ _ _ => False) := by
  intro a na
  refine ⟨a, r, g, d, rfl, upd_same, fun dx H' nd ha hd hk => ⟨rfl, dx, badF r g d, ha, hd, (same_new na).free nd, ?_⟩⟩
  refine h dx _ ((same_new na).free nd) upd_same fun b o e => ?_
  have nb : b ≠ a := ne_of_none e na
  rw [upd_ne (ne_of_none e ((same_new na).free nd)), del_ne nb]
  exact hk b o (by rw [upd_ne nb]; exact e) nb
theorem ok_Offset___init__ (T : Txt K mg) : FnOk P w K mg base (L2.CX P w) 4 T.f_Offset___init__ T.d_Offset___init__ ["self", "rows", "groups", "distance"] (spOInit T.C_Offset T.C_BadOffset) := by
  refine T.F_Offset___init__.okX sc_Offset___init__ (fun vs H Q E h => ?_) (fun cdv A outer s H vs Q E hr h => ?_)
  · obtain ⟨p, dx, r, g, d, rfl, _⟩ := h
    rfl
  obtain ⟨p, dx, r, g, d, rfl, hp, qE, q⟩ := h
  refine ⟨_, (pss_cons (ps_if (pt_not (pt_val (pe_call (ok_possible T) (hr.mono (by decide)) (by rfl) T.g_possible T.F_possible.kp T.b_possible .nil pass0 (pa_cons (pv 1) (pa_cons (pv 2) (pa_cons (pv 3) pa_nil)))))) (pss_one (ps_raise rfl (takes_of rfl rfl rfl rfl) (pmk_oex T.ox_BadOffset T.iC_BadOffset T.tI_BadOffset (ok_BadOffset___init__ T) (hr.mono (by decide)) T.b_BadOffset___init__ .nil pass0 (by rfl) T.g_BadOffset (pa_cons (pv 1) (pa_cons (pv 2) (pa_cons (pv 3) pa_nil)))))) pss_nil)
      (pss_cons (ps_fld (pv 0) (pv 1) rfl)
      (pss_cons (ps_fld (pv 0) (pv 2) rfl)
      (pss_cons (ps_fld (pv 0) (pv 3) rfl)
      (pss_one (ps_fld (pv 0) (pe_call (ok_zone_of T) (hr.mono (by decide)) (by rfl) T.g_zone_of T.F_zone_of.kp T.b_zone_of .nil pass0 (pa_cons (pv 1) (pa_cons (pv 2) pa_nil))) rfl)))))), ?_⟩
  try simp only [nox_K, cx_K]
  wtm_at "rd"
  refine ⟨r, g, d, rfl, ?_⟩
  wtm_at "rd"
  refine r_itebn (fun hb => ?_) (fun hb => ?_)
  · refine ⟨.int r, rfl, .int g, rfl, .int d, rfl, Nat.le_of_ble_eq_true rfl, raise_bad fun dd H' nd hd s => ?_⟩
    exact qE hb dd H' nd hd s
  wtm_at "rd"
  refine r_put hp T.c_Offset T.nf_Offset_rows (by decide) ?_
  wtm_at "rd"
  refine r_put upd_same T.c_Offset T.nf_Offset_groups (by have := putF_len "rows" (.int r) []; exact Nat.lt_of_le_of_lt this (by decide)) ?_
  wtm_at "rd"
  refine r_put upd_same T.c_Offset T.nf_Offset_distance (Nat.lt_of_le_of_lt (Nat.le_trans (putF_len _ _ _) (Nat.succ_le_succ (putF_len _ _ _))) (by decide)) ?_
  wtm_at "rd"
  refine ⟨r, g, rfl, ?_⟩
  wtm_at "rd"
  refine r_put upd_same T.c_Offset T.nf_Offset_zone (Nat.lt_of_le_of_lt (Nat.le_trans (putF_len _ _ _) (Nat.succ_le_succ (Nat.le_trans (putF_len _ _ _) (Nat.succ_le_succ (putF_len _ _ _))))) (by decide)) ?_
  wtm_at "rd"
  refine q hb _ ⟨dx, upd_same⟩ fun b o e nb => ?_
  rw [upd_ne nb, upd_ne nb, upd_ne nb, upd_ne nb]
  exact e

theorem str_ty (T : Txt K mg) {H : Hp} {p : Addr} {lo hi : Option Int} (h : StrAt T.C_Stretch H p lo hi) : TyX K H (.ref p) (.ref T.C_Stretch) := by
  obtain ⟨dx, e⟩ := h
  exact .base (.ins e T.c_Stretch T.ca_Stretch T.cn_Stretch T.ct_Stretch T.cm_Stretch)
section
variable {H : Hp} {p : Addr} {lo hi : Option Int} {F : V → Prop}
theorem r_low (T : Txt K mg) (o : StrAt T.C_Stretch H p lo hi) (h : F (endV lo)) : ∃ a C dx fs v, V.ref p = .ref a ∧ H a = some (.ins C dx fs) ∧ Cls K C ∧ NoAttr K C "low" ∧ fs.lookup ("low" : Str) = some v ∧ F v := by
  obtain ⟨dx, e⟩ := o
  exact r_get e T.c_Stretch T.nf_Stretch_low (str_low lo hi) h
theorem r_high (T : Txt K mg) (o : StrAt T.C_Stretch H p lo hi) (h : F (endV hi)) : ∃ a C dx fs v, V.ref p = .ref a ∧ H a = some (.ins C dx fs) ∧ Cls K C ∧ NoAttr K C "high" ∧ fs.lookup ("high" : Str) = some v ∧ F v := by
  obtain ⟨dx, e⟩ := o
  exact r_get e T.c_Stretch T.nf_Stretch_high (str_high lo hi) h
theorem r_low1 {a : Int} (T : Txt K mg) (o : StrAt T.C_Stretch H p (some a) hi) (h : F (.int a)) : ∃ a C dx fs v, V.ref p = .ref a ∧ H a = some (.ins C dx fs) ∧ Cls K C ∧ NoAttr K C "low" ∧ fs.lookup ("low" : Str) = some v ∧ F v := r_low T o h
theorem r_low0 (T : Txt K mg) (o : StrAt T.C_Stretch H p none hi) (h : F .non) : ∃ a C dx fs v, V.ref p = .ref a ∧ H a = some (.ins C dx fs) ∧ Cls K C ∧ NoAttr K C "low" ∧ fs.lookup ("low" : Str) = some v ∧ F v := r_low T o h
theorem r_high1 {b : Int} (T : Txt K mg) (o : StrAt T.C_Stretch H p lo (some b)) (h : F (.int b)) : ∃ a C dx fs v, V.ref p = .ref a ∧ H a = some (.ins C dx fs) ∧ Cls K C ∧ NoAttr K C "high" ∧ fs.lookup ("high" : Str) = some v ∧ F v := r_high T o h
theorem r_high0 (T : Txt K mg) (o : StrAt T.C_Stretch H p lo none) (h : F .non) : ∃ a C dx fs v, V.ref p = .ref a ∧ H a = some (.ins C dx fs) ∧ Cls K C ∧ NoAttr K C "high" ∧ fs.lookup ("high" : Str) = some v ∧ F v := r_high T o h
theorem in_str {C : Addr} {n : Int} {Q : VK} {E : XK} (o : StrAt C H p lo hi) (h : Q (.bl (inB lo hi n)) H) : rInO C (spSIn C) E (.int n) (.ref p) H Q := by
  obtain ⟨dx, e⟩ := id o
  exact ⟨p, dx, _, rfl, e, p, lo, hi, n, rfl, o, _, rfl, h⟩
end
theorem ok_TurnedStretch___init__ (T : Txt K mg) : FnOk P w K mg base CX0 1 T.f_TurnedStretch___init__ T.d_TurnedStretch___init__ ["self", "low", "high"] (spTInit T.C_TurnedStretch) := by
  refine T.F_TurnedStretch___init__.ok sc_TurnedStretch___init__ (fun vs H Q E h => ?_) (fun cdv A outer s H vs Q E hr h => ?_)
  · obtain ⟨a, lo, hi, rfl, _⟩ := h
    rfl
  obtain ⟨a, lo, hi, rfl, ha, q⟩ := h
  refine ⟨_, (pss_cons (ps_ost (pv 0) (pv 1))
      (pss_one (ps_ost (pv 0) (pv 2)))), ?_⟩
  try simp only [nox_K, cx_K]
  wtm_at "rd"
  refine ⟨a, _, rfl, T.ox_TurnedStretch, T.nf_TurnedStretch_low, .inl ⟨ha, fun dx nd ne => ?_⟩⟩
  wtm_at "rd"
  refine ⟨a, _, rfl, T.ox_TurnedStretch, T.nf_TurnedStretch_high, .inr ⟨dx, [("low", endV lo)], upd_same, ?_, Nat.le_of_ble_eq_true rfl, ?_⟩⟩
  · rw [upd_ne ne, upd_same]
  wtm_at "rd"
  refine q dx _ nd ?_ upd_same fun b o e nb => ?_
  · rw [upd_ne ne.symm, upd_same]
  · rw [upd_ne (ne_of_none e nd), upd_ne nb, upd_ne (ne_of_none e nd)]
    exact e
theorem raise_turned {C : Addr} {lo hi : Option Int} {H : Hp} {Q : XK} (h : ∀ (d : Addr) (H' : Hp), H d = none → H' d = some (.xd (turnF lo hi)) → Same H H' → Q (.ref C) (some d) H') :
    ∀ a, H a = none → spTInit C (.ref a :: ([endV lo, endV hi] ++ [])) (upd H a (exo a C none)) (fun v H2 => v = .non ∧ ∃ (d : Addr) (fs : List (Str × V)), H2 a = some (exo a C (some d)) ∧ H2 d = some (exd d fs) ∧ H d = none ∧ Q (.ref C) (some d) (upd (del H2 a) d (.xd fs))) (fun _ _ _ => False) := by
  intro a na
  refine ⟨a, lo, hi, rfl, upd_same, fun dx H' nd ha hd hk => ⟨rfl, dx, turnF lo hi, ha, hd, (same_new na).free nd, ?_⟩⟩
  have nda : dx ≠ a := (ne_of_none (upd_same (H := H) (a := a) (o := exo a C none)) nd).symm
  refine h dx _ ((same_new na).free nd) upd_same fun b o e => ?_
  have nb : b ≠ a := ne_of_none e na
  rw [upd_ne (ne_of_none e ((same_new na).free nd)), del_ne nb]
  exact hk b o (by rw [upd_ne nb]; exact e) nb
theorem ok_Stretch___init__ (T : Txt K mg) : FnOk P w K mg base (L2.CX P w) 4 T.f_Stretch___init__ T.d_Stretch___init__ ["self", "low", "high"] (spSInit T.C_Stretch T.C_TurnedStretch) := by
  refine T.F_Stretch___init__.okX sc_Stretch___init__ (fun vs H Q E h => ?_) (fun cdv A outer s H vs Q E hr h => ?_)
  · obtain ⟨p, dx, lo, hi, rfl, _⟩ := h
    rfl
  obtain ⟨p, dx, lo, hi, rfl, hp, qE, q⟩ := h
  refine ⟨_, (pss_cons (ps_if (PW.pt (pw_and (pt_cmpR o_notN (pv 1) pe_non (nomark _)) (pw_and (pt_cmpR o_notN (pv 2) pe_non (nomark _)) (pw_and1 (pt_cmpR op_gt (pv 1) (pv 2) (nomark _)))))) (pss_one (ps_raise rfl (takes_of rfl rfl rfl rfl) (pmk_oex T.ox_TurnedStretch T.iC_TurnedStretch T.tI_TurnedStretch (ok_TurnedStretch___init__ T) (hr.mono (by decide)) T.b_TurnedStretch___init__ .nil pass0 (by rfl) T.g_TurnedStretch (pa_cons (pv 1) (pa_cons (pv 2) pa_nil))))) pss_nil)
      (pss_cons (ps_fld (pv 0) (pv 1) rfl)
      (pss_one (ps_fld (pv 0) (pv 2) rfl)))), ?_⟩
  try simp only [nox_K, cx_K]
  cases lo with
  | none =>
    cases hi with
    | none =>
      simp only [endV]
      wtm_at "rdi"
      refine r_put hp T.c_Stretch T.nf_Stretch_low (by decide) ?_
      wtm_at "rd"
      refine r_put upd_same T.c_Stretch T.nf_Stretch_high (Nat.lt_of_le_of_lt (putF_len _ _ _) (by decide)) ?_
      wtm_at "rd"
      refine q rfl _ ⟨dx, upd_same⟩ fun b o e nb => ?_
      rw [upd_ne nb, upd_ne nb]
      exact e
    | some b =>
      simp only [endV]
      wtm_at "rdi"
      refine r_put hp T.c_Stretch T.nf_Stretch_low (by decide) ?_
      wtm_at "rd"
      refine r_put upd_same T.c_Stretch T.nf_Stretch_high (Nat.lt_of_le_of_lt (putF_len _ _ _) (by decide)) ?_
      wtm_at "rd"
      refine q rfl _ ⟨dx, upd_same⟩ fun b o e nb => ?_
      rw [upd_ne nb, upd_ne nb]
      exact e
  | some a =>
    cases hi with
    | none =>
      simp only [endV]
      wtm_at "rdi"
      refine r_put hp T.c_Stretch T.nf_Stretch_low (by decide) ?_
      wtm_at "rd"
      refine r_put upd_same T.c_Stretch T.nf_Stretch_high (Nat.lt_of_le_of_lt (putF_len _ _ _) (by decide)) ?_
      wtm_at "rd"
      refine q rfl _ ⟨dx, upd_same⟩ fun b o e nb => ?_
      rw [upd_ne nb, upd_ne nb]
      exact e
    | some b =>
      simp only [endV]
      wtm_at "rdi"
      · refine ⟨.int a, rfl, .int b, rfl, Nat.le_of_ble_eq_true rfl, raise_turned (lo := some a) (hi := some b) fun d H' nd hd s => ?_⟩
        exact qE (decide_eq_true (by assumption)) d H' nd hd s
      · skip
        refine r_put hp T.c_Stretch T.nf_Stretch_low (by decide) ?_
        wtm_at "rd"
        refine r_put upd_same T.c_Stretch T.nf_Stretch_high (Nat.lt_of_le_of_lt (putF_len _ _ _) (by decide)) ?_
        wtm_at "rd"
        refine q (decide_eq_false (by assumption)) _ ⟨dx, upd_same⟩ fun b o e nb => ?_
        rw [upd_ne nb, upd_ne nb]
        exact e
theorem ok_Stretch___contains__ (T : Txt K mg) : FnOk P w K mg base CX0 1 T.f_Stretch___contains__ T.d_Stretch___contains__ ["self", "number"] (spSIn T.C_Stretch) := by
  refine T.F_Stretch___contains__.ok sc_Stretch___contains__ (fun vs H Q E h => ?_) (fun cdv A outer s H vs Q E hr h => ?_)
  · obtain ⟨p, lo, hi, n, rfl, _⟩ := h
    rfl
  obtain ⟨p, lo, hi, n, rfl, o, q⟩ := h
  refine ⟨_, (pss_cons (ps_if (PW.pt (pw_and (pt_cmpR o_notN (pe_fldK (K := K) (pv 0)) pe_non (nomark _)) (pw_and1 (pt_cmpR op_lt (pv 1) (pe_fldK (K := K) (pv 0)) (nomark _))))) (pss_one (ps_ret pe_bl)) pss_nil)
      (pss_one (ps_ret (pe_or (pe_cmpR o_isN (pe_fldK (K := K) (pv 0)) pe_non (nomark _)) (pe_one (pe_cmpR op_le (pv 1) (pe_fldK (K := K) (pv 0)) (nomark _))))))), ?_⟩
  try simp only [nox_K, cx_K]
  wtm_at "rd"
  cases lo with
  | none =>
    refine r_low0 T o ?_
    wtm_at "rdi"
    cases hi with
    | none =>
      refine r_high0 T o ?_
      wtm_at "rdi"
      exact q
    | some b =>
      refine r_high1 T o ?_
      wtm_at "rdi"
      refine r_high1 T o ?_
      wtm_at "rd"
      exact q
  | some a =>
    refine r_low1 T o ?_
    wtm_at "rdi"
    refine r_low1 T o ?_
    wtm_at "rdi"
    · refine bl_to q ?_
      show false = (decide (a ≤ n) && hiB hi n)
      rw [decide_eq_false (by omega)]
      rfl
    · have ea : decide (a ≤ n) = true := decide_eq_true (by omega)
      cases hi with
      | none =>
        refine r_high0 T o ?_
        wtm_at "rdi"
        refine bl_to q ?_
        show true = (decide (a ≤ n) && true)
        rw [ea]
        rfl
      | some b =>
        refine r_high1 T o ?_
        wtm_at "rdi"
        refine r_high1 T o ?_
        wtm_at "rd"
        refine bl_to q ?_
        show decide (n ≤ b) = (decide (a ≤ n) && decide (n ≤ b))
        rw [ea]
        rfl
end
section
variable {P : Program} {w : World} {K : PySem.W.Frag} {mg : Str → Option Value} {base : Heap}

theorem cell_ty (T : Txt K mg) {H : Hp} {p : Addr} {l : Cl} (h : CellAt T.C_Cell T.C_Stretch H p l) : TyX K H (.ref p) (.ref T.C_Cell) := by
  obtain ⟨dx, pr, pg, pd, e, _⟩ := h
  exact .base (.ins e T.c_Cell T.ca_Cell T.cn_Cell T.ct_Cell T.cm_Cell)
theorem ok_Stretch___eq__ (T : Txt K mg) : FnOk P w K mg base CX0 1 T.f_Stretch___eq__ T.d_Stretch___eq__ ["self", "other"] (spSEq2 K T.C_Stretch) := by
  refine T.F_Stretch___eq__.ok sc_Stretch___eq__ (fun vs H Q E h => ?_) (fun cdv A outer s H vs Q E hr h => ?_)
  · obtain ⟨p, lo, hi, v, rfl, _⟩ := h
    rfl
  obtain ⟨p, lo, hi, v, rfl, o, q⟩ := h
  refine ⟨_, (pss_one (ps_ret (pe_and (pe_callB call_isi (by rfl) T.z_isinstance (by decide +kernel) (pa_cons (pv 1) (pa_cons (pe_glob (v := .ref T.C_Stretch) rfl T.g_Stretch rfl) pa_nil))) (pe_and (pe_cmpR op_eq (pe_fldK (K := K) (pv 0)) (pe_fldK (K := K) (pv 1)) (nomark _)) (pe_one (pe_cmpR op_eq (pe_fldK (K := K) (pv 0)) (pe_fldK (K := K) (pv 1)) (nomark _))))))), ?_⟩
  try simp only [nox_K, cx_K]
  rcases q with ⟨p2, lo', hi', rfl, o2, q⟩ | ⟨t, ty, hk, q⟩
  · wtm_at "rd"
    refine r_isi (.own _) (str_ty T o2) kit_self ?_
    wtm_at "rdi"
    refine r_low T o ?_
    wtm_at "rd"
    refine r_low T o2 ?_
    wtm_at "rd"
    refine ⟨scalE _ _, ?_⟩
    rw [eqE]
    by_cases e1 : lo = lo'
    · rw [decide_eq_true e1]
      wtm_at "rdi"
      refine r_high T o ?_
      wtm_at "rd"
      refine r_high T o2 ?_
      wtm_at "rd"
      refine ⟨scalE _ _, ?_⟩
      rw [eqE]
      refine bl_to q ?_
      rw [decide_eq_decide]
      exact ⟨fun z => ⟨e1, z⟩, fun z => z.2⟩
    · rw [decide_eq_false e1]
      wtm_at "rdi"
      refine bl_to q ?_
      rw [decide_eq_false fun z => e1 z.1]
  · wtm_at "rd"
    refine r_isi (.own _) ty hk ?_
    wtm_at "rdi"
    exact q
theorem eq_str (T : Txt K mg) {H : Hp} {Q : VK} {E : XK} {p q : Addr} {lo hi lo' hi' : Option Int} (o : StrAt T.C_Stretch H p lo hi) (o2 : StrAt T.C_Stretch H q lo' hi') (h : Q (.bl (decide (lo = lo' ∧ hi = hi'))) H) : rCmpO K T.C_Stretch (spSEq2 K T.C_Stretch) E (.ref p) (.ref q) H Q := by
  obtain ⟨dx, e⟩ := id o
  exact ⟨p, dx, _, _, rfl, e, str_ty T o2, T.nt_Stretch, p, lo, hi, _, rfl, o, .inl ⟨q, lo', hi', rfl, o2, h⟩⟩
theorem ne_str (T : Txt K mg) {H : Hp} {Q : VK} {E : XK} {p q : Addr} {lo hi lo' hi' : Option Int} (o : StrAt T.C_Stretch H p lo hi) (o2 : StrAt T.C_Stretch H q lo' hi') (h : Q (.bl (!decide (lo = lo' ∧ hi = hi'))) H) : rNeO K T.C_Stretch (spSEq2 K T.C_Stretch) E (.ref p) (.ref q) H Q := by
  obtain ⟨dx, e⟩ := id o
  exact ⟨p, dx, _, _, rfl, e, str_ty T o2, T.nt_Stretch, p, lo, hi, _, rfl, o, .inl ⟨q, lo', hi', rfl, o2, _, rfl, h⟩⟩
theorem ni_str {C : Addr} {H : Hp} {Q : VK} {E : XK} {p : Addr} {lo hi : Option Int} {n : Int} (o : StrAt C H p lo hi) (h : Q (.bl (!inB lo hi n)) H) : rNiO C (spSIn C) E (.int n) (.ref p) H Q := by
  obtain ⟨dx, e⟩ := id o
  exact ⟨p, dx, _, rfl, e, p, lo, hi, n, rfl, o, _, rfl, h⟩
section
variable {H : Hp} {p : Addr} {z : Str} {pr pg pd dx : Addr} {F : V → Prop}
theorem r_czone (T : Txt K mg) (e : H p = some (.ins T.C_Cell dx (cellF z pr pg pd))) (h : F (.str z)) : ∃ a C dx fs v, V.ref p = .ref a ∧ H a = some (.ins C dx fs) ∧ Cls K C ∧ NoAttr K C "zone" ∧ fs.lookup ("zone" : Str) = some v ∧ F v := r_get e T.c_Cell T.nf_Cell_zone (cell_zone z pr pg pd) h
theorem r_crows (T : Txt K mg) (e : H p = some (.ins T.C_Cell dx (cellF z pr pg pd))) (h : F (.ref pr)) : ∃ a C dx fs v, V.ref p = .ref a ∧ H a = some (.ins C dx fs) ∧ Cls K C ∧ NoAttr K C "rows" ∧ fs.lookup ("rows" : Str) = some v ∧ F v := r_get e T.c_Cell T.nf_Cell_rows (cell_rows z pr pg pd) h
theorem r_cgroups (T : Txt K mg) (e : H p = some (.ins T.C_Cell dx (cellF z pr pg pd))) (h : F (.ref pg)) : ∃ a C dx fs v, V.ref p = .ref a ∧ H a = some (.ins C dx fs) ∧ Cls K C ∧ NoAttr K C "groups" ∧ fs.lookup ("groups" : Str) = some v ∧ F v := r_get e T.c_Cell T.nf_Cell_groups (cell_groups z pr pg pd) h
theorem r_cdistance (T : Txt K mg) (e : H p = some (.ins T.C_Cell dx (cellF z pr pg pd))) (h : F (.ref pd)) : ∃ a C dx fs v, V.ref p = .ref a ∧ H a = some (.ins C dx fs) ∧ Cls K C ∧ NoAttr K C "distance" ∧ fs.lookup ("distance" : Str) = some v ∧ F v := r_get e T.c_Cell T.nf_Cell_distance (cell_distance z pr pg pd) h
end
theorem ok_nearest_to (T : Txt K mg) : FnOk P w K mg base CX0 1 T.f_nearest_to T.d_nearest_to ["stretch"] (spNrst T.C_Stretch) := by
  refine T.F_nearest_to.ok sc_nearest_to (fun vs H Q E h => ?_) (fun cdv A outer s H vs Q E hr h => ?_)
  · obtain ⟨p, lo, hi, rfl, _⟩ := h
    rfl
  obtain ⟨p, lo, hi, rfl, o, q⟩ := h
  refine ⟨_, (pss_cons (ps_if (PW.pt (pw_and (pt_cmpR o_notN (pe_fldK (K := K) (pv 0)) pe_non (nomark _)) (pw_and1 (pt_cmpR op_gt (pe_fldK (K := K) (pv 0)) pe_int (nomark _))))) (pss_one (ps_ret (pe_fldK (K := K) (pv 0)))) pss_nil)
      (pss_cons (ps_if (PW.pt (pw_and (pt_cmpR o_notN (pe_fldK (K := K) (pv 0)) pe_non (nomark _)) (pw_and1 (pt_cmpR op_lt (pe_fldK (K := K) (pv 0)) pe_int (nomark _))))) (pss_one (ps_ret (pe_fldK (K := K) (pv 0)))) pss_nil)
      (pss_one (ps_ret pe_int)))), ?_⟩
  try simp only [nox_K, cx_K]
  have o2 := o
  wtm_at "rd"
  cases lo <;> cases hi
  all_goals repeat' ((first | refine r_low1 T o ?_ | refine r_low0 T o ?_ | refine r_low1 T o2 ?_ | refine r_low0 T o2 ?_ | refine r_high1 T o ?_ | refine r_high0 T o ?_ | refine r_high1 T o2 ?_ | refine r_high0 T o2 ?_); wtm_at "rdi")
  all_goals (refine int_to q ?_; simp only [nrst] <;> ((repeat' split) <;> omega))
theorem ok_Cell___init__ (T : Txt K mg) : FnOk P w K mg base CX0 1 T.f_Cell___init__ T.d_Cell___init__ ["self", "zone", "rows", "groups", "distance"] (spCInit T.C_Cell T.C_Stretch) := by
  refine T.F_Cell___init__.ok sc_Cell___init__ (fun vs H Q E h => ?_) (fun cdv A outer s H vs Q E hr h => ?_)
  · obtain ⟨p, dx, pr, pg, pd, z, rfl, _⟩ := h
    rfl
  obtain ⟨p, dx, pr, pg, pd, z, rfl, hp, q⟩ := h
  refine ⟨_, (pss_cons (ps_fld (pv 0) (pv 1) rfl)
      (pss_cons (ps_fld (pv 0) (pv 2) rfl)
      (pss_cons (ps_fld (pv 0) (pv 3) rfl)
      (pss_one (ps_fld (pv 0) (pv 4) rfl))))), ?_⟩
  try simp only [nox_K, cx_K]
  wtm_at "rd"
  refine r_put hp T.c_Cell T.nf_Cell_zone (by decide) ?_
  wtm_at "rd"
  refine r_put upd_same T.c_Cell T.nf_Cell_rows (Nat.lt_of_le_of_lt (putF_len _ _ _) (by decide)) ?_
  wtm_at "rd"
  refine r_put upd_same T.c_Cell T.nf_Cell_groups (Nat.lt_of_le_of_lt (putF_len _ _ _) (Nat.lt_of_le_of_lt (Nat.succ_le_succ (putF_len _ _ _)) (by decide))) ?_
  wtm_at "rd"
  refine r_put upd_same T.c_Cell T.nf_Cell_distance (Nat.lt_of_le_of_lt (putF_len _ _ _) (Nat.lt_of_le_of_lt (Nat.succ_le_succ (putF_len _ _ _)) (Nat.lt_of_le_of_lt (Nat.succ_le_succ (Nat.succ_le_succ (putF_len _ _ _))) (by decide)))) ?_
  wtm_at "rd"
  refine q _ upd_same fun b o e nb => ?_
  rw [upd_ne nb, upd_ne nb, upd_ne nb, upd_ne nb]
  exact e
theorem ok_Cell___contains__ (T : Txt K mg) : FnOk P w K mg base CX0 3 T.f_Cell___contains__ T.d_Cell___contains__ ["self", "offset"] (spCIn T.C_Cell T.C_Stretch T.C_Offset) := by
  refine T.F_Cell___contains__.ok sc_Cell___contains__ (fun vs H Q E h => ?_) (fun cdv A outer s H vs Q E hr h => ?_)
  · obtain ⟨p, p2, l, r, g, d, rfl, _⟩ := h
    rfl
  obtain ⟨p, p2, l, r, g, d, rfl, o, o2, q⟩ := h
  refine ⟨_, (pss_cons (ps_if (PW.pt (pw_or (pt_not (pt_val (pe_callB call_isi (by rfl) T.z_isinstance (by decide +kernel) (pa_cons (pv 1) (pa_cons (pe_glob (v := .ref T.C_Offset) rfl T.g_Offset rfl) pa_nil))))) (pw_or1 (pt_cmpR op_ne (pe_fldK (K := K) (pv 1)) (pe_fldK (K := K) (pv 0)) (nomark _))))) (pss_one (ps_ret pe_bl)) pss_nil)
      (pss_cons (ps_if (PW.pt (pw_or (pt_cmpR (op_niO T.mt_Stretch___contains__.at_ T.mt_Stretch___contains__.fn (ok_Stretch___contains__ T) (hr.mono (by decide)) T.b_Stretch___contains__ pass0) (pe_fldK (K := K) (pv 1)) (pe_fldK (K := K) (pv 0)) (by rfl)) (pw_or1 (pt_cmpR (op_niO T.mt_Stretch___contains__.at_ T.mt_Stretch___contains__.fn (ok_Stretch___contains__ T) (hr.mono (by decide)) T.b_Stretch___contains__ pass0) (pe_fldK (K := K) (pv 1)) (pe_fldK (K := K) (pv 0)) (by rfl))))) (pss_one (ps_ret pe_bl)) pss_nil)
      (pss_one (ps_ret (pe_cmpR (op_inO T.mt_Stretch___contains__.at_ T.mt_Stretch___contains__.fn (ok_Stretch___contains__ T) (hr.mono (by decide)) T.b_Stretch___contains__ pass0) (pe_fldK (K := K) (pv 1)) (pe_fldK (K := K) (pv 0)) (by rfl)))))), ?_⟩
  try simp only [nox_K, cx_K]
  obtain ⟨dx, pr, pg, pd, e, h1, h2, h3⟩ := o
  wtm_at "rd"
  refine r_isi (.own _) (off_ty T o2) kit_self ?_
  wtm_at "rdi"
  refine r_zone T o2 ?_
  wtm_at "rd"
  refine r_czone T e ?_
  wtm_at "rd"
  refine r_iten (fun e1 => ?_) (fun e1 => ?_)
  · wtm_at "rdi"
    refine bl_to q ?_
    rw [Cl.has, decide_eq_false e1, Bool.false_and]
  have q : Q (.bl (inB l.a.1 l.a.2 r && (inB l.b.1 l.b.2 g && inB l.c.1 l.c.2 d))) H := by
    rw [Cl.has, decide_eq_true e1, Bool.true_and] at q
    exact q
  wtm_at "rd"
  refine r_rows T o2 ?_
  wtm_at "rd"
  refine r_crows T e ?_
  refine ni_str h1 ?_
  wtm_at "rd"
  refine r_itebn (fun e2 => ?_) (fun e2 => ?_)
  · wtm_at "rdi"
    refine bl_to q ?_
    rw [e2, Bool.false_and]
  rw [e2, Bool.true_and] at q
  wtm_at "rd"
  refine r_groups T o2 ?_
  wtm_at "rd"
  refine r_cgroups T e ?_
  refine ni_str h2 ?_
  wtm_at "rd"
  refine r_itebn (fun e3 => ?_) (fun e3 => ?_)
  · wtm_at "rdi"
    refine bl_to q ?_
    rw [e3, Bool.false_and]
  rw [e3, Bool.true_and] at q
  wtm_at "rd"
  refine r_distance T o2 ?_
  wtm_at "rd"
  refine r_cdistance T e ?_
  exact in_str h3 q
theorem ok_Cell___eq__ (T : Txt K mg) : FnOk P w K mg base CX0 4 T.f_Cell___eq__ T.d_Cell___eq__ ["self", "other"] (spCEq K T.C_Cell T.C_Stretch) := by
  refine T.F_Cell___eq__.ok sc_Cell___eq__ (fun vs H Q E h => ?_) (fun cdv A outer s H vs Q E hr h => ?_)
  · obtain ⟨p, l, v, rfl, _⟩ := h
    rfl
  obtain ⟨p, l, v, rfl, o, q⟩ := h
  refine ⟨_, (pss_cons (ps_if (pt_not (pt_val (pe_callB call_isi (by rfl) T.z_isinstance (by decide +kernel) (pa_cons (pv 1) (pa_cons (pe_glob (v := .ref T.C_Cell) rfl T.g_Cell rfl) pa_nil))))) (pss_one (ps_ret pe_bl)) pss_nil)
      (pss_cons (ps_if (PW.pt (pw_or (pt_cmpR op_ne (pe_fldK (K := K) (pv 0)) (pe_fldK (K := K) (pv 1)) (nomark _)) (pw_or1 (pt_cmpR (op_neO T.mt_Stretch___eq__.at_ T.mt_Stretch___eq__.fn T.ne_Stretch T.ob_Stretch (ok_Stretch___eq__ T) (hr.mono (by decide)) T.b_Stretch___eq__ pass0) (pe_fldK (K := K) (pv 0)) (pe_fldK (K := K) (pv 1)) (nomark _))))) (pss_one (ps_ret pe_bl)) pss_nil)
      (pss_one (ps_ret (pe_and (pe_cmpR (op_eqO T.mt_Stretch___eq__.at_ T.mt_Stretch___eq__.fn (ok_Stretch___eq__ T) (hr.mono (by decide)) T.b_Stretch___eq__ pass0) (pe_fldK (K := K) (pv 0)) (pe_fldK (K := K) (pv 1)) (nomark _)) (pe_one (pe_cmpR (op_eqO T.mt_Stretch___eq__.at_ T.mt_Stretch___eq__.fn (ok_Stretch___eq__ T) (hr.mono (by decide)) T.b_Stretch___eq__ pass0) (pe_fldK (K := K) (pv 0)) (pe_fldK (K := K) (pv 1)) (nomark _)))))))), ?_⟩
  try simp only [nox_K, cx_K]
  rcases q with ⟨p2, m, rfl, o2, q⟩ | ⟨t, ty, hk, q⟩
  · have ty := cell_ty T o2
    obtain ⟨dx, pr, pg, pd, e, h1, h2, h3⟩ := o
    obtain ⟨dx', pr', pg', pd', e', h1', h2', h3'⟩ := o2
    wtm_at "rd"
    refine r_isi (.own _) ty kit_self ?_
    wtm_at "rdi"
    refine r_czone T e ?_
    wtm_at "rd"
    refine r_czone T e' ?_
    wtm_at "rd"
    refine r_iten (fun e1 => ?_) (fun e1 => ?_)
    · wtm_at "rdi"
      refine bl_to q ?_
      rw [Cl.eqB, decide_eq_false fun z => e1 z.1]
    wtm_at "rd"
    refine r_crows T e ?_
    wtm_at "rd"
    refine r_crows T e' ?_
    refine ne_str T h1 h1' ?_
    wtm_at "rd"
    refine r_iten (fun e2 => ?_) (fun e2 => ?_)
    · wtm_at "rdi"
      refine bl_to q ?_
      rw [Cl.eqB, decide_eq_false fun z => e2 (by rw [z.2.1]; exact ⟨rfl, rfl⟩)]
    wtm_at "rd"
    refine r_cgroups T e ?_
    wtm_at "rd"
    refine r_cgroups T e' ?_
    refine eq_str T h2 h2' ?_
    wtm_at "rd"
    refine r_ite (fun e3 => ?_) (fun e3 => ?_)
    · wtm_at "rd"
      refine r_cdistance T e ?_
      wtm_at "rd"
      refine r_cdistance T e' ?_
      refine eq_str T h3 h3' ?_
      refine bl_to q ?_
      rw [Cl.eqB, decide_eq_decide]
      exact ⟨fun z => ⟨e1, Prod.ext e2.1 e2.2, Prod.ext e3.1 e3.2, Prod.ext z.1 z.2⟩, fun z => by rw [z.2.2.2]; exact ⟨rfl, rfl⟩⟩
    · refine bl_to q ?_
      rw [Cl.eqB, decide_eq_false fun z => e3 (by rw [z.2.2.1]; exact ⟨rfl, rfl⟩)]
  · wtm_at "rd"
    refine r_isi (.own _) ty hk ?_
    wtm_at "rdi"
    exact q
theorem ok_Cell_nearest (T : Txt K mg) : FnOk P w K mg base CX0 6 T.f_Cell_nearest T.d_Cell_nearest ["self"] (spCNear T.C_Cell T.C_Stretch T.C_Offset) := by
  refine T.F_Cell_nearest.ok sc_Cell_nearest (fun vs H Q E h => ?_) (fun cdv A outer s H vs Q E hr h => ?_)
  · obtain ⟨p, l, rfl, _⟩ := h
    rfl
  obtain ⟨p, l, rfl, o, hb, q⟩ := h
  refine ⟨_, (pss_cons (ps_set (i := 1) sc_Cell_nearest.nd rfl (by first | exact Or.inl rfl | exact Or.inr rfl) pe_int)
      (C8.pss_cut (ps_if (pt_cmpR op_in_seq (pe_fldK (K := K) (pv 0)) (pe_tup (pa_cons pe_str (pa_cons pe_str pa_nil))) (by rfl)) (pss_one (ps_set (i := 1) sc_Cell_nearest.nd rfl (by first | exact Or.inl rfl | exact Or.inr rfl) (pe_op op_sub pe_int pe_int))) pss_nil)
      (pss_cons (ps_set (i := 2) sc_Cell_nearest.nd rfl (by first | exact Or.inl rfl | exact Or.inr rfl) (pe_callB c_abs (by rfl) T.z_abs (by decide +kernel) (pa_cons (pe_call (ok_nearest_to T) (hr.mono (by decide)) (by rfl) T.g_nearest_to T.F_nearest_to.kp T.b_nearest_to .nil pass0 (pa_cons (pe_fldK (K := K) (pv 0)) pa_nil)) pa_nil)))
      (pss_cons (ps_set (i := 3) sc_Cell_nearest.nd rfl (by first | exact Or.inl rfl | exact Or.inr rfl) (pe_callB (c_max2 rfl) (by rfl) T.z_max (by decide +kernel) (pa_cons (pe_callB c_abs (by rfl) T.z_abs (by decide +kernel) (pa_cons (pe_call (ok_nearest_to T) (hr.mono (by decide)) (by rfl) T.g_nearest_to T.F_nearest_to.kp T.b_nearest_to .nil pass0 (pa_cons (pe_fldK (K := K) (pv 0)) pa_nil)) pa_nil)) (pa_cons (pv 2) pa_nil))))
      (pss_cons (ps_set (i := 4) sc_Cell_nearest.nd rfl (by first | exact Or.inl rfl | exact Or.inr rfl) (pe_callB (c_max2 rfl) (by rfl) T.z_max (by decide +kernel) (pa_cons (pe_callB c_abs (by rfl) T.z_abs (by decide +kernel) (pa_cons (pe_call (ok_nearest_to T) (hr.mono (by decide)) (by rfl) T.g_nearest_to T.F_nearest_to.kp T.b_nearest_to .nil pass0 (pa_cons (pe_fldK (K := K) (pv 0)) pa_nil)) pa_nil)) (pa_cons (pv 2) pa_nil))))
      (pss_one (ps_ret (pe_make T.m_Offset (ok_Offset___init__ T) (hr.mono (by decide)) (by rfl) T.g_Offset T.b_Offset___init__ .nil passL (pa_cons (pe_op op_mul (pv 1) (pv 3)) (pa_cons (pe_op op_mul (pv 1) (pv 2)) (pa_cons (pe_op op_mul (pv 1) (pv 4)) pa_nil))))))))))), ?_⟩
  try simp only [nox_K, cx_K]
  obtain ⟨dx, pr, pg, pd, e, h1, h2, h3⟩ := o
  wtm_at "rd"
  refine ⟨fun σ H' => ∃ H0 : Hp, H0 = H ∧ σ = [some (.ref p), some (.int (sgnZ l.z)), none, none, none] ∧ Same H H', ?_, ?_⟩
  · wtm_at "rd"
    refine r_czone T e ?_
    wtm_at "rd"
    refine r_new rfl fun t n_t => ?_
    generalize eq_t : upd _ t _ = H1
    have s_t : Same _ H1 := eq_t ▸ same_new n_t
    have h_t : H1 t = some _ := eq_t ▸ upd_same
    clear eq_t
    wtm_at "rd"
    refine r_inT (SqT.of h_t) rfl rfl ?_
    show ∃ k, V.bl (inV (.str l.z) [V.str "past", V.str "before"]) = .bl k ∧ _
    wtm_at "rd"
    refine r_iteb (fun e1 => ?_) (fun e1 => ?_)
    · wtm_at "rd"
      refine ⟨H, rfl, ?_, s_t⟩
      rw [sgnZ, if_pos e1]
      rfl
    · wtm_at "rd"
      refine ⟨H, rfl, ?_, s_t⟩
      rw [sgnZ, if_neg (by rw [e1]; exact fun z => nomatch z)]
      rfl
  rintro σ H1 ⟨_, _, rfl, s1⟩
  have e := s1 _ _ e
  have h1 := h1.same s1
  have h2 := h2.same s1
  have h3 := h3.same s1
  have hs : -(2 ^ 64) < sgnZ l.z ∧ sgnZ l.z < 2 ^ 64 := by
    unfold sgnZ
    split <;> decide
  wtm_at "rd"
  refine r_cgroups T e ?_
  wtm_at "rd"
  refine ⟨pg, _, _, rfl, h2, ?_⟩
  wtm_at "rd"
  refine r_crows T e ?_
  wtm_at "rd"
  refine ⟨pr, _, _, rfl, h1, ?_⟩
  wtm_at "rd"
  refine r_max2 fun m1 _ _ _ em1 => ?_
  wtm_at "rd"
  refine r_cdistance T e ?_
  wtm_at "rd"
  refine ⟨pd, _, _, rfl, h3, ?_⟩
  wtm_at "rd"
  refine r_max2 fun m2 _ _ _ em2 => ?_
  wtm_at "rd"
  refine r_I (.inl hs) ?_
  wtm_at "rd"
  refine r_I (.inl hs) ?_
  wtm_at "rd"
  refine r_I (.inl hs) ?_
  wtm_at "rd"
  subst em1 em2
  exact make_offF hb fun x H' nx s' o' => q x H' (s1.free nx) (s1.trans s') o'
end

def negO : Option Int → Option Int
  | none => none
  | some a => some (-a)
structure P3 where
  l0 : Int
  h0 : Option Int
  l1 : Int
  h1 : Option Int
  l2 : Int
  h2 : Option Int
def trn (sg l : Int) (h : Option Int) : Pr2 := if 0 < sg then (some l, h) else (negO h, some (-l))
def PrA (H : Hp) (t : Addr) (l : Int) (h : Option Int) : Prop := H t = some (.tup [.int l, endV h])
def Vl (l : Int) (h : Option Int) : Prop := ∀ b, h = some b → l ≤ b
structure ThAt (H : Hp) (p : Addr) (P : P3) : Prop where
  ex : ∃ t0 t1 t2, H p = some (.lst [.ref t0, .ref t1, .ref t2]) ∧ PrA H t0 P.l0 P.h0 ∧ PrA H t1 P.l1 P.h1 ∧ PrA H t2 P.l2 P.h2
theorem ThAt.same {H H' : Hp} {p : Addr} {P : P3} (h : ThAt H p P) (s : Same H H') : ThAt H' p P := by
  obtain ⟨t0, t1, t2, h0, h1, h2, h3⟩ := h
  exact ⟨t0, t1, t2, s _ _ h0, s _ _ h1, s _ _ h2, s _ _ h3⟩
theorem ThAt.ext {H H' : Hp} {p d c r : Addr} {P : P3} (h : ThAt H p P) (e : Ext d r H H') (D : Drw H d c r) : ThAt H' p P := by
  obtain ⟨t0, t1, t2, h0, h1, h2, h3⟩ := h
  refine ⟨t0, t1, t2, ?_, e.keep D h1 fun _ z => (nomatch z), e.keep D h2 fun _ z => (nomatch z), e.keep D h3 fun _ z => (nomatch z)⟩
  obtain ⟨_, _, _, ns, rs, t, g1, g2, g3, _⟩ := D
  refine e _ _ h0 (ne_of h0 g1 fun z => ?_) (ne_of h0 g3 fun z => ?_)
  · cases z
  · have z := HO.lst.inj z
    cases rs with
    | nil => cases z
    | cons x rs => cases z
theorem CellAt.ext {CC CS : Addr} {H H' : Hp} {p d c r : Addr} {l : Cl} (h : CellAt CC CS H p l) (e : Ext d r H H') (D : Drw H d c r) : CellAt CC CS H' p l := by
  obtain ⟨dx, pr, pg, pd, h0, h1, h2, h3⟩ := h
  exact ⟨dx, pr, pg, pd, e.keep D h0 fun _ z => (nomatch z), h1.ext e D, h2.ext e D, h3.ext e D⟩
structure P3.ok (P : P3) (way : Int) : Prop where
  n0 : 0 ≤ P.l0
  n1 : 0 ≤ P.l1
  n2 : 0 ≤ P.l2
  v0 : ∀ b, P.h0 = some b → P.l0 ≤ b ∧ P.l1 ≤ b
  v1 : ∀ b, P.h1 = some b → P.l1 ≤ b
  v2 : ∀ b, P.h2 = some b → P.l2 ≤ b ∧ P.l1 ≤ b
  w0 : way = 0 → P.l0 = 0 ∧ P.l1 = 0 ∧ P.l2 = 0
  w1 : 1 ≤ way → way < 3 → 1 ≤ P.l0 ∧ P.l1 = 0 ∧ P.l2 = 0
  w3 : 3 ≤ way → 1 ≤ P.l1
def clOf (z : Str) (sg : Int) (P : P3) : Cl := ⟨z, trn sg P.l0 P.h0, trn sg P.l1 P.h1, trn sg P.l2 P.h2⟩
theorem trn_ok {sg l : Int} {h : Option Int} (v : Vl l h) : turnedB (trn sg l h).1 (trn sg l h).2 = false := by
  unfold trn
  split
  · cases h with
    | none => rfl
    | some b => exact decide_eq_false (by have := v b rfl; omega)
  · cases h with
    | none => rfl
    | some b => exact decide_eq_false (by have := v b rfl; omega)
def spStretchL : Sp := fun vs H Q _ => ∃ (d c r : Addr) (bo wi : Int), vs = [.ref d, .int bo, .int wi] ∧ Drw H d c r ∧ 0 < wi ∧ wi < 2 ^ 100 ∧
  ∀ (t : Addr) (l : Int) (h : Option Int) (H' : Hp), 1 ≤ l → (∀ b, h = some b → l ≤ b ∧ bo ≤ b) → PrA H' t l h → Drw H' d c r → Ext d r H H' → Q (.ref t) H'
def spTurnedL (CS : Addr) : Sp := fun vs H Q _ => ∃ (t : Addr) (l : Int) (h : Option Int) (sg : Int), vs = [.ref t, .int sg] ∧ PrA H t l h ∧ Vl l h ∧ ∀ x H', Same H H' → StrAt CS H' x (trn sg l h).1 (trn sg l h).2 → Q (.ref x) H'
def spMadeL (CC CS : Addr) : Sp := fun vs H Q _ => ∃ (p : Addr) (P : P3) (z : Str) (sg : Int), vs = [.str z, .ref p, .int sg] ∧ ThAt H p P ∧ Vl P.l0 P.h0 ∧ Vl P.l1 P.h1 ∧ Vl P.l2 P.h2 ∧ ∀ x H', Same H H' → CellAt CC CS H' x (clOf z sg P) → Q (.ref x) H'
def spThreeL : Sp := fun vs H Q _ => ∃ (d c r : Addr) (way : Int), vs = [.ref d, .int way] ∧ Drw H d c r ∧ 0 ≤ way ∧ way < 6 ∧
  ∀ (p : Addr) (P : P3) (H' : Hp), P.ok way → ThAt H' p P → Drw H' d c r → Ext d r H H' → Q (.ref p) H'
def inP (l : Int) (h : Option Int) (n : Int) : Bool := decide (l ≤ n) && hiB h n
def spInL : Sp := fun vs H Q _ => ∃ (t : Addr) (l : Int) (h : Option Int) (n : Int), vs = [.ref t, .int n] ∧ PrA H t l h ∧ Q (.bl (inP l h n)) H
def zoneL (d g : Int) : Str := if g = 0 then (if 0 < d then "after" else if d < 0 then "before" else "self") else (if 0 < g then "future" else "past")
def spZoneL : Sp := fun vs H Q _ => ∃ (d g : Int), vs = [.int d, .int g] ∧ ∀ H', Same H H' → Q (.str (zoneL d g)) H'
def spNumbersL : Sp := fun vs H Q _ => ∃ (d c r : Addr), vs = [.ref d] ∧ Drw H d c r ∧ ∀ (t : Addr) (x y k : Int) (H' : Hp), possB x y k = true → H' t = some (.tup [.int x, .int y, .int k]) → Drw H' d c r → Ext d r H H' → Q (.ref t) H'
def spOtherL (CC CS : Addr) : Sp := fun vs H Q _ => ∃ (d c r : Addr) (way : Int) (z : Str) (p : Addr) (P : P3) (sg : Int), vs = [.ref d, .int way, .str z, .ref p, .int sg] ∧ Drw H d c r ∧ 0 ≤ way ∧ way < 6 ∧ P.ok way ∧ ThAt H p P ∧ (way = 0 → ¬ z = "after") ∧
  ∀ (x : Addr) (m : Cl) (H' : Hp), (clOf z sg P).eqB m = false → CellAt CC CS H' x m → Drw H' d c r → Ext d r H H' → Q (.ref x) H'
def EnA (H : Hp) (t : Addr) (a : Pr2) : Prop := H t = some (.tup [endV a.1, endV a.2])
def spEndsL : Sp := fun vs H Q _ => ∃ (p : Addr) (P : P3) (sg : Int), vs = [.ref p, .int sg] ∧ ThAt H p P ∧
  ∀ l t0 t1 t2 H', Same H H' → H' l = some (.lst [.ref t0, .ref t1, .ref t2]) → EnA H' t0 (trn sg P.l0 P.h0) → EnA H' t1 (trn sg P.l1 P.h1) → EnA H' t2 (trn sg P.l2 P.h2) → Q (.ref l) H'
theorem neg_ne {a b : Option Int} (h : ¬ a = b) : ¬ negO a = negO b := by
  intro z
  cases a <;> cases b <;> first | exact h rfl | (cases z; done) | skip
  rename_i x y
  have z := Option.some.inj z
  exact h (by rw [show x = y by omega])
theorem trn_ne {sg l : Int} {h h' : Option Int} (n : ¬ h = h') : ¬ trn sg l h = trn sg l h' := by
  unfold trn
  intro z
  split at z
  · exact n (congrArg Prod.snd z)
  · exact neg_ne n (congrArg Prod.fst z)
section
variable {P : Program} {w : World} {K : PySem.W.Frag} {mg : Str → Option Value} {base : Heap}

theorem ok__law_stretch (T : Txt K mg) : FnOk P w K mg base CX0 2 T.f__law_stretch T.d__law_stretch ["_law_draws", "_law_bottom", "_law_wide"] spStretchL := by
  refine T.F__law_stretch.ok sc__law_stretch (fun vs H Q E h => ?_) (fun cdv A outer s H vs Q E hr h => ?_)
  · obtain ⟨d, c, r, bo, wi, rfl, _⟩ := h
    rfl
  obtain ⟨d, c, r, bo, wi, rfl, D, w0, w1, q⟩ := h
  refine ⟨_, (pss_cons (ps_set (i := 3) sc__law_stretch.nd rfl (by first | exact Or.inl rfl | exact Or.inr rfl) (pe_op op_add pe_int (pe_call (ok__law_draw T) (hr.mono (by decide)) (by rfl) T.g__law_draw T.F__law_draw.kp T.b__law_draw .nil pass0 (pa_cons (pv 0) (pa_cons (pv 2) pa_nil)))))
      (pss_cons (ps_set (i := 4) sc__law_stretch.nd rfl (by first | exact Or.inl rfl | exact Or.inr rfl) (pe_call (ok__law_draw T) (hr.mono (by decide)) (by rfl) T.g__law_draw T.F__law_draw.kp T.b__law_draw .nil pass0 (pa_cons (pv 0) (pa_cons pe_int pa_nil))))
      (pss_cons (ps_if (pt_cmpR op_eq (pv 4) pe_int (nomark _)) (pss_one (ps_ret (pe_tup (pa_cons (pv 3) (pa_cons pe_non pa_nil))))) pss_nil)
      (pss_one (ps_ret (pe_tup (pa_cons (pv 3) (pa_cons (pe_op op_add (pe_callB (c_max2 rfl) (by rfl) T.z_max (by decide +kernel) (pa_cons (pv 3) (pa_cons (pv 1) pa_nil))) (pe_call (ok__law_draw T) (hr.mono (by decide)) (by rfl) T.g__law_draw T.F__law_draw.kp T.b__law_draw .nil pass0 (pa_cons (pv 0) (pa_cons (pe_ix (r := rIxL K) ix_list (pe_lst (pa_cons pe_int (pa_cons pe_int (pa_cons pe_int (pa_cons pe_int pa_nil))))) (pe_call (ok__law_draw T) (hr.mono (by decide)) (by rfl) T.g__law_draw T.F__law_draw.kp T.b__law_draw .nil pass0 (pa_cons (pv 0) (pa_cons pe_int pa_nil))) (fun _ _ => rfl)) pa_nil)))) pa_nil)))))))), ?_⟩
  try simp only [nox_K, cx_K]
  wtm_at "rd"
  refine ⟨d, c, r, wi, rfl, D, w0, by omega, fun k H1 k0 k1 D1 E1 => ?_⟩
  wtm_at "rd"
  refine ⟨d, c, r, 3, rfl, D1, by decide, by decide, fun k2 H2 k20 k21 D2 E2 => ?_⟩
  wtm_at "rd"
  refine r_ite (fun e1 => ?_) (fun e1 => ?_)
  · wtm_at "rd"
    refine r_new rfl fun t n_t => ?_
    generalize eq_t : upd _ t _ = H3
    have s_t : Same _ H3 := eq_t ▸ same_new n_t
    have h_t : H3 t = some _ := eq_t ▸ upd_same
    clear eq_t
    have D2 := D2.same s_t
    exact q t (1 + k) none _ (by omega) (fun b z => nomatch z) h_t D2 ((E1.trans E2).trans (Ext.of s_t))
  wtm_at "rd"
  refine r_max2 fun m m1 m2 _ _ => ?_
  wtm_at "rd"
  refine r_new rfl fun l nl => ?_
  wtm_at "rd"
  refine ⟨d, c, r, 4, rfl, D2.new nl, by decide, by decide, fun k3 H3 k30 k31 D3 E3 => ?_⟩
  have hl : H3 l = some (.lst ([1, 2, 5, 9].map V.int)) := E3 _ _ upd_same (D2.ned nl) (D2.ner nl)
  refine r_ixL (SqL.of hl) (ati_int k30 k31) ?_
  have hm : 0 < kAt [1, 2, 5, 9] k3.toNat ∧ kAt [1, 2, 5, 9] k3.toNat < 10 := by
    obtain e | e | e | e : k3 = 0 ∨ k3 = 1 ∨ k3 = 2 ∨ k3 = 3 := by omega
    all_goals subst e
    all_goals decide
  wtm_at "rd"
  refine ⟨d, c, r, _, rfl, D3, hm.1, by omega, fun k4 H4 k40 k41 D4 E4 => ?_⟩
  wtm_at "rd"
  refine r_new rfl fun t n_t => ?_
  generalize eq_t : upd _ t _ = H5
  have s_t : Same _ H5 := eq_t ▸ same_new n_t
  have h_t : H5 t = some _ := eq_t ▸ upd_same
  clear eq_t
  have D4 := D4.same s_t
  refine q t (1 + k) (some (m + k4)) _ (by omega) (fun b z => ?_) h_t D4 ((((E1.trans E2).trans (Ext.of (same_new nl))).trans E3).trans (E4.trans (Ext.of s_t)))
  cases z
  omega
theorem ok__law_turned (T : Txt K mg) : FnOk P w K mg base CX0 6 T.f__law_turned T.d__law_turned ["_law_pair", "_law_sign"] (spTurnedL T.C_Stretch) := by
  refine T.F__law_turned.ok sc__law_turned (fun vs H Q E h => ?_) (fun cdv A outer s H vs Q E hr h => ?_)
  · obtain ⟨t, l, h, sg, rfl, _⟩ := h
    rfl
  obtain ⟨t, l, h, sg, rfl, ht, v, q⟩ := h
  refine ⟨_, (pss_cons (ps_if (pt_cmpR op_gt (pv 1) pe_int (nomark _)) (pss_one (ps_ret (pe_make T.m_Stretch (ok_Stretch___init__ T) (hr.mono (by decide)) (by rfl) T.g_Stretch T.b_Stretch___init__ .nil passL (pa_cons (pe_ix (r := rIxT K) ix_tup (pv 0) pe_int (fun _ _ => rfl)) (pa_cons (pe_ix (r := rIxT K) ix_tup (pv 0) pe_int (fun _ _ => rfl)) pa_nil))))) pss_nil)
      (pss_cons (ps_if (pt_cmpR o_isN (pe_ix (r := rIxT K) ix_tup (pv 0) pe_int (fun _ _ => rfl)) pe_non (nomark _)) (pss_one (ps_ret (pe_make T.m_Stretch (ok_Stretch___init__ T) (hr.mono (by decide)) (by rfl) T.g_Stretch T.b_Stretch___init__ .nil passL (pa_cons pe_non (pa_cons (pe_op op_sub pe_int (pe_ix (r := rIxT K) ix_tup (pv 0) pe_int (fun _ _ => rfl))) pa_nil))))) pss_nil)
      (pss_one (ps_ret (pe_make T.m_Stretch (ok_Stretch___init__ T) (hr.mono (by decide)) (by rfl) T.g_Stretch T.b_Stretch___init__ .nil passL (pa_cons (pe_op op_sub pe_int (pe_ix (r := rIxT K) ix_tup (pv 0) pe_int (fun _ _ => rfl))) (pa_cons (pe_op op_sub pe_int (pe_ix (r := rIxT K) ix_tup (pv 0) pe_int (fun _ _ => rfl))) pa_nil))))))), ?_⟩
  try simp only [nox_K, cx_K]
  have v' := trn_ok (sg := sg) v
  unfold PrA at ht
  wtm_at "rd"
  refine r_ite (fun e1 => ?_) (fun e1 => ?_)
  · rw [trn, if_pos e1] at q v'
    wtm_at "rd"
    exact make_str (lo := some l) v' fun x H' _ s o => q x H' s o
  rw [trn, if_neg e1] at q v'
  cases h with
  | none =>
    simp only [endV] at ht
    wtm_at "rdi"
    simp only [Int.zero_sub]
    exact make_str (lo := none) (hi := some (-l)) v' fun x H' _ s o => q x H' s o
  | some b =>
    simp only [endV] at ht
    wtm_at "rdi"
    simp only [Int.zero_sub]
    exact make_str (lo := some (-b)) (hi := some (-l)) v' fun x H' _ s o => q x H' s o
theorem ok__law_made (T : Txt K mg) : FnOk P w K mg base CX0 7 T.f__law_made T.d__law_made ["_law_zone_here", "_law_three_here", "_law_sign"] (spMadeL T.C_Cell T.C_Stretch) := by
  refine T.F__law_made.ok sc__law_made (fun vs H Q E h => ?_) (fun cdv A outer s H vs Q E hr h => ?_)
  · obtain ⟨p, P3', z, sg, rfl, _⟩ := h
    rfl
  obtain ⟨p, P3', z, sg, rfl, o, v0, v1, v2, q⟩ := h
  refine ⟨_, (pss_one (ps_ret (pe_make T.m_Cell (ok_Cell___init__ T) (hr.mono (by decide)) (by rfl) T.g_Cell T.b_Cell___init__ .nil pass0 (pa_cons (pv 0) (pa_cons (pe_call (ok__law_turned T) (hr.mono (by decide)) (by rfl) T.g__law_turned T.F__law_turned.kp T.b__law_turned .nil pass0 (pa_cons (pe_ix (r := rIxL K) ix_list (pv 1) pe_int (fun _ _ => rfl)) (pa_cons (pv 2) pa_nil))) (pa_cons (pe_call (ok__law_turned T) (hr.mono (by decide)) (by rfl) T.g__law_turned T.F__law_turned.kp T.b__law_turned .nil pass0 (pa_cons (pe_ix (r := rIxL K) ix_list (pv 1) pe_int (fun _ _ => rfl)) (pa_cons (pv 2) pa_nil))) (pa_cons (pe_call (ok__law_turned T) (hr.mono (by decide)) (by rfl) T.g__law_turned T.F__law_turned.kp T.b__law_turned .nil pass0 (pa_cons (pe_ix (r := rIxL K) ix_list (pv 1) pe_int (fun _ _ => rfl)) (pa_cons (pv 2) pa_nil))) pa_nil))))))), ?_⟩
  try simp only [nox_K, cx_K]
  obtain ⟨t0, t1, t2, h, h0, h1, h2⟩ := o
  wtm_at "rd"
  refine ⟨t0, _, _, _, rfl, h0, v0, fun x0 H1 s1 o0 => ?_⟩
  have h := s1 _ _ h
  wtm_at "rd"
  refine ⟨t1, _, _, _, rfl, s1 _ _ h1, v1, fun x1 H2 s2 o1 => ?_⟩
  have h := s2 _ _ h
  wtm_at "rd"
  refine ⟨t2, _, _, _, rfl, s2 _ _ (s1 _ _ h2), v2, fun x2 H3 s3 o2 => ?_⟩
  wtm_at "rd"
  exact make_cell (l := clOf z sg P3') ((o0.same s2).same s3) (o1.same s3) o2 fun x H' _ s o => q x H' (((s1.trans s2).trans s3).trans s) o
theorem ok__law_three (T : Txt K mg) : FnOk P w K mg base CX0 3 T.f__law_three T.d__law_three ["_law_draws", "_law_way"] spThreeL := by
  refine T.F__law_three.ok sc__law_three (fun vs H Q E h => ?_) (fun cdv A outer s H vs Q E hr h => ?_)
  · obtain ⟨d, c, r, way, rfl, _⟩ := h
    rfl
  obtain ⟨d, c, r, way, rfl, D, w0, w6, q⟩ := h
  refine ⟨_, (pss_cons (ps_if (pt_cmpR op_eq (pv 1) pe_int (nomark _)) (pss_one (ps_ret (pe_lst (pa_cons (pe_tup (pa_cons pe_int (pa_cons pe_int pa_nil))) (pa_cons (pe_tup (pa_cons pe_int (pa_cons pe_int pa_nil))) (pa_cons (pe_tup (pa_cons pe_int (pa_cons pe_int pa_nil))) pa_nil)))))) pss_nil)
      (pss_cons (ps_if (pt_cmpR op_lt (pv 1) pe_int (nomark _)) (pss_one (ps_ret (pe_lst (pa_cons (pe_call (ok__law_stretch T) (hr.mono (by decide)) (by rfl) T.g__law_stretch T.F__law_stretch.kp T.b__law_stretch .nil pass0 (pa_cons (pv 0) (pa_cons pe_int (pa_cons pe_int pa_nil)))) (pa_cons (pe_tup (pa_cons pe_int (pa_cons pe_int pa_nil))) (pa_cons (pe_tup (pa_cons pe_int (pa_cons pe_int pa_nil))) pa_nil)))))) pss_nil)
      (pss_cons (ps_set (i := 2) sc__law_three.nd rfl (by first | exact Or.inl rfl | exact Or.inr rfl) (pe_call (ok__law_stretch T) (hr.mono (by decide)) (by rfl) T.g__law_stretch T.F__law_stretch.kp T.b__law_stretch .nil pass0 (pa_cons (pv 0) (pa_cons pe_int (pa_cons (pe_ix (r := rIxL K) ix_list (pe_lst (pa_cons pe_int (pa_cons pe_int pa_nil))) (pe_call (ok__law_draw T) (hr.mono (by decide)) (by rfl) T.g__law_draw T.F__law_draw.kp T.b__law_draw .nil pass0 (pa_cons (pv 0) (pa_cons pe_int pa_nil))) (fun _ _ => rfl)) pa_nil)))))
      (pss_cons (ps_set (i := 3) sc__law_three.nd rfl (by first | exact Or.inl rfl | exact Or.inr rfl) (pe_ix (r := rIxL K) ix_list (pe_lst (pa_cons pe_int (pa_cons pe_int (pa_cons (pe_op op_pow pe_int pe_int) pa_nil)))) (pe_call (ok__law_draw T) (hr.mono (by decide)) (by rfl) T.g__law_draw T.F__law_draw.kp T.b__law_draw .nil pass0 (pa_cons (pv 0) (pa_cons pe_int pa_nil))) (fun _ _ => rfl)))
      (pss_cons (ps_set (i := 4) sc__law_three.nd rfl (by first | exact Or.inl rfl | exact Or.inr rfl) (pe_call (ok__law_stretch T) (hr.mono (by decide)) (by rfl) T.g__law_stretch T.F__law_stretch.kp T.b__law_stretch .nil pass0 (pa_cons (pv 0) (pa_cons (pe_ix (r := rIxT K) ix_tup (pv 2) pe_int (fun _ _ => rfl)) (pa_cons pe_int pa_nil)))))
      (pss_one (ps_ret (pe_lst (pa_cons (pv 4) (pa_cons (pv 2) (pa_cons (pe_call (ok__law_stretch T) (hr.mono (by decide)) (by rfl) T.g__law_stretch T.F__law_stretch.kp T.b__law_stretch .nil pass0 (pa_cons (pv 0) (pa_cons (pe_ix (r := rIxT K) ix_tup (pv 2) pe_int (fun _ _ => rfl)) (pa_cons (pv 3) pa_nil)))) pa_nil))))))))))), ?_⟩
  try simp only [nox_K, cx_K]
  wtm_at "rd"
  refine r_ite (fun e1 => ?_) (fun e1 => ?_)
  · wtm_at "rd"
    refine r_new rfl fun t0 n_t0 => ?_
    generalize eq_t0 : upd _ t0 _ = H1
    have s_t0 : Same _ H1 := eq_t0 ▸ same_new n_t0
    have h_t0 : H1 t0 = some _ := eq_t0 ▸ upd_same
    clear eq_t0
    have D := D.same s_t0
    wtm_at "rd"
    refine r_new rfl fun t1 n_t1 => ?_
    generalize eq_t1 : upd _ t1 _ = H2
    have s_t1 : Same _ H2 := eq_t1 ▸ same_new n_t1
    have h_t1 : H2 t1 = some _ := eq_t1 ▸ upd_same
    clear eq_t1
    have D := D.same s_t1
    have h_t0 := s_t1 _ _ h_t0
    have s_t0 := s_t0.trans s_t1
    wtm_at "rd"
    refine r_new rfl fun t2 n_t2 => ?_
    generalize eq_t2 : upd _ t2 _ = H3
    have s_t2 : Same _ H3 := eq_t2 ▸ same_new n_t2
    have h_t2 : H3 t2 = some _ := eq_t2 ▸ upd_same
    clear eq_t2
    have D := D.same s_t2
    have h_t0 := s_t2 _ _ h_t0
    have h_t1 := s_t2 _ _ h_t1
    have s_t0 := s_t0.trans s_t2
    wtm_at "rd"
    refine r_new rfl fun p n_p => ?_
    generalize eq_p : upd _ p _ = H4
    have s_p : Same _ H4 := eq_p ▸ same_new n_p
    have h_p : H4 p = some _ := eq_p ▸ upd_same
    clear eq_p
    have D := D.same s_p
    have h_t0 := s_p _ _ h_t0
    have h_t1 := s_p _ _ h_t1
    have h_t2 := s_p _ _ h_t2
    have s_t0 := s_t0.trans s_p
    refine q p ⟨0, some 0, 0, some 0, 0, some 0⟩ _ ?_ ⟨t0, t1, t2, h_p, h_t0, h_t1, h_t2⟩ D (Ext.of s_t0)
    refine ⟨Int.le_refl _, Int.le_refl _, Int.le_refl _, fun b z => ?_, fun b z => ?_, fun b z => ?_, fun _ => ⟨rfl, rfl, rfl⟩, fun _ _ => by omega, fun _ => by omega⟩
    all_goals cases z
    all_goals decide
  wtm_at "rd"
  refine r_ite (fun e2 => ?_) (fun e2 => ?_)
  · wtm_at "rd"
    refine ⟨d, c, r, _, _, rfl, D, by decide, by decide, fun t0 l h H1 l1 v ht D1 E1 => ?_⟩
    wtm_at "rd"
    refine r_new rfl fun t1 n_t1 => ?_
    generalize eq_t1 : upd _ t1 _ = H2
    have s_t1 : Same _ H2 := eq_t1 ▸ same_new n_t1
    have h_t1 : H2 t1 = some _ := eq_t1 ▸ upd_same
    clear eq_t1
    have D1 := D1.same s_t1
    have ht := s_t1 _ _ ht
    have E1 := E1.trans (Ext.of s_t1)
    wtm_at "rd"
    refine r_new rfl fun t2 n_t2 => ?_
    generalize eq_t2 : upd _ t2 _ = H3
    have s_t2 : Same _ H3 := eq_t2 ▸ same_new n_t2
    have h_t2 : H3 t2 = some _ := eq_t2 ▸ upd_same
    clear eq_t2
    have D1 := D1.same s_t2
    have ht := s_t2 _ _ ht
    have h_t1 := s_t2 _ _ h_t1
    have E1 := E1.trans (Ext.of s_t2)
    wtm_at "rd"
    refine r_new rfl fun p n_p => ?_
    generalize eq_p : upd _ p _ = H4
    have s_p : Same _ H4 := eq_p ▸ same_new n_p
    have h_p : H4 p = some _ := eq_p ▸ upd_same
    clear eq_p
    have D1 := D1.same s_p
    have ht := s_p _ _ ht
    have h_t1 := s_p _ _ h_t1
    have h_t2 := s_p _ _ h_t2
    have E1 := E1.trans (Ext.of s_p)
    refine q p ⟨l, h, 0, some 0, 0, some 0⟩ _ ?_ ⟨t0, t1, t2, h_p, ht, h_t1, h_t2⟩ D1 E1
    refine ⟨by show 0 ≤ l; omega, Int.le_refl _, Int.le_refl _, fun b z => ?_, fun b z => ?_, fun b z => ?_, fun z => by omega, fun _ _ => ⟨l1, rfl, rfl⟩, fun _ => by omega⟩
    · have := v b z
      show l ≤ b ∧ 0 ≤ b
      omega
    · cases z; exact Int.le_refl _
    · cases z; exact ⟨Int.le_refl _, Int.le_refl _⟩
  wtm_at "rd"
  refine r_new rfl fun l nl => ?_
  wtm_at "rd"
  refine ⟨d, c, r, 2, rfl, D.new nl, by decide, by decide, fun k1 H1 k10 k11 D1 E1 => ?_⟩
  have hl : H1 l = some (.lst ([2, 12].map V.int)) := E1 _ _ upd_same (D.ned nl) (D.ner nl)
  refine r_ixL (SqL.of hl) (ati_int k10 k11) ?_
  have hm : 0 < kAt [2, 12] k1.toNat ∧ kAt [2, 12] k1.toNat < 20 := by
    obtain e | e : k1 = 0 ∨ k1 = 1 := by omega
    all_goals subst e
    all_goals decide
  have E1 := (Ext.of (same_new (o := .lst [V.int 2, .int 12]) nl)).trans E1
  wtm_at "rd"
  refine ⟨d, c, r, _, _, rfl, D1, hm.1, by omega, fun tg lg hg H2 lg1 vg hg2 D2 E2 => ?_⟩
  have E2 := E1.trans E2
  wtm_at "rd"
  refine r_I ⟨by decide, by decide, by decide⟩ ?_
  wtm_at "rd"
  refine r_new rfl fun l2 nl2 => ?_
  have hg2 := (same_new (o := .lst [V.int 3, .int 12, .int (10 ^ (9 : Int).toNat)]) nl2) _ _ hg2
  have D2' := D2.new (p := l2) (o := .lst [V.int 3, .int 12, .int (10 ^ (9 : Int).toNat)]) nl2
  wtm_at "rd"
  refine ⟨d, c, r, 3, rfl, D2', by decide, by decide, fun k2 H3 k20 k21 D3 E3 => ?_⟩
  have hl2 : H3 l2 = some (.lst ([3, 12, 10 ^ (9 : Int).toNat].map V.int)) := E3 _ _ upd_same (D2.ned nl2) (D2.ner nl2)
  refine r_ixL (SqL.of hl2) (ati_int k20 k21) ?_
  have hm2 : 0 < kAt [3, 12, 10 ^ (9 : Int).toNat] k2.toNat ∧ kAt [3, 12, 10 ^ (9 : Int).toNat] k2.toNat < 10 ^ 12 := by
    obtain e | e | e : k2 = 0 ∨ k2 = 1 ∨ k2 = 2 := by omega
    all_goals subst e
    all_goals decide
  revert hm2
  generalize kAt [3, 12, 10 ^ (9 : Int).toNat] k2.toNat = wd
  intro hm2
  have hg3 : H3 tg = some (.tup [.int lg, endV hg]) := E3.keep D2' hg2 fun _ z => nomatch z
  have E3 := (E2.trans (Ext.of (same_new (o := .lst [V.int 3, .int 12, .int (10 ^ (9 : Int).toNat)]) nl2))).trans E3
  wtm_at "rd"
  refine ⟨d, c, r, _, _, rfl, D3, by decide, by decide, fun tr lr hr' H4 lr1 vr hr2 D4 E4 => ?_⟩
  have hg4 : H4 tg = some (.tup [.int lg, endV hg]) := E4.keep D3 hg3 fun _ z => nomatch z
  have E4 := E3.trans E4
  wtm_at "rd"
  refine ⟨d, c, r, _, _, rfl, D4, hm2.1, by omega, fun td ld hd H5 ld1 vd hd2 D5 E5 => ?_⟩
  have hg5 : H5 tg = some (.tup [.int lg, endV hg]) := E5.keep D4 hg4 fun _ z => nomatch z
  have hr5 : PrA H5 tr lr hr' := E5.keep D4 hr2 fun _ z => nomatch z
  have hd5 : PrA H5 td ld hd := hd2
  have E5 := E4.trans E5
  wtm_at "rd"
  refine r_new rfl fun p n_p => ?_
  generalize eq_p : upd _ p _ = H6
  have s_p : Same _ H6 := eq_p ▸ same_new n_p
  have h_p : H6 p = some _ := eq_p ▸ upd_same
  clear eq_p
  have D5 := D5.same s_p
  have hg5 := s_p _ _ hg5
  have hr5 := s_p _ _ hr5
  have hd5 := s_p _ _ hd5
  have E5 := E5.trans (Ext.of s_p)
  refine q p ⟨lr, hr', lg, hg, ld, hd⟩ _ ?_ ⟨tr, tg, td, h_p, hr5, hg5, hd5⟩ D5 E5
  exact ⟨by show 0 ≤ lr; omega, by show 0 ≤ lg; omega, by show 0 ≤ ld; omega, vr, fun b z => (vg b z).1, vd, fun z => by omega, fun _ z => by omega, fun _ => lg1⟩
theorem ok__law_in (T : Txt K mg) : FnOk P w K mg base CX0 1 T.f__law_in T.d__law_in ["_law_pair", "_law_spot"] spInL := by
  refine T.F__law_in.ok sc__law_in (fun vs H Q E h => ?_) (fun cdv A outer s H vs Q E hr h => ?_)
  · obtain ⟨t, l, h, n, rfl, _⟩ := h
    rfl
  obtain ⟨t, l, h, n, rfl, ht, q⟩ := h
  refine ⟨_, (pss_one (ps_ret (pe_and (pe_cmpR op_le (pe_ix (r := rIxT K) ix_tup (pv 0) pe_int (fun _ _ => rfl)) (pv 1) (nomark _)) (pe_one (pe_or (pe_cmpR o_isN (pe_ix (r := rIxT K) ix_tup (pv 0) pe_int (fun _ _ => rfl)) pe_non (nomark _)) (pe_one (pe_cmpR op_le (pv 1) (pe_ix (r := rIxT K) ix_tup (pv 0) pe_int (fun _ _ => rfl)) (nomark _)))))))), ?_⟩
  try simp only [nox_K, cx_K]
  unfold PrA at ht
  wtm_at "rd"
  refine r_ite (fun e1 => ?_) (fun e1 => ?_)
  · rw [inP, decide_eq_true e1, Bool.true_and] at q
    cases h with
    | none =>
      simp only [endV] at ht
      wtm_at "rdi"
      exact q
    | some b =>
      simp only [endV] at ht
      wtm_at "rdi"
      exact q
  · rw [inP, decide_eq_false e1, Bool.false_and] at q
    exact q
theorem ok__law_zone (T : Txt K mg) : FnOk P w K mg base CX0 1 T.f__law_zone T.d__law_zone ["_law_d", "_law_g"] spZoneL := by
  refine T.F__law_zone.ok sc__law_zone (fun vs H Q E h => ?_) (fun cdv A outer s H vs Q E hr h => ?_)
  · obtain ⟨d, gg, rfl, _⟩ := h
    rfl
  obtain ⟨d, gg, rfl, q⟩ := h
  refine ⟨_, (pss_cons (ps_if (pt_cmpR op_eq (pv 1) pe_int (nomark _)) (pss_one (ps_ret (pe_ix (r := rIxL K) ix_list (pe_lst (pa_cons pe_str (pa_cons pe_str (pa_cons pe_str pa_nil)))) (pe_op op_sub (pe_op op_add pe_int (pe_callTy c_intB (by rfl) T.z_int (by decide +kernel) (pa_cons (pe_cmpR op_gt (pv 0) pe_int (nomark _)) pa_nil))) (pe_callTy c_intB (by rfl) T.z_int (by decide +kernel) (pa_cons (pe_cmpR op_lt (pv 0) pe_int (nomark _)) pa_nil))) (fun _ _ => rfl)))) pss_nil)
      (pss_one (ps_ret (pe_ix (r := rIxL K) ix_list (pe_lst (pa_cons pe_str (pa_cons pe_str (pa_cons pe_str pa_nil)))) (pe_op op_sub (pe_op op_add pe_int (pe_callTy c_intB (by rfl) T.z_int (by decide +kernel) (pa_cons (pe_cmpR op_gt (pv 1) pe_int (nomark _)) pa_nil))) (pe_callTy c_intB (by rfl) T.z_int (by decide +kernel) (pa_cons (pe_cmpR op_lt (pv 1) pe_int (nomark _)) pa_nil))) (fun _ _ => rfl))))), ?_⟩
  try simp only [nox_K, cx_K]
  wtm_at "rd"
  refine r_ite (fun e1 => ?_) (fun e1 => ?_)
  · wtm_at "rd"
    refine r_new rfl fun l n_l => ?_
    generalize eq_l : upd _ l _ = H1
    have s_l : Same _ H1 := eq_l ▸ same_new n_l
    have h_l : H1 l = some _ := eq_l ▸ upd_same
    clear eq_l
    wtm_at "rd"
    obtain z | z | z : 0 < d ∨ d < 0 ∨ d = 0 := by omega
    · rw [decide_eq_true z, decide_eq_false (show ¬ d < 0 by omega)]
      refine r_ixL (SqL.of h_l) (v := .str "after") rfl ?_
      have e : zoneL d gg = "after" := by rw [zoneL, if_pos e1, if_pos z]
      rw [← e]
      exact q _ s_l
    · rw [decide_eq_false (show ¬ 0 < d by omega), decide_eq_true z]
      refine r_ixL (SqL.of h_l) (v := .str "before") rfl ?_
      have e : zoneL d gg = "before" := by rw [zoneL, if_pos e1, if_neg (by omega), if_pos z]
      rw [← e]
      exact q _ s_l
    · rw [decide_eq_false (show ¬ 0 < d by omega), decide_eq_false (show ¬ d < 0 by omega)]
      refine r_ixL (SqL.of h_l) (v := .str "self") rfl ?_
      have e : zoneL d gg = "self" := by rw [zoneL, if_pos e1, if_neg (by omega), if_neg (by omega)]
      rw [← e]
      exact q _ s_l
  · wtm_at "rd"
    refine r_new rfl fun l n_l => ?_
    generalize eq_l : upd _ l _ = H1
    have s_l : Same _ H1 := eq_l ▸ same_new n_l
    have h_l : H1 l = some _ := eq_l ▸ upd_same
    clear eq_l
    wtm_at "rd"
    obtain z | z : 0 < gg ∨ gg < 0 := by omega
    · rw [decide_eq_true z, decide_eq_false (show ¬ gg < 0 by omega)]
      refine r_ixL (SqL.of h_l) (v := .str "future") rfl ?_
      have e : zoneL d gg = "future" := by rw [zoneL, if_neg e1, if_pos z]
      rw [← e]
      exact q _ s_l
    · rw [decide_eq_false (show ¬ 0 < gg by omega), decide_eq_true z]
      refine r_ixL (SqL.of h_l) (v := .str "past") rfl ?_
      have e : zoneL d gg = "past" := by rw [zoneL, if_neg e1, if_neg (by omega)]
      rw [← e]
      exact q _ s_l
end
section
variable {P : Program} {w : World} {K : PySem.W.Frag} {mg : Str → Option Value} {base : Heap}

theorem ok__law_numbers (T : Txt K mg) : FnOk P w K mg base CX0 2 T.f__law_numbers T.d__law_numbers ["_law_draws"] spNumbersL := by
  refine T.F__law_numbers.ok sc__law_numbers (fun vs H Q E h => ?_) (fun cdv A outer s H vs Q E hr h => ?_)
  · obtain ⟨d, c, r, rfl, _⟩ := h
    rfl
  obtain ⟨d, c, r, rfl, D, q⟩ := h
  refine ⟨_, (pss_cons (ps_set (i := 1) sc__law_numbers.nd rfl (by first | exact Or.inl rfl | exact Or.inr rfl) (pe_call (ok__law_draw T) (hr.mono (by decide)) (by rfl) T.g__law_draw T.F__law_draw.kp T.b__law_draw .nil pass0 (pa_cons (pv 0) (pa_cons pe_int pa_nil))))
      (pss_cons (ps_if (pt_cmpR op_eq (pv 1) pe_int (nomark _)) (pss_one (ps_ret (pe_tup (pa_cons pe_int (pa_cons pe_int (pa_cons pe_int pa_nil)))))) pss_nil)
      (pss_cons (ps_set (i := 2) sc__law_numbers.nd rfl (by first | exact Or.inl rfl | exact Or.inr rfl) (pe_op op_add pe_int (pe_call (ok__law_draw T) (hr.mono (by decide)) (by rfl) T.g__law_draw T.F__law_draw.kp T.b__law_draw .nil pass0 (pa_cons (pv 0) (pa_cons pe_int pa_nil)))))
      (pss_cons (ps_if (pt_cmpR op_eq (pv 1) pe_int (nomark _)) (pss_one (ps_ret (pe_tup (pa_cons (pv 2) (pa_cons pe_int (pa_cons pe_int pa_nil)))))) pss_nil)
      (pss_cons (ps_if (pt_cmpR op_eq (pv 1) pe_int (nomark _)) (pss_one (ps_ret (pe_tup (pa_cons (pe_op op_sub pe_int (pv 2)) (pa_cons pe_int (pa_cons pe_int pa_nil)))))) pss_nil)
      (pss_cons (ps_set (i := 3) sc__law_numbers.nd rfl (by first | exact Or.inl rfl | exact Or.inr rfl) (pe_op op_add pe_int (pe_call (ok__law_draw T) (hr.mono (by decide)) (by rfl) T.g__law_draw T.F__law_draw.kp T.b__law_draw .nil pass0 (pa_cons (pv 0) (pa_cons (pe_ix (r := rIxL K) ix_list (pe_lst (pa_cons pe_int (pa_cons pe_int (pa_cons pe_int (pa_cons pe_int pa_nil))))) (pe_call (ok__law_draw T) (hr.mono (by decide)) (by rfl) T.g__law_draw T.F__law_draw.kp T.b__law_draw .nil pass0 (pa_cons (pv 0) (pa_cons pe_int pa_nil))) (fun _ _ => rfl)) pa_nil)))))
      (pss_cons (ps_set (i := 2) sc__law_numbers.nd rfl (by first | exact Or.inl rfl | exact Or.inr rfl) (pe_op op_add (pv 3) (pe_call (ok__law_draw T) (hr.mono (by decide)) (by rfl) T.g__law_draw T.F__law_draw.kp T.b__law_draw .nil pass0 (pa_cons (pv 0) (pa_cons pe_int pa_nil)))))
      (pss_cons (ps_set (i := 4) sc__law_numbers.nd rfl (by first | exact Or.inl rfl | exact Or.inr rfl) (pe_op op_add (pv 3) (pe_call (ok__law_draw T) (hr.mono (by decide)) (by rfl) T.g__law_draw T.F__law_draw.kp T.b__law_draw .nil pass0 (pa_cons (pv 0) (pa_cons (pe_ix (r := rIxL K) ix_list (pe_lst (pa_cons pe_int (pa_cons pe_int (pa_cons (pe_op op_mul pe_int (pe_op op_pow pe_int pe_int)) pa_nil)))) (pe_call (ok__law_draw T) (hr.mono (by decide)) (by rfl) T.g__law_draw T.F__law_draw.kp T.b__law_draw .nil pass0 (pa_cons (pv 0) (pa_cons pe_int pa_nil))) (fun _ _ => rfl)) pa_nil)))))
      (pss_cons (ps_if (pt_cmpR op_lt (pv 1) pe_int (nomark _)) (pss_one (ps_ret (pe_tup (pa_cons (pv 2) (pa_cons (pv 3) (pa_cons (pv 4) pa_nil)))))) pss_nil)
      (pss_one (ps_ret (pe_tup (pa_cons (pe_op op_sub pe_int (pv 2)) (pa_cons (pe_op op_sub pe_int (pv 3)) (pa_cons (pe_op op_sub pe_int (pv 4)) pa_nil))))))))))))))), ?_⟩
  try simp only [nox_K, cx_K]
  have P1 : ∀ r g d : Int, (g = 0 ∧ d = 0) ∨ (g < 0 ∧ r ≤ g ∧ d ≤ g) ∨ (0 < g ∧ g ≤ r ∧ g ≤ d) → possB r g d = true := fun r g d h => decide_eq_true h
  wtm_at "rd"
  refine ⟨d, c, r, 8, rfl, D, by decide, by decide, fun k H1 k0 k1 D1 E1 => ?_⟩
  wtm_at "rd"
  refine r_ite (fun e1 => ?_) (fun e1 => ?_)
  · wtm_at "rd"
    refine r_new rfl fun t n_t => ?_
    generalize eq_t : upd _ t _ = H2
    have s_t : Same _ H2 := eq_t ▸ same_new n_t
    have h_t : H2 t = some _ := eq_t ▸ upd_same
    clear eq_t
    have D1 := D1.same s_t
    have E1 := E1.trans (Ext.of s_t)
    exact q t 0 0 0 _ (P1 _ _ _ (by omega)) h_t D1 E1
  wtm_at "rd"
  refine ⟨d, c, r, 14, rfl, D1, by decide, by decide, fun k2 H2 k20 k21 D2 E2 => ?_⟩
  have E2 := E1.trans E2
  wtm_at "rd"
  refine r_ite (fun e2 => ?_) (fun e2 => ?_)
  · wtm_at "rd"
    refine r_new rfl fun t n_t => ?_
    generalize eq_t : upd _ t _ = H3
    have s_t : Same _ H3 := eq_t ▸ same_new n_t
    have h_t : H3 t = some _ := eq_t ▸ upd_same
    clear eq_t
    have D2 := D2.same s_t
    have E2 := E2.trans (Ext.of s_t)
    exact q t _ 0 0 _ (P1 _ _ _ (by omega)) h_t D2 E2
  wtm_at "rd"
  refine r_ite (fun e3 => ?_) (fun e3 => ?_)
  · wtm_at "rd"
    refine r_new rfl fun t n_t => ?_
    generalize eq_t : upd _ t _ = H3
    have s_t : Same _ H3 := eq_t ▸ same_new n_t
    have h_t : H3 t = some _ := eq_t ▸ upd_same
    clear eq_t
    have D2 := D2.same s_t
    have E2 := E2.trans (Ext.of s_t)
    exact q t _ 0 0 _ (P1 _ _ _ (by omega)) h_t D2 E2
  wtm_at "rd"
  refine r_new rfl fun l nl => ?_
  wtm_at "rd"
  refine ⟨d, c, r, 4, rfl, D2.new nl, by decide, by decide, fun k3 H3 k30 k31 D3 E3 => ?_⟩
  have hl : H3 l = some (.lst ([1, 2, 4, 14].map V.int)) := E3 _ _ upd_same (D2.ned nl) (D2.ner nl)
  refine r_ixL (SqL.of hl) (ati_int k30 k31) ?_
  have hm : 0 < kAt [1, 2, 4, 14] k3.toNat ∧ kAt [1, 2, 4, 14] k3.toNat < 20 := by
    obtain e | e | e | e : k3 = 0 ∨ k3 = 1 ∨ k3 = 2 ∨ k3 = 3 := by omega
    all_goals subst e
    all_goals decide
  have E3 := (E2.trans (Ext.of (same_new (o := .lst [V.int 1, .int 2, .int 4, .int 14]) nl))).trans E3
  wtm_at "rd"
  refine ⟨d, c, r, _, rfl, D3, hm.1, by omega, fun k4 H4 k40 k41 D4 E4 => ?_⟩
  have E4 := E3.trans E4
  wtm_at "rd"
  refine ⟨d, c, r, 6, rfl, D4, by decide, by decide, fun k5 H5 k50 k51 D5 E5 => ?_⟩
  have E5 := E4.trans E5
  wtm_at "rd"
  refine r_I ⟨by decide, by decide, by decide⟩ ?_
  wtm_at "rd"
  refine r_I (.inl ⟨by decide, by decide⟩) ?_
  wtm_at "rd"
  refine r_new rfl fun l2 nl2 => ?_
  wtm_at "rd"
  refine ⟨d, c, r, 3, rfl, D5.new nl2, by decide, by decide, fun k6 H6 k60 k61 D6 E6 => ?_⟩
  have hl2 : H6 l2 = some (.lst ([1, 8, 2 * 10 ^ (9 : Int).toNat].map V.int)) := E6 _ _ upd_same (D5.ned nl2) (D5.ner nl2)
  refine r_ixL (SqL.of hl2) (ati_int k60 k61) ?_
  have hm2 : 0 < kAt [1, 8, 2 * 10 ^ (9 : Int).toNat] k6.toNat ∧ kAt [1, 8, 2 * 10 ^ (9 : Int).toNat] k6.toNat < 10 ^ 12 := by
    obtain e | e | e : k6 = 0 ∨ k6 = 1 ∨ k6 = 2 := by omega
    all_goals subst e
    all_goals decide
  have E6 := (E5.trans (Ext.of (same_new (o := .lst [V.int 1, .int 8, .int (2 * 10 ^ (9 : Int).toNat)]) nl2))).trans E6
  wtm_at "rd"
  refine ⟨d, c, r, _, rfl, D6, hm2.1, by omega, fun k7 H7 k70 k71 D7 E7 => ?_⟩
  have E7 := E6.trans E7
  wtm_at "rd"
  refine r_ite (fun e4 => ?_) (fun e4 => ?_)
  · wtm_at "rd"
    refine r_new rfl fun t n_t => ?_
    generalize eq_t : upd _ t _ = H8
    have s_t : Same _ H8 := eq_t ▸ same_new n_t
    have h_t : H8 t = some _ := eq_t ▸ upd_same
    clear eq_t
    have D7 := D7.same s_t
    have E7 := E7.trans (Ext.of s_t)
    exact q t _ _ _ _ (P1 _ _ _ (by omega)) h_t D7 E7
  · wtm_at "rd"
    refine r_new rfl fun t n_t => ?_
    generalize eq_t : upd _ t _ = H8
    have s_t : Same _ H8 := eq_t ▸ same_new n_t
    have h_t : H8 t = some _ := eq_t ▸ upd_same
    clear eq_t
    have D7 := D7.same s_t
    have E7 := E7.trans (Ext.of s_t)
    exact q t _ _ _ _ (P1 _ _ _ (by omega)) h_t D7 E7
theorem ok__law_other (T : Txt K mg) : FnOk P w K mg base CX0 8 T.f__law_other T.d__law_other ["_law_draws", "_law_way", "_law_zone_here", "_law_three_here", "_law_sign"] (spOtherL T.C_Cell T.C_Stretch) := by
  refine T.F__law_other.ok sc__law_other (fun vs H Q E h => ?_) (fun cdv A outer s H vs Q E hr h => ?_)
  · obtain ⟨d, c, r, way, z, p, P3', sg, rfl, _⟩ := h
    rfl
  obtain ⟨d, c, r, way, z, p, P3', sg, rfl, D, w0, w6, hok, o, hz, q⟩ := h
  refine ⟨_, (pss_cons (ps_if (pt_cmpR op_eq (pv 1) pe_int (nomark _)) (pss_one (ps_ret (pe_call (ok__law_made T) (hr.mono (by decide)) (by rfl) T.g__law_made T.F__law_made.kp T.b__law_made .nil pass0 (pa_cons pe_str (pa_cons (pe_lst (pa_cons (pe_tup (pa_cons pe_int (pa_cons pe_int pa_nil))) (pa_cons (pe_tup (pa_cons pe_int (pa_cons pe_int pa_nil))) (pa_cons (pe_tup (pa_cons pe_int (pa_cons pe_int pa_nil))) pa_nil)))) (pa_cons pe_int pa_nil)))))) pss_nil)
      (pss_cons (ps_set (i := 5) sc__law_other.nd rfl (by first | exact Or.inl rfl | exact Or.inr rfl) (pe_lst (pa_cons (pe_ix (r := rIxL K) ix_list (pv 3) pe_int (fun _ _ => rfl)) (pa_cons (pe_ix (r := rIxL K) ix_list (pv 3) pe_int (fun _ _ => rfl)) (pa_cons (pe_ix (r := rIxL K) ix_list (pv 3) pe_int (fun _ _ => rfl)) pa_nil)))))
      (pss_cons (ps_set (i := 6) sc__law_other.nd rfl (by first | exact Or.inl rfl | exact Or.inr rfl) (pe_op op_mul (pe_call (ok__law_draw T) (hr.mono (by decide)) (by rfl) T.g__law_draw T.F__law_draw.kp T.b__law_draw .nil pass0 (pa_cons (pv 0) (pa_cons pe_int pa_nil))) (pe_callTy c_intB (by rfl) T.z_int (by decide +kernel) (pa_cons (pe_cmpR op_gt (pv 1) pe_int (nomark _)) pa_nil))))
      (C8.pss_cut (ps_if (pt_cmpR o_isN (pe_ix (r := rIxT K) ix_tup (pe_ix (r := rIxL K) ix_list (pv 5) (pv 6) (fun _ _ => rfl)) pe_int (fun _ _ => rfl)) pe_non (nomark _)) (pss_one (ps_asg (pe_tup (pa_cons (pe_ix (r := rIxT K) ix_tup (pe_ix (r := rIxL K) ix_list (pv 5) (pv 6) (fun _ _ => rfl)) pe_int (fun _ _ => rfl)) (pa_cons (pe_op op_add (pe_callB (c_max2 rfl) (by rfl) T.z_max (by decide +kernel) (pa_cons (pe_ix (r := rIxT K) ix_tup (pe_ix (r := rIxL K) ix_list (pv 5) (pv 6) (fun _ _ => rfl)) pe_int (fun _ _ => rfl)) (pa_cons (pe_ix (r := rIxT K) ix_tup (pe_ix (r := rIxL K) ix_list (pv 5) pe_int (fun _ _ => rfl)) pe_int (fun _ _ => rfl)) pa_nil))) pe_int) pa_nil))) (pg_sub (pv 5) (pv 6) set_list))) (pss_one (ps_asg (pe_tup (pa_cons (pe_ix (r := rIxT K) ix_tup (pe_ix (r := rIxL K) ix_list (pv 5) (pv 6) (fun _ _ => rfl)) pe_int (fun _ _ => rfl)) (pa_cons pe_non pa_nil))) (pg_sub (pv 5) (pv 6) set_list))))
      (pss_one (ps_ret (pe_call (ok__law_made T) (hr.mono (by decide)) (by rfl) T.g__law_made T.F__law_made.kp T.b__law_made .nil pass0 (pa_cons (pv 2) (pa_cons (pv 5) (pa_cons (pv 4) pa_nil)))))))))), ?_⟩
  try simp only [nox_K, cx_K]
  wtm_at "rd"
  refine r_ite (fun e1 => ?_) (fun e1 => ?_)
  · wtm_at "rd"
    refine r_new rfl fun t0 n_t0 => ?_
    generalize eq_t0 : upd _ t0 _ = H1
    have s_t0 : Same _ H1 := eq_t0 ▸ same_new n_t0
    have h_t0 : H1 t0 = some _ := eq_t0 ▸ upd_same
    clear eq_t0
    have D := D.same s_t0
    wtm_at "rd"
    refine r_new rfl fun t1 n_t1 => ?_
    generalize eq_t1 : upd _ t1 _ = H2
    have s_t1 : Same _ H2 := eq_t1 ▸ same_new n_t1
    have h_t1 : H2 t1 = some _ := eq_t1 ▸ upd_same
    clear eq_t1
    have D := D.same s_t1
    have h_t0 := s_t1 _ _ h_t0
    have s_t0 := s_t0.trans s_t1
    wtm_at "rd"
    refine r_new rfl fun t2 n_t2 => ?_
    generalize eq_t2 : upd _ t2 _ = H3
    have s_t2 : Same _ H3 := eq_t2 ▸ same_new n_t2
    have h_t2 : H3 t2 = some _ := eq_t2 ▸ upd_same
    clear eq_t2
    have D := D.same s_t2
    have h_t0 := s_t2 _ _ h_t0
    have h_t1 := s_t2 _ _ h_t1
    have s_t0 := s_t0.trans s_t2
    wtm_at "rd"
    refine r_new rfl fun pp n_pp => ?_
    generalize eq_pp : upd _ pp _ = H4
    have s_pp : Same _ H4 := eq_pp ▸ same_new n_pp
    have h_pp : H4 pp = some _ := eq_pp ▸ upd_same
    clear eq_pp
    have D := D.same s_pp
    have h_t0 := s_pp _ _ h_t0
    have h_t1 := s_pp _ _ h_t1
    have h_t2 := s_pp _ _ h_t2
    have s_t0 := s_t0.trans s_pp
    wtm_at "rd"
    refine ⟨pp, ⟨1, some 1, 0, some 0, 0, some 0⟩, _, _, rfl, ⟨t0, t1, t2, h_pp, h_t0, h_t1, h_t2⟩, fun b z => ?_, fun b z => ?_, fun b z => ?_, fun x H5 s5 o5 => ?_⟩
    · cases z; exact Int.le_refl _
    · cases z; exact Int.le_refl _
    · cases z; exact Int.le_refl _
    · have hne : (clOf z sg P3').eqB (clOf "after" 1 ⟨1, some 1, 0, some 0, 0, some 0⟩) = false := decide_eq_false fun y => hz e1 y.1
      exact q x _ _ hne o5 (D.same s5) (Ext.of (s_t0.trans s5))
  obtain ⟨t0, t1, t2, hp, h0, h1, h2⟩ := o
  unfold PrA at h0 h1 h2
  have v0 : Vl P3'.l0 P3'.h0 := fun b z => (hok.v0 b z).1
  have v1 : Vl P3'.l1 P3'.h1 := hok.v1
  have v2 : Vl P3'.l2 P3'.h2 := fun b z => (hok.v2 b z).1
  wtm_at "rd"
  refine r_new rfl fun o n_o => ?_
  have od := D.ned n_o
  have or_ := D.ner n_o
  have oc := D.nec n_o
  generalize eo : upd _ o _ = H1
  have s_o : Same _ H1 := eo ▸ same_new n_o
  have ho : H1 o = some (.lst [.ref t0, .ref t1, .ref t2]) := eo ▸ upd_same
  have D1 := D.same s_o
  wtm_at "rd"
  refine ⟨d, c, r, 3, rfl, D1, by decide, by decide, fun k H2 k0 k1 D2 E2 => ?_⟩
  have ho := E2 _ _ ho od or_
  have h0 := E2.keep D1 (s_o _ _ h0) fun _ z => nomatch z
  have h1 := E2.keep D1 (s_o _ _ h1) fun _ z => nomatch z
  have h2 := E2.keep D1 (s_o _ _ h2) fun _ z => nomatch z
  have E2 := (Ext.of s_o).trans E2
  wtm_at "rd"
  refine r_mul (.inr bit_ok) fun ax eax => ?_
  have hax : 0 ≤ ax ∧ ax < 3 := by
    rw [eax]
    split <;> omega
  wtm_at "rd"
  refine ⟨fun σ H' => ∃ (P' : P3) (H0 : Hp), σ = [some (.ref d), some (.int way), some (.str z), some (.ref p), some (.int sg), some (.ref o), some (.int ax)] ∧ Drw H' d c r ∧ Ext d r H H' ∧ ThAt H' o P' ∧ Vl P'.l0 P'.h0 ∧ Vl P'.l1 P'.h1 ∧ Vl P'.l2 P'.h2 ∧ (clOf z sg P3').eqB (clOf z sg P') = false, ?_, ?_⟩
  · clear eax
    obtain e | e | e : ax = 0 ∨ ax = 1 ∨ ax = 2 := by omega
    · subst e
      cases hh : P3'.h0 with
      | none =>
        rw [hh] at h0
        simp only [endV] at h0
        wtm_at "rdi"
        refine r_max2 fun m m1 m2 _ _ => ?_
        wtm_at "rd"
        refine r_new rfl fun t n_t => ?_
        generalize eq_t : upd _ t _ = H4
        have s_t : Same _ H4 := eq_t ▸ same_new n_t
        have h_t : H4 t = some _ := eq_t ▸ upd_same
        clear eq_t
        have D2 := D2.same s_t
        have E2 := E2.trans (Ext.of s_t)
        have ho := s_t _ _ ho
        have h0 := s_t _ _ h0
        have h1 := s_t _ _ h1
        have h2 := s_t _ _ h2
        have vn : Vl P3'.l0 (some (m + 4)) := fun b z => by cases z; omega
        rw [← show endV P3'.h0 = .non by rw [hh]; rfl] at h0
        wtm_at "rd"
        refine r_setL (n := 0) ho rfl ?_
        wtm_at "rd"
        have hx0 := (upd_ne (o := .lst ([V.ref t0, .ref t1, .ref t2].set 0 (.ref t))) (ne_of h0 ho fun z => nomatch z)).trans h0
        have hx1 := (upd_ne (o := .lst ([V.ref t0, .ref t1, .ref t2].set 0 (.ref t))) (ne_of h1 ho fun z => nomatch z)).trans h1
        have hx2 := (upd_ne (o := .lst ([V.ref t0, .ref t1, .ref t2].set 0 (.ref t))) (ne_of h2 ho fun z => nomatch z)).trans h2
        have hn := (upd_ne (o := .lst ([V.ref t0, .ref t1, .ref t2].set 0 (.ref t))) (ne_of h_t ho fun z => nomatch z)).trans h_t
        exact ⟨⟨P3'.l0, some (m + 4), P3'.l1, P3'.h1, P3'.l2, P3'.h2⟩, H, rfl, D2.put od or_ oc, fun b o' e n1 n2 => (upd_ne (ne_of_none e n_o)).trans (E2 b o' e n1 n2), ⟨t, t1, t2, upd_same, hn, hx1, hx2⟩, vn, v1, v2, decide_eq_false fun z => trn_ne (by rw [hh]; exact fun z => nomatch z) z.2.1⟩
      | some b =>
        rw [hh] at h0
        simp only [endV] at h0
        wtm_at "rdi"
        refine r_new rfl fun t n_t => ?_
        generalize eq_t : upd _ t _ = H4
        have s_t : Same _ H4 := eq_t ▸ same_new n_t
        have h_t : H4 t = some _ := eq_t ▸ upd_same
        clear eq_t
        have D2 := D2.same s_t
        have E2 := E2.trans (Ext.of s_t)
        have ho := s_t _ _ ho
        have h0 := s_t _ _ h0
        have h1 := s_t _ _ h1
        have h2 := s_t _ _ h2
        have vn : Vl P3'.l0 none := fun b z => nomatch z
        rw [← show endV P3'.h0 = .int b by rw [hh]; rfl] at h0
        wtm_at "rd"
        refine r_setL (n := 0) ho rfl ?_
        wtm_at "rd"
        have hx0 := (upd_ne (o := .lst ([V.ref t0, .ref t1, .ref t2].set 0 (.ref t))) (ne_of h0 ho fun z => nomatch z)).trans h0
        have hx1 := (upd_ne (o := .lst ([V.ref t0, .ref t1, .ref t2].set 0 (.ref t))) (ne_of h1 ho fun z => nomatch z)).trans h1
        have hx2 := (upd_ne (o := .lst ([V.ref t0, .ref t1, .ref t2].set 0 (.ref t))) (ne_of h2 ho fun z => nomatch z)).trans h2
        have hn := (upd_ne (o := .lst ([V.ref t0, .ref t1, .ref t2].set 0 (.ref t))) (ne_of h_t ho fun z => nomatch z)).trans h_t
        exact ⟨⟨P3'.l0, none, P3'.l1, P3'.h1, P3'.l2, P3'.h2⟩, H, rfl, D2.put od or_ oc, fun b o' e n1 n2 => (upd_ne (ne_of_none e n_o)).trans (E2 b o' e n1 n2), ⟨t, t1, t2, upd_same, hn, hx1, hx2⟩, vn, v1, v2, decide_eq_false fun z => trn_ne (by rw [hh]; exact fun z => nomatch z) z.2.1⟩
    · subst e
      cases hh : P3'.h1 with
      | none =>
        rw [hh] at h1
        simp only [endV] at h1
        wtm_at "rdi"
        refine r_max2 fun m m1 m2 _ _ => ?_
        wtm_at "rd"
        refine r_new rfl fun t n_t => ?_
        generalize eq_t : upd _ t _ = H4
        have s_t : Same _ H4 := eq_t ▸ same_new n_t
        have h_t : H4 t = some _ := eq_t ▸ upd_same
        clear eq_t
        have D2 := D2.same s_t
        have E2 := E2.trans (Ext.of s_t)
        have ho := s_t _ _ ho
        have h0 := s_t _ _ h0
        have h1 := s_t _ _ h1
        have h2 := s_t _ _ h2
        have vn : Vl P3'.l1 (some (m + 4)) := fun b z => by cases z; omega
        rw [← show endV P3'.h1 = .non by rw [hh]; rfl] at h1
        wtm_at "rd"
        refine r_setL (n := 1) ho rfl ?_
        wtm_at "rd"
        have hx0 := (upd_ne (o := .lst ([V.ref t0, .ref t1, .ref t2].set 1 (.ref t))) (ne_of h0 ho fun z => nomatch z)).trans h0
        have hx1 := (upd_ne (o := .lst ([V.ref t0, .ref t1, .ref t2].set 1 (.ref t))) (ne_of h1 ho fun z => nomatch z)).trans h1
        have hx2 := (upd_ne (o := .lst ([V.ref t0, .ref t1, .ref t2].set 1 (.ref t))) (ne_of h2 ho fun z => nomatch z)).trans h2
        have hn := (upd_ne (o := .lst ([V.ref t0, .ref t1, .ref t2].set 1 (.ref t))) (ne_of h_t ho fun z => nomatch z)).trans h_t
        exact ⟨⟨P3'.l0, P3'.h0, P3'.l1, some (m + 4), P3'.l2, P3'.h2⟩, H, rfl, D2.put od or_ oc, fun b o' e n1 n2 => (upd_ne (ne_of_none e n_o)).trans (E2 b o' e n1 n2), ⟨t0, t, t2, upd_same, hx0, hn, hx2⟩, v0, vn, v2, decide_eq_false fun z => trn_ne (by rw [hh]; exact fun z => nomatch z) z.2.2.1⟩
      | some b =>
        rw [hh] at h1
        simp only [endV] at h1
        wtm_at "rdi"
        refine r_new rfl fun t n_t => ?_
        generalize eq_t : upd _ t _ = H4
        have s_t : Same _ H4 := eq_t ▸ same_new n_t
        have h_t : H4 t = some _ := eq_t ▸ upd_same
        clear eq_t
        have D2 := D2.same s_t
        have E2 := E2.trans (Ext.of s_t)
        have ho := s_t _ _ ho
        have h0 := s_t _ _ h0
        have h1 := s_t _ _ h1
        have h2 := s_t _ _ h2
        have vn : Vl P3'.l1 none := fun b z => nomatch z
        rw [← show endV P3'.h1 = .int b by rw [hh]; rfl] at h1
        wtm_at "rd"
        refine r_setL (n := 1) ho rfl ?_
        wtm_at "rd"
        have hx0 := (upd_ne (o := .lst ([V.ref t0, .ref t1, .ref t2].set 1 (.ref t))) (ne_of h0 ho fun z => nomatch z)).trans h0
        have hx1 := (upd_ne (o := .lst ([V.ref t0, .ref t1, .ref t2].set 1 (.ref t))) (ne_of h1 ho fun z => nomatch z)).trans h1
        have hx2 := (upd_ne (o := .lst ([V.ref t0, .ref t1, .ref t2].set 1 (.ref t))) (ne_of h2 ho fun z => nomatch z)).trans h2
        have hn := (upd_ne (o := .lst ([V.ref t0, .ref t1, .ref t2].set 1 (.ref t))) (ne_of h_t ho fun z => nomatch z)).trans h_t
        exact ⟨⟨P3'.l0, P3'.h0, P3'.l1, none, P3'.l2, P3'.h2⟩, H, rfl, D2.put od or_ oc, fun b o' e n1 n2 => (upd_ne (ne_of_none e n_o)).trans (E2 b o' e n1 n2), ⟨t0, t, t2, upd_same, hx0, hn, hx2⟩, v0, vn, v2, decide_eq_false fun z => trn_ne (by rw [hh]; exact fun z => nomatch z) z.2.2.1⟩
    · subst e
      cases hh : P3'.h2 with
      | none =>
        rw [hh] at h2
        simp only [endV] at h2
        wtm_at "rdi"
        refine r_max2 fun m m1 m2 _ _ => ?_
        wtm_at "rd"
        refine r_new rfl fun t n_t => ?_
        generalize eq_t : upd _ t _ = H4
        have s_t : Same _ H4 := eq_t ▸ same_new n_t
        have h_t : H4 t = some _ := eq_t ▸ upd_same
        clear eq_t
        have D2 := D2.same s_t
        have E2 := E2.trans (Ext.of s_t)
        have ho := s_t _ _ ho
        have h0 := s_t _ _ h0
        have h1 := s_t _ _ h1
        have h2 := s_t _ _ h2
        have vn : Vl P3'.l2 (some (m + 4)) := fun b z => by cases z; omega
        rw [← show endV P3'.h2 = .non by rw [hh]; rfl] at h2
        wtm_at "rd"
        refine r_setL (n := 2) ho rfl ?_
        wtm_at "rd"
        have hx0 := (upd_ne (o := .lst ([V.ref t0, .ref t1, .ref t2].set 2 (.ref t))) (ne_of h0 ho fun z => nomatch z)).trans h0
        have hx1 := (upd_ne (o := .lst ([V.ref t0, .ref t1, .ref t2].set 2 (.ref t))) (ne_of h1 ho fun z => nomatch z)).trans h1
        have hx2 := (upd_ne (o := .lst ([V.ref t0, .ref t1, .ref t2].set 2 (.ref t))) (ne_of h2 ho fun z => nomatch z)).trans h2
        have hn := (upd_ne (o := .lst ([V.ref t0, .ref t1, .ref t2].set 2 (.ref t))) (ne_of h_t ho fun z => nomatch z)).trans h_t
        exact ⟨⟨P3'.l0, P3'.h0, P3'.l1, P3'.h1, P3'.l2, some (m + 4)⟩, H, rfl, D2.put od or_ oc, fun b o' e n1 n2 => (upd_ne (ne_of_none e n_o)).trans (E2 b o' e n1 n2), ⟨t0, t1, t, upd_same, hx0, hx1, hn⟩, v0, v1, vn, decide_eq_false fun z => trn_ne (by rw [hh]; exact fun z => nomatch z) z.2.2.2⟩
      | some b =>
        rw [hh] at h2
        simp only [endV] at h2
        wtm_at "rdi"
        refine r_new rfl fun t n_t => ?_
        generalize eq_t : upd _ t _ = H4
        have s_t : Same _ H4 := eq_t ▸ same_new n_t
        have h_t : H4 t = some _ := eq_t ▸ upd_same
        clear eq_t
        have D2 := D2.same s_t
        have E2 := E2.trans (Ext.of s_t)
        have ho := s_t _ _ ho
        have h0 := s_t _ _ h0
        have h1 := s_t _ _ h1
        have h2 := s_t _ _ h2
        have vn : Vl P3'.l2 none := fun b z => nomatch z
        rw [← show endV P3'.h2 = .int b by rw [hh]; rfl] at h2
        wtm_at "rd"
        refine r_setL (n := 2) ho rfl ?_
        wtm_at "rd"
        have hx0 := (upd_ne (o := .lst ([V.ref t0, .ref t1, .ref t2].set 2 (.ref t))) (ne_of h0 ho fun z => nomatch z)).trans h0
        have hx1 := (upd_ne (o := .lst ([V.ref t0, .ref t1, .ref t2].set 2 (.ref t))) (ne_of h1 ho fun z => nomatch z)).trans h1
        have hx2 := (upd_ne (o := .lst ([V.ref t0, .ref t1, .ref t2].set 2 (.ref t))) (ne_of h2 ho fun z => nomatch z)).trans h2
        have hn := (upd_ne (o := .lst ([V.ref t0, .ref t1, .ref t2].set 2 (.ref t))) (ne_of h_t ho fun z => nomatch z)).trans h_t
        exact ⟨⟨P3'.l0, P3'.h0, P3'.l1, P3'.h1, P3'.l2, none⟩, H, rfl, D2.put od or_ oc, fun b o' e n1 n2 => (upd_ne (ne_of_none e n_o)).trans (E2 b o' e n1 n2), ⟨t0, t1, t, upd_same, hx0, hx1, hn⟩, v0, v1, vn, decide_eq_false fun z => trn_ne (by rw [hh]; exact fun z => nomatch z) z.2.2.2⟩

  rintro σ H3 ⟨P', _, rfl, D3, E3, th, v0', v1', v2', hne⟩
  wtm_at "rd"
  refine ⟨o, P', _, _, rfl, th, v0', v1', v2', fun x H4 s4 o4 => ?_⟩
  exact q x _ _ hne o4 (D3.same s4) (E3.trans (Ext.of s4))
def prOf (P : P3) : Nat → Int × Option Int
  | 0 => (P.l0, P.h0)
  | 1 => (P.l1, P.h1)
  | _ => (P.l2, P.h2)
theorem ok__law_ends (T : Txt K mg) : FnOk P w K mg base CX0 1 T.f__law_ends T.d__law_ends ["_law_three_here", "_law_sign"] spEndsL := by
  refine T.F__law_ends.ok sc__law_ends (fun vs H Q E h => ?_) (fun cdv A outer s H vs Q E hr h => ?_)
  · obtain ⟨p, P3', sg, rfl, _⟩ := h
    rfl
  obtain ⟨p, P3', sg, rfl, o, q⟩ := h
  refine ⟨_, (pss_cons (ps_set (i := 2) sc__law_ends.nd rfl (by first | exact Or.inl rfl | exact Or.inr rfl) (pe_lst pa_nil))
      (pss_cons (ps_for PassesOwn.never rfl (pi_list (pv 0)) (pg_name (i := 3) sc__law_ends.nd rfl (by first | exact Or.inl rfl | exact Or.inr rfl)) (pss_one (ps_if (pt_cmpR op_gt (pv 1) pe_int (nomark _)) (pss_one (ps_expr (pe_bm PySem.F.plainAttrs_list PySem.F.slot_list_append PySem.F.type_list_append mt_append (pv 2) (pa_cons (pv 3) pa_nil)))) (pss_one (ps_if (pt_cmpR o_isN (pe_ix (r := rIxT K) ix_tup (pv 3) pe_int (fun _ _ => rfl)) pe_non (nomark _)) (pss_one (ps_expr (pe_bm PySem.F.plainAttrs_list PySem.F.slot_list_append PySem.F.type_list_append mt_append (pv 2) (pa_cons (pe_tup (pa_cons pe_non (pa_cons (pe_op op_sub pe_int (pe_ix (r := rIxT K) ix_tup (pv 3) pe_int (fun _ _ => rfl))) pa_nil))) pa_nil)))) (pss_one (ps_expr (pe_bm PySem.F.plainAttrs_list PySem.F.slot_list_append PySem.F.type_list_append mt_append (pv 2) (pa_cons (pe_tup (pa_cons (pe_op op_sub pe_int (pe_ix (r := rIxT K) ix_tup (pv 3) pe_int (fun _ _ => rfl))) (pa_cons (pe_op op_sub pe_int (pe_ix (r := rIxT K) ix_tup (pv 3) pe_int (fun _ _ => rfl))) pa_nil))) pa_nil)))))))))
      (pss_one (ps_ret (pv 2))))), ?_⟩
  try simp only [nox_K, cx_K]
  obtain ⟨t0, t1, t2, hp, h0, h1, h2⟩ := o
  wtm_at "rd"
  refine r_new rfl fun F n_F => ?_
  wtm_at "rd"
  have s0 := same_new (H := H) (o := .lst []) n_F
  refine r_for (r_il ?_)
  wtm_at "rd"
  refine r_itl (SqL.of (s0 _ _ hp)) ?_
  refine for_list (K := K) (a := p) (xs := [.ref t0, .ref t1, .ref t2]) (fun i σ H' => ∃ (y3 : Option V) (us : List Addr), σ = [some (.ref p), some (.int sg), some (.ref F), y3] ∧ Same H H' ∧ H' F = some (.lst (us.map V.ref)) ∧ us.length = i ∧ ∀ (j : Nat) (u : Addr), us[j]? = some u → EnA H' u (trn sg (prOf P3' j).1 (prOf P3' j).2)) ⟨_, [], rfl, s0, upd_same, rfl, fun j u z => (by cases z)⟩ (fun i σ H' _ ⟨_, _, _, s, _⟩ => SqL.of (s _ _ hp)) ?_ ?_
  · rintro i v σ H1 hv ⟨y3, us, rfl, s1, hF, hl, hu⟩
    have hi : i < 3 := (List.getElem?_eq_some_iff.mp hv).1
    have hv2 : ∃ t, v = .ref t ∧ PrA H1 t (prOf P3' i).1 (prOf P3' i).2 := by
      obtain e | e | e : i = 0 ∨ i = 1 ∨ i = 2 := by omega
      · subst e; cases hv; exact ⟨t0, rfl, s1 _ _ h0⟩
      · subst e; cases hv; exact ⟨t1, rfl, s1 _ _ h1⟩
      · subst e; cases hv; exact ⟨t2, rfl, s1 _ _ h2⟩
    obtain ⟨t, rfl, ht⟩ := hv2
    have fin : ∀ (u : Addr) (H2 : Hp), Same H1 H2 → EnA H2 u (trn sg (prOf P3' i).1 (prOf P3' i).2) → ∃ (y3 : Option V) (us' : List Addr), [some (V.ref p), some (.int sg), some (.ref F), some (.ref t)] = [some (.ref p), some (.int sg), some (.ref F), y3] ∧ Same H (upd H2 F (.lst (us.map V.ref ++ [.ref u]))) ∧ (upd H2 F (.lst (us.map V.ref ++ [.ref u]))) F = some (.lst (us'.map V.ref)) ∧ us'.length = i + 1 ∧ ∀ (j : Nat) (w : Addr), us'[j]? = some w → EnA (upd H2 F (.lst (us.map V.ref ++ [.ref u]))) w (trn sg (prOf P3' j).1 (prOf P3' j).2) := by
      intro u H2 s2 hu2
      have hF2 := s2 _ _ hF
      refine ⟨_, us ++ [u], rfl, fun b o e => (upd_ne (ne_of_none e n_F)).trans (s2 _ _ (s1 _ _ e)), by rw [upd_same, List.map_append]; rfl, by rw [List.length_append, hl]; rfl, fun j w z => ?_⟩
      rcases Nat.lt_or_ge j us.length with hj | hj
      · rw [List.getElem?_append_left hj] at z
        have y := s2 _ _ (hu j w z)
        exact (upd_ne (ne_of y hF2 fun q => nomatch q)).trans y
      · rw [List.getElem?_append_right hj] at z
        cases hk : j - us.length with
        | zero =>
          rw [hk] at z
          cases z
          have : j = i := by omega
          rw [this]
          exact (upd_ne (ne_of hu2 hF2 fun q => nomatch q)).trans hu2
        | succ m => rw [hk] at z; cases z
    have hlen : (us.map V.ref).length < sizeLine := small1000 (by rw [List.length_map, hl]; omega)
    revert fin ht
    generalize (prOf P3' i).1 = l
    generalize (prOf P3' i).2 = h
    intro ht fin
    unfold PrA at ht
    wtm_at "rd"
    refine r_ite (fun e1 => ?_) (fun e1 => ?_)
    · rw [trn, if_pos e1] at fin
      wtm_at "rd"
      refine r_tyL (SqL.of hF) ?_
      wtm_at "rd"
      refine r_app hF hlen ?_
      wtm_at "rd"
      exact fin t H1 (Same.refl _) ht
    · rw [trn, if_neg e1] at fin
      cases h with
      | none =>
        simp only [endV] at ht
        wtm_at "rdi"
        refine r_tyL (SqL.of hF) ?_
        wtm_at "rd"
        rw [Int.zero_sub]
        refine r_new rfl fun u n_u => ?_
        generalize eq_u : upd _ u _ = H2
        have s_u : Same _ H2 := eq_u ▸ same_new n_u
        have h_u : H2 u = some _ := eq_u ▸ upd_same
        clear eq_u
        have hF := s_u _ _ hF
        wtm_at "rd"
        refine r_app hF hlen ?_
        wtm_at "rd"
        exact fin u H2 s_u h_u
      | some b =>
        simp only [endV] at ht
        wtm_at "rdi"
        refine r_tyL (SqL.of hF) ?_
        wtm_at "rd"
        simp only [Int.zero_sub]
        refine r_new rfl fun u n_u => ?_
        generalize eq_u : upd _ u _ = H2
        have s_u : Same _ H2 := eq_u ▸ same_new n_u
        have h_u : H2 u = some _ := eq_u ▸ upd_same
        clear eq_u
        have hF := s_u _ _ hF
        wtm_at "rd"
        refine r_app hF hlen ?_
        wtm_at "rd"
        exact fin u H2 s_u h_u
  · rintro σ H1 ⟨y3, us, rfl, s1, hF, hl, hu⟩
    obtain ⟨u0, u1, u2, rfl⟩ := three_of hl
    wtm_at "rd"
    exact q F u0 u1 u2 H1 s1 hF (hu 0 u0 rfl) (hu 1 u1 rfl) (hu 2 u2 rfl)
end

theorem in_trn {sg l n : Int} {h : Option Int} (hs : sg = 1 ∨ sg = -1) : inB (trn sg l h).1 (trn sg l h).2 n = inP l h (sg * n) := by
  unfold inP
  rcases hs with rfl | rfl
  · rw [Int.one_mul]
    rfl
  · rw [show (-1 : Int) * n = -n by omega]
    cases h with
    | none =>
      show (true && decide (n ≤ -l)) = (decide (l ≤ -n) && true)
      rw [Bool.true_and, Bool.and_true, decide_eq_decide]
      omega
    | some b =>
      show (decide (-b ≤ n) && decide (n ≤ -l)) = (decide (l ≤ -n) && decide (-n ≤ b))
      rw [Bool.and_comm]
      congr 1
      · rw [decide_eq_decide]; omega
      · rw [decide_eq_decide]; omega
theorem zone_eq {x y k : Int} (hb : possB x y k = true) : zoneS x y = zoneL x y := by
  have hb := of_decide_eq_true hb
  unfold zoneS zoneL
  (repeat' split) <;> first | rfl | (exfalso; omega)
theorem has_held {z : Str} {sg x y k : Int} {P : P3} (hs : sg = 1 ∨ sg = -1) (hb : possB x y k = true) : (clOf z sg P).has x y k = ((decide (zoneL x y = z) && inP P.l0 P.h0 (sg * x)) && (inP P.l1 P.h1 (sg * y) && inP P.l2 P.h2 (sg * k))) := by
  unfold Cl.has
  rw [zone_eq hb]
  show (decide (zoneL x y = z) && (inB (trn sg P.l0 P.h0).1 (trn sg P.l0 P.h0).2 x && (inB (trn sg P.l1 P.h1).1 (trn sg P.l1 P.h1).2 y && inB (trn sg P.l2 P.h2).1 (trn sg P.l2 P.h2).2 k))) = _
  rw [in_trn hs, in_trn hs, in_trn hs, Bool.and_assoc]
def zw : Nat → Str
  | 0 => "self"
  | 1 => "after"
  | 2 => "before"
  | 3 => "future"
  | 4 => "past"
  | _ => "future"
def sw : Nat → Int
  | 0 => 1
  | 1 => 1
  | 2 => -1
  | 3 => 1
  | 4 => -1
  | _ => 1
theorem at_zw {k : Int} (h0 : 0 ≤ k) (h1 : k < 6) : atI [V.str "self", .str "after", .str "before", .str "future", .str "past", .str "future"] k = some (.str (zw k.toNat)) := by
  obtain rfl | rfl | rfl | rfl | rfl | rfl : k = 0 ∨ k = 1 ∨ k = 2 ∨ k = 3 ∨ k = 4 ∨ k = 5 := by omega
  all_goals rfl
theorem at_sw {k : Int} (h0 : 0 ≤ k) (h1 : k < 6) : atI [V.int 1, .int 1, .int (0 - 1), .int 1, .int (0 - 1), .int 1] k = some (.int (sw k.toNat)) := by
  obtain rfl | rfl | rfl | rfl | rfl | rfl : k = 0 ∨ k = 1 ∨ k = 2 ∨ k = 3 ∨ k = 4 ∨ k = 5 := by omega
  all_goals rfl
theorem way_ok {way : Int} (h0 : 0 ≤ way) (h1 : way < 6) : (sw way.toNat = 1 ∨ sw way.toNat = -1) ∧ sgnZ (zw way.toNat) = sw way.toNat ∧ (way = 0 → zw way.toNat = "self") ∧ (1 ≤ way → way < 3 → zw way.toNat = if sw way.toNat = 1 then "after" else "before") ∧ (3 ≤ way → zw way.toNat = if sw way.toNat = 1 then "future" else "past") := by
  obtain rfl | rfl | rfl | rfl | rfl | rfl : way = 0 ∨ way = 1 ∨ way = 2 ∨ way = 3 ∨ way = 4 ∨ way = 5 := by omega
  all_goals decide +kernel
theorem nr_trn {sg l : Int} {h : Option Int} (hs : sg = 1 ∨ sg = -1) (h0 : 0 ≤ l) (v : Vl l h) : absI (nrst (trn sg l h).1 (trn sg l h).2) = l := by
  rcases hs with rfl | rfl
  · show absI (nrst (some l) h) = l
    cases h with
    | none => simp only [nrst, absI]; (repeat' split) <;> omega
    | some b => have := v b rfl; simp only [nrst, absI]; (repeat' split) <;> omega
  · show absI (nrst (negO h) (some (-l))) = l
    cases h with
    | none => simp only [negO, nrst, absI]; (repeat' split) <;> omega
    | some b => have := v b rfl; simp only [negO, nrst, absI]; (repeat' split) <;> omega
theorem near_eq {z : Str} {sg way : Int} {P : P3} (hs : sg = 1 ∨ sg = -1) (hok : P.ok way) : (clOf z sg P).lr = max P.l0 P.l1 ∧ (clOf z sg P).lg = P.l1 ∧ (clOf z sg P).ld = max P.l2 P.l1 := by
  have e1 : (clOf z sg P).lg = P.l1 := nr_trn hs hok.n1 hok.v1
  refine ⟨?_, e1, ?_⟩
  · rw [Cl.lr, e1]
    show max (absI (nrst (trn sg P.l0 P.h0).1 (trn sg P.l0 P.h0).2)) _ = _
    rw [nr_trn hs hok.n0 fun b z => (hok.v0 b z).1]
  · rw [Cl.ld, e1]
    show max (absI (nrst (trn sg P.l2 P.h2).1 (trn sg P.l2 P.h2).2)) _ = _
    rw [nr_trn hs hok.n2 fun b z => (hok.v2 b z).1]
theorem near_poss {sg way : Int} {P : P3} (hs : sg = 1 ∨ sg = -1) (w0 : 0 ≤ way) (hok : P.ok way) : possB (sg * max P.l0 P.l1) (sg * P.l1) (sg * max P.l2 P.l1) = true := by
  have h1 := hok.w0
  have h2 := hok.w1
  have h3 := hok.w3
  have n0 := hok.n0
  have n1 := hok.n1
  have n2 := hok.n2
  refine decide_eq_true ?_
  rcases hs with rfl | rfl <;> omega
theorem near_zone {way : Int} {P : P3} (w0 : 0 ≤ way) (w6 : way < 6) (hok : P.ok way) : zoneS (sw way.toNat * max P.l0 P.l1) (sw way.toNat * P.l1) = zw way.toNat := by
  obtain ⟨hs, _, z0, z1, z3⟩ := way_ok w0 w6
  have h1 := hok.w0
  have h2 := hok.w1
  have h3 := hok.w3
  have n0 := hok.n0
  have n1 := hok.n1
  have cs : way = 0 ∨ (1 ≤ way ∧ way < 3) ∨ 3 ≤ way := by omega
  unfold zoneS
  rcases cs with c | ⟨c, c'⟩ | c
  · rw [z0 c, if_pos (by have := h1 c; rcases hs with e | e <;> rw [e] <;> omega)]
  · have q := h2 c c'
    rw [z1 c c', if_neg (by rcases hs with e | e <;> rw [e] <;> omega), if_pos (by rcases hs with e | e <;> rw [e] <;> omega)]
    rcases hs with e | e
    · rw [e, if_pos rfl, if_pos (by omega)]
    · rw [e, if_neg (show ¬ 0 < -1 * max P.l0 P.l1 by omega), if_neg (show ¬ (-1 : Int) = 1 by decide)]
  · have q := h3 c
    rw [z3 c, if_neg (by rcases hs with e | e <;> rw [e] <;> omega), if_neg (by rcases hs with e | e <;> rw [e] <;> omega)]
    rcases hs with e | e
    · rw [e, if_pos rfl, if_pos (by omega)]
    · rw [e, if_neg (show ¬ 0 < -1 * P.l1 by omega), if_neg (show ¬ (-1 : Int) = 1 by decide)]
theorem near_in {way : Int} {P : P3} (w0 : 0 ≤ way) (w6 : way < 6) (hok : P.ok way) : (clOf (zw way.toNat) (sw way.toNat) P).has (sw way.toNat * max P.l0 P.l1) (sw way.toNat * P.l1) (sw way.toNat * max P.l2 P.l1) = true := by
  have hs := (way_ok w0 w6).1
  have hz := near_zone w0 w6 hok
  have key : ∀ (l : Int) (h : Option Int) (n : Int), l ≤ n → (∀ b, h = some b → n ≤ b) → inP l h (sw way.toNat * (sw way.toNat * n)) = true := by
    intro l h n h1 h2
    have e : sw way.toNat * (sw way.toNat * n) = n := by rcases hs with e | e <;> rw [e] <;> omega
    rw [e, inP, decide_eq_true h1, Bool.true_and]
    cases h with
    | none => rfl
    | some b => exact decide_eq_true (h2 b rfl)
  rw [has_held hs (near_poss hs w0 hok), ← zone_eq (near_poss hs w0 hok), decide_eq_true hz, key _ _ _ (by omega) (fun b z => by have := hok.v0 b z; omega), key _ _ _ (by omega) (fun b z => hok.v1 b z), key _ _ _ (by omega) (fun b z => by have := hok.v2 b z; omega)]
  rfl
def spLaw (K : PySem.W.Frag) : Sp := fun vs H Q _ => ∃ (a : Addr) (ns : List Int), vs = [.ref a] ∧ SqL K H a (ns.map V.int) ∧ ns.length ≤ 63 ∧ ∀ H', Q (.bl true) H'
def dE (a : Pr2) : PyData := .tuple [endD a.1, endD a.2]
theorem dp_dE {K : PySem.W.Frag} {H : Hp} {u : Addr} {a : Pr2} (h : EnA H u a) : Dp K H (.ref u) (dE a) := .tup (SqT.of h) (.cons (dp_end _) (.cons (dp_end _) .nil))
theorem lay_dE (a : Pr2) : (dE a).canLay0 = true := by
  obtain ⟨x, y⟩ := a
  cases x <;> cases y <;> rfl
theorem dep_dE (a : Pr2) : (dE a).depth = 1 := by
  obtain ⟨x, y⟩ := a
  cases x <;> cases y <;> rfl
theorem lay3 (a b c : Pr2) : (PyData.list [dE a, dE b, dE c]).canLay0 = true := by
  show ((dE a).canLay0 && ((dE b).canLay0 && ((dE c).canLay0 && true))) = true
  rw [lay_dE, lay_dE, lay_dE]
  rfl
theorem shaped3 (a b c : Pr2) : SeqAt.shaped (PyData.list [dE a, dE b, dE c]) = true := by
  unfold SeqAt.shaped
  rw [lay3]
  show decide (max (dE a).depth (max (dE b).depth (max (dE c).depth 0)) + 1 ≤ 64) = true
  rw [dep_dE, dep_dE, dep_dE]
  rfl
theorem r_neE3 {K : PySem.W.Frag} {H : Hp} {Q : VK} {l l' u0 u1 u2 w0 w1 w2 : Addr} {a b c : Pr2} (hl : H l = some (.lst [.ref u0, .ref u1, .ref u2])) (hl' : H l' = some (.lst [.ref w0, .ref w1, .ref w2])) (h0 : EnA H u0 a) (h1 : EnA H u1 b) (h2 : EnA H u2 c) (g0 : EnA H w0 a) (g1 : EnA H w1 b) (g2 : EnA H w2 c) (q : Q (.bl false) H) : rNeD K (.ref l) (.ref l') H Q := by
  refine ⟨.list [dE a, dE b, dE c], .list [dE a, dE b, dE c], .lst (SqL.of hl) (.cons (dp_dE h0) (.cons (dp_dE h1) (.cons (dp_dE h2) .nil))), .lst (SqL.of hl') (.cons (dp_dE g0) (.cons (dp_dE g1) (.cons (dp_dE g2) .nil))), shaped3 a b c, shaped3 a b c, ?_⟩
  rw [SeqAt.eqv_refl _ (lay3 a b c)]
  exact q
theorem int3_eq (x y z : Int) : ∀ v ∈ [V.int x, .int y, .int z], eqD v := by
  intro v hv
  simp only [List.mem_cons, List.mem_nil_iff, or_false] at hv
  rcases hv with rfl | rfl | rfl <;> trivial
theorem int3_kind (x y z x' y' z' : Int) : ∀ p ∈ [V.int x, .int y, .int z].zip [V.int x', .int y', .int z'], sameKind p.1 p.2 = true := by
  intro p hp
  simp only [List.zip_cons_cons, List.zip_nil_right, List.mem_cons, List.mem_nil_iff, or_false] at hp
  rcases hp with rfl | rfl | rfl <;> rfl
section
variable {P : Program} {w : World} {K : PySem.W.Frag} {mg : Str → Option Value} {base : Heap}
theorem in_cell {CC CS CO : Addr} {H : Hp} {Q : VK} {E : XK} {p q : Addr} {l : Cl} {r g d : Int} (o : CellAt CC CS H p l) (o2 : OffAt CO H q r g d) (h : Q (.bl (l.has r g d)) H) : rInO CC (spCIn CC CS CO) E (.ref q) (.ref p) H Q := by
  obtain ⟨dx, pr, pg, pd, e, _⟩ := id o
  exact ⟨p, dx, _, rfl, e, p, q, l, r, g, d, rfl, o, o2, _, rfl, h⟩
theorem eq_cell (T : Txt K mg) {H : Hp} {Q : VK} {E : XK} {p q : Addr} {l m : Cl} (o : CellAt T.C_Cell T.C_Stretch H p l) (o2 : CellAt T.C_Cell T.C_Stretch H q m) (h : Q (.bl (l.eqB m)) H) : rCmpO K T.C_Cell (spCEq K T.C_Cell T.C_Stretch) E (.ref p) (.ref q) H Q := by
  obtain ⟨dx, pr, pg, pd, e, _⟩ := id o
  exact ⟨p, dx, _, _, rfl, e, cell_ty T o2, T.nt_Cell, p, l, _, rfl, o, .inl ⟨q, m, rfl, o2, h⟩⟩
theorem eq_noc (T : Txt K mg) {H : Hp} {Q : VK} {E : XK} {p : Addr} {l : Cl} {v : V} {t : Value} (o : CellAt T.C_Cell T.C_Stretch H p l) (ty : TyX K H v t) (nt : PySem.W.notFirst K T.C_Cell t = true) (ki : PySem.W.kitOne K t (.ref T.C_Cell) = some false) (h : Q (.bl false) H) : rCmpO K T.C_Cell (spCEq K T.C_Cell T.C_Stretch) E (.ref p) v H Q := by
  obtain ⟨dx, pr, pg, pd, e, _⟩ := id o
  exact ⟨p, dx, _, _, rfl, e, ty, nt, p, l, _, rfl, o, .inr ⟨t, ty, ki, h⟩⟩
theorem near_cell {CC CS CO : Addr} {H : Hp} {Q : VK} {E : XK} {p : Addr} {way : Int} {P3' : P3} (w0 : 0 ≤ way) (w6 : way < 6) (hok : P3'.ok way) (o : CellAt CC CS H p (clOf (zw way.toNat) (sw way.toNat) P3'))
    (h : ∀ x H', H x = none → Same H H' → OffAt CO H' x (sw way.toNat * max P3'.l0 P3'.l1) (sw way.toNat * P3'.l1) (sw way.toNat * max P3'.l2 P3'.l1) → Q (.ref x) H') : spCNear CC CS CO [.ref p] H Q E := by
  obtain ⟨hs, hz, _⟩ := way_ok w0 w6
  obtain ⟨e1, e2, e3⟩ := near_eq (z := zw way.toNat) hs hok
  refine ⟨p, _, rfl, o, ?_, ?_⟩
  · rw [e1, e2, e3]
    show possB (sgnZ (zw way.toNat) * _) (sgnZ (zw way.toNat) * _) (sgnZ (zw way.toNat) * _) = true
    rw [hz]
    exact near_poss hs w0 hok
  · rw [e1, e2, e3]
    show ∀ x H', H x = none → Same H H' → OffAt CO H' x (sgnZ (zw way.toNat) * _) (sgnZ (zw way.toNat) * _) (sgnZ (zw way.toNat) * _) → _
    rw [hz]
    exact h
theorem cell_who {CC CS : Addr} {H : Hp} {p : Addr} {l : Cl} {m : Str} {A : Prop} (o : CellAt CC CS H p l) (h1 : ¬ m = "distance") (h2 : ¬ m = "groups") (h3 : ¬ m = "rows") (h4 : ¬ m = "zone") (h : A) : ∃ a' dx fs, V.ref p = .ref a' ∧ H a' = some (.ins CC dx fs) ∧ fs.lookup m = none ∧ A := by
  obtain ⟨dx, pr, pg, pd, e, _⟩ := o
  exact r_who e (cell_no _ _ _ _ h1 h2 h3 h4) h
theorem Cl.eq_self (l : Cl) : l.eqB l = true := decide_eq_true ⟨rfl, rfl, rfl, rfl⟩
end
theorem OffAt.ext {C : Addr} {H H' : Hp} {p d c r : Addr} {x y z : Int} (h : OffAt C H p x y z) (e : Ext d r H H') (D : Drw H d c r) : OffAt C H' p x y z := by
  obtain ⟨dx, z⟩ := h
  exact ⟨dx, e.keep D z fun _ q => nomatch q⟩

def strPair (H : Hp) : V → List V
  | .ref u => match H u with
    | some (.ins _ _ fs) => [(fs.lookup ("low" : Str)).getD .non, (fs.lookup ("high" : Str)).getD .non]
    | _ => []
  | _ => []
theorem str_pair {C : Addr} {H : Hp} {u : Addr} {lo hi : Option Int} (o : StrAt C H u lo hi) : strPair H (.ref u) = [endV lo, endV hi] := by
  obtain ⟨dx, e⟩ := o
  simp only [strPair, e]
  show [((strF lo hi).lookup _).getD _, ((strF lo hi).lookup _).getD _] = _
  rw [str_low, str_high]
  rfl
section
variable {P : Program} {w : World} {K : PySem.W.Frag} {mg : Str → Option Value} {base : Heap}

theorem ok_law (T : Txt K mg) : FnOk P w K mg base CX0 10 T.f_law T.d_law ["_law_script"] (spLaw K) := by
  refine T.F_law.ok sc_law (fun vs H Q E h => ?_) (fun cdv A outer s H vs Q E hr h => ?_)
  · obtain ⟨a, ns, rfl, _⟩ := h
    rfl
  obtain ⟨a, ns, rfl, hS, hlen, q⟩ := h
  refine ⟨_, (pss_cons (ps_set (i := 1) sc_law.nd rfl (by first | exact Or.inl rfl | exact Or.inr rfl) (pe_call (ok__law_begin T) (hr.mono (by decide)) (by rfl) T.g__law_begin T.F__law_begin.kp T.b__law_begin .nil pass0 (pa_cons (pv 0) pa_nil)))
      (pss_cons (ps_set (i := 2) sc_law.nd rfl (by first | exact Or.inl rfl | exact Or.inr rfl) (pe_call (ok__law_draw T) (hr.mono (by decide)) (by rfl) T.g__law_draw T.F__law_draw.kp T.b__law_draw .nil pass0 (pa_cons (pv 1) (pa_cons pe_int pa_nil))))
      (pss_cons (ps_set (i := 3) sc_law.nd rfl (by first | exact Or.inl rfl | exact Or.inr rfl) (pe_ix (r := rIxL K) ix_list (pe_lst (pa_cons pe_int (pa_cons pe_int (pa_cons (pe_op op_sub pe_int pe_int) (pa_cons pe_int (pa_cons (pe_op op_sub pe_int pe_int) (pa_cons pe_int pa_nil))))))) (pv 2) (fun _ _ => rfl)))
      (pss_cons (ps_set (i := 4) sc_law.nd rfl (by first | exact Or.inl rfl | exact Or.inr rfl) (pe_ix (r := rIxL K) ix_list (pe_lst (pa_cons pe_str (pa_cons pe_str (pa_cons pe_str (pa_cons pe_str (pa_cons pe_str (pa_cons pe_str pa_nil))))))) (pv 2) (fun _ _ => rfl)))
      (pss_cons (ps_set (i := 5) sc_law.nd rfl (by first | exact Or.inl rfl | exact Or.inr rfl) (pe_call (ok__law_three T) (hr.mono (by decide)) (by rfl) T.g__law_three T.F__law_three.kp T.b__law_three .nil pass0 (pa_cons (pv 1) (pa_cons (pv 2) pa_nil))))
      (pss_cons (ps_set (i := 6) sc_law.nd rfl (by first | exact Or.inl rfl | exact Or.inr rfl) (pe_call (ok__law_made T) (hr.mono (by decide)) (by rfl) T.g__law_made T.F__law_made.kp T.b__law_made .nil pass0 (pa_cons (pv 4) (pa_cons (pv 5) (pa_cons (pv 3) pa_nil)))))
      (pss_cons (ps_asg (pe_call (ok__law_numbers T) (hr.mono (by decide)) (by rfl) T.g__law_numbers T.F__law_numbers.kp T.b__law_numbers .nil pass0 (pa_cons (pv 1) pa_nil)) (pg_tup (by rfl) (pgs_cons (pg_name (i := 7) sc_law.nd rfl (by first | exact Or.inl rfl | exact Or.inr rfl)) (pgs_cons (pg_name (i := 8) sc_law.nd rfl (by first | exact Or.inl rfl | exact Or.inr rfl)) (pgs_cons (pg_name (i := 9) sc_law.nd rfl (by first | exact Or.inl rfl | exact Or.inr rfl)) pgs_nil)))))
      (C8.pss_cut (ps_set (i := 10) sc_law.nd rfl (by first | exact Or.inl rfl | exact Or.inr rfl) (pe_and (pe_cmpR op_eq (pe_call (ok__law_zone T) (hr.mono (by decide)) (by rfl) T.g__law_zone T.F__law_zone.kp T.b__law_zone .nil pass0 (pa_cons (pv 7) (pa_cons (pv 8) pa_nil))) (pv 4) (nomark _)) (pe_one (pe_call (ok__law_in T) (hr.mono (by decide)) (by rfl) T.g__law_in T.F__law_in.kp T.b__law_in .nil pass0 (pa_cons (pe_ix (r := rIxL K) ix_list (pv 5) pe_int (fun _ _ => rfl)) (pa_cons (pe_op op_mul (pv 3) (pv 7)) pa_nil))))))
      (C8.pss_cut (ps_set (i := 10) sc_law.nd rfl (by first | exact Or.inl rfl | exact Or.inr rfl) (pe_and (pv 10) (pe_and (pe_call (ok__law_in T) (hr.mono (by decide)) (by rfl) T.g__law_in T.F__law_in.kp T.b__law_in .nil pass0 (pa_cons (pe_ix (r := rIxL K) ix_list (pv 5) pe_int (fun _ _ => rfl)) (pa_cons (pe_op op_mul (pv 3) (pv 8)) pa_nil))) (pe_one (pe_call (ok__law_in T) (hr.mono (by decide)) (by rfl) T.g__law_in T.F__law_in.kp T.b__law_in .nil pass0 (pa_cons (pe_ix (r := rIxL K) ix_list (pv 5) pe_int (fun _ _ => rfl)) (pa_cons (pe_op op_mul (pv 3) (pv 9)) pa_nil)))))))
      (pss_cons (ps_if (pt_cmpR op_ne (pe_cmpR (op_inO T.mt_Cell___contains__.at_ T.mt_Cell___contains__.fn (ok_Cell___contains__ T) (hr.mono (by decide)) T.b_Cell___contains__ pass0) (pe_make T.m_Offset (ok_Offset___init__ T) (hr.mono (by decide)) (by rfl) T.g_Offset T.b_Offset___init__ .nil passL (pa_cons (pv 7) (pa_cons (pv 8) (pa_cons (pv 9) pa_nil)))) (pv 6) (by rfl)) (pv 10) (nomark _)) (pss_one (ps_ret pe_bl)) pss_nil)
      (pss_cons (ps_set (i := 11) sc_law.nd rfl (by first | exact Or.inl rfl | exact Or.inr rfl) (pe_meth0 (pv 6) T.c_Cell T.mt_Cell_nearest (ok_Cell_nearest T) (hr.mono (by decide)) T.b_Cell_nearest .nil pass0))
      (pss_cons (ps_set (i := 8) sc_law.nd rfl (by first | exact Or.inl rfl | exact Or.inr rfl) (pe_ix (r := rIxT K) ix_tup (pe_ix (r := rIxL K) ix_list (pv 5) pe_int (fun _ _ => rfl)) pe_int (fun _ _ => rfl)))
      (pss_cons (ps_set (i := 12) sc_law.nd rfl (by first | exact Or.inl rfl | exact Or.inr rfl) (pe_tup (pa_cons (pe_op op_mul (pv 3) (pe_callB (c_max2 rfl) (by rfl) T.z_max (by decide +kernel) (pa_cons (pe_ix (r := rIxT K) ix_tup (pe_ix (r := rIxL K) ix_list (pv 5) pe_int (fun _ _ => rfl)) pe_int (fun _ _ => rfl)) (pa_cons (pv 8) pa_nil)))) (pa_cons (pe_op op_mul (pv 3) (pv 8)) (pa_cons (pe_op op_mul (pv 3) (pe_callB (c_max2 rfl) (by rfl) T.z_max (by decide +kernel) (pa_cons (pe_ix (r := rIxT K) ix_tup (pe_ix (r := rIxL K) ix_list (pv 5) pe_int (fun _ _ => rfl)) pe_int (fun _ _ => rfl)) (pa_cons (pv 8) pa_nil)))) pa_nil)))))
      (pss_cons (ps_if (PW.pt (pw_or (pt_not (pt_val (pe_callB call_isi (by rfl) T.z_isinstance (by decide +kernel) (pa_cons (pv 11) (pa_cons (pe_glob (v := .ref T.C_Offset) rfl T.g_Offset rfl) pa_nil))))) (pw_or1 (pt_cmpR (op_neD hr.units) (pe_tup (pa_cons (pe_fldK (K := K) (pv 11)) (pa_cons (pe_fldK (K := K) (pv 11)) (pa_cons (pe_fldK (K := K) (pv 11)) pa_nil)))) (pv 12) (nomark _))))) (pss_one (ps_ret pe_bl)) pss_nil)
      (pss_cons (ps_if (PW.pt (pw_or (pt_cmpR op_notBl (pe_cmpR (op_inO T.mt_Cell___contains__.at_ T.mt_Cell___contains__.fn (ok_Cell___contains__ T) (hr.mono (by decide)) T.b_Cell___contains__ pass0) (pv 11) (pv 6) (by rfl)) pe_bl (nomark _)) (pw_or1 (pt_cmpR op_ne (pe_fldK (K := K) (pv 6)) (pv 4) (nomark _))))) (pss_one (ps_ret pe_bl)) pss_nil)
      (pss_cons (ps_if (pt_cmpR (op_neD hr.units) (pe_lc (own := [("_law_one", 16)]) (g := gName 16) (tt := tYes) rfl sc_law.nd (pi_list (pe_lst (pa_cons (pe_fldK (K := K) (pv 6)) (pa_cons (pe_fldK (K := K) (pv 6)) (pa_cons (pe_fldK (K := K) (pv 6)) pa_nil))))) (blkOk_by (N := ["_law_script", "_law_draws", "_law_way", "_law_sign", "_law_zone_here", "_law_three_here", "_law_cell", "_law_d", "_law_g", "_law_far", "_law_held", "_law_found", "_law_due", "_law_other_here", "_law_k", "_law_again", "_law_one"]) (sc := defScope s_law) (by decide +kernel)) (fun _ _ _ _ _ => pg_name (i := 16) sc_law.nd rfl (by first | exact Or.inl rfl | exact Or.inr rfl)) (fun _ _ _ _ _ => pts_nil) (fun _ _ _ _ _ => (pe_tup (pa_cons (pe_fldK (K := K) (pv 16)) (pa_cons (pe_fldK (K := K) (pv 16)) pa_nil))))) (pe_call (ok__law_ends T) (hr.mono (by decide)) (by rfl) T.g__law_ends T.F__law_ends.kp T.b__law_ends .nil pass0 (pa_cons (pv 5) (pa_cons (pv 3) pa_nil))) (nomark _)) (pss_one (ps_ret pe_bl)) pss_nil)
      (pss_cons (ps_set (i := 13) sc_law.nd rfl (by first | exact Or.inl rfl | exact Or.inr rfl) (pe_call (ok__law_other T) (hr.mono (by decide)) (by rfl) T.g__law_other T.F__law_other.kp T.b__law_other .nil pass0 (pa_cons (pv 1) (pa_cons (pv 2) (pa_cons (pv 4) (pa_cons (pv 5) (pa_cons (pv 3) pa_nil)))))))
      (pss_cons (ps_if (PW.pt (pw_or (pt_cmpR op_notBl (pe_cmpR (op_eqO T.mt_Cell___eq__.at_ T.mt_Cell___eq__.fn (ok_Cell___eq__ T) (hr.mono (by decide)) T.b_Cell___eq__ pass0) (pv 6) (pe_call (ok__law_made T) (hr.mono (by decide)) (by rfl) T.g__law_made T.F__law_made.kp T.b__law_made .nil pass0 (pa_cons (pv 4) (pa_cons (pv 5) (pa_cons (pv 3) pa_nil)))) (nomark _)) pe_bl (nomark _)) (pw_or1 (pt_cmpR op_notBl (pe_cmpR (op_eqO T.mt_Cell___eq__.at_ T.mt_Cell___eq__.fn (ok_Cell___eq__ T) (hr.mono (by decide)) T.b_Cell___eq__ pass0) (pv 6) (pv 13) (nomark _)) pe_bl (nomark _))))) (pss_one (ps_ret pe_bl)) pss_nil)
      (pss_cons (ps_if (PW.pt (pw_or (pt_cmpR (op_eqO T.mt_Cell___eq__.at_ T.mt_Cell___eq__.fn (ok_Cell___eq__ T) (hr.mono (by decide)) T.b_Cell___eq__ pass0) (pv 6) (pv 4) (nomark _)) (pw_or (pt_cmpR (op_eqO T.mt_Cell___eq__.at_ T.mt_Cell___eq__.fn (ok_Cell___eq__ T) (hr.mono (by decide)) T.b_Cell___eq__ pass0) (pv 6) (pv 5) (nomark _)) (pw_or1 (pt_cmpR (op_eqO T.mt_Cell___eq__.at_ T.mt_Cell___eq__.fn (ok_Cell___eq__ T) (hr.mono (by decide)) T.b_Cell___eq__ pass0) (pv 6) (pv 11) (nomark _)))))) (pss_one (ps_ret pe_bl)) pss_nil)
      (pss_cons (ps_for PassesOwn.never rfl (pi_range1 (by rfl) T.z_range (pa_cons pe_int pa_nil)) (pg_name (i := 14) sc_law.nd rfl (by first | exact Or.inl rfl | exact Or.inr rfl)) (pss_cons (ps_asg (pe_call (ok__law_numbers T) (hr.mono (by decide)) (by rfl) T.g__law_numbers T.F__law_numbers.kp T.b__law_numbers .nil pass0 (pa_cons (pv 1) pa_nil)) (pg_tup (by rfl) (pgs_cons (pg_name (i := 7) sc_law.nd rfl (by first | exact Or.inl rfl | exact Or.inr rfl)) (pgs_cons (pg_name (i := 8) sc_law.nd rfl (by first | exact Or.inl rfl | exact Or.inr rfl)) (pgs_cons (pg_name (i := 9) sc_law.nd rfl (by first | exact Or.inl rfl | exact Or.inr rfl)) pgs_nil)))))
      (C8.pss_cut (ps_set (i := 10) sc_law.nd rfl (by first | exact Or.inl rfl | exact Or.inr rfl) (pe_and (pe_cmpR op_eq (pe_call (ok__law_zone T) (hr.mono (by decide)) (by rfl) T.g__law_zone T.F__law_zone.kp T.b__law_zone .nil pass0 (pa_cons (pv 7) (pa_cons (pv 8) pa_nil))) (pv 4) (nomark _)) (pe_one (pe_call (ok__law_in T) (hr.mono (by decide)) (by rfl) T.g__law_in T.F__law_in.kp T.b__law_in .nil pass0 (pa_cons (pe_ix (r := rIxL K) ix_list (pv 5) pe_int (fun _ _ => rfl)) (pa_cons (pe_op op_mul (pv 3) (pv 7)) pa_nil))))))
      (C8.pss_cut (ps_set (i := 10) sc_law.nd rfl (by first | exact Or.inl rfl | exact Or.inr rfl) (pe_and (pv 10) (pe_and (pe_call (ok__law_in T) (hr.mono (by decide)) (by rfl) T.g__law_in T.F__law_in.kp T.b__law_in .nil pass0 (pa_cons (pe_ix (r := rIxL K) ix_list (pv 5) pe_int (fun _ _ => rfl)) (pa_cons (pe_op op_mul (pv 3) (pv 8)) pa_nil))) (pe_one (pe_call (ok__law_in T) (hr.mono (by decide)) (by rfl) T.g__law_in T.F__law_in.kp T.b__law_in .nil pass0 (pa_cons (pe_ix (r := rIxL K) ix_list (pv 5) pe_int (fun _ _ => rfl)) (pa_cons (pe_op op_mul (pv 3) (pv 9)) pa_nil)))))))
      (pss_one (ps_if (pt_cmpR op_ne (pe_cmpR (op_inO T.mt_Cell___contains__.at_ T.mt_Cell___contains__.fn (ok_Cell___contains__ T) (hr.mono (by decide)) T.b_Cell___contains__ pass0) (pe_make T.m_Offset (ok_Offset___init__ T) (hr.mono (by decide)) (by rfl) T.g_Offset T.b_Offset___init__ .nil passL (pa_cons (pv 7) (pa_cons (pv 8) (pa_cons (pv 9) pa_nil)))) (pv 6) (by rfl)) (pv 10) (nomark _)) (pss_one (ps_ret pe_bl)) pss_nil))))))
      (pss_cons (ps_set (i := 15) sc_law.nd rfl (by first | exact Or.inl rfl | exact Or.inr rfl) (pe_meth0 (pv 6) T.c_Cell T.mt_Cell_nearest (ok_Cell_nearest T) (hr.mono (by decide)) T.b_Cell_nearest .nil pass0))
      (pss_one (ps_ret (pe_and (pe_cmpR (op_eqD hr.units) (pe_tup (pa_cons (pe_fldK (K := K) (pv 15)) (pa_cons (pe_fldK (K := K) (pv 15)) (pa_cons (pe_fldK (K := K) (pv 15)) pa_nil)))) (pv 12) (nomark _)) (pe_one (pe_cmpR op_isBl (pe_cmpR (op_inO T.mt_Cell___contains__.at_ T.mt_Cell___contains__.fn (ok_Cell___contains__ T) (hr.mono (by decide)) T.b_Cell___contains__ pass0) (pv 15) (pv 6) (by rfl)) pe_bl (nomark _))))))))))))))))))))))))))), ?_⟩
  try simp only [nox_K, cx_K]
  wtm_at "rd"
  refine ⟨a, ns, rfl, hS, hlen, fun d c r H1 D1 s1 nd nc nr => ?_⟩
  wtm_at "rd"
  refine ⟨d, c, r, 6, rfl, D1, by decide, by decide, fun way H2 w0 w6 D2 E2 => ?_⟩
  wtm_at "rd"
  refine r_new rfl fun ls n_ls => ?_
  generalize eq_ls : upd _ ls _ = H3
  have s_ls : Same _ H3 := eq_ls ▸ same_new n_ls
  have h_ls : H3 ls = some _ := eq_ls ▸ upd_same
  clear eq_ls
  have D2 := D2.same s_ls
  wtm_at "rd"
  refine r_ixL (SqL.of h_ls) (at_sw w0 w6) ?_
  wtm_at "rd"
  refine r_new rfl fun lz n_lz => ?_
  generalize eq_lz : upd _ lz _ = H4
  have s_lz : Same _ H4 := eq_lz ▸ same_new n_lz
  have h_lz : H4 lz = some _ := eq_lz ▸ upd_same
  clear eq_lz
  have D2 := D2.same s_lz
  wtm_at "rd"
  refine r_ixL (SqL.of h_lz) (at_zw w0 w6) ?_
  obtain ⟨hsg, hsz, hz0, _, _⟩ := way_ok w0 w6
  have nin := fun P3' => near_in (P := P3') w0 w6
  have nce := fun CC CS CO H Q E p P3' => near_cell (CC := CC) (CS := CS) (CO := CO) (H := H) (Q := Q) (E := E) (p := p) (P3' := P3') w0 w6
  revert hsg hsz hz0 nin nce
  generalize sw way.toNat = sg
  generalize zw way.toNat = z
  intro hsg hsz hz0 nin nce
  have hs64 : -(2 ^ 64) < sg ∧ sg < 2 ^ 64 := by omega
  wtm_at "rd"
  refine ⟨d, c, r, way, rfl, D2, w0, w6, fun p P3' H5 hok th D2 E5 => ?_⟩
  have v0 : Vl P3'.l0 P3'.h0 := fun b z => (hok.v0 b z).1
  have v1 : Vl P3'.l1 P3'.h1 := hok.v1
  have v2 : Vl P3'.l2 P3'.h2 := fun b z => (hok.v2 b z).1
  wtm_at "rd"
  refine ⟨p, P3', z, sg, rfl, th, v0, v1, v2, fun ca H6 s6 ce => ?_⟩
  have th := th.same s6
  have D2 := D2.same s6
  wtm_at "rd"
  refine ⟨d, c, r, rfl, D2, fun tn x y k Hn hb htn Dn En => ?_⟩
  have th := ThAt.ext th En D2
  have ce := CellAt.ext ce En D2
  obtain ⟨t0, t1, t2, hp, h0, h1, h2⟩ := id th
  refine r_gtup (SqT.of htn) rfl ?_
  wtm_at "rd"
  refine ⟨fun σ H' => σ = [some (.ref a), some (.ref d), some (.int way), some (.int sg), some (.str z), some (.ref p), some (.ref ca), some (.int x), some (.int y), some (.int k), some (.bl (decide (zoneL x y = z) && inP P3'.l0 P3'.h0 (sg * x))), none, none, none, none, none, none] ∧ Same Hn H', ?_, ?_⟩
  · wtm_at "rd"
    refine ⟨x, y, rfl, fun H' s' => ?_⟩
    have hp := s' _ _ hp
    wtm_at "rd"
    refine r_ite (fun e1 => ?_) (fun e1 => ?_)
    · rw [decide_eq_true e1, Bool.true_and]
      wtm_at "rd"
      refine r_I (.inl hs64) ?_
      wtm_at "rd"
      refine ⟨t0, _, _, _, rfl, s' _ _ h0, ?_⟩
      wtm_at "rd"
      exact ⟨rfl, s'⟩
    · rw [decide_eq_false e1, Bool.false_and]
      wtm_at "rd"
      exact ⟨rfl, s'⟩
  rintro σ H' ⟨rfl, s'⟩
  have hp := s' _ _ hp
  have h1 := s' _ _ h1
  have h2 := s' _ _ h2
  refine ⟨fun σ H'' => σ = [some (.ref a), some (.ref d), some (.int way), some (.int sg), some (.str z), some (.ref p), some (.ref ca), some (.int x), some (.int y), some (.int k), some (.bl ((clOf z sg P3').has x y k)), none, none, none, none, none, none] ∧ H'' = H', ?_, ?_⟩
  · rw [has_held hsg hb]
    wtm_at "rd"
    refine r_iteb (fun e1 => ?_) (fun e1 => ?_)
    · rw [e1, Bool.true_and]
      wtm_at "rd"
      refine r_I (.inl hs64) ?_
      wtm_at "rd"
      refine ⟨t1, _, _, _, rfl, h1, ?_⟩
      wtm_at "rd"
      refine r_iteb (fun e2 => ?_) (fun e2 => ?_)
      · rw [e2, Bool.true_and]
        wtm_at "rd"
        refine r_I (.inl hs64) ?_
        wtm_at "rd"
        refine ⟨t2, _, _, _, rfl, h2, ?_⟩
        wtm_at "rd"
        exact ⟨rfl, rfl⟩
      · rw [e2, Bool.false_and]
        wtm_at "rd"
        exact ⟨rfl, rfl⟩
    · rw [e1, Bool.false_and]
      wtm_at "rd"
      exact ⟨rfl, rfl⟩
  rintro σ H'' ⟨rfl, rfl⟩
  wtm_at "rd"
  refine make_offF hb fun xo Ho nxo so oo => ?_
  have s' := s'.trans so
  have th := th.same s'
  have ce := ce.same s'
  have Dn := Dn.same s'
  have En := En.trans (Ext.of s')
  wtm_at "rd"
  refine in_cell ce oo ?_
  wtm_at "rd"
  rw [beq_self_eq_true]
  wtm_at "rdi"
  refine cell_who ce (by decide +kernel) (by decide +kernel) (by decide +kernel) (by decide +kernel) ?_
  wtm_at "rd"
  refine nce _ _ _ _ _ _ _ P3' hok ce fun fo H7 n7 s7 of => ?_
  have th := th.same s7
  have ce := ce.same s7
  have Dn := Dn.same s7
  obtain ⟨t0, t1, t2, hp, h0, h1, h2⟩ := id th
  unfold PrA at h0 h1 h2
  wtm_at "rd"
  refine r_max2 fun m1 _ _ _ em1 => ?_
  refine r_I (.inl hs64) ?_
  wtm_at "rd"
  refine r_I (.inl hs64) ?_
  wtm_at "rd"
  refine r_max2 fun m2 _ _ _ em2 => ?_
  refine r_I (.inl hs64) ?_
  subst em1 em2
  wtm_at "rd"
  refine r_new rfl fun du n_du => ?_
  generalize eq_du : upd _ du _ = H8
  have s_du : Same _ H8 := eq_du ▸ same_new n_du
  have h_du : H8 du = some _ := eq_du ▸ upd_same
  clear eq_du
  have Dn := Dn.same s_du
  have th := th.same s_du
  have ce := ce.same s_du
  have of := of.same s_du
  wtm_at "rd"
  refine r_isi (.own _) (off_ty T of) kit_self ?_
  wtm_at "rdi"
  refine r_rows T of ?_
  wtm_at "rd"
  refine r_groups T of ?_
  wtm_at "rd"
  refine r_distance T of ?_
  wtm_at "rd"
  refine r_new rfl fun tt n_tt => ?_
  generalize eq_tt : upd _ tt _ = H9
  have s_tt : Same _ H9 := eq_tt ▸ same_new n_tt
  have h_tt : H9 tt = some _ := eq_tt ▸ upd_same
  clear eq_tt
  have Dn := Dn.same s_tt
  have th := th.same s_tt
  have ce := ce.same s_tt
  have of := of.same s_tt
  have h_du := s_tt _ _ h_du
  wtm_at "rd"
  refine r_neTT (SqT.of h_tt) (SqT.of h_du) (int3_eq _ _ _) (int3_eq _ _ _) (int3_kind _ _ _ _ _ _) ?_
  rw [decide_eq_true rfl]
  wtm_at "rdi"
  refine in_cell ce of ?_
  rw [nin P3' hok]
  wtm_at "rd"
  rw [decide_eq_true rfl]
  wtm_at "rdi"
  obtain ⟨dx, pr, pg, pd, ec, c0, c1, c2⟩ := id ce
  refine r_czone T ec ?_
  wtm_at "rd"
  rw [show (clOf z sg P3').z = z from rfl, decide_eq_true rfl]
  wtm_at "rdi"
  refine r_crows T ec ?_
  wtm_at "rd"
  refine r_cgroups T ec ?_
  wtm_at "rd"
  refine r_cdistance T ec ?_
  wtm_at "rd"
  refine r_new rfl fun lc n_lc => ?_
  generalize eq_lc : upd _ lc _ = H10
  have s_lc : Same _ H10 := eq_lc ▸ same_new n_lc
  have h_lc : H10 lc = some _ := eq_lc ▸ upd_same
  clear eq_lc
  have Dn := Dn.same s_lc
  have th := th.same s_lc
  have ce := ce.same s_lc
  have of := of.same s_lc
  have c0 := c0.same s_lc
  have c1 := c1.same s_lc
  have c2 := c2.same s_lc
  have h_du := s_lc _ _ h_du
  wtm_at "rd"
  refine r_itl (SqL.of h_lc) ?_
  refine lc_tups (xs := [.ref pr, .ref pg, .ref pd]) (strPair H10) (SqL.of h_lc) (Nat.le_of_ble_eq_true rfl) (fun v H' QQ hv s' hQ => ?_) fun Dd us H11 nD lu hDd hu s11 => ?_
  · have hv2 : ∃ (u : Addr) (lo hi : Option Int), v = .ref u ∧ StrAt T.C_Stretch H10 u lo hi := by
      simp only [List.mem_cons, List.mem_nil_iff, or_false] at hv
      rcases hv with rfl | rfl | rfl
      · exact ⟨pr, _, _, rfl, c0⟩
      · exact ⟨pg, _, _, rfl, c1⟩
      · exact ⟨pd, _, _, rfl, c2⟩
    obtain ⟨u, lo, hi, rfl, ou⟩ := hv2
    rw [str_pair ou] at hQ
    have ou := ou.same s'
    wtm_at "rd"
    refine r_low T ou ?_
    wtm_at "rd"
    refine r_high T ou ?_
    wtm_at "rd"
    exact r_new rfl fun t nt => hQ t _ nt upd_same (same_new nt)
  obtain ⟨u0, u1, u2, rfl⟩ := three_of lu
  have hu0 : EnA H11 u0 (trn sg P3'.l0 P3'.h0) := (hu 0 u0 _ rfl rfl).trans (by rw [str_pair c0]; rfl)
  have hu1 : EnA H11 u1 (trn sg P3'.l1 P3'.h1) := (hu 1 u1 _ rfl rfl).trans (by rw [str_pair c1]; rfl)
  have hu2 : EnA H11 u2 (trn sg P3'.l2 P3'.h2) := (hu 2 u2 _ rfl rfl).trans (by rw [str_pair c2]; rfl)
  have th := th.same s11
  have ce := ce.same s11
  have of := of.same s11
  have Dn := Dn.same s11
  have h_du := s11 _ _ h_du
  wtm_at "rd"
  refine ⟨p, P3', sg, rfl, th, fun le w0' w1' w2' H12 s12 hle hw0 hw1 hw2 => ?_⟩
  have th := th.same s12
  have ce := ce.same s12
  have of := of.same s12
  have Dn := Dn.same s12
  have h_du := s12 _ _ h_du
  refine r_neE3 (s12 _ _ hDd) hle (s12 _ _ hu0) (s12 _ _ hu1) (s12 _ _ hu2) hw0 hw1 hw2 ?_
  wtm_at "rdi"
  refine ⟨d, c, r, way, z, p, P3', sg, rfl, Dn, w0, w6, hok, th, fun e => (by rw [hz0 e]; decide +kernel), fun oc m H13 hne om D9 E13 => ?_⟩
  have th9 := ThAt.ext th E13 Dn
  have ce9 := CellAt.ext ce E13 Dn
  have of := OffAt.ext of E13 Dn
  have h_du := E13.keep Dn h_du fun _ z => nomatch z
  wtm_at "rd"
  refine ⟨p, P3', z, sg, rfl, th9, v0, v1, v2, fun cb H14 s14 cb14 => ?_⟩
  have th9 := th9.same s14
  have ce9 := ce9.same s14
  have om := om.same s14
  have of := of.same s14
  have D9 := D9.same s14
  have h_du := s14 _ _ h_du
  wtm_at "rd"
  refine eq_cell T ce9 cb14 ?_
  rw [Cl.eq_self]
  wtm_at "rd"
  rw [decide_eq_true rfl]
  wtm_at "rdi"
  refine eq_cell T ce9 om ?_
  rw [hne]
  wtm_at "rd"
  rw [decide_eq_true rfl]
  wtm_at "rdi"
  refine eq_noc T ce9 (.base (.str _)) T.nt_Cell_str T.ki_Cell_str ?_
  wtm_at "rdi"
  obtain ⟨t0, t1, t2, hp9, _⟩ := id th9
  refine eq_noc T ce9 (.base (.lst hp9)) T.nt_Cell_list T.ki_Cell_list ?_
  wtm_at "rdi"
  refine eq_noc T ce9 (off_ty T of) T.nt_Cell_Offset T.ki_Cell_Offset ?_
  wtm_at "rdi"
  refine r_for (r_rng1 ?_)
  wtm_at "rd"
  refine r_upto (by decide) (by decide) ?_
  refine for_range (fun i σ H' => ∃ (x7 x8 x9 x10 : V) (x14 x16 : Option V), σ = [some (.ref a), some (.ref d), some (.int way), some (.int sg), some (.str z), some (.ref p), some (.ref ca), some x7, some x8, some x9, some x10, some (.ref fo), some (.ref du), some (.ref oc), x14, none, x16] ∧ Drw H' d c r ∧ ThAt H' p P3' ∧ CellAt T.C_Cell T.C_Stretch H' ca (clOf z sg P3') ∧ H' du = some (.tup [.int (sg * max P3'.l0 P3'.l1), .int (sg * P3'.l1), .int (sg * max P3'.l2 P3'.l1)])) ⟨_, _, _, _, _, _, rfl, D9, th9, ce9, h_du⟩ ?_ ?_
  · rintro i σ H15 hi ⟨x7, x8, x9, x10, x14, x16, rfl, D9, th9, ce9, h_du⟩
    wtm_at "rd"
    refine ⟨d, c, r, rfl, D9, fun tn x y k Hn hb htn Dn En => ?_⟩
    have th := ThAt.ext th9 En D9
    have ce := CellAt.ext ce9 En D9
    obtain ⟨t0, t1, t2, hp, h0, h1, h2⟩ := id th
    refine r_gtup (SqT.of htn) rfl ?_
    wtm_at "rd"
    refine ⟨fun σ H' => σ = [some (.ref a), some (.ref d), some (.int way), some (.int sg), some (.str z), some (.ref p), some (.ref ca), some (.int x), some (.int y), some (.int k), some (.bl (decide (zoneL x y = z) && inP P3'.l0 P3'.h0 (sg * x))), some (.ref fo), some (.ref du), some (.ref oc), some (.int (0 + i)), none, x16] ∧ Same Hn H', ?_, ?_⟩
    · wtm_at "rd"
      refine ⟨x, y, rfl, fun H' s' => ?_⟩
      have hp := s' _ _ hp
      wtm_at "rd"
      refine r_ite (fun e1 => ?_) (fun e1 => ?_)
      · rw [decide_eq_true e1, Bool.true_and]
        wtm_at "rd"
        refine r_I (.inl hs64) ?_
        wtm_at "rd"
        refine ⟨t0, _, _, _, rfl, s' _ _ h0, ?_⟩
        wtm_at "rd"
        exact ⟨rfl, s'⟩
      · rw [decide_eq_false e1, Bool.false_and]
        wtm_at "rd"
        exact ⟨rfl, s'⟩
    rintro σ H' ⟨rfl, s'⟩
    have hp := s' _ _ hp
    have h1 := s' _ _ h1
    have h2 := s' _ _ h2
    refine ⟨fun σ H'' => σ = [some (.ref a), some (.ref d), some (.int way), some (.int sg), some (.str z), some (.ref p), some (.ref ca), some (.int x), some (.int y), some (.int k), some (.bl ((clOf z sg P3').has x y k)), some (.ref fo), some (.ref du), some (.ref oc), some (.int (0 + i)), none, x16] ∧ H'' = H', ?_, ?_⟩
    · rw [has_held hsg hb]
      wtm_at "rd"
      refine r_iteb (fun e1 => ?_) (fun e1 => ?_)
      · rw [e1, Bool.true_and]
        wtm_at "rd"
        refine r_I (.inl hs64) ?_
        wtm_at "rd"
        refine ⟨t1, _, _, _, rfl, h1, ?_⟩
        wtm_at "rd"
        refine r_iteb (fun e2 => ?_) (fun e2 => ?_)
        · rw [e2, Bool.true_and]
          wtm_at "rd"
          refine r_I (.inl hs64) ?_
          wtm_at "rd"
          refine ⟨t2, _, _, _, rfl, h2, ?_⟩
          wtm_at "rd"
          exact ⟨rfl, rfl⟩
        · rw [e2, Bool.false_and]
          wtm_at "rd"
          exact ⟨rfl, rfl⟩
      · rw [e1, Bool.false_and]
        wtm_at "rd"
        exact ⟨rfl, rfl⟩
    rintro σ H'' ⟨rfl, rfl⟩
    wtm_at "rd"
    refine make_offF hb fun xo Ho nxo so oo => ?_
    have s' := s'.trans so
    have th := th.same s'
    have ce := ce.same s'
    have Dn := Dn.same s'
    have En := En.trans (Ext.of s')
    wtm_at "rd"
    refine in_cell ce oo ?_
    wtm_at "rd"
    rw [beq_self_eq_true]
    wtm_at "rdi"
    exact ⟨_, _, _, _, _, _, rfl, Dn, th, ce, En.keep D9 h_du fun _ z => nomatch z⟩
  · rintro σ H15 ⟨x7, x8, x9, x10, x14, x16, rfl, D9, th9, ce9, h_du⟩
    wtm_at "rd"
    refine cell_who ce9 (by decide +kernel) (by decide +kernel) (by decide +kernel) (by decide +kernel) ?_
    wtm_at "rd"
    refine nce _ _ _ _ _ _ _ P3' hok ce9 fun ag H16 n16 s16 oa => ?_
    have ce9 := ce9.same s16
    have h_du := s16 _ _ h_du
    wtm_at "rd"
    refine r_rows T oa ?_
    wtm_at "rd"
    refine r_groups T oa ?_
    wtm_at "rd"
    refine r_distance T oa ?_
    wtm_at "rd"
    refine r_new rfl fun tt n_tt => ?_
    generalize eq_tt : upd _ tt _ = H17
    have s_tt : Same _ H17 := eq_tt ▸ same_new n_tt
    have h_tt : H17 tt = some _ := eq_tt ▸ upd_same
    clear eq_tt
    have ce9 := ce9.same s_tt
    have oa := oa.same s_tt
    have h_du := s_tt _ _ h_du
    wtm_at "rd"
    refine r_eqTT (SqT.of h_tt) (SqT.of h_du) (int3_eq _ _ _) (int3_eq _ _ _) (int3_kind _ _ _ _ _ _) ?_
    rw [decide_eq_true rfl]
    wtm_at "rdi"
    refine in_cell ce9 oa ?_
    rw [nin P3' hok]
    wtm_at "rd"
    rw [decide_eq_true rfl]
    exact q _
end
theorem all_mk {l : PySem.W.OpenLaw} {w : World} {K : PySem.W.Frag} {h : Heap} {mg : Str → Option Value} {fa : Addr} (X : K.In h) (G : h.Ns mainGlobals mg) (hfa : mg "law" = some (.ref fa))
    {C_WindowError : Addr}
    {C_TurnedStretch : Addr}
    {nm_TurnedStretch q_TurnedStretch : Str} {N_TurnedStretch : Addr} {bs_TurnedStretch bm_TurnedStretch : List Value} {sn_TurnedStretch : List Str} {sub_TurnedStretch : List Value} {ab_TurnedStretch : Bool} {col_TurnedStretch : Option Bool} {dd_TurnedStretch : Option Addr} {m0_TurnedStretch m1_TurnedStretch m2_TurnedStretch m3_TurnedStretch m5_TurnedStretch : Option Value}
    {C_BadOffset : Addr}
    {nm_BadOffset q_BadOffset : Str} {N_BadOffset : Addr} {bs_BadOffset bm_BadOffset : List Value} {sn_BadOffset : List Str} {sub_BadOffset : List Value} {ab_BadOffset : Bool} {col_BadOffset : Option Bool} {dd_BadOffset : Option Addr} {m0_BadOffset m1_BadOffset m2_BadOffset m3_BadOffset m5_BadOffset : Option Value}
    {C_Stretch : Addr}
    {C_Offset : Addr}
    {C_Cell : Addr}
    {od0 an0 : Option Addr} {sl0 : Array (Option Value)} {oc0 kV0 dc0 pm0 cd0 ct0 : Value} {f0 : Addr}
    {od1 an1 : Option Addr} {sl1 : Array (Option Value)} {oc1 kV1 dc1 pm1 cd1 ct1 : Value} {f1 : Addr}
    {od2 an2 : Option Addr} {sl2 : Array (Option Value)} {oc2 kV2 dc2 pm2 cd2 ct2 : Value} {f2 : Addr}
    {od3 an3 : Option Addr} {sl3 : Array (Option Value)} {oc3 kV3 dc3 pm3 cd3 ct3 : Value} {f3 : Addr}
    {od4 an4 : Option Addr} {sl4 : Array (Option Value)} {oc4 kV4 dc4 pm4 cd4 ct4 : Value} {f4 : Addr}
    {od5 an5 : Option Addr} {sl5 : Array (Option Value)} {oc5 kV5 dc5 pm5 cd5 ct5 : Value} {f5 : Addr}
    {od6 an6 : Option Addr} {sl6 : Array (Option Value)} {oc6 kV6 dc6 pm6 cd6 ct6 : Value} {f6 : Addr}
    {od7 an7 : Option Addr} {sl7 : Array (Option Value)} {oc7 kV7 dc7 pm7 cd7 ct7 : Value} {f7 : Addr}
    {od8 an8 : Option Addr} {sl8 : Array (Option Value)} {oc8 kV8 dc8 pm8 cd8 ct8 : Value} {f8 : Addr}
    {od9 an9 : Option Addr} {sl9 : Array (Option Value)} {oc9 kV9 dc9 pm9 cd9 ct9 : Value} {f9 : Addr}
    {od10 an10 : Option Addr} {sl10 : Array (Option Value)} {oc10 kV10 dc10 pm10 cd10 ct10 : Value} {f10 : Addr}
    {od11 an11 : Option Addr} {sl11 : Array (Option Value)} {oc11 kV11 dc11 pm11 cd11 ct11 : Value} {f11 : Addr}
    {od12 an12 : Option Addr} {sl12 : Array (Option Value)} {oc12 kV12 dc12 pm12 cd12 ct12 : Value} {f12 : Addr}
    {od13 an13 : Option Addr} {sl13 : Array (Option Value)} {oc13 kV13 dc13 pm13 cd13 ct13 : Value} {f13 : Addr}
    {od14 an14 : Option Addr} {sl14 : Array (Option Value)} {oc14 kV14 dc14 pm14 cd14 ct14 : Value} {f14 : Addr}
    {od15 an15 : Option Addr} {sl15 : Array (Option Value)} {oc15 kV15 dc15 pm15 cd15 ct15 : Value} {f15 : Addr}
    {od16 an16 : Option Addr} {sl16 : Array (Option Value)} {oc16 kV16 dc16 pm16 cd16 ct16 : Value} {f16 : Addr}
    {od17 an17 : Option Addr} {sl17 : Array (Option Value)} {oc17 kV17 dc17 pm17 cd17 ct17 : Value} {f17 : Addr}
    {od18 an18 : Option Addr} {sl18 : Array (Option Value)} {oc18 kV18 dc18 pm18 cd18 ct18 : Value} {f18 : Addr}
    {od19 an19 : Option Addr} {sl19 : Array (Option Value)} {oc19 kV19 dc19 pm19 cd19 ct19 : Value} {f19 : Addr}
    {od20 an20 : Option Addr} {sl20 : Array (Option Value)} {oc20 kV20 dc20 pm20 cd20 ct20 : Value} {f20 : Addr}
    {od21 an21 : Option Addr} {sl21 : Array (Option Value)} {oc21 kV21 dc21 pm21 cd21 ct21 : Value} {f21 : Addr}
    {od22 an22 : Option Addr} {sl22 : Array (Option Value)} {oc22 kV22 dc22 pm22 cd22 ct22 : Value} {f22 : Addr}
    {od23 an23 : Option Addr} {sl23 : Array (Option Value)} {oc23 kV23 dc23 pm23 cd23 ct23 : Value} {f23 : Addr}
    {od24 an24 : Option Addr} {sl24 : Array (Option Value)} {oc24 kV24 dc24 pm24 cd24 ct24 : Value} {f24 : Addr}
    (aC_WindowError : PySem.W.nsIn K mainGlobals "WindowError" = some (some (.ref C_WindowError)))
    (aC_TurnedStretch : PySem.W.nsIn K mainGlobals "TurnedStretch" = some (some (.ref C_TurnedStretch)))
    (aC_BadOffset : PySem.W.nsIn K mainGlobals "BadOffset" = some (some (.ref C_BadOffset)))
    (aC_Stretch : PySem.W.nsIn K mainGlobals "Stretch" = some (some (.ref C_Stretch)))
    (aC_Offset : PySem.W.nsIn K mainGlobals "Offset" = some (some (.ref C_Offset)))
    (aC_Cell : PySem.W.nsIn K mainGlobals "Cell" = some (some (.ref C_Cell)))
    (a0 : PySem.W.findIn K (.ref C_TurnedStretch) "__init__" = some (some (.ref f0)))
    (i0 : PySem.W.isFn K (.ref f0) = true)
    (l0 : K.lookup f0 = some ⟨oc0, od0, .func (PySem.W.fnOf "__init__" "TurnedStretch.__init__" (defArgs s_TurnedStretch___init__) (defBody s_TurnedStretch___init__) (defScope s_TurnedStretch___init__) .none kV0 dc0 pm0 an0 cd0 ct0), sl0⟩)
    (c0 : PySem.W.codeIn K cd0 "TurnedStretch.__init__" = true)
    (k0 : PySem.W.keepIn K (.ref f0) = true)
    (a1 : PySem.W.findIn K (.ref C_BadOffset) "__init__" = some (some (.ref f1)))
    (i1 : PySem.W.isFn K (.ref f1) = true)
    (l1 : K.lookup f1 = some ⟨oc1, od1, .func (PySem.W.fnOf "__init__" "BadOffset.__init__" (defArgs s_BadOffset___init__) (defBody s_BadOffset___init__) (defScope s_BadOffset___init__) .none kV1 dc1 pm1 an1 cd1 ct1), sl1⟩)
    (c1 : PySem.W.codeIn K cd1 "BadOffset.__init__" = true)
    (k1 : PySem.W.keepIn K (.ref f1) = true)
    (a2 : PySem.W.nsIn K mainGlobals "possible" = some (some (.ref f2)))
    (l2 : K.lookup f2 = some ⟨oc2, od2, .func (PySem.W.fnOf "possible" "possible" (defArgs s_possible) (defBody s_possible) (defScope s_possible) .none kV2 dc2 pm2 an2 cd2 ct2), sl2⟩)
    (c2 : PySem.W.codeIn K cd2 "possible" = true)
    (k2 : PySem.W.keepIn K (.ref f2) = true)
    (a3 : PySem.W.nsIn K mainGlobals "zone_of" = some (some (.ref f3)))
    (l3 : K.lookup f3 = some ⟨oc3, od3, .func (PySem.W.fnOf "zone_of" "zone_of" (defArgs s_zone_of) (defBody s_zone_of) (defScope s_zone_of) .none kV3 dc3 pm3 an3 cd3 ct3), sl3⟩)
    (c3 : PySem.W.codeIn K cd3 "zone_of" = true)
    (k3 : PySem.W.keepIn K (.ref f3) = true)
    (a4 : PySem.W.findIn K (.ref C_Offset) "__init__" = some (some (.ref f4)))
    (i4 : PySem.W.isFn K (.ref f4) = true)
    (l4 : K.lookup f4 = some ⟨oc4, od4, .func (PySem.W.fnOf "__init__" "Offset.__init__" (defArgs s_Offset___init__) (defBody s_Offset___init__) (defScope s_Offset___init__) .none kV4 dc4 pm4 an4 cd4 ct4), sl4⟩)
    (c4 : PySem.W.codeIn K cd4 "Offset.__init__" = true)
    (k4 : PySem.W.keepIn K (.ref f4) = true)
    (a5 : PySem.W.findIn K (.ref C_Stretch) "__init__" = some (some (.ref f5)))
    (i5 : PySem.W.isFn K (.ref f5) = true)
    (l5 : K.lookup f5 = some ⟨oc5, od5, .func (PySem.W.fnOf "__init__" "Stretch.__init__" (defArgs s_Stretch___init__) (defBody s_Stretch___init__) (defScope s_Stretch___init__) .none kV5 dc5 pm5 an5 cd5 ct5), sl5⟩)
    (c5 : PySem.W.codeIn K cd5 "Stretch.__init__" = true)
    (k5 : PySem.W.keepIn K (.ref f5) = true)
    (a6 : PySem.W.findIn K (.ref C_Stretch) "__contains__" = some (some (.ref f6)))
    (i6 : PySem.W.isFn K (.ref f6) = true)
    (l6 : K.lookup f6 = some ⟨oc6, od6, .func (PySem.W.fnOf "__contains__" "Stretch.__contains__" (defArgs s_Stretch___contains__) (defBody s_Stretch___contains__) (defScope s_Stretch___contains__) .none kV6 dc6 pm6 an6 cd6 ct6), sl6⟩)
    (c6 : PySem.W.codeIn K cd6 "Stretch.__contains__" = true)
    (k6 : PySem.W.keepIn K (.ref f6) = true)
    (a7 : PySem.W.findIn K (.ref C_Stretch) "__eq__" = some (some (.ref f7)))
    (i7 : PySem.W.isFn K (.ref f7) = true)
    (l7 : K.lookup f7 = some ⟨oc7, od7, .func (PySem.W.fnOf "__eq__" "Stretch.__eq__" (defArgs s_Stretch___eq__) (defBody s_Stretch___eq__) (defScope s_Stretch___eq__) .none kV7 dc7 pm7 an7 cd7 ct7), sl7⟩)
    (c7 : PySem.W.codeIn K cd7 "Stretch.__eq__" = true)
    (k7 : PySem.W.keepIn K (.ref f7) = true)
    (a8 : PySem.W.nsIn K mainGlobals "nearest_to" = some (some (.ref f8)))
    (l8 : K.lookup f8 = some ⟨oc8, od8, .func (PySem.W.fnOf "nearest_to" "nearest_to" (defArgs s_nearest_to) (defBody s_nearest_to) (defScope s_nearest_to) .none kV8 dc8 pm8 an8 cd8 ct8), sl8⟩)
    (c8 : PySem.W.codeIn K cd8 "nearest_to" = true)
    (k8 : PySem.W.keepIn K (.ref f8) = true)
    (a9 : PySem.W.findIn K (.ref C_Cell) "__init__" = some (some (.ref f9)))
    (i9 : PySem.W.isFn K (.ref f9) = true)
    (l9 : K.lookup f9 = some ⟨oc9, od9, .func (PySem.W.fnOf "__init__" "Cell.__init__" (defArgs s_Cell___init__) (defBody s_Cell___init__) (defScope s_Cell___init__) .none kV9 dc9 pm9 an9 cd9 ct9), sl9⟩)
    (c9 : PySem.W.codeIn K cd9 "Cell.__init__" = true)
    (k9 : PySem.W.keepIn K (.ref f9) = true)
    (a10 : PySem.W.findIn K (.ref C_Cell) "__contains__" = some (some (.ref f10)))
    (i10 : PySem.W.isFn K (.ref f10) = true)
    (l10 : K.lookup f10 = some ⟨oc10, od10, .func (PySem.W.fnOf "__contains__" "Cell.__contains__" (defArgs s_Cell___contains__) (defBody s_Cell___contains__) (defScope s_Cell___contains__) .none kV10 dc10 pm10 an10 cd10 ct10), sl10⟩)
    (c10 : PySem.W.codeIn K cd10 "Cell.__contains__" = true)
    (k10 : PySem.W.keepIn K (.ref f10) = true)
    (a11 : PySem.W.findIn K (.ref C_Cell) "__eq__" = some (some (.ref f11)))
    (i11 : PySem.W.isFn K (.ref f11) = true)
    (l11 : K.lookup f11 = some ⟨oc11, od11, .func (PySem.W.fnOf "__eq__" "Cell.__eq__" (defArgs s_Cell___eq__) (defBody s_Cell___eq__) (defScope s_Cell___eq__) .none kV11 dc11 pm11 an11 cd11 ct11), sl11⟩)
    (c11 : PySem.W.codeIn K cd11 "Cell.__eq__" = true)
    (k11 : PySem.W.keepIn K (.ref f11) = true)
    (a12 : PySem.W.findIn K (.ref C_Cell) "nearest" = some (some (.ref f12)))
    (i12 : PySem.W.isFn K (.ref f12) = true)
    (l12 : K.lookup f12 = some ⟨oc12, od12, .func (PySem.W.fnOf "nearest" "Cell.nearest" (defArgs s_Cell_nearest) (defBody s_Cell_nearest) (defScope s_Cell_nearest) .none kV12 dc12 pm12 an12 cd12 ct12), sl12⟩)
    (c12 : PySem.W.codeIn K cd12 "Cell.nearest" = true)
    (k12 : PySem.W.keepIn K (.ref f12) = true)
    (a13 : PySem.W.nsIn K mainGlobals "_law_begin" = some (some (.ref f13)))
    (l13 : K.lookup f13 = some ⟨oc13, od13, .func (PySem.W.fnOf "_law_begin" "_law_begin" (defArgs s__law_begin) (defBody s__law_begin) (defScope s__law_begin) .none kV13 dc13 pm13 an13 cd13 ct13), sl13⟩)
    (c13 : PySem.W.codeIn K cd13 "_law_begin" = true)
    (k13 : PySem.W.keepIn K (.ref f13) = true)
    (a14 : PySem.W.nsIn K mainGlobals "_law_draw" = some (some (.ref f14)))
    (l14 : K.lookup f14 = some ⟨oc14, od14, .func (PySem.W.fnOf "_law_draw" "_law_draw" (defArgs s__law_draw) (defBody s__law_draw) (defScope s__law_draw) .none kV14 dc14 pm14 an14 cd14 ct14), sl14⟩)
    (c14 : PySem.W.codeIn K cd14 "_law_draw" = true)
    (k14 : PySem.W.keepIn K (.ref f14) = true)
    (a15 : PySem.W.nsIn K mainGlobals "_law_numbers" = some (some (.ref f15)))
    (l15 : K.lookup f15 = some ⟨oc15, od15, .func (PySem.W.fnOf "_law_numbers" "_law_numbers" (defArgs s__law_numbers) (defBody s__law_numbers) (defScope s__law_numbers) .none kV15 dc15 pm15 an15 cd15 ct15), sl15⟩)
    (c15 : PySem.W.codeIn K cd15 "_law_numbers" = true)
    (k15 : PySem.W.keepIn K (.ref f15) = true)
    (a16 : PySem.W.nsIn K mainGlobals "_law_stretch" = some (some (.ref f16)))
    (l16 : K.lookup f16 = some ⟨oc16, od16, .func (PySem.W.fnOf "_law_stretch" "_law_stretch" (defArgs s__law_stretch) (defBody s__law_stretch) (defScope s__law_stretch) .none kV16 dc16 pm16 an16 cd16 ct16), sl16⟩)
    (c16 : PySem.W.codeIn K cd16 "_law_stretch" = true)
    (k16 : PySem.W.keepIn K (.ref f16) = true)
    (a17 : PySem.W.nsIn K mainGlobals "_law_turned" = some (some (.ref f17)))
    (l17 : K.lookup f17 = some ⟨oc17, od17, .func (PySem.W.fnOf "_law_turned" "_law_turned" (defArgs s__law_turned) (defBody s__law_turned) (defScope s__law_turned) .none kV17 dc17 pm17 an17 cd17 ct17), sl17⟩)
    (c17 : PySem.W.codeIn K cd17 "_law_turned" = true)
    (k17 : PySem.W.keepIn K (.ref f17) = true)
    (a18 : PySem.W.nsIn K mainGlobals "_law_made" = some (some (.ref f18)))
    (l18 : K.lookup f18 = some ⟨oc18, od18, .func (PySem.W.fnOf "_law_made" "_law_made" (defArgs s__law_made) (defBody s__law_made) (defScope s__law_made) .none kV18 dc18 pm18 an18 cd18 ct18), sl18⟩)
    (c18 : PySem.W.codeIn K cd18 "_law_made" = true)
    (k18 : PySem.W.keepIn K (.ref f18) = true)
    (a19 : PySem.W.nsIn K mainGlobals "_law_three" = some (some (.ref f19)))
    (l19 : K.lookup f19 = some ⟨oc19, od19, .func (PySem.W.fnOf "_law_three" "_law_three" (defArgs s__law_three) (defBody s__law_three) (defScope s__law_three) .none kV19 dc19 pm19 an19 cd19 ct19), sl19⟩)
    (c19 : PySem.W.codeIn K cd19 "_law_three" = true)
    (k19 : PySem.W.keepIn K (.ref f19) = true)
    (a20 : PySem.W.nsIn K mainGlobals "_law_in" = some (some (.ref f20)))
    (l20 : K.lookup f20 = some ⟨oc20, od20, .func (PySem.W.fnOf "_law_in" "_law_in" (defArgs s__law_in) (defBody s__law_in) (defScope s__law_in) .none kV20 dc20 pm20 an20 cd20 ct20), sl20⟩)
    (c20 : PySem.W.codeIn K cd20 "_law_in" = true)
    (k20 : PySem.W.keepIn K (.ref f20) = true)
    (a21 : PySem.W.nsIn K mainGlobals "_law_zone" = some (some (.ref f21)))
    (l21 : K.lookup f21 = some ⟨oc21, od21, .func (PySem.W.fnOf "_law_zone" "_law_zone" (defArgs s__law_zone) (defBody s__law_zone) (defScope s__law_zone) .none kV21 dc21 pm21 an21 cd21 ct21), sl21⟩)
    (c21 : PySem.W.codeIn K cd21 "_law_zone" = true)
    (k21 : PySem.W.keepIn K (.ref f21) = true)
    (a22 : PySem.W.nsIn K mainGlobals "_law_other" = some (some (.ref f22)))
    (l22 : K.lookup f22 = some ⟨oc22, od22, .func (PySem.W.fnOf "_law_other" "_law_other" (defArgs s__law_other) (defBody s__law_other) (defScope s__law_other) .none kV22 dc22 pm22 an22 cd22 ct22), sl22⟩)
    (c22 : PySem.W.codeIn K cd22 "_law_other" = true)
    (k22 : PySem.W.keepIn K (.ref f22) = true)
    (a23 : PySem.W.nsIn K mainGlobals "_law_ends" = some (some (.ref f23)))
    (l23 : K.lookup f23 = some ⟨oc23, od23, .func (PySem.W.fnOf "_law_ends" "_law_ends" (defArgs s__law_ends) (defBody s__law_ends) (defScope s__law_ends) .none kV23 dc23 pm23 an23 cd23 ct23), sl23⟩)
    (c23 : PySem.W.codeIn K cd23 "_law_ends" = true)
    (k23 : PySem.W.keepIn K (.ref f23) = true)
    (a24 : PySem.W.nsIn K mainGlobals "law" = some (some (.ref f24)))
    (l24 : K.lookup f24 = some ⟨oc24, od24, .func (PySem.W.fnOf "law" "law" (defArgs s_law) (defBody s_law) (defScope s_law) .none kV24 dc24 pm24 an24 cd24 ct24), sl24⟩)
    (c24 : PySem.W.codeIn K cd24 "law" = true)
    (k24 : PySem.W.keepIn K (.ref f24) = true)
    (z_abs : PySem.W.nsIn K mainGlobals "abs" = some none)
    (z_int : PySem.W.nsIn K mainGlobals "int" = some none)
    (z_isinstance : PySem.W.nsIn K mainGlobals "isinstance" = some none)
    (z_len : PySem.W.nsIn K mainGlobals "len" = some none)
    (z_max : PySem.W.nsIn K mainGlobals "max" = some none)
    (z_range : PySem.W.nsIn K mainGlobals "range" = some none)
    (ex_WindowError : PySem.W.subIn K (.ref C_WindowError) (.type "BaseException") = some true)
    (ty_WindowError : PySem.W.typeIn K (.ref C_WindowError) = some (.type "type"))
    (hd_WindowError : PySem.W.hasDictIn K C_WindowError = true)
    (ex_TurnedStretch : PySem.W.subIn K (.ref C_TurnedStretch) (.type "BaseException") = some true)
    (ty_TurnedStretch : PySem.W.typeIn K (.ref C_TurnedStretch) = some (.type "type"))
    (hd_TurnedStretch : PySem.W.hasDictIn K C_TurnedStretch = true)
    (xL_TurnedStretch : K.lookup C_TurnedStretch = some (excClassObj nm_TurnedStretch q_TurnedStretch C_TurnedStretch N_TurnedStretch bs_TurnedStretch bm_TurnedStretch true sn_TurnedStretch sub_TurnedStretch ab_TurnedStretch col_TurnedStretch dd_TurnedStretch m0_TurnedStretch m1_TurnedStretch m2_TurnedStretch m3_TurnedStretch m5_TurnedStretch "ValueError.__new__"))
    (bmr_TurnedStretch : PySem.HandSPX.refsVE bm_TurnedStretch = true)
    (sa_TurnedStretch : PySem.W.findIn K (.ref C_TurnedStretch) "__setattr__" = some (some (.builtin "object.__setattr__")))
    (kc_TurnedStretch : PySem.W.keepIn K (.ref C_TurnedStretch) = true)
    (ga_TurnedStretch : PySem.W.findIn K (.ref C_TurnedStretch) "__getattribute__" = some (some (.builtin "BaseException.__getattribute__")))
    (gg_TurnedStretch : PySem.W.findIn K (.ref C_TurnedStretch) "__getattr__" = some none)
    (tI_TurnedStretch : PySem.W.typeIn K (.ref f0) = some (.type "function"))
    (nf_TurnedStretch_low : PySem.W.findIn K (.ref C_TurnedStretch) "low" = some none)
    (nf_TurnedStretch_high : PySem.W.findIn K (.ref C_TurnedStretch) "high" = some none)
    (su_TurnedStretch_TurnedStretch : PySem.W.subIn K (.ref C_TurnedStretch) (.ref C_TurnedStretch) = some true)
    (is_TurnedStretch_TurnedStretch : PySem.W.isIn K (.ref C_TurnedStretch) C_TurnedStretch = true)
    (ex_BadOffset : PySem.W.subIn K (.ref C_BadOffset) (.type "BaseException") = some true)
    (ty_BadOffset : PySem.W.typeIn K (.ref C_BadOffset) = some (.type "type"))
    (hd_BadOffset : PySem.W.hasDictIn K C_BadOffset = true)
    (xL_BadOffset : K.lookup C_BadOffset = some (excClassObj nm_BadOffset q_BadOffset C_BadOffset N_BadOffset bs_BadOffset bm_BadOffset true sn_BadOffset sub_BadOffset ab_BadOffset col_BadOffset dd_BadOffset m0_BadOffset m1_BadOffset m2_BadOffset m3_BadOffset m5_BadOffset "ValueError.__new__"))
    (bmr_BadOffset : PySem.HandSPX.refsVE bm_BadOffset = true)
    (sa_BadOffset : PySem.W.findIn K (.ref C_BadOffset) "__setattr__" = some (some (.builtin "object.__setattr__")))
    (kc_BadOffset : PySem.W.keepIn K (.ref C_BadOffset) = true)
    (ga_BadOffset : PySem.W.findIn K (.ref C_BadOffset) "__getattribute__" = some (some (.builtin "BaseException.__getattribute__")))
    (gg_BadOffset : PySem.W.findIn K (.ref C_BadOffset) "__getattr__" = some none)
    (tI_BadOffset : PySem.W.typeIn K (.ref f1) = some (.type "function"))
    (nf_BadOffset_rows : PySem.W.findIn K (.ref C_BadOffset) "rows" = some none)
    (nf_BadOffset_groups : PySem.W.findIn K (.ref C_BadOffset) "groups" = some none)
    (nf_BadOffset_distance : PySem.W.findIn K (.ref C_BadOffset) "distance" = some none)
    (su_BadOffset_BadOffset : PySem.W.subIn K (.ref C_BadOffset) (.ref C_BadOffset) = some true)
    (is_BadOffset_BadOffset : PySem.W.isIn K (.ref C_BadOffset) C_BadOffset = true)
    (pg_Stretch : PySem.W.plainGet K C_Stretch Str.empty = true)
    (hd_Stretch : PySem.W.hasDictIn K C_Stretch = true)
    (po_Stretch : PySem.W.plainOver K C_Stretch = true)
    (sa_Stretch : PySem.W.findIn K (.ref C_Stretch) "__setattr__" = some (some (.builtin "object.__setattr__")))
    (mk_Stretch : PySem.W.makesIn K C_Stretch = true)
    (kc_Stretch : PySem.W.keepIn K (.ref C_Stretch) = true)
    (nf_Stretch_low : PySem.W.findIn K (.ref C_Stretch) "low" = some none)
    (nf_Stretch_high : PySem.W.findIn K (.ref C_Stretch) "high" = some none)
    (ca_Stretch : PySem.W.findIn K (.ref C_Stretch) "__class__" = some (some (.builtin "object.__class__")))
    (cn_Stretch : PySem.W.specialIn K (.builtin "object.__class__") "__get__" = some (some (.builtin "getset_descriptor.__get__")))
    (ct_Stretch : PySem.W.takesIn K (.builtin "object.__class__") = some true)
    (cm_Stretch : PySem.W.mroIn K C_Stretch (.type "object") = some true)
    (ne_Stretch : PySem.W.findIn K (.ref C_Stretch) "__ne__" = some (some (.builtin "object.__ne__")))
    (ob_Stretch : PySem.W.subIn K (.ref C_Stretch) (.type "object") = some true)
    (nt_Stretch : PySem.W.notFirst K C_Stretch (.ref C_Stretch) = true)
    (pg_Offset : PySem.W.plainGet K C_Offset Str.empty = true)
    (hd_Offset : PySem.W.hasDictIn K C_Offset = true)
    (po_Offset : PySem.W.plainOver K C_Offset = true)
    (sa_Offset : PySem.W.findIn K (.ref C_Offset) "__setattr__" = some (some (.builtin "object.__setattr__")))
    (mk_Offset : PySem.W.makesIn K C_Offset = true)
    (kc_Offset : PySem.W.keepIn K (.ref C_Offset) = true)
    (nf_Offset_rows : PySem.W.findIn K (.ref C_Offset) "rows" = some none)
    (nf_Offset_groups : PySem.W.findIn K (.ref C_Offset) "groups" = some none)
    (nf_Offset_distance : PySem.W.findIn K (.ref C_Offset) "distance" = some none)
    (nf_Offset_zone : PySem.W.findIn K (.ref C_Offset) "zone" = some none)
    (ca_Offset : PySem.W.findIn K (.ref C_Offset) "__class__" = some (some (.builtin "object.__class__")))
    (cn_Offset : PySem.W.specialIn K (.builtin "object.__class__") "__get__" = some (some (.builtin "getset_descriptor.__get__")))
    (ct_Offset : PySem.W.takesIn K (.builtin "object.__class__") = some true)
    (cm_Offset : PySem.W.mroIn K C_Offset (.type "object") = some true)
    (pg_Cell : PySem.W.plainGet K C_Cell Str.empty = true)
    (hd_Cell : PySem.W.hasDictIn K C_Cell = true)
    (po_Cell : PySem.W.plainOver K C_Cell = true)
    (sa_Cell : PySem.W.findIn K (.ref C_Cell) "__setattr__" = some (some (.builtin "object.__setattr__")))
    (mk_Cell : PySem.W.makesIn K C_Cell = true)
    (kc_Cell : PySem.W.keepIn K (.ref C_Cell) = true)
    (nf_Cell_zone : PySem.W.findIn K (.ref C_Cell) "zone" = some none)
    (nf_Cell_rows : PySem.W.findIn K (.ref C_Cell) "rows" = some none)
    (nf_Cell_groups : PySem.W.findIn K (.ref C_Cell) "groups" = some none)
    (nf_Cell_distance : PySem.W.findIn K (.ref C_Cell) "distance" = some none)
    (ca_Cell : PySem.W.findIn K (.ref C_Cell) "__class__" = some (some (.builtin "object.__class__")))
    (cn_Cell : PySem.W.specialIn K (.builtin "object.__class__") "__get__" = some (some (.builtin "getset_descriptor.__get__")))
    (ct_Cell : PySem.W.takesIn K (.builtin "object.__class__") = some true)
    (cm_Cell : PySem.W.mroIn K C_Cell (.type "object") = some true)
    (nt_Cell : PySem.W.notFirst K C_Cell (.ref C_Cell) = true)
    (nt_Cell_list : PySem.W.notFirst K C_Cell (.type "list") = true)
    (nt_Cell_str : PySem.W.notFirst K C_Cell (.type "str") = true)
    (ki_Cell_list : PySem.W.kitOne K (.type "list") (.ref C_Cell) = some false)
    (ki_Cell_str : PySem.W.kitOne K (.type "str") (.ref C_Cell) = some false)
    (nt_Cell_Offset : PySem.W.notFirst K C_Cell (.ref C_Offset) = true)
    (ki_Cell_Offset : PySem.W.kitOne K (.ref C_Offset) (.ref C_Cell) = some false)
    : ∃ fd : FuncData, (∀ (s : Shared) (v : Value), BindsTo s fd ⟨[v], []⟩ [("_law_script", v)]) ∧ ∀ base : Heap, K.In base → base.Ns mainGlobals mg → FnOk l.prog w K mg base CX0 10 fa fd ["_law_script"] (spLaw K) := by
  have e := hfa.symm.trans (PySem.W.mg_of X G a24)
  cases e
  have F0 := fun_mk (st := s_TurnedStretch___init__) l0 c0 k0
  have b0 := F0.binds (ps := ["self", "low", "high"]) fun _ _ _ _ _ _ us hl => match us, hl with | [_, _, _], _ => rfl
  have F1 := fun_mk (st := s_BadOffset___init__) l1 c1 k1
  have b1 := F1.binds (ps := ["self", "rows", "groups", "distance"]) fun _ _ _ _ _ _ us hl => match us, hl with | [_, _, _, _], _ => rfl
  have F2 := fun_mk (st := s_possible) l2 c2 k2
  have b2 := F2.binds (ps := ["rows", "groups", "distance"]) fun _ _ _ _ _ _ us hl => match us, hl with | [_, _, _], _ => rfl
  have F3 := fun_mk (st := s_zone_of) l3 c3 k3
  have b3 := F3.binds (ps := ["rows", "groups"]) fun _ _ _ _ _ _ us hl => match us, hl with | [_, _], _ => rfl
  have F4 := fun_mk (st := s_Offset___init__) l4 c4 k4
  have b4 := F4.binds (ps := ["self", "rows", "groups", "distance"]) fun _ _ _ _ _ _ us hl => match us, hl with | [_, _, _, _], _ => rfl
  have F5 := fun_mk (st := s_Stretch___init__) l5 c5 k5
  have b5 := F5.binds (ps := ["self", "low", "high"]) fun _ _ _ _ _ _ us hl => match us, hl with | [_, _, _], _ => rfl
  have F6 := fun_mk (st := s_Stretch___contains__) l6 c6 k6
  have b6 := F6.binds (ps := ["self", "number"]) fun _ _ _ _ _ _ us hl => match us, hl with | [_, _], _ => rfl
  have F7 := fun_mk (st := s_Stretch___eq__) l7 c7 k7
  have b7 := F7.binds (ps := ["self", "other"]) fun _ _ _ _ _ _ us hl => match us, hl with | [_, _], _ => rfl
  have F8 := fun_mk (st := s_nearest_to) l8 c8 k8
  have b8 := F8.binds (ps := ["stretch"]) fun _ _ _ _ _ _ us hl => match us, hl with | [_], _ => rfl
  have F9 := fun_mk (st := s_Cell___init__) l9 c9 k9
  have b9 := F9.binds (ps := ["self", "zone", "rows", "groups", "distance"]) fun _ _ _ _ _ _ us hl => match us, hl with | [_, _, _, _, _], _ => rfl
  have F10 := fun_mk (st := s_Cell___contains__) l10 c10 k10
  have b10 := F10.binds (ps := ["self", "offset"]) fun _ _ _ _ _ _ us hl => match us, hl with | [_, _], _ => rfl
  have F11 := fun_mk (st := s_Cell___eq__) l11 c11 k11
  have b11 := F11.binds (ps := ["self", "other"]) fun _ _ _ _ _ _ us hl => match us, hl with | [_, _], _ => rfl
  have F12 := fun_mk (st := s_Cell_nearest) l12 c12 k12
  have b12 := F12.binds (ps := ["self"]) fun _ _ _ _ _ _ us hl => match us, hl with | [_], _ => rfl
  have F13 := fun_mk (st := s__law_begin) l13 c13 k13
  have b13 := F13.binds (ps := ["_law_script"]) fun _ _ _ _ _ _ us hl => match us, hl with | [_], _ => rfl
  have F14 := fun_mk (st := s__law_draw) l14 c14 k14
  have b14 := F14.binds (ps := ["_law_draws", "_law_many"]) fun _ _ _ _ _ _ us hl => match us, hl with | [_, _], _ => rfl
  have F15 := fun_mk (st := s__law_numbers) l15 c15 k15
  have b15 := F15.binds (ps := ["_law_draws"]) fun _ _ _ _ _ _ us hl => match us, hl with | [_], _ => rfl
  have F16 := fun_mk (st := s__law_stretch) l16 c16 k16
  have b16 := F16.binds (ps := ["_law_draws", "_law_bottom", "_law_wide"]) fun _ _ _ _ _ _ us hl => match us, hl with | [_, _, _], _ => rfl
  have F17 := fun_mk (st := s__law_turned) l17 c17 k17
  have b17 := F17.binds (ps := ["_law_pair", "_law_sign"]) fun _ _ _ _ _ _ us hl => match us, hl with | [_, _], _ => rfl
  have F18 := fun_mk (st := s__law_made) l18 c18 k18
  have b18 := F18.binds (ps := ["_law_zone_here", "_law_three_here", "_law_sign"]) fun _ _ _ _ _ _ us hl => match us, hl with | [_, _, _], _ => rfl
  have F19 := fun_mk (st := s__law_three) l19 c19 k19
  have b19 := F19.binds (ps := ["_law_draws", "_law_way"]) fun _ _ _ _ _ _ us hl => match us, hl with | [_, _], _ => rfl
  have F20 := fun_mk (st := s__law_in) l20 c20 k20
  have b20 := F20.binds (ps := ["_law_pair", "_law_spot"]) fun _ _ _ _ _ _ us hl => match us, hl with | [_, _], _ => rfl
  have F21 := fun_mk (st := s__law_zone) l21 c21 k21
  have b21 := F21.binds (ps := ["_law_d", "_law_g"]) fun _ _ _ _ _ _ us hl => match us, hl with | [_, _], _ => rfl
  have F22 := fun_mk (st := s__law_other) l22 c22 k22
  have b22 := F22.binds (ps := ["_law_draws", "_law_way", "_law_zone_here", "_law_three_here", "_law_sign"]) fun _ _ _ _ _ _ us hl => match us, hl with | [_, _, _, _, _], _ => rfl
  have F23 := fun_mk (st := s__law_ends) l23 c23 k23
  have b23 := F23.binds (ps := ["_law_three_here", "_law_sign"]) fun _ _ _ _ _ _ us hl => match us, hl with | [_, _], _ => rfl
  have F24 := fun_mk (st := s_law) l24 c24 k24
  have b24 := F24.binds (ps := ["_law_script"]) fun _ _ _ _ _ _ us hl => match us, hl with | [_], _ => rfl
  let T : Txt K mg := {
    f_TurnedStretch___init__ := f0,
    d_TurnedStretch___init__ := _,
    F_TurnedStretch___init__ := F0,
    b_TurnedStretch___init__ := b0,
    f_BadOffset___init__ := f1,
    d_BadOffset___init__ := _,
    F_BadOffset___init__ := F1,
    b_BadOffset___init__ := b1,
    f_possible := f2,
    d_possible := _,
    F_possible := F2,
    b_possible := b2,
    g_possible := PySem.W.mg_of X G a2,
    f_zone_of := f3,
    d_zone_of := _,
    F_zone_of := F3,
    b_zone_of := b3,
    g_zone_of := PySem.W.mg_of X G a3,
    f_Offset___init__ := f4,
    d_Offset___init__ := _,
    F_Offset___init__ := F4,
    b_Offset___init__ := b4,
    f_Stretch___init__ := f5,
    d_Stretch___init__ := _,
    F_Stretch___init__ := F5,
    b_Stretch___init__ := b5,
    f_Stretch___contains__ := f6,
    d_Stretch___contains__ := _,
    F_Stretch___contains__ := F6,
    b_Stretch___contains__ := b6,
    f_Stretch___eq__ := f7,
    d_Stretch___eq__ := _,
    F_Stretch___eq__ := F7,
    b_Stretch___eq__ := b7,
    f_nearest_to := f8,
    d_nearest_to := _,
    F_nearest_to := F8,
    b_nearest_to := b8,
    g_nearest_to := PySem.W.mg_of X G a8,
    f_Cell___init__ := f9,
    d_Cell___init__ := _,
    F_Cell___init__ := F9,
    b_Cell___init__ := b9,
    f_Cell___contains__ := f10,
    d_Cell___contains__ := _,
    F_Cell___contains__ := F10,
    b_Cell___contains__ := b10,
    f_Cell___eq__ := f11,
    d_Cell___eq__ := _,
    F_Cell___eq__ := F11,
    b_Cell___eq__ := b11,
    f_Cell_nearest := f12,
    d_Cell_nearest := _,
    F_Cell_nearest := F12,
    b_Cell_nearest := b12,
    f__law_begin := f13,
    d__law_begin := _,
    F__law_begin := F13,
    b__law_begin := b13,
    g__law_begin := PySem.W.mg_of X G a13,
    f__law_draw := f14,
    d__law_draw := _,
    F__law_draw := F14,
    b__law_draw := b14,
    g__law_draw := PySem.W.mg_of X G a14,
    f__law_numbers := f15,
    d__law_numbers := _,
    F__law_numbers := F15,
    b__law_numbers := b15,
    g__law_numbers := PySem.W.mg_of X G a15,
    f__law_stretch := f16,
    d__law_stretch := _,
    F__law_stretch := F16,
    b__law_stretch := b16,
    g__law_stretch := PySem.W.mg_of X G a16,
    f__law_turned := f17,
    d__law_turned := _,
    F__law_turned := F17,
    b__law_turned := b17,
    g__law_turned := PySem.W.mg_of X G a17,
    f__law_made := f18,
    d__law_made := _,
    F__law_made := F18,
    b__law_made := b18,
    g__law_made := PySem.W.mg_of X G a18,
    f__law_three := f19,
    d__law_three := _,
    F__law_three := F19,
    b__law_three := b19,
    g__law_three := PySem.W.mg_of X G a19,
    f__law_in := f20,
    d__law_in := _,
    F__law_in := F20,
    b__law_in := b20,
    g__law_in := PySem.W.mg_of X G a20,
    f__law_zone := f21,
    d__law_zone := _,
    F__law_zone := F21,
    b__law_zone := b21,
    g__law_zone := PySem.W.mg_of X G a21,
    f__law_other := f22,
    d__law_other := _,
    F__law_other := F22,
    b__law_other := b22,
    g__law_other := PySem.W.mg_of X G a22,
    f__law_ends := f23,
    d__law_ends := _,
    F__law_ends := F23,
    b__law_ends := b23,
    g__law_ends := PySem.W.mg_of X G a23,
    f_law := fa,
    d_law := _,
    F_law := F24,
    b_law := b24,
    g_law := PySem.W.mg_of X G a24,
    z_abs := PySem.W.mg_none_of X G z_abs,
    z_int := PySem.W.mg_none_of X G z_int,
    z_isinstance := PySem.W.mg_none_of X G z_isinstance,
    z_len := PySem.W.mg_none_of X G z_len,
    z_max := PySem.W.mg_none_of X G z_max,
    z_range := PySem.W.mg_none_of X G z_range,
    C_WindowError := C_WindowError,
    g_WindowError := PySem.W.mg_of X G aC_WindowError,
    C_TurnedStretch := C_TurnedStretch,
    g_TurnedStretch := PySem.W.mg_of X G aC_TurnedStretch,
    ox_TurnedStretch := ⟨⟨nm_TurnedStretch, q_TurnedStretch, N_TurnedStretch, bs_TurnedStretch, bm_TurnedStretch, sn_TurnedStretch, sub_TurnedStretch, ab_TurnedStretch, col_TurnedStretch, dd_TurnedStretch, m0_TurnedStretch, m1_TurnedStretch, m2_TurnedStretch, m3_TurnedStretch, m5_TurnedStretch, xL_TurnedStretch, bmr_TurnedStretch⟩, sa_TurnedStretch, ex_TurnedStretch, ty_TurnedStretch, kc_TurnedStretch⟩,
    xf_TurnedStretch := ⟨ga_TurnedStretch, gg_TurnedStretch, ex_TurnedStretch, hd_TurnedStretch⟩,
    iC_TurnedStretch := a0,
    tI_TurnedStretch := tI_TurnedStretch,
    nf_TurnedStretch_low := nf_TurnedStretch_low,
    nf_TurnedStretch_high := nf_TurnedStretch_high,
    em_TurnedStretch_TurnedStretch := PySem.W.exm_ref ex_TurnedStretch hd_TurnedStretch ty_TurnedStretch su_TurnedStretch_TurnedStretch,
    is_TurnedStretch_TurnedStretch := is_TurnedStretch_TurnedStretch,
    C_BadOffset := C_BadOffset,
    g_BadOffset := PySem.W.mg_of X G aC_BadOffset,
    ox_BadOffset := ⟨⟨nm_BadOffset, q_BadOffset, N_BadOffset, bs_BadOffset, bm_BadOffset, sn_BadOffset, sub_BadOffset, ab_BadOffset, col_BadOffset, dd_BadOffset, m0_BadOffset, m1_BadOffset, m2_BadOffset, m3_BadOffset, m5_BadOffset, xL_BadOffset, bmr_BadOffset⟩, sa_BadOffset, ex_BadOffset, ty_BadOffset, kc_BadOffset⟩,
    xf_BadOffset := ⟨ga_BadOffset, gg_BadOffset, ex_BadOffset, hd_BadOffset⟩,
    iC_BadOffset := a1,
    tI_BadOffset := tI_BadOffset,
    nf_BadOffset_rows := nf_BadOffset_rows,
    nf_BadOffset_groups := nf_BadOffset_groups,
    nf_BadOffset_distance := nf_BadOffset_distance,
    em_BadOffset_BadOffset := PySem.W.exm_ref ex_BadOffset hd_BadOffset ty_BadOffset su_BadOffset_BadOffset,
    is_BadOffset_BadOffset := is_BadOffset_BadOffset,
    C_Stretch := C_Stretch,
    g_Stretch := PySem.W.mg_of X G aC_Stretch,
    c_Stretch := ⟨pg_Stretch, hd_Stretch, po_Stretch, sa_Stretch⟩,
    m_Stretch := ⟨mk_Stretch, a5, i5, kc_Stretch⟩,
    nf_Stretch_low := nf_Stretch_low,
    nf_Stretch_high := nf_Stretch_high,
    mt_Stretch___contains__ := ⟨a6, i6, k6⟩,
    mt_Stretch___eq__ := ⟨a7, i7, k7⟩,
    ca_Stretch := ca_Stretch,
    cn_Stretch := cn_Stretch,
    ct_Stretch := ct_Stretch,
    cm_Stretch := cm_Stretch,
    ne_Stretch := ne_Stretch,
    ob_Stretch := ob_Stretch,
    nt_Stretch := nt_Stretch,
    C_Offset := C_Offset,
    g_Offset := PySem.W.mg_of X G aC_Offset,
    c_Offset := ⟨pg_Offset, hd_Offset, po_Offset, sa_Offset⟩,
    m_Offset := ⟨mk_Offset, a4, i4, kc_Offset⟩,
    nf_Offset_rows := nf_Offset_rows,
    nf_Offset_groups := nf_Offset_groups,
    nf_Offset_distance := nf_Offset_distance,
    nf_Offset_zone := nf_Offset_zone,
    ca_Offset := ca_Offset,
    cn_Offset := cn_Offset,
    ct_Offset := ct_Offset,
    cm_Offset := cm_Offset,
    C_Cell := C_Cell,
    g_Cell := PySem.W.mg_of X G aC_Cell,
    c_Cell := ⟨pg_Cell, hd_Cell, po_Cell, sa_Cell⟩,
    m_Cell := ⟨mk_Cell, a9, i9, kc_Cell⟩,
    nf_Cell_zone := nf_Cell_zone,
    nf_Cell_rows := nf_Cell_rows,
    nf_Cell_groups := nf_Cell_groups,
    nf_Cell_distance := nf_Cell_distance,
    mt_Cell___contains__ := ⟨a10, i10, k10⟩,
    mt_Cell___eq__ := ⟨a11, i11, k11⟩,
    mt_Cell_nearest := ⟨a12, i12, k12⟩,
    ca_Cell := ca_Cell,
    cn_Cell := cn_Cell,
    ct_Cell := ct_Cell,
    cm_Cell := cm_Cell,
    nt_Cell := nt_Cell,
    nt_Cell_list := nt_Cell_list,
    nt_Cell_str := nt_Cell_str,
    ki_Cell_list := ki_Cell_list,
    ki_Cell_str := ki_Cell_str,
    nt_Cell_Offset := nt_Cell_Offset,
    ki_Cell_Offset := ki_Cell_Offset }
  exact ⟨PySem.W.fnOf "law" "law" (defArgs s_law) (defBody s_law) (defScope s_law) .none kV24 dc24 pm24 an24 cd24 ct24, fun s v => .of_eq rfl, fun base _ _ => ok_law T⟩
end Wr
open PySem PySem.W PyProof.Rows
set_option maxRecDepth 100000 in
set_option maxHeartbeats 0 in
theorem PySem.Challenge.cw_windowrows_k21_cells_holds : PySem.Challenge.rw_windowrows_k21_cells.Holds := by
  w_on; o_law; k_head; (case hw => w_witness2)
  k_fill
  refine L2.walk_of (l := PySem.Challenge.rw_windowrows_k21_cells) (n := 63) (k := 10) (x := "_law_script") (CX := fun _ => L2.CX0) (sp := fun w => Wr.spLaw _) rfl (by decide) rfl ⟨rfl, by decide, by decide⟩ (fun w h Y => PySem.W.kIn_of Y) ?F (fun _ _ a ns hl _ hS => ⟨a, ns, rfl, hS, hl, fun _ => rfl⟩) (fun _ _ _ _ _ h => h)
  case F =>
    intro w mg fa h KX G hmg
    refine' Wr.all_mk KX G hmg ?aC_WindowError ?aC_TurnedStretch ?aC_BadOffset ?aC_Stretch ?aC_Offset ?aC_Cell ?a0 ?i0 ?l0 ?c0 ?k0 ?a1 ?i1 ?l1 ?c1 ?k1 ?a2 ?l2 ?c2 ?k2 ?a3 ?l3 ?c3 ?k3 ?a4 ?i4 ?l4 ?c4 ?k4 ?a5 ?i5 ?l5 ?c5 ?k5 ?a6 ?i6 ?l6 ?c6 ?k6 ?a7 ?i7 ?l7 ?c7 ?k7 ?a8 ?l8 ?c8 ?k8 ?a9 ?i9 ?l9 ?c9 ?k9 ?a10 ?i10 ?l10 ?c10 ?k10 ?a11 ?i11 ?l11 ?c11 ?k11 ?a12 ?i12 ?l12 ?c12 ?k12 ?a13 ?l13 ?c13 ?k13 ?a14 ?l14 ?c14 ?k14 ?a15 ?l15 ?c15 ?k15 ?a16 ?l16 ?c16 ?k16 ?a17 ?l17 ?c17 ?k17 ?a18 ?l18 ?c18 ?k18 ?a19 ?l19 ?c19 ?k19 ?a20 ?l20 ?c20 ?k20 ?a21 ?l21 ?c21 ?k21 ?a22 ?l22 ?c22 ?k22 ?a23 ?l23 ?c23 ?k23 ?a24 ?l24 ?c24 ?k24 ?z_abs ?z_int ?z_isinstance ?z_len ?z_max ?z_range ?ex_WindowError ?ty_WindowError ?hd_WindowError ?ex_TurnedStretch ?ty_TurnedStretch ?hd_TurnedStretch ?xL_TurnedStretch ?bmr_TurnedStretch ?sa_TurnedStretch ?kc_TurnedStretch ?ga_TurnedStretch ?gg_TurnedStretch ?tI_TurnedStretch ?nf_TurnedStretch_low ?nf_TurnedStretch_high ?su_TurnedStretch_TurnedStretch ?is_TurnedStretch_TurnedStretch ?ex_BadOffset ?ty_BadOffset ?hd_BadOffset ?xL_BadOffset ?bmr_BadOffset ?sa_BadOffset ?kc_BadOffset ?ga_BadOffset ?gg_BadOffset ?tI_BadOffset ?nf_BadOffset_rows ?nf_BadOffset_groups ?nf_BadOffset_distance ?su_BadOffset_BadOffset ?is_BadOffset_BadOffset ?pg_Stretch ?hd_Stretch ?po_Stretch ?sa_Stretch ?mk_Stretch ?kc_Stretch ?nf_Stretch_low ?nf_Stretch_high ?ca_Stretch ?cn_Stretch ?ct_Stretch ?cm_Stretch ?ne_Stretch ?ob_Stretch ?nt_Stretch ?pg_Offset ?hd_Offset ?po_Offset ?sa_Offset ?mk_Offset ?kc_Offset ?nf_Offset_rows ?nf_Offset_groups ?nf_Offset_distance ?nf_Offset_zone ?ca_Offset ?cn_Offset ?ct_Offset ?cm_Offset ?pg_Cell ?hd_Cell ?po_Cell ?sa_Cell ?mk_Cell ?kc_Cell ?nf_Cell_zone ?nf_Cell_rows ?nf_Cell_groups ?nf_Cell_distance ?ca_Cell ?cn_Cell ?ct_Cell ?cm_Cell ?nt_Cell ?nt_Cell_list ?nt_Cell_str ?ki_Cell_list ?ki_Cell_str ?nt_Cell_Offset ?ki_Cell_Offset
    (case aC_WindowError => k_is)
    (case aC_TurnedStretch => k_is)
    (case aC_BadOffset => k_is)
    (case aC_Stretch => k_is)
    (case aC_Offset => k_is)
    (case aC_Cell => k_is)
    (case a0 => k_is)
    (case i0 => k_is)
    (case l0 => k_is)
    (case c0 => k_is)
    (case k0 => k_is)
    (case a1 => k_is)
    (case i1 => k_is)
    (case l1 => k_is)
    (case c1 => k_is)
    (case k1 => k_is)
    (case a2 => k_is)
    (case l2 => k_is)
    (case c2 => k_is)
    (case k2 => k_is)
    (case a3 => k_is)
    (case l3 => k_is)
    (case c3 => k_is)
    (case k3 => k_is)
    (case a4 => k_is)
    (case i4 => k_is)
    (case l4 => k_is)
    (case c4 => k_is)
    (case k4 => k_is)
    (case a5 => k_is)
    (case i5 => k_is)
    (case l5 => k_is)
    (case c5 => k_is)
    (case k5 => k_is)
    (case a6 => k_is)
    (case i6 => k_is)
    (case l6 => k_is)
    (case c6 => k_is)
    (case k6 => k_is)
    (case a7 => k_is)
    (case i7 => k_is)
    (case l7 => k_is)
    (case c7 => k_is)
    (case k7 => k_is)
    (case a8 => k_is)
    (case l8 => k_is)
    (case c8 => k_is)
    (case k8 => k_is)
    (case a9 => k_is)
    (case i9 => k_is)
    (case l9 => k_is)
    (case c9 => k_is)
    (case k9 => k_is)
    (case a10 => k_is)
    (case i10 => k_is)
    (case l10 => k_is)
    (case c10 => k_is)
    (case k10 => k_is)
    (case a11 => k_is)
    (case i11 => k_is)
    (case l11 => k_is)
    (case c11 => k_is)
    (case k11 => k_is)
    (case a12 => k_is)
    (case i12 => k_is)
    (case l12 => k_is)
    (case c12 => k_is)
    (case k12 => k_is)
    (case a13 => k_is)
    (case l13 => k_is)
    (case c13 => k_is)
    (case k13 => k_is)
    (case a14 => k_is)
    (case l14 => k_is)
    (case c14 => k_is)
    (case k14 => k_is)
    (case a15 => k_is)
    (case l15 => k_is)
    (case c15 => k_is)
    (case k15 => k_is)
    (case a16 => k_is)
    (case l16 => k_is)
    (case c16 => k_is)
    (case k16 => k_is)
    (case a17 => k_is)
    (case l17 => k_is)
    (case c17 => k_is)
    (case k17 => k_is)
    (case a18 => k_is)
    (case l18 => k_is)
    (case c18 => k_is)
    (case k18 => k_is)
    (case a19 => k_is)
    (case l19 => k_is)
    (case c19 => k_is)
    (case k19 => k_is)
    (case a20 => k_is)
    (case l20 => k_is)
    (case c20 => k_is)
    (case k20 => k_is)
    (case a21 => k_is)
    (case l21 => k_is)
    (case c21 => k_is)
    (case k21 => k_is)
    (case a22 => k_is)
    (case l22 => k_is)
    (case c22 => k_is)
    (case k22 => k_is)
    (case a23 => k_is)
    (case l23 => k_is)
    (case c23 => k_is)
    (case k23 => k_is)
    (case a24 => k_is)
    (case l24 => k_is)
    (case c24 => k_is)
    (case k24 => k_is)
    (case z_abs => k_is)
    (case z_int => k_is)
    (case z_isinstance => k_is)
    (case z_len => k_is)
    (case z_max => k_is)
    (case z_range => k_is)
    (case ex_WindowError => k_is)
    (case ty_WindowError => k_is)
    (case hd_WindowError => k_is)
    (case ex_TurnedStretch => k_is)
    (case ty_TurnedStretch => k_is)
    (case hd_TurnedStretch => k_is)
    (case xL_TurnedStretch => k_is)
    (case bmr_TurnedStretch => decide +kernel)
    (case sa_TurnedStretch => k_is)
    (case kc_TurnedStretch => k_is)
    (case ga_TurnedStretch => k_is)
    (case gg_TurnedStretch => k_is)
    (case tI_TurnedStretch => k_is)
    (case nf_TurnedStretch_low => k_is)
    (case nf_TurnedStretch_high => k_is)
    (case su_TurnedStretch_TurnedStretch => first | rfl | k_is)
    (case is_TurnedStretch_TurnedStretch => first | k_is | rfl)
    (case ex_BadOffset => k_is)
    (case ty_BadOffset => k_is)
    (case hd_BadOffset => k_is)
    (case xL_BadOffset => k_is)
    (case bmr_BadOffset => decide +kernel)
    (case sa_BadOffset => k_is)
    (case kc_BadOffset => k_is)
    (case ga_BadOffset => k_is)
    (case gg_BadOffset => k_is)
    (case tI_BadOffset => k_is)
    (case nf_BadOffset_rows => k_is)
    (case nf_BadOffset_groups => k_is)
    (case nf_BadOffset_distance => k_is)
    (case su_BadOffset_BadOffset => first | rfl | k_is)
    (case is_BadOffset_BadOffset => first | k_is | rfl)
    (case pg_Stretch => k_is)
    (case hd_Stretch => k_is)
    (case po_Stretch => k_is)
    (case sa_Stretch => k_is)
    (case mk_Stretch => k_is)
    (case kc_Stretch => k_is)
    (case nf_Stretch_low => k_is)
    (case nf_Stretch_high => k_is)
    (case ca_Stretch => k_is)
    (case cn_Stretch => k_is)
    (case ct_Stretch => k_is)
    (case cm_Stretch => k_is)
    (case ne_Stretch => k_is)
    (case ob_Stretch => k_is)
    (case nt_Stretch => k_is)
    (case pg_Offset => k_is)
    (case hd_Offset => k_is)
    (case po_Offset => k_is)
    (case sa_Offset => k_is)
    (case mk_Offset => k_is)
    (case kc_Offset => k_is)
    (case nf_Offset_rows => k_is)
    (case nf_Offset_groups => k_is)
    (case nf_Offset_distance => k_is)
    (case nf_Offset_zone => k_is)
    (case ca_Offset => k_is)
    (case cn_Offset => k_is)
    (case ct_Offset => k_is)
    (case cm_Offset => k_is)
    (case pg_Cell => k_is)
    (case hd_Cell => k_is)
    (case po_Cell => k_is)
    (case sa_Cell => k_is)
    (case mk_Cell => k_is)
    (case kc_Cell => k_is)
    (case nf_Cell_zone => k_is)
    (case nf_Cell_rows => k_is)
    (case nf_Cell_groups => k_is)
    (case nf_Cell_distance => k_is)
    (case ca_Cell => k_is)
    (case cn_Cell => k_is)
    (case ct_Cell => k_is)
    (case cm_Cell => k_is)
    (case nt_Cell => k_is)
    (case nt_Cell_list => k_is)
    (case nt_Cell_str => k_is)
    (case ki_Cell_list => kit_is)
    (case ki_Cell_str => kit_is)
    (case nt_Cell_Offset => k_is)
    (case ki_Cell_Offset => kit_is)
