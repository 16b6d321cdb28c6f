import PyProof.Rows.All
import Wide.All
import OpenK.AllK
import Wide.FinOn
import HandS.ForMost
import HandS.Wide
import HandS.IsInst
import HandS.Defaults
import HandS.Codes
import PyProof.InstNe
import HandS.Style
import PySem.Challenge.RW_windowrows_k19_whole_offsets_along_a_lis
set_option Elab.async false
set_option linter.all false
set_option maxRecDepth 100000
namespace Wr
open PySem PySem.Spec PyProof.Rows L2
/-! ### readings, one lemma a construct: what is left to be shown behind it -/
section
variable {σ : L2.St} {H : Hp} {Q : VK} {QB : Bool → Hp → Prop} {QA : List V → Hp → Prop} {D : Ends} {t u : TS} {te ta tb : TE} {tt tu : TT} {i j : Int} {v : V} {K : PySem.W.Frag}
theorem r_seq (h : t { D with nx := u D } σ H) : tSeq t u D σ H := h
theorem r_next (h : D.nx σ H) : tNext D σ H := h
theorem r_asg {g : TG} (h : te σ H fun x H1 => g x σ H1 D.nx) : tAsg te g D σ H := h
theorem r_drop (h : te σ H fun _ H1 => D.nx σ H1) : tDrop te D σ H := h
theorem r_ret (h : te σ H D.rt) : tRet te D σ H := h
theorem r_ifs (h : tt σ H fun b H1 => if b = true then t D σ H1 else u D σ H1) : tIfS tt t u D σ H := h
theorem r_gname {n : Nat} {QS : L2.St → Hp → Prop} (h : QS (σ.set n (some v)) H) : gName n v σ H QS := h
theorem r_gsub {to ti : TE} {s : TSet} {QS : L2.St → Hp → Prop} (h : to σ H fun o H1 => ti σ H1 fun i H2 => s o i v H2 fun H3 => QS σ H3) : gSub to ti s v σ H QS := h
theorem r_gtup {n : Nat} {tg : TGs} {a : Addr} {xs : List V} {QS : L2.St → Hp → Prop} (h1 : SqT K H a xs) (h2 : xs.length = n) (h : tg xs σ H QS) : gTup K n tg (.ref a) σ H QS := ⟨a, xs, rfl, h1, h2, h⟩
theorem r_gcons {g : TG} {tg : TGs} {xs : List V} {QS : L2.St → Hp → Prop} (h : g v σ H fun s' H' => tg xs s' H' QS) : gCons g tg (v :: xs) σ H QS := ⟨v, xs, rfl, h⟩
theorem r_gnil {QS : L2.St → Hp → Prop} (h : QS σ H) : gNil [] σ H QS := ⟨rfl, h⟩
theorem r_var {n : Nat} (e : σ[n]? = some (some v)) (h : Q v H) : tVar n σ H Q := ⟨v, e, h⟩
theorem r_c (h : Q v H) : tC v σ H Q := h
theorem r_op {r : R2} (h : ta σ H fun x H1 => tb σ H1 fun y H2 => r x y H2 Q) : tOp r ta tb σ H Q := h
theorem r_un {r : V → Hp → VK → Prop} (h : ta σ H fun x H1 => r x H1 Q) : tUn r ta σ H Q := h
theorem r_I {C : Int → Int → Prop} {g : Int → Int → V} (c : C i j) (h : Q (g i j) H) : rI C g (.int i) (.int j) H Q := ⟨i, j, rfl, rfl, c, h⟩
theorem r_I0 {g : Int → Int → V} (h : Q (g i j) H) : rI0 g (.int i) (.int j) H Q := ⟨i, j, rfl, rfl, h⟩
theorem r_U {g : Int → V} (h : Q (g i) H) : rU g (.int i) H Q := ⟨i, rfl, h⟩
theorem r_test (h : te σ H fun x H1 => ∃ k, x = .bl k ∧ QB k H1) : tTest te σ H QB := h
theorem r_tB (h : te σ H fun x H1 => ∃ k, x = .bl k ∧ QB k H1) : tB te σ H QB := h
theorem r_bl {b : Bool} {F : Bool → Prop} (h : F b) : ∃ k, V.bl b = .bl k ∧ F k := ⟨b, rfl, h⟩
theorem r_and (h : tt σ H fun c H1 => if c = true then tu σ H1 QB else QB false H1) : tAnd tt tu σ H QB := h
theorem r_or (h : tt σ H fun c H1 => if c = true then QB true H1 else tu σ H1 QB) : tOr tt tu σ H QB := h
theorem r_not (h : tt σ H fun c H1 => QB (!c) H1) : tNot tt σ H QB := h
theorem r_andV (h : ta σ H fun x H1 => ∃ c, x = .bl c ∧ if c = true then tb σ H1 Q else Q (.bl false) H1) : tAndV ta tb σ H Q := h
theorem r_orV (h : ta σ H fun x H1 => ∃ c, x = .bl c ∧ if c = true then Q (.bl true) H1 else tb σ H1 Q) : tOrV ta tb σ H Q := h
theorem r_notV (h : ta σ H fun x H1 => ∃ c, x = .bl c ∧ Q (.bl (!c)) H1) : tNotV ta σ H Q := h
theorem r_ife (h : tt σ H fun c H1 => if c = true then ta σ H1 Q else tb σ H1 Q) : tIf tt ta tb σ H Q := h
theorem eq_dint : decide (V.int i = V.int j) = decide (i = j) := by
  by_cases e : i = j
  · rw [e, decide_eq_true rfl, decide_eq_true rfl]
  · rw [decide_eq_false e, decide_eq_false fun z => e (V.int.inj z)]
theorem eq_dbl {a b : Bool} : decide (V.bl a = V.bl b) = (a == b) := by cases a <;> cases b <;> rfl
theorem eq_dstr {a b : Str} : decide (V.str a = V.str b) = decide (a = b) := by
  by_cases e : a = b
  · rw [e, decide_eq_true rfl, decide_eq_true rfl]
  · rw [decide_eq_false e, decide_eq_false fun z => e (V.str.inj z)]
theorem r_eqI (h : Q (.bl (decide (i = j))) H) : rEq (.int i) (.int j) H Q := ⟨rfl, by rw [eq_dint]; exact h⟩
theorem r_neI (h : Q (.bl (!decide (i = j))) H) : rNe (.int i) (.int j) H Q := ⟨rfl, by rw [eq_dint]; exact h⟩
theorem r_eqB {a b : Bool} (h : Q (.bl (a == b)) H) : rEq (.bl a) (.bl b) H Q := ⟨rfl, by rw [eq_dbl]; exact h⟩
theorem r_neB {a b : Bool} (h : Q (.bl (!(a == b))) H) : rNe (.bl a) (.bl b) H Q := ⟨rfl, by rw [eq_dbl]; exact h⟩
theorem r_eqS {a b : Str} (h : Q (.bl (decide (a = b))) H) : rEq (.str a) (.str b) H Q := ⟨rfl, by rw [eq_dstr]; exact h⟩
theorem r_neS {a b : Str} (h : Q (.bl (!decide (a = b))) H) : rNe (.str a) (.str b) H Q := ⟨rfl, by rw [eq_dstr]; exact h⟩
theorem r_ixL {p : Addr} {xs : List V} (h1 : SqL K H p xs) (h2 : atI xs i = some v) (h : Q v H) : rIxL K (.ref p) (.int i) H Q := ⟨p, xs, i, v, rfl, rfl, h1, h2, h⟩
theorem r_ixT {p : Addr} {xs : List V} (h1 : SqT K H p xs) (h2 : atI xs i = some v) (h : Q v H) : rIxT K (.ref p) (.int i) H Q := ⟨p, xs, i, v, rfl, rfl, h1, h2, h⟩
theorem r_setL {p : Addr} {xs : List V} {n : Nat} {QH : Hp → Prop} (h1 : H p = some (.lst xs)) (h2 : ixN xs.length i = some n) (h : QH (upd H p (.lst (xs.set n v)))) : rSetL (.ref p) (.int i) v H QH := ⟨p, xs, i, n, rfl, rfl, h1, h2, h⟩
theorem r_nil (h : QA [] H) : tNil σ H QA := h
theorem r_cons {tr : TA} (h : te σ H fun x H1 => tr σ H1 fun xs H2 => QA (x :: xs) H2) : tCons te tr σ H QA := h
theorem r_cb {r : List V → Hp → VK → Prop} {ts : TA} (h : ts σ H fun vs H1 => r vs H1 Q) : tCB r ts σ H Q := h
theorem r_call {sp : Sp} {dvs : List V} {E : XK} {ts : TA} (h : ts σ H fun vs H1 => sp (vs ++ dvs) H1 Q E) : tCall sp dvs E ts σ H Q := h
theorem r_lst {ts : TA} (h : ts σ H fun xs H1 => xs.length ≤ sizeLine ∧ ∀ p, H1 p = none → Q (.ref p) (upd H1 p (.lst xs))) : tLst ts σ H Q := h
theorem r_tup {ts : TA} (h : ts σ H fun xs H1 => xs.length ≤ sizeLine ∧ ∀ p, H1 p = none → Q (.ref p) (upd H1 p (.tup xs))) : tTup ts σ H Q := h
theorem r_new {n : Nat} {F : Addr → Prop} (h1 : Nat.ble n 1000 = true) (h : ∀ p, H p = none → F p) : n ≤ sizeLine ∧ ∀ p, H p = none → F p := ⟨Nat.le_of_lt (small1000 (Nat.le_of_ble_eq_true h1)), h⟩
theorem r_ite {c : Prop} [Decidable c] {A B : Prop} (h1 : c → A) (h2 : ¬ c → B) : if decide c = true then A else B := by
  by_cases e : c
  · rw [decide_eq_true e]; exact iteT (h1 e)
  · rw [decide_eq_false e]; exact iteF (h2 e)
theorem r_iten {c : Prop} [Decidable c] {A B : Prop} (h1 : ¬ c → A) (h2 : c → B) : if (!decide c) = true then A else B := by
  by_cases e : c
  · rw [decide_eq_true e]; exact iteF (h2 e)
  · rw [decide_eq_false e]; exact iteT (h1 e)
theorem r_iteb {b : Bool} {A B : Prop} (h1 : b = true → A) (h2 : b = false → B) : if b = true then A else B := by
  cases b
  · exact iteF (h2 rfl)
  · exact iteT (h1 rfl)
theorem r_itebn {b : Bool} {A B : Prop} (h1 : b = false → A) (h2 : b = true → B) : if (!b) = true then A else B := by
  cases b
  · exact iteT (h1 rfl)
  · exact iteF (h2 rfl)
theorem iteNT {A B : Prop} (h : B) : if (!true) = true then A else B := iteF h
theorem iteNF {A B : Prop} (h : A) : if (!false) = true then A else B := iteT h
/-- int(n), abs(n), len(list) by words of their own -/
def rInt1 : List V → Hp → VK → Prop := fun xs H Q => ∃ i, xs = [.int i] ∧ Q (.int i) H
def rIntB : List V → Hp → VK → Prop := fun xs H Q => ∃ k, xs = [.bl k] ∧ Q (.int (if k then 1 else 0)) H
def rAbs1 : List V → Hp → VK → Prop := fun xs H Q => ∃ i, xs = [.int i] ∧ Q (.int (if i < 0 then -i else i)) H
def rLenL (K : PySem.W.Frag) : List V → Hp → VK → Prop := fun xs H Q => ∃ p ys, xs = [.ref p] ∧ (SqL K H p ys ∨ SqT K H p ys) ∧ Q (.int ys.length) H
theorem c_int1 {X : Cx} : CallR X (.type "int") rInt1 := fun pins s σ H xs us Q I r h => call_int1 pins s σ H xs us Q I r (Or.inl h)
theorem c_intB {X : Cx} : CallR X (.type "int") rIntB := fun pins s σ H xs us Q I r h => call_int1 pins s σ H xs us Q I r (Or.inr h)
theorem c_abs {X : Cx} : CallR X (.builtin "abs") rAbs1 := call_abs
theorem c_len {X : Cx} : CallR X (.builtin "len") (rLenL X.K) := call_len_seq
theorem r_int1 (h : Q (.int i) H) : rInt1 [.int i] H Q := ⟨i, rfl, h⟩
theorem r_intB {b : Bool} (h : Q (.int (if b then 1 else 0)) H) : rIntB [.bl b] H Q := ⟨b, rfl, h⟩
theorem r_abs1 (h : Q (.int (if i < 0 then -i else i)) H) : rAbs1 [.int i] H Q := ⟨i, rfl, h⟩
theorem r_lenL {p : Addr} {xs : List V} (h1 : SqL K H p xs) (h : Q (.int xs.length) H) : rLenL K [.ref p] H Q := ⟨p, xs, rfl, .inl h1, h⟩
theorem r_lenT {p : Addr} {xs : List V} (h1 : SqT K H p xs) (h : Q (.int xs.length) H) : rLenL K [.ref p] H Q := ⟨p, xs, rfl, .inr h1, h⟩
theorem r_bm {T : String} {r : V → List V → Hp → VK → Prop} {to : TE} {ts : TA} (h : to σ H fun x H1 => tyV K T x H1 ∧ ts σ H1 fun xs H2 => r x xs H2 Q) : tBM K T r to ts σ H Q := h
theorem r_tyL {p : Addr} {xs : List V} {A : Prop} (h1 : SqL K H p xs) (h : A) : tyV K "list" (.ref p) H ∧ A := ⟨Or.inl ⟨rfl, xs, h1⟩, h⟩
theorem r_app {p : Addr} {xs : List V} (h1 : H p = some (.lst xs)) (h2 : xs.length < sizeLine) (h : Q .non (upd H p (.lst (xs ++ [v])))) : rAppend (.ref p) [v] H Q := ⟨p, xs, v, rfl, rfl, h1, h2, h⟩
theorem r_isi {x c : V} {tv uv : Value} {b : Bool} (h1 : ClsV c uv) (h2 : TyX K H x tv) (h3 : PySem.W.kitOne K tv uv = some b) (h : Q (.bl b) H) : rIsi K [x, c] H Q := ⟨x, c, tv, uv, b, rfl, h1, h2, h3, h⟩
end
theorem bit_ok {b : Bool} : -(2 ^ 64) < (if b then (1 : Int) else 0) ∧ (if b then (1 : Int) else 0) < 2 ^ 64 := by cases b <;> decide
def kAt (ns : List Int) (i : Nat) : Int := ns.getD i 0
theorem ati_n {ns : List Int} {j : Nat} (h : j < ns.length) : atI (ns.map V.int) (j : Int) = some (.int (kAt ns j)) := atI_nat (by
  rw [List.getElem?_map, List.getElem?_eq_getElem h]
  show some (V.int ns[j]) = _
  rw [kAt, List.getD_eq_getElem?_getD, List.getElem?_eq_getElem h]
  rfl)
theorem ati_int {ns : List Int} {i : Int} (h0 : 0 ≤ i) (h1 : i < ns.length) : atI (ns.map V.int) i = some (.int (kAt ns i.toNat)) := by
  have e := ati_n (ns := ns) (j := i.toNat) (by omega)
  rw [Int.toNat_of_nonneg h0] at e
  exact e
theorem ati_last {ns : List Int} (h : 0 < ns.length) : atI (ns.map V.int) (-1) = some (.int (kAt ns (ns.length - 1))) := by
  unfold atI ixN
  rw [if_neg (by decide), if_pos (by rw [List.length_map]; omega), List.length_map]
  show (ns.map V.int)[((-1 : Int) + ns.length).toNat]? = _
  rw [show ((-1 : Int) + ns.length).toNat = ns.length - 1 by omega, List.getElem?_map, List.getElem?_eq_getElem (by omega)]
  rw [kAt, List.getD_eq_getElem?_getD, List.getElem?_eq_getElem (by omega)]
  rfl
theorem ixn_in {n : Nat} {i : Int} (h0 : 0 ≤ i) (h1 : i < n) : ixN n i = some i.toNat := by
  unfold ixN
  rw [if_pos h0, if_pos h1]
theorem same_new {H : Hp} {p : Addr} {o : HO} (h : H p = none) : Same H (upd H p o) := fun b x e => by
  rw [upd_ne (ne_of_none e h)]
  exact e
theorem nox_K {CX : CXT} {P : Program} {w : World} {K : PySem.W.Frag} {mg : Str → Option Value} {base : Heap} {N : List Str} {qual : Str} {sc : Scope} {f : Addr} {cd : Value} {A : Around} {outer : List Env} {s : Shared} {H : Hp} {E : XK} : (cxOf CX P w K mg base N qual sc f cd A outer s H E).nox.K = K := rfl
theorem cx_K {CX : CXT} {P : Program} {w : World} {K : PySem.W.Frag} {mg : Str → Option Value} {base : Heap} {N : List Str} {qual : Str} {sc : Scope} {f : Addr} {cd : Value} {A : Around} {outer : List Env} {s : Shared} {H : Hp} {E : XK} : (cxOf CX P w K mg base N qual sc f cd A outer s H E).K = K := rfl
section
variable {H : Hp} {Q : VK} {i j : Int} {K : PySem.W.Frag}
/-- % and // and * that hand on a letter -/
theorem r_mod (c : 0 < j) (h : ∀ k : Int, 0 ≤ k → k < j → k = i % j → Q (.int k) H) : rI (fun _ j => 0 < j) (fun i j => .int (i % j)) (.int i) (.int j) H Q :=
  ⟨i, j, rfl, rfl, c, h _ (Int.emod_nonneg _ (by omega)) (Int.emod_lt_of_pos _ c) rfl⟩
theorem r_fdiv (c : 0 < j) (c2 : j < 2 ^ 200) (h : ∀ k : Int, (0 ≤ i → 0 ≤ k) → k = i / j → Q (.int k) H) : rI CDivW (fun i j => .int (i / j)) (.int i) (.int j) H Q :=
  ⟨i, j, rfl, rfl, wide_div (b := 201) c (by omega) (by decide) (by decide), h _ (fun z => Int.ediv_nonneg z (by omega)) rfl⟩
theorem r_mul (c : CMul i j) (h : ∀ k : Int, k = i * j → Q (.int k) H) : rI CMul (fun i j => .int (i * j)) (.int i) (.int j) H Q := ⟨i, j, rfl, rfl, c, h _ rfl⟩
theorem r_lenI {p : Addr} {ns : List Int} (h1 : H p = some (.lst (ns.map V.int))) (h : Q (.int ns.length) H) : rLenL K [.ref p] H Q := ⟨p, _, rfl, .inl (.inl (.inl h1)), by rw [List.length_map]; exact h⟩
end
theorem bl_to {a b : Bool} {Q : VK} {H : Hp} (q : Q (.bl b) H) (e : a = b) : Q (.bl a) H := e ▸ q
/-! ### comprehensions by words of their own -/
def lcGo (J : It) (g : TG) (tt : TT) (te : TE) (vs : List Nat) (σ : L2.St) (Q : VK) (H1 : Hp) : Prop :=
  ∀ D, H1 D = none → ∃ W : Nat → Nat → Hp → Prop, (∃ m, W 0 m (upd H1 D (.lst []))) ∧
    ∀ i m H, W i m H → (J.stop i H ∧ Q (.ref D) H) ∨
      (J.go i H ∧ ∃ Nx : Hp → Prop, (∀ H', Nx H' → ∃ m', m' < m ∧ W (i + 1) m' H') ∧
        ∀ x H', J.yld i H x H' → g x (wipe σ vs) H' fun σ2 H2 => wipe σ2 vs = wipe σ vs ∧ tt σ2 H2 fun b H3 =>
          if b = true then te σ2 H3 fun y H4 => ∃ acc, H4 D = some (.lst acc) ∧ acc.length < sizeLine ∧ Nx (upd H4 D (.lst (acc ++ [y]))) else Nx H3)
section
variable {σ : L2.St} {H : Hp} {Q : VK} {te tl : TE} {K : PySem.W.Frag} {a : Addr} {xs : List V}
theorem r_lc {wi : TI} {g : TG} {tt : TT} {vs : List Nat} (h : wi σ H fun J H1 => lcGo J g tt te vs σ Q H1) : tLc wi g tt te vs σ H Q := h
theorem r_il {R : It → Hp → Prop} (h : tl σ H fun x H1 => ∃ a, x = .ref a ∧ (∃ xs, SqL K H1 a xs) ∧ R (Itl K a) H1) : iList K tl σ H R := h
theorem r_it {R : It → Hp → Prop} (h : tl σ H fun x H1 => ∃ a, x = .ref a ∧ (∃ xs, SqT K H1 a xs) ∧ R (Itt K a) H1) : iTup K tl σ H R := h
theorem r_itl {F : Addr → Prop} (hS : SqL K H a xs) (h : F a) : ∃ b, V.ref a = .ref b ∧ (∃ xs, SqL K H b xs) ∧ F b := ⟨a, rfl, ⟨xs, hS⟩, h⟩
theorem r_itt {F : Addr → Prop} (hS : SqT K H a xs) (h : F a) : ∃ b, V.ref a = .ref b ∧ (∃ xs, SqT K H b xs) ∧ F b := ⟨a, rfl, ⟨xs, hS⟩, h⟩
theorem r_rng1 {ta : TA} {R : It → Hp → Prop} (h : ta σ H fun vs H1 => ∃ j : Int, vs = [.int j] ∧ -(2 ^ 62) ≤ j ∧ j < 2 ^ 62 ∧ R (Itr 0 j.toNat) H1) : iRng1 ta σ H R := h
theorem r_rng2 {ta : TA} {R : It → Hp → Prop} (h : ta σ H fun vs H1 => ∃ i j : Int, vs = [.int i, .int j] ∧ (-(2 ^ 62) ≤ i ∧ i < 2 ^ 62 ∧ -(2 ^ 62) ≤ j ∧ j < 2 ^ 62) ∧ R (Itr i (j - i).toNat) H1) : iRng2 ta σ H R := h
theorem r_upto {j : Int} {F : Int → Prop} (h1 : -1000000 ≤ j) (h2 : j ≤ 1000000) (h : F j) : ∃ k : Int, [V.int j] = [.int k] ∧ -(2 ^ 62) ≤ k ∧ k < 2 ^ 62 ∧ F k := ⟨j, rfl, by omega, by omega, h⟩
theorem r_from {i j : Int} {F : Int → Int → Prop} (h0 : -1000000 ≤ i ∧ i ≤ 1000000) (h1 : -1000000 ≤ j ∧ j ≤ 1000000) (h : F i j) : ∃ i' j' : Int, [V.int i, V.int j] = [.int i', .int j'] ∧ (-(2 ^ 62) ≤ i' ∧ i' < 2 ^ 62 ∧ -(2 ^ 62) ≤ j' ∧ j' < 2 ^ 62) ∧ F i' j' := ⟨i, j, rfl, by omega, h⟩
theorem r_for {wi : TI} {g : TG} {tb : TS} {D : Ends} (h : wi σ H fun J H1 => ∃ W : Nat → Nat → L2.St → Hp → Prop, (∃ m, W 0 m σ H1) ∧ ∀ i m σ H, W i m σ H →
      (J.stop i H ∧ D.nx σ H) ∨ (J.go i H ∧ ∃ N : L2.St → Hp → Prop, (∀ σ' H', N σ' H' → ∃ m', m' < m ∧ W (i + 1) m' σ' H') ∧
        ∀ x H', J.yld i H x H' → g x σ H' fun σ2 H2 => tb { D with nx := N, ct := N, bk := D.nx } σ2 H2)) : tFor wi g tb D σ H := h
theorem wipe1 {n : Nat} {x : V} : wipe ((wipe σ [n]).set n (some x)) [n] = wipe σ [n] := by
  show ((σ.set n none).set n (some x)).set n none = σ.set n none
  rw [List.set_set, List.set_set]
/-- [e for x in xs], e a value by a function of x, the heap only grows aside -/
theorem lc_map {n : Nat} (f : V → V) (hS : SqL K H a xs) (hz : xs.length ≤ 1000) (he : ∀ (x : V) (H' : Hp) (QQ : VK), x ∈ xs → Same H H' → QQ (f x) H' → te ((wipe σ [n]).set n (some x)) H' QQ)
    (hq : ∀ D, H D = none → Q (.ref D) (upd H D (.lst (xs.map f)))) : lcGo (Itl K a) (gName n) tYes te [n] σ Q H := by
  intro D hD
  refine lc_list (K := K) (a := a) (xs := xs) (fun i H' => H' = upd H D (.lst ((xs.take i).map f))) rfl (fun i H' _ e => by subst e; exact (same_new hD).seq hS) ?_ ?_
  · rintro i x H' hx rfl
    refine ⟨wipe1, ?_⟩
    show te _ _ _
    refine he x _ _ (List.mem_of_getElem? hx) (same_new hD) ⟨(xs.take i).map f, upd_same, ?_, ?_⟩
    · rw [List.length_map, List.length_take]
      exact small1000 (by omega)
    · rw [upd_upd, List.take_add_one, hx, List.map_append]
      rfl
  · rintro H' rfl
    rw [List.take_length]
    exact hq D hD
end
section
variable {σ : L2.St} {H : Hp} {Q : VK} {te : TE} {K : PySem.W.Frag} {QO : Option Int → Hp → Prop}
theorem r_sl {r : V → Option Int → Option Int → Hp → VK → Prop} {tl th : TO} (h : te σ H fun x H1 => tl σ H1 fun l H2 => th σ H2 fun u H3 => r x l u H3 Q) : tSl r te tl th σ H Q := h
theorem r_np (h : QO none H) : tNoPart σ H QO := h
theorem r_pt (h : te σ H fun x H1 => ∃ i, x = .int i ∧ QO (some i) H1) : tPart te σ H QO := h
theorem r_pti {i : Int} {F : Int → Prop} (h : F i) : ∃ k, V.int i = .int k ∧ F k := ⟨i, rfl, h⟩
theorem r_slL {a : Addr} {xs : List V} {lo hi : Option Int} (hS : SqL K H a xs) (h : ∀ p, H p = none → Q (.ref p) (upd H p (.lst (cutV xs lo hi)))) : rSlL K (.ref a) lo hi H Q := ⟨a, xs, rfl, hS, h⟩
end
theorem cut_none {xs : List V} {n : Nat} (h : xs.length ≤ n) : cutV xs none (some (n : Int)) = xs := by
  unfold cutV
  rw [HT.sIx_none, show HT.sIx xs.length xs.length (some (n : Int)) = min n xs.length from HT.sIx_nat xs.length xs.length n]
  rw [List.drop_zero, Nat.sub_zero, Nat.min_eq_right h, List.take_length]
/-! ### the draws of a script -/
structure Drw (H : Hp) (d c r : Addr) : Prop where
  dc : d ≠ c
  dr : d ≠ r
  cr : c ≠ r
  ex : ∃ (ns rs : List Int) (t : Int), H d = some (.lst [.ref c, .ref r, .int t]) ∧ H c = some (.lst (ns.map V.int)) ∧ H r = some (.lst (rs.map V.int)) ∧ ns.length = rs.length ∧ 0 < ns.length ∧ 0 ≤ t ∧ ∀ x ∈ rs, 0 ≤ x
def Ext (d r : Addr) (H H' : Hp) : Prop := ∀ b o, H b = some o → b ≠ d → b ≠ r → H' b = some o
theorem Ext.refl {d r : Addr} {H : Hp} : Ext d r H H := fun _ _ e _ _ => e
theorem Ext.trans {d r : Addr} {H H1 H2 : Hp} (a : Ext d r H H1) (b : Ext d r H1 H2) : Ext d r H H2 := fun x o e n1 n2 => b x o (a x o e n1 n2) n1 n2
theorem Ext.of {d r : Addr} {H H' : Hp} (s : Same H H') : Ext d r H H' := fun b o e _ _ => s b o e
theorem Drw.same {H H' : Hp} {d c r : Addr} (D : Drw H d c r) (s : Same H H') : Drw H' d c r := by
  obtain ⟨dc, dr, cr, ns, rs, t, h1, h2, h3, h⟩ := D
  exact ⟨dc, dr, cr, ns, rs, t, s _ _ h1, s _ _ h2, s _ _ h3, h⟩
theorem Drw.new {H : Hp} {d c r p : Addr} {o : HO} (D : Drw H d c r) (h : H p = none) : Drw (upd H p o) d c r := D.same (same_new h)
theorem Drw.ned {H : Hp} {d c r p : Addr} (D : Drw H d c r) (h : H p = none) : p ≠ d := by
  obtain ⟨_, _, _, _, _, _, h1, _⟩ := D
  exact (ne_of_none h1 h).symm
theorem Drw.ner {H : Hp} {d c r p : Addr} (D : Drw H d c r) (h : H p = none) : p ≠ r := by
  obtain ⟨_, _, _, _, _, _, _, _, h1, _⟩ := D
  exact (ne_of_none h1 h).symm
theorem Drw.nec {H : Hp} {d c r p : Addr} (D : Drw H d c r) (h : H p = none) : p ≠ c := by
  obtain ⟨_, _, _, _, _, _, _, h1, _⟩ := D
  exact (ne_of_none h1 h).symm
theorem getD_left {xs : List Int} {y : Int} {i : Nat} (h : i < xs.length) : (xs ++ [y]).getD i 0 = xs.getD i 0 := by
  rw [List.getD_eq_getElem?_getD, List.getD_eq_getElem?_getD, List.getElem?_append_left h]
theorem getD_end {xs : List Int} {y : Int} : (xs ++ [y]).getD xs.length 0 = y := by
  rw [List.getD_eq_getElem?_getD, List.getElem?_append_right (Nat.le_refl _), Nat.sub_self]
  rfl
theorem Drw.back {H H' : Hp} {d c r p : Addr} (D : Drw H d c r) (e : Ext d r H H') (h : H' p = none) (D' : Drw H' d c r := by assumption) : H p = none := by
  cases q : H p with
  | none => rfl
  | some o =>
    have z := e p o q (D'.ned h) (D'.ner h)
    rw [h] at z
    cases z
theorem Drw.put {H : Hp} {d c r p : Addr} {o : HO} (D : Drw H d c r) (h1 : p ≠ d) (h2 : p ≠ r) (h3 : p ≠ c) : Drw (upd H p o) d c r := by
  obtain ⟨dc, dr, cr, ns, rs, t, g1, g2, g3, h⟩ := D
  exact ⟨dc, dr, cr, ns, rs, t, (upd_ne h1.symm).trans g1, (upd_ne h3.symm).trans g2, (upd_ne h2.symm).trans g3, h⟩
def spDraw : Sp := fun vs H Q _ => ∃ (d c r : Addr) (m : Int), vs = [.ref d, .int m] ∧ Drw H d c r ∧ 0 < m ∧ m < 2 ^ 200 ∧ ∀ (k : Int) (H' : Hp), 0 ≤ k → k < m → Drw H' d c r → Ext d r H H' → Q (.int k) H'
def spBegin (K : PySem.W.Frag) : Sp := fun vs H Q _ => ∃ (a : Addr) (ns : List Int), vs = [.ref a] ∧ SqL K H a (ns.map V.int) ∧ ns.length ≤ 63 ∧
  ∀ (d c r : Addr) (H' : Hp), Drw H' d c r → Same H H' → H d = none → H c = none → H r = none → Q (.ref d) H'
def restOf (v : V) : V := match v with
  | .int x => .int ((if x < 0 then -x else x) * (if decide ((10 : Int) ^ 18 ≤ (if x < 0 then -x else x)) then 1 else 0))
  | w => w
def restI (x : Int) : Int := (if x < 0 then -x else x) * (if decide ((10 : Int) ^ 18 ≤ (if x < 0 then -x else x)) then 1 else 0)
theorem rest_map (ns : List Int) : (ns.map V.int).map restOf = (ns.map restI).map V.int := by
  rw [List.map_map, List.map_map]
  rfl
theorem rest_nn (x : Int) : 0 ≤ restI x := by
  unfold restI
  refine Int.mul_nonneg ?_ ?_
  · split <;> omega
  · split <;> omega
/-! ### calls by keywords alone -/
section
variable {X : Cx} {CX : CXT} {k : Nat} {f : Addr} {fd : FuncData} {ps ks : List Str} {sp : Sp} {E : XK} {x : Str} {p pos : Pos} {kws : List Keyword} {tk : TA} {g : List Value → List Value → List Value} {gV : List V → List V → List V}
theorem pe_callN0 (F : FnOk X.prog X.w X.K X.mg X.base CX k f fd ps sp) (hr : Room k X.A) (hg : Gl X x) (hm : X.mg x = some (.ref f)) (hk : PySem.W.keepIn X.K (.ref f) = true) (hb : KBn X.K fd ps 0 ks g gV) (hx : Passes CX X E) (hkw : PK X kws tk)
    (hall : (backToKw pos (keywordEach kws X.env)).all (fun q => q.1.isSome) = true := by rfl) (hks : (backToKw pos (keywordEach kws X.env)).filterMap (fun q => q.1) = ks := by rfl) (hdb : (x == ("__debug__" : Str)) = false := by decide)
    (hpl : ((backTo pos (starEach [] X.env)).any (fun q => q.1) || (backToKw pos (keywordEach kws X.env)).any (fun q => q.1.isNone)) = false := by rfl) :
    PE X (.Call (.Name x p) [] kws pos) (tCallN 0 ks.length sp gV E tNil tk) := by
  refine ⟨fun pins s σ H Q I h => wpAny_Call_Name_kw (ld_glob I hg hm ?_ hdb)⟩
  refine PySem.W.callWith_KW0 (h₀ := X.base) I.ok.mod.kin hk hall (thn (hkw.run pos pins s σ H _ I h) fun ws s2 hh => ?_) hpl
  obtain ⟨zs, H2, I2, rz, l1, l2, q2⟩ := hh
  refine ⟨I2.kIn, ?_⟩
  rw [hks]
  exact run_fnN (us := []) (vs := []) F hr hb hx I2 .nil rz rfl l2 q2
theorem r_callN {n m : Nat} {ts : TA} {σ : L2.St} {H : Hp} {Q : VK} (h : ts σ H fun vs H1 => tk σ H1 fun zs H2 => vs.length = n ∧ zs.length = m ∧ sp (gV vs zs) H2 Q E) : tCallN n m sp gV E ts tk σ H Q := h
end
theorem kb_mk {K : PySem.W.Frag} {x qual : Str} {st : Stmt} {f : Addr} {fd : FuncData} {ps ks : List Str} {g : List Value → List Value → List Value} {gV : List V → List V → List V} (F : Fun K x qual st f fd)
    (h : ∀ (kV doc pm : Value) (an : Option Addr) (cdv ct : Value) (ws : List Value), ws.length = ks.length → bindArgs (PySem.W.fnOf x qual (defArgs st) (defBody st) (defScope st) .none kV doc pm an cdv ct) ⟨[], ks.zip ws⟩ = pure (ps.zip (g [] ws)))
    (hrel : ∀ {vs : List V} {us : List Value} {zs : List V} {ws : List Value}, Vals vs us → Vals zs ws → Vals (gV vs zs) (g us ws)) : KBn K fd ps 0 ks g gV := by
  obtain ⟨oc, od, kV, doc, pm, an, cdv, ct, osl, rfl, lk, hcd⟩ := F.ex
  refine ⟨fun s us ws _ l1 l2 => ?_, hrel⟩
  have e : us = [] := List.length_eq_zero_iff.mp l1
  subst e
  exact .of_eq (h kV doc pm an cdv ct ws l2)
section
variable {σ : L2.St} {H : Hp} {D : Ends} {ta : TA}
theorem r_par {i j : Nat} (h : ta σ H fun vs H1 => ∃ v w, vs = [v, w] ∧ D.nx ((σ.set i (some v)).set j (some w)) H1) : tPar i j ta D σ H := h
theorem r_par3 {i j l : Nat} (h : ta σ H fun vs H1 => ∃ u v w, vs = [u, v, w] ∧ D.nx (((σ.set i (some u)).set j (some v)).set l (some w)) H1) : tPar3 i j l ta D σ H := h
theorem r_two {a b : V} {F : V → V → Prop} (h : F a b) : ∃ v w, [a, b] = [v, w] ∧ F v w := ⟨a, b, rfl, h⟩
theorem r_three {a b c : V} {F : V → V → V → Prop} (h : F a b c) : ∃ u v w, [a, b, c] = [u, v, w] ∧ F u v w := ⟨a, b, c, rfl, h⟩
end
/-- [e for x in range(..)], e draws -/
theorem lc_draws {σ : L2.St} {H : Hp} {Q : VK} {te : TE} {n m : Nat} {lo : Int} {d c r : Addr} {P : Int → Prop} (hm : m ≤ 1000) (D0 : Drw H d c r)
    (he : ∀ (i : Nat) (H' : Hp) (QQ : VK), i < m → Drw H' d c r → Ext d r H H' → (∀ (k : Int) (H'' : Hp), P k → Drw H'' d c r → Ext d r H' H'' → QQ (.int k) H'') → te ((wipe σ [n]).set n (some (.int (lo + i)))) H' QQ)
    (hq : ∀ (l : Addr) (ss : List Int) (H' : Hp), ss.length = m → (∀ x ∈ ss, P x) → H l = none → H' l = some (.lst (ss.map V.int)) → Drw H' d c r → Ext d r H H' → Q (.ref l) H') : lcGo (Itr lo m) (gName n) tYes te [n] σ Q H := by
  intro l nl
  have ld := D0.ned nl
  have lr := D0.ner nl
  have lc := D0.nec nl
  refine lc_range (fun i H' => ∃ ss : List Int, ss.length = i ∧ (∀ x ∈ ss, P x) ∧ H' l = some (.lst (ss.map V.int)) ∧ Drw H' d c r ∧ Ext d r H H') ⟨[], rfl, fun x hx => (nomatch hx), upd_same, D0.new nl, Ext.of (same_new nl)⟩ ?_ ?_
  · rintro i H' hi ⟨ss, hl, hp, hs, D1, E1⟩
    refine ⟨wipe1, ?_⟩
    show te _ _ _
    refine he i H' _ hi D1 E1 fun k H'' hk D2 E2 => ⟨ss.map V.int, E2 _ _ hs ld lr, ?_, ?_⟩
    · rw [List.length_map]
      exact small1000 (by omega)
    · refine ⟨ss ++ [k], by rw [List.length_append, hl]; rfl, fun x hx => ?_, by rw [upd_same, List.map_append]; rfl, D2.put ld lr lc, fun b o e n1 n2 => ?_⟩
      · rcases List.mem_append.mp hx with z | z
        · exact hp x z
        · rw [List.mem_singleton.mp z]; exact hk
      · rw [upd_ne (ne_of_none e nl)]
        exact E2 b o (E1 b o e n1 n2) n1 n2
  · rintro H' ⟨ss, hl, hp, hs, D1, E1⟩
    exact hq l ss H' hl hp nl hs D1 E1
/-! ### operators of own classes: by the class's own def -/
section
open PySem.W
variable {prog : Program} {w : World} {A : Around} {E : Value → Shared → Prop} {s : Shared} {K : PySem.W.Frag} {x C f : Addr} {ox : Obj} {od : Option Obj} {b tb : Value}
theorem check_obj {M : Model} {rest : List Value} {Q : Unit → Shared → Prop} (X : K.In s.heap) (I : InstAt s.heap x ox C od) (hob : subIn K (.ref C) (.type "object") = some true) (ha : argsOk "object.__ne__" ⟨.ref x :: rest, []⟩) (hq : Q () s) :
    wpAny M A (checkBuiltinCall "object.__ne__" ⟨.ref x :: rest, []⟩) Q E s := by
  simp only [checkBuiltinCall, F.cmpKind_ne, F.cmpSplit_ne]
  refine wpAny_bind ?_
  unfold isInstance
  refine wpAny_bind (I.type.here ((looks_subIn X hob).here ?_))
  simp only [Bool.not_true, Bool.false_eq_true, if_false]
  cases hsig : Manifest.signature? "object.__ne__" with
  | none => exact wpAny_pure hq
  | some sig =>
    simp only [argsOk, hsig] at ha
    show wpAny M A (Bind.checkArgs "object.__ne__" sig ⟨.ref x :: rest, []⟩) Q E _
    rw [show Bind.checkArgs "object.__ne__" sig ⟨.ref x :: rest, []⟩ = pure () from ha]
    exact wpAny_pure hq
theorem bound_ne {M : Model} {args : List Value} {Q : Option Value → Shared → Prop} (X : K.In s.heap) (I : InstAt s.heap x ox C od) (hs : findIn K (.ref C) "__ne__" = some (some (.builtin "object.__ne__")))
    (h : wpAny M A (call (.builtin "object.__ne__") (.ref x :: args)) (fun v => Q (some v)) E s) : wpAny M A (callSpecialIfBound? (.ref x) "__ne__" args) Q E s := by
  simp only [callSpecialIfBound?, bindSpecialIfBound?]
  have hb : bindSpecial (.builtin "object.__ne__") (.ref x) = pure (.builtin "object.__ne__", [.ref x]) := F.cmp_object.ne.bind _
  have fin : wpAny M A (call (.builtin "object.__ne__") ([.ref x] ++ args) >>= fun v => pure (some v)) Q E s := wpAny_bind (wpAny_mono h (fun v s' h' => wpAny_pure h') fun _ _ h' => h')
  refine wpAny_holding (wpAny_bind (wpAny_bind (wpAny_bind (I.type.here ((looks_findIn X hs).here ?_)))))
  refine wpAny_bind (wpAny_askSetting (wpAny_ite ?_))
  rw [hb]
  split
  · exact wpAny_bind (wpAny_pure (wpAny_pure (by exact fin)))
  · exact wpAny_tryCatch (wpAny_bind (wpAny_pure (wpAny_pure (by exact fin))))
theorem ne_own {Q : Value → Shared → Prop} (hu : A.units + 1 < cLine) (X : K.In s.heap) (I : InstAt s.heap x ox C od) (hb : Looks (model prog w) s.heap (typeOf b) tb) (hn : notFirst K C tb = true)
    (hne : findIn K (.ref C) "__ne__" = some (some (.builtin "object.__ne__"))) (hob : subIn K (.ref C) (.type "object") = some true) (hs : findIn K (.ref C) "__eq__" = some (some (.ref f))) (hf : isFn K (.ref f) = true)
    (h : wpAny (model prog w) A.in1 (call (.ref f) [.ref x, b]) (fun v s' => ∃ k, v = .bool k ∧ Q (.bool (!k)) s') E s) : wpAny (model prog w) A (richCompare .NotEq (.ref x) b) Q E s := by
  have one : wpAny (model prog w) A (tryCompare (.ref x) (cmpInfo .NotEq).2.1 b) (fun r s' => ∃ v, r = some v ∧ Q v s') E s := by
    unfold tryCompare
    refine wpAny_bind (bound_ne X I hne (wpAny_call (codeAny_call_builtin F.cmp_object.ne.plain F.cmpEntry_ne (check_obj X I hob (F.cmpArgs_ne _ _) ?_))))
    unfold Builtin.«object.__ne__»
    repeat (first
      | with_reducible refine wpAny_cRoomFor hu ?_
      | (refine wpAny_bind (m := callSpecialIfBound? (.ref x) (Str.ofString "__eq__") [b])
          (ifBound_K X I hs hf (wpAny_mono h (fun r s' hr => by
            obtain ⟨k, rfl, hq⟩ := hr
            repeat (first | exact wpAny_pure ⟨_, rfl, hq⟩ | (refine wpAny_bind (m := truthy (.bool _)) (wpAny_truthy_bool ?_)) | wp_step)) fun _ _ e => e)))
      | wp_step)
  unfold richCompare
  simp only [oneThing_ref]
  refine wpAny_holding (wpAny_bind (wpAny_cRoomFor (Nat.lt_of_succ_lt hu) ?_))
  refine wpAny_bind (I.type.here (wpAny_bind (hb.here ?_)))
  split
  · rename_i q
    have e : subIn K tb (.ref C) = some false := by
      rcases Bool.or_eq_true_iff.mp hn with e | e
      · rw [beq_iff_eq.mp e] at q; simp at q
      · exact beq_iff_eq.mp e
    refine wpAny_bind ((looks_subIn X e).here ?_)
    simp only [Bool.false_eq_true, if_false]
    refine wpAny_bind (wpAny_mono one (fun r s' z => ?_) fun _ _ e => e)
    obtain ⟨v, rfl, hq⟩ := z
    exact wpAny_pure hq
  · refine wpAny_bind (wpAny_pure ?_)
    simp only [Bool.false_eq_true, if_false]
    refine wpAny_bind (wpAny_mono one (fun r s' z => ?_) fun _ _ e => e)
    obtain ⟨v, rfl, hq⟩ := z
    exact wpAny_pure hq
theorem neg_own {M : Model} {Q : Value → Shared → Prop} (X : K.In s.heap) (I : InstAt s.heap x ox C od) (hs : findIn K (.ref C) "__neg__" = some (some (.ref f))) (hf : isFn K (.ref f) = true)
    (h : wpAny M A (call (.ref f) [.ref x]) Q E s) : wpAny M A (unaryOp .USub (.ref x)) Q E s := by
  unfold unaryOp
  refine wpAny_holding ?_
  dsimp only
  rw [if_neg (by decide)]
  exact wpAny_bind (special_fn X I hs (beq_iff_eq.mp hf) (wpAny_mono h (fun _ _ z => wpAny_pure z) fun _ _ z => z))
end
section
variable {X : Cx} {CX : CXT} {k : Nat} {g C : Addr} {fd : FuncData} {ps : List Str} {sp : Sp} {E : XK}
theorem cmpb {P : Value → Shared → Prop} {z : V} {v : Value} {s' : Shared} (r : RelV z v) (h : P v s') : PySem.W.CmpBack P v s' := by
  cases z with
  | non => cases (show v = Value.none from r); exact h
  | bl b => cases (show v = Value.bool b from r); exact h
  | int i => obtain ⟨t, rfl⟩ := (show ∃ t, v = Value.int i t from r); exact h
  | str x => obtain ⟨t, rfl⟩ := (show ∃ t, v = Value.str x t from r); exact h
  | byt b => obtain ⟨t, rfl⟩ := (show ∃ t, v = Value.bytes b t from r); exact h
  | flt b => obtain ⟨t, rfl⟩ := (show ∃ t, v = Value.float b t from r); exact h
  | ref a => cases (show v = Value.ref a from r); exact h
  | ty n => cases (show v = Value.type n from r); exact h
/-- what an own operator of the class at C asks: the left one is an instance, the right one's type is known and not below C -/
def rCmpO (K : PySem.W.Frag) (C : Addr) (sp : Sp) (E : XK) : R2 := fun x y H Q => ∃ a dx fs t, x = .ref a ∧ H a = some (.ins C dx fs) ∧ TyX K H y t ∧ PySem.W.notFirst K C t = true ∧ sp [x, y] H Q E
def rNeO (K : PySem.W.Frag) (C : Addr) (sp : Sp) (E : XK) : R2 := fun x y H Q => ∃ a dx fs t, x = .ref a ∧ H a = some (.ins C dx fs) ∧ TyX K H y t ∧ PySem.W.notFirst K C t = true ∧ sp [x, y] H (fun v H' => ∃ b, v = .bl b ∧ Q (.bl (!b)) H') E
def rAddO (C : Addr) (sp : Sp) (E : XK) : R2 := fun x y H Q => ∃ a dx fs b dy gs, x = .ref a ∧ y = .ref b ∧ H a = some (.ins C dx fs) ∧ H b = some (.ins C dy gs) ∧ sp [x, y] H Q E
def rNegO (C : Addr) (sp : Sp) (E : XK) : V → Hp → VK → Prop := fun x H Q => ∃ a dx fs, x = .ref a ∧ H a = some (.ins C dx fs) ∧ sp [x] H Q E
theorem inst_at {pins : List (Addr × Obj)} {σ : L2.St} {H : Hp} {s : Shared} {a dx : Addr} {fs : List (Str × V)} (I : Inv X pins σ H s) (h : H a = some (.ins C dx fs)) : ∃ ox od, PySem.W.InstAt s.heap a ox C od := by
  obtain ⟨mA, O, _⟩ := ins_get I.hok h
  obtain ⟨od, J, _⟩ := O.look
  exact ⟨_, _, J⟩
theorem op_cmpO {op : CmpOp} (hop : ∀ a b, compareOp op a b = richCompare op a b) (hs : PySem.W.findIn X.K (.ref C) (cmpInfo op).2.1 = some (some (.ref g))) (hf : PySem.W.isFn X.K (.ref g) = true) (F : FnOk X.prog X.w X.K X.mg X.base CX k g fd ps sp) (hr : Room k X.A) (hb : Binds X.K fd ps []) (hx : Passes CX X E) :
    OpR X (compareOp op) (rCmpO X.K C sp E) := by
  intro pins s σ H x y v u Q I rx ry h
  obtain ⟨a, dx, fs, t, rfl, ha, ty, hn, q⟩ := h
  cases (show v = Value.ref a from rx)
  obtain ⟨ox, od, J⟩ := inst_at I ha
  obtain ⟨P, Z, p, _⟩ := kit_of I ry ty
  obtain ⟨m, hF⟩ := I.fr
  rw [hop]
  refine PySem.W.cmp_K (op := op) (tb := t) hr.units0 hF I.ok.mod.kin J (Z.ty _ _ I.kIn p) hn hs hf ?_
  refine wpAny_mono (run_fn (ds := []) (dvs := []) (vs := [.ref a, y]) F hr hb .nil hx I (.cons rfl (.cons ry .nil)) (by rw [List.append_nil]; exact q)) (fun w s' z => ?_) fun _ _ e => e
  obtain ⟨z', H', I', rz, qz⟩ := z
  exact cmpb rz ⟨z', H', I', rz, qz⟩
theorem op_eqO (hs : PySem.W.findIn X.K (.ref C) "__eq__" = some (some (.ref g))) (hf : PySem.W.isFn X.K (.ref g) = true) (F : FnOk X.prog X.w X.K X.mg X.base CX k g fd ps sp) (hr : Room k X.A) (hb : Binds X.K fd ps []) (hx : Passes CX X E) :
    OpR X (compareOp .Eq) (rCmpO X.K C sp E) := op_cmpO (fun _ _ => rfl) hs hf F hr hb hx
theorem op_neO (hs : PySem.W.findIn X.K (.ref C) "__eq__" = some (some (.ref g))) (hf : PySem.W.isFn X.K (.ref g) = true) (hne : PySem.W.findIn X.K (.ref C) "__ne__" = some (some (.builtin "object.__ne__"))) (hob : PySem.W.subIn X.K (.ref C) (.type "object") = some true)
    (F : FnOk X.prog X.w X.K X.mg X.base CX k g fd ps sp) (hr : Room (k + 1) X.A) (hb : Binds X.K fd ps []) (hx : Passes CX X E) : OpR X (compareOp .NotEq) (rNeO X.K C sp E) := by
  intro pins s σ H x y v u Q I rx ry h
  obtain ⟨a, dx, fs, t, rfl, ha, ty, hn, q⟩ := h
  cases (show v = Value.ref a from rx)
  obtain ⟨ox, od, J⟩ := inst_at I ha
  obtain ⟨P, Z, p, _⟩ := kit_of I ry ty
  have hu := hr.units
  show wpAny _ _ (richCompare .NotEq _ _) _ _ _
  refine ne_own (by omega) I.kIn J (Z.ty _ _ I.kIn p) hn hne hob hs hf ?_
  have r2 : Vals [V.ref a, y] [Value.ref a, u] := .cons rfl (.cons ry .nil)
  have hl : ([Value.ref a, u] ++ []).length = ps.length := by
    rw [List.append_nil, ← r2.length]
    exact F.len _ _ _ _ q
  refine wpAny_call (codeAny_mono (F.run X.A.in1 X.stack s H ⟨[.ref a, u], []⟩ [.ref a, u] _ _ E hr.in1 I.env0.in1 (by have z := hb s [.ref a, u] I.kIn hl; rw [List.append_nil] at z; exact z) r2 q) fun r s' hq => ?_)
  cases r with
  | error e => exact hx pins σ H s e s' I hq
  | ok fl =>
    cases fl with
    | ret z =>
      obtain ⟨v', H', I', rv, b, rfl, qz⟩ := I.after hq
      cases rv
      exact ⟨b, rfl, .bl (!b), H', I', rfl, qz⟩
    | next => exact False.elim hq
    | brk => exact False.elim hq
    | cont => exact False.elim hq
theorem op_binO {op : Operator} (hc : PySem.W.selfFirst X.K C = true) (hs : PySem.W.findIn X.K (.ref C) (PySem.dunder op.info.2) = some (some (.ref g))) (hf : PySem.W.isFn X.K (.ref g) = true) (F : FnOk X.prog X.w X.K X.mg X.base CX k g fd ps sp) (hr : Room k X.A) (hb : Binds X.K fd ps []) (hx : Passes CX X E) :
    OpR X (binaryOp op) (rAddO C sp E) := by
  intro pins s σ H x y v u Q I rx ry h
  obtain ⟨a, dx, fs, b, dy, gs, rfl, rfl, ha, hb', q⟩ := h
  cases (show v = Value.ref a from rx)
  cases (show u = Value.ref b from ry)
  obtain ⟨ox, od, J⟩ := inst_at I ha
  obtain ⟨oy, oe, J'⟩ := inst_at I hb'
  obtain ⟨m, hF⟩ := I.fr
  refine PySem.W.binop_K (op := op) hF I.ok.mod.kin J J'.type hc hs hf ?_
  refine wpAny_mono (run_fn (ds := []) (dvs := []) (vs := [.ref a, .ref b]) F hr hb .nil hx I (.cons rfl (.cons rfl .nil)) (by rw [List.append_nil]; exact q)) (fun w s' z => ?_) fun _ _ e => e
  obtain ⟨z', H', I', rz, qz⟩ := z
  exact cmpb rz ⟨z', H', I', rz, qz⟩
theorem un_negO (hs : PySem.W.findIn X.K (.ref C) "__neg__" = some (some (.ref g))) (hf : PySem.W.isFn X.K (.ref g) = true) (F : FnOk X.prog X.w X.K X.mg X.base CX k g fd ps sp) (hr : Room k X.A) (hb : Binds X.K fd ps []) (hx : Passes CX X E) :
    UnR X (unaryOp .USub) (rNegO C sp E) := by
  intro pins s σ H x v Q I rx h
  obtain ⟨a, dx, fs, rfl, ha, q⟩ := h
  cases (show v = Value.ref a from rx)
  obtain ⟨ox, od, J⟩ := inst_at I ha
  exact neg_own I.kIn J hs hf (run_fn (ds := []) (dvs := []) (vs := [.ref a]) F hr hb .nil hx I (.cons rfl .nil) (by rw [List.append_nil]; exact q))
/-- v in x, x of an own class with its own __contains__, which hands back a truth -/
def rInO (C : Addr) (sp : Sp) (E : XK) : R2 := fun x y H Q => ∃ a dx fs, y = .ref a ∧ H a = some (.ins C dx fs) ∧ sp [y, x] H (fun v H' => ∃ b, v = .bl b ∧ Q (.bl b) H') E
theorem op_inO (hs : PySem.W.findIn X.K (.ref C) "__contains__" = some (some (.ref g))) (hf : PySem.W.isFn X.K (.ref g) = true) (F : FnOk X.prog X.w X.K X.mg X.base CX k g fd ps sp) (hr : Room k X.A) (hb : Binds X.K fd ps []) (hx : Passes CX X E) :
    OpR X (compareOp .In) (rInO C sp E) := by
  intro pins s σ H x y v u Q I rx ry h
  obtain ⟨a, dx, fs, rfl, ha, q⟩ := h
  cases (show u = Value.ref a from ry)
  obtain ⟨ox, od, J⟩ := inst_at I ha
  obtain ⟨m, hF⟩ := I.fr
  refine PySem.W.in_K hF I.ok.mod.kin J hs hf (wpAny_mono (run_fn (ds := []) (dvs := []) (vs := [.ref a, x]) F hr hb .nil hx I (.cons rfl (.cons rx .nil)) (by rw [List.append_nil]; exact q)) (fun w s' z => ?_) fun _ _ e => e)
  obtain ⟨z', H', I', rz, b, rfl, qz⟩ := z
  cases rz
  exact wpAny_truthy_bool ⟨.bl b, H', I', rfl, qz⟩
end
/-! ### fields, methods, new instances -/
section
variable {σ : L2.St} {H : Hp} {Q : VK} {K : PySem.W.Frag} {te ta tv : TE} {a C dx : Addr} {fs : List (Str × V)} {f : Str} {v : V} {D : Ends}
theorem r_fld (h : ta σ H fun x H1 => ∃ a C dx fs v, x = .ref a ∧ H1 a = some (.ins C dx fs) ∧ Cls K C ∧ NoAttr K C f ∧ fs.lookup f = some v ∧ Q v H1) : tFld K ta f σ H Q := h
theorem r_get {F : V → Prop} (e : H a = some (.ins C dx fs)) (c : Cls K C) (n : NoAttr K C f) (l : fs.lookup f = some v) (h : F v) : ∃ a' C dx fs v, V.ref a = .ref a' ∧ H a' = some (.ins C dx fs) ∧ Cls K C ∧ NoAttr K C f ∧ fs.lookup f = some v ∧ F v := ⟨a, C, dx, fs, v, rfl, e, c, n, l, h⟩
theorem r_sfld (h : tv σ H fun y H1 => ta σ H1 fun x H2 => ∃ a C dx fs, x = .ref a ∧ H2 a = some (.ins C dx fs) ∧ Cls K C ∧ NoAttr K C f ∧ fs.length < 1000 ∧ D.nx σ (upd H2 a (.ins C dx (putF f y fs)))) : sFld K ta tv f D σ H := h
theorem r_put {F : Hp → Prop} {y : V} (e : H a = some (.ins C dx fs)) (c : Cls K C) (n : NoAttr K C f) (l : fs.length < 1000) (h : F (upd H a (.ins C dx (putF f y fs)))) : ∃ a' C dx fs, V.ref a = .ref a' ∧ H a' = some (.ins C dx fs) ∧ Cls K C ∧ NoAttr K C f ∧ fs.length < 1000 ∧ F (upd H a' (.ins C dx (putF f y fs))) := ⟨a, C, dx, fs, rfl, e, c, n, l, h⟩
theorem r_meth {m : Str} {sp : Sp} {dvs : List V} {E : XK} {ts : TA} (h : ta σ H fun x H1 => ∃ a dx fs, x = .ref a ∧ H1 a = some (.ins C dx fs) ∧ fs.lookup m = none ∧ ts σ H1 fun vs H2 => sp (x :: (vs ++ dvs)) H2 Q E) : tMeth C m sp dvs E ta ts σ H Q := h
theorem r_who {m : Str} {A : Prop} (e : H a = some (.ins C dx fs)) (l : fs.lookup m = none) (h : A) : ∃ a' dx fs, V.ref a = .ref a' ∧ H a' = some (.ins C dx fs) ∧ fs.lookup m = none ∧ A := ⟨a, dx, fs, rfl, e, l, h⟩
theorem r_make {sp : Sp} {dvs : List V} {E : XK} {ts : TA} (h : ts σ H fun vs H1 => ∀ x dx, H1 x = none → H1 dx = none → dx ≠ x → sp (.ref x :: (vs ++ dvs)) (upd (upd H1 dx (.own x)) x (.ins C dx [])) (fun v H2 => v = .non ∧ Q (.ref x) H2) E) : tMake C sp dvs E ts σ H Q := h
end
theorem same_make {H H' : Hp} {x dx C : Addr} (nx : H x = none) (nd : H dx = none) (s : ∀ b o, (upd (upd H dx (.own x)) x (.ins C dx [])) b = some o → b ≠ x → H' b = some o) : Same H H' := fun b o e =>
  s b o (by rw [upd_ne (ne_of_none e nx), upd_ne (ne_of_none e nd)]; exact e) (ne_of_none e nx)
def top (i : Nat) : Stmt := PySem.Challenge.pw_windowrows_k19_whole_offsets_along_a_lis.main.body.getD i (.Pass ⟨0, 0, 0, 0⟩)
abbrev s_possible : Stmt := top 4
theorem sc_possible : FnScope ["rows", "groups", "distance"] ["rows", "groups", "distance"] (defScope s_possible) := ⟨rfl, rfl, rfl, by decide +kernel, rfl, by decide +kernel, by decide +kernel⟩
abbrev s_zone_of : Stmt := top 5
theorem sc_zone_of : FnScope ["rows", "groups"] ["rows", "groups"] (defScope s_zone_of) := ⟨rfl, rfl, rfl, by decide +kernel, rfl, by decide +kernel, by decide +kernel⟩
abbrev s_Offset___init__ : Stmt := inClass (top 6) 0
theorem sc_Offset___init__ : FnScope ["self", "rows", "groups", "distance"] ["self", "rows", "groups", "distance"] (defScope s_Offset___init__) := ⟨rfl, rfl, rfl, by decide +kernel, rfl, by decide +kernel, by decide +kernel⟩
abbrev s_Offset_fewest_rows : Stmt := inClass (top 6) 1
theorem sc_Offset_fewest_rows : FnScope ["self"] ["self"] (defScope s_Offset_fewest_rows) := ⟨rfl, rfl, rfl, by decide +kernel, rfl, by decide +kernel, by decide +kernel⟩
abbrev s_Offset___neg__ : Stmt := inClass (top 6) 2
theorem sc_Offset___neg__ : FnScope ["self"] ["self"] (defScope s_Offset___neg__) := ⟨rfl, rfl, rfl, by decide +kernel, rfl, by decide +kernel, by decide +kernel⟩
abbrev s_Offset___add__ : Stmt := inClass (top 6) 3
theorem sc_Offset___add__ : FnScope ["self", "other"] ["self", "other"] (defScope s_Offset___add__) := ⟨rfl, rfl, rfl, by decide +kernel, rfl, by decide +kernel, by decide +kernel⟩
abbrev s_Offset___eq__ : Stmt := inClass (top 6) 4
theorem sc_Offset___eq__ : FnScope ["self", "other"] ["self", "other"] (defScope s_Offset___eq__) := ⟨rfl, rfl, rfl, by decide +kernel, rfl, by decide +kernel, by decide +kernel⟩
abbrev s__law_begin : Stmt := top 8
theorem sc__law_begin : FnScope ["_law_script", "_law_cells", "_law_rests", "_law_cell"] ["_law_script"] (defScope s__law_begin) := ⟨rfl, rfl, rfl, by decide +kernel, rfl, by decide +kernel, by decide +kernel⟩
abbrev s__law_draw : Stmt := top 9
theorem sc__law_draw : FnScope ["_law_draws", "_law_many", "_law_cells", "_law_rests", "_law_turn", "_law_at", "_law_got", "_law_first", "_law_salt", "_law_second", "_law_mixed", "_law_third"] ["_law_draws", "_law_many"] (defScope s__law_draw) := ⟨rfl, rfl, rfl, by decide +kernel, rfl, by decide +kernel, by decide +kernel⟩
abbrev s__law_keys : Stmt := top 10
theorem sc__law_keys : FnScope ["_law_draws", "_law_found", "_law_k", "_law_way", "_law_step"] ["_law_draws"] (defScope s__law_keys) := ⟨rfl, rfl, rfl, by decide +kernel, rfl, by decide +kernel, by decide +kernel⟩
abbrev s__law_groups : Stmt := top 11
theorem sc__law_groups : FnScope ["_law_keys_here", "_law_found", "_law_k"] ["_law_keys_here"] (defScope s__law_groups) := ⟨rfl, rfl, rfl, by decide +kernel, rfl, by decide +kernel, by decide +kernel⟩
abbrev s__law_zone : Stmt := top 12
theorem sc__law_zone : FnScope ["_law_keys_here", "_law_r", "_law_j"] ["_law_keys_here", "_law_r", "_law_j"] (defScope s__law_zone) := ⟨rfl, rfl, rfl, by decide +kernel, rfl, by decide +kernel, by decide +kernel⟩
abbrev s__law_offset : Stmt := top 13
theorem sc__law_offset : FnScope ["_law_keys_here", "_law_groups_here", "_law_r", "_law_j"] ["_law_keys_here", "_law_groups_here", "_law_r", "_law_j"] (defScope s__law_offset) := ⟨rfl, rfl, rfl, by decide +kernel, rfl, by decide +kernel, by decide +kernel⟩
abbrev s__law_pairs : Stmt := top 14
theorem sc__law_pairs : FnScope ["_law_keys_here", "_law_groups_here", "_law_r", "_law_j", "_law_offset_here"] ["_law_keys_here", "_law_groups_here"] (defScope s__law_pairs) := ⟨rfl, rfl, rfl, by decide +kernel, rfl, by decide +kernel, by decide +kernel⟩
abbrev s__law_some_list : Stmt := top 15
theorem sc__law_some_list : FnScope ["_law_d", "_law_g", "_law_k"] ["_law_d", "_law_g", "_law_k"] (defScope s__law_some_list) := ⟨rfl, rfl, rfl, by decide +kernel, rfl, by decide +kernel, by decide +kernel⟩
abbrev s__law_beside : Stmt := top 16
theorem sc__law_beside : FnScope ["_law_draws", "_law_offset_here", "_law_d", "_law_g", "_law_k"] ["_law_draws", "_law_offset_here"] (defScope s__law_beside) := ⟨rfl, rfl, rfl, by decide +kernel, rfl, by decide +kernel, by decide +kernel⟩
abbrev s__law_triples : Stmt := top 17
theorem sc__law_triples : FnScope ["_law_draws", "_law_keys_here", "_law_groups_here", "_law_turn", "_law_spots", "_law_first", "_law_second", "_law_k"] ["_law_draws", "_law_keys_here", "_law_groups_here"] (defScope s__law_triples) := ⟨rfl, rfl, rfl, by decide +kernel, rfl, by decide +kernel, by decide +kernel⟩
abbrev s_law : Stmt := top 18
theorem sc_law : FnScope ["_law_script", "_law_draws", "_law_turn", "_law_keys_here", "_law_groups_here"] ["_law_script"] (defScope s_law) := ⟨rfl, rfl, rfl, by decide +kernel, rfl, by decide +kernel, by decide +kernel⟩
structure Txt (K : PySem.W.Frag) (mg : Str → Option Value) where
  f_possible : Addr
  d_possible : FuncData
  F_possible : Fun K "possible" "possible" s_possible f_possible d_possible
  b_possible : Binds K d_possible ["rows", "groups", "distance"] []
  g_possible : mg "possible" = some (.ref f_possible)
  f_zone_of : Addr
  d_zone_of : FuncData
  F_zone_of : Fun K "zone_of" "zone_of" s_zone_of f_zone_of d_zone_of
  b_zone_of : Binds K d_zone_of ["rows", "groups"] []
  g_zone_of : mg "zone_of" = some (.ref f_zone_of)
  f_Offset___init__ : Addr
  d_Offset___init__ : FuncData
  F_Offset___init__ : Fun K "__init__" "Offset.__init__" s_Offset___init__ f_Offset___init__ d_Offset___init__
  b_Offset___init__ : Binds K d_Offset___init__ ["self", "rows", "groups", "distance"] []
  f_Offset_fewest_rows : Addr
  d_Offset_fewest_rows : FuncData
  F_Offset_fewest_rows : Fun K "fewest_rows" "Offset.fewest_rows" s_Offset_fewest_rows f_Offset_fewest_rows d_Offset_fewest_rows
  b_Offset_fewest_rows : Binds K d_Offset_fewest_rows ["self"] []
  f_Offset___neg__ : Addr
  d_Offset___neg__ : FuncData
  F_Offset___neg__ : Fun K "__neg__" "Offset.__neg__" s_Offset___neg__ f_Offset___neg__ d_Offset___neg__
  b_Offset___neg__ : Binds K d_Offset___neg__ ["self"] []
  f_Offset___add__ : Addr
  d_Offset___add__ : FuncData
  F_Offset___add__ : Fun K "__add__" "Offset.__add__" s_Offset___add__ f_Offset___add__ d_Offset___add__
  b_Offset___add__ : Binds K d_Offset___add__ ["self", "other"] []
  f_Offset___eq__ : Addr
  d_Offset___eq__ : FuncData
  F_Offset___eq__ : Fun K "__eq__" "Offset.__eq__" s_Offset___eq__ f_Offset___eq__ d_Offset___eq__
  b_Offset___eq__ : Binds K d_Offset___eq__ ["self", "other"] []
  f__law_begin : Addr
  d__law_begin : FuncData
  F__law_begin : Fun K "_law_begin" "_law_begin" s__law_begin f__law_begin d__law_begin
  b__law_begin : Binds K d__law_begin ["_law_script"] []
  g__law_begin : mg "_law_begin" = some (.ref f__law_begin)
  f__law_draw : Addr
  d__law_draw : FuncData
  F__law_draw : Fun K "_law_draw" "_law_draw" s__law_draw f__law_draw d__law_draw
  b__law_draw : Binds K d__law_draw ["_law_draws", "_law_many"] []
  g__law_draw : mg "_law_draw" = some (.ref f__law_draw)
  f__law_keys : Addr
  d__law_keys : FuncData
  F__law_keys : Fun K "_law_keys" "_law_keys" s__law_keys f__law_keys d__law_keys
  b__law_keys : Binds K d__law_keys ["_law_draws"] []
  g__law_keys : mg "_law_keys" = some (.ref f__law_keys)
  f__law_groups : Addr
  d__law_groups : FuncData
  F__law_groups : Fun K "_law_groups" "_law_groups" s__law_groups f__law_groups d__law_groups
  b__law_groups : Binds K d__law_groups ["_law_keys_here"] []
  g__law_groups : mg "_law_groups" = some (.ref f__law_groups)
  f__law_zone : Addr
  d__law_zone : FuncData
  F__law_zone : Fun K "_law_zone" "_law_zone" s__law_zone f__law_zone d__law_zone
  b__law_zone : Binds K d__law_zone ["_law_keys_here", "_law_r", "_law_j"] []
  g__law_zone : mg "_law_zone" = some (.ref f__law_zone)
  f__law_offset : Addr
  d__law_offset : FuncData
  F__law_offset : Fun K "_law_offset" "_law_offset" s__law_offset f__law_offset d__law_offset
  b__law_offset : Binds K d__law_offset ["_law_keys_here", "_law_groups_here", "_law_r", "_law_j"] []
  g__law_offset : mg "_law_offset" = some (.ref f__law_offset)
  f__law_pairs : Addr
  d__law_pairs : FuncData
  F__law_pairs : Fun K "_law_pairs" "_law_pairs" s__law_pairs f__law_pairs d__law_pairs
  b__law_pairs : Binds K d__law_pairs ["_law_keys_here", "_law_groups_here"] []
  g__law_pairs : mg "_law_pairs" = some (.ref f__law_pairs)
  f__law_some_list : Addr
  d__law_some_list : FuncData
  F__law_some_list : Fun K "_law_some_list" "_law_some_list" s__law_some_list f__law_some_list d__law_some_list
  b__law_some_list : Binds K d__law_some_list ["_law_d", "_law_g", "_law_k"] []
  g__law_some_list : mg "_law_some_list" = some (.ref f__law_some_list)
  f__law_beside : Addr
  d__law_beside : FuncData
  F__law_beside : Fun K "_law_beside" "_law_beside" s__law_beside f__law_beside d__law_beside
  b__law_beside : Binds K d__law_beside ["_law_draws", "_law_offset_here"] []
  g__law_beside : mg "_law_beside" = some (.ref f__law_beside)
  f__law_triples : Addr
  d__law_triples : FuncData
  F__law_triples : Fun K "_law_triples" "_law_triples" s__law_triples f__law_triples d__law_triples
  b__law_triples : Binds K d__law_triples ["_law_draws", "_law_keys_here", "_law_groups_here"] []
  g__law_triples : mg "_law_triples" = some (.ref f__law_triples)
  f_law : Addr
  d_law : FuncData
  F_law : Fun K "law" "law" s_law f_law d_law
  b_law : Binds K d_law ["_law_script"] []
  g_law : mg "law" = some (.ref f_law)
  z_NotImplemented : mg "NotImplemented" = none
  z_abs : mg "abs" = none
  z_int : mg "int" = none
  z_isinstance : mg "isinstance" = none
  z_len : mg "len" = none
  z_range : mg "range" = none
  C_Offset : Addr
  g_Offset : mg "Offset" = some (.ref C_Offset)
  c_Offset : Cls K C_Offset
  m_Offset : Mk K C_Offset f_Offset___init__
  nf_Offset_rows : NoAttr K C_Offset "rows"
  nf_Offset_groups : NoAttr K C_Offset "groups"
  nf_Offset_distance : NoAttr K C_Offset "distance"
  nf_Offset_zone : NoAttr K C_Offset "zone"
  mt_Offset_fewest_rows : Meth K C_Offset "fewest_rows" f_Offset_fewest_rows
  mt_Offset___neg__ : Meth K C_Offset "__neg__" f_Offset___neg__
  mt_Offset___add__ : Meth K C_Offset "__add__" f_Offset___add__
  mt_Offset___eq__ : Meth K C_Offset "__eq__" f_Offset___eq__
  ca_Offset : PySem.W.findIn K (.ref C_Offset) "__class__" = some (some (.builtin "object.__class__"))
  cn_Offset : PySem.W.specialIn K (.builtin "object.__class__") "__get__" = some (some (.builtin "getset_descriptor.__get__"))
  ct_Offset : PySem.W.takesIn K (.builtin "object.__class__") = some true
  cm_Offset : PySem.W.mroIn K C_Offset (.type "object") = some true
  ne_Offset : PySem.W.findIn K (.ref C_Offset) "__ne__" = some (some (.builtin "object.__ne__"))
  ob_Offset : PySem.W.subIn K (.ref C_Offset) (.type "object") = some true
  nt_Offset : PySem.W.notFirst K C_Offset (.ref C_Offset) = true
  sf_Offset : PySem.W.selfFirst K C_Offset = true
def possB (r g d : Int) : Bool := decide ((g = 0 ∧ d = 0) ∨ (g < 0 ∧ r ≤ g ∧ d ≤ g) ∨ (0 < g ∧ g ≤ r ∧ g ≤ d))
def zoneS (r g : Int) : Str := if r = 0 then "self" else if g = 0 then (if 0 < r then "after" else "before") else if 0 < g then "future" else "past"
def offF (r g d : Int) : List (Str × V) := putF "zone" (.str (zoneS r g)) (putF "distance" (.int d) (putF "groups" (.int g) (putF "rows" (.int r) [])))
theorem n_rg : ¬ (("rows" : Str) = "groups") := by decide +kernel
theorem n_rd : ¬ (("rows" : Str) = "distance") := by decide +kernel
theorem n_rz : ¬ (("rows" : Str) = "zone") := by decide +kernel
theorem n_gd : ¬ (("groups" : Str) = "distance") := by decide +kernel
theorem n_gz : ¬ (("groups" : Str) = "zone") := by decide +kernel
theorem n_dz : ¬ (("distance" : Str) = "zone") := by decide +kernel
theorem off_rows (r g d : Int) : (offF r g d).lookup ("rows" : Str) = some (.int r) := by
  unfold offF
  rw [lookup_putF, if_neg n_rz, lookup_putF, if_neg n_rd, lookup_putF, if_neg n_rg, lookup_putF, if_pos rfl]
theorem off_groups (r g d : Int) : (offF r g d).lookup ("groups" : Str) = some (.int g) := by
  unfold offF
  rw [lookup_putF, if_neg n_gz, lookup_putF, if_neg n_gd, lookup_putF, if_pos rfl]
theorem off_distance (r g d : Int) : (offF r g d).lookup ("distance" : Str) = some (.int d) := by
  unfold offF
  rw [lookup_putF, if_neg n_dz, lookup_putF, if_pos rfl]
theorem off_zone (r g d : Int) : (offF r g d).lookup ("zone" : Str) = some (.str (zoneS r g)) := by
  unfold offF
  rw [lookup_putF, if_pos rfl]
theorem off_no (r g d : Int) {m : Str} (h1 : ¬ m = "zone") (h2 : ¬ m = "distance") (h3 : ¬ m = "groups") (h4 : ¬ m = "rows") : (offF r g d).lookup m = none := by
  unfold offF
  rw [lookup_putF, if_neg h1, lookup_putF, if_neg h2, lookup_putF, if_neg h3, lookup_putF, if_neg h4]
  rfl
theorem putF_len (f : Str) (v : V) : ∀ fs : List (Str × V), (putF f v fs).length ≤ fs.length + 1
  | [] => Nat.le_refl _
  | (g, x) :: r => by
    unfold putF
    split
    · show r.length + 1 ≤ r.length + 1 + 1
      omega
    · show (putF f v r).length + 1 ≤ r.length + 1 + 1
      have := putF_len f v r
      omega
/-- an Offset stands at p -/
def OffAt (C : Addr) (H : Hp) (p : Addr) (r g d : Int) : Prop := ∃ dx, H p = some (.ins C dx (offF r g d))
theorem OffAt.same {C : Addr} {H H' : Hp} {p : Addr} {r g d : Int} (h : OffAt C H p r g d) (s : Same H H') : OffAt C H' p r g d := by
  obtain ⟨dx, e⟩ := h
  exact ⟨dx, s _ _ e⟩
def sp3 (f : Int → Int → Int → Bool) : Sp := fun vs H Q _ => ∃ a b c : Int, vs = [.int a, .int b, .int c] ∧ Q (.bl (f a b c)) H
def spZone2 : Sp := fun vs H Q _ => ∃ a b : Int, vs = [.int a, .int b] ∧ Q (.str (zoneS a b)) H
def spOInit (C : Addr) : Sp := fun vs H Q _ => ∃ (p dx : Addr) (r g d : Int), vs = [.ref p, .int r, .int g, .int d] ∧ H p = some (.ins C dx []) ∧ possB r g d = true ∧
  ∀ H', OffAt C H' p r g d → (∀ b o, H b = some o → b ≠ p → H' b = some o) → Q .non H'
def spOFew (C : Addr) : Sp := fun vs H Q _ => ∃ (p : Addr) (r g d : Int), vs = [.ref p] ∧ OffAt C H p r g d ∧ Q (.int (1 + (if r < 0 then -r else r))) H
def spONeg (C : Addr) : Sp := fun vs H Q _ => ∃ (p : Addr) (r g d : Int), vs = [.ref p] ∧ OffAt C H p r g d ∧ possB (-r) (-g) (-d) = true ∧ ∀ x H', H x = none → Same H H' → OffAt C H' x (-r) (-g) (-d) → Q (.ref x) H'
def spOAdd (C : Addr) : Sp := fun vs H Q _ => ∃ (p q : Addr) (r g d r' g' d' : Int), vs = [.ref p, .ref q] ∧ OffAt C H p r g d ∧ OffAt C H q r' g' d' ∧ possB (r + r') (g + g') (d + d') = true ∧
  ∀ x H', H x = none → Same H H' → OffAt C H' x (r + r') (g + g') (d + d') → Q (.ref x) H'
def spOEq (C : Addr) : Sp := fun vs H Q _ => ∃ (p q : Addr) (r g d r' g' d' : Int), vs = [.ref p, .ref q] ∧ OffAt C H p r g d ∧ OffAt C H q r' g' d' ∧ Q (.bl (decide (r = r') && (decide (g = g') && decide (d = d')))) H
theorem make_off {C : Addr} {H : Hp} {Q : VK} {E : XK} {r g d : Int} (hp : possB r g d = true) (h : ∀ x H', H x = none → Same H H' → OffAt C H' x r g d → Q (.ref x) H') :
    ∀ x dx, H x = none → H dx = none → dx ≠ x → spOInit C (.ref x :: ([.int r, .int g, .int d] ++ [])) (upd (upd H dx (.own x)) x (.ins C dx [])) (fun v H2 => v = .non ∧ Q (.ref x) H2) E :=
  fun x dx nx nd _ => ⟨x, dx, r, g, d, rfl, upd_same, hp, fun H' ho hk => ⟨rfl, h x H' nx (same_make nx nd hk) ho⟩⟩
local macro_rules | `(tactic| wtm_at "rd1") => `(tactic| with_reducible first
  | refine r_seq ?_ | refine r_next ?_ | refine r_asg ?_ | refine r_drop ?_ | refine r_ret ?_ | refine r_ifs ?_ | refine r_gname ?_ | refine r_gsub ?_ | refine r_gcons ?_ | refine r_gnil ?_
  | refine r_var rfl ?_ | refine r_c ?_ | refine r_op ?_ | refine r_un ?_ | refine r_I0 ?_ | refine r_U ?_ | refine r_test ?_ | refine r_tB ?_ | refine r_bl ?_
  | refine r_and ?_ | refine r_or ?_ | refine r_not ?_ | refine r_andV ?_ | refine r_orV ?_ | refine r_notV ?_ | refine r_ife ?_
  | refine r_eqI ?_ | refine r_neI ?_ | refine r_eqB ?_ | refine r_neB ?_ | refine r_eqS ?_ | refine r_neS ?_
  | refine r_nil ?_ | refine r_cons ?_ | refine r_cb ?_ | refine r_call ?_ | refine r_lst ?_ | refine r_tup ?_ | refine r_int1 ?_ | refine r_intB ?_ | refine r_abs1 ?_ | refine r_bm ?_ | refine r_sl ?_ | refine r_np ?_ | refine r_pt ?_ | refine r_pti ?_ | refine r_lc ?_ | refine r_il ?_ | refine r_it ?_ | refine r_rng1 ?_ | refine r_rng2 ?_ | refine r_callN ?_ | refine r_fld ?_ | refine r_sfld ?_ | refine r_meth ?_ | refine r_make ?_ | refine r_par ?_ | refine r_par3 ?_ | refine r_two ?_ | refine r_three ?_)
local macro_rules | `(tactic| wtm_at "ixs") => `(tactic| first
  | ((with_reducible show rIxL _ (V.ref _) (V.int _) _ _); refine r_ixL (.inl (.inl (by assumption))) (by first | rfl | exact ati_n (by omega) | exact ati_int (by omega) (by omega)) ?_)
  | ((with_reducible show rIxT _ (V.ref _) (V.int _) _ _); refine r_ixT (.inl (.inl (by assumption))) (by first | rfl | exact ati_n (by omega) | exact ati_int (by omega) (by omega)) ?_))
local macro_rules | `(tactic| wtm_at "rd") => `(tactic| repeat first | wtm_at "rd1" | wtm_at "ixs")
local macro_rules | `(tactic| wtm_at "rdi") => `(tactic| repeat' (first | wtm_at "rd1" | wtm_at "ixs" | with_reducible refine iteT ?_ | with_reducible refine iteF ?_ | with_reducible refine iteNT ?_ | with_reducible refine iteNF ?_ | with_reducible refine r_ite (fun _ => ?_) (fun _ => ?_) | with_reducible refine r_iten (fun _ => ?_) (fun _ => ?_)))
section
variable {P : Program} {w : World} {K : PySem.W.Frag} {mg : Str → Option Value} {base : Heap}
theorem ok__law_draw (T : Txt K mg) : FnOk P w K mg base CX0 1 T.f__law_draw T.d__law_draw ["_law_draws", "_law_many"] spDraw := by
  refine T.F__law_draw.ok sc__law_draw (fun vs H Q E h => ?_) (fun cdv A outer s H vs Q E hr h => ?_)
  · obtain ⟨d, c, r, m, rfl, _⟩ := h
    rfl
  · obtain ⟨d, c, r, m, rfl, D, m0, m1, q⟩ := h
    obtain ⟨dc, dr, cr, ns, rs, t, h1, h2, h3, hl, hp, ht, hn⟩ := D
    refine ⟨_, (pss_cons (ps_set (i := 2) sc__law_draw.nd rfl (Or.inl rfl) (pe_ix (r := rIxL K) ix_list (pv 0) pe_int (fun _ _ => rfl)))
      (pss_cons (ps_set (i := 3) sc__law_draw.nd rfl (Or.inl rfl) (pe_ix (r := rIxL K) ix_list (pv 0) pe_int (fun _ _ => rfl)))
      (pss_cons (ps_set (i := 4) sc__law_draw.nd rfl (Or.inl rfl) (pe_ix (r := rIxL K) ix_list (pv 0) pe_int (fun _ _ => rfl)))
      (pss_cons (ps_asg (pe_op op_add (pv 4) pe_int) (pg_sub (pv 0) pe_int set_list))
      (pss_cons (ps_set (i := 5) sc__law_draw.nd rfl (Or.inl rfl) (pe_op op_mod (pe_callTy c_int1 (by rfl) T.z_int (by decide +kernel) (pa_cons (pv 4) pa_nil)) (pe_callB (r := rLenL K) (id := "len") c_len (by rfl) T.z_len (by decide +kernel) (pa_cons (pv 2) pa_nil))))
      (pss_cons (ps_if (pt_cmpR op_gt (pe_ix (r := rIxL K) ix_list (pv 3) (pv 5) (fun _ _ => rfl)) pe_int (nomark _)) (pss_cons (ps_set (i := 6) sc__law_draw.nd rfl (Or.inl rfl) (pe_op op_mod (pe_callTy c_int1 (by rfl) T.z_int (by decide +kernel) (pa_cons (pe_ix (r := rIxL K) ix_list (pv 3) (pv 5) (fun _ _ => rfl)) pa_nil)) (pv 1)))
      (pss_cons (ps_asg (pe_op op_fdivW (pe_ix (r := rIxL K) ix_list (pv 3) (pv 5) (fun _ _ => rfl)) (pv 1)) (pg_sub (pv 3) (pv 5) set_list))
      (pss_one (ps_ret (pv 6))))) pss_nil)
      (pss_cons (ps_set (i := 7) sc__law_draw.nd rfl (Or.inl rfl) (pe_op op_mod (pe_callTy c_int1 (by rfl) T.z_int (by decide +kernel) (pa_cons (pe_op op_mul (pe_op op_add (pe_op op_mod (pe_callTy c_int1 (by rfl) T.z_int (by decide +kernel) (pa_cons (pe_ix (r := rIxL K) ix_list (pv 2) (pv 5) (fun _ _ => rfl)) pa_nil)) pe_int) pe_int) (pe_op op_add (pv 4) pe_int)) pa_nil)) pe_int))
      (pss_cons (ps_set (i := 8) sc__law_draw.nd rfl (Or.inl rfl) (pe_op op_add (pe_op op_mod (pe_callTy c_int1 (by rfl) T.z_int (by decide +kernel) (pa_cons (pe_ix (r := rIxL K) ix_list (pv 2) (pv 5) (fun _ _ => rfl)) pa_nil)) pe_int) (pe_op op_mul pe_int (pv 4))))
      (pss_cons (ps_set (i := 9) sc__law_draw.nd rfl (Or.inl rfl) (pe_op op_mod (pe_callTy c_int1 (by rfl) T.z_int (by decide +kernel) (pa_cons (pe_op op_add (pe_op op_add (pe_op op_mul (pv 7) (pv 7)) (pe_op op_mul pe_int (pv 7))) (pv 8)) pa_nil)) pe_int))
      (pss_cons (ps_set (i := 10) sc__law_draw.nd rfl (Or.inl rfl) (pe_op op_add (pe_op op_mul (pe_op op_mod (pe_callTy c_int1 (by rfl) T.z_int (by decide +kernel) (pa_cons (pv 9) pa_nil)) pe_int) pe_int) (pe_op op_mul (pe_op op_fdivW (pv 9) pe_int) pe_int)))
      (pss_cons (ps_set (i := 11) sc__law_draw.nd rfl (Or.inl rfl) (pe_op op_mod (pe_callTy c_int1 (by rfl) T.z_int (by decide +kernel) (pa_cons (pe_op op_add (pv 10) (pv 7)) pa_nil)) pe_int))
      (pss_cons (ps_if (pt_cmpR op_le (pv 1) pe_int (nomark _)) (pss_one (ps_ret (pe_op op_mod (pe_callTy c_int1 (by rfl) T.z_int (by decide +kernel) (pa_cons (pv 11) pa_nil)) (pv 1)))) pss_nil)
      (pss_one (ps_ret (pe_op op_mod (pe_callTy c_int1 (by rfl) T.z_int (by decide +kernel) (pa_cons (pe_op op_add (pe_op op_mul (pv 11) pe_int) (pv 9)) pa_nil)) (pv 1)))))))))))))))), ?_⟩
    try simp only [nox_K, cx_K]
    wtm_at "rd"
    refine r_setL (n := 2) h1 rfl ?_
    have g1 : (upd H d (.lst ([.ref c, .ref r, .int t].set 2 (.int (t + 1))))) d = some (.lst [.ref c, .ref r, .int (t + 1)]) := upd_same
    have g2 : (upd H d (.lst ([.ref c, .ref r, .int t].set 2 (.int (t + 1))))) c = some (.lst (ns.map V.int)) := (upd_ne dc.symm).trans h2
    have g3 : (upd H d (.lst ([.ref c, .ref r, .int t].set 2 (.int (t + 1))))) r = some (.lst (rs.map V.int)) := (upd_ne dr.symm).trans h3
    have e1 : Ext d r H (upd H d (.lst ([.ref c, .ref r, .int t].set 2 (.int (t + 1))))) := fun b o e n1 n2 => (upd_ne n1).trans e
    revert g1 g2 g3 e1
    generalize (upd H d (.lst ([.ref c, .ref r, .int t].set 2 (.int (t + 1))))) = H1
    intro g1 g2 g3 e1
    wtm_at "rd"
    refine r_lenI g2 ?_
    refine r_mod (by omega) fun at_ a0 a1 _ => ?_
    wtm_at "rd"
    refine r_ite (fun c1 => ?_) (fun c1 => ?_)
    · wtm_at "rd"
      refine r_mod m0 fun k k0 k1 _ => ?_
      wtm_at "rd"
      refine r_fdiv m0 m1 fun z z0 _ => ?_
      wtm_at "rd"
      refine r_setL g3 (ixn_in a0 (by rw [List.length_map]; omega)) ?_
      wtm_at "rd"
      refine q k _ k0 k1 ⟨dc, dr, cr, ns, rs.set at_.toNat z, t + 1, (upd_ne dr).trans g1, (upd_ne cr).trans g2, ?_, ?_, hp, by omega, ?_⟩ (fun b o e n1 n2 => (upd_ne n2).trans (e1 b o e n1 n2))
      · rw [upd_same, List.map_set]
      · rw [List.length_set]; exact hl
      · intro x hx
        rcases List.mem_or_eq_of_mem_set hx with e | e
        · exact hn x e
        · rw [e]; exact z0 (by omega)
    · wtm_at "rd"
      refine r_mod (by decide) fun x1 l1 u1 _ => ?_
      wtm_at "rd"
      refine r_mul (.inl ⟨by omega, by omega⟩) fun x2 _ => ?_
      wtm_at "rd"
      refine r_mod (by decide) fun first f0 f1 _ => ?_
      wtm_at "rd"
      refine r_mod (by decide) fun x3 l3 u3 _ => ?_
      wtm_at "rd"
      refine r_mul (.inl ⟨by omega, by omega⟩) fun x4 _ => ?_
      wtm_at "rd"
      refine r_mul (.inl ⟨by omega, by omega⟩) fun x5 _ => ?_
      wtm_at "rd"
      refine r_mul (.inl ⟨by omega, by omega⟩) fun x6 _ => ?_
      wtm_at "rd"
      refine r_mod (by decide) fun second s0 s1 _ => ?_
      wtm_at "rd"
      refine r_mod (by decide) fun x7 l7 u7 _ => ?_
      wtm_at "rd"
      refine r_mul (.inl ⟨by omega, by omega⟩) fun x8 _ => ?_
      wtm_at "rd"
      refine r_fdiv (by decide) (by decide) fun x9 _ _ => ?_
      wtm_at "rd"
      refine r_mul (.inr ⟨by omega, by omega⟩) fun x10 _ => ?_
      wtm_at "rd"
      refine r_mod (by decide) fun third t0 t1 _ => ?_
      wtm_at "rd"
      refine r_ite (fun c2 => ?_) (fun c2 => ?_)
      · wtm_at "rd"
        refine r_mod m0 fun k k0 k1 _ => ?_
        exact q k _ k0 k1 ⟨dc, dr, cr, ns, rs, t + 1, g1, g2, g3, hl, hp, by omega, hn⟩ e1
      · wtm_at "rd"
        refine r_mul (.inl ⟨by omega, by omega⟩) fun x11 _ => ?_
        wtm_at "rd"
        refine r_mod m0 fun k k0 k1 _ => ?_
        exact q k _ k0 k1 ⟨dc, dr, cr, ns, rs, t + 1, g1, g2, g3, hl, hp, by omega, hn⟩ e1
theorem ok__law_begin (T : Txt K mg) : FnOk P w K mg base CX0 1 T.f__law_begin T.d__law_begin ["_law_script"] (spBegin K) := by
  refine T.F__law_begin.ok sc__law_begin (fun vs H Q E h => ?_) (fun cdv A outer s H vs Q E hr h => ?_)
  · obtain ⟨a, ns, rfl, _⟩ := h
    rfl
  obtain ⟨a, ns, rfl, hS, hlen, q⟩ := h
  refine ⟨_, (pss_cons (ps_setLc (i := 1) (own := [("_law_cell", 3)]) (g := gName 3) (tt := tYes) rfl sc__law_begin.nd rfl rfl (sw_true rfl rfl rfl (by decide +kernel)) (pi_list (pe_slice sl_list (pv 0) po_none (po_some pe_int))) (blkOk_by (N := ["_law_script", "_law_cells", "_law_rests", "_law_cell"]) (sc := defScope s__law_begin) (by decide +kernel)) (fun _ _ _ _ _ => pg_name (i := 3) sc__law_begin.nd rfl (Or.inl rfl)) (fun _ _ _ _ _ => pts_nil) (fun _ _ _ _ _ => (pe_callTy c_int1 (by rfl) T.z_int (by decide +kernel) (pa_cons (pv 3) pa_nil))))
      (C8.pss_cut (ps_if (pt_cmpR op_eq (pe_callB (r := rLenL K) (id := "len") c_len (by rfl) T.z_len (by decide +kernel) (pa_cons (pv 1) pa_nil)) pe_int (nomark _)) (pss_one (ps_set (i := 1) sc__law_begin.nd rfl (Or.inl rfl) (pe_lst (pa_cons pe_int pa_nil)))) pss_nil)
      (pss_cons (ps_setLc (i := 2) (own := [("_law_cell", 3)]) (g := gName 3) (tt := tYes) rfl sc__law_begin.nd rfl rfl (sw_true rfl rfl rfl (by decide +kernel)) (pi_list (pv 1)) (blkOk_by (N := ["_law_script", "_law_cells", "_law_rests", "_law_cell"]) (sc := defScope s__law_begin) (by decide +kernel)) (fun _ _ _ _ _ => pg_name (i := 3) sc__law_begin.nd rfl (Or.inl rfl)) (fun _ _ _ _ _ => pts_nil) (fun _ _ _ _ _ => (pe_op op_mul (pe_callB c_abs (by rfl) T.z_abs (by decide +kernel) (pa_cons (pv 3) pa_nil)) (pe_callTy c_intB (by rfl) T.z_int (by decide +kernel) (pa_cons (pe_cmpR op_ge (pe_callB c_abs (by rfl) T.z_abs (by decide +kernel) (pa_cons (pv 3) pa_nil)) (pe_op op_pow pe_int pe_int) (nomark _)) pa_nil)))))
      (pss_one (ps_ret (pe_lst (pa_cons (pv 1) (pa_cons (pv 2) (pa_cons pe_int pa_nil))))))))), ?_⟩
  try simp only [nox_K, cx_K]
  wtm_at "rd"
  refine r_slL hS fun p np => ?_
  have s1 : Same H (upd H p (.lst (cutV (ns.map V.int) none (some 63)))) := same_new np
  have e0 : cutV (ns.map V.int) none (some 63) = ns.map V.int := cut_none (n := 63) (by rw [List.length_map]; exact hlen)
  rw [e0] at s1 ⊢
  have hp : (upd H p (.lst (ns.map V.int))) p = some (.lst (ns.map V.int)) := upd_same
  refine r_itl (SqL.of hp) ?_
  refine lc_map (fun x => x) (SqL.of hp) (by rw [List.length_map]; omega) (fun x H' QQ hx s' hQ => ?_) (fun c nc => ?_)
  · obtain ⟨y, _, rfl⟩ := List.mem_map.mp hx
    wtm_at "rd"
    exact hQ
  have s2 := s1.trans (same_new (o := .lst ((ns.map V.int).map fun x => x)) nc)
  have hc : (upd (upd H p (.lst (ns.map V.int))) c (.lst ((ns.map V.int).map fun x => x))) c = some (.lst (ns.map V.int)) := by rw [upd_same, List.map_id']
  revert s2 hc
  generalize (upd (upd H p (.lst (ns.map V.int))) c (.lst ((ns.map V.int).map fun x => x))) = H2
  intro s2 hc
  wtm_at "rd"
  refine ⟨fun σ H1 => ∃ (c : Addr) (ms : List Int) (x3 : Option V), σ = [some (.ref a), some (.ref c), none, x3] ∧ H1 c = some (.lst (ms.map V.int)) ∧ 0 < ms.length ∧ ms.length ≤ 63 ∧ Same H H1 ∧ H c = none, ?_, ?_⟩
  · wtm_at "rd"
    refine r_lenI hc ?_
    wtm_at "rd"
    refine r_ite (fun e => ?_) (fun e => ?_)
    · wtm_at "rd"
      refine r_new rfl fun c2 nc2 => ?_
      wtm_at "rd"
      exact ⟨c2, [0], _, rfl, upd_same, by decide, by decide, s2.trans (same_new nc2), s2.free nc2⟩
    · wtm_at "rd"
      exact ⟨c, ns, _, rfl, hc, by omega, hlen, s2, s1.free nc⟩
  rintro σ H1 ⟨c, ms, x3, rfl, hc, h0, h63, s1, nc⟩
  wtm_at "rd"
  refine r_itl (SqL.of hc) ?_
  refine lc_map restOf (SqL.of hc) (by rw [List.length_map]; omega) (fun x H' QQ hx s' hQ => ?_) (fun r nr => ?_)
  · obtain ⟨y, _, rfl⟩ := List.mem_map.mp hx
    wtm_at "rd"
    refine r_I ⟨by decide, by decide, by decide⟩ ?_
    wtm_at "rd"
    exact r_I (.inr bit_ok) hQ
  have s2 : Same H1 (upd H1 r (.lst ((ms.map V.int).map restOf))) := same_new nr
  wtm_at "rd"
  refine r_new rfl fun d nd => ?_
  have hd : H d = none := (s1.trans s2).free nd
  have hcr : c ≠ r := ne_of_none hc nr
  have hdc : d ≠ c := (ne_of_none (s2 _ _ hc) nd).symm
  have hdr : d ≠ r := (ne_of_none (upd_same (H := H1) (a := r)) nd).symm
  refine q d c r _ ⟨hdc, hdr, hcr, ms, ms.map restI, 0, upd_same, ?_, ?_, ?_, h0, by decide, ?_⟩ ((s1.trans s2).trans (same_new nd)) hd nc (s1.free nr)
  · rw [upd_ne hdc.symm]; exact s2 _ _ hc
  · rw [upd_ne hdr.symm, upd_same, rest_map]
  · rw [List.length_map]
  · intro x hx
    obtain ⟨y, _, rfl⟩ := List.mem_map.mp hx
    exact rest_nn y

theorem off_ty (T : Txt K mg) {H : Hp} {p : Addr} {r g d : Int} (h : OffAt T.C_Offset H p r g d) : TyX K H (.ref p) (.ref T.C_Offset) := by
  obtain ⟨dx, e⟩ := h
  exact .base (.ins e T.c_Offset T.ca_Offset T.cn_Offset T.ct_Offset T.cm_Offset)
theorem kit_self {K : PySem.W.Frag} {v : Value} : PySem.W.kitOne K v v = some true := by
  unfold PySem.W.kitOne
  rw [if_pos (beq_self_eq_true v)]
section
variable {H : Hp} {Q : VK} {p : Addr} {r g d : Int}
theorem r_rows {F : V → Prop} (T : Txt K mg) (o : OffAt T.C_Offset H p r g d) (h : F (.int r)) : ∃ a C dx fs v, V.ref p = .ref a ∧ H a = some (.ins C dx fs) ∧ Cls K C ∧ NoAttr K C "rows" ∧ fs.lookup ("rows" : Str) = some v ∧ F v := by
  obtain ⟨dx, e⟩ := o
  exact r_get e T.c_Offset T.nf_Offset_rows (off_rows r g d) h
theorem r_groups {F : V → Prop} (T : Txt K mg) (o : OffAt T.C_Offset H p r g d) (h : F (.int g)) : ∃ a C dx fs v, V.ref p = .ref a ∧ H a = some (.ins C dx fs) ∧ Cls K C ∧ NoAttr K C "groups" ∧ fs.lookup ("groups" : Str) = some v ∧ F v := by
  obtain ⟨dx, e⟩ := o
  exact r_get e T.c_Offset T.nf_Offset_groups (off_groups r g d) h
theorem r_distance {F : V → Prop} (T : Txt K mg) (o : OffAt T.C_Offset H p r g d) (h : F (.int d)) : ∃ a C dx fs v, V.ref p = .ref a ∧ H a = some (.ins C dx fs) ∧ Cls K C ∧ NoAttr K C "distance" ∧ fs.lookup ("distance" : Str) = some v ∧ F v := by
  obtain ⟨dx, e⟩ := o
  exact r_get e T.c_Offset T.nf_Offset_distance (off_distance r g d) h
theorem r_zone {F : V → Prop} (T : Txt K mg) (o : OffAt T.C_Offset H p r g d) (h : F (.str (zoneS r g))) : ∃ a C dx fs v, V.ref p = .ref a ∧ H a = some (.ins C dx fs) ∧ Cls K C ∧ NoAttr K C "zone" ∧ fs.lookup ("zone" : Str) = some v ∧ F v := by
  obtain ⟨dx, e⟩ := o
  exact r_get e T.c_Offset T.nf_Offset_zone (off_zone r g d) h
theorem off_who {m : Str} {A : Prop} {C : Addr} (o : OffAt C H p r g d) (h1 : ¬ m = "zone") (h2 : ¬ m = "distance") (h3 : ¬ m = "groups") (h4 : ¬ m = "rows") (h : A) : ∃ a' dx fs, V.ref p = .ref a' ∧ H a' = some (.ins C dx fs) ∧ fs.lookup m = none ∧ A := by
  obtain ⟨dx, e⟩ := o
  exact r_who e (off_no r g d h1 h2 h3 h4) h
end
theorem ok_possible (T : Txt K mg) : FnOk P w K mg base CX0 1 T.f_possible T.d_possible ["rows", "groups", "distance"] (sp3 possB) := by
  refine T.F_possible.ok sc_possible (fun vs H Q E h => ?_) (fun cdv A outer s H vs Q E hr h => ?_)
  · obtain ⟨a, b, c, rfl, _⟩ := h
    rfl
  obtain ⟨a, b, c, rfl, q⟩ := h
  refine ⟨_, (pss_cons (ps_if (pt_cmpR op_eq (pv 1) pe_int (nomark _)) (pss_one (ps_ret (pe_cmpR op_eq (pv 2) pe_int (nomark _)))) pss_nil)
      (pss_cons (ps_if (pt_cmpR op_lt (pv 1) pe_int (nomark _)) (pss_one (ps_ret (pe_and (pe_cmpR op_le (pv 0) (pv 1) (nomark _)) (pe_one (pe_cmpR op_le (pv 2) (pv 1) (nomark _)))))) pss_nil)
      (pss_one (ps_ret (pe_and (pe_cmpR op_ge (pv 0) (pv 1) (nomark _)) (pe_one (pe_cmpR op_ge (pv 2) (pv 1) (nomark _)))))))), ?_⟩
  try simp only [nox_K, cx_K]
  wtm_at "rdi"
  all_goals (refine bl_to q ?_; rw [Bool.eq_iff_iff]; simp only [possB, decide_eq_true_eq, Bool.false_eq_true, eq_self, true_iff, false_iff]; omega)
theorem ok_zone_of (T : Txt K mg) : FnOk P w K mg base CX0 1 T.f_zone_of T.d_zone_of ["rows", "groups"] spZone2 := by
  refine T.F_zone_of.ok sc_zone_of (fun vs H Q E h => ?_) (fun cdv A outer s H vs Q E hr h => ?_)
  · obtain ⟨a, b, rfl, _⟩ := h
    rfl
  obtain ⟨a, b, rfl, q⟩ := h
  refine ⟨_, (pss_cons (ps_if (pt_cmpR op_eq (pv 0) pe_int (nomark _)) (pss_one (ps_ret pe_str)) pss_nil)
      (pss_cons (ps_if (pt_cmpR op_eq (pv 1) pe_int (nomark _)) (pss_one (ps_ret (pe_ifExp (pt_cmpR op_gt (pv 0) pe_int (nomark _)) pe_str pe_str))) pss_nil)
      (pss_one (ps_ret (pe_ifExp (pt_cmpR op_gt (pv 1) pe_int (nomark _)) pe_str pe_str))))), ?_⟩
  try simp only [nox_K, cx_K]
  unfold zoneS at q
  wtm_at "rd"
  refine r_ite (fun e1 => ?_) (fun e1 => ?_)
  · rw [if_pos e1] at q
    wtm_at "rd"
    exact q
  rw [if_neg e1] at q
  wtm_at "rd"
  refine r_ite (fun e2 => ?_) (fun e2 => ?_)
  · rw [if_pos e2] at q
    wtm_at "rd"
    refine r_ite (fun e3 => ?_) (fun e3 => ?_)
    · rw [if_pos e3] at q
      wtm_at "rd"
      exact q
    · rw [if_neg e3] at q
      wtm_at "rd"
      exact q
  · rw [if_neg e2] at q
    wtm_at "rd"
    refine r_ite (fun e3 => ?_) (fun e3 => ?_)
    · rw [if_pos e3] at q
      wtm_at "rd"
      exact q
    · rw [if_neg e3] at q
      wtm_at "rd"
      exact q
theorem ok_Offset___init__ (T : Txt K mg) : FnOk P w K mg base CX0 2 T.f_Offset___init__ T.d_Offset___init__ ["self", "rows", "groups", "distance"] (spOInit T.C_Offset) := by
  refine T.F_Offset___init__.ok sc_Offset___init__ (fun vs H Q E h => ?_) (fun cdv A outer s H vs Q E hr h => ?_)
  · obtain ⟨p, dx, r, g, d, rfl, _⟩ := h
    rfl
  obtain ⟨p, dx, r, g, d, rfl, hp, hb, q⟩ := h
  refine ⟨_, (pss_cons (ps_if (pt_not (pt_val (pe_call (ok_possible T) (hr.mono (by decide)) (by rfl) T.g_possible T.F_possible.kp T.b_possible .nil pass0 (pa_cons (pv 1) (pa_cons (pv 2) (pa_cons (pv 3) pa_nil)))))) (pss_one ps_never) pss_nil)
      (pss_cons (ps_fld (pv 0) (pv 1) rfl)
      (pss_cons (ps_fld (pv 0) (pv 2) rfl)
      (pss_cons (ps_fld (pv 0) (pv 3) rfl)
      (pss_one (ps_fld (pv 0) (pe_call (ok_zone_of T) (hr.mono (by decide)) (by rfl) T.g_zone_of T.F_zone_of.kp T.b_zone_of .nil pass0 (pa_cons (pv 1) (pa_cons (pv 2) pa_nil))) rfl)))))), ?_⟩
  try simp only [nox_K, cx_K]
  wtm_at "rd"
  refine ⟨r, g, d, rfl, ?_⟩
  wtm_at "rd"
  rw [hb]
  wtm_at "rdi"
  refine r_put hp T.c_Offset T.nf_Offset_rows (by decide) ?_
  wtm_at "rd"
  refine r_put upd_same T.c_Offset T.nf_Offset_groups (by have := putF_len "rows" (.int r) []; exact Nat.lt_of_le_of_lt this (by decide)) ?_
  wtm_at "rd"
  refine r_put upd_same T.c_Offset T.nf_Offset_distance (Nat.lt_of_le_of_lt (Nat.le_trans (putF_len _ _ _) (Nat.succ_le_succ (putF_len _ _ _))) (by decide)) ?_
  wtm_at "rd"
  refine ⟨r, g, rfl, ?_⟩
  wtm_at "rd"
  refine r_put upd_same T.c_Offset T.nf_Offset_zone (Nat.lt_of_le_of_lt (Nat.le_trans (putF_len _ _ _) (Nat.succ_le_succ (Nat.le_trans (putF_len _ _ _) (Nat.succ_le_succ (putF_len _ _ _))))) (by decide)) ?_
  wtm_at "rd"
  refine q _ ⟨dx, upd_same⟩ fun b o e nb => ?_
  rw [upd_ne nb, upd_ne nb, upd_ne nb, upd_ne nb]
  exact e
theorem ok_Offset_fewest_rows (T : Txt K mg) : FnOk P w K mg base CX0 1 T.f_Offset_fewest_rows T.d_Offset_fewest_rows ["self"] (spOFew T.C_Offset) := by
  refine T.F_Offset_fewest_rows.ok sc_Offset_fewest_rows (fun vs H Q E h => ?_) (fun cdv A outer s H vs Q E hr h => ?_)
  · obtain ⟨p, r, g, d, rfl, _⟩ := h
    rfl
  obtain ⟨p, r, g, d, rfl, o, q⟩ := h
  refine ⟨_, (pss_one (ps_ret (pe_op op_add pe_int (pe_callB c_abs (by rfl) T.z_abs (by decide +kernel) (pa_cons (pe_fld (pv 0) rfl) pa_nil))))), ?_⟩
  try simp only [nox_K, cx_K]
  wtm_at "rd"
  refine r_rows T o ?_
  wtm_at "rd"
  exact q
theorem ok_Offset___neg__ (T : Txt K mg) : FnOk P w K mg base CX0 4 T.f_Offset___neg__ T.d_Offset___neg__ ["self"] (spONeg T.C_Offset) := by
  refine T.F_Offset___neg__.ok sc_Offset___neg__ (fun vs H Q E h => ?_) (fun cdv A outer s H vs Q E hr h => ?_)
  · obtain ⟨p, r, g, d, rfl, _⟩ := h
    rfl
  obtain ⟨p, r, g, d, rfl, o, hb, q⟩ := h
  refine ⟨_, (pss_one (ps_ret (pe_make T.m_Offset (ok_Offset___init__ T) (hr.mono (by decide)) (by rfl) T.g_Offset T.b_Offset___init__ .nil pass0 (pa_cons (pe_un un_neg (pe_fld (pv 0) rfl)) (pa_cons (pe_un un_neg (pe_fld (pv 0) rfl)) (pa_cons (pe_un un_neg (pe_fld (pv 0) rfl)) pa_nil)))))), ?_⟩
  try simp only [nox_K, cx_K]
  wtm_at "rd"
  refine r_rows T o ?_
  wtm_at "rd"
  refine r_groups T o ?_
  wtm_at "rd"
  refine r_distance T o ?_
  wtm_at "rd"
  exact make_off hb q
theorem ok_Offset___add__ (T : Txt K mg) : FnOk P w K mg base CX0 4 T.f_Offset___add__ T.d_Offset___add__ ["self", "other"] (spOAdd T.C_Offset) := by
  refine T.F_Offset___add__.ok sc_Offset___add__ (fun vs H Q E h => ?_) (fun cdv A outer s H vs Q E hr h => ?_)
  · obtain ⟨p, p2, r, g, d, r', g', d', rfl, _⟩ := h
    rfl
  obtain ⟨p, p2, r, g, d, r', g', d', rfl, o, o2, hb, q⟩ := h
  refine ⟨_, (pss_cons (ps_if (pt_not (pt_val (pe_callB call_isi (by rfl) T.z_isinstance (by decide +kernel) (pa_cons (pv 1) (pa_cons (pe_glob (v := .ref T.C_Offset) rfl T.g_Offset rfl) pa_nil))))) (pss_one ps_never) pss_nil)
      (pss_one (ps_ret (pe_make T.m_Offset (ok_Offset___init__ T) (hr.mono (by decide)) (by rfl) T.g_Offset T.b_Offset___init__ .nil pass0 (pa_cons (pe_op op_add (pe_fld (pv 0) rfl) (pe_fld (pv 1) rfl)) (pa_cons (pe_op op_add (pe_fld (pv 0) rfl) (pe_fld (pv 1) rfl)) (pa_cons (pe_op op_add (pe_fld (pv 0) rfl) (pe_fld (pv 1) rfl)) pa_nil))))))), ?_⟩
  try simp only [nox_K, cx_K]
  wtm_at "rd"
  refine r_isi (.own _) (off_ty T o2) kit_self ?_
  wtm_at "rdi"
  refine r_rows T o ?_
  wtm_at "rd"
  refine r_rows T o2 ?_
  wtm_at "rd"
  refine r_groups T o ?_
  wtm_at "rd"
  refine r_groups T o2 ?_
  wtm_at "rd"
  refine r_distance T o ?_
  wtm_at "rd"
  refine r_distance T o2 ?_
  wtm_at "rd"
  exact make_off hb q
theorem ok_Offset___eq__ (T : Txt K mg) : FnOk P w K mg base CX0 1 T.f_Offset___eq__ T.d_Offset___eq__ ["self", "other"] (spOEq T.C_Offset) := by
  refine T.F_Offset___eq__.ok sc_Offset___eq__ (fun vs H Q E h => ?_) (fun cdv A outer s H vs Q E hr h => ?_)
  · obtain ⟨p, p2, r, g, d, r', g', d', rfl, _⟩ := h
    rfl
  obtain ⟨p, p2, r, g, d, r', g', d', rfl, o, o2, q⟩ := h
  refine ⟨_, (pss_cons (ps_if (pt_not (pt_val (pe_callB call_isi (by rfl) T.z_isinstance (by decide +kernel) (pa_cons (pv 1) (pa_cons (pe_glob (v := .ref T.C_Offset) rfl T.g_Offset rfl) pa_nil))))) (pss_one (ps_ret pe_bl)) pss_nil)
      (pss_one (ps_ret (pe_and (pe_cmpR op_eq (pe_fld (pv 0) rfl) (pe_fld (pv 1) rfl) (nomark _)) (pe_and (pe_cmpR op_eq (pe_fld (pv 0) rfl) (pe_fld (pv 1) rfl) (nomark _)) (pe_one (pe_cmpR op_eq (pe_fld (pv 0) rfl) (pe_fld (pv 1) rfl) (nomark _)))))))), ?_⟩
  try simp only [nox_K, cx_K]
  wtm_at "rd"
  refine r_isi (.own _) (off_ty T o2) kit_self ?_
  wtm_at "rdi"
  refine r_rows T o ?_
  wtm_at "rd"
  refine r_rows T o2 ?_
  wtm_at "rd"
  refine r_ite (fun e1 => ?_) (fun e1 => ?_)
  · rw [decide_eq_true e1, Bool.true_and] at q
    wtm_at "rd"
    refine r_groups T o ?_
    wtm_at "rd"
    refine r_groups T o2 ?_
    wtm_at "rd"
    refine r_ite (fun e2 => ?_) (fun e2 => ?_)
    · rw [decide_eq_true e2, Bool.true_and] at q
      wtm_at "rd"
      refine r_distance T o ?_
      wtm_at "rd"
      refine r_distance T o2 ?_
      wtm_at "rd"
      exact q
    · rw [decide_eq_false e2, Bool.false_and] at q
      exact q
  · rw [decide_eq_false e1, Bool.false_and] at q
    exact q
end

structure Keys (ks : List Int) : Prop where
  pos : 0 < ks.length
  few : ks.length ≤ 16
  up : ∀ i : Nat, i + 1 < ks.length → kAt ks i ≤ kAt ks (i + 1)
structure Grp (ks gs : List Int) : Prop where
  len : gs.length = ks.length
  st : ∀ i : Nat, i + 1 < ks.length → kAt gs (i + 1) = kAt gs i + (if kAt ks (i + 1) = kAt ks i then 0 else 1)
theorem along {ks gs : List Int} (hk : Keys ks) (hg : Grp ks gs) (r n : Nat) : r + n < ks.length →
    0 ≤ kAt gs (r + n) - kAt gs r ∧ kAt gs (r + n) - kAt gs r ≤ n ∧ kAt gs (r + n) - kAt gs r ≤ kAt ks (r + n) - kAt ks r ∧ (kAt gs (r + n) = kAt gs r → kAt ks (r + n) = kAt ks r) := by
  induction n with
  | zero => intro _; rw [Nat.add_zero]; omega
  | succ n ih =>
    intro h
    have i1 := ih (by omega)
    have u1 := hk.up (r + n) (by omega)
    have s1 := hg.st (r + n) (by omega)
    rw [show r + (n + 1) = r + n + 1 from rfl]
    by_cases e : kAt ks (r + n + 1) = kAt ks (r + n)
    · rw [if_pos e] at s1
      omega
    · rw [if_neg e] at s1
      omega
theorem apart {ks gs : List Int} (hk : Keys ks) (hg : Grp ks gs) {r j : Nat} (hr : r < ks.length) (hj : j < ks.length) :
    ((r : Int) ≤ j ∧ 0 ≤ kAt gs j - kAt gs r ∧ kAt gs j - kAt gs r ≤ (j : Int) - r ∧ kAt gs j - kAt gs r ≤ kAt ks j - kAt ks r ∧ (kAt gs j = kAt gs r → kAt ks j = kAt ks r)) ∨
    ((j : Int) ≤ r ∧ 0 ≤ kAt gs r - kAt gs j ∧ kAt gs r - kAt gs j ≤ (r : Int) - j ∧ kAt gs r - kAt gs j ≤ kAt ks r - kAt ks j ∧ (kAt gs j = kAt gs r → kAt ks j = kAt ks r)) := by
  by_cases h : r ≤ j
  · obtain ⟨n, rfl⟩ := Nat.exists_eq_add_of_le h
    have z := along hk hg r n hj
    exact .inl ⟨by omega, by omega, by omega, by omega, z.2.2.2⟩
  · obtain ⟨n, rfl⟩ := Nat.exists_eq_add_of_le (Nat.le_of_not_le h)
    have z := along hk hg j n hr
    exact .inr ⟨by omega, by omega, by omega, by omega, fun e => (z.2.2.2 e.symm).symm⟩
theorem poss_of {ks gs : List Int} (hk : Keys ks) (hg : Grp ks gs) {r j : Nat} (hr : r < ks.length) (hj : j < ks.length) : possB ((j : Int) - r) (kAt gs j - kAt gs r) (kAt ks j - kAt ks r) = true := by
  have z := apart hk hg hr hj
  unfold possB
  rw [decide_eq_true_eq]
  omega
def zoneL (ks : List Int) (r j : Nat) : Str := if r = j then "self" else if kAt ks r = kAt ks j then (if r < j then "after" else "before") else (if kAt ks r < kAt ks j then "future" else "past")
theorem zone_of_L {ks gs : List Int} (hk : Keys ks) (hg : Grp ks gs) {r j : Nat} (hr : r < ks.length) (hj : j < ks.length) : zoneS ((j : Int) - r) (kAt gs j - kAt gs r) = zoneL ks r j := by
  have z := apart hk hg hr hj
  unfold zoneS zoneL
  by_cases e1 : r = j
  · rw [if_pos e1, if_pos (by omega)]
  rw [if_neg e1, if_neg (by omega)]
  by_cases e2 : kAt ks r = kAt ks j
  · rw [if_pos e2, if_pos (by omega)]
    by_cases e3 : r < j
    · rw [if_pos e3, if_pos (by omega)]
    · rw [if_neg e3, if_neg (by omega)]
  · rw [if_neg e2, if_neg (by omega)]
    by_cases e3 : kAt ks r < kAt ks j
    · rw [if_pos e3, if_pos (by omega)]
    · rw [if_neg e3, if_neg (by omega)]
def someB (d g k : Int) : Bool := decide ((0 ≤ d ∧ ((d = 0 ∨ g = 0) ∧ g = 0 ∧ k = 0 ∨ ¬ (d = 0 ∨ g = 0) ∧ 1 ≤ g ∧ g ≤ d ∧ g ≤ k)) ∨ (d < 0 ∧ ((d = 0 ∨ g = 0) ∧ g = 0 ∧ k = 0 ∨ ¬ (d = 0 ∨ g = 0) ∧ 1 ≤ -g ∧ -g ≤ -d ∧ -g ≤ -k)))
theorem poss_some (d g k : Int) : possB d g k = someB d g k := by
  unfold possB someB
  rw [decide_eq_decide]
  omega
def spKeys : Sp := fun vs H Q _ => ∃ (d c r : Addr), vs = [.ref d] ∧ Drw H d c r ∧ ∀ (p : Addr) (ks : List Int) (H' : Hp), Keys ks → H p = none → H' p = some (.lst (ks.map V.int)) → Drw H' d c r → Ext d r H H' → Q (.ref p) H'
def spGroups : Sp := fun vs H Q _ => ∃ (p : Addr) (ks : List Int), vs = [.ref p] ∧ H p = some (.lst (ks.map V.int)) ∧ Keys ks ∧ ∀ (q : Addr) (gs : List Int) (H' : Hp), Grp ks gs → H q = none → H' q = some (.lst (gs.map V.int)) → Same H H' → Q (.ref q) H'
def spZone3 : Sp := fun vs H Q _ => ∃ (p : Addr) (ks : List Int) (r j : Nat), vs = [.ref p, .int r, .int j] ∧ H p = some (.lst (ks.map V.int)) ∧ r < ks.length ∧ j < ks.length ∧ ∀ H', Same H H' → Q (.str (zoneL ks r j)) H'
def spOffset (C : Addr) : Sp := fun vs H Q _ => ∃ (p q : Addr) (ks gs : List Int) (r j : Nat), vs = [.ref p, .ref q, .int r, .int j] ∧ H p = some (.lst (ks.map V.int)) ∧ H q = some (.lst (gs.map V.int)) ∧ Keys ks ∧ Grp ks gs ∧ r < ks.length ∧ j < ks.length ∧
  ∀ o H', H o = none → Same H H' → OffAt C H' o ((j : Int) - r) (kAt gs j - kAt gs r) (kAt ks j - kAt ks r) → Q (.ref o) H'
def spPairs : Sp := fun vs H Q _ => ∃ (p q : Addr) (ks gs : List Int), vs = [.ref p, .ref q] ∧ H p = some (.lst (ks.map V.int)) ∧ H q = some (.lst (gs.map V.int)) ∧ Keys ks ∧ Grp ks gs ∧ ∀ H', Same H H' → Q (.bl true) H'
def spBeside (C : Addr) : Sp := fun vs H Q _ => ∃ (d c r o : Addr) (x y z : Int), vs = [.ref d, .ref o] ∧ Drw H d c r ∧ o ≠ d ∧ o ≠ r ∧ OffAt C H o x y z ∧ ∀ H', Drw H' d c r → Ext d r H H' → Q (.bl true) H'
def spTriples : Sp := fun vs H Q _ => ∃ (d c r p q : Addr) (ks gs : List Int), vs = [.ref d, .ref p, .ref q] ∧ Drw H d c r ∧ p ≠ d ∧ p ≠ r ∧ q ≠ d ∧ q ≠ r ∧ H p = some (.lst (ks.map V.int)) ∧ H q = some (.lst (gs.map V.int)) ∧ Keys ks ∧ Grp ks gs ∧ ∀ H', Drw H' d c r → Ext d r H H' → Q (.bl true) H'
def spLaw (K : PySem.W.Frag) : Sp := fun vs H Q _ => ∃ (a : Addr) (ns : List Int), vs = [.ref a] ∧ SqL K H a (ns.map V.int) ∧ ns.length ≤ 63 ∧ ∀ H', Q (.bl true) H'
section
variable {P : Program} {w : World} {K : PySem.W.Frag} {mg : Str → Option Value} {base : Heap}

theorem neg_off {C : Addr} {H : Hp} {Q : VK} {E : XK} {p : Addr} {r g d : Int} (o : OffAt C H p r g d) (hb : possB (-r) (-g) (-d) = true) (h : ∀ x H', H x = none → Same H H' → OffAt C H' x (-r) (-g) (-d) → Q (.ref x) H') : rNegO C (spONeg C) E (.ref p) H Q := by
  obtain ⟨dx, e⟩ := id o
  exact ⟨p, dx, _, rfl, e, p, r, g, d, rfl, o, hb, h⟩
theorem ne_off (T : Txt K mg) {H : Hp} {Q : VK} {E : XK} {p q : Addr} {r g d r' g' d' : Int} (o : OffAt T.C_Offset H p r g d) (o2 : OffAt T.C_Offset H q r' g' d') (h : Q (.bl (!(decide (r = r') && (decide (g = g') && decide (d = d'))))) H) : rNeO K T.C_Offset (spOEq T.C_Offset) E (.ref p) (.ref q) H Q := by
  obtain ⟨dx, e⟩ := id o
  exact ⟨p, dx, _, _, rfl, e, off_ty T o2, T.nt_Offset, p, q, r, g, d, r', g', d', rfl, o, o2, _, rfl, h⟩
theorem add_off {C : Addr} {H : Hp} {Q : VK} {E : XK} {p q : Addr} {r g d r' g' d' : Int} (o : OffAt C H p r g d) (o2 : OffAt C H q r' g' d') (hb : possB (r + r') (g + g') (d + d') = true) (h : ∀ x H', H x = none → Same H H' → OffAt C H' x (r + r') (g + g') (d + d') → Q (.ref x) H') : rAddO C (spOAdd C) E (.ref p) (.ref q) H Q := by
  obtain ⟨dx, e⟩ := id o
  obtain ⟨dy, e2⟩ := id o2
  exact ⟨p, dx, _, q, dy, _, rfl, rfl, e, e2, p, q, r, g, d, r', g', d', rfl, o, o2, hb, h⟩
theorem ok__law_offset (T : Txt K mg) : FnOk P w K mg base CX0 4 T.f__law_offset T.d__law_offset ["_law_keys_here", "_law_groups_here", "_law_r", "_law_j"] (spOffset T.C_Offset) := by
  refine T.F__law_offset.ok sc__law_offset (fun vs H Q E h => ?_) (fun cdv A outer s H vs Q E hr h => ?_)
  · obtain ⟨p, p2, ks, gs, r, j, rfl, _⟩ := h
    rfl
  obtain ⟨p, p2, ks, gs, r, j, rfl, hp, hq, hk, hg, hr1, hj1, q⟩ := h
  refine ⟨_, (pss_one (ps_ret (pe_make T.m_Offset (ok_Offset___init__ T) (hr.mono (by decide)) (by rfl) T.g_Offset T.b_Offset___init__ .nil pass0 (pa_cons (pe_op op_sub (pv 3) (pv 2)) (pa_cons (pe_op op_sub (pe_ix (r := rIxL K) ix_list (pv 1) (pv 3) (fun _ _ => rfl)) (pe_ix (r := rIxL K) ix_list (pv 1) (pv 2) (fun _ _ => rfl))) (pa_cons (pe_op op_sub (pe_ix (r := rIxL K) ix_list (pv 0) (pv 3) (fun _ _ => rfl)) (pe_ix (r := rIxL K) ix_list (pv 0) (pv 2) (fun _ _ => rfl))) pa_nil)))))), ?_⟩
  try simp only [nox_K, cx_K]
  have lg := hg.len
  wtm_at "rd"
  exact make_off (poss_of hk hg hr1 hj1) q
theorem ok__law_zone (T : Txt K mg) : FnOk P w K mg base CX0 1 T.f__law_zone T.d__law_zone ["_law_keys_here", "_law_r", "_law_j"] spZone3 := by
  refine T.F__law_zone.ok sc__law_zone (fun vs H Q E h => ?_) (fun cdv A outer s H vs Q E hr h => ?_)
  · obtain ⟨p, ks, r, j, rfl, _⟩ := h
    rfl
  obtain ⟨p, ks, r, j, rfl, hp, hr1, hj1, q⟩ := h
  refine ⟨_, (pss_cons (ps_if (pt_cmpR op_eq (pv 1) (pv 2) (nomark _)) (pss_one (ps_ret pe_str)) pss_nil)
      (pss_cons (ps_if (pt_cmpR op_eq (pe_ix (r := rIxL K) ix_list (pv 0) (pv 1) (fun _ _ => rfl)) (pe_ix (r := rIxL K) ix_list (pv 0) (pv 2) (fun _ _ => rfl)) (nomark _)) (pss_one (ps_ret (pe_ix (r := rIxL K) ix_list (pe_lst (pa_cons pe_str (pa_cons pe_str pa_nil))) (pe_callTy c_intB (by rfl) T.z_int (by decide +kernel) (pa_cons (pe_cmpR op_gt (pv 2) (pv 1) (nomark _)) pa_nil)) (fun _ _ => rfl)))) pss_nil)
      (pss_one (ps_ret (pe_ix (r := rIxL K) ix_list (pe_lst (pa_cons pe_str (pa_cons pe_str pa_nil))) (pe_callTy c_intB (by rfl) T.z_int (by decide +kernel) (pa_cons (pe_cmpR op_gt (pe_ix (r := rIxL K) ix_list (pv 0) (pv 2) (fun _ _ => rfl)) (pe_ix (r := rIxL K) ix_list (pv 0) (pv 1) (fun _ _ => rfl)) (nomark _)) pa_nil)) (fun _ _ => rfl)))))), ?_⟩
  try simp only [nox_K, cx_K]
  unfold zoneL at q
  wtm_at "rd"
  refine r_ite (fun e1 => ?_) (fun e1 => ?_)
  · rw [if_pos (by omega)] at q
    wtm_at "rd"
    exact q _ (Same.refl _)
  rw [if_neg (by omega)] at q
  wtm_at "rd"
  refine r_ite (fun e2 => ?_) (fun e2 => ?_)
  · rw [if_pos e2] at q
    wtm_at "rd"
    refine r_new rfl fun l nl => ?_
    wtm_at "rd"
    by_cases e3 : r < j
    · rw [if_pos e3] at q
      rw [decide_eq_true (show (r : Int) < j by omega)]
      refine r_ixL (SqL.of upd_same) (v := .str "after") rfl ?_
      exact q _ (same_new nl)
    · rw [if_neg e3] at q
      rw [decide_eq_false (show ¬ (r : Int) < j by omega)]
      refine r_ixL (SqL.of upd_same) (v := .str "before") rfl ?_
      exact q _ (same_new nl)
  · rw [if_neg e2] at q
    wtm_at "rd"
    refine r_new rfl fun l nl => ?_
    wtm_at "rd"
    refine r_ixL (SqL.of ((same_new nl) _ _ hp)) (by exact ati_n (by omega)) ?_
    wtm_at "rd"
    refine r_ixL (SqL.of ((same_new nl) _ _ hp)) (by exact ati_n (by omega)) ?_
    wtm_at "rd"
    by_cases e3 : kAt ks r < kAt ks j
    · rw [if_pos e3] at q
      rw [decide_eq_true e3]
      refine r_ixL (SqL.of upd_same) (v := .str "future") rfl ?_
      exact q _ (same_new nl)
    · rw [if_neg e3] at q
      rw [decide_eq_false e3]
      refine r_ixL (SqL.of upd_same) (v := .str "past") rfl ?_
      exact q _ (same_new nl)
theorem ok__law_keys (T : Txt K mg) : FnOk P w K mg base CX0 2 T.f__law_keys T.d__law_keys ["_law_draws"] spKeys := by
  refine T.F__law_keys.ok sc__law_keys (fun vs H Q E h => ?_) (fun cdv A outer s H vs Q E hr h => ?_)
  · obtain ⟨d, c, r, rfl, _⟩ := h
    rfl
  obtain ⟨d, c, r, rfl, D, q⟩ := h
  refine ⟨_, (pss_cons (ps_set (i := 1) sc__law_keys.nd rfl (Or.inl rfl) (pe_lst (pa_cons (pe_op op_sub (pe_call (ok__law_draw T) (hr.mono (by decide)) (by rfl) T.g__law_draw T.F__law_draw.kp T.b__law_draw .nil pass0 (pa_cons (pv 0) (pa_cons pe_int pa_nil))) pe_int) pa_nil)))
      (pss_cons (ps_for PassesOwn.never rfl (pi_range1 (by rfl) T.z_range (pa_cons (pe_call (ok__law_draw T) (hr.mono (by decide)) (by rfl) T.g__law_draw T.F__law_draw.kp T.b__law_draw .nil pass0 (pa_cons (pv 0) (pa_cons pe_int pa_nil))) pa_nil)) (pg_name (i := 2) sc__law_keys.nd rfl (Or.inl rfl)) (pss_cons (ps_set (i := 3) sc__law_keys.nd rfl (Or.inl rfl) (pe_call (ok__law_draw T) (hr.mono (by decide)) (by rfl) T.g__law_draw T.F__law_draw.kp T.b__law_draw .nil pass0 (pa_cons (pv 0) (pa_cons pe_int pa_nil))))
      (pss_cons (ps_set (i := 4) sc__law_keys.nd rfl (Or.inl rfl) pe_int)
      (C8.pss_cut (ps_if (PW.pt (pw_or (pt_cmpR op_eq (pv 3) pe_int (nomark _)) (pw_or1 (pt_cmpR op_eq (pv 3) pe_int (nomark _))))) (pss_one (ps_set (i := 4) sc__law_keys.nd rfl (Or.inl rfl) (pe_op op_add pe_int (pe_call (ok__law_draw T) (hr.mono (by decide)) (by rfl) T.g__law_draw T.F__law_draw.kp T.b__law_draw .nil pass0 (pa_cons (pv 0) (pa_cons pe_int pa_nil)))))) pss_nil)
      (C8.pss_cut (ps_if (pt_cmpR op_eq (pv 3) pe_int (nomark _)) (pss_one (ps_set (i := 4) sc__law_keys.nd rfl (Or.inl rfl) (pe_op op_add pe_int (pe_call (ok__law_draw T) (hr.mono (by decide)) (by rfl) T.g__law_draw T.F__law_draw.kp T.b__law_draw .nil pass0 (pa_cons (pv 0) (pa_cons (pe_op op_pow pe_int pe_int) pa_nil)))))) pss_nil)
      (C8.pss_cut (ps_if (pt_cmpR op_eq (pv 3) pe_int (nomark _)) (pss_one (ps_set (i := 4) sc__law_keys.nd rfl (Or.inl rfl) (pe_ix (r := rIxL K) ix_list (pe_lst (pa_cons pe_int (pa_cons (pe_op op_pow pe_int pe_int) pa_nil))) (pe_call (ok__law_draw T) (hr.mono (by decide)) (by rfl) T.g__law_draw T.F__law_draw.kp T.b__law_draw .nil pass0 (pa_cons (pv 0) (pa_cons pe_int pa_nil))) (fun _ _ => rfl)))) pss_nil)
      (pss_one (ps_expr (pe_bm PySem.F.plainAttrs_list PySem.F.slot_list_append PySem.F.type_list_append mt_append (pv 1) (pa_cons (pe_op op_add (pe_ix (r := rIxL K) ix_list (pv 1) (pe_un un_neg pe_int) (fun _ _ => rfl)) (pv 4)) pa_nil))))))))))
      (pss_one (ps_ret (pv 1))))), ?_⟩
  try simp only [nox_K, cx_K]
  wtm_at "rd"
  refine ⟨d, c, r, 9, rfl, D, by decide, by decide, fun k0 H0 l0 u0 D0 E0' => ?_⟩
  wtm_at "rd"
  refine r_new rfl fun p np => ?_
  have hp0 : H p = none := D.back E0' np
  wtm_at "rd"
  refine r_for (r_rng1 ?_)
  wtm_at "rd"
  refine ⟨d, c, r, 16, rfl, D0.new np, by decide, by decide, fun n H1 l1 u1 D1 E1 => ?_⟩
  wtm_at "rd"
  refine r_upto (by omega) (by omega) ?_
  refine for_range (fun i σ H' => ∃ (ks : List Int) (x2 x3 x4 : Option V), σ = [some (.ref d), some (.ref p), x2, x3, x4] ∧ H' p = some (.lst (ks.map V.int)) ∧ ks.length = i + 1 ∧ (∀ i : Nat, i + 1 < ks.length → kAt ks i ≤ kAt ks (i + 1)) ∧ Drw H' d c r ∧ Ext d r H H') ?_ ?_ ?_
  · refine ⟨[k0 - 4], _, _, _, rfl, E1 _ _ upd_same (D0.ned np) (D0.ner np), rfl, ?_, D1, (E0'.trans (Ext.of (same_new np))).trans E1⟩
    intro i hi
    exact absurd hi (by simp)
  · rintro i σ H2 hi ⟨ks, x2, x3, x4, rfl, hp, hl, hu, D2, E2⟩
    wtm_at "rd"
    refine ⟨d, c, r, 6, rfl, D2, by decide, by decide, fun k3 H3 l3 u3 D3 E3 => ?_⟩
    have hpd : p ≠ d := D.ned hp0
    have hpr : p ≠ r := D.ner hp0
    have hp3 := E3 _ _ hp hpd hpr
    wtm_at "rd"
    refine ⟨fun σ H' => ∃ (step : Int), σ = [some (.ref d), some (.ref p), some (.int (0 + i)), some (.int k3), some (.int step)] ∧ 0 ≤ step ∧ H' p = some (.lst (ks.map V.int)) ∧ Drw H' d c r ∧ Ext d r H H', ?_, ?_⟩
    · wtm_at "rdi"
      all_goals try exact ⟨_, rfl, by omega, hp3, D3, E2.trans E3⟩
      all_goals refine ⟨d, c, r, 5, rfl, D3, by decide, by decide, fun k4 H4 l4 u4 D4 E4 => ?_⟩
      all_goals wtm_at "rd"
      all_goals exact ⟨_, rfl, by omega, E4 _ _ hp3 hpd hpr, D4, (E2.trans E3).trans E4⟩
    rintro σ H4 ⟨step, rfl, hst, hp4, D4, E4⟩
    refine ⟨fun σ H' => ∃ (step : Int), σ = [some (.ref d), some (.ref p), some (.int (0 + i)), some (.int k3), some (.int step)] ∧ 0 ≤ step ∧ H' p = some (.lst (ks.map V.int)) ∧ Drw H' d c r ∧ Ext d r H H', ?_, ?_⟩
    · wtm_at "rdi"
      · refine r_I ⟨by decide, by decide, by decide⟩ ?_
        wtm_at "rd"
        refine ⟨d, c, r, _, rfl, D4, by decide, by decide, fun k5 H5 l5 u5 D5 E5 => ?_⟩
        wtm_at "rd"
        exact ⟨_, rfl, by omega, E5 _ _ hp4 hpd hpr, D5, E4.trans E5⟩
      · exact ⟨_, rfl, hst, hp4, D4, E4⟩
    rintro σ H5 ⟨step, rfl, hst, hp5, D5, E5⟩
    refine ⟨fun σ H' => ∃ (step : Int), σ = [some (.ref d), some (.ref p), some (.int (0 + i)), some (.int k3), some (.int step)] ∧ 0 ≤ step ∧ H' p = some (.lst (ks.map V.int)) ∧ Drw H' d c r ∧ Ext d r H H', ?_, ?_⟩
    · wtm_at "rdi"
      · refine r_I ⟨by decide, by decide, by decide⟩ ?_
        wtm_at "rd"
        refine r_new rfl fun l nl => ?_
        wtm_at "rd"
        refine ⟨d, c, r, _, rfl, D5.new nl, by decide, by decide, fun k6 H6 l6 u6 D6 E6 => ?_⟩
        have hl6 : H6 l = some (.lst ([1, 10 ^ (12 : Int).toNat].map V.int)) := E6 _ _ upd_same (D5.ned nl) (D5.ner nl)
        refine r_ixL (SqL.of hl6) (ati_int l6 u6) ?_
        wtm_at "rd"
        refine ⟨_, rfl, ?_, E6 _ _ ((same_new nl) _ _ hp5) hpd hpr, D6, (E5.trans (Ext.of (same_new nl))).trans E6⟩
        obtain e | e : k6 = 0 ∨ k6 = 1 := by omega
        · subst e; decide
        · subst e; decide
      · exact ⟨_, rfl, hst, hp5, D5, E5⟩
    rintro σ H6 ⟨step, rfl, hst, hp6, D6, E6⟩
    wtm_at "rd"
    refine r_tyL (SqL.of hp6) ?_
    wtm_at "rd"
    refine r_ixL (SqL.of hp6) (ati_last (by omega)) ?_
    wtm_at "rd"
    refine r_app hp6 (by rw [List.length_map]; exact small1000 (by omega)) ?_
    wtm_at "rd"
    refine ⟨ks ++ [kAt ks (ks.length - 1) + step], _, _, _, rfl, ?_, ?_, ?_, ?_, ?_⟩
    · rw [upd_same, List.map_append]
      rfl
    · rw [List.length_append, hl]
      rfl
    · intro j hj
      rw [List.length_append] at hj
      have hj : j + 1 < ks.length + 1 := hj
      by_cases e : j + 1 < ks.length
      · have := hu j e
        unfold kAt at this ⊢
        rw [getD_left (by omega), getD_left (by omega)]
        exact this
      · have e2 : j + 1 = ks.length := by omega
        unfold kAt
        rw [getD_left (by omega), e2, getD_end, show ks.length - 1 = j by omega]
        omega
    · exact D6.put hpd hpr (D.nec hp0)
    · exact fun b o e n1 n2 => by
        rw [upd_ne (ne_of_none e hp0)]
        exact E6 b o e n1 n2
  · rintro σ H2 ⟨ks, x2, x3, x4, rfl, hp, hl, hu, D2, E2⟩
    wtm_at "rd"
    exact q p ks H2 ⟨by omega, by omega, hu⟩ hp0 hp D2 E2
theorem ok__law_groups (T : Txt K mg) : FnOk P w K mg base CX0 1 T.f__law_groups T.d__law_groups ["_law_keys_here"] spGroups := by
  refine T.F__law_groups.ok sc__law_groups (fun vs H Q E h => ?_) (fun cdv A outer s H vs Q E hr h => ?_)
  · obtain ⟨p, ks, rfl, _⟩ := h
    rfl
  obtain ⟨p, ks, rfl, hp, hk, q⟩ := h
  refine ⟨_, (pss_cons (ps_set (i := 1) sc__law_groups.nd rfl (Or.inl rfl) (pe_lst (pa_cons pe_int pa_nil)))
      (pss_cons (ps_for PassesOwn.never rfl (pi_range2 (by rfl) T.z_range (pa_cons pe_int (pa_cons (pe_callB (r := rLenL K) (id := "len") c_len (by rfl) T.z_len (by decide +kernel) (pa_cons (pv 0) pa_nil)) pa_nil))) (pg_name (i := 2) sc__law_groups.nd rfl (Or.inl rfl)) (pss_one (ps_expr (pe_bm PySem.F.plainAttrs_list PySem.F.slot_list_append PySem.F.type_list_append mt_append (pv 1) (pa_cons (pe_op op_add (pe_ix (r := rIxL K) ix_list (pv 1) (pe_un un_neg pe_int) (fun _ _ => rfl)) (pe_callTy c_intB (by rfl) T.z_int (by decide +kernel) (pa_cons (pe_cmpR op_ne (pe_ix (r := rIxL K) ix_list (pv 0) (pv 2) (fun _ _ => rfl)) (pe_ix (r := rIxL K) ix_list (pv 0) (pe_op op_sub (pv 2) pe_int) (fun _ _ => rfl)) (nomark _)) pa_nil))) pa_nil)))))
      (pss_one (ps_ret (pv 1))))), ?_⟩
  try simp only [nox_K, cx_K]
  have k0 := hk.pos
  have k16 := hk.few
  wtm_at "rd"
  refine r_new rfl fun l nl => ?_
  have hpl := (same_new (o := .lst [V.int 0]) nl) _ _ hp
  have npl : p ≠ l := ne_of_none hp nl
  wtm_at "rd"
  refine r_for (r_rng2 ?_)
  wtm_at "rd"
  refine r_lenI hpl ?_
  wtm_at "rd"
  refine r_from (by decide) (by omega) ?_
  refine for_range (fun i σ H' => ∃ (gs : List Int) (x2 : Option V), σ = [some (.ref p), some (.ref l), x2] ∧ H' = upd H l (.lst (gs.map V.int)) ∧ gs.length = i + 1 ∧ (∀ j : Nat, j + 1 < i + 1 → kAt gs (j + 1) = kAt gs j + (if kAt ks (j + 1) = kAt ks j then 0 else 1))) ?_ ?_ ?_
  · exact ⟨[0], _, rfl, rfl, rfl, fun j hj => absurd hj (by omega)⟩
  · rintro i σ H' hi ⟨gs, x2, rfl, rfl, hl, hs⟩
    have e1 : (1 : Int) + (i : Int) = ((i + 1 : Nat) : Int) := by omega
    have hp' : (upd H l (.lst (gs.map V.int))) p = some (.lst (ks.map V.int)) := (upd_ne npl).trans hp
    have hi2 : i + 1 < ks.length := by omega
    rw [e1]
    wtm_at "rd"
    refine r_tyL (SqL.of upd_same) ?_
    wtm_at "rd"
    refine r_ixL (SqL.of upd_same) (ati_last (by omega)) ?_
    wtm_at "rd"
    refine r_app upd_same (by rw [List.length_map]; exact small1000 (by omega)) ?_
    wtm_at "rd"
    rw [show (((i + 1 : Nat) : Int) - 1).toNat = i by omega]
    refine ⟨gs ++ [kAt gs (gs.length - 1) + (if (!decide (kAt ks (i + 1) = kAt ks i)) = true then 1 else 0)], _, rfl, ?_, ?_, ?_⟩
    · rw [upd_upd, List.map_append]
      rfl
    · rw [List.length_append, hl]
      rfl
    · intro j hj
      unfold kAt at hs ⊢
      by_cases e : j < i
      · rw [getD_left (by omega), getD_left (by omega)]
        exact hs j (by omega)
      · have e2 : j = i := by omega
        subst e2
        rw [show j + 1 = gs.length by omega, getD_end, getD_left (by omega), show gs.length - 1 = j by omega, show gs.length = j + 1 by omega]
        by_cases e3 : ks.getD (j + 1) 0 = ks.getD j 0
        · rw [if_pos e3, decide_eq_true e3]
          rfl
        · rw [if_neg e3, decide_eq_false e3]
          rfl
  · rintro σ H' ⟨gs, x2, rfl, rfl, hl, hs⟩
    wtm_at "rd"
    exact q l gs _ ⟨by omega, fun j hj => hs j (by omega)⟩ nl upd_same (same_new nl)
theorem ok__law_pairs (T : Txt K mg) : FnOk P w K mg base CX0 6 T.f__law_pairs T.d__law_pairs ["_law_keys_here", "_law_groups_here"] spPairs := by
  refine T.F__law_pairs.ok sc__law_pairs (fun vs H Q E h => ?_) (fun cdv A outer s H vs Q E hr h => ?_)
  · obtain ⟨p, p2, ks, gs, rfl, _⟩ := h
    rfl
  obtain ⟨p, p2, ks, gs, rfl, hp, hq, hk, hg, q⟩ := h
  refine ⟨_, (pss_cons (ps_for PassesOwn.never rfl (pi_range1 (by rfl) T.z_range (pa_cons (pe_callB (r := rLenL K) (id := "len") c_len (by rfl) T.z_len (by decide +kernel) (pa_cons (pv 0) pa_nil)) pa_nil)) (pg_name (i := 2) sc__law_pairs.nd rfl (Or.inl rfl)) (pss_one (ps_for PassesOwn.never rfl (pi_range1 (by rfl) T.z_range (pa_cons (pe_callB (r := rLenL K) (id := "len") c_len (by rfl) T.z_len (by decide +kernel) (pa_cons (pv 0) pa_nil)) pa_nil)) (pg_name (i := 3) sc__law_pairs.nd rfl (Or.inl rfl)) (pss_cons (ps_if (pt_not (pt_val (pe_call (ok_possible T) (hr.mono (by decide)) (by rfl) T.g_possible T.F_possible.kp T.b_possible .nil pass0 (pa_cons (pe_op op_sub (pv 3) (pv 2)) (pa_cons (pe_op op_sub (pe_ix (r := rIxL K) ix_list (pv 1) (pv 3) (fun _ _ => rfl)) (pe_ix (r := rIxL K) ix_list (pv 1) (pv 2) (fun _ _ => rfl))) (pa_cons (pe_op op_sub (pe_ix (r := rIxL K) ix_list (pv 0) (pv 3) (fun _ _ => rfl)) (pe_ix (r := rIxL K) ix_list (pv 0) (pv 2) (fun _ _ => rfl))) pa_nil)))))) (pss_one (ps_ret pe_bl)) pss_nil)
      (pss_cons (ps_set (i := 4) sc__law_pairs.nd rfl (Or.inl rfl) (pe_call (ok__law_offset T) (hr.mono (by decide)) (by rfl) T.g__law_offset T.F__law_offset.kp T.b__law_offset .nil pass0 (pa_cons (pv 0) (pa_cons (pv 1) (pa_cons (pv 2) (pa_cons (pv 3) pa_nil))))))
      (pss_cons (ps_if (PW.pt (pw_or (pt_cmpR op_ne (pe_fld (pv 4) rfl) (pe_call (ok__law_zone T) (hr.mono (by decide)) (by rfl) T.g__law_zone T.F__law_zone.kp T.b__law_zone .nil pass0 (pa_cons (pv 0) (pa_cons (pv 2) (pa_cons (pv 3) pa_nil)))) (nomark _)) (pw_or1 (pt_cmpR op_ne (pe_meth0 (pv 4) T.c_Offset T.mt_Offset_fewest_rows (ok_Offset_fewest_rows T) (hr.mono (by decide)) T.b_Offset_fewest_rows .nil pass0) (pe_op op_add (pe_callB c_abs (by rfl) T.z_abs (by decide +kernel) (pa_cons (pe_op op_sub (pv 3) (pv 2)) pa_nil)) pe_int) (nomark _))))) (pss_one (ps_ret pe_bl)) pss_nil)
      (pss_one (ps_if (pt_cmpR (op_neO T.mt_Offset___eq__.at_ T.mt_Offset___eq__.fn T.ne_Offset T.ob_Offset (ok_Offset___eq__ T) (hr.mono (by decide)) T.b_Offset___eq__ pass0) (pe_un (un_negO T.mt_Offset___neg__.at_ T.mt_Offset___neg__.fn (ok_Offset___neg__ T) (hr.mono (by decide)) T.b_Offset___neg__ pass0) (pv 4)) (pe_call (ok__law_offset T) (hr.mono (by decide)) (by rfl) T.g__law_offset T.F__law_offset.kp T.b__law_offset .nil pass0 (pa_cons (pv 0) (pa_cons (pv 1) (pa_cons (pv 3) (pa_cons (pv 2) pa_nil))))) (nomark _)) (pss_one (ps_ret pe_bl)) pss_nil))))))))
      (pss_one (ps_ret pe_bl))), ?_⟩
  try simp only [nox_K, cx_K]
  have k0 := hk.pos
  have k16 := hk.few
  have lg := hg.len
  wtm_at "rd"
  refine r_for (r_rng1 ?_)
  wtm_at "rd"
  refine r_lenI hp ?_
  wtm_at "rd"
  refine r_upto (by omega) (by omega) ?_
  refine for_range (fun i σ H' => ∃ (x2 x3 x4 : Option V), σ = [some (.ref p), some (.ref p2), x2, x3, x4] ∧ Same H H') ⟨_, _, _, rfl, Same.refl _⟩ ?_ ?_
  · rintro i σ H1 hi ⟨x2, x3, x4, rfl, s1⟩
    have hi : i < ks.length := by omega
    rw [Int.zero_add]
    wtm_at "rd"
    refine r_for (r_rng1 ?_)
    wtm_at "rd"
    refine r_lenI (s1 _ _ hp) ?_
    wtm_at "rd"
    refine r_upto (by omega) (by omega) ?_
    refine for_range (fun j σ H' => ∃ (x3 x4 : Option V), σ = [some (.ref p), some (.ref p2), some (.int i), x3, x4] ∧ Same H H') ⟨_, _, rfl, s1⟩ ?_ ?_
    · rintro j σ H2 hj ⟨x3, x4, rfl, s2⟩
      have hj : j < ks.length := by omega
      have hp2 := s2 _ _ hp
      have hq2 := s2 _ _ hq
      rw [Int.zero_add]
      wtm_at "rd"
      refine ⟨_, _, _, rfl, ?_⟩
      rw [poss_of hk hg hi hj]
      wtm_at "rdi"
      refine ⟨p, p2, ks, gs, i, j, rfl, hp2, hq2, hk, hg, hi, hj, fun o H3 no s3 ho => ?_⟩
      have s3' := s2.trans s3
      wtm_at "rd"
      refine r_zone T ho ?_
      wtm_at "rd"
      refine ⟨p, ks, i, j, rfl, s3' _ _ hp, hi, hj, fun H4 s4 => ?_⟩
      wtm_at "rd"
      refine r_iten (fun z => absurd (zone_of_L hk hg hi hj) z) fun _ => ?_
      wtm_at "rd"
      refine off_who (ho.same s4) (by decide +kernel) (by decide +kernel) (by decide +kernel) (by decide +kernel) ?_
      wtm_at "rd"
      refine ⟨o, _, _, _, rfl, ho.same s4, ?_⟩
      wtm_at "rd"
      refine r_iten (fun z => absurd (Int.add_comm _ _) z) fun _ => ?_
      wtm_at "rdi"
      have pr := poss_of hk hg hj hi
      refine neg_off (ho.same s4) (by rw [show -((j : Int) - i) = (i : Int) - j by omega, show -(kAt gs j - kAt gs i) = kAt gs i - kAt gs j by omega, show -(kAt ks j - kAt ks i) = kAt ks i - kAt ks j by omega]; exact pr) fun o5 H5 no5 s5 ho5 => ?_
      have s5' := (s3'.trans s4).trans s5
      wtm_at "rd"
      refine ⟨p, p2, ks, gs, j, i, rfl, s5' _ _ hp, s5' _ _ hq, hk, hg, hj, hi, fun o6 H6 no6 s6 ho6 => ?_⟩
      refine ne_off T (ho5.same s6) ho6 ?_
      wtm_at "rd"
      rw [decide_eq_true (show -((j : Int) - i) = (i : Int) - j by omega), decide_eq_true (show -(kAt gs j - kAt gs i) = kAt gs i - kAt gs j by omega), decide_eq_true (show -(kAt ks j - kAt ks i) = kAt ks i - kAt ks j by omega)]
      exact ⟨_, _, rfl, s5'.trans s6⟩
    · rintro σ H2 ⟨x3, x4, rfl, s2⟩
      exact ⟨_, _, _, rfl, s2⟩
  · rintro σ H1 ⟨x2, x3, x4, rfl, s1⟩
    wtm_at "rd"
    exact q _ s1
end
section
variable {P : Program} {w : World} {K : PySem.W.Frag} {mg : Str → Option Value} {base : Heap}

def spSome1 : Sp := fun vs H Q _ => ∃ a b c : Int, vs = [.int a, .int b, .int c] ∧ 0 ≤ a ∧ Q (.bl (someB a b c)) H
theorem ok__law_some_list1 (T : Txt K mg) : FnOk P w K mg base CX0 1 T.f__law_some_list T.d__law_some_list ["_law_d", "_law_g", "_law_k"] spSome1 := by
  refine T.F__law_some_list.ok sc__law_some_list (fun vs H Q E h => ?_) (fun cdv A outer s H vs Q E hr h => ?_)
  · obtain ⟨a, b, c, rfl, _⟩ := h
    rfl
  obtain ⟨a, b, c, rfl, ha, q⟩ := h
  refine ⟨_, (pss_cons (ps_if (pt_cmpR op_lt (pv 0) pe_int (nomark _)) (pss_one ps_never) pss_nil)
      (pss_cons (ps_if (PW.pt (pw_or (pt_cmpR op_eq (pv 0) pe_int (nomark _)) (pw_or1 (pt_cmpR op_eq (pv 1) pe_int (nomark _))))) (pss_one (ps_ret (pe_and (pe_cmpR op_eq (pv 1) pe_int (nomark _)) (pe_one (pe_cmpR op_eq (pv 2) pe_int (nomark _)))))) pss_nil)
      (pss_one (ps_ret (pe_and (pe_cmpR op_le pe_int (pv 1) (nomark _)) (pe_and (pe_cmpR op_le (pv 1) (pv 0) (nomark _)) (pe_one (pe_cmpR op_ge (pv 2) (pv 1) (nomark _))))))))), ?_⟩
  wtm_at "rd"
  refine r_ite (fun e => absurd e (by omega)) (fun _ => ?_)
  wtm_at "rdi"
  all_goals (refine bl_to q ?_; rw [Bool.eq_iff_iff]; simp only [someB, decide_eq_true_eq, Bool.false_eq_true, eq_self, true_iff, false_iff]; omega)
theorem ok__law_some_list (T : Txt K mg) : FnOk P w K mg base CX0 2 T.f__law_some_list T.d__law_some_list ["_law_d", "_law_g", "_law_k"] (sp3 someB) := by
  refine T.F__law_some_list.ok sc__law_some_list (fun vs H Q E h => ?_) (fun cdv A outer s H vs Q E hr h => ?_)
  · obtain ⟨a, b, c, rfl, _⟩ := h
    rfl
  obtain ⟨a, b, c, rfl, q⟩ := h
  refine ⟨_, (pss_cons (ps_if (pt_cmpR op_lt (pv 0) pe_int (nomark _)) (pss_one (ps_ret (pe_call (ok__law_some_list1 T) (hr.mono (by decide)) (by rfl) T.g__law_some_list T.F__law_some_list.kp T.b__law_some_list .nil pass0 (pa_cons (pe_op op_sub pe_int (pv 0)) (pa_cons (pe_op op_sub pe_int (pv 1)) (pa_cons (pe_op op_sub pe_int (pv 2)) pa_nil)))))) pss_nil)
      (pss_cons (ps_if (PW.pt (pw_or (pt_cmpR op_eq (pv 0) pe_int (nomark _)) (pw_or1 (pt_cmpR op_eq (pv 1) pe_int (nomark _))))) (pss_one (ps_ret (pe_and (pe_cmpR op_eq (pv 1) pe_int (nomark _)) (pe_one (pe_cmpR op_eq (pv 2) pe_int (nomark _)))))) pss_nil)
      (pss_one (ps_ret (pe_and (pe_cmpR op_le pe_int (pv 1) (nomark _)) (pe_and (pe_cmpR op_le (pv 1) (pv 0) (nomark _)) (pe_one (pe_cmpR op_ge (pv 2) (pv 1) (nomark _))))))))), ?_⟩
  try simp only [nox_K, cx_K]
  wtm_at "rd"
  refine r_ite (fun e => ?_) (fun e => ?_)
  · wtm_at "rd"
    refine ⟨_, _, _, rfl, by omega, ?_⟩
    refine bl_to q ?_
    unfold someB
    rw [decide_eq_decide]
    omega
  wtm_at "rdi"
  all_goals (refine bl_to q ?_; rw [Bool.eq_iff_iff]; simp only [someB, decide_eq_true_eq, Bool.false_eq_true, eq_self, true_iff, false_iff]; omega)
theorem ok__law_beside (T : Txt K mg) : FnOk P w K mg base CX0 3 T.f__law_beside T.d__law_beside ["_law_draws", "_law_offset_here"] (spBeside T.C_Offset) := by
  refine T.F__law_beside.ok sc__law_beside (fun vs H Q E h => ?_) (fun cdv A outer s H vs Q E hr h => ?_)
  · obtain ⟨d, c, r, o, x, y, z, rfl, _⟩ := h
    rfl
  obtain ⟨d, c, r, o, x, y, z, rfl, D, od, or_, ho, q⟩ := h
  refine ⟨_, (pss_cons (ps_par3 (i := 2) (j := 3) (l := 4) (by rfl) sc__law_beside.nd rfl rfl rfl (by decide) (by decide) (by decide) rfl rfl rfl (pa_cons (pe_fld (pv 1) rfl) (pa_cons (pe_fld (pv 1) rfl) (pa_cons (pe_fld (pv 1) rfl) pa_nil))) (by rfl))
      (C8.pss_cut (ps_if (pt_cmpR op_eq (pe_call (ok__law_draw T) (hr.mono (by decide)) (by rfl) T.g__law_draw T.F__law_draw.kp T.b__law_draw .nil pass0 (pa_cons (pv 0) (pa_cons pe_int pa_nil))) pe_int (nomark _)) (pss_one (ps_set (i := 3) sc__law_beside.nd rfl (Or.inl rfl) (pe_op op_add (pv 3) (pe_ix (r := rIxL K) ix_list (pe_lst (pa_cons pe_int (pa_cons (pe_un un_neg pe_int) pa_nil))) (pe_call (ok__law_draw T) (hr.mono (by decide)) (by rfl) T.g__law_draw T.F__law_draw.kp T.b__law_draw .nil pass0 (pa_cons (pv 0) (pa_cons pe_int pa_nil))) (fun _ _ => rfl))))) (pss_one (ps_set (i := 4) sc__law_beside.nd rfl (Or.inl rfl) (pe_op op_add (pv 4) (pe_ix (r := rIxL K) ix_list (pe_lst (pa_cons pe_int (pa_cons (pe_un un_neg pe_int) pa_nil))) (pe_call (ok__law_draw T) (hr.mono (by decide)) (by rfl) T.g__law_draw T.F__law_draw.kp T.b__law_draw .nil pass0 (pa_cons (pv 0) (pa_cons pe_int pa_nil))) (fun _ _ => rfl))))))
      (pss_one (ps_ret (pe_cmpR op_eq (pe_call (ok_possible T) (hr.mono (by decide)) (by rfl) T.g_possible T.F_possible.kp T.b_possible .nil pass0 (pa_cons (pv 2) (pa_cons (pv 3) (pa_cons (pv 4) pa_nil)))) (pe_call (ok__law_some_list T) (hr.mono (by decide)) (by rfl) T.g__law_some_list T.F__law_some_list.kp T.b__law_some_list .nil pass0 (pa_cons (pv 2) (pa_cons (pv 3) (pa_cons (pv 4) pa_nil)))) (nomark _)))))), ?_⟩
  try simp only [nox_K, cx_K]
  wtm_at "rd"
  refine r_rows T ho ?_
  wtm_at "rd"
  refine r_groups T ho ?_
  wtm_at "rd"
  refine r_distance T ho ?_
  wtm_at "rd"
  refine ⟨fun σ H' => ∃ (y' z' : Int), σ = [some (.ref d), some (.ref o), some (.int x), some (.int y'), some (.int z')] ∧ Drw H' d c r ∧ Ext d r H H', ?_, ?_⟩
  · wtm_at "rd"
    refine ⟨d, c, r, 2, rfl, D, by decide, by decide, fun k1 H1 l1 u1 D1 E1 => ?_⟩
    wtm_at "rdi"
    all_goals refine r_new rfl fun l nl => ?_
    all_goals wtm_at "rd"
    all_goals refine ⟨d, c, r, 2, rfl, D1.new nl, by decide, by decide, fun k2 H2 l2 u2 D2 E2 => ?_⟩
    all_goals have hl2 : H2 l = some (.lst ([1, -1].map V.int)) := E2 _ _ upd_same (D1.ned nl) (D1.ner nl)
    all_goals refine r_ixL (SqL.of hl2) (ati_int l2 u2) ?_
    all_goals wtm_at "rd"
    all_goals exact ⟨_, _, rfl, D2, (E1.trans (Ext.of (same_new nl))).trans E2⟩
  rintro σ H1 ⟨y', z', rfl, D1, E1⟩
  wtm_at "rd"
  refine ⟨_, _, _, rfl, ?_⟩
  wtm_at "rd"
  refine ⟨_, _, _, rfl, ?_⟩
  wtm_at "rd"
  rw [poss_some, beq_self_eq_true]
  exact q _ D1 E1
theorem ok__law_triples (T : Txt K mg) : FnOk P w K mg base CX0 6 T.f__law_triples T.d__law_triples ["_law_draws", "_law_keys_here", "_law_groups_here"] spTriples := by
  refine T.F__law_triples.ok sc__law_triples (fun vs H Q E h => ?_) (fun cdv A outer s H vs Q E hr h => ?_)
  · obtain ⟨d, c, r, p, p2, ks, gs, rfl, _⟩ := h
    rfl
  obtain ⟨d, c, r, p, p2, ks, gs, rfl, D, pd, pr, qd, qr, hp, hq, hk, hg, q⟩ := h
  refine ⟨_, (pss_cons (ps_for PassesOwn.never rfl (pi_range1 (by rfl) T.z_range (pa_cons pe_int pa_nil)) (pg_name (i := 3) sc__law_triples.nd rfl (Or.inl rfl)) (pss_cons (ps_setLc (i := 4) (own := [("_law_k", 7)]) (g := gName 7) (tt := tYes) rfl sc__law_triples.nd rfl rfl (sw_true rfl rfl rfl (by decide +kernel)) (pi_range1 (by rfl) T.z_range (pa_cons pe_int pa_nil)) (blkOk_by (N := ["_law_draws", "_law_keys_here", "_law_groups_here", "_law_turn", "_law_spots", "_law_first", "_law_second", "_law_k"]) (sc := defScope s__law_triples) (by decide +kernel)) (fun _ _ _ _ _ => pg_name (i := 7) sc__law_triples.nd rfl (Or.inl rfl)) (fun _ _ _ _ _ => pts_nil) (fun _ _ _ _ _ => (pe_call (ok__law_draw T) (hr.mono (by decide)) (by rfl) T.g__law_draw T.F__law_draw.kp T.b__law_draw .nil pass0 (pa_cons (pv 0) (pa_cons (pe_callB (r := rLenL K) (id := "len") c_len (by rfl) T.z_len (by decide +kernel) (pa_cons (pv 1) pa_nil)) pa_nil)))))
      (pss_cons (ps_set (i := 5) sc__law_triples.nd rfl (Or.inl rfl) (pe_call (ok__law_offset T) (hr.mono (by decide)) (by rfl) T.g__law_offset T.F__law_offset.kp T.b__law_offset .nil pass0 (pa_cons (pv 1) (pa_cons (pv 2) (pa_cons (pe_ix (r := rIxL K) ix_list (pv 4) pe_int (fun _ _ => rfl)) (pa_cons (pe_ix (r := rIxL K) ix_list (pv 4) pe_int (fun _ _ => rfl)) pa_nil))))))
      (pss_cons (ps_set (i := 6) sc__law_triples.nd rfl (Or.inl rfl) (pe_call (ok__law_offset T) (hr.mono (by decide)) (by rfl) T.g__law_offset T.F__law_offset.kp T.b__law_offset .nil pass0 (pa_cons (pv 1) (pa_cons (pv 2) (pa_cons (pe_ix (r := rIxL K) ix_list (pv 4) pe_int (fun _ _ => rfl)) (pa_cons (pe_ix (r := rIxL K) ix_list (pv 4) pe_int (fun _ _ => rfl)) pa_nil))))))
      (pss_cons (ps_if (pt_cmpR (op_neO T.mt_Offset___eq__.at_ T.mt_Offset___eq__.fn T.ne_Offset T.ob_Offset (ok_Offset___eq__ T) (hr.mono (by decide)) T.b_Offset___eq__ pass0) (pe_op (op_binO (op := .Add) T.sf_Offset T.mt_Offset___add__.at_ T.mt_Offset___add__.fn (ok_Offset___add__ T) (hr.mono (by decide)) T.b_Offset___add__ pass0) (pv 5) (pv 6)) (pe_call (ok__law_offset T) (hr.mono (by decide)) (by rfl) T.g__law_offset T.F__law_offset.kp T.b__law_offset .nil pass0 (pa_cons (pv 1) (pa_cons (pv 2) (pa_cons (pe_ix (r := rIxL K) ix_list (pv 4) pe_int (fun _ _ => rfl)) (pa_cons (pe_ix (r := rIxL K) ix_list (pv 4) pe_int (fun _ _ => rfl)) pa_nil))))) (nomark _)) (pss_one (ps_ret pe_bl)) pss_nil)
      (pss_one (ps_if (pt_not (pt_val (pe_call (ok__law_beside T) (hr.mono (by decide)) (by rfl) T.g__law_beside T.F__law_beside.kp T.b__law_beside .nil pass0 (pa_cons (pv 0) (pa_cons (pe_op (op_binO (op := .Add) T.sf_Offset T.mt_Offset___add__.at_ T.mt_Offset___add__.fn (ok_Offset___add__ T) (hr.mono (by decide)) T.b_Offset___add__ pass0) (pv 5) (pv 6)) pa_nil))))) (pss_one (ps_ret pe_bl)) pss_nil)))))))
      (pss_one (ps_ret pe_bl))), ?_⟩
  try simp only [nox_K, cx_K]
  have k0 := hk.pos
  have k16 := hk.few
  wtm_at "rd"
  refine r_for (r_rng1 ?_)
  wtm_at "rd"
  refine r_upto (by decide) (by decide) ?_
  refine for_range (fun i σ H' => ∃ (x3 x4 x5 x6 x7 : Option V), σ = [some (.ref d), some (.ref p), some (.ref p2), x3, x4, x5, x6, x7] ∧ Drw H' d c r ∧ Ext d r H H') ⟨_, _, _, _, _, rfl, D, Ext.refl⟩ ?_ ?_
  · rintro i σ H1 hi ⟨x3, x4, x5, x6, x7, rfl, D1, E1⟩
    wtm_at "rd"
    refine r_upto (by decide) (by decide) ?_
    refine lc_draws (P := fun k => 0 ≤ k ∧ k < ks.length) (by decide) D1 (fun j H2 QQ hj D2 E2 hQ => ?_) (fun l ss H2 hl hs nl hl2 D2 E2 => ?_)
    · wtm_at "rd"
      refine r_lenI (E2 _ _ (E1 _ _ hp pd pr) pd pr) ?_
      wtm_at "rd"
      exact ⟨d, c, r, _, rfl, D2, by omega, by omega, fun k H3 a0 a1 D3 E3 => hQ k H3 ⟨a0, a1⟩ D3 E3⟩
    obtain ⟨s0, s1, s2, rfl⟩ : ∃ s0 s1 s2, ss = [s0, s1, s2] := by
      match ss, hl with
      | [a, b, c], _ => exact ⟨a, b, c, rfl⟩
    obtain ⟨a0, a1⟩ := hs s0 (by simp)
    obtain ⟨b0, b1⟩ := hs s1 (by simp)
    obtain ⟨c0, c1⟩ := hs s2 (by simp)
    obtain ⟨a, rfl⟩ := Int.eq_ofNat_of_zero_le a0
    obtain ⟨b, rfl⟩ := Int.eq_ofNat_of_zero_le b0
    obtain ⟨e, rfl⟩ := Int.eq_ofNat_of_zero_le c0
    have ha : a < ks.length := by omega
    have hb : b < ks.length := by omega
    have he : e < ks.length := by omega
    have E12 := E1.trans E2
    have hl3 : H2 l = some (.lst [.int a, .int b, .int e]) := hl2
    wtm_at "rd"
    refine ⟨p, p2, ks, gs, a, b, rfl, E12 _ _ hp pd pr, E12 _ _ hq qd qr, hk, hg, ha, hb, fun o3 H3 no3 s3 ho3 => ?_⟩
    have hl4 := s3 _ _ hl3
    have E13 := E12.trans (Ext.of s3)
    have D3 := D2.same s3
    wtm_at "rd"
    refine ⟨p, p2, ks, gs, b, e, rfl, E13 _ _ hp pd pr, E13 _ _ hq qd qr, hk, hg, hb, he, fun o4 H4 no4 s4 ho4 => ?_⟩
    have hl5 := s4 _ _ hl4
    have E14 := E13.trans (Ext.of s4)
    have D4 := D3.same s4
    have pe := poss_of hk hg ha he
    have ps : possB ((b : Int) - a + (e - b)) (kAt gs b - kAt gs a + (kAt gs e - kAt gs b)) (kAt ks b - kAt ks a + (kAt ks e - kAt ks b)) = true := by
      rw [show (b : Int) - a + (e - b) = (e : Int) - a by omega, show kAt gs b - kAt gs a + (kAt gs e - kAt gs b) = kAt gs e - kAt gs a by omega, show kAt ks b - kAt ks a + (kAt ks e - kAt ks b) = kAt ks e - kAt ks a by omega]
      exact pe
    wtm_at "rd"
    refine add_off (ho3.same s4) ho4 ps fun o5 H5 no5 s5 ho5 => ?_
    have hl6 := s5 _ _ hl5
    have E15 := E14.trans (Ext.of s5)
    have D5 := D4.same s5
    wtm_at "rd"
    refine ⟨p, p2, ks, gs, a, e, rfl, E15 _ _ hp pd pr, E15 _ _ hq qd qr, hk, hg, ha, he, fun o6 H6 no6 s6 ho6 => ?_⟩
    have E16 := E15.trans (Ext.of s6)
    have D6 := D5.same s6
    refine ne_off T (ho5.same s6) ho6 ?_
    rw [decide_eq_true (show (b : Int) - a + (e - b) = (e : Int) - a by omega), decide_eq_true (show kAt gs b - kAt gs a + (kAt gs e - kAt gs b) = kAt gs e - kAt gs a by omega), decide_eq_true (show kAt ks b - kAt ks a + (kAt ks e - kAt ks b) = kAt ks e - kAt ks a by omega)]
    wtm_at "rd"
    refine iteNT ?_
    wtm_at "rd"
    refine add_off ((ho3.same s4).same (s5.trans s6)) (ho4.same (s5.trans s6)) ps fun o7 H7 no7 s7 ho7 => ?_
    have E17 := E16.trans (Ext.of s7)
    have D7 := D6.same s7
    wtm_at "rd"
    refine ⟨d, c, r, o7, _, _, _, rfl, D7, D6.ned no7, D6.ner no7, ho7, fun H8 D8 E8 => ?_⟩
    wtm_at "rdi"
    exact ⟨_, _, _, _, _, rfl, D8, E17.trans E8⟩
  · rintro σ H1 ⟨x3, x4, x5, x6, x7, rfl, D1, E1⟩
    wtm_at "rd"
    exact q _ D1 E1
theorem ok_law (T : Txt K mg) : FnOk P w K mg base CX0 7 T.f_law T.d_law ["_law_script"] (spLaw K) := by
  refine T.F_law.ok sc_law (fun vs H Q E h => ?_) (fun cdv A outer s H vs Q E hr h => ?_)
  · obtain ⟨a, ns, rfl, _⟩ := h
    rfl
  obtain ⟨a, ns, rfl, hS, hlen, q⟩ := h
  refine ⟨_, (pss_cons (ps_set (i := 1) sc_law.nd rfl (Or.inl rfl) (pe_call (ok__law_begin T) (hr.mono (by decide)) (by rfl) T.g__law_begin T.F__law_begin.kp T.b__law_begin .nil pass0 (pa_cons (pv 0) pa_nil)))
      (pss_cons (ps_for PassesOwn.never rfl (pi_range1 (by rfl) T.z_range (pa_cons pe_int pa_nil)) (pg_name (i := 2) sc_law.nd rfl (Or.inl rfl)) (pss_cons (ps_set (i := 3) sc_law.nd rfl (Or.inl rfl) (pe_call (ok__law_keys T) (hr.mono (by decide)) (by rfl) T.g__law_keys T.F__law_keys.kp T.b__law_keys .nil pass0 (pa_cons (pv 1) pa_nil)))
      (pss_cons (ps_set (i := 4) sc_law.nd rfl (Or.inl rfl) (pe_call (ok__law_groups T) (hr.mono (by decide)) (by rfl) T.g__law_groups T.F__law_groups.kp T.b__law_groups .nil pass0 (pa_cons (pv 3) pa_nil)))
      (pss_one (ps_if (PW.pt (pw_or (pt_not (pt_val (pe_call (ok__law_pairs T) (hr.mono (by decide)) (by rfl) T.g__law_pairs T.F__law_pairs.kp T.b__law_pairs .nil pass0 (pa_cons (pv 3) (pa_cons (pv 4) pa_nil))))) (pw_or1 (pt_not (pt_val (pe_call (ok__law_triples T) (hr.mono (by decide)) (by rfl) T.g__law_triples T.F__law_triples.kp T.b__law_triples .nil pass0 (pa_cons (pv 1) (pa_cons (pv 3) (pa_cons (pv 4) pa_nil))))))))) (pss_one (ps_ret pe_bl)) pss_nil)))))
      (pss_one (ps_ret pe_bl)))), ?_⟩
  try simp only [nox_K, cx_K]
  wtm_at "rd"
  refine ⟨a, ns, rfl, hS, hlen, fun d c r H1 D1 s1 nd nc nr => ?_⟩
  wtm_at "rd"
  refine r_for (r_rng1 ?_)
  wtm_at "rd"
  refine r_upto (by decide) (by decide) ?_
  refine for_range (fun i σ H' => ∃ (x2 x3 x4 : Option V), σ = [some (.ref a), some (.ref d), x2, x3, x4] ∧ Drw H' d c r) ⟨_, _, _, rfl, D1⟩ ?_ ?_
  · rintro i σ H2 hi ⟨x2, x3, x4, rfl, D2⟩
    wtm_at "rd"
    refine ⟨d, c, r, rfl, D2, fun p ks H3 hk np hp D3 E3 => ?_⟩
    have pd := D2.ned np
    have pr := D2.ner np
    wtm_at "rd"
    refine ⟨p, ks, rfl, hp, hk, fun p2 gs H4 hg np2 hq s4 => ?_⟩
    have D4 := D3.same s4
    wtm_at "rd"
    refine ⟨p, p2, ks, gs, rfl, s4 _ _ hp, hq, hk, hg, fun H5 s5 => ?_⟩
    wtm_at "rdi"
    refine ⟨d, c, r, p, p2, ks, gs, rfl, D4.same s5, pd, pr, D3.ned np2, D3.ner np2, s5 _ _ (s4 _ _ hp), s5 _ _ hq, hk, hg, fun H6 D6 E6 => ?_⟩
    wtm_at "rdi"
    exact ⟨_, _, _, rfl, D6⟩
  · rintro σ H2 ⟨x2, x3, x4, rfl, D2⟩
    exact q _
end
theorem all_mk {l : PySem.W.OpenLaw} {w : World} {K : PySem.W.Frag} {h : Heap} {mg : Str → Option Value} {fa : Addr} (X : K.In h) (G : h.Ns mainGlobals mg) (hfa : mg "law" = some (.ref fa))
    {C_Offset : Addr}
    {od0 an0 : Option Addr} {sl0 : Array (Option Value)} {oc0 kV0 dc0 pm0 cd0 ct0 : Value} {f0 : Addr}
    {od1 an1 : Option Addr} {sl1 : Array (Option Value)} {oc1 kV1 dc1 pm1 cd1 ct1 : Value} {f1 : Addr}
    {od2 an2 : Option Addr} {sl2 : Array (Option Value)} {oc2 kV2 dc2 pm2 cd2 ct2 : Value} {f2 : Addr}
    {od3 an3 : Option Addr} {sl3 : Array (Option Value)} {oc3 kV3 dc3 pm3 cd3 ct3 : Value} {f3 : Addr}
    {od4 an4 : Option Addr} {sl4 : Array (Option Value)} {oc4 kV4 dc4 pm4 cd4 ct4 : Value} {f4 : Addr}
    {od5 an5 : Option Addr} {sl5 : Array (Option Value)} {oc5 kV5 dc5 pm5 cd5 ct5 : Value} {f5 : Addr}
    {od6 an6 : Option Addr} {sl6 : Array (Option Value)} {oc6 kV6 dc6 pm6 cd6 ct6 : Value} {f6 : Addr}
    {od7 an7 : Option Addr} {sl7 : Array (Option Value)} {oc7 kV7 dc7 pm7 cd7 ct7 : Value} {f7 : Addr}
    {od8 an8 : Option Addr} {sl8 : Array (Option Value)} {oc8 kV8 dc8 pm8 cd8 ct8 : Value} {f8 : Addr}
    {od9 an9 : Option Addr} {sl9 : Array (Option Value)} {oc9 kV9 dc9 pm9 cd9 ct9 : Value} {f9 : Addr}
    {od10 an10 : Option Addr} {sl10 : Array (Option Value)} {oc10 kV10 dc10 pm10 cd10 ct10 : Value} {f10 : Addr}
    {od11 an11 : Option Addr} {sl11 : Array (Option Value)} {oc11 kV11 dc11 pm11 cd11 ct11 : Value} {f11 : Addr}
    {od12 an12 : Option Addr} {sl12 : Array (Option Value)} {oc12 kV12 dc12 pm12 cd12 ct12 : Value} {f12 : Addr}
    {od13 an13 : Option Addr} {sl13 : Array (Option Value)} {oc13 kV13 dc13 pm13 cd13 ct13 : Value} {f13 : Addr}
    {od14 an14 : Option Addr} {sl14 : Array (Option Value)} {oc14 kV14 dc14 pm14 cd14 ct14 : Value} {f14 : Addr}
    {od15 an15 : Option Addr} {sl15 : Array (Option Value)} {oc15 kV15 dc15 pm15 cd15 ct15 : Value} {f15 : Addr}
    {od16 an16 : Option Addr} {sl16 : Array (Option Value)} {oc16 kV16 dc16 pm16 cd16 ct16 : Value} {f16 : Addr}
    {od17 an17 : Option Addr} {sl17 : Array (Option Value)} {oc17 kV17 dc17 pm17 cd17 ct17 : Value} {f17 : Addr}
    (aC_Offset : PySem.W.nsIn K mainGlobals "Offset" = some (some (.ref C_Offset)))
    (a0 : PySem.W.nsIn K mainGlobals "possible" = some (some (.ref f0)))
    (l0 : K.lookup f0 = some ⟨oc0, od0, .func (PySem.W.fnOf "possible" "possible" (defArgs s_possible) (defBody s_possible) (defScope s_possible) .none kV0 dc0 pm0 an0 cd0 ct0), sl0⟩)
    (c0 : PySem.W.codeIn K cd0 "possible" = true)
    (k0 : PySem.W.keepIn K (.ref f0) = true)
    (a1 : PySem.W.nsIn K mainGlobals "zone_of" = some (some (.ref f1)))
    (l1 : K.lookup f1 = some ⟨oc1, od1, .func (PySem.W.fnOf "zone_of" "zone_of" (defArgs s_zone_of) (defBody s_zone_of) (defScope s_zone_of) .none kV1 dc1 pm1 an1 cd1 ct1), sl1⟩)
    (c1 : PySem.W.codeIn K cd1 "zone_of" = true)
    (k1 : PySem.W.keepIn K (.ref f1) = true)
    (a2 : PySem.W.findIn K (.ref C_Offset) "__init__" = some (some (.ref f2)))
    (i2 : PySem.W.isFn K (.ref f2) = true)
    (l2 : K.lookup f2 = some ⟨oc2, od2, .func (PySem.W.fnOf "__init__" "Offset.__init__" (defArgs s_Offset___init__) (defBody s_Offset___init__) (defScope s_Offset___init__) .none kV2 dc2 pm2 an2 cd2 ct2), sl2⟩)
    (c2 : PySem.W.codeIn K cd2 "Offset.__init__" = true)
    (k2 : PySem.W.keepIn K (.ref f2) = true)
    (a3 : PySem.W.findIn K (.ref C_Offset) "fewest_rows" = some (some (.ref f3)))
    (i3 : PySem.W.isFn K (.ref f3) = true)
    (l3 : K.lookup f3 = some ⟨oc3, od3, .func (PySem.W.fnOf "fewest_rows" "Offset.fewest_rows" (defArgs s_Offset_fewest_rows) (defBody s_Offset_fewest_rows) (defScope s_Offset_fewest_rows) .none kV3 dc3 pm3 an3 cd3 ct3), sl3⟩)
    (c3 : PySem.W.codeIn K cd3 "Offset.fewest_rows" = true)
    (k3 : PySem.W.keepIn K (.ref f3) = true)
    (a4 : PySem.W.findIn K (.ref C_Offset) "__neg__" = some (some (.ref f4)))
    (i4 : PySem.W.isFn K (.ref f4) = true)
    (l4 : K.lookup f4 = some ⟨oc4, od4, .func (PySem.W.fnOf "__neg__" "Offset.__neg__" (defArgs s_Offset___neg__) (defBody s_Offset___neg__) (defScope s_Offset___neg__) .none kV4 dc4 pm4 an4 cd4 ct4), sl4⟩)
    (c4 : PySem.W.codeIn K cd4 "Offset.__neg__" = true)
    (k4 : PySem.W.keepIn K (.ref f4) = true)
    (a5 : PySem.W.findIn K (.ref C_Offset) "__add__" = some (some (.ref f5)))
    (i5 : PySem.W.isFn K (.ref f5) = true)
    (l5 : K.lookup f5 = some ⟨oc5, od5, .func (PySem.W.fnOf "__add__" "Offset.__add__" (defArgs s_Offset___add__) (defBody s_Offset___add__) (defScope s_Offset___add__) .none kV5 dc5 pm5 an5 cd5 ct5), sl5⟩)
    (c5 : PySem.W.codeIn K cd5 "Offset.__add__" = true)
    (k5 : PySem.W.keepIn K (.ref f5) = true)
    (a6 : PySem.W.findIn K (.ref C_Offset) "__eq__" = some (some (.ref f6)))
    (i6 : PySem.W.isFn K (.ref f6) = true)
    (l6 : K.lookup f6 = some ⟨oc6, od6, .func (PySem.W.fnOf "__eq__" "Offset.__eq__" (defArgs s_Offset___eq__) (defBody s_Offset___eq__) (defScope s_Offset___eq__) .none kV6 dc6 pm6 an6 cd6 ct6), sl6⟩)
    (c6 : PySem.W.codeIn K cd6 "Offset.__eq__" = true)
    (k6 : PySem.W.keepIn K (.ref f6) = true)
    (a7 : PySem.W.nsIn K mainGlobals "_law_begin" = some (some (.ref f7)))
    (l7 : K.lookup f7 = some ⟨oc7, od7, .func (PySem.W.fnOf "_law_begin" "_law_begin" (defArgs s__law_begin) (defBody s__law_begin) (defScope s__law_begin) .none kV7 dc7 pm7 an7 cd7 ct7), sl7⟩)
    (c7 : PySem.W.codeIn K cd7 "_law_begin" = true)
    (k7 : PySem.W.keepIn K (.ref f7) = true)
    (a8 : PySem.W.nsIn K mainGlobals "_law_draw" = some (some (.ref f8)))
    (l8 : K.lookup f8 = some ⟨oc8, od8, .func (PySem.W.fnOf "_law_draw" "_law_draw" (defArgs s__law_draw) (defBody s__law_draw) (defScope s__law_draw) .none kV8 dc8 pm8 an8 cd8 ct8), sl8⟩)
    (c8 : PySem.W.codeIn K cd8 "_law_draw" = true)
    (k8 : PySem.W.keepIn K (.ref f8) = true)
    (a9 : PySem.W.nsIn K mainGlobals "_law_keys" = some (some (.ref f9)))
    (l9 : K.lookup f9 = some ⟨oc9, od9, .func (PySem.W.fnOf "_law_keys" "_law_keys" (defArgs s__law_keys) (defBody s__law_keys) (defScope s__law_keys) .none kV9 dc9 pm9 an9 cd9 ct9), sl9⟩)
    (c9 : PySem.W.codeIn K cd9 "_law_keys" = true)
    (k9 : PySem.W.keepIn K (.ref f9) = true)
    (a10 : PySem.W.nsIn K mainGlobals "_law_groups" = some (some (.ref f10)))
    (l10 : K.lookup f10 = some ⟨oc10, od10, .func (PySem.W.fnOf "_law_groups" "_law_groups" (defArgs s__law_groups) (defBody s__law_groups) (defScope s__law_groups) .none kV10 dc10 pm10 an10 cd10 ct10), sl10⟩)
    (c10 : PySem.W.codeIn K cd10 "_law_groups" = true)
    (k10 : PySem.W.keepIn K (.ref f10) = true)
    (a11 : PySem.W.nsIn K mainGlobals "_law_zone" = some (some (.ref f11)))
    (l11 : K.lookup f11 = some ⟨oc11, od11, .func (PySem.W.fnOf "_law_zone" "_law_zone" (defArgs s__law_zone) (defBody s__law_zone) (defScope s__law_zone) .none kV11 dc11 pm11 an11 cd11 ct11), sl11⟩)
    (c11 : PySem.W.codeIn K cd11 "_law_zone" = true)
    (k11 : PySem.W.keepIn K (.ref f11) = true)
    (a12 : PySem.W.nsIn K mainGlobals "_law_offset" = some (some (.ref f12)))
    (l12 : K.lookup f12 = some ⟨oc12, od12, .func (PySem.W.fnOf "_law_offset" "_law_offset" (defArgs s__law_offset) (defBody s__law_offset) (defScope s__law_offset) .none kV12 dc12 pm12 an12 cd12 ct12), sl12⟩)
    (c12 : PySem.W.codeIn K cd12 "_law_offset" = true)
    (k12 : PySem.W.keepIn K (.ref f12) = true)
    (a13 : PySem.W.nsIn K mainGlobals "_law_pairs" = some (some (.ref f13)))
    (l13 : K.lookup f13 = some ⟨oc13, od13, .func (PySem.W.fnOf "_law_pairs" "_law_pairs" (defArgs s__law_pairs) (defBody s__law_pairs) (defScope s__law_pairs) .none kV13 dc13 pm13 an13 cd13 ct13), sl13⟩)
    (c13 : PySem.W.codeIn K cd13 "_law_pairs" = true)
    (k13 : PySem.W.keepIn K (.ref f13) = true)
    (a14 : PySem.W.nsIn K mainGlobals "_law_some_list" = some (some (.ref f14)))
    (l14 : K.lookup f14 = some ⟨oc14, od14, .func (PySem.W.fnOf "_law_some_list" "_law_some_list" (defArgs s__law_some_list) (defBody s__law_some_list) (defScope s__law_some_list) .none kV14 dc14 pm14 an14 cd14 ct14), sl14⟩)
    (c14 : PySem.W.codeIn K cd14 "_law_some_list" = true)
    (k14 : PySem.W.keepIn K (.ref f14) = true)
    (a15 : PySem.W.nsIn K mainGlobals "_law_beside" = some (some (.ref f15)))
    (l15 : K.lookup f15 = some ⟨oc15, od15, .func (PySem.W.fnOf "_law_beside" "_law_beside" (defArgs s__law_beside) (defBody s__law_beside) (defScope s__law_beside) .none kV15 dc15 pm15 an15 cd15 ct15), sl15⟩)
    (c15 : PySem.W.codeIn K cd15 "_law_beside" = true)
    (k15 : PySem.W.keepIn K (.ref f15) = true)
    (a16 : PySem.W.nsIn K mainGlobals "_law_triples" = some (some (.ref f16)))
    (l16 : K.lookup f16 = some ⟨oc16, od16, .func (PySem.W.fnOf "_law_triples" "_law_triples" (defArgs s__law_triples) (defBody s__law_triples) (defScope s__law_triples) .none kV16 dc16 pm16 an16 cd16 ct16), sl16⟩)
    (c16 : PySem.W.codeIn K cd16 "_law_triples" = true)
    (k16 : PySem.W.keepIn K (.ref f16) = true)
    (a17 : PySem.W.nsIn K mainGlobals "law" = some (some (.ref f17)))
    (l17 : K.lookup f17 = some ⟨oc17, od17, .func (PySem.W.fnOf "law" "law" (defArgs s_law) (defBody s_law) (defScope s_law) .none kV17 dc17 pm17 an17 cd17 ct17), sl17⟩)
    (c17 : PySem.W.codeIn K cd17 "law" = true)
    (k17 : PySem.W.keepIn K (.ref f17) = true)
    (z_NotImplemented : PySem.W.nsIn K mainGlobals "NotImplemented" = some none)
    (z_abs : PySem.W.nsIn K mainGlobals "abs" = some none)
    (z_int : PySem.W.nsIn K mainGlobals "int" = some none)
    (z_isinstance : PySem.W.nsIn K mainGlobals "isinstance" = some none)
    (z_len : PySem.W.nsIn K mainGlobals "len" = some none)
    (z_range : PySem.W.nsIn K mainGlobals "range" = some none)
    (pg_Offset : PySem.W.plainGet K C_Offset Str.empty = true)
    (hd_Offset : PySem.W.hasDictIn K C_Offset = true)
    (po_Offset : PySem.W.plainOver K C_Offset = true)
    (sa_Offset : PySem.W.findIn K (.ref C_Offset) "__setattr__" = some (some (.builtin "object.__setattr__")))
    (mk_Offset : PySem.W.makesIn K C_Offset = true)
    (kc_Offset : PySem.W.keepIn K (.ref C_Offset) = true)
    (nf_Offset_rows : PySem.W.findIn K (.ref C_Offset) "rows" = some none)
    (nf_Offset_groups : PySem.W.findIn K (.ref C_Offset) "groups" = some none)
    (nf_Offset_distance : PySem.W.findIn K (.ref C_Offset) "distance" = some none)
    (nf_Offset_zone : PySem.W.findIn K (.ref C_Offset) "zone" = some none)
    (ca_Offset : PySem.W.findIn K (.ref C_Offset) "__class__" = some (some (.builtin "object.__class__")))
    (cn_Offset : PySem.W.specialIn K (.builtin "object.__class__") "__get__" = some (some (.builtin "getset_descriptor.__get__")))
    (ct_Offset : PySem.W.takesIn K (.builtin "object.__class__") = some true)
    (cm_Offset : PySem.W.mroIn K C_Offset (.type "object") = some true)
    (ne_Offset : PySem.W.findIn K (.ref C_Offset) "__ne__" = some (some (.builtin "object.__ne__")))
    (ob_Offset : PySem.W.subIn K (.ref C_Offset) (.type "object") = some true)
    (nt_Offset : PySem.W.notFirst K C_Offset (.ref C_Offset) = true)
    (sf_Offset : PySem.W.selfFirst K C_Offset = true)
    : ∃ fd : FuncData, (∀ (s : Shared) (v : Value), BindsTo s fd ⟨[v], []⟩ [("_law_script", v)]) ∧ ∀ base : Heap, K.In base → base.Ns mainGlobals mg → FnOk l.prog w K mg base CX0 7 fa fd ["_law_script"] (spLaw K) := by
  have e := hfa.symm.trans (PySem.W.mg_of X G a17)
  cases e
  have F0 := fun_mk (st := s_possible) l0 c0 k0
  have b0 := F0.binds (ps := ["rows", "groups", "distance"]) fun _ _ _ _ _ _ us hl => match us, hl with | [_, _, _], _ => rfl
  have F1 := fun_mk (st := s_zone_of) l1 c1 k1
  have b1 := F1.binds (ps := ["rows", "groups"]) fun _ _ _ _ _ _ us hl => match us, hl with | [_, _], _ => rfl
  have F2 := fun_mk (st := s_Offset___init__) l2 c2 k2
  have b2 := F2.binds (ps := ["self", "rows", "groups", "distance"]) fun _ _ _ _ _ _ us hl => match us, hl with | [_, _, _, _], _ => rfl
  have F3 := fun_mk (st := s_Offset_fewest_rows) l3 c3 k3
  have b3 := F3.binds (ps := ["self"]) fun _ _ _ _ _ _ us hl => match us, hl with | [_], _ => rfl
  have F4 := fun_mk (st := s_Offset___neg__) l4 c4 k4
  have b4 := F4.binds (ps := ["self"]) fun _ _ _ _ _ _ us hl => match us, hl with | [_], _ => rfl
  have F5 := fun_mk (st := s_Offset___add__) l5 c5 k5
  have b5 := F5.binds (ps := ["self", "other"]) fun _ _ _ _ _ _ us hl => match us, hl with | [_, _], _ => rfl
  have F6 := fun_mk (st := s_Offset___eq__) l6 c6 k6
  have b6 := F6.binds (ps := ["self", "other"]) fun _ _ _ _ _ _ us hl => match us, hl with | [_, _], _ => rfl
  have F7 := fun_mk (st := s__law_begin) l7 c7 k7
  have b7 := F7.binds (ps := ["_law_script"]) fun _ _ _ _ _ _ us hl => match us, hl with | [_], _ => rfl
  have F8 := fun_mk (st := s__law_draw) l8 c8 k8
  have b8 := F8.binds (ps := ["_law_draws", "_law_many"]) fun _ _ _ _ _ _ us hl => match us, hl with | [_, _], _ => rfl
  have F9 := fun_mk (st := s__law_keys) l9 c9 k9
  have b9 := F9.binds (ps := ["_law_draws"]) fun _ _ _ _ _ _ us hl => match us, hl with | [_], _ => rfl
  have F10 := fun_mk (st := s__law_groups) l10 c10 k10
  have b10 := F10.binds (ps := ["_law_keys_here"]) fun _ _ _ _ _ _ us hl => match us, hl with | [_], _ => rfl
  have F11 := fun_mk (st := s__law_zone) l11 c11 k11
  have b11 := F11.binds (ps := ["_law_keys_here", "_law_r", "_law_j"]) fun _ _ _ _ _ _ us hl => match us, hl with | [_, _, _], _ => rfl
  have F12 := fun_mk (st := s__law_offset) l12 c12 k12
  have b12 := F12.binds (ps := ["_law_keys_here", "_law_groups_here", "_law_r", "_law_j"]) fun _ _ _ _ _ _ us hl => match us, hl with | [_, _, _, _], _ => rfl
  have F13 := fun_mk (st := s__law_pairs) l13 c13 k13
  have b13 := F13.binds (ps := ["_law_keys_here", "_law_groups_here"]) fun _ _ _ _ _ _ us hl => match us, hl with | [_, _], _ => rfl
  have F14 := fun_mk (st := s__law_some_list) l14 c14 k14
  have b14 := F14.binds (ps := ["_law_d", "_law_g", "_law_k"]) fun _ _ _ _ _ _ us hl => match us, hl with | [_, _, _], _ => rfl
  have F15 := fun_mk (st := s__law_beside) l15 c15 k15
  have b15 := F15.binds (ps := ["_law_draws", "_law_offset_here"]) fun _ _ _ _ _ _ us hl => match us, hl with | [_, _], _ => rfl
  have F16 := fun_mk (st := s__law_triples) l16 c16 k16
  have b16 := F16.binds (ps := ["_law_draws", "_law_keys_here", "_law_groups_here"]) fun _ _ _ _ _ _ us hl => match us, hl with | [_, _, _], _ => rfl
  have F17 := fun_mk (st := s_law) l17 c17 k17
  have b17 := F17.binds (ps := ["_law_script"]) fun _ _ _ _ _ _ us hl => match us, hl with | [_], _ => rfl
  let T : Txt K mg := {
    f_possible := f0,
    d_possible := _,
    F_possible := F0,
    b_possible := b0,
    g_possible := PySem.W.mg_of X G a0,
    f_zone_of := f1,
    d_zone_of := _,
    F_zone_of := F1,
    b_zone_of := b1,
    g_zone_of := PySem.W.mg_of X G a1,
    f_Offset___init__ := f2,
    d_Offset___init__ := _,
    F_Offset___init__ := F2,
    b_Offset___init__ := b2,
    f_Offset_fewest_rows := f3,
    d_Offset_fewest_rows := _,
    F_Offset_fewest_rows := F3,
    b_Offset_fewest_rows := b3,
    f_Offset___neg__ := f4,
    d_Offset___neg__ := _,
    F_Offset___neg__ := F4,
    b_Offset___neg__ := b4,
    f_Offset___add__ := f5,
    d_Offset___add__ := _,
    F_Offset___add__ := F5,
    b_Offset___add__ := b5,
    f_Offset___eq__ := f6,
    d_Offset___eq__ := _,
    F_Offset___eq__ := F6,
    b_Offset___eq__ := b6,
    f__law_begin := f7,
    d__law_begin := _,
    F__law_begin := F7,
    b__law_begin := b7,
    g__law_begin := PySem.W.mg_of X G a7,
    f__law_draw := f8,
    d__law_draw := _,
    F__law_draw := F8,
    b__law_draw := b8,
    g__law_draw := PySem.W.mg_of X G a8,
    f__law_keys := f9,
    d__law_keys := _,
    F__law_keys := F9,
    b__law_keys := b9,
    g__law_keys := PySem.W.mg_of X G a9,
    f__law_groups := f10,
    d__law_groups := _,
    F__law_groups := F10,
    b__law_groups := b10,
    g__law_groups := PySem.W.mg_of X G a10,
    f__law_zone := f11,
    d__law_zone := _,
    F__law_zone := F11,
    b__law_zone := b11,
    g__law_zone := PySem.W.mg_of X G a11,
    f__law_offset := f12,
    d__law_offset := _,
    F__law_offset := F12,
    b__law_offset := b12,
    g__law_offset := PySem.W.mg_of X G a12,
    f__law_pairs := f13,
    d__law_pairs := _,
    F__law_pairs := F13,
    b__law_pairs := b13,
    g__law_pairs := PySem.W.mg_of X G a13,
    f__law_some_list := f14,
    d__law_some_list := _,
    F__law_some_list := F14,
    b__law_some_list := b14,
    g__law_some_list := PySem.W.mg_of X G a14,
    f__law_beside := f15,
    d__law_beside := _,
    F__law_beside := F15,
    b__law_beside := b15,
    g__law_beside := PySem.W.mg_of X G a15,
    f__law_triples := f16,
    d__law_triples := _,
    F__law_triples := F16,
    b__law_triples := b16,
    g__law_triples := PySem.W.mg_of X G a16,
    f_law := fa,
    d_law := _,
    F_law := F17,
    b_law := b17,
    g_law := PySem.W.mg_of X G a17,
    z_NotImplemented := PySem.W.mg_none_of X G z_NotImplemented,
    z_abs := PySem.W.mg_none_of X G z_abs,
    z_int := PySem.W.mg_none_of X G z_int,
    z_isinstance := PySem.W.mg_none_of X G z_isinstance,
    z_len := PySem.W.mg_none_of X G z_len,
    z_range := PySem.W.mg_none_of X G z_range,
    C_Offset := C_Offset,
    g_Offset := PySem.W.mg_of X G aC_Offset,
    c_Offset := ⟨pg_Offset, hd_Offset, po_Offset, sa_Offset⟩,
    m_Offset := ⟨mk_Offset, a2, i2, kc_Offset⟩,
    nf_Offset_rows := nf_Offset_rows,
    nf_Offset_groups := nf_Offset_groups,
    nf_Offset_distance := nf_Offset_distance,
    nf_Offset_zone := nf_Offset_zone,
    mt_Offset_fewest_rows := ⟨a3, i3, k3⟩,
    mt_Offset___neg__ := ⟨a4, i4, k4⟩,
    mt_Offset___add__ := ⟨a5, i5, k5⟩,
    mt_Offset___eq__ := ⟨a6, i6, k6⟩,
    ca_Offset := ca_Offset,
    cn_Offset := cn_Offset,
    ct_Offset := ct_Offset,
    cm_Offset := cm_Offset,
    ne_Offset := ne_Offset,
    ob_Offset := ob_Offset,
    nt_Offset := nt_Offset,
    sf_Offset := sf_Offset }
  exact ⟨PySem.W.fnOf "law" "law" (defArgs s_law) (defBody s_law) (defScope s_law) .none kV17 dc17 pm17 an17 cd17 ct17, fun s v => .of_eq rfl, fun base _ _ => ok_law T⟩
end Wr
open PySem PySem.W PyProof.Rows
set_option maxRecDepth 100000 in
set_option maxHeartbeats 0 in
theorem PySem.Challenge.cw_windowrows_k19_whole_offsets_along_a_lis_holds : PySem.Challenge.rw_windowrows_k19_whole_offsets_along_a_lis.Holds := by
  w_on; o_law; k_head; (case hw => w_witness2)
  k_fill
  refine L2.walk_of (l := PySem.Challenge.rw_windowrows_k19_whole_offsets_along_a_lis) (n := 63) (k := 7) (x := "_law_script") (CX := fun _ => L2.CX0) (sp := fun w => Wr.spLaw _) rfl (by decide) rfl ⟨rfl, by decide, by decide⟩ (fun w h Y => PySem.W.kIn_of Y) ?F (fun _ _ a ns hl _ hS => ⟨a, ns, rfl, hS, hl, fun _ => rfl⟩) (fun _ _ _ _ _ h => h)
  case F =>
    intro w mg fa h KX G hmg
    refine' Wr.all_mk KX G hmg ?aC_Offset ?a0 ?l0 ?c0 ?k0 ?a1 ?l1 ?c1 ?k1 ?a2 ?i2 ?l2 ?c2 ?k2 ?a3 ?i3 ?l3 ?c3 ?k3 ?a4 ?i4 ?l4 ?c4 ?k4 ?a5 ?i5 ?l5 ?c5 ?k5 ?a6 ?i6 ?l6 ?c6 ?k6 ?a7 ?l7 ?c7 ?k7 ?a8 ?l8 ?c8 ?k8 ?a9 ?l9 ?c9 ?k9 ?a10 ?l10 ?c10 ?k10 ?a11 ?l11 ?c11 ?k11 ?a12 ?l12 ?c12 ?k12 ?a13 ?l13 ?c13 ?k13 ?a14 ?l14 ?c14 ?k14 ?a15 ?l15 ?c15 ?k15 ?a16 ?l16 ?c16 ?k16 ?a17 ?l17 ?c17 ?k17 ?z_NotImplemented ?z_abs ?z_int ?z_isinstance ?z_len ?z_range ?pg_Offset ?hd_Offset ?po_Offset ?sa_Offset ?mk_Offset ?kc_Offset ?nf_Offset_rows ?nf_Offset_groups ?nf_Offset_distance ?nf_Offset_zone ?ca_Offset ?cn_Offset ?ct_Offset ?cm_Offset ?ne_Offset ?ob_Offset ?nt_Offset ?sf_Offset
    (case aC_Offset => k_is)
    (case a0 => k_is)
    (case l0 => k_is)
    (case c0 => k_is)
    (case k0 => k_is)
    (case a1 => k_is)
    (case l1 => k_is)
    (case c1 => k_is)
    (case k1 => k_is)
    (case a2 => k_is)
    (case i2 => k_is)
    (case l2 => k_is)
    (case c2 => k_is)
    (case k2 => k_is)
    (case a3 => k_is)
    (case i3 => k_is)
    (case l3 => k_is)
    (case c3 => k_is)
    (case k3 => k_is)
    (case a4 => k_is)
    (case i4 => k_is)
    (case l4 => k_is)
    (case c4 => k_is)
    (case k4 => k_is)
    (case a5 => k_is)
    (case i5 => k_is)
    (case l5 => k_is)
    (case c5 => k_is)
    (case k5 => k_is)
    (case a6 => k_is)
    (case i6 => k_is)
    (case l6 => k_is)
    (case c6 => k_is)
    (case k6 => k_is)
    (case a7 => k_is)
    (case l7 => k_is)
    (case c7 => k_is)
    (case k7 => k_is)
    (case a8 => k_is)
    (case l8 => k_is)
    (case c8 => k_is)
    (case k8 => k_is)
    (case a9 => k_is)
    (case l9 => k_is)
    (case c9 => k_is)
    (case k9 => k_is)
    (case a10 => k_is)
    (case l10 => k_is)
    (case c10 => k_is)
    (case k10 => k_is)
    (case a11 => k_is)
    (case l11 => k_is)
    (case c11 => k_is)
    (case k11 => k_is)
    (case a12 => k_is)
    (case l12 => k_is)
    (case c12 => k_is)
    (case k12 => k_is)
    (case a13 => k_is)
    (case l13 => k_is)
    (case c13 => k_is)
    (case k13 => k_is)
    (case a14 => k_is)
    (case l14 => k_is)
    (case c14 => k_is)
    (case k14 => k_is)
    (case a15 => k_is)
    (case l15 => k_is)
    (case c15 => k_is)
    (case k15 => k_is)
    (case a16 => k_is)
    (case l16 => k_is)
    (case c16 => k_is)
    (case k16 => k_is)
    (case a17 => k_is)
    (case l17 => k_is)
    (case c17 => k_is)
    (case k17 => k_is)
    (case z_NotImplemented => k_is)
    (case z_abs => k_is)
    (case z_int => k_is)
    (case z_isinstance => k_is)
    (case z_len => k_is)
    (case z_range => k_is)
    (case pg_Offset => k_is)
    (case hd_Offset => k_is)
    (case po_Offset => k_is)
    (case sa_Offset => k_is)
    (case mk_Offset => k_is)
    (case kc_Offset => k_is)
    (case nf_Offset_rows => k_is)
    (case nf_Offset_groups => k_is)
    (case nf_Offset_distance => k_is)
    (case nf_Offset_zone => k_is)
    (case ca_Offset => k_is)
    (case cn_Offset => k_is)
    (case ct_Offset => k_is)
    (case cm_Offset => k_is)
    (case ne_Offset => k_is)
    (case ob_Offset => k_is)
    (case nt_Offset => k_is)
    (case sf_Offset => k_is)
