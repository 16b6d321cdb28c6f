import PyProof.Rows.All
import Wide.All
import OpenK.AllK
import Wide.FinOn
import HandS.ForMost
import HandS.Wide
import HandS.IsInst
import HandS.Defaults
import HandS.Codes
import PyProof.InstNe
import HandS.Style
import PyProof.ReprRoads
import PyProof.ReprLen
import HandS.ForExc
import HandS.ExcInit
import HandS.ExcField
import HandS.ExcIs
import PyProof.NeKinds
import HandS.MakeKw
import HandS.Strs
import KE.LtSeq
import HandS.TryMany
import PySem.Challenge.RW_windowrows_k36_frames_refused
set_option Elab.async false
set_option linter.all false
set_option maxRecDepth 100000
namespace Wr
open PySem PySem.Spec PyProof.Rows L2
/-! ### readings, one lemma a construct: what is left to be shown behind it -/
section
variable {σ : L2.St} {H : Hp} {Q : VK} {QB : Bool → Hp → Prop} {QA : List V → Hp → Prop} {D : Ends} {t u : TS} {te ta tb : TE} {tt tu : TT} {i j : Int} {v : V} {K : PySem.W.Frag}
theorem r_seq (h : t { D with nx := u D } σ H) : tSeq t u D σ H := h
theorem r_next (h : D.nx σ H) : tNext D σ H := h
theorem r_asg {g : TG} (h : te σ H fun x H1 => g x σ H1 D.nx) : tAsg te g D σ H := h
theorem r_drop (h : te σ H fun _ H1 => D.nx σ H1) : tDrop te D σ H := h
theorem r_ret (h : te σ H D.rt) : tRet te D σ H := h
theorem r_ifs (h : tt σ H fun b H1 => if b = true then t D σ H1 else u D σ H1) : tIfS tt t u D σ H := h
theorem r_gname {n : Nat} {QS : L2.St → Hp → Prop} (h : QS (σ.set n (some v)) H) : gName n v σ H QS := h
theorem r_gsub {to ti : TE} {s : TSet} {QS : L2.St → Hp → Prop} (h : to σ H fun o H1 => ti σ H1 fun i H2 => s o i v H2 fun H3 => QS σ H3) : gSub to ti s v σ H QS := h
theorem r_gtup {n : Nat} {tg : TGs} {a : Addr} {xs : List V} {QS : L2.St → Hp → Prop} (h1 : SqT K H a xs) (h2 : xs.length = n) (h : tg xs σ H QS) : gTup K n tg (.ref a) σ H QS := ⟨a, xs, rfl, h1, h2, h⟩
theorem r_gcons {g : TG} {tg : TGs} {xs : List V} {QS : L2.St → Hp → Prop} (h : g v σ H fun s' H' => tg xs s' H' QS) : gCons g tg (v :: xs) σ H QS := ⟨v, xs, rfl, h⟩
theorem r_gnil {QS : L2.St → Hp → Prop} (h : QS σ H) : gNil [] σ H QS := ⟨rfl, h⟩
theorem r_var {n : Nat} (e : σ[n]? = some (some v)) (h : Q v H) : tVar n σ H Q := ⟨v, e, h⟩
theorem r_c (h : Q v H) : tC v σ H Q := h
theorem r_op {r : R2} (h : ta σ H fun x H1 => tb σ H1 fun y H2 => r x y H2 Q) : tOp r ta tb σ H Q := h
theorem r_un {r : V → Hp → VK → Prop} (h : ta σ H fun x H1 => r x H1 Q) : tUn r ta σ H Q := h
theorem r_I {C : Int → Int → Prop} {g : Int → Int → V} (c : C i j) (h : Q (g i j) H) : rI C g (.int i) (.int j) H Q := ⟨i, j, rfl, rfl, c, h⟩
theorem r_I0 {g : Int → Int → V} (h : Q (g i j) H) : rI0 g (.int i) (.int j) H Q := ⟨i, j, rfl, rfl, h⟩
theorem r_U {g : Int → V} (h : Q (g i) H) : rU g (.int i) H Q := ⟨i, rfl, h⟩
theorem r_test (h : te σ H fun x H1 => ∃ k, x = .bl k ∧ QB k H1) : tTest te σ H QB := h
theorem r_tB (h : te σ H fun x H1 => ∃ k, x = .bl k ∧ QB k H1) : tB te σ H QB := h
theorem r_bl {b : Bool} {F : Bool → Prop} (h : F b) : ∃ k, V.bl b = .bl k ∧ F k := ⟨b, rfl, h⟩
theorem r_and (h : tt σ H fun c H1 => if c = true then tu σ H1 QB else QB false H1) : tAnd tt tu σ H QB := h
theorem r_or (h : tt σ H fun c H1 => if c = true then QB true H1 else tu σ H1 QB) : tOr tt tu σ H QB := h
theorem r_not (h : tt σ H fun c H1 => QB (!c) H1) : tNot tt σ H QB := h
theorem r_andV (h : ta σ H fun x H1 => ∃ c, x = .bl c ∧ if c = true then tb σ H1 Q else Q (.bl false) H1) : tAndV ta tb σ H Q := h
theorem r_orV (h : ta σ H fun x H1 => ∃ c, x = .bl c ∧ if c = true then Q (.bl true) H1 else tb σ H1 Q) : tOrV ta tb σ H Q := h
theorem r_notV (h : ta σ H fun x H1 => ∃ c, x = .bl c ∧ Q (.bl (!c)) H1) : tNotV ta σ H Q := h
theorem r_ife (h : tt σ H fun c H1 => if c = true then ta σ H1 Q else tb σ H1 Q) : tIf tt ta tb σ H Q := h
theorem eq_dint : decide (V.int i = V.int j) = decide (i = j) := by
  by_cases e : i = j
  · rw [e, decide_eq_true rfl, decide_eq_true rfl]
  · rw [decide_eq_false e, decide_eq_false fun z => e (V.int.inj z)]
theorem eq_dbl {a b : Bool} : decide (V.bl a = V.bl b) = (a == b) := by cases a <;> cases b <;> rfl
theorem eq_dstr {a b : Str} : decide (V.str a = V.str b) = decide (a = b) := by
  by_cases e : a = b
  · rw [e, decide_eq_true rfl, decide_eq_true rfl]
  · rw [decide_eq_false e, decide_eq_false fun z => e (V.str.inj z)]
theorem r_eqI (h : Q (.bl (decide (i = j))) H) : rEq (.int i) (.int j) H Q := ⟨rfl, by rw [eq_dint]; exact h⟩
theorem r_neI (h : Q (.bl (!decide (i = j))) H) : rNe (.int i) (.int j) H Q := ⟨rfl, by rw [eq_dint]; exact h⟩
theorem r_eqB {a b : Bool} (h : Q (.bl (a == b)) H) : rEq (.bl a) (.bl b) H Q := ⟨rfl, by rw [eq_dbl]; exact h⟩
theorem r_neB {a b : Bool} (h : Q (.bl (!(a == b))) H) : rNe (.bl a) (.bl b) H Q := ⟨rfl, by rw [eq_dbl]; exact h⟩
theorem r_eqS {a b : Str} (h : Q (.bl (decide (a = b))) H) : rEq (.str a) (.str b) H Q := ⟨rfl, by rw [eq_dstr]; exact h⟩
theorem r_neS {a b : Str} (h : Q (.bl (!decide (a = b))) H) : rNe (.str a) (.str b) H Q := ⟨rfl, by rw [eq_dstr]; exact h⟩
theorem r_ixL {p : Addr} {xs : List V} (h1 : SqL K H p xs) (h2 : atI xs i = some v) (h : Q v H) : rIxL K (.ref p) (.int i) H Q := ⟨p, xs, i, v, rfl, rfl, h1, h2, h⟩
theorem r_ixT {p : Addr} {xs : List V} (h1 : SqT K H p xs) (h2 : atI xs i = some v) (h : Q v H) : rIxT K (.ref p) (.int i) H Q := ⟨p, xs, i, v, rfl, rfl, h1, h2, h⟩
theorem r_setL {p : Addr} {xs : List V} {n : Nat} {QH : Hp → Prop} (h1 : H p = some (.lst xs)) (h2 : ixN xs.length i = some n) (h : QH (upd H p (.lst (xs.set n v)))) : rSetL (.ref p) (.int i) v H QH := ⟨p, xs, i, n, rfl, rfl, h1, h2, h⟩
theorem r_nil (h : QA [] H) : tNil σ H QA := h
theorem r_cons {tr : TA} (h : te σ H fun x H1 => tr σ H1 fun xs H2 => QA (x :: xs) H2) : tCons te tr σ H QA := h
theorem r_cb {r : List V → Hp → VK → Prop} {ts : TA} (h : ts σ H fun vs H1 => r vs H1 Q) : tCB r ts σ H Q := h
theorem r_call {sp : Sp} {dvs : List V} {E : XK} {ts : TA} (h : ts σ H fun vs H1 => sp (vs ++ dvs) H1 Q E) : tCall sp dvs E ts σ H Q := h
theorem r_lst {ts : TA} (h : ts σ H fun xs H1 => xs.length ≤ sizeLine ∧ ∀ p, H1 p = none → Q (.ref p) (upd H1 p (.lst xs))) : tLst ts σ H Q := h
theorem r_tup {ts : TA} (h : ts σ H fun xs H1 => xs.length ≤ sizeLine ∧ ∀ p, H1 p = none → Q (.ref p) (upd H1 p (.tup xs))) : tTup ts σ H Q := h
theorem r_new {n : Nat} {F : Addr → Prop} (h1 : Nat.ble n 1000 = true) (h : ∀ p, H p = none → F p) : n ≤ sizeLine ∧ ∀ p, H p = none → F p := ⟨Nat.le_of_lt (small1000 (Nat.le_of_ble_eq_true h1)), h⟩
theorem r_ite {c : Prop} [Decidable c] {A B : Prop} (h1 : c → A) (h2 : ¬ c → B) : if decide c = true then A else B := by
  by_cases e : c
  · rw [decide_eq_true e]; exact iteT (h1 e)
  · rw [decide_eq_false e]; exact iteF (h2 e)
theorem r_iten {c : Prop} [Decidable c] {A B : Prop} (h1 : ¬ c → A) (h2 : c → B) : if (!decide c) = true then A else B := by
  by_cases e : c
  · rw [decide_eq_true e]; exact iteF (h2 e)
  · rw [decide_eq_false e]; exact iteT (h1 e)
theorem r_iteb {b : Bool} {A B : Prop} (h1 : b = true → A) (h2 : b = false → B) : if b = true then A else B := by
  cases b
  · exact iteF (h2 rfl)
  · exact iteT (h1 rfl)
theorem r_itebn {b : Bool} {A B : Prop} (h1 : b = false → A) (h2 : b = true → B) : if (!b) = true then A else B := by
  cases b
  · exact iteT (h1 rfl)
  · exact iteF (h2 rfl)
theorem iteNT {A B : Prop} (h : B) : if (!true) = true then A else B := iteF h
theorem iteNF {A B : Prop} (h : A) : if (!false) = true then A else B := iteT h
/-- int(n), abs(n), len(list) by words of their own -/
def rInt1 : List V → Hp → VK → Prop := fun xs H Q => ∃ i, xs = [.int i] ∧ Q (.int i) H
def rIntB : List V → Hp → VK → Prop := fun xs H Q => ∃ k, xs = [.bl k] ∧ Q (.int (if k then 1 else 0)) H
def rAbs1 : List V → Hp → VK → Prop := fun xs H Q => ∃ i, xs = [.int i] ∧ Q (.int (if i < 0 then -i else i)) H
def rLenL (K : PySem.W.Frag) : List V → Hp → VK → Prop := fun xs H Q => ∃ p ys, xs = [.ref p] ∧ (SqL K H p ys ∨ SqT K H p ys) ∧ Q (.int ys.length) H
theorem c_int1 {X : Cx} : CallR X (.type "int") rInt1 := fun pins s σ H xs us Q I r h => call_int1 pins s σ H xs us Q I r (Or.inl h)
theorem c_intB {X : Cx} : CallR X (.type "int") rIntB := fun pins s σ H xs us Q I r h => call_int1 pins s σ H xs us Q I r (Or.inr h)
theorem c_abs {X : Cx} : CallR X (.builtin "abs") rAbs1 := call_abs
theorem c_len {X : Cx} : CallR X (.builtin "len") (rLenL X.K) := call_len_seq
theorem r_int1 (h : Q (.int i) H) : rInt1 [.int i] H Q := ⟨i, rfl, h⟩
theorem r_intB {b : Bool} (h : Q (.int (if b then 1 else 0)) H) : rIntB [.bl b] H Q := ⟨b, rfl, h⟩
theorem r_abs1 (h : Q (.int (if i < 0 then -i else i)) H) : rAbs1 [.int i] H Q := ⟨i, rfl, h⟩
theorem r_lenL {p : Addr} {xs : List V} (h1 : SqL K H p xs) (h : Q (.int xs.length) H) : rLenL K [.ref p] H Q := ⟨p, xs, rfl, .inl h1, h⟩
theorem r_lenT {p : Addr} {xs : List V} (h1 : SqT K H p xs) (h : Q (.int xs.length) H) : rLenL K [.ref p] H Q := ⟨p, xs, rfl, .inr h1, h⟩
theorem r_bm {T : String} {r : V → List V → Hp → VK → Prop} {to : TE} {ts : TA} (h : to σ H fun x H1 => tyV K T x H1 ∧ ts σ H1 fun xs H2 => r x xs H2 Q) : tBM K T r to ts σ H Q := h
theorem r_tyL {p : Addr} {xs : List V} {A : Prop} (h1 : SqL K H p xs) (h : A) : tyV K "list" (.ref p) H ∧ A := ⟨Or.inl ⟨rfl, xs, h1⟩, h⟩
theorem r_app {p : Addr} {xs : List V} (h1 : H p = some (.lst xs)) (h2 : xs.length < sizeLine) (h : Q .non (upd H p (.lst (xs ++ [v])))) : rAppend (.ref p) [v] H Q := ⟨p, xs, v, rfl, rfl, h1, h2, h⟩
theorem r_isi {x c : V} {tv uv : Value} {b : Bool} (h1 : ClsV c uv) (h2 : TyX K H x tv) (h3 : PySem.W.kitOne K tv uv = some b) (h : Q (.bl b) H) : rIsi K [x, c] H Q := ⟨x, c, tv, uv, b, rfl, h1, h2, h3, h⟩
end
theorem bit_ok {b : Bool} : -(2 ^ 64) < (if b then (1 : Int) else 0) ∧ (if b then (1 : Int) else 0) < 2 ^ 64 := by cases b <;> decide
def kAt (ns : List Int) (i : Nat) : Int := ns.getD i 0
theorem ati_n {ns : List Int} {j : Nat} (h : j < ns.length) : atI (ns.map V.int) (j : Int) = some (.int (kAt ns j)) := atI_nat (by
  rw [List.getElem?_map, List.getElem?_eq_getElem h]
  show some (V.int ns[j]) = _
  rw [kAt, List.getD_eq_getElem?_getD, List.getElem?_eq_getElem h]
  rfl)
theorem ati_int {ns : List Int} {i : Int} (h0 : 0 ≤ i) (h1 : i < ns.length) : atI (ns.map V.int) i = some (.int (kAt ns i.toNat)) := by
  have e := ati_n (ns := ns) (j := i.toNat) (by omega)
  rw [Int.toNat_of_nonneg h0] at e
  exact e
theorem ati_last {ns : List Int} (h : 0 < ns.length) : atI (ns.map V.int) (-1) = some (.int (kAt ns (ns.length - 1))) := by
  unfold atI ixN
  rw [if_neg (by decide), if_pos (by rw [List.length_map]; omega), List.length_map]
  show (ns.map V.int)[((-1 : Int) + ns.length).toNat]? = _
  rw [show ((-1 : Int) + ns.length).toNat = ns.length - 1 by omega, List.getElem?_map, List.getElem?_eq_getElem (by omega)]
  rw [kAt, List.getD_eq_getElem?_getD, List.getElem?_eq_getElem (by omega)]
  rfl
theorem ixn_in {n : Nat} {i : Int} (h0 : 0 ≤ i) (h1 : i < n) : ixN n i = some i.toNat := by
  unfold ixN
  rw [if_pos h0, if_pos h1]
theorem same_new {H : Hp} {p : Addr} {o : HO} (h : H p = none) : Same H (upd H p o) := fun b x e => by
  rw [upd_ne (ne_of_none e h)]
  exact e
theorem nox_K {CX : CXT} {P : Program} {w : World} {K : PySem.W.Frag} {mg : Str → Option Value} {base : Heap} {N : List Str} {qual : Str} {sc : Scope} {f : Addr} {cd : Value} {A : Around} {outer : List Env} {s : Shared} {H : Hp} {E : XK} : (cxOf CX P w K mg base N qual sc f cd A outer s H E).nox.K = K := rfl
theorem cx_K {CX : CXT} {P : Program} {w : World} {K : PySem.W.Frag} {mg : Str → Option Value} {base : Heap} {N : List Str} {qual : Str} {sc : Scope} {f : Addr} {cd : Value} {A : Around} {outer : List Env} {s : Shared} {H : Hp} {E : XK} : (cxOf CX P w K mg base N qual sc f cd A outer s H E).K = K := rfl
section
variable {H : Hp} {Q : VK} {i j : Int} {K : PySem.W.Frag}
/-- % and // and * that hand on a letter -/
theorem r_mod (c : 0 < j) (h : ∀ k : Int, 0 ≤ k → k < j → k = i % j → Q (.int k) H) : rI (fun _ j => 0 < j) (fun i j => .int (i % j)) (.int i) (.int j) H Q :=
  ⟨i, j, rfl, rfl, c, h _ (Int.emod_nonneg _ (by omega)) (Int.emod_lt_of_pos _ c) rfl⟩
theorem r_fdiv (c : 0 < j) (c2 : j < 2 ^ 200) (h : ∀ k : Int, (0 ≤ i → 0 ≤ k) → k = i / j → Q (.int k) H) : rI CDivW (fun i j => .int (i / j)) (.int i) (.int j) H Q :=
  ⟨i, j, rfl, rfl, wide_div (b := 201) c (by omega) (by decide) (by decide), h _ (fun z => Int.ediv_nonneg z (by omega)) rfl⟩
theorem r_mul (c : CMul i j) (h : ∀ k : Int, k = i * j → Q (.int k) H) : rI CMul (fun i j => .int (i * j)) (.int i) (.int j) H Q := ⟨i, j, rfl, rfl, c, h _ rfl⟩
theorem r_lenI {p : Addr} {ns : List Int} (h1 : H p = some (.lst (ns.map V.int))) (h : Q (.int ns.length) H) : rLenL K [.ref p] H Q := ⟨p, _, rfl, .inl (.inl (.inl h1)), by rw [List.length_map]; exact h⟩
end
theorem bl_to {a b : Bool} {Q : VK} {H : Hp} (q : Q (.bl b) H) (e : a = b) : Q (.bl a) H := e ▸ q
/-! ### comprehensions by words of their own -/
def lcGo (J : It) (g : TG) (tt : TT) (te : TE) (vs : List Nat) (σ : L2.St) (Q : VK) (H1 : Hp) : Prop :=
  ∀ D, H1 D = none → ∃ W : Nat → Nat → Hp → Prop, (∃ m, W 0 m (upd H1 D (.lst []))) ∧
    ∀ i m H, W i m H → (J.stop i H ∧ Q (.ref D) H) ∨
      (J.go i H ∧ ∃ Nx : Hp → Prop, (∀ H', Nx H' → ∃ m', m' < m ∧ W (i + 1) m' H') ∧
        ∀ x H', J.yld i H x H' → g x (wipe σ vs) H' fun σ2 H2 => wipe σ2 vs = wipe σ vs ∧ tt σ2 H2 fun b H3 =>
          if b = true then te σ2 H3 fun y H4 => ∃ acc, H4 D = some (.lst acc) ∧ acc.length < sizeLine ∧ Nx (upd H4 D (.lst (acc ++ [y]))) else Nx H3)
section
variable {σ : L2.St} {H : Hp} {Q : VK} {te tl : TE} {K : PySem.W.Frag} {a : Addr} {xs : List V}
theorem r_lc {wi : TI} {g : TG} {tt : TT} {vs : List Nat} (h : wi σ H fun J H1 => lcGo J g tt te vs σ Q H1) : tLc wi g tt te vs σ H Q := h
theorem r_il {R : It → Hp → Prop} (h : tl σ H fun x H1 => ∃ a, x = .ref a ∧ (∃ xs, SqL K H1 a xs) ∧ R (Itl K a) H1) : iList K tl σ H R := h
theorem r_it {R : It → Hp → Prop} (h : tl σ H fun x H1 => ∃ a, x = .ref a ∧ (∃ xs, SqT K H1 a xs) ∧ R (Itt K a) H1) : iTup K tl σ H R := h
theorem r_itl {F : Addr → Prop} (hS : SqL K H a xs) (h : F a) : ∃ b, V.ref a = .ref b ∧ (∃ xs, SqL K H b xs) ∧ F b := ⟨a, rfl, ⟨xs, hS⟩, h⟩
theorem r_itt {F : Addr → Prop} (hS : SqT K H a xs) (h : F a) : ∃ b, V.ref a = .ref b ∧ (∃ xs, SqT K H b xs) ∧ F b := ⟨a, rfl, ⟨xs, hS⟩, h⟩
theorem r_rng1 {ta : TA} {R : It → Hp → Prop} (h : ta σ H fun vs H1 => ∃ j : Int, vs = [.int j] ∧ -(2 ^ 62) ≤ j ∧ j < 2 ^ 62 ∧ R (Itr 0 j.toNat) H1) : iRng1 ta σ H R := h
theorem r_rng2 {ta : TA} {R : It → Hp → Prop} (h : ta σ H fun vs H1 => ∃ i j : Int, vs = [.int i, .int j] ∧ (-(2 ^ 62) ≤ i ∧ i < 2 ^ 62 ∧ -(2 ^ 62) ≤ j ∧ j < 2 ^ 62) ∧ R (Itr i (j - i).toNat) H1) : iRng2 ta σ H R := h
theorem r_upto {j : Int} {F : Int → Prop} (h1 : -1000000 ≤ j) (h2 : j ≤ 1000000) (h : F j) : ∃ k : Int, [V.int j] = [.int k] ∧ -(2 ^ 62) ≤ k ∧ k < 2 ^ 62 ∧ F k := ⟨j, rfl, by omega, by omega, h⟩
theorem r_from {i j : Int} {F : Int → Int → Prop} (h0 : -1000000 ≤ i ∧ i ≤ 1000000) (h1 : -1000000 ≤ j ∧ j ≤ 1000000) (h : F i j) : ∃ i' j' : Int, [V.int i, V.int j] = [.int i', .int j'] ∧ (-(2 ^ 62) ≤ i' ∧ i' < 2 ^ 62 ∧ -(2 ^ 62) ≤ j' ∧ j' < 2 ^ 62) ∧ F i' j' := ⟨i, j, rfl, by omega, h⟩
theorem r_for {wi : TI} {g : TG} {tb : TS} {D : Ends} (h : wi σ H fun J H1 => ∃ W : Nat → Nat → L2.St → Hp → Prop, (∃ m, W 0 m σ H1) ∧ ∀ i m σ H, W i m σ H →
      (J.stop i H ∧ D.nx σ H) ∨ (J.go i H ∧ ∃ N : L2.St → Hp → Prop, (∀ σ' H', N σ' H' → ∃ m', m' < m ∧ W (i + 1) m' σ' H') ∧
        ∀ x H', J.yld i H x H' → g x σ H' fun σ2 H2 => tb { D with nx := N, ct := N, bk := D.nx } σ2 H2)) : tFor wi g tb D σ H := h
theorem wipe1 {n : Nat} {x : V} : wipe ((wipe σ [n]).set n (some x)) [n] = wipe σ [n] := by
  show ((σ.set n none).set n (some x)).set n none = σ.set n none
  rw [List.set_set, List.set_set]
/-- [e for x in xs], e a value by a function of x, the heap only grows aside -/
theorem lc_map {n : Nat} (f : V → V) (hS : SqL K H a xs) (hz : xs.length ≤ 1000) (he : ∀ (x : V) (H' : Hp) (QQ : VK), x ∈ xs → Same H H' → QQ (f x) H' → te ((wipe σ [n]).set n (some x)) H' QQ)
    (hq : ∀ D, H D = none → Q (.ref D) (upd H D (.lst (xs.map f)))) : lcGo (Itl K a) (gName n) tYes te [n] σ Q H := by
  intro D hD
  refine lc_list (K := K) (a := a) (xs := xs) (fun i H' => H' = upd H D (.lst ((xs.take i).map f))) rfl (fun i H' _ e => by subst e; exact (same_new hD).seq hS) ?_ ?_
  · rintro i x H' hx rfl
    refine ⟨wipe1, ?_⟩
    show te _ _ _
    refine he x _ _ (List.mem_of_getElem? hx) (same_new hD) ⟨(xs.take i).map f, upd_same, ?_, ?_⟩
    · rw [List.length_map, List.length_take]
      exact small1000 (by omega)
    · rw [upd_upd, List.take_add_one, hx, List.map_append]
      rfl
  · rintro H' rfl
    rw [List.take_length]
    exact hq D hD
end
section
variable {σ : L2.St} {H : Hp} {Q : VK} {te : TE} {K : PySem.W.Frag} {QO : Option Int → Hp → Prop}
theorem r_sl {r : V → Option Int → Option Int → Hp → VK → Prop} {tl th : TO} (h : te σ H fun x H1 => tl σ H1 fun l H2 => th σ H2 fun u H3 => r x l u H3 Q) : tSl r te tl th σ H Q := h
theorem r_np (h : QO none H) : tNoPart σ H QO := h
theorem r_pt (h : te σ H fun x H1 => ∃ i, x = .int i ∧ QO (some i) H1) : tPart te σ H QO := h
theorem r_pti {i : Int} {F : Int → Prop} (h : F i) : ∃ k, V.int i = .int k ∧ F k := ⟨i, rfl, h⟩
theorem r_slL {a : Addr} {xs : List V} {lo hi : Option Int} (hS : SqL K H a xs) (h : ∀ p, H p = none → Q (.ref p) (upd H p (.lst (cutV xs lo hi)))) : rSlL K (.ref a) lo hi H Q := ⟨a, xs, rfl, hS, h⟩
end
theorem cut_none {xs : List V} {n : Nat} (h : xs.length ≤ n) : cutV xs none (some (n : Int)) = xs := by
  unfold cutV
  rw [HT.sIx_none, show HT.sIx xs.length xs.length (some (n : Int)) = min n xs.length from HT.sIx_nat xs.length xs.length n]
  rw [List.drop_zero, Nat.sub_zero, Nat.min_eq_right h, List.take_length]
/-! ### the draws of a script -/
structure Drw (H : Hp) (d c r : Addr) : Prop where
  dc : d ≠ c
  dr : d ≠ r
  cr : c ≠ r
  ex : ∃ (ns rs : List Int) (t : Int), H d = some (.lst [.ref c, .ref r, .int t]) ∧ H c = some (.lst (ns.map V.int)) ∧ H r = some (.lst (rs.map V.int)) ∧ ns.length = rs.length ∧ 0 < ns.length ∧ 0 ≤ t ∧ ∀ x ∈ rs, 0 ≤ x
def Ext (d r : Addr) (H H' : Hp) : Prop := ∀ b o, H b = some o → b ≠ d → b ≠ r → H' b = some o
theorem Ext.refl {d r : Addr} {H : Hp} : Ext d r H H := fun _ _ e _ _ => e
theorem Ext.trans {d r : Addr} {H H1 H2 : Hp} (a : Ext d r H H1) (b : Ext d r H1 H2) : Ext d r H H2 := fun x o e n1 n2 => b x o (a x o e n1 n2) n1 n2
theorem Ext.of {d r : Addr} {H H' : Hp} (s : Same H H') : Ext d r H H' := fun b o e _ _ => s b o e
theorem Drw.same {H H' : Hp} {d c r : Addr} (D : Drw H d c r) (s : Same H H') : Drw H' d c r := by
  obtain ⟨dc, dr, cr, ns, rs, t, h1, h2, h3, h⟩ := D
  exact ⟨dc, dr, cr, ns, rs, t, s _ _ h1, s _ _ h2, s _ _ h3, h⟩
theorem Drw.new {H : Hp} {d c r p : Addr} {o : HO} (D : Drw H d c r) (h : H p = none) : Drw (upd H p o) d c r := D.same (same_new h)
theorem Drw.ned {H : Hp} {d c r p : Addr} (D : Drw H d c r) (h : H p = none) : p ≠ d := by
  obtain ⟨_, _, _, _, _, _, h1, _⟩ := D
  exact (ne_of_none h1 h).symm
theorem Drw.ner {H : Hp} {d c r p : Addr} (D : Drw H d c r) (h : H p = none) : p ≠ r := by
  obtain ⟨_, _, _, _, _, _, _, _, h1, _⟩ := D
  exact (ne_of_none h1 h).symm
theorem Drw.nec {H : Hp} {d c r p : Addr} (D : Drw H d c r) (h : H p = none) : p ≠ c := by
  obtain ⟨_, _, _, _, _, _, _, h1, _⟩ := D
  exact (ne_of_none h1 h).symm
theorem getD_left {xs : List Int} {y : Int} {i : Nat} (h : i < xs.length) : (xs ++ [y]).getD i 0 = xs.getD i 0 := by
  rw [List.getD_eq_getElem?_getD, List.getD_eq_getElem?_getD, List.getElem?_append_left h]
theorem getD_end {xs : List Int} {y : Int} : (xs ++ [y]).getD xs.length 0 = y := by
  rw [List.getD_eq_getElem?_getD, List.getElem?_append_right (Nat.le_refl _), Nat.sub_self]
  rfl
theorem Drw.back {H H' : Hp} {d c r p : Addr} (D : Drw H d c r) (e : Ext d r H H') (h : H' p = none) (D' : Drw H' d c r := by assumption) : H p = none := by
  cases q : H p with
  | none => rfl
  | some o =>
    have z := e p o q (D'.ned h) (D'.ner h)
    rw [h] at z
    cases z
theorem Drw.put {H : Hp} {d c r p : Addr} {o : HO} (D : Drw H d c r) (h1 : p ≠ d) (h2 : p ≠ r) (h3 : p ≠ c) : Drw (upd H p o) d c r := by
  obtain ⟨dc, dr, cr, ns, rs, t, g1, g2, g3, h⟩ := D
  exact ⟨dc, dr, cr, ns, rs, t, (upd_ne h1.symm).trans g1, (upd_ne h3.symm).trans g2, (upd_ne h2.symm).trans g3, h⟩
def spDraw : Sp := fun vs H Q _ => ∃ (d c r : Addr) (m : Int), vs = [.ref d, .int m] ∧ Drw H d c r ∧ 0 < m ∧ m < 2 ^ 200 ∧ ∀ (k : Int) (H' : Hp), 0 ≤ k → k < m → Drw H' d c r → Ext d r H H' → Q (.int k) H'
def spBegin (K : PySem.W.Frag) : Sp := fun vs H Q _ => ∃ (a : Addr) (ns : List Int), vs = [.ref a] ∧ SqL K H a (ns.map V.int) ∧ ns.length ≤ 63 ∧
  ∀ (d c r : Addr) (H' : Hp), Drw H' d c r → Same H H' → H d = none → H c = none → H r = none → Q (.ref d) H'
def restOf (v : V) : V := match v with
  | .int x => .int ((if x < 0 then -x else x) * (if decide ((10 : Int) ^ 18 ≤ (if x < 0 then -x else x)) then 1 else 0))
  | w => w
def restI (x : Int) : Int := (if x < 0 then -x else x) * (if decide ((10 : Int) ^ 18 ≤ (if x < 0 then -x else x)) then 1 else 0)
theorem rest_map (ns : List Int) : (ns.map V.int).map restOf = (ns.map restI).map V.int := by
  rw [List.map_map, List.map_map]
  rfl
theorem rest_nn (x : Int) : 0 ≤ restI x := by
  unfold restI
  refine Int.mul_nonneg ?_ ?_
  · split <;> omega
  · split <;> omega
/-! ### calls by keywords alone -/
section
variable {X : Cx} {CX : CXT} {k : Nat} {f : Addr} {fd : FuncData} {ps ks : List Str} {sp : Sp} {E : XK} {x : Str} {p pos : Pos} {kws : List Keyword} {tk : TA} {g : List Value → List Value → List Value} {gV : List V → List V → List V}
theorem pe_callN0 (F : FnOk X.prog X.w X.K X.mg X.base CX k f fd ps sp) (hr : Room k X.A) (hg : Gl X x) (hm : X.mg x = some (.ref f)) (hk : PySem.W.keepIn X.K (.ref f) = true) (hb : KBn X.K fd ps 0 ks g gV) (hx : Passes CX X E) (hkw : PK X kws tk)
    (hall : (backToKw pos (keywordEach kws X.env)).all (fun q => q.1.isSome) = true := by rfl) (hks : (backToKw pos (keywordEach kws X.env)).filterMap (fun q => q.1) = ks := by rfl) (hdb : (x == ("__debug__" : Str)) = false := by decide)
    (hpl : ((backTo pos (starEach [] X.env)).any (fun q => q.1) || (backToKw pos (keywordEach kws X.env)).any (fun q => q.1.isNone)) = false := by rfl) :
    PE X (.Call (.Name x p) [] kws pos) (tCallN 0 ks.length sp gV E tNil tk) := by
  refine ⟨fun pins s σ H Q I h => wpAny_Call_Name_kw (ld_glob I hg hm ?_ hdb)⟩
  refine PySem.W.callWith_KW0 (h₀ := X.base) I.ok.mod.kin hk hall (thn (hkw.run pos pins s σ H _ I h) fun ws s2 hh => ?_) hpl
  obtain ⟨zs, H2, I2, rz, l1, l2, q2⟩ := hh
  refine ⟨I2.kIn, ?_⟩
  rw [hks]
  exact run_fnN (us := []) (vs := []) F hr hb hx I2 .nil rz rfl l2 q2
theorem r_callN {n m : Nat} {ts : TA} {σ : L2.St} {H : Hp} {Q : VK} (h : ts σ H fun vs H1 => tk σ H1 fun zs H2 => vs.length = n ∧ zs.length = m ∧ sp (gV vs zs) H2 Q E) : tCallN n m sp gV E ts tk σ H Q := h
end
theorem kb_mk {K : PySem.W.Frag} {x qual : Str} {st : Stmt} {f : Addr} {fd : FuncData} {ps ks : List Str} {g : List Value → List Value → List Value} {gV : List V → List V → List V} (F : Fun K x qual st f fd)
    (h : ∀ (kV doc pm : Value) (an : Option Addr) (cdv ct : Value) (ws : List Value), ws.length = ks.length → bindArgs (PySem.W.fnOf x qual (defArgs st) (defBody st) (defScope st) .none kV doc pm an cdv ct) ⟨[], ks.zip ws⟩ = pure (ps.zip (g [] ws)))
    (hrel : ∀ {vs : List V} {us : List Value} {zs : List V} {ws : List Value}, Vals vs us → Vals zs ws → Vals (gV vs zs) (g us ws)) : KBn K fd ps 0 ks g gV := by
  obtain ⟨oc, od, kV, doc, pm, an, cdv, ct, osl, rfl, lk, hcd⟩ := F.ex
  refine ⟨fun s us ws _ l1 l2 => ?_, hrel⟩
  have e : us = [] := List.length_eq_zero_iff.mp l1
  subst e
  exact .of_eq (h kV doc pm an cdv ct ws l2)
section
variable {σ : L2.St} {H : Hp} {D : Ends} {ta : TA}
theorem r_par {i j : Nat} (h : ta σ H fun vs H1 => ∃ v w, vs = [v, w] ∧ D.nx ((σ.set i (some v)).set j (some w)) H1) : tPar i j ta D σ H := h
theorem r_par3 {i j l : Nat} (h : ta σ H fun vs H1 => ∃ u v w, vs = [u, v, w] ∧ D.nx (((σ.set i (some u)).set j (some v)).set l (some w)) H1) : tPar3 i j l ta D σ H := h
theorem r_two {a b : V} {F : V → V → Prop} (h : F a b) : ∃ v w, [a, b] = [v, w] ∧ F v w := ⟨a, b, rfl, h⟩
theorem r_three {a b c : V} {F : V → V → V → Prop} (h : F a b c) : ∃ u v w, [a, b, c] = [u, v, w] ∧ F u v w := ⟨a, b, c, rfl, h⟩
end
/-- [e for x in range(..)], e draws -/
theorem lc_draws {σ : L2.St} {H : Hp} {Q : VK} {te : TE} {n m : Nat} {lo : Int} {d c r : Addr} {P : Int → Prop} (hm : m ≤ 1000) (D0 : Drw H d c r)
    (he : ∀ (i : Nat) (H' : Hp) (QQ : VK), i < m → Drw H' d c r → Ext d r H H' → (∀ (k : Int) (H'' : Hp), P k → Drw H'' d c r → Ext d r H' H'' → QQ (.int k) H'') → te ((wipe σ [n]).set n (some (.int (lo + i)))) H' QQ)
    (hq : ∀ (l : Addr) (ss : List Int) (H' : Hp), ss.length = m → (∀ x ∈ ss, P x) → H l = none → H' l = some (.lst (ss.map V.int)) → Drw H' d c r → Ext d r H H' → Q (.ref l) H') : lcGo (Itr lo m) (gName n) tYes te [n] σ Q H := by
  intro l nl
  have ld := D0.ned nl
  have lr := D0.ner nl
  have lc := D0.nec nl
  refine lc_range (fun i H' => ∃ ss : List Int, ss.length = i ∧ (∀ x ∈ ss, P x) ∧ H' l = some (.lst (ss.map V.int)) ∧ Drw H' d c r ∧ Ext d r H H') ⟨[], rfl, fun x hx => (nomatch hx), upd_same, D0.new nl, Ext.of (same_new nl)⟩ ?_ ?_
  · rintro i H' hi ⟨ss, hl, hp, hs, D1, E1⟩
    refine ⟨wipe1, ?_⟩
    show te _ _ _
    refine he i H' _ hi D1 E1 fun k H'' hk D2 E2 => ⟨ss.map V.int, E2 _ _ hs ld lr, ?_, ?_⟩
    · rw [List.length_map]
      exact small1000 (by omega)
    · refine ⟨ss ++ [k], by rw [List.length_append, hl]; rfl, fun x hx => ?_, by rw [upd_same, List.map_append]; rfl, D2.put ld lr lc, fun b o e n1 n2 => ?_⟩
      · rcases List.mem_append.mp hx with z | z
        · exact hp x z
        · rw [List.mem_singleton.mp z]; exact hk
      · rw [upd_ne (ne_of_none e nl)]
        exact E2 b o (E1 b o e n1 n2) n1 n2
  · rintro H' ⟨ss, hl, hp, hs, D1, E1⟩
    exact hq l ss H' hl hp nl hs D1 E1
section
variable {σ : L2.St} {H : Hp} {D : Ends} {te : TE} {Q : VK}
theorem r_aug {i : Nat} {ti : TIp} {x : V} (e : σ[i]? = some (some x)) (h : te σ H fun y H1 => ti x y H1 fun z H2 => D.nx (σ.set i (some z)) H2) : tAug i te ti D σ H := ⟨x, e, h⟩
theorem r_ext2 {l b : Addr} {xs zs : List V} (h1 : H l = some (.lst xs)) (h2 : H b = some (.lst zs)) (hz : xs.length + zs.length ≤ 1000) (h : Q (.ref l) (upd H l (.lst (xs ++ zs)))) : rExt2 (.ref l) (.ref b) H Q := ⟨l, b, xs, zs, rfl, rfl, h1, h2, Nat.le_of_lt (small1000 hz), h⟩
theorem r_ipI {f : Int → Int → Int} {i j : Int} (h : Q (.int (f i j)) H) : ipI f (.int i) (.int j) H Q := ⟨i, j, rfl, rfl, h⟩
end
/-! ### operators of own classes: by the class's own def -/
section
open PySem.W
variable {prog : Program} {w : World} {A : Around} {E : Value → Shared → Prop} {s : Shared} {K : PySem.W.Frag} {x C f : Addr} {ox : Obj} {od : Option Obj} {b tb : Value}
theorem check_obj {M : Model} {rest : List Value} {Q : Unit → Shared → Prop} (X : K.In s.heap) (I : InstAt s.heap x ox C od) (hob : subIn K (.ref C) (.type "object") = some true) (ha : argsOk "object.__ne__" ⟨.ref x :: rest, []⟩) (hq : Q () s) :
    wpAny M A (checkBuiltinCall "object.__ne__" ⟨.ref x :: rest, []⟩) Q E s := by
  simp only [checkBuiltinCall, F.cmpKind_ne, F.cmpSplit_ne]
  refine wpAny_bind ?_
  unfold isInstance
  refine wpAny_bind (I.type.here ((looks_subIn X hob).here ?_))
  simp only [Bool.not_true, Bool.false_eq_true, if_false]
  cases hsig : Manifest.signature? "object.__ne__" with
  | none => exact wpAny_pure hq
  | some sig =>
    simp only [argsOk, hsig] at ha
    show wpAny M A (Bind.checkArgs "object.__ne__" sig ⟨.ref x :: rest, []⟩) Q E _
    rw [show Bind.checkArgs "object.__ne__" sig ⟨.ref x :: rest, []⟩ = pure () from ha]
    exact wpAny_pure hq
theorem bound_ne {M : Model} {args : List Value} {Q : Option Value → Shared → Prop} (X : K.In s.heap) (I : InstAt s.heap x ox C od) (hs : findIn K (.ref C) "__ne__" = some (some (.builtin "object.__ne__")))
    (h : wpAny M A (call (.builtin "object.__ne__") (.ref x :: args)) (fun v => Q (some v)) E s) : wpAny M A (callSpecialIfBound? (.ref x) "__ne__" args) Q E s := by
  simp only [callSpecialIfBound?, bindSpecialIfBound?]
  have hb : bindSpecial (.builtin "object.__ne__") (.ref x) = pure (.builtin "object.__ne__", [.ref x]) := F.cmp_object.ne.bind _
  have fin : wpAny M A (call (.builtin "object.__ne__") ([.ref x] ++ args) >>= fun v => pure (some v)) Q E s := wpAny_bind (wpAny_mono h (fun v s' h' => wpAny_pure h') fun _ _ h' => h')
  refine wpAny_holding (wpAny_bind (wpAny_bind (wpAny_bind (I.type.here ((looks_findIn X hs).here ?_)))))
  refine wpAny_bind (wpAny_askSetting (wpAny_ite ?_))
  rw [hb]
  split
  · exact wpAny_bind (wpAny_pure (wpAny_pure (by exact fin)))
  · exact wpAny_tryCatch (wpAny_bind (wpAny_pure (wpAny_pure (by exact fin))))
theorem ne_own {Q : Value → Shared → Prop} (hu : A.units + 1 < cLine) (X : K.In s.heap) (I : InstAt s.heap x ox C od) (hb : Looks (model prog w) s.heap (typeOf b) tb) (hn : notFirst K C tb = true)
    (hne : findIn K (.ref C) "__ne__" = some (some (.builtin "object.__ne__"))) (hob : subIn K (.ref C) (.type "object") = some true) (hs : findIn K (.ref C) "__eq__" = some (some (.ref f))) (hf : isFn K (.ref f) = true)
    (h : wpAny (model prog w) A.in1 (call (.ref f) [.ref x, b]) (fun v s' => ∃ k, v = .bool k ∧ Q (.bool (!k)) s') E s) : wpAny (model prog w) A (richCompare .NotEq (.ref x) b) Q E s := by
  have one : wpAny (model prog w) A (tryCompare (.ref x) (cmpInfo .NotEq).2.1 b) (fun r s' => ∃ v, r = some v ∧ Q v s') E s := by
    unfold tryCompare
    refine wpAny_bind (bound_ne X I hne (wpAny_call (codeAny_call_builtin F.cmp_object.ne.plain F.cmpEntry_ne (check_obj X I hob (F.cmpArgs_ne _ _) ?_))))
    unfold Builtin.«object.__ne__»
    repeat (first
      | with_reducible refine wpAny_cRoomFor hu ?_
      | (refine wpAny_bind (m := callSpecialIfBound? (.ref x) (Str.ofString "__eq__") [b])
          (ifBound_K X I hs hf (wpAny_mono h (fun r s' hr => by
            obtain ⟨k, rfl, hq⟩ := hr
            repeat (first | exact wpAny_pure ⟨_, rfl, hq⟩ | (refine wpAny_bind (m := truthy (.bool _)) (wpAny_truthy_bool ?_)) | wp_step)) fun _ _ e => e)))
      | wp_step)
  unfold richCompare
  simp only [oneThing_ref]
  refine wpAny_holding (wpAny_bind (wpAny_cRoomFor (Nat.lt_of_succ_lt hu) ?_))
  refine wpAny_bind (I.type.here (wpAny_bind (hb.here ?_)))
  split
  · rename_i q
    have e : subIn K tb (.ref C) = some false := by
      rcases Bool.or_eq_true_iff.mp hn with e | e
      · rw [beq_iff_eq.mp e] at q; simp at q
      · exact beq_iff_eq.mp e
    refine wpAny_bind ((looks_subIn X e).here ?_)
    simp only [Bool.false_eq_true, if_false]
    refine wpAny_bind (wpAny_mono one (fun r s' z => ?_) fun _ _ e => e)
    obtain ⟨v, rfl, hq⟩ := z
    exact wpAny_pure hq
  · refine wpAny_bind (wpAny_pure ?_)
    simp only [Bool.false_eq_true, if_false]
    refine wpAny_bind (wpAny_mono one (fun r s' z => ?_) fun _ _ e => e)
    obtain ⟨v, rfl, hq⟩ := z
    exact wpAny_pure hq
theorem neg_own {M : Model} {Q : Value → Shared → Prop} (X : K.In s.heap) (I : InstAt s.heap x ox C od) (hs : findIn K (.ref C) "__neg__" = some (some (.ref f))) (hf : isFn K (.ref f) = true)
    (h : wpAny M A (call (.ref f) [.ref x]) Q E s) : wpAny M A (unaryOp .USub (.ref x)) Q E s := by
  unfold unaryOp
  refine wpAny_holding ?_
  dsimp only
  rw [if_neg (by decide)]
  exact wpAny_bind (special_fn X I hs (beq_iff_eq.mp hf) (wpAny_mono h (fun _ _ z => wpAny_pure z) fun _ _ z => z))
end
section
variable {X : Cx} {CX : CXT} {k : Nat} {g C : Addr} {fd : FuncData} {ps : List Str} {sp : Sp} {E : XK}
theorem cmpb {P : Value → Shared → Prop} {z : V} {v : Value} {s' : Shared} (r : RelV z v) (h : P v s') : PySem.W.CmpBack P v s' := by
  cases z with
  | non => cases (show v = Value.none from r); exact h
  | bl b => cases (show v = Value.bool b from r); exact h
  | int i => obtain ⟨t, rfl⟩ := (show ∃ t, v = Value.int i t from r); exact h
  | str x => obtain ⟨t, rfl⟩ := (show ∃ t, v = Value.str x t from r); exact h
  | byt b => obtain ⟨t, rfl⟩ := (show ∃ t, v = Value.bytes b t from r); exact h
  | flt b => obtain ⟨t, rfl⟩ := (show ∃ t, v = Value.float b t from r); exact h
  | ref a => cases (show v = Value.ref a from r); exact h
  | ty n => cases (show v = Value.type n from r); exact h
/-- what an own operator of the class at C asks: the left one is an instance, the right one's type is known and not below C -/
def rCmpO (K : PySem.W.Frag) (C : Addr) (sp : Sp) (E : XK) : R2 := fun x y H Q => ∃ a dx fs t, x = .ref a ∧ H a = some (.ins C dx fs) ∧ TyX K H y t ∧ PySem.W.notFirst K C t = true ∧ sp [x, y] H Q E
def rNeO (K : PySem.W.Frag) (C : Addr) (sp : Sp) (E : XK) : R2 := fun x y H Q => ∃ a dx fs t, x = .ref a ∧ H a = some (.ins C dx fs) ∧ TyX K H y t ∧ PySem.W.notFirst K C t = true ∧ sp [x, y] H (fun v H' => ∃ b, v = .bl b ∧ Q (.bl (!b)) H') E
def rAddO (C : Addr) (sp : Sp) (E : XK) : R2 := fun x y H Q => ∃ a dx fs b dy gs, x = .ref a ∧ y = .ref b ∧ H a = some (.ins C dx fs) ∧ H b = some (.ins C dy gs) ∧ sp [x, y] H Q E
def rNegO (C : Addr) (sp : Sp) (E : XK) : V → Hp → VK → Prop := fun x H Q => ∃ a dx fs, x = .ref a ∧ H a = some (.ins C dx fs) ∧ sp [x] H Q E
theorem inst_at {pins : List (Addr × Obj)} {σ : L2.St} {H : Hp} {s : Shared} {a dx : Addr} {fs : List (Str × V)} (I : Inv X pins σ H s) (h : H a = some (.ins C dx fs)) : ∃ ox od, PySem.W.InstAt s.heap a ox C od := by
  obtain ⟨mA, O, _⟩ := ins_get I.hok h
  obtain ⟨od, J, _⟩ := O.look
  exact ⟨_, _, J⟩
theorem op_cmpO {op : CmpOp} (hop : ∀ a b, compareOp op a b = richCompare op a b) (hs : PySem.W.findIn X.K (.ref C) (cmpInfo op).2.1 = some (some (.ref g))) (hf : PySem.W.isFn X.K (.ref g) = true) (F : FnOk X.prog X.w X.K X.mg X.base CX k g fd ps sp) (hr : Room k X.A) (hb : Binds X.K fd ps []) (hx : Passes CX X E) :
    OpR X (compareOp op) (rCmpO X.K C sp E) := by
  intro pins s σ H x y v u Q I rx ry h
  obtain ⟨a, dx, fs, t, rfl, ha, ty, hn, q⟩ := h
  cases (show v = Value.ref a from rx)
  obtain ⟨ox, od, J⟩ := inst_at I ha
  obtain ⟨P, Z, p, _⟩ := kit_of I ry ty
  obtain ⟨m, hF⟩ := I.fr
  rw [hop]
  refine PySem.W.cmp_K (op := op) (tb := t) hr.units0 hF I.ok.mod.kin J (Z.ty _ _ I.kIn p) hn hs hf ?_
  refine wpAny_mono (run_fn (ds := []) (dvs := []) (vs := [.ref a, y]) F hr hb .nil hx I (.cons rfl (.cons ry .nil)) (by rw [List.append_nil]; exact q)) (fun w s' z => ?_) fun _ _ e => e
  obtain ⟨z', H', I', rz, qz⟩ := z
  exact cmpb rz ⟨z', H', I', rz, qz⟩
theorem op_eqO (hs : PySem.W.findIn X.K (.ref C) "__eq__" = some (some (.ref g))) (hf : PySem.W.isFn X.K (.ref g) = true) (F : FnOk X.prog X.w X.K X.mg X.base CX k g fd ps sp) (hr : Room k X.A) (hb : Binds X.K fd ps []) (hx : Passes CX X E) :
    OpR X (compareOp .Eq) (rCmpO X.K C sp E) := op_cmpO (fun _ _ => rfl) hs hf F hr hb hx
theorem op_neO (hs : PySem.W.findIn X.K (.ref C) "__eq__" = some (some (.ref g))) (hf : PySem.W.isFn X.K (.ref g) = true) (hne : PySem.W.findIn X.K (.ref C) "__ne__" = some (some (.builtin "object.__ne__"))) (hob : PySem.W.subIn X.K (.ref C) (.type "object") = some true)
    (F : FnOk X.prog X.w X.K X.mg X.base CX k g fd ps sp) (hr : Room (k + 1) X.A) (hb : Binds X.K fd ps []) (hx : Passes CX X E) : OpR X (compareOp .NotEq) (rNeO X.K C sp E) := by
  intro pins s σ H x y v u Q I rx ry h
  obtain ⟨a, dx, fs, t, rfl, ha, ty, hn, q⟩ := h
  cases (show v = Value.ref a from rx)
  obtain ⟨ox, od, J⟩ := inst_at I ha
  obtain ⟨P, Z, p, _⟩ := kit_of I ry ty
  have hu := hr.units
  show wpAny _ _ (richCompare .NotEq _ _) _ _ _
  refine ne_own (by omega) I.kIn J (Z.ty _ _ I.kIn p) hn hne hob hs hf ?_
  have r2 : Vals [V.ref a, y] [Value.ref a, u] := .cons rfl (.cons ry .nil)
  have hl : ([Value.ref a, u] ++ []).length = ps.length := by
    rw [List.append_nil, ← r2.length]
    exact F.len _ _ _ _ q
  refine wpAny_call (codeAny_mono (F.run X.A.in1 X.stack s H ⟨[.ref a, u], []⟩ [.ref a, u] _ _ E hr.in1 I.env0.in1 (by have z := hb s [.ref a, u] I.kIn hl; rw [List.append_nil] at z; exact z) r2 q) fun r s' hq => ?_)
  cases r with
  | error e => exact hx pins σ H s e s' I hq
  | ok fl =>
    cases fl with
    | ret z =>
      obtain ⟨v', H', I', rv, b, rfl, qz⟩ := I.after hq
      cases rv
      exact ⟨b, rfl, .bl (!b), H', I', rfl, qz⟩
    | next => exact False.elim hq
    | brk => exact False.elim hq
    | cont => exact False.elim hq
theorem op_binO {op : Operator} (hc : PySem.W.selfFirst X.K C = true) (hs : PySem.W.findIn X.K (.ref C) (PySem.dunder op.info.2) = some (some (.ref g))) (hf : PySem.W.isFn X.K (.ref g) = true) (F : FnOk X.prog X.w X.K X.mg X.base CX k g fd ps sp) (hr : Room k X.A) (hb : Binds X.K fd ps []) (hx : Passes CX X E) :
    OpR X (binaryOp op) (rAddO C sp E) := by
  intro pins s σ H x y v u Q I rx ry h
  obtain ⟨a, dx, fs, b, dy, gs, rfl, rfl, ha, hb', q⟩ := h
  cases (show v = Value.ref a from rx)
  cases (show u = Value.ref b from ry)
  obtain ⟨ox, od, J⟩ := inst_at I ha
  obtain ⟨oy, oe, J'⟩ := inst_at I hb'
  obtain ⟨m, hF⟩ := I.fr
  refine PySem.W.binop_K (op := op) hF I.ok.mod.kin J J'.type hc hs hf ?_
  refine wpAny_mono (run_fn (ds := []) (dvs := []) (vs := [.ref a, .ref b]) F hr hb .nil hx I (.cons rfl (.cons rfl .nil)) (by rw [List.append_nil]; exact q)) (fun w s' z => ?_) fun _ _ e => e
  obtain ⟨z', H', I', rz, qz⟩ := z
  exact cmpb rz ⟨z', H', I', rz, qz⟩
theorem un_negO (hs : PySem.W.findIn X.K (.ref C) "__neg__" = some (some (.ref g))) (hf : PySem.W.isFn X.K (.ref g) = true) (F : FnOk X.prog X.w X.K X.mg X.base CX k g fd ps sp) (hr : Room k X.A) (hb : Binds X.K fd ps []) (hx : Passes CX X E) :
    UnR X (unaryOp .USub) (rNegO C sp E) := by
  intro pins s σ H x v Q I rx h
  obtain ⟨a, dx, fs, rfl, ha, q⟩ := h
  cases (show v = Value.ref a from rx)
  obtain ⟨ox, od, J⟩ := inst_at I ha
  exact neg_own I.kIn J hs hf (run_fn (ds := []) (dvs := []) (vs := [.ref a]) F hr hb .nil hx I (.cons rfl .nil) (by rw [List.append_nil]; exact q))
/-- v in x, x of an own class with its own __contains__, which hands back a truth -/
def rInO (C : Addr) (sp : Sp) (E : XK) : R2 := fun x y H Q => ∃ a dx fs, y = .ref a ∧ H a = some (.ins C dx fs) ∧ sp [y, x] H (fun v H' => ∃ b, v = .bl b ∧ Q (.bl b) H') E
theorem op_inO (hs : PySem.W.findIn X.K (.ref C) "__contains__" = some (some (.ref g))) (hf : PySem.W.isFn X.K (.ref g) = true) (F : FnOk X.prog X.w X.K X.mg X.base CX k g fd ps sp) (hr : Room k X.A) (hb : Binds X.K fd ps []) (hx : Passes CX X E) :
    OpR X (compareOp .In) (rInO C sp E) := by
  intro pins s σ H x y v u Q I rx ry h
  obtain ⟨a, dx, fs, rfl, ha, q⟩ := h
  cases (show u = Value.ref a from ry)
  obtain ⟨ox, od, J⟩ := inst_at I ha
  obtain ⟨m, hF⟩ := I.fr
  refine PySem.W.in_K hF I.ok.mod.kin J hs hf (wpAny_mono (run_fn (ds := []) (dvs := []) (vs := [.ref a, x]) F hr hb .nil hx I (.cons rfl (.cons rx .nil)) (by rw [List.append_nil]; exact q)) (fun w s' z => ?_) fun _ _ e => e)
  obtain ⟨z', H', I', rz, b, rfl, qz⟩ := z
  cases rz
  exact wpAny_truthy_bool ⟨.bl b, H', I', rfl, qz⟩
end
/-! ### fields, methods, new instances -/
section
variable {σ : L2.St} {H : Hp} {Q : VK} {K : PySem.W.Frag} {te ta tv : TE} {a C dx : Addr} {fs : List (Str × V)} {f : Str} {v : V} {D : Ends}
theorem r_fld (h : ta σ H fun x H1 => ∃ a C dx fs v, x = .ref a ∧ H1 a = some (.ins C dx fs) ∧ Cls K C ∧ NoAttr K C f ∧ fs.lookup f = some v ∧ Q v H1) : tFld K ta f σ H Q := h
theorem r_get {F : V → Prop} (e : H a = some (.ins C dx fs)) (c : Cls K C) (n : NoAttr K C f) (l : fs.lookup f = some v) (h : F v) : ∃ a' C dx fs v, V.ref a = .ref a' ∧ H a' = some (.ins C dx fs) ∧ Cls K C ∧ NoAttr K C f ∧ fs.lookup f = some v ∧ F v := ⟨a, C, dx, fs, v, rfl, e, c, n, l, h⟩
theorem r_sfld (h : tv σ H fun y H1 => ta σ H1 fun x H2 => ∃ a C dx fs, x = .ref a ∧ H2 a = some (.ins C dx fs) ∧ Cls K C ∧ NoAttr K C f ∧ fs.length < 1000 ∧ D.nx σ (upd H2 a (.ins C dx (putF f y fs)))) : sFld K ta tv f D σ H := h
theorem r_put {F : Hp → Prop} {y : V} (e : H a = some (.ins C dx fs)) (c : Cls K C) (n : NoAttr K C f) (l : fs.length < 1000) (h : F (upd H a (.ins C dx (putF f y fs)))) : ∃ a' C dx fs, V.ref a = .ref a' ∧ H a' = some (.ins C dx fs) ∧ Cls K C ∧ NoAttr K C f ∧ fs.length < 1000 ∧ F (upd H a' (.ins C dx (putF f y fs))) := ⟨a, C, dx, fs, rfl, e, c, n, l, h⟩
theorem r_meth {m : Str} {sp : Sp} {dvs : List V} {E : XK} {ts : TA} (h : ta σ H fun x H1 => ∃ a dx fs, x = .ref a ∧ H1 a = some (.ins C dx fs) ∧ fs.lookup m = none ∧ ts σ H1 fun vs H2 => sp (x :: (vs ++ dvs)) H2 Q E) : tMeth C m sp dvs E ta ts σ H Q := h
theorem r_who {m : Str} {A : Prop} (e : H a = some (.ins C dx fs)) (l : fs.lookup m = none) (h : A) : ∃ a' dx fs, V.ref a = .ref a' ∧ H a' = some (.ins C dx fs) ∧ fs.lookup m = none ∧ A := ⟨a, dx, fs, rfl, e, l, h⟩
theorem r_make {sp : Sp} {dvs : List V} {E : XK} {ts : TA} (h : ts σ H fun vs H1 => ∀ x dx, H1 x = none → H1 dx = none → dx ≠ x → sp (.ref x :: (vs ++ dvs)) (upd (upd H1 dx (.own x)) x (.ins C dx [])) (fun v H2 => v = .non ∧ Q (.ref x) H2) E) : tMake C sp dvs E ts σ H Q := h
end
theorem same_make {H H' : Hp} {x dx C : Addr} (nx : H x = none) (nd : H dx = none) (s : ∀ b o, (upd (upd H dx (.own x)) x (.ins C dx [])) b = some o → b ≠ x → H' b = some o) : Same H H' := fun b o e =>
  s b o (by rw [upd_ne (ne_of_none e nx), upd_ne (ne_of_none e nd)]; exact e) (ne_of_none e nx)
/-! ### defs that may ask repr of lists and tuples: called where no repr is under way -/
structure FnG (P : Program) (w : World) (K : PySem.W.Frag) (mg : Str → Option Value) (base : Heap) (CX : CXT) (k : Nat) (f : Addr) (fd : FuncData) (ps : List Str) (sp : Sp) : Prop where
  len : ∀ vs H Q E, sp vs H Q E → vs.length = ps.length
  run : ∀ (A : Around) (outer : List Env) (s : Shared) (H : Hp) (args : Args) (us : List Value) (vs : List V) (Q : VK) (E : XK), A.guards = some [] → Room k A → Env0 P w K mg base A outer s H →
    BindsTo s fd args (ps.zip us) → Vals vs us → sp vs H Q E → codeAny (model P w) A (.call (.ref f) args) (CR CX outer P w H s Q E) s
section
variable {P : Program} {w : World} {K : PySem.W.Frag} {mg : Str → Option Value} {base : Heap}
theorem okG {x qual : Str} {st : Stmt} {f : Addr} {fd : FuncData} {N ps : List Str} {k : Nat} {sp : Sp} (F : Fun K x qual st f fd) (S : FnScope N ps (defScope st)) (len : ∀ vs H Q E, sp vs H Q E → vs.length = ps.length)
    (hbody : ∀ (cdv : Value) (A : Around) (outer : List Env) (s : Shared) (H : Hp) (vs : List V) (Q : VK) (E : XK), A.guards = some [] → Room k (A.deeper (envOfC qual (defScope st) s.heap.objs.size f cdv)) → sp vs H Q E →
      ∃ t, PSs (cxOf CX0 P w K mg base N qual (defScope st) f cdv A outer s H E).nox (defBody st) t ∧ t { nx := fun _ H' => Q .non H', rt := Q } (start N vs) H) : FnG P w K mg base CX0 (k + 1) f fd ps sp := by
  obtain ⟨oc, od, kV, doc, pm, an, cdv, ct, osl, rfl, lk, hcd⟩ := F.ex
  refine ⟨len, fun A outer s H args us vs Q E hG hr e0 hb r hsp => ?_⟩
  -- the body's reading is kept for this around alone: elsewhere the promise is not asked
  have inn : K.In s.heap := e0.mod.kin.keeps fun b o e => (e0.bs b o e).1
  have nol : s.heap.NoLimit := e0.mod.nolimit.keeps fun b o e => (e0.bs b o e).1
  have par : ∀ y ∈ ps.zip us, (defScope st).names.lookup y.1 = some .local ∨ ((defScope st).names.lookup y.1 = some .cell ∧ ((cellsFrom (s.heap.objs.size + 1) (defScope st).names []).lookup y.1).isSome = true) := by
    intro y hy
    have hm : y.1 ∈ ps := (List.of_mem_zip (show (y.1, y.2) ∈ ps.zip us from hy)).1
    exact (S.par y.1 hm).imp (fun z => z) fun z => ⟨z, PySem.W.cellsFrom_some _ _ _ (.inl z)⟩
  obtain ⟨t, ht, hq⟩ := hbody cdv A outer s H vs Q E hG (hr.deeper _) hsp
  refine codeAny_call_function hr.depth (inn _ _ lk) rfl S.co S.gen rfl (PySem.W.codeRec_of inn hcd) (hb _ _ _ _ ?_)
  refine wpAny_newFunctionEnv_cells S.kind par fun env he s1 x => ?_
  subst he
  refine ⟨nol.keeps x.toInCall.keep, codeAny_func ?_⟩
  have I := inv_start (CX := CX0) (E := E) S hr.hd e0 (len _ _ _ _ hsp) r x
  refine wpAny_mono (ht.nox.run [] s1 (start N vs) H _ I hq) (fun fl s' hs => ?_) fun e s' hs => hs
  cases fl with
  | ret u =>
    obtain ⟨v, σ', H', J, rv, q⟩ := hs
    exact ⟨v, H', J.os, J.bare, J.base, J.hok, rv, q⟩
  | next =>
    obtain ⟨σ', H', J, q⟩ := hs
    exact ⟨V.non, H', J.os, J.bare, J.base, J.hok, rfl, q⟩
  | brk => exact False.elim hs.choose_spec.choose_spec.2
  | cont => exact False.elim hs.choose_spec.choose_spec.2
theorem deeper_guards {A : Around} {env : Env} (h : A.guards = some []) : (A.deeper env).guards = some [] := h
end
section
variable {X : Cx} {CX : CXT} {k : Nat} {f : Addr} {fd : FuncData} {ps : List Str} {sp : Sp} {dvs : List V} {ds : List Value} {E : XK} {x : Str} {p pos : Pos} {e : Expr} {es : List Expr} {t : TA}
theorem pe_callG (hG : X.A.guards = some []) (F : FnG X.prog X.w X.K X.mg X.base CX k f fd ps sp) (hr : Room k X.A) (hg : Gl X x) (hm : X.mg x = some (.ref f)) (hk : PySem.W.keepIn X.K (.ref f) = true) (hb : Binds X.K fd ps ds) (hd : Vals dvs ds) (hx : Passes CX X E)
    (ha : PA X (e :: es) t) (hdb : (x == ("__debug__" : Str)) = false := by decide) (he : starEach (e :: es) X.env = (false, eval e X.env) :: starEach es X.env := by rfl) (hpl : (backTo pos (starEach es X.env)).any (fun q => q.1) = false := by rfl) :
    PE X (.Call (.Name x p) (e :: es) [] pos) (tCall sp dvs E t) := by
  refine ⟨fun pins s σ H Q I h => wpAny_Call_Name_kw (ld_glob I hg hm ?_ hdb)⟩
  refine PySem.W.callWith_K (h₀ := X.base) I.ok.mod.kin hk (thn (ha.run pos pins s σ H _ I h) fun us s1 hh => ?_) he hpl
  obtain ⟨vs, H1, I1, r, q⟩ := hh
  refine ⟨I1.kIn, ?_⟩
  have r2 : Vals (vs ++ dvs) (us ++ ds) := r.append hd
  have hl : (us ++ ds).length = ps.length := by rw [← r2.length]; exact F.len _ _ _ _ q
  refine wpAny_call (codeAny_mono (F.run X.A X.stack s1 H1 ⟨us, []⟩ (us ++ ds) (vs ++ dvs) Q E hG hr I1.env0 (hb s1 us I1.kIn hl) r2 q) fun r s' hq => ?_)
  match r, hq with
  | .error e, hq => exact hx pins σ H1 s1 e s' I1 hq
  | .ok (.ret u), hq => exact I1.after hq
  | .ok .next, hq => exact False.elim hq
  | .ok .brk, hq => exact False.elim hq
  | .ok .cont, hq => exact False.elim hq
/-- repr of a list or a tuple of plain things -/
def rRepr (K : PySem.W.Frag) : List V → Hp → VK → Prop := fun xs H Q => ∃ (a : Addr) (d : PyData), xs = [.ref a] ∧ Dp K H (.ref a) d ∧ d.showable = true ∧ d.hasDict = false ∧ d.depth ≤ 20 ∧ d.shown.length ≤ sizeLine ∧ Q (.str d.shown) H
theorem call_repr (hG : X.A.guards = some []) (hu : X.A.units + 64 < cLine) : CallR X (.builtin "repr") (rRepr X.K) := by
  intro pins s σ H xs us Q I r h
  obtain ⟨a, d, rfl, hd, hs, hn, hdp, hz, q⟩ := h
  obtain ⟨u, rfl, ru⟩ := vals1 r
  cases (show u = Value.ref a from ru)
  obtain ⟨as, rd⟩ := Dp.reads I d _ _ hd rfl
  exact repr_of_reads' rd hs (fun z => by rw [hn] at z; cases z) hG (by omega) (fun _ _ z => z) (fun h' u tk hk => ⟨.str d.shown, H, I.kept hk, ⟨u, rfl⟩, q⟩) hz
end
/-! ### the law's own call, of a def of that kind -/
section
variable {P : Program} {w : World} {K : PySem.W.Frag} {mg mb : Str → Option Value} {k : Nat} {fa a : Addr} {fd : FuncData} {x : Str} {sp : Sp} {s : Shared} {vs : List Value} {ns : List Int}
/-- the script alone may be tracked: where it is, what of it is known -/
structure Alone (P : Program) (w : World) (K : PySem.W.Frag) (s : Shared) (a : Addr) (ns : List Int) (H : Hp) : Prop where
  only : Only H
  seq : SqL K H a (ns.map V.int)
  ok : HOk P w H s.heap
  at_ : ∀ b u, H b = some u → b = a
  out : ∀ u, H a = some u → K.lookup a = none
theorem alone_ex (inn : K.In s.heap) (ha : s.heap.get? a = some { cls := .type "list", data := .seq vs.toArray }) (hi : IntsAre vs ns) (hl : ns.length ≤ sizeLine) : ∃ H, Alone P w K s a ns H := by
  have rv := vals_ints hi
  cases hk : K.lookup a with
  | some o =>
    obtain rfl : o = { cls := .type "list", data := .seq vs.toArray } := Option.some.inj ((inn a o hk).symm.trans ha)
    refine ⟨fun _ => none, fun _ => .inl rfl, .inr ⟨_, vs.toArray, _, hk, rfl, rfl, rfl, ?_, ?_⟩, fun _ _ z => (by cases z), fun _ _ z => (by cases z), fun _ z => (by cases z)⟩
    · rw [List.size_toArray, hi.length]; exact hl
    · rw [List.toList_toArray]; exact rv
  | none =>
    have one : ∀ b u, (upd (fun _ => none) a (.frz { cls := .type "list", data := .seq vs.toArray } (.lst (ns.map V.int)))) b = some u → b = a := fun b u z => by
      by_cases hb : b = a
      · exact hb
      · rw [upd_ne hb] at z; cases z
    refine ⟨upd (fun _ => none) a (.frz { cls := .type "list", data := .seq vs.toArray } (.lst (ns.map V.int))), fun b => ?_, .inl (.inr ⟨_, upd_same⟩), fun b u z => ?_, one, fun _ _ => hk⟩
    · by_cases hb : b = a
      · subst hb; exact .inr ⟨_, _, upd_same⟩
      · exact .inl (upd_ne hb)
    · obtain rfl := one b u z
      rw [upd_same] at z
      cases z
      exact ⟨ha, by rw [List.length_map]; exact hl, vs, _, rv, ha⟩
theorem law_callG (inn : K.In s.heap) (hns : s.heap.Ns mainGlobals mg) (hb : s.heap.Ns builtinsNs mb) (hbb : ∀ x : Str, x ≠ "__name__" → mb x = bootBuiltins x) (hlim : s.heap.NoLimit) (hg : s.gens = #[])
    (ha : s.heap.get? a = some { cls := .type "list", data := .seq vs.toArray }) (hi : IntsAre vs ns) (hl : ns.length ≤ sizeLine) (hr : Room k callerA)
    (F : ∀ base : Heap, K.In base → base.Ns mainGlobals mg → FnG P w K mg base CX0 k fa fd [x] sp) (hbind : ∀ (s : Shared) (u : Value), BindsTo s fd ⟨[u], []⟩ [(x, u)])
    (hsp : ∀ H : Hp, Only H → SqL K H a (ns.map V.int) → sp [.ref a] H (fun v _ => v = .bl true) fun _ _ _ => False) :
    codeAny (model P w) callerA (.call (.ref fa) ⟨[.ref a], []⟩) (fun r s' => r = .ok (.ret (.bool true)) ∧ OldK s.heap s'.heap ∧ s'.os = s.os ∧ AllBare s'.gens) s := by
  obtain ⟨H, N⟩ := alone_ex (P := P) (w := w) inn ha hi hl
  -- a dict is not the script: it is not tracked
  have free : ∀ {b : Addr} {o : Obj}, s.heap.get? b = some o → (∀ its n, o.data ≠ .seq its n) → H b = none := fun {b o} e z => by
    cases q : H b with
    | none => rfl
    | some u =>
      obtain rfl := N.at_ b u q
      rw [ha] at e
      cases e
      exact absurd rfl (z _ _)
  have space : ∀ {b : Addr} {m : Str → Option Value}, s.heap.Ns b m → (hidT s.heap H).Ns b m := fun {b m} z => by
    obtain ⟨o, es, ep, e, d, r⟩ := z
    exact ⟨o, es, ep, hidT_get e (free e fun _ _ y => by rw [d] at y; cases y), d, r⟩
  have inb : K.In (hidT s.heap H) := fun b o e => hidT_get (inn b o e) (by
    cases q : H b with
    | none => rfl
    | some u =>
      obtain rfl := N.at_ b u q
      rw [N.out u q] at e
      cases e)
  have md : Mod K mg (hidT s.heap H) := by
    obtain ⟨mc, l1, l2⟩ := hlim
    exact ⟨inb, space hns, ⟨mb, space hb, hbb⟩, mc, space l1, l2⟩
  have e0 : Env0 P w K mg (hidT s.heap H) callerA [] s H := ⟨rfl, md, fun _ _ e => of_hidT e, Nat.le_of_eq (hidT_size _ _), trivial, fun _ z => (nomatch z), N.ok, .of_eq hg⟩
  refine codeAny_mono ((F _ inb (space hns)).run callerA [] s H ⟨[.ref a], []⟩ [.ref a] [.ref a] _ _ rfl hr e0 (hbind s (.ref a)) (.cons rfl .nil) (hsp H N.only N.seq)) fun r s' h => ?_
  match r, h with
  | .error e, h => exact False.elim h
  | .ok .next, h => exact False.elim h
  | .ok .brk, h => exact False.elim h
  | .ok .cont, h => exact False.elim h
  | .ok (.ret u), h =>
    obtain ⟨v, H', os, bare, un, ok', r', q⟩ := h
    obtain rfl : v = .bl true := q
    obtain rfl : u = Value.bool true := r'
    refine ⟨rfl, OldK.of_keep fun b o e => ?_, os, bare⟩
    cases q : H b with
    | none => exact un.keep b o e q (fun z => (nomatch z)) (fun z => (nomatch z))
    | some u =>
      rcases N.only b with z | ⟨ob, xs, z⟩
      · rw [q] at z; cases z
      · have e1 : s.heap.get? b = some ob := (show ObjOk P w H s.heap b (.frz ob (.lst xs)) from N.ok b _ z).1
        have e2 : s'.heap.get? b = some ob := (show ObjOk P w H' s'.heap b (.frz ob (.lst xs)) from ok' b _ (un.frzs b ob _ z)).1
        exact (Option.some.inj (e.symm.trans e1)) ▸ e2
end
theorem walk_ofG {l : PySem.W.OpenLaw} {n k : Nat} {q : Program} {loose : List Str} {XP : (Str → Option Value) → Heap → Prop} {YP : World → Heap → Prop} {d : DefRec} {K : Params → PySem.W.Frag} {sp : World → Sp} {x : Str}
    (hn : l.most = some n) (hn2 : n ≤ sizeLine) (hdf : d.params.defaults = []) (hr : Room k callerA) (hY : ∀ (w : World) (h : Heap), YP w h → (K w.params).In h)
    (F : ∀ (w : World) (mg : Str → Option Value) (fa : Addr) (h : Heap), (K w.params).In h → h.Ns mainGlobals mg → mg d.name = some (.ref fa) →
      ∃ fd : FuncData, (∀ (s : Shared) (u : Value), BindsTo s fd ⟨[u], []⟩ [(x, u)]) ∧ ∀ base : Heap, (K w.params).In base → base.Ns mainGlobals mg → FnG l.prog w (K w.params) mg base CX0 k fa fd [x] (sp w))
    (hsp : ∀ (w : World) (H : Hp) (a : Addr) (ns : List Int), ns.length ≤ n → Only H → SqL (K w.params) H a (ns.map V.int) → sp w [.ref a] H (fun v _ => v = .bl true) fun _ _ _ => False) :
    PySem.W.WalkO q loose XP YP l.row.toRowW d [] (fun f vs => PySem.call f vs) := by
  refine Att.attach_call hn hdf fun w s0 s1 mg mb fa o pm cd doc a vs ns G Y ho hd hcd hmg hobj hints hlen hg => ?_
  obtain ⟨fd, hb, hF⟩ := F w mg fa _ (hY w _ Y) G.T.g hmg
  exact law_callG (hY w _ Y) G.T.g G.T.b G.T.builtins G.T.nolimit hg hobj hints (Nat.le_trans hlen hn2) hr hF hb fun H hO hS => hsp w H a ns hlen hO hS
/-! ### new instances whose __init__ may raise, within a try: what is raised is wished for at the slots -/
section
variable {X : Cx} {CX : CXT} {k : Nat} {f C : Addr} {fd : FuncData} {ps ks : List Str} {sp : Sp} {x : Str} {p pos : Pos} {e : Expr} {es : List Expr} {kws : List Keyword} {t tk : TA} {g : List Value → List Value → List Value} {gV : List V → List V → List V}
theorem run_makeA {pins : List (Addr × Obj)} {σ : L2.St} {H : Hp} {s : Shared} {Q : VK} {E : XK} {us : List Value} {kw : List (Str × Value)} {fu : Value → List Value} {fv : V → List V} (M : Mk X.K C f) (F : FnOk X.prog X.w X.K X.mg X.base CX k f fd ps sp) (hr : Room (k + 1) X.A)
    (hb : ∀ (s' : Shared) (v : Value), X.K.In s'.heap → BindsTo s' fd ⟨v :: us, kw⟩ (ps.zip (fu v))) (rr : ∀ a : Addr, Vals (fv (.ref a)) (fu (.ref a))) (hx : PassesAt CX X σ E) (I : Inv X pins σ H s)
    (h : ∀ x dx, H x = none → H dx = none → dx ≠ x → sp (fv (.ref x)) (upd (upd H dx (.own x)) x (.ins C dx [])) (fun v H2 => v = .non ∧ Q (.ref x) H2) E) :
    wpAny (model X.prog X.w) X.A (call (.ref C) us kw) (EP X pins σ Q) X.xe s := by
  have I2 := Inv.made (C := C) I
  have hq := h (s.heap.objs.size + 1) s.heap.objs.size (I.hok.fresh (Nat.le_succ _)) (I.hok.fresh (Nat.le_refl _)) (Nat.ne_of_lt (Nat.lt_succ_self _))
  refine wpAny_call (make_map (f := f) I.kIn M.makes M.init (beq_iff_eq.mp M.fn) (codeAny_mono (F.run _ X.stack _ _ ⟨Value.ref (s.heap.objs.size + 1) :: us, kw⟩ (fu (.ref (s.heap.objs.size + 1))) (fv (.ref (s.heap.objs.size + 1))) _ E
    (hr.make C us kw) (I2.env0.make C us kw) (hb _ _ I2.kIn) (rr _) hq) fun r s' z => ?_))
  match r, z with
  | .error e, z => exact hx pins _ _ e s' I2 z
  | .ok .next, z => exact False.elim z
  | .ok .brk, z => exact False.elim z
  | .ok .cont, z => exact False.elim z
  | .ok (.ret u), z =>
    obtain ⟨v, H', I3, rv, rfl, q3⟩ := I2.after z
    exact ⟨rv, .ref (s.heap.objs.size + 1), H', I3, rfl, q3⟩
def tMakeS (C : Addr) (sp : Sp) (E : L2.St → XK) (t : TA) : TE := fun σ H Q => t σ H fun vs H1 => ∀ x dx, H1 x = none → H1 dx = none → dx ≠ x → sp (.ref x :: vs) (upd (upd H1 dx (.own x)) x (.ins C dx [])) (fun v H2 => v = .non ∧ Q (.ref x) H2) (E σ)
def tMakeKS (C : Addr) (m : Nat) (sp : Sp) (gV : List V → List V → List V) (E : L2.St → XK) (tk : TA) : TE := fun σ H Q => tk σ H fun zs H1 => zs.length = m ∧ ∀ x dx, H1 x = none → H1 dx = none → dx ≠ x → sp (gV [.ref x] zs) (upd (upd H1 dx (.own x)) x (.ins C dx [])) (fun v H2 => v = .non ∧ Q (.ref x) H2) (E σ)
theorem pe_makeS {E : L2.St → XK} (M : Mk X.K C f) (F : FnOk X.prog X.w X.K X.mg X.base CX k f fd ps sp) (hr : Room (k + 1) X.A) (hg : Gl X x) (hm : X.mg x = some (.ref C)) (hb : Binds X.K fd ps []) (hx : ∀ σ, PassesAt CX X σ (E σ)) (ha : PA X (e :: es) t)
    (hdb : (x == ("__debug__" : Str)) = false := by decide) (he : starEach (e :: es) X.env = (false, eval e X.env) :: starEach es X.env := by rfl) (hpl : (backTo pos (starEach es X.env)).any (fun q => q.1) = false := by rfl) :
    PE X (.Call (.Name x p) (e :: es) [] pos) (tMakeS C sp E t) := by
  refine ⟨fun pins s σ H Q I h => wpAny_Call_Name_kw (ld_glob I hg hm ?_ hdb)⟩
  refine PySem.W.callWith_K (h₀ := X.base) I.ok.mod.kin M.kp (thn (ha.run pos pins s σ H _ I h) fun us s1 hh => ?_) he hpl
  obtain ⟨vs, H1, I1, r, q⟩ := hh
  refine ⟨I1.kIn, ?_⟩
  have hq := q (s1.heap.objs.size + 1) s1.heap.objs.size (I1.hok.fresh (Nat.le_succ _)) (I1.hok.fresh (Nat.le_refl _)) (Nat.ne_of_lt (Nat.lt_succ_self _))
  have hl := F.len _ _ _ _ hq
  have hl2 : vs.length = us.length := r.length
  refine run_makeA (fu := fun v => v :: us) (fv := fun v => v :: vs) M F hr (fun s' v inn => ?_) (fun a => .cons rfl r) (hx σ) I1 q
  have z := hb s' (v :: us) inn (by rw [List.append_nil, List.length_cons, ← hl2]; exact hl)
  rw [List.append_nil] at z
  exact z
theorem pe_makeKS {E : L2.St → XK} (M : Mk X.K C f) (F : FnOk X.prog X.w X.K X.mg X.base CX k f fd ps sp) (hr : Room (k + 1) X.A) (hg : Gl X x) (hm : X.mg x = some (.ref C)) (hb : KBn X.K fd ps 1 ks g gV) (hx : ∀ σ, PassesAt CX X σ (E σ)) (hkw : PK X kws tk)
    (hall : (backToKw pos (keywordEach kws X.env)).all (fun q => q.1.isSome) = true := by rfl) (hks : (backToKw pos (keywordEach kws X.env)).filterMap (fun q => q.1) = ks := by rfl) (hdb : (x == ("__debug__" : Str)) = false := by decide)
    (hpl : ((backTo pos (starEach [] X.env)).any (fun q => q.1) || (backToKw pos (keywordEach kws X.env)).any (fun q => q.1.isNone)) = false := by rfl) :
    PE X (.Call (.Name x p) [] kws pos) (tMakeKS C ks.length sp gV E tk) := by
  refine ⟨fun pins s σ H Q I h => wpAny_Call_Name_kw (ld_glob I hg hm ?_ hdb)⟩
  refine PySem.W.callWith_KW0 (h₀ := X.base) I.ok.mod.kin M.kp hall (thn (hkw.run pos pins s σ H _ I h) fun ws s2 hh => ?_) hpl
  obtain ⟨zs, H2, I2, rz, l2, q2⟩ := hh
  refine ⟨I2.kIn, ?_⟩
  rw [hks]
  exact run_makeA (fu := fun v => g [v] ws) (fv := fun v => gV [v] zs) M F hr (fun s' v inn => hb.to s' [v] ws inn rfl (rz.length.symm.trans l2)) (fun a => hb.rel (.cons rfl .nil) rz) (hx σ) I2 q2
theorem kb_mk1 {K : PySem.W.Frag} {x qual : Str} {st : Stmt} {f : Addr} {fd : FuncData} {ps ks : List Str} {g : List Value → List Value → List Value} {gV : List V → List V → List V} (F : Fun K x qual st f fd)
    (h : ∀ (kV doc pm : Value) (an : Option Addr) (cdv ct : Value) (v : Value) (ws : List Value), ws.length = ks.length → bindArgs (PySem.W.fnOf x qual (defArgs st) (defBody st) (defScope st) .none kV doc pm an cdv ct) ⟨[v], ks.zip ws⟩ = pure (ps.zip (g [v] ws)))
    (hrel : ∀ {vs : List V} {us : List Value} {zs : List V} {ws : List Value}, Vals vs us → Vals zs ws → Vals (gV vs zs) (g us ws)) : KBn K fd ps 1 ks g gV := by
  obtain ⟨oc, od, kV, doc, pm, an, cdv, ct, osl, rfl, lk, hcd⟩ := F.ex
  refine ⟨fun s us ws _ l1 l2 => ?_, hrel⟩
  match us, l1 with
  | [v], _ => exact .of_eq (h kV doc pm an cdv ct v ws l2)
/-- isinstance(e, C), e the caught exception, where its class is C or below it -/
def rIsEp (K : PySem.W.Frag) (cls : Value) (a : Addr) : List V → Hp → VK → Prop := fun xs H Q => ∃ C' : Addr, xs = [.ref a, .ref C'] ∧ PySem.W.isIn K cls C' = true ∧ Q (.bl true) H
theorem call_isEp {a : Addr} {oe : Obj} {cls : Value} {d : Option Addr} {pn : List (Addr × Obj)} (hz : Zc cls d oe) : CallR (X.suite a ((a, oe) :: pn)) (.builtin "isinstance") (rIsEp X.K cls a) := by
  intro pins s σ H xs us Q I r h
  obtain ⟨C', rfl, e, q⟩ := h
  obtain ⟨u1, u2, rfl, r1, r2⟩ := vals2 r
  cases (show u1 = Value.ref a from r1)
  cases (show u2 = Value.ref C' from r2)
  obtain ⟨hget, _⟩ := I.pin (a, oe) (List.mem_append.mpr (.inl List.mem_cons_self))
  exact PySem.W.isi_call I.kIn (fun M A Q E s k q => wpAny_typeOf_ref (k _ _ hget) (by rw [hz.1]; exact q)) e (fun z => nomatch z) ⟨.bl true, H, I, rfl, q⟩
end
section
variable {σ : L2.St} {H : Hp} {Q : VK} {K : PySem.W.Frag} {C : Addr} {sp : Sp} {D : Ends}
theorem r_makeS {E : L2.St → XK} {t : TA} (h : t σ H fun vs H1 => ∀ x dx, H1 x = none → H1 dx = none → dx ≠ x → sp (.ref x :: vs) (upd (upd H1 dx (.own x)) x (.ins C dx [])) (fun v H2 => v = .non ∧ Q (.ref x) H2) (E σ)) : tMakeS C sp E t σ H Q := h
theorem r_makeKS {m : Nat} {gV : List V → List V → List V} {E : L2.St → XK} {tk : TA} (h : tk σ H fun zs H1 => zs.length = m ∧ ∀ x dx, H1 x = none → H1 dx = none → dx ≠ x → sp (gV [.ref x] zs) (upd (upd H1 dx (.own x)) x (.ins C dx [])) (fun v H2 => v = .non ∧ Q (.ref x) H2) (E σ)) : tMakeKS C m sp gV E tk σ H Q := h
theorem r_xf {a : Addr} {cls : Value} {d : Option Addr} {f : Str} {te : TE} (h : te σ H fun x H1 => x = .ref a ∧ cls = .ref C ∧ ∃ (dd : Addr) (fs : List (Str × V)) (v : V), d = some dd ∧ H1 dd = some (.xd fs) ∧ fs.lookup f = some v ∧ Q v H1) : tXf a cls d C f te σ H Q := h
theorem r_isEp {cls : Value} {a C' : Addr} (e : PySem.W.isIn K cls C' = true) (h : Q (.bl true) H) : rIsEp K cls a [.ref a, .ref C'] H Q := ⟨C', rfl, e, h⟩
/-- self.f = e in an exception's __init__: the first field, a later one -/
theorem r_ost {f : Str} {to te : TE} (h : te σ H fun y H1 => to σ H1 fun x H2 => ∃ a C : Addr, x = .ref a ∧ OexC K C ∧ PySem.W.findIn K (.ref C) f = some none ∧
  ((H2 a = some (exo a C none) ∧ ∀ dx, H2 dx = none → dx ≠ a → D.nx σ (upd (upd H2 dx (exd dx [(f, y)])) a (exo a C (some dx)))) ∨
    ∃ (dx : Addr) (fs : List (Str × V)), H2 a = some (exo a C (some dx)) ∧ H2 dx = some (exd dx fs) ∧ fs.length ≤ 900 ∧ D.nx σ (upd H2 dx (exd dx ((f, y) :: fs))))) : tOst K f to te D σ H := h
theorem r_ost1 {a : Addr} {f : Str} {F G : Addr → Addr → Prop} {Z : Addr → Addr → Prop} (T : OexC K C) (n : PySem.W.findIn K (.ref C) f = some none) (ha : H a = some (exo a C none)) (h : F a C) : ∃ a' C : Addr, V.ref a = .ref a' ∧ OexC K C ∧ PySem.W.findIn K (.ref C) f = some none ∧ ((H a' = some (exo a' C none) ∧ F a' C) ∨ G a' C) := ⟨a, C, rfl, T, n, .inl ⟨ha, h⟩⟩
end
/-! ### wrappers that name the written part: for comprehensions, try bodies, suites -/
section
variable {X : Cx} {K : PySem.W.Frag} {o e : Expr} {f : Str} {ta te : TE} {pos : Pos}
theorem pe_fldK (ha : PE X o ta) (hK : X.K = K := by rfl) (hb : attributeBase o f X.env (eval o X.env) = eval o X.env := by rfl) : PE X (.Attribute o f pos) (tFld K ta f) := by
  subst hK
  exact pe_fld ha hb
end
/-! ### a + b by an own def that may raise, within a try -/
def tBinS (C : Addr) (sp : Sp) (E : L2.St → XK) (ta tb : TE) : TE := fun σ H Q => ta σ H fun x H1 => tb σ H1 fun y H2 => ∃ a dx fs b dy gs, x = .ref a ∧ y = .ref b ∧ H2 a = some (.ins C dx fs) ∧ H2 b = some (.ins C dy gs) ∧ sp [x, y] H2 Q (E σ)
section
variable {X : Cx} {CX : CXT} {k : Nat} {g C : Addr} {fd : FuncData} {ps : List Str} {sp : Sp} {a b : Expr} {ta tb : TE} {pos : Pos} {op : Operator}
theorem pe_binS {E : L2.St → XK} (hc : PySem.W.selfFirst X.K C = true) (hs : PySem.W.findIn X.K (.ref C) (PySem.dunder op.info.2) = some (some (.ref g))) (hf : PySem.W.isFn X.K (.ref g) = true) (F : FnOk X.prog X.w X.K X.mg X.base CX k g fd ps sp) (hr : Room k X.A) (hb : Binds X.K fd ps []) (hx : ∀ σ, PassesAt CX X σ (E σ))
    (h1 : PE X a ta) (h2 : PE X b tb) : PE X (.BinOp a op b pos) (tBinS C sp E ta tb) := by
  refine ⟨fun pins s σ H Q I h => wpAny_BinOp (binT h1 h2 I h fun v u s2 x y H2 I2 rx ry q => ?_)⟩
  obtain ⟨p, dx, fs, r, dy, gs, rfl, rfl, ha, hb', q⟩ := q
  cases (show v = Value.ref p from rx)
  cases (show u = Value.ref r from ry)
  obtain ⟨ox, od, J⟩ := inst_at I2 ha
  obtain ⟨oy, oe, J'⟩ := inst_at I2 hb'
  obtain ⟨m, hF⟩ := I2.fr
  refine PySem.W.binop_K (op := op) hF I2.ok.mod.kin J J'.type hc hs hf (wpAny_mono (run_fnS (us := [.ref p, .ref r]) (vs := [.ref p, .ref r]) F hr hb (hx σ) I2 (.cons rfl (.cons rfl .nil)) q) (fun w s' z => ?_) fun _ _ e => e)
  obtain ⟨z', H', I', rz, qz⟩ := z
  exact cmpb rz ⟨z', H', I', rz, qz⟩
end
theorem r_binS {σ : L2.St} {H : Hp} {Q : VK} {C : Addr} {sp : Sp} {E : L2.St → XK} {ta tb : TE} (h : ta σ H fun x H1 => tb σ H1 fun y H2 => ∃ a dx fs b dy gs, x = .ref a ∧ y = .ref b ∧ H2 a = some (.ins C dx fs) ∧ H2 b = some (.ins C dy gs) ∧ sp [x, y] H2 Q (E σ)) : tBinS C sp E ta tb σ H Q := h
/-! ### ends: None or an int -/
def endV : Option Int → V
  | none => .non
  | some i => .int i
def endD : Option Int → PyData
  | none => .none
  | some i => .int i
/-- a small end: what repr takes -/
def EndOk (e : Option Int) : Prop := ∀ i, e = some i → -(10 ^ 60) < i ∧ i < 10 ^ 60
theorem log_ok {i : Int} (h : -(10 ^ 60) < i ∧ i < 10 ^ 60) : i.natAbs.log2 < 1920 := by
  have h1 : i.natAbs < 2 ^ 200 := by
    have : i.natAbs < 10 ^ 60 := by omega
    exact Nat.lt_trans this (by decide)
  have h2 : i.natAbs.log2 < 200 := by
    by_cases e : i.natAbs = 0
    · rw [e]; decide
    · exact (Nat.log2_lt e).mpr h1
  omega
theorem dp_end {K : PySem.W.Frag} {H : Hp} (e : Option Int) : Dp K H (endV e) (endD e) := by
  cases e with
  | none => exact .non
  | some i => exact .int i
theorem show_end {e : Option Int} (h : EndOk e) : (endD e).showable = true := by
  cases e with
  | none => rfl
  | some i => exact decide_eq_true (log_ok (h i rfl))
theorem len_end {e : Option Int} (h : EndOk e) : ((endD e).shown).length ≤ 2000 := by
  cases e with
  | none => decide +kernel
  | some i => exact Nat.le_trans (PyProof.Rows.int_text_len_1921 (log_ok (h i rfl))) (by decide)
section
variable {H : Hp} {Q : VK} {K : PySem.W.Frag} {X : Cx}
def rIsNo : R2 := fun x y H Q => y = .non ∧ Q (.bl (decide (x = .non))) H
def rNotNo : R2 := fun x y H Q => y = .non ∧ Q (.bl (!decide (x = .non))) H
theorem o_isN : OpR X (compareOp .Is) rIsNo := op_isN
theorem o_notN : OpR X (compareOp .IsNot) rNotNo := op_notN
theorem r_isNe {e : Option Int} (h : Q (.bl (!e.isSome)) H) : rIsNo (endV e) .non H Q := by
  cases e with
  | none => exact ⟨rfl, h⟩
  | some i => exact ⟨rfl, h⟩
theorem r_notNe {e : Option Int} (h : Q (.bl e.isSome) H) : rNotNo (endV e) .non H Q := by
  cases e with
  | none => exact ⟨rfl, h⟩
  | some i => exact ⟨rfl, h⟩
theorem r_isNi {i : Int} (h : Q (.bl false) H) : rIsNo (.int i) .non H Q := ⟨rfl, h⟩
theorem r_isNn (h : Q (.bl true) H) : rIsNo .non .non H Q := ⟨rfl, h⟩
theorem r_isNr {a : Addr} (h : Q (.bl false) H) : rIsNo (.ref a) .non H Q := ⟨rfl, h⟩
theorem r_notNi {i : Int} (h : Q (.bl true) H) : rNotNo (.int i) .non H Q := ⟨rfl, h⟩
theorem r_notNn (h : Q (.bl false) H) : rNotNo .non .non H Q := ⟨rfl, h⟩
theorem r_notNr {a : Addr} (h : Q (.bl true) H) : rNotNo (.ref a) .non H Q := ⟨rfl, h⟩
/-- repr of a list of two ends -/
theorem r_repr2 {a : Addr} {b c : Option Int} (h : H a = some (.lst [endV b, endV c])) (hb : EndOk b) (hc : EndOk c) (q : Q (.str (PyData.list [endD b, endD c]).shown) H) : rRepr K [.ref a] H Q := by
  refine ⟨a, .list [endD b, endD c], rfl, .lst (SqL.of h) (.cons (dp_end b) (.cons (dp_end c) .nil)), ?_, ?_, ?_, ?_, q⟩
  · show ((endD b).showable && ((endD c).showable && true)) = true
    rw [show_end hb, show_end hc]; rfl
  · cases b <;> cases c <;> rfl
  · cases b <;> cases c <;> exact Nat.le_of_ble_eq_true rfl
  · have h1 := len_end hb
    have h2 := len_end hc
    have h3 := listText_len_le (PyData.shownAll [endD b, endD c])
    have h4 : (PyData.shownAll [endD b, endD c]).length = 2 := rfl
    have h5 : ((PyData.shownAll [endD b, endD c]).map (fun t => t.length)).sum = (endD b).shown.length + ((endD c).shown.length + 0) := rfl
    show (listText (PyData.shownAll [endD b, endD c])).length ≤ sizeLine
    rw [h5, h4] at h3
    exact Nat.le_trans h3 (Nat.le_trans (show _ ≤ 5000 by omega) (by decide))
end
/-! ### stretches -/
def turnedB : Option Int → Option Int → Bool
  | some a, some b => decide (b < a)
  | _, _ => false
def loB : Option Int → Int → Bool
  | none, _ => true
  | some a, n => decide (a ≤ n)
def hiB : Option Int → Int → Bool
  | none, _ => true
  | some b, n => decide (n ≤ b)
def inB (lo hi : Option Int) (n : Int) : Bool := loB lo n && hiB hi n
def strF (lo hi : Option Int) : List (Str × V) := putF "high" (endV hi) (putF "low" (endV lo) [])
theorem n_lh : ¬ (("low" : Str) = "high") := by decide +kernel
theorem str_low (lo hi : Option Int) : (strF lo hi).lookup ("low" : Str) = some (endV lo) := by
  unfold strF
  rw [lookup_putF, if_neg n_lh, lookup_putF, if_pos rfl]
theorem str_high (lo hi : Option Int) : (strF lo hi).lookup ("high" : Str) = some (endV hi) := by
  unfold strF
  rw [lookup_putF, if_pos rfl]
theorem str_no (lo hi : Option Int) {m : Str} (h1 : ¬ m = "high") (h2 : ¬ m = "low") : (strF lo hi).lookup m = none := by
  unfold strF
  rw [lookup_putF, if_neg h1, lookup_putF, if_neg h2]
  rfl
theorem putF_len (f : Str) (v : V) : ∀ fs : List (Str × V), (putF f v fs).length ≤ fs.length + 1
  | [] => Nat.le_refl _
  | (g, x) :: r => by
    unfold putF
    split
    · show r.length + 1 ≤ r.length + 1 + 1
      omega
    · show (putF f v r).length + 1 ≤ r.length + 1 + 1
      have := putF_len f v r
      omega
def StrAt (C : Addr) (H : Hp) (p : Addr) (lo hi : Option Int) : Prop := ∃ dx, H p = some (.ins C dx (strF lo hi))
theorem StrAt.same {C : Addr} {H H' : Hp} {p : Addr} {lo hi : Option Int} (h : StrAt C H p lo hi) (s : Same H H') : StrAt C H' p lo hi := by
  obtain ⟨dx, e⟩ := h
  exact ⟨dx, s _ _ e⟩
/-- what is no list is not among the draws -/
theorem Ext.keep {d c r : Addr} {H H' : Hp} {b : Addr} {o : HO} (e : Ext d r H H') (D : Drw H d c r) (h : H b = some o) (n : ∀ xs, o ≠ .lst xs) : H' b = some o := by
  obtain ⟨_, _, _, _, _, _, h1, _, h3, _⟩ := D
  exact e b o h (ne_of h h1 (n _)) (ne_of h h3 (n _))
theorem StrAt.ext {C : Addr} {H H' : Hp} {p d c r : Addr} {lo hi : Option Int} (h : StrAt C H p lo hi) (e : Ext d r H H') (D : Drw H d c r) : StrAt C H' p lo hi := by
  obtain ⟨dx, z⟩ := h
  exact ⟨dx, e.keep D z fun _ q => nomatch q⟩
/-- the dict of a TurnedStretch -/
def turnF (lo hi : Option Int) : List (Str × V) := [("high", endV hi), ("low", endV lo)]
theorem turn_low (lo hi : Option Int) : (turnF lo hi).lookup ("low" : Str) = some (endV lo) := by
  unfold turnF
  rw [lookup_put, if_neg n_lh, lookup_put, if_pos rfl]
theorem turn_high (lo hi : Option Int) : (turnF lo hi).lookup ("high" : Str) = some (endV hi) := by
  unfold turnF
  rw [lookup_put, if_pos rfl]
def spTInit (C : Addr) : Sp := fun vs H Q _ => ∃ (a : Addr) (lo hi : Option Int), vs = [.ref a, endV lo, endV hi] ∧ H a = some (exo a C none) ∧
  ∀ (dx : Addr) (H' : Hp), H dx = none → H' a = some (exo a C (some dx)) → H' dx = some (exd dx (turnF lo hi)) → (∀ b o, H b = some o → b ≠ a → H' b = some o) → Q .non H'
def spSInit (C CT : Addr) : Sp := fun vs H Q E => ∃ (p dx : Addr) (lo hi : Option Int), vs = [.ref p, endV lo, endV hi] ∧ H p = some (.ins C dx []) ∧
  (turnedB lo hi = true → ∀ (d : Addr) (H' : Hp), H d = none → H' d = some (.xd (turnF lo hi)) → Same H H' → E (.ref CT) (some d) H') ∧
  (turnedB lo hi = false → ∀ H', StrAt C H' p lo hi → (∀ b o, H b = some o → b ≠ p → H' b = some o) → Q .non H')
def spSIn (C : Addr) : Sp := fun vs H Q _ => ∃ (p : Addr) (lo hi : Option Int) (n : Int), vs = [.ref p, .int n] ∧ StrAt C H p lo hi ∧ Q (.bl (inB lo hi n)) H
/-! ### flat data: None, truths, ints, texts, in a list or a tuple; repr and == of these -/
def vD : V → PyData
  | .non => .none
  | .bl b => .bool b
  | .int i => .int i
  | .str x => .str x
  | _ => .none
def okD : V → Prop
  | .non => True
  | .bl _ => True
  | .int i => -(10 ^ 60) < i ∧ i < 10 ^ 60
  | .str x => (reprText x).length ≤ 1000 ∧ PyData.strOk x = true
  | _ => False
/-- what may be compared: no bound on ints -/
def eqD : V → Prop
  | .non => True
  | .bl _ => True
  | .int _ => True
  | .str x => PyData.strOk x = true
  | _ => False
theorem okD.eq {v : V} (h : okD v) : eqD v := by
  cases v <;> first | exact trivial | exact h.2 | exact h.elim
theorem log_okI {i : Int} (h : -(10 ^ 60) < i ∧ i < 10 ^ 60) : i.natAbs.log2 < 1920 := by
  have h1 : i.natAbs < 2 ^ 200 := by
    have : i.natAbs < 10 ^ 60 := by omega
    exact Nat.lt_trans this (by decide)
  have h2 : i.natAbs.log2 < 200 := by
    by_cases e : i.natAbs = 0
    · rw [e]; decide
    · exact (Nat.log2_lt e).mpr h1
  omega
theorem dp_vD {K : PySem.W.Frag} {H : Hp} {v : V} (h : eqD v) : Dp K H v (vD v) := by
  cases v with
  | non => exact .non
  | bl b => exact .bl b
  | int i => exact .int i
  | str x => exact .str x
  | byt b => exact h.elim
  | flt b => exact h.elim
  | ref a => exact h.elim
  | ty n => exact h.elim
theorem dpAll_vD {K : PySem.W.Frag} {H : Hp} : ∀ {vs : List V}, (∀ v ∈ vs, eqD v) → DpAll K H vs (vs.map vD)
  | [], _ => .nil
  | v :: vs, h => .cons (dp_vD (h v List.mem_cons_self)) (dpAll_vD fun w hw => h w (List.mem_cons_of_mem _ hw))
theorem show_vD : ∀ {vs : List V}, (∀ v ∈ vs, okD v) → PyData.showableAll (vs.map vD) = true
  | [], _ => rfl
  | v :: vs, h => by
    have h1 := h v List.mem_cons_self
    have e : (vD v).showable = true := by
      cases v <;> first | rfl | exact decide_eq_true (log_okI h1)
    show ((vD v).showable && PyData.showableAll (vs.map vD)) = true
    rw [e, show_vD fun w hw => h w (List.mem_cons_of_mem _ hw)]
    rfl
theorem dict_vD : ∀ (vs : List V), PyData.hasDictAll (vs.map vD) = false
  | [] => rfl
  | v :: vs => by
    show ((vD v).hasDict || PyData.hasDictAll (vs.map vD)) = false
    rw [dict_vD vs]
    cases v <;> rfl
theorem depth_vD : ∀ (vs : List V), PyData.depthAll (vs.map vD) = 0
  | [] => rfl
  | v :: vs => by
    show max (vD v).depth (PyData.depthAll (vs.map vD)) = 0
    rw [depth_vD vs]
    cases v <;> rfl
theorem len_vD : ∀ {vs : List V}, (∀ v ∈ vs, okD v) → (PyData.shownAll (vs.map vD)).length = vs.length ∧ ((PyData.shownAll (vs.map vD)).map (fun t => t.length)).sum ≤ 2000 * vs.length
  | [], _ => ⟨rfl, Nat.le_refl _⟩
  | v :: vs, h => by
    obtain ⟨i1, i2⟩ := len_vD (vs := vs) fun w hw => h w (List.mem_cons_of_mem _ hw)
    have h1 := h v List.mem_cons_self
    have e : ((vD v).shown).length ≤ 2000 := by
      cases v with
      | non => decide +kernel
      | bl b => cases b <;> decide +kernel
      | int i => exact Nat.le_trans (PyProof.Rows.int_text_len_1921 (log_okI h1)) (by decide)
      | str x => exact Nat.le_trans h1.1 (by decide)
      | byt b => exact h1.elim
      | flt b => exact h1.elim
      | ref a => exact h1.elim
      | ty n => exact h1.elim
    refine ⟨?_, ?_⟩
    · show (PyData.shownAll (vs.map vD)).length + 1 = vs.length + 1
      rw [i1]
    · show (((vD v).shown).length :: (PyData.shownAll (vs.map vD)).map (fun t => t.length)).sum ≤ 2000 * (vs.length + 1)
      rw [List.sum_cons]
      omega
section
variable {H : Hp} {Q : VK} {K : PySem.W.Frag} {a b : Addr} {vs ws : List V}
def tupD (vs : List V) : PyData := .tuple (vs.map vD)
def lstD (vs : List V) : PyData := .list (vs.map vD)
theorem r_reprT (h : SqT K H a vs) (hv : ∀ v ∈ vs, okD v) (hl : vs.length ≤ 50) (q : Q (.str (tupD vs).shown) H) : rRepr K [.ref a] H Q := by
  refine ⟨a, tupD vs, rfl, .tup h (dpAll_vD fun v hw => (hv v hw).eq), show_vD hv, dict_vD vs, ?_, ?_, q⟩
  · show PyData.depthAll (vs.map vD) + 1 ≤ 20
    rw [depth_vD]
    decide
  · obtain ⟨i1, i2⟩ := len_vD hv
    have h3 := tupleText_len_le (PyData.shownAll (vs.map vD))
    rw [i1] at h3
    exact Nat.le_trans h3 (Nat.le_trans (show _ ≤ 200000 by omega) (by decide))
theorem r_reprL (h : SqL K H a vs) (hv : ∀ v ∈ vs, okD v) (hl : vs.length ≤ 50) (q : Q (.str (lstD vs).shown) H) : rRepr K [.ref a] H Q := by
  refine ⟨a, lstD vs, rfl, .lst h (dpAll_vD fun v hw => (hv v hw).eq), show_vD hv, dict_vD vs, ?_, ?_, q⟩
  · show PyData.depthAll (vs.map vD) + 1 ≤ 20
    rw [depth_vD]
    decide
  · obtain ⟨i1, i2⟩ := len_vD hv
    have h3 := listText_len_le (PyData.shownAll (vs.map vD))
    rw [i1] at h3
    exact Nat.le_trans h3 (Nat.le_trans (show _ ≤ 200000 by omega) (by decide))
theorem lay_vD : ∀ {vs : List V}, (∀ v ∈ vs, eqD v) → PyData.canLayAll0 (vs.map vD) = true
  | [], _ => rfl
  | v :: vs, h => by
    have h1 := h v List.mem_cons_self
    have e : (vD v).canLay0 = true := by cases v <;> first | rfl | exact h1
    show ((vD v).canLay0 && PyData.canLayAll0 (vs.map vD)) = true
    rw [e, lay_vD fun w hw => h w (List.mem_cons_of_mem _ hw)]
    rfl
theorem shaped_tup (h : ∀ v ∈ vs, eqD v) : SeqAt.shaped (tupD vs) = true := by
  unfold SeqAt.shaped
  rw [show (tupD vs).canLay0 = true from lay_vD h]
  show decide (PyData.depthAll (vs.map vD) + 1 ≤ 64) = true
  rw [depth_vD]
  rfl
theorem shaped_lst (h : ∀ v ∈ vs, eqD v) : SeqAt.shaped (lstD vs) = true := by
  unfold SeqAt.shaped
  rw [show (lstD vs).canLay0 = true from lay_vD h]
  show decide (PyData.depthAll (vs.map vD) + 1 ≤ 64) = true
  rw [depth_vD]
  rfl
/-- equality of flat data of the same kinds, place by place -/
def sameKind : V → V → Bool
  | .int _, .bl _ => false
  | .bl _, .int _ => false
  | _, _ => true
theorem eqv_vD {x y : V} (hx : eqD x) (hy : eqD y) (k : sameKind x y = true) : PyData.eqv (vD x) (vD y) = decide (x = y) := by
  cases x <;> cases y <;> first
    | exact hx.elim
    | exact hy.elim
    | (cases k; done)
    | rfl
    | (rw [decide_eq_false fun z => nomatch z]; rfl)
    | skip
  · rename_i a b
    show (a == b) = _
    rw [eq_dbl]
  · rename_i a b
    show (a == b) = _
    rw [eq_dint]
    exact (Bool.beq_eq_decide_eq a b)
  · rename_i a b
    show (a == b) = _
    rw [eq_dstr]
    exact (Bool.beq_eq_decide_eq a b)
theorem eqv_all : ∀ {vs ws : List V}, (∀ v ∈ vs, eqD v) → (∀ v ∈ ws, eqD v) → (∀ p ∈ vs.zip ws, sameKind p.1 p.2 = true) → PyData.eqvAll (vs.map vD) (ws.map vD) = decide (vs = ws)
  | [], [], _, _, _ => rfl
  | [], w :: ws, _, _, _ => by rw [decide_eq_false fun z => nomatch z]; rfl
  | v :: vs, [], _, _, _ => by rw [decide_eq_false fun z => nomatch z]; rfl
  | v :: vs, w :: ws, h1, h2, h3 => by
    show (PyData.eqv (vD v) (vD w) && PyData.eqvAll (vs.map vD) (ws.map vD)) = _
    rw [eqv_vD (h1 v List.mem_cons_self) (h2 w List.mem_cons_self) (h3 (v, w) List.mem_cons_self), eqv_all (fun x hx => h1 x (List.mem_cons_of_mem _ hx)) (fun x hx => h2 x (List.mem_cons_of_mem _ hx)) fun p hp => h3 p (List.mem_cons_of_mem _ hp), Bool.eq_iff_iff, Bool.and_eq_true, decide_eq_true_eq, decide_eq_true_eq, decide_eq_true_eq, List.cons.injEq]
theorem r_neTT (h1 : SqT K H a vs) (h2 : SqT K H b ws) (e1 : ∀ v ∈ vs, eqD v) (e2 : ∀ v ∈ ws, eqD v) (k : ∀ p ∈ vs.zip ws, sameKind p.1 p.2 = true) (q : Q (.bl (!decide (vs = ws))) H) : rNeD K (.ref a) (.ref b) H Q := by
  refine ⟨tupD vs, tupD ws, .tup h1 (dpAll_vD e1), .tup h2 (dpAll_vD e2), shaped_tup e1, shaped_tup e2, ?_⟩
  show Q (.bl (!PyData.eqvAll (vs.map vD) (ws.map vD))) H
  rw [eqv_all e1 e2 k]
  exact q
theorem r_eqTT (h1 : SqT K H a vs) (h2 : SqT K H b ws) (e1 : ∀ v ∈ vs, eqD v) (e2 : ∀ v ∈ ws, eqD v) (k : ∀ p ∈ vs.zip ws, sameKind p.1 p.2 = true) (q : Q (.bl (decide (vs = ws))) H) : rEqD K (.ref a) (.ref b) H Q := by
  refine ⟨tupD vs, tupD ws, .tup h1 (dpAll_vD e1), .tup h2 (dpAll_vD e2), shaped_tup e1, shaped_tup e2, ?_⟩
  show Q (.bl (PyData.eqvAll (vs.map vD) (ws.map vD))) H
  rw [eqv_all e1 e2 k]
  exact q
theorem r_neLL (h1 : SqL K H a vs) (h2 : SqL K H b ws) (e1 : ∀ v ∈ vs, eqD v) (e2 : ∀ v ∈ ws, eqD v) (k : ∀ p ∈ vs.zip ws, sameKind p.1 p.2 = true) (q : Q (.bl (!decide (vs = ws))) H) : rNeD K (.ref a) (.ref b) H Q := by
  refine ⟨lstD vs, lstD ws, .lst h1 (dpAll_vD e1), .lst h2 (dpAll_vD e2), shaped_lst e1, shaped_lst e2, ?_⟩
  show Q (.bl (!PyData.eqvAll (vs.map vD) (ws.map vD))) H
  rw [eqv_all e1 e2 k]
  exact q
end
/-! ### texts whose signs are signs -/
theorem sok_app {x y : Str} (hx : PyData.strOk x = true) (hy : PyData.strOk y = true) : PyData.strOk (x ++ y) = true := by
  show (x.cps ++ y.cps).all _ = true
  rw [Array.all_append]
  exact Bool.and_eq_true_iff.mpr ⟨hx, hy⟩
theorem sok_of (s : String) : PyData.strOk (Str.ofString s) = true := by
  rw [Str.ofString_eq_toList]
  show Array.all _ _ = true
  rw [List.all_toArray, List.all_map, List.all_eq_true]
  intro c _
  refine decide_eq_true ?_
  have := c.valid
  rcases this with z | z
  · exact Nat.lt_trans z (by decide)
  · exact z.2
theorem sok_join : ∀ {ts : List Str}, (∀ t ∈ ts, PyData.strOk t = true) → PyData.strOk (Str.join ", " ts) = true
  | [], _ => by decide +kernel
  | [x], h => h x List.mem_cons_self
  | x :: y :: r, h => by
    show PyData.strOk (x ++ (", " : Str) ++ Str.join ", " (y :: r)) = true
    exact sok_app (sok_app (h x List.mem_cons_self) (sok_of ", ")) (sok_join fun t ht => h t (List.mem_cons_of_mem _ ht))
theorem sok_tup {ts : List Str} (h : ∀ t ∈ ts, PyData.strOk t = true) : PyData.strOk (tupleText ts) = true := by
  unfold tupleText
  exact sok_app (sok_app (sok_of "(") (sok_join h)) (sok_of _)
theorem sok_from : ∀ {ts : List Str} {k : Nat} {acc : Str}, PyData.strOk acc = true → (∀ t ∈ ts, PyData.strOk t = true) → PyData.strOk (textFrom k acc ts) = true
  | [], _, _, ha, _ => ha
  | t :: ts, k, acc, ha, h => by
    unfold textFrom
    refine sok_from ?_ fun x hx => h x (List.mem_cons_of_mem _ hx)
    split
    · exact sok_app (sok_app ha (sok_of ", ")) (h t List.mem_cons_self)
    · exact sok_app ha (h t List.mem_cons_self)
theorem sok_lst {ts : List Str} (h : ∀ t ∈ ts, PyData.strOk t = true) : PyData.strOk (listText ts) = true := by
  unfold listText
  exact sok_app (sok_from (sok_of "[") h) (sok_of "]")
/-- a text whose repr is a text of signs (the laws' own words are) -/
def okR : V → Prop
  | .str x => PyData.strOk (reprText x) = true
  | _ => True
theorem sok_all : ∀ {vs : List V}, (∀ v ∈ vs, okR v) → ∀ t ∈ PyData.shownAll (vs.map vD), PyData.strOk t = true
  | [], _, t, ht => (nomatch ht)
  | v :: vs, h, t, ht => by
    have ht : t ∈ (vD v).shown :: PyData.shownAll (vs.map vD) := ht
    rcases List.mem_cons.mp ht with e | e
    · rw [e]
      cases v with
      | bl b => cases b <;> decide +kernel
      | int i => exact sok_of _
      | str x => exact h _ List.mem_cons_self
      | non => exact sok_of "None"
      | byt b => exact sok_of "None"
      | flt b => exact sok_of "None"
      | ref a => exact sok_of "None"
      | ty n => exact sok_of "None"
    · exact sok_all (fun w hw => h w (List.mem_cons_of_mem _ hw)) t e
theorem sok_tupD {vs : List V} (h : ∀ v ∈ vs, okR v) : PyData.strOk (tupD vs).shown = true := sok_tup (sok_all h)
theorem sok_lstD {vs : List V} (h : ∀ v ∈ vs, okR v) : PyData.strOk (lstD vs).shown = true := sok_lst (sok_all h)
/-! ### a list or a tuple, read alike; comprehensions over tuples and ranges -/
def SqA (K : PySem.W.Frag) (H : Hp) (p : Addr) (xs : List V) : Prop := SqL K H p xs ∨ SqT K H p xs
theorem same_tup {K : PySem.W.Frag} {H H' : Hp} {a : Addr} {xs : List V} (e : Same H H') (h : SqT K H a xs) : SqT K H' a xs := by
  rcases h with (h | ⟨o, h⟩) | h
  · exact .inl (.inl (e _ _ h))
  · exact .inl (.inr ⟨o, e _ _ h⟩)
  · exact .inr h
theorem SqA.same {K : PySem.W.Frag} {H H' : Hp} {a : Addr} {xs : List V} (h : SqA K H a xs) (e : Same H H') : SqA K H' a xs := h.imp (fun z => e.seq z) fun z => same_tup e z
theorem kAt_all {ns : List Int} {P : Int → Prop} (h : ∀ x ∈ ns, P x) {j : Nat} (hj : j < ns.length) : P (kAt ns j) := by
  have e : kAt ns j = ns[j] := by rw [kAt, List.getD_eq_getElem?_getD, List.getElem?_eq_getElem hj]; rfl
  rw [e]
  exact h _ (List.getElem_mem hj)
section
variable {σ : L2.St} {H : Hp} {Q : VK} {te : TE} {K : PySem.W.Frag} {a p : Addr} {xs : List V} {i : Int} {v : V}
theorem r_ixA (h : SqA K H p xs) (e : atI xs i = some v) (q : Q v H) : rIx K (.ref p) (.int i) H Q := by
  rcases h with h | h
  · exact .inl (r_ixL h e q)
  · exact .inr (.inl (r_ixT h e q))
def rTupA (K : PySem.W.Frag) : List V → Hp → VK → Prop := fun xs H Q => ∃ p ys, xs = [.ref p] ∧ ((SqL K H p ys ∧ ∀ l, H l = none → Q (.ref l) (upd H l (.tup ys))) ∨ (SqT K H p ys ∧ Q (.ref p) H))
theorem c_tupA {X : Cx} : CallR X (.type "tuple") (rTupA X.K) := call_tuple_of
theorem r_tupL (h : SqL K H p xs) (q : ∀ l, H l = none → Q (.ref l) (upd H l (.tup xs))) : rTupA K [.ref p] H Q := ⟨p, xs, rfl, .inl ⟨h, q⟩⟩
theorem r_tupA (h : SqA K H p xs) (q : ∀ l H', SqT K H' l xs → Same H H' → Q (.ref l) H') : rTupA K [.ref p] H Q := by
  rcases h with h | h
  · exact ⟨p, xs, rfl, .inl ⟨h, fun l nl => q l _ (SqT.of upd_same) (same_new nl)⟩⟩
  · exact ⟨p, xs, rfl, .inr ⟨h, q p H h (Same.refl H)⟩⟩
def rListA (K : PySem.W.Frag) : List V → Hp → VK → Prop := fun xs H Q => ∃ p ys, xs = [.ref p] ∧ (SqL K H p ys ∨ SqT K H p ys) ∧ ∀ l, H l = none → Q (.ref l) (upd H l (.lst ys))
theorem c_listA {X : Cx} : CallR X (.type "list") (rListA X.K) := call_list_of
theorem r_listA (h : SqA K H p xs) (q : ∀ l, H l = none → Q (.ref l) (upd H l (.lst xs))) : rListA K [.ref p] H Q := ⟨p, xs, rfl, h, q⟩
theorem r_catT {b : Addr} {ys : List V} (h1 : SqT K H a xs) (h2 : SqT K H b ys) (n1 : xs ≠ []) (n2 : ys ≠ []) (hz : xs.length + ys.length ≤ 1000) (q : ∀ p, H p = none → Q (.ref p) (upd H p (.tup (xs ++ ys)))) : rCatT K (.ref a) (.ref b) H Q :=
  ⟨a, b, xs, ys, rfl, rfl, h1, h2, n1, Nat.le_of_lt (small1000 hz), fun z => absurd z n2, fun _ => q⟩
theorem lc_mapT {n : Nat} (f : V → V) (hS : SqT K H a xs) (hz : xs.length ≤ 1000) (he : ∀ (x : V) (H' : Hp) (QQ : VK), x ∈ xs → Same H H' → QQ (f x) H' → te ((wipe σ [n]).set n (some x)) H' QQ)
    (hq : ∀ D, H D = none → Q (.ref D) (upd H D (.lst (xs.map f)))) : lcGo (Itt K a) (gName n) tYes te [n] σ Q H := by
  intro D hD
  refine lc_tup (K := K) (a := a) (xs := xs) (fun i H' => H' = upd H D (.lst ((xs.take i).map f))) rfl (fun i H' _ e => by subst e; exact same_tup (same_new hD) hS) ?_ ?_
  · rintro i x H' hx rfl
    refine ⟨wipe1, ?_⟩
    show te _ _ _
    refine he x _ _ (List.mem_of_getElem? hx) (same_new hD) ⟨(xs.take i).map f, upd_same, ?_, ?_⟩
    · rw [List.length_map, List.length_take]
      exact small1000 (by omega)
    · rw [upd_upd, List.take_add_one, hx, List.map_append]
      rfl
  · rintro H' rfl
    rw [List.take_length]
    exact hq D hD
theorem lc_mapR {n m : Nat} {lo : Int} (f : Nat → V) (hm : m ≤ 1000) (he : ∀ (i : Nat) (H' : Hp) (QQ : VK), i < m → Same H H' → QQ (f i) H' → te ((wipe σ [n]).set n (some (.int (lo + i)))) H' QQ)
    (hq : ∀ D, H D = none → Q (.ref D) (upd H D (.lst ((List.range m).map f)))) : lcGo (Itr lo m) (gName n) tYes te [n] σ Q H := by
  intro D hD
  refine lc_range (fun i H' => H' = upd H D (.lst ((List.range i).map f))) rfl ?_ ?_
  · rintro i H' hi rfl
    refine ⟨wipe1, ?_⟩
    show te _ _ _
    refine he i _ _ hi (same_new hD) ⟨(List.range i).map f, upd_same, ?_, ?_⟩
    · rw [List.length_map, List.length_range]
      exact small1000 (by omega)
    · rw [upd_upd, List.range_succ, List.map_append]
      rfl
  · rintro H' rfl
    exact hq D hD
end
/-! ### xs != [] of any items; comprehensions with any target -/
def rNeE (K : PySem.W.Frag) : R2 := fun x y H Q => ∃ a b xs, x = .ref a ∧ y = .ref b ∧ SqL K H a xs ∧ SqL K H b [] ∧ Q (.bl (!xs.isEmpty)) H
theorem op_neE {X : Cx} (hu : X.A.units < cLine) : OpR X (compareOp .NotEq) (rNeE X.K) := by
  intro pins s σ H x y v u Q I rx ry h
  obtain ⟨a, b, xs, rfl, rfl, h1, h2, q⟩ := h
  cases (show v = Value.ref a from rx)
  cases (show u = Value.ref b from ry)
  obtain ⟨its, r1, ⟨o1, n1, g1, c1, _, d1⟩, _⟩ := I.list h1
  obtain ⟨its2, r2, ⟨o2, n2, g2, c2, _, d2⟩, _⟩ := I.list h2
  cases r2
  show wpAny _ _ (richCompare .NotEq _ _) _ _ _
  cases r1 with
  | nil => exact SeqAt.RcNeAt.lists (e := fun _ => true) ⟨o1, g1, c1, n1, d1⟩ ⟨o2, g2, c2, n2, d2⟩ rfl hu (fun j h1 _ => absurd h1 (Nat.not_lt_zero j)) _ _ _ _ ⟨.bl false, H, I, rfl, q⟩
  | cons ra rb => exact SeqAt.RcNeAt.lists_lengths ⟨o1, g1, c1, n1, d1⟩ ⟨o2, g2, c2, n2, d2⟩ rfl hu _ _ _ _ ⟨.bl true, H, I, rfl, q⟩
section
variable {σ : L2.St} {H : Hp} {Q : VK} {te : TE} {K : PySem.W.Frag} {a b : Addr} {xs : List V}
theorem r_neE (h1 : SqL K H a xs) (h2 : SqL K H b []) (q : Q (.bl (!xs.isEmpty)) H) : rNeE K (.ref a) (.ref b) H Q := ⟨a, b, xs, rfl, rfl, h1, h2, q⟩
/-- [e for target in xs], e a value by a function of the item -/
theorem lc_mapG {g : TG} {vs : List Nat} (f : V → V) (hS : SqL K H a xs) (hz : xs.length ≤ 1000) (he : ∀ (x : V) (H' : Hp) (QQ : VK), x ∈ xs → Same H H' → QQ (f x) H' → g x (wipe σ vs) H' fun σ2 H2 => wipe σ2 vs = wipe σ vs ∧ te σ2 H2 QQ)
    (hq : ∀ D, H D = none → Q (.ref D) (upd H D (.lst (xs.map f)))) : lcGo (Itl K a) g tYes te vs σ Q H := by
  intro D hD
  refine lc_list (K := K) (a := a) (xs := xs) (fun i H' => H' = upd H D (.lst ((xs.take i).map f))) rfl (fun i H' _ e => by subst e; exact (same_new hD).seq hS) ?_ ?_
  · rintro i x H' hx rfl
    refine he x _ _ (List.mem_of_getElem? hx) (same_new hD) ⟨(xs.take i).map f, upd_same, ?_, ?_⟩
    · rw [List.length_map, List.length_take]
      exact small1000 (by omega)
    · rw [upd_upd, List.take_add_one, hx, List.map_append]
      rfl
  · rintro H' rfl
    rw [List.take_length]
    exact hq D hD
end
section
variable {σ : L2.St} {H : Hp} {Q : VK} {te : TE} {tt : TT} {K : PySem.W.Frag} {a : Addr} {xs : List V}
/-- [x for x in xs if test]: what passes the test -/
theorem lc_filt {n : Nat} (f : V → Bool) (hS : SqL K H a xs) (hz : xs.length ≤ 1000) (ht : ∀ (x : V) (H' : Hp) (QT : Bool → Hp → Prop), x ∈ xs → Same H H' → QT (f x) H' → tt ((wipe σ [n]).set n (some x)) H' QT)
    (he : ∀ (x : V) (H' : Hp) (QQ : VK), x ∈ xs → Same H H' → QQ x H' → te ((wipe σ [n]).set n (some x)) H' QQ) (hq : ∀ D, H D = none → Q (.ref D) (upd H D (.lst (xs.filter f)))) : lcGo (Itl K a) (gName n) tt te [n] σ Q H := by
  intro D hD
  refine lc_list (K := K) (a := a) (xs := xs) (fun i H' => H' = upd H D (.lst ((xs.take i).filter f))) rfl (fun i H' _ e => by subst e; exact (same_new hD).seq hS) ?_ ?_
  · rintro i x H' hx rfl
    have hx' := List.mem_of_getElem? hx
    refine ⟨wipe1, ht x _ _ hx' (same_new hD) ?_⟩
    cases hf : f x with
    | true =>
      refine he x _ _ hx' (same_new hD) ⟨(xs.take i).filter f, upd_same, ?_, ?_⟩
      · refine small1000 (Nat.le_trans (List.length_filter_le _ _) ?_)
        rw [List.length_take]
        omega
      · rw [upd_upd, List.take_add_one, hx, List.filter_append]
        show _ = upd H D (.lst (_ ++ List.filter f [x]))
        rw [List.filter_cons, if_pos hf]
        rfl
    | false =>
      show _ = _
      rw [List.take_add_one, hx, List.filter_append]
      show _ = upd H D (.lst (_ ++ List.filter f [x]))
      rw [List.filter_cons, if_neg (by rw [hf]; exact Bool.false_ne_true)]
      show _ = upd H D (.lst (_ ++ []))
      rw [List.append_nil]
  · rintro H' rfl
    rw [List.take_length]
    exact hq D hD
end
theorem sort1 {ns : List Int} {a : Int} (h : ns.Perm [a]) : ns = [a] := List.perm_singleton.mp h
theorem sort2 {ns : List Int} {a b : Int} (h : ns.Perm [a, b]) (hp : ns.Pairwise (· ≤ ·)) : ns = if b < a then [b, a] else [a, b] := by
  obtain ⟨x, y, rfl⟩ : ∃ x y, ns = [x, y] := by
    match ns, h.length_eq with
    | [x, y], _ => exact ⟨x, y, rfl⟩
  have hxy : x ≤ y := by
    have := List.rel_of_pairwise_cons hp (List.mem_singleton_self y)
    exact this
  have hx : x ∈ [a, b] := h.mem_iff.mp List.mem_cons_self
  simp only [List.mem_cons, List.mem_nil_iff, or_false] at hx
  rcases hx with rfl | rfl
  · have hy := List.perm_singleton.mp h.cons_inv
    cases hy
    rw [if_neg (by omega)]
  · have hy := List.perm_singleton.mp (h.trans (List.Perm.swap _ _ _)).cons_inv
    cases hy
    split
    · rfl
    · have : x = a := by omega
      rw [this]
section
variable {σ : L2.St} {H : Hp} {Q : VK} {te : TE} {tt : TT} {K : PySem.W.Frag} {a : Addr} {xs : List V}
/-- the same over a tuple -/
theorem lc_filtT {n : Nat} (f : V → Bool) (hS : SqT K H a xs) (hz : xs.length ≤ 1000) (ht : ∀ (x : V) (H' : Hp) (QT : Bool → Hp → Prop), x ∈ xs → Same H H' → QT (f x) H' → tt ((wipe σ [n]).set n (some x)) H' QT)
    (he : ∀ (x : V) (H' : Hp) (QQ : VK), x ∈ xs → Same H H' → QQ x H' → te ((wipe σ [n]).set n (some x)) H' QQ) (hq : ∀ D, H D = none → Q (.ref D) (upd H D (.lst (xs.filter f)))) : lcGo (Itt K a) (gName n) tt te [n] σ Q H := by
  intro D hD
  refine lc_tup (K := K) (a := a) (xs := xs) (fun i H' => H' = upd H D (.lst ((xs.take i).filter f))) rfl (fun i H' _ e => by subst e; exact same_tup (same_new hD) hS) ?_ ?_
  · rintro i x H' hx rfl
    have hx' := List.mem_of_getElem? hx
    refine ⟨wipe1, ht x _ _ hx' (same_new hD) ?_⟩
    cases hf : f x with
    | true =>
      refine he x _ _ hx' (same_new hD) ⟨(xs.take i).filter f, upd_same, ?_, ?_⟩
      · refine small1000 (Nat.le_trans (List.length_filter_le _ _) ?_)
        rw [List.length_take]
        omega
      · rw [upd_upd, List.take_add_one, hx, List.filter_append]
        show _ = upd H D (.lst (_ ++ List.filter f [x]))
        rw [List.filter_cons, if_pos hf]
        rfl
    | false =>
      show _ = _
      rw [List.take_add_one, hx, List.filter_append]
      show _ = upd H D (.lst (_ ++ List.filter f [x]))
      rw [List.filter_cons, if_neg (by rw [hf]; exact Bool.false_ne_true)]
      show _ = upd H D (.lst (_ ++ []))
      rw [List.append_nil]
  · rintro H' rfl
    rw [List.take_length]
    exact hq D hD
end
/-! ### constants of the top; binding by place and by keywords -/
theorem sqt_const {K : PySem.W.Frag} {H : Hp} {a : Addr} {od : Option Addr} {its : Array Value} {n : Nat} {sl : Array (Option Value)} {vs : List V} (h : K.lookup a = some ⟨.type "tuple", od, .seq its n, sl⟩) (r : Vals vs its.toList) (hl : vs.length ≤ 1000) : SqT K H a vs := by
  refine .inr ⟨_, its, n, h, rfl, rfl, ?_, r⟩
  have e : its.size = vs.length := (Array.length_toList (xs := its)).symm.trans r.length.symm
  rw [e]
  exact Nat.le_of_lt (small1000 hl)
theorem kb_mkN {K : PySem.W.Frag} {x qual : Str} {st : Stmt} {f : Addr} {fd : FuncData} {ps ks : List Str} {n : Nat} (F : Fun K x qual st f fd)
    (h : ∀ (kV doc pm : Value) (an : Option Addr) (cdv ct : Value) (us ws : List Value), us.length = n → ws.length = ks.length → bindArgs (PySem.W.fnOf x qual (defArgs st) (defBody st) (defScope st) .none kV doc pm an cdv ct) ⟨us, ks.zip ws⟩ = pure (ps.zip (us ++ ws))) :
    KBn K fd ps n ks (fun us ws => us ++ ws) (fun vs zs => vs ++ zs) := by
  obtain ⟨oc, od, kV, doc, pm, an, cdv, ct, osl, rfl, lk, hcd⟩ := F.ex
  exact ⟨fun s us ws _ l1 l2 => .of_eq (h kV doc pm an cdv ct us ws l1 l2), fun r1 r2 => r1.append r2⟩
theorem r_makeN {C : Addr} {n m : Nat} {sp : Sp} {gV : List V → List V → List V} {E : XK} {t tk : TA} {σ : L2.St} {H : Hp} {Q : VK} (h : t σ H fun vs H1 => tk σ H1 fun zs H2 => vs.length = n ∧ zs.length = m ∧ ∀ x dx, H2 x = none → H2 dx = none → dx ≠ x → sp (gV (.ref x :: vs) zs) (upd (upd H2 dx (.own x)) x (.ins C dx [])) (fun v H3 => v = .non ∧ Q (.ref x) H3) E) : tMakeN C n m sp gV E t tk σ H Q := h
theorem r_inT {K : PySem.W.Frag} {H : Hp} {Q : VK} {neg : Bool} {x : V} {p : Addr} {xs : List V} (h : SqT K H p xs) (h1 : flatV x = true) (h2 : xs.all flatV = true) (q : Q (.bl (if neg then !inV x xs else inV x xs)) H) : rIn K neg x (.ref p) H Q := ⟨p, xs, rfl, .inr h, h1, h2, q⟩
theorem r_inL {K : PySem.W.Frag} {H : Hp} {Q : VK} {neg : Bool} {x : V} {p : Addr} {xs : List V} (h : SqL K H p xs) (h1 : flatV x = true) (h2 : xs.all flatV = true) (q : Q (.bl (if neg then !inV x xs else inV x xs)) H) : rIn K neg x (.ref p) H Q := ⟨p, xs, rfl, .inl h, h1, h2, q⟩
/-! ### isinstance of a caught error with attributes of its own: both answers -/
section
open PySem.W PySem.Calls
variable {prog : Program} {w : World} {A : Around} {E : Value → Shared → Prop} {st : Shared} {K : PySem.W.Frag} {x D : Addr} {ob : Obj} {dob : Option Obj}
/-- e.__class__ of an error, whatever its own dict holds -/
theorem cls_of_error {Q : Option Value → Shared → Prop} (C : ExcC K D) (X : K.In st.heap) (I : PySem.W.InstAt st.heap x ob D dob) (h : Q (some (.ref D)) { st with toks := st.toks + 1 }) : wpAny (model prog w) A (getAttr? (.ref x) "__class__") Q E st := by
  have found : findObj K D dob "__class__" = some (.bind (.builtin "getset_descriptor.__get__") (.builtin "object.__class__")) := by
    obtain ⟨cd, hc, _⟩ := any_some C.hd
    unfold findObj; rw [hc, Option.bind_some, C.ha, Option.bind_some]; simp [C.hn, C.ht]
  obtain ⟨hp, g, d, t, os⟩ := st
  have T0 := I.type (M := model prog w)
  have T1 := looks_findIn (M := model prog w) X C.hg
  have T2 := looks_findIn (M := model prog w) X C.hk
  have T3 := looks_find (M := model prog w) X I found
  have isB : Looks (model prog w) hp (isInstance (.ref x) (.type "BaseException")) true := T0.andThen (looks_subIn X C.hs)
  have z2 : (Value.builtin "BaseException.__getattribute__" == Value.builtin "object.__getattribute__") = false := by decide +kernel
  have z1 : (onTheHeap (Value.ref D) && Value.builtin "BaseException.__getattribute__" == Value.builtin "object.__getattribute__") = false := by rw [z2] <;> rfl
  have z0 : (false && onTheHeap (Value.builtin "BaseException.__getattribute__")) = false := rfl
  unfold getAttr? getAttrBy?; unfold getAttrBy
  refine wpAny_bind (wpAny_mkText (wpAny_bind (wpAny_attempt (wpAny_holding (wpAny_bind (T0.at (wpAny_bind (T1.at ?_))))))))
  show wpAny _ _ (if (onTheHeap (Value.ref D) && Value.builtin "BaseException.__getattribute__" == Value.builtin "object.__getattribute__") = true then _ else _) _ _ _; rw [z1, if_neg Bool.false_ne_true]
  unfold getAttrByItsOwn; unfold hookBefore
  refine wpAny_bind ?_
  rw [if_pos (show onTheHeap (Value.ref D) = true from rfl)]; refine T2.at ?_
  refine wpAny_bind (wpAny_attempt (wpAny_holding ?_)); unfold callGetattribute
  rw [z0, if_neg Bool.false_ne_true]
  unfold boundAndCalled; rw [PySem.F.excAttr_ValueError.ga.bind (.ref x)]
  refine wpAny_bind (wpAny_pure ?_)
  show wpAny _ _ (call (.builtin "BaseException.__getattribute__") [.ref x, .str "__class__" t]) _ _ _; refine wpAny_call (codeAny_call_builtin PySem.F.excAttr_ValueError.ga.plain PySem.F.entry_bexc_ga ?_)
  refine @check_slot (model prog w) _ _ ⟨hp, g, d, t + 1, os⟩ "BaseException.__getattribute__" "BaseException" "__getattribute__" (.ref x) [.str "__class__" t] [] _ (by decide +kernel) (by decide +kernel) isB (PySem.F.args_bexc_ga (.ref x) (.str "__class__" t)) ?_
  unfold Builtin.«object.__getattribute__»; refine wpAny_bind (wpAny_of_eq (a := ((Value.ref x : Value), [Value.str "__class__" t])) (by first | rfl | (simp only [slotArgs]; rfl)) ?_)
  refine wpAny_bind (wpAny_pure (wpAny_bind (T0.at (wpAny_bind (T3.at ?_)))))
  show wpAny _ _ (holding [Value.builtin "object.__class__"] (call (.builtin "getset_descriptor.__get__") [.builtin "object.__class__", .ref x, .ref D]) >>= ret) _ _ _; refine wpAny_bind (wpAny_holding (wpAny_call (class_get (s := ⟨hp, g, d, t + 1, os⟩) (ox := ob) (od := dob) X I C.hm ?_)))
  refine wpAny_pure ?_; show wpAny _ _ (handedOut (.ref D)) _ _ _; rw [handedOut_of (v := .ref D) rfl]
  first | exact wpAny_pure (wpAny_pure h) | exact wpAny_pure h | exact wpAny_pure (wpAny_bind (wpAny_pure (wpAny_pure h)))
theorem kit_error (C : ExcC K D) : PySem.W.KitX K (.ref x) (.ref D) (fun h => PySem.W.InstAt h x ob D dob) where
  ty := fun _ _ _ I => I.type
  it := fun _ _ X _ => by
    obtain ⟨cd, hc, _⟩ := any_some C.hd
    unfold clsIn at hc
    split at hc
    · rename_i ho
      intro A' Q' E' s' k q
      unfold isType loadHead; exact wpAny_bind (wpAny_loadPart (k _ _ (X _ _ ho)) (wpAny_pure q))
    · cases hc
  ne := fun h tp dd its n sl X htp => by
    obtain ⟨cd, hc, _⟩ := any_some C.hd
    refine Bool.eq_false_iff.mpr fun q => ?_
    obtain rfl : D = tp := Value.ref.inj (beq_iff_eq.mp q)
    unfold clsIn at hc
    split at hc
    · rename_i ho; cases (X _ _ ho).symm.trans htp
    · cases hc
  ca := fun X I k => cls_of_error C X I k
end
def rIsX (K : PySem.W.Frag) (cls : Value) (d : Option Addr) (a : Addr) : List V → Hp → VK → Prop := fun xs H Q => ∃ (D dd : Addr) (fs : List (Str × V)) (c : V) (cv : Value) (b : Bool), cls = .ref D ∧ ExcC K D ∧ d = some dd ∧ H dd = some (.xd fs) ∧ xs = [.ref a, c] ∧ ClsV c cv ∧ PySem.W.kitOne K (.ref D) cv = some b ∧ Q (.bl b) H
theorem call_isX {X : Cx} {a : Addr} {oe : Obj} {cls : Value} {d : Option Addr} {pn : List (Addr × Obj)} (hz : Zc cls d oe) (hf : ∃ vs, oe.data = .fields vs) : CallR (X.suite a ((a, oe) :: pn)) (.builtin "isinstance") (rIsX X.K cls d a) := by
  intro pins s σ H xs us Q I r h
  obtain ⟨D, dd, fs, c, cv, b, rfl, C, rfl, ea, rfl, hc, e, q⟩ := h
  obtain ⟨u1, u2, rfl, r1, r2⟩ := vals2 r
  cases (show u1 = Value.ref a from r1)
  cases hc.eq r2
  obtain ⟨ha, _⟩ := I.pin (a, oe) (List.mem_append_left _ List.mem_cons_self)
  obtain ⟨vs, hv⟩ := hf
  have ho : ObjOk X.prog X.w H s.heap dd (.xd fs) := I.hok dd _ ea
  obtain ⟨mA, hns, _⟩ := ho
  obtain ⟨od, ho, _⟩ := lookIn_ns hns
  have J : PySem.W.InstAt s.heap a oe D (some od) := ⟨ha, hz.1, by unfold PySem.W.notCls; rw [hv] <;> rfl, by rw [hz.2]; exact ho⟩
  exact PySem.W.kia_one (kit_error C) I.kIn J e (fun z => nomatch z) fun tk => ⟨.bl b, H, I.kept (t' := tk) fun _ _ z => z, rfl, q⟩
theorem r_isX {K : PySem.W.Frag} {a D dd : Addr} {fs : List (Str × V)} {c : V} {cv : Value} {b : Bool} {H : Hp} {Q : VK} (C : ExcC K D) (hd : H dd = some (.xd fs)) (hc : ClsV c cv) (e : PySem.W.kitOne K (.ref D) cv = some b) (q : Q (.bl b) H) : rIsX K (.ref D) (some dd) a [.ref a, c] H Q := ⟨D, dd, fs, c, cv, b, rfl, C, rfl, hd, rfl, hc, e, q⟩
/-! ### several except clauses, each with a name -/
/-- the clauses' wishes: class, slot of the name, suite -/
def wManyA (K : PySem.W.Frag) (Wout : WX) (D : Ends) : List (Value × Nat × (Addr → Value → Option Addr → TS)) → WX
  | [] => Wout
  | (c, i, ts) :: r => fun cls d σ H => ∃ b, PySem.W.exmOne K cls c = some b ∧ (b = true → ∀ a, H a = none → ts a cls d { D with nx := fun σ' H' => D.nx (σ'.set i none) H', bk := fun σ' H' => D.bk (σ'.set i none) H', ct := fun σ' H' => D.ct (σ'.set i none) H' } (σ.set i (some (.ref a))) H) ∧ (b = false → wManyA K Wout D r cls d σ H)
inductive HdsA (X : Cx) : List ExceptHandler → List (Value × Nat × (Addr → Value → Option Addr → TS)) → Prop
  | nil : HdsA X [] []
  | cons {x n : Str} {c : Value} {i : Nat} {ts : Addr → Value → Option Addr → TS} {b₀ : Stmt} {suite : List Stmt} {np pos' : Pos} {hds : List ExceptHandler} {l : List (Value × Nat × (Addr → Value → Option Addr → TS))} (hi : X.N[i]? = some n) (hln : X.env.kindOf n = some .local) (hc : Names X x c)
      (hsu : ∀ (a : Addr) (oe : Obj) (cls : Value) (d : Option Addr) (pn : List (Addr × Obj)), Zc cls d oe → (∃ vs, oe.data = .fields vs) → PSs (X.suite a ((a, oe) :: pn)) (b₀ :: suite) (ts a cls d)) (r : HdsA X hds l) :
      HdsA X (.ExceptHandler (some (.Name x np)) (some n) (b₀ :: suite) pos' :: hds) ((c, i, ts) :: l)
theorem ps_try_manyA {X : Cx} {body : List Stmt} {h₀ : ExceptHandler} {hds : List ExceptHandler} {l : List (Value × Nat × (Addr → Value → Option Addr → TS))} {pos : Pos} {tb : WX → TS} {Wout : WX} (hs : X.stack = X.env :: X.outer) (hf : X.env.frame = some X.env.locals) (hN : X.N.Nodup) (tk : Takes X Wout)
    (hb : ∀ (W : WX) (pn : List (Addr × Obj)) (xe : Value → Shared → Prop), Takes (X.tr pn xe) W → PassesOwn (model X.prog X.w) X.A X.env xe → PSs (X.tr pn xe) body (tb W))
    (hh : HdsA X (h₀ :: hds) l) : PS X (.Try body (h₀ :: hds) [] [] pos) (fun D σ H => tb (wManyA X.K Wout D l) D σ H) := by
  refine ⟨fun pins s σ H D I h => ?_⟩
  have ok := I.ok; have hfr : X.A.frames = some (X.env :: X.outer) := by rw [ok.frames, hs]
  refine wpAny_Try_except ?_
  refine wpAny_mono ((hb (wManyA X.K Wout D l) (X.pn ++ pins) (fun e s₁ => wpAny (model X.prog X.w) X.A (noteFrame e X.env) (fun _ s₂ => wpAny (model X.prog X.w) X.A (setFlight e none) (fun _ s₃ =>
    wpAny (model X.prog X.w) X.A (handleBy e X.env (h₀ :: hds)) (SP X pins D) X.xe s₃) X.xe s₂) X.xe s₁) (fun u s' xx => ?_) PassesOwn.looking).run [] s σ H D (I.toTry _) h) (fun f s1 hsp => ?_) (fun e s1 he => he)
  · obtain ⟨a, B, sI, pins', σ', H', cls, d, rfl, J', nb, up, sky, na, os, ag, w⟩ := xx
    have J : Inv X pins σ' H' sI := J'.ofTry ok; have sky' : Sky B (X.env :: X.outer) a (Zc cls d) X.env.locals s'.heap := by rw [← hs]; exact sky
    show wpAny (model X.prog X.w) X.A (noteFrame (.ref a) X.env) _ _ _; refine Sky.land Zc.steady hfr hf sky' fun h3 fl3 up3 => ?_
    have J3 : Inv X pins σ' H' { s' with heap := h3 } := J.landed nb fl3.1 (up.trans up3) os ag; obtain ⟨oe3, vs3, he3, hz3, hd3⟩ := fl3.there
    have nfr : a ∉ frs (X.env :: X.outer) := fun hm => by
      obtain ⟨_, o', e', hnf⟩ := fl3.2.2.1.mem hm
      rw [he3] at e'; cases e'; exact hnf _ hd3
    have nL : a ≠ X.env.locals := fun z => nfr (List.mem_filterMap.mpr ⟨X.env, List.mem_cons_self, by rw [hf, z]⟩); have nF : a ∉ X.fs := fun hm => by
      obtain ⟨e, he, q⟩ := List.mem_filterMap.mp hm; exact nfr (List.mem_filterMap.mpr ⟨e, List.mem_cons_of_mem _ he, q⟩)
    have S3 := J3.suite he3 hd3 na nL nF; clear h hb; suffices go : ∀ {hds' : List ExceptHandler} {l' : List (Value × Nat × (Addr → Value → Option Addr → TS))}, HdsA X hds' l' → wManyA X.K Wout D l' cls d σ' H' →
        wpAny (model X.prog X.w) X.A (handleBy (.ref a) X.env hds') (SP X pins D) X.xe { s' with heap := h3 } from go hh w
    intro hds' l' hk
    induction hk with
    | nil =>
      intro w; refine wpAny_handleBy_nil ?_
      obtain ⟨k1, k2, k3, oe, vs, T, oT, ts', he, hz, hd, h1, hr⟩ := id fl3; unfold PySem.passOn
      refine wpAny_bind (wpAny_field he hd h1 ?_); rw [if_neg (show ¬ ((Value.ref T == Value.none) = true) from by simp)]
      have fin : wpAny (model X.prog X.w) X.A (setFlight (.ref a) X.env.frame) (fun _ s4 => wpAny (model X.prog X.w) X.A (throw (.ref a) : Sem Flow) (SP X pins D) X.xe s4) X.xe { s' with heap := h3 } := by
        rw [hf]; refine HandSPX.setFlight_upZ fl3 fun h4 hh4 up4 => wpAny_throw (tk _ _ ?_)
        exact ⟨a, B, sI, pins, σ', H', cls, d, rfl, J, nb, (up.trans up3).trans up4, .inr (.inr (by rw [hs]; exact hh4)), na, os, ag, w⟩
      first | exact wpAny_bind (wpAny_pure (wpAny_bind fin)) | exact wpAny_bind fin
    | @cons x n c i ts b₀ suite np pos' hds2 l2 hi hln hc hsu r ih =>
      intro w; obtain ⟨b, hb1, hyes, hno⟩ := w
      refine wpAny_handleBy_cons (codeAny_handlers_test ?_) (by intro q; cases q); have LT : PySem.W.Looks (model X.prog X.w) h3 (typeOf (.ref a)) cls := fun A Q E s k q => wpAny_typeOf_ref (k _ _ he3) (by rw [hz3.1]; exact q)
      have LM := PySem.W.exm_one (M := model X.prog X.w) (J3.kIn) LT hb1; have test : ∀ {Q : Value → Shared → Prop} {E : Value → Shared → Prop}, Q c { s' with heap := h3 } → wpAny (model X.prog X.w) (X.A.mark (some (.ref a))) (eval (.Name x np) X.env) Q E { s' with heap := h3 } := fun {Q E} q => by
        obtain ⟨hg, hdbg, hm | ⟨hm, hv, hnn⟩⟩ := hc
        · exact ld_glob (X := X.suite a ((a, oe3) :: (X.pn ++ pins))) S3 hg hm q hdbg
        · exact ld_blt (X := X.suite a ((a, oe3) :: (X.pn ++ pins))) S3 hg hm hv q hnn hdbg
      refine test (LM.here ?_)
      cases b with
      | false => exact ih (hno rfl)
      | true =>
        refine codeAny_handlers_suite_as ?_; refine HandSPX.lands_againZ fl3 fun h4 fl4 up4 => ?_
        have J4 : Inv X pins σ' H' { s' with heap := h4 } := J.landed nb fl4.1 ((up.trans up3).trans up4) os ag; obtain ⟨oe4, vs4, he4, hz4, hd4⟩ := fl4.there
        have S4 := J4.suite he4 hd4 na nL nF
        have hloc : Loc X.env.scope n := .inl hln; refine store_ok (X := X.suite a ((a, oe4) :: (X.pn ++ pins))) (v := .ref a) S4 hN hi hloc rfl (fun s5 S5 => ?_) (.inr hln)
        refine wpAny_mono ((hsu a oe4 cls d (X.pn ++ pins) hz4 ⟨_, hd4⟩).run [] s5 _ H' _ S5 (hyes rfl a na)) (fun f s6 hsp => ?_) (fun _ _ z => False.elim z)
        have end_ : ∀ {σ6 : L2.St} {H6 : Hp} {Q : Shared → Prop}, Inv (X.suite a ((a, oe4) :: (X.pn ++ pins))) [] σ6 H6 s6 → (∀ s7, Inv X pins (σ6.set i none) H6 s7 → Q s7) →
            wpAny (model X.prog X.w) X.A (do bindName X.env n .none; unbindBehindTheSuite X.env n pos') (fun _ s7 => Q s7) X.xe s6 := fun {σ6 H6 Q} S6 hq => gone_ok (S6.unsuite ok) hN hi hln hq
        cases f with
        | next => obtain ⟨σ6, H6, S6, q6⟩ := hsp; exact end_ S6 fun s7 J7 => ⟨_, _, J7, q6⟩
        | brk => obtain ⟨σ6, H6, S6, q6⟩ := hsp; exact end_ S6 fun s7 J7 => ⟨_, _, J7, q6⟩
        | cont => obtain ⟨σ6, H6, S6, q6⟩ := hsp; exact end_ S6 fun s7 J7 => ⟨_, _, J7, q6⟩
        | ret u => obtain ⟨v6, σ6, H6, S6, r6, q6⟩ := hsp; exact end_ S6 fun s7 J7 => ⟨_, _, _, J7, r6, q6⟩
  · cases f with
    | next => obtain ⟨σ', H', J', q⟩ := hsp; exact wpAny_execs_nil ⟨σ', H', J'.ofTry ok, q⟩
    | brk => obtain ⟨σ', H', J', q⟩ := hsp; exact ⟨σ', H', J'.ofTry ok, q⟩
    | cont => obtain ⟨σ', H', J', q⟩ := hsp; exact ⟨σ', H', J'.ofTry ok, q⟩
    | ret u => obtain ⟨v, σ', H', J', r, q⟩ := hsp; exact ⟨v, σ', H', J'.ofTry ok, r, q⟩
/-! ### C(e, .., k = v, ..) within a try, where __init__ may raise -/
def tMakeNS (C : Addr) (n m : Nat) (sp : Sp) (gV : List V → List V → List V) (E : L2.St → XK) (t tk : TA) : TE := fun σ H Q => t σ H fun vs H1 => tk σ H1 fun zs H2 => vs.length = n ∧ zs.length = m ∧ ∀ x dx, H2 x = none → H2 dx = none → dx ≠ x → sp (gV (.ref x :: vs) zs) (upd (upd H2 dx (.own x)) x (.ins C dx [])) (fun v H3 => v = .non ∧ Q (.ref x) H3) (E σ)
theorem pe_makeNS {X : Cx} {CX : CXT} {k n : Nat} {f C : Addr} {fd : FuncData} {ps ks : List Str} {sp : Sp} {x : Str} {p pos : Pos} {e : Expr} {es : List Expr} {kws : List Keyword} {t tk : TA} {g : List Value → List Value → List Value} {gV : List V → List V → List V} {E : L2.St → XK}
    (M : Mk X.K C f) (F : FnOk X.prog X.w X.K X.mg X.base CX k f fd ps sp) (hr : Room (k + 1) X.A) (hg : Gl X x) (hm : X.mg x = some (.ref C)) (hb : KBn X.K fd ps (n + 1) ks g gV) (hx : ∀ σ, PassesAt CX X σ (E σ)) (ha : PA X (e :: es) t) (hkw : PK X kws tk)
    (hall : (backToKw pos (keywordEach kws X.env)).all (fun q => q.1.isSome) = true := by rfl) (hks : (backToKw pos (keywordEach kws X.env)).filterMap (fun q => q.1) = ks := by rfl) (hdb : (x == ("__debug__" : Str)) = false := by decide)
    (he : starEach (e :: es) X.env = (false, eval e X.env) :: starEach es X.env := by rfl) (hpl : ((backTo pos (starEach (e :: es) X.env)).any (fun q => q.1) || (backToKw pos (keywordEach kws X.env)).any (fun q => q.1.isNone)) = false := by rfl) :
    PE X (.Call (.Name x p) (e :: es) kws pos) (tMakeNS C n ks.length sp gV E t tk) := by
  refine ⟨fun pins s σ H Q I h => wpAny_Call_Name_kw (ld_glob I hg hm ?_ hdb)⟩
  refine PySem.W.callWith_KW (h₀ := X.base) I.ok.mod.kin M.kp hall (thn (ha.run pos pins s σ H _ I h) fun us s1 hh => ?_) hpl he
  obtain ⟨vs, H1, I1, r, q⟩ := hh
  refine thn (hkw.run pos pins s1 σ H1 _ I1 q) fun ws s2 hw => ?_
  obtain ⟨zs, H2, I2, rz, l1, l2, q2⟩ := hw
  refine ⟨I2.kIn, ?_⟩
  rw [hks]
  exact run_makeA (fu := fun v => g (v :: us) ws) (fv := fun v => gV (v :: vs) zs) M F hr (fun s' v inn => hb.to s' (v :: us) ws inn (congrArg Nat.succ (r.length.symm.trans l1)) (rz.length.symm.trans l2)) (fun a => hb.rel (.cons rfl r) rz) (hx σ) I2 q2
theorem r_makeNS {C : Addr} {n m : Nat} {sp : Sp} {gV : List V → List V → List V} {E : L2.St → XK} {t tk : TA} {σ : L2.St} {H : Hp} {Q : VK} (h : t σ H fun vs H1 => tk σ H1 fun zs H2 => vs.length = n ∧ zs.length = m ∧ ∀ x dx, H2 x = none → H2 dx = none → dx ≠ x → sp (gV (.ref x :: vs) zs) (upd (upd H2 dx (.own x)) x (.ins C dx [])) (fun v H3 => v = .non ∧ Q (.ref x) H3) (E σ)) : tMakeNS C n m sp gV E t tk σ H Q := h
/-! ### short texts of signs -/
def Wd (z : Str) : Prop := PyData.strOk z = true ∧ z.length ≤ 30
theorem at_strs {ws : List Str} {k : Int} (h0 : 0 ≤ k) (h1 : k < ws.length) : ∃ z, atI (ws.map V.str) k = some (.str z) ∧ z ∈ ws := by
  have hk : k.toNat < ws.length := by omega
  have e : atI (ws.map V.str) (k.toNat : Int) = some (.str ws[k.toNat]) := atI_nat (by rw [List.getElem?_map, List.getElem?_eq_getElem hk]; rfl)
  rw [Int.toNat_of_nonneg h0] at e
  exact ⟨_, e, List.getElem_mem hk⟩
theorem r_lenS {H : Hp} {Q : VK} {K : PySem.W.Frag} {p : Addr} {ws : List Str} (h1 : H p = some (.lst (ws.map V.str))) (h : Q (.int ws.length) H) : rLenL K [.ref p] H Q := ⟨p, _, rfl, .inl (.inl (.inl h1)), by rw [List.length_map]; exact h⟩
theorem len_app (x y : Str) : (x ++ y).length = x.length + y.length := by
  show (x.cps ++ y.cps).size = _
  rw [Array.size_append]
  rfl
theorem cut_sok {z : Str} {lo hi : Option Int} (h : PyData.strOk z = true) : PyData.strOk (cutS z lo hi) = true := by
  show Array.all _ _ = true
  have h : z.cps.all (fun c => decide (c < 0x110000)) = true := h
  rw [← Array.all_toList] at h ⊢
  rw [List.all_eq_true] at h ⊢
  intro x hx
  exact h x (List.mem_of_mem_drop (List.mem_of_mem_take (by simpa [cutS] using hx)))
theorem cut_lenS {z : Str} {lo hi : Option Int} : (cutS z lo hi).length ≤ z.length := by
  show (List.toArray _).size ≤ z.cps.size
  rw [List.size_toArray, List.length_take, List.length_drop, Array.length_toList]
  omega
theorem join_ok : ∀ {ys : List Str}, (∀ y ∈ ys, PyData.strOk y = true ∧ y.length = 1) → PyData.strOk (Str.join "" ys) = true ∧ (Str.join "" ys).length = ys.length
  | [], _ => by decide +kernel
  | [x], h => h x List.mem_cons_self
  | x :: y :: r, h => by
    obtain ⟨i1, i2⟩ := join_ok (ys := y :: r) fun z hz => h z (List.mem_cons_of_mem _ hz)
    obtain ⟨h1, h2⟩ := h x List.mem_cons_self
    show PyData.strOk (x ++ ("" : Str) ++ Str.join "" (y :: r)) = true ∧ (x ++ ("" : Str) ++ Str.join "" (y :: r)).length = _
    refine ⟨sok_app (sok_app h1 (sok_of "")) i1, ?_⟩
    rw [len_app, len_app, i2, h2]
    show 1 + 0 + (r.length + 1) = r.length + 1 + 1
    omega
/-- [e for x in range(..)], e draws: items of any kind -/
theorem lc_drawsG {σ : L2.St} {H : Hp} {Q : VK} {te : TE} {n m : Nat} {lo : Int} {d c r : Addr} {P : V → Prop} (hm : m ≤ 1000) (D0 : Drw H d c r)
    (he : ∀ (i : Nat) (H' : Hp) (QQ : VK), i < m → Drw H' d c r → Ext d r H H' → (∀ (v : V) (H'' : Hp), P v → Drw H'' d c r → Ext d r H' H'' → QQ v H'') → te ((wipe σ [n]).set n (some (.int (lo + i)))) H' QQ)
    (hq : ∀ (l : Addr) (ss : List V) (H' : Hp), ss.length = m → (∀ x ∈ ss, P x) → H l = none → H' l = some (.lst ss) → Drw H' d c r → Ext d r H H' → Q (.ref l) H') : lcGo (Itr lo m) (gName n) tYes te [n] σ Q H := by
  intro l nl
  have ld := D0.ned nl
  have lr := D0.ner nl
  have lc := D0.nec nl
  refine lc_range (fun i H' => ∃ ss : List V, ss.length = i ∧ (∀ x ∈ ss, P x) ∧ H' l = some (.lst ss) ∧ Drw H' d c r ∧ Ext d r H H') ⟨[], rfl, fun x hx => (nomatch hx), upd_same, D0.new nl, Ext.of (same_new nl)⟩ ?_ ?_
  · rintro i H' hi ⟨ss, hl, hp, hs, D1, E1⟩
    refine ⟨wipe1, ?_⟩
    show te _ _ _
    refine he i H' _ hi D1 E1 fun k H'' hk D2 E2 => ⟨ss, E2 _ _ hs ld lr, small1000 (by omega), ?_⟩
    refine ⟨ss ++ [k], by rw [List.length_append, hl]; rfl, fun x hx => ?_, upd_same, D2.put ld lr lc, fun b o e n1 n2 => ?_⟩
    · rcases List.mem_append.mp hx with z | z
      · exact hp x z
      · rw [List.mem_singleton.mp z]; exact hk
    · rw [upd_ne (ne_of_none e nl)]
      exact E2 b o (E1 b o e n1 n2) n1 n2
  · rintro H' ⟨ss, hl, hp, hs, D1, E1⟩
    exact hq l ss H' hl hp nl hs D1 E1
theorem strs_of : ∀ {ss : List V}, (∀ x ∈ ss, ∃ z : Str, x = .str z ∧ PyData.strOk z = true ∧ z.length = 1) → ∃ ys : List Str, ss = ys.map V.str ∧ ∀ y ∈ ys, PyData.strOk y = true ∧ y.length = 1
  | [], _ => ⟨[], rfl, fun _ h => nomatch h⟩
  | x :: ss, h => by
    obtain ⟨ys, e, hy⟩ := strs_of (ss := ss) fun z hz => h z (List.mem_cons_of_mem _ hz)
    obtain ⟨z, rfl, hz⟩ := h x List.mem_cons_self
    refine ⟨z :: ys, by rw [e]; rfl, fun y hm => ?_⟩
    rcases List.mem_cons.mp hm with rfl | hm
    · exact hz
    · exact hy y hm
theorem sum_ones : ∀ {ys : List Str}, (∀ y ∈ ys, y.length = 1) → (ys.map (fun y => y.length)).sum = ys.length
  | [], _ => rfl
  | y :: ys, h => by
    rw [List.map_cons, List.sum_cons, sum_ones fun z hz => h z (List.mem_cons_of_mem _ hz), h y List.mem_cons_self, List.length_cons]
    omega
theorem cut_two (z : Str) {k : Int} (h0 : 0 ≤ k) (h1 : k < z.length) : (cutS z none (some k)).length + (cutS z (some (k + 1)) none).length + 1 = z.length := by
  have e1 : HT.sIx z.length z.length (some k) = k.toNat := by
    have := HT.sIx_nat z.length z.length k.toNat
    rw [Int.toNat_of_nonneg h0] at this
    rw [this]; omega
  have e2 : HT.sIx z.length 0 (some (k + 1)) = k.toNat + 1 := by
    have := HT.sIx_nat z.length 0 (k.toNat + 1)
    rw [show ((k.toNat + 1 : Nat) : Int) = k + 1 by omega] at this
    rw [this]; omega
  show (List.toArray _).size + (List.toArray _).size + 1 = _
  rw [List.size_toArray, List.size_toArray, List.length_take, List.length_take, List.length_drop, List.length_drop, Array.length_toList, e1, e2, HT.sIx_none, HT.sIx_none]
  show min (k.toNat - 0) (z.length - 0) + min (z.length - (k.toNat + 1)) (z.length - (k.toNat + 1)) + 1 = z.length
  omega
def top (i : Nat) : Stmt := PySem.Challenge.pw_windowrows_k36_frames_refused.main.body.getD i (.Pass ⟨0, 0, 0, 0⟩)
abbrev s_TurnedStretch___init__ : Stmt := inClass (top 3) 0
theorem sc_TurnedStretch___init__ : FnScope ["self", "low", "high"] ["self", "low", "high"] (defScope s_TurnedStretch___init__) := ⟨rfl, rfl, rfl, by decide +kernel, rfl, by decide +kernel, by decide +kernel⟩
abbrev s_BadFrame___init__ : Stmt := inClass (top 4) 0
theorem sc_BadFrame___init__ : FnScope ["self", "word"] ["self", "word"] (defScope s_BadFrame___init__) := ⟨rfl, rfl, rfl, by decide +kernel, rfl, by decide +kernel, by decide +kernel⟩
abbrev s_turned_ends : Stmt := top 8
theorem sc_turned_ends : FnScope ["start", "end"] ["start", "end"] (defScope s_turned_ends) := ⟨rfl, rfl, rfl, by decide +kernel, rfl, by decide +kernel, by decide +kernel⟩
abbrev s_Frame___init__ : Stmt := inClass (top 9) 0
theorem sc_Frame___init__ : FnScope ["self", "unit", "start", "end", "without"] ["self", "unit", "start", "end", "without"] (defScope s_Frame___init__) := ⟨rfl, rfl, rfl, by decide +kernel, rfl, by decide +kernel, by decide +kernel⟩
abbrev s__law_begin : Stmt := top 11
theorem sc__law_begin : FnScope ["_law_script", "_law_cells", "_law_cell"] ["_law_script"] (defScope s__law_begin) := ⟨rfl, rfl, rfl, by decide +kernel, rfl, by decide +kernel, by decide +kernel⟩
abbrev s__law_draw : Stmt := top 12
theorem sc__law_draw : FnScope ["_law_draws", "_law_many", "_law_turn", "_law_at", "_law_cell", "_law_got", "_law_first", "_law_salt", "_law_second", "_law_mixed", "_law_third"] ["_law_draws", "_law_many"] (defScope s__law_draw) := ⟨rfl, rfl, rfl, by decide +kernel, rfl, by decide +kernel, by decide +kernel⟩
abbrev s__law_end : Stmt := top 13
theorem sc__law_end : FnScope ["_law_draws", "_law_word_here", "_law_way", "_law_wide"] ["_law_draws", "_law_word_here"] (defScope s__law_end) := ⟨rfl, rfl, rfl, by decide +kernel, rfl, by decide +kernel, by decide +kernel⟩
abbrev s__law_word : Stmt := top 14
theorem sc__law_word : FnScope ["_law_draws", "_law_words", "_law_way", "_law_odd", "_law_letters", "_law_word_here", "_law_spot", "_law_k"] ["_law_draws", "_law_words"] (defScope s__law_word) := ⟨rfl, rfl, rfl, by decide +kernel, rfl, by decide +kernel, by decide +kernel⟩
abbrev s__law_made : Stmt := top 15
theorem sc__law_made : FnScope ["_law_four", "_law_told", "error"] ["_law_four"] (defScope s__law_made) := ⟨rfl, rfl, rfl, by decide +kernel, rfl, by decide +kernel, by decide +kernel⟩
abbrev s__law_base : Stmt := top 16
theorem sc__law_base : FnScope ["_law_four", "_law_told", "error"] ["_law_four"] (defScope s__law_base) := ⟨rfl, rfl, rfl, by decide +kernel, rfl, by decide +kernel, by decide +kernel⟩
abbrev s__law_due : Stmt := top 17
theorem sc__law_due : FnScope ["_law_four"] ["_law_four"] (defScope s__law_due) := ⟨rfl, rfl, rfl, by decide +kernel, rfl, by decide +kernel, by decide +kernel⟩
abbrev s_law : Stmt := top 18
theorem sc_law : FnScope ["_law_script", "_law_draws", "_law_fours", "_law_k", "_law_unit", "_law_word_here", "_law_four", "_law_due_here"] ["_law_script"] (defScope s_law) := ⟨rfl, rfl, rfl, by decide +kernel, rfl, by decide +kernel, by decide +kernel⟩
structure Txt (K : PySem.W.Frag) (mg : Str → Option Value) where
  f_TurnedStretch___init__ : Addr
  d_TurnedStretch___init__ : FuncData
  F_TurnedStretch___init__ : Fun K "__init__" "TurnedStretch.__init__" s_TurnedStretch___init__ f_TurnedStretch___init__ d_TurnedStretch___init__
  b_TurnedStretch___init__ : Binds K d_TurnedStretch___init__ ["self", "low", "high"] []
  f_BadFrame___init__ : Addr
  d_BadFrame___init__ : FuncData
  F_BadFrame___init__ : Fun K "__init__" "BadFrame.__init__" s_BadFrame___init__ f_BadFrame___init__ d_BadFrame___init__
  b_BadFrame___init__ : Binds K d_BadFrame___init__ ["self", "word"] []
  f_turned_ends : Addr
  d_turned_ends : FuncData
  F_turned_ends : Fun K "turned_ends" "turned_ends" s_turned_ends f_turned_ends d_turned_ends
  b_turned_ends : Binds K d_turned_ends ["start", "end"] []
  g_turned_ends : mg "turned_ends" = some (.ref f_turned_ends)
  f_Frame___init__ : Addr
  d_Frame___init__ : FuncData
  F_Frame___init__ : Fun K "__init__" "Frame.__init__" s_Frame___init__ f_Frame___init__ d_Frame___init__
  kn_Frame___init__ : KBn K d_Frame___init__ ["self", "unit", "start", "end", "without"] 4 ["without"] (fun us ws => us ++ ws) (fun vs zs => vs ++ zs)
  f__law_begin : Addr
  d__law_begin : FuncData
  F__law_begin : Fun K "_law_begin" "_law_begin" s__law_begin f__law_begin d__law_begin
  b__law_begin : Binds K d__law_begin ["_law_script"] []
  g__law_begin : mg "_law_begin" = some (.ref f__law_begin)
  f__law_draw : Addr
  d__law_draw : FuncData
  F__law_draw : Fun K "_law_draw" "_law_draw" s__law_draw f__law_draw d__law_draw
  b__law_draw : Binds K d__law_draw ["_law_draws", "_law_many"] []
  g__law_draw : mg "_law_draw" = some (.ref f__law_draw)
  f__law_end : Addr
  d__law_end : FuncData
  F__law_end : Fun K "_law_end" "_law_end" s__law_end f__law_end d__law_end
  b__law_end : Binds K d__law_end ["_law_draws", "_law_word_here"] []
  g__law_end : mg "_law_end" = some (.ref f__law_end)
  f__law_word : Addr
  d__law_word : FuncData
  F__law_word : Fun K "_law_word" "_law_word" s__law_word f__law_word d__law_word
  b__law_word : Binds K d__law_word ["_law_draws", "_law_words"] []
  g__law_word : mg "_law_word" = some (.ref f__law_word)
  f__law_made : Addr
  d__law_made : FuncData
  F__law_made : Fun K "_law_made" "_law_made" s__law_made f__law_made d__law_made
  b__law_made : Binds K d__law_made ["_law_four"] []
  g__law_made : mg "_law_made" = some (.ref f__law_made)
  f__law_base : Addr
  d__law_base : FuncData
  F__law_base : Fun K "_law_base" "_law_base" s__law_base f__law_base d__law_base
  b__law_base : Binds K d__law_base ["_law_four"] []
  g__law_base : mg "_law_base" = some (.ref f__law_base)
  f__law_due : Addr
  d__law_due : FuncData
  F__law_due : Fun K "_law_due" "_law_due" s__law_due f__law_due d__law_due
  b__law_due : Binds K d__law_due ["_law_four"] []
  g__law_due : mg "_law_due" = some (.ref f__law_due)
  f_law : Addr
  d_law : FuncData
  F_law : Fun K "law" "law" s_law f_law d_law
  b_law : Binds K d_law ["_law_script"] []
  g_law : mg "law" = some (.ref f_law)
  z_ValueError : mg "ValueError" = none
  z_abs : mg "abs" = none
  z_int : mg "int" = none
  z_isinstance : mg "isinstance" = none
  z_len : mg "len" = none
  z_list : mg "list" = none
  z_range : mg "range" = none
  C_WindowError : Addr
  C_TurnedStretch : Addr
  C_BadFrame : Addr
  C_Frame : Addr
  g_WindowError : mg "WindowError" = some (.ref C_WindowError)
  g_TurnedStretch : mg "TurnedStretch" = some (.ref C_TurnedStretch)
  ox_TurnedStretch : OexC K C_TurnedStretch
  xf_TurnedStretch : XfC K C_TurnedStretch
  iC_TurnedStretch : PySem.W.findIn K (.ref C_TurnedStretch) "__init__" = some (some (.ref f_TurnedStretch___init__))
  tI_TurnedStretch : PySem.W.typeIn K (.ref f_TurnedStretch___init__) = some (.type "function")
  nf_TurnedStretch_low : PySem.W.findIn K (.ref C_TurnedStretch) "low" = some none
  nf_TurnedStretch_high : PySem.W.findIn K (.ref C_TurnedStretch) "high" = some none
  ec_TurnedStretch : ExcC K C_TurnedStretch
  ke_TurnedStretch_WindowError : PySem.W.kitOne K (.ref C_TurnedStretch) (.ref C_WindowError) = some true
  ke_TurnedStretch_BadFrame : PySem.W.kitOne K (.ref C_TurnedStretch) (.ref C_BadFrame) = some false
  ke_TurnedStretch_ValueError : PySem.W.kitOne K (.ref C_TurnedStretch) (.type "ValueError") = some true
  em_TurnedStretch_BadFrame : PySem.W.exmOne K (.ref C_TurnedStretch) (.ref C_BadFrame) = some false
  em_TurnedStretch_TurnedStretch : PySem.W.exmOne K (.ref C_TurnedStretch) (.ref C_TurnedStretch) = some true
  is_TurnedStretch_TurnedStretch : PySem.W.isIn K (.ref C_TurnedStretch) C_TurnedStretch = true
  em_TurnedStretch_WindowError : PySem.W.exmOne K (.ref C_TurnedStretch) (.ref C_WindowError) = some true
  is_TurnedStretch_WindowError : PySem.W.isIn K (.ref C_TurnedStretch) C_WindowError = true
  g_BadFrame : mg "BadFrame" = some (.ref C_BadFrame)
  ox_BadFrame : OexC K C_BadFrame
  xf_BadFrame : XfC K C_BadFrame
  iC_BadFrame : PySem.W.findIn K (.ref C_BadFrame) "__init__" = some (some (.ref f_BadFrame___init__))
  tI_BadFrame : PySem.W.typeIn K (.ref f_BadFrame___init__) = some (.type "function")
  nf_BadFrame_word : PySem.W.findIn K (.ref C_BadFrame) "word" = some none
  ec_BadFrame : ExcC K C_BadFrame
  ke_BadFrame_WindowError : PySem.W.kitOne K (.ref C_BadFrame) (.ref C_WindowError) = some true
  ke_BadFrame_TurnedStretch : PySem.W.kitOne K (.ref C_BadFrame) (.ref C_TurnedStretch) = some false
  ke_BadFrame_ValueError : PySem.W.kitOne K (.ref C_BadFrame) (.type "ValueError") = some true
  em_BadFrame_BadFrame : PySem.W.exmOne K (.ref C_BadFrame) (.ref C_BadFrame) = some true
  is_BadFrame_BadFrame : PySem.W.isIn K (.ref C_BadFrame) C_BadFrame = true
  em_BadFrame_WindowError : PySem.W.exmOne K (.ref C_BadFrame) (.ref C_WindowError) = some true
  is_BadFrame_WindowError : PySem.W.isIn K (.ref C_BadFrame) C_WindowError = true
  g_Frame : mg "Frame" = some (.ref C_Frame)
  c_Frame : Cls K C_Frame
  m_Frame : Mk K C_Frame f_Frame___init__
  nf_Frame_unit : NoAttr K C_Frame "unit"
  nf_Frame_start : NoAttr K C_Frame "start"
  nf_Frame_end : NoAttr K C_Frame "end"
  nf_Frame_without : NoAttr K C_Frame "without"
  ca_Frame : PySem.W.findIn K (.ref C_Frame) "__class__" = some (some (.builtin "object.__class__"))
  cn_Frame : PySem.W.specialIn K (.builtin "object.__class__") "__get__" = some (some (.builtin "getset_descriptor.__get__"))
  ct_Frame : PySem.W.takesIn K (.builtin "object.__class__") = some true
  cm_Frame : PySem.W.mroIn K C_Frame (.type "object") = some true
  a_UNITS : Addr
  g_UNITS : mg "UNITS" = some (.ref a_UNITS)
  q_UNITS : ∀ H, SqT K H a_UNITS [V.str "rows", V.str "groups", V.str "keys"]
  y_UNITS : ∀ H, tyV K "tuple" (.ref a_UNITS) H
  a_LEFT_OUT : Addr
  g_LEFT_OUT : mg "LEFT_OUT" = some (.ref a_LEFT_OUT)
  q_LEFT_OUT : ∀ H, SqT K H a_LEFT_OUT [V.str "nothing", V.str "current", V.str "group", V.str "ties"]
  y_LEFT_OUT : ∀ H, tyV K "tuple" (.ref a_LEFT_OUT) H

def unitL : List V := [V.str "rows", V.str "groups", V.str "keys"]
def leftL : List V := [V.str "nothing", V.str "current", V.str "group", V.str "ties"]
def unitB (u : Str) : Bool := inV (.str u) unitL
def leftB (w : Str) : Bool := inV (.str w) leftL
def frmF (u : Str) (lo hi : Option Int) (w : Str) : List (Str × V) := putF "without" (.str w) (putF "end" (endV hi) (putF "start" (endV lo) (putF "unit" (.str u) [])))
theorem frm_unit (u : Str) (lo hi : Option Int) (w : Str) : (frmF u lo hi w).lookup ("unit" : Str) = some (.str u) := by
  unfold frmF
  rw [lookup_putF, if_neg (by decide +kernel), lookup_putF, if_neg (by decide +kernel), lookup_putF, if_neg (by decide +kernel), lookup_putF, if_pos rfl]
theorem frm_start (u : Str) (lo hi : Option Int) (w : Str) : (frmF u lo hi w).lookup ("start" : Str) = some (endV lo) := by
  unfold frmF
  rw [lookup_putF, if_neg (by decide +kernel), lookup_putF, if_neg (by decide +kernel), lookup_putF, if_pos rfl]
theorem frm_end (u : Str) (lo hi : Option Int) (w : Str) : (frmF u lo hi w).lookup ("end" : Str) = some (endV hi) := by
  unfold frmF
  rw [lookup_putF, if_neg (by decide +kernel), lookup_putF, if_pos rfl]
theorem frm_without (u : Str) (lo hi : Option Int) (w : Str) : (frmF u lo hi w).lookup ("without" : Str) = some (.str w) := by
  unfold frmF
  rw [lookup_putF, if_pos rfl]
theorem frm_no (u : Str) (lo hi : Option Int) (w : Str) {m : Str} (h1 : ¬ m = "without") (h2 : ¬ m = "end") (h3 : ¬ m = "start") (h4 : ¬ m = "unit") : (frmF u lo hi w).lookup m = none := by
  unfold frmF
  rw [lookup_putF, if_neg h1, lookup_putF, if_neg h2, lookup_putF, if_neg h3, lookup_putF, if_neg h4]
  rfl
def FrmAt (C : Addr) (H : Hp) (p : Addr) (u : Str) (lo hi : Option Int) (w : Str) : Prop := ∃ dx, H p = some (.ins C dx (frmF u lo hi w))
theorem FrmAt.same {C : Addr} {H H' : Hp} {p : Addr} {u : Str} {lo hi : Option Int} {w : Str} (h : FrmAt C H p u lo hi w) (s : Same H H') : FrmAt C H' p u lo hi w := by
  obtain ⟨dx, e⟩ := h
  exact ⟨dx, s _ _ e⟩
def spBInit (C : Addr) : Sp := fun vs H Q _ => ∃ (a : Addr) (z : Str), vs = [.ref a, .str z] ∧ H a = some (exo a C none) ∧
  ∀ (dx : Addr) (H' : Hp), H dx = none → H' a = some (exo a C (some dx)) → H' dx = some (exd dx [("word", .str z)]) → (∀ b o, H b = some o → b ≠ a → H' b = some o) → Q .non H'
def spTurned : Sp := fun vs H Q _ => ∃ (lo hi : Option Int), vs = [endV lo, endV hi] ∧ Q (.bl (turnedB lo hi)) H
def spFInit (C CB CT : Addr) : Sp := fun vs H Q E => ∃ (p dx : Addr) (u : Str) (lo hi : Option Int) (w : Str), vs = [.ref p, .str u, endV lo, endV hi, .str w] ∧ H p = some (.ins C dx []) ∧
  (unitB u = false → ∀ (d : Addr) (H' : Hp), H d = none → H' d = some (.xd [("word", .str u)]) → Same H H' → E (.ref CB) (some d) H') ∧
  (unitB u = true → leftB w = false → ∀ (d : Addr) (H' : Hp), H d = none → H' d = some (.xd [("word", .str w)]) → Same H H' → E (.ref CB) (some d) H') ∧
  (unitB u = true → leftB w = true → turnedB lo hi = true → ∀ (d : Addr) (H' : Hp), H d = none → H' d = some (.xd (turnF lo hi)) → Same H H' → E (.ref CT) (some d) H') ∧
  (unitB u = true → leftB w = true → turnedB lo hi = false → ∀ H', FrmAt C H' p u lo hi w → (∀ b o, H b = some o → b ≠ p → H' b = some o) → Q .non H')
def frmEqB (u : Str) (lo hi : Option Int) (w : Str) (u' : Str) (lo' hi' : Option Int) (w' : Str) : Bool := decide (u = u' ∧ lo = lo' ∧ hi = hi' ∧ w = w')
def spFEq (K : PySem.W.Frag) (C : Addr) : Sp := fun vs H Q _ => ∃ (p : Addr) (u : Str) (lo hi : Option Int) (w : Str) (v : V), vs = [.ref p, v] ∧ FrmAt C H p u lo hi w ∧
  ((∃ (q : Addr) (u' : Str) (lo' hi' : Option Int) (w' : Str), v = .ref q ∧ FrmAt C H q u' lo' hi' w' ∧ Q (.bl (frmEqB u lo hi w u' lo' hi' w')) H) ∨
   (∃ t, TyX K H v t ∧ PySem.W.kitOne K t (.ref C) = some false ∧ Q (.bl false) H))
local macro_rules | `(tactic| wtm_at "rd1") => `(tactic| with_reducible first
  | refine r_seq ?_ | refine r_next ?_ | refine r_asg ?_ | refine r_drop ?_ | refine r_ret ?_ | refine r_ifs ?_ | refine r_gname ?_ | refine r_gsub ?_ | refine r_gcons ?_ | refine r_gnil ?_
  | refine r_var rfl ?_ | refine r_c ?_ | refine r_op ?_ | refine r_un ?_ | refine r_I0 ?_ | refine r_U ?_ | refine r_test ?_ | refine r_tB ?_ | refine r_bl ?_
  | refine r_and ?_ | refine r_or ?_ | refine r_not ?_ | refine r_andV ?_ | refine r_orV ?_ | refine r_notV ?_ | refine r_ife ?_
  | refine r_eqI ?_ | refine r_neI ?_ | refine r_eqB ?_ | refine r_neB ?_ | refine r_eqS ?_ | refine r_neS ?_
  | refine r_nil ?_ | refine r_cons ?_ | refine r_cb ?_ | refine r_call ?_ | refine r_lst ?_ | refine r_tup ?_ | refine r_int1 ?_ | refine r_intB ?_ | refine r_abs1 ?_ | refine r_bm ?_ | refine r_sl ?_ | refine r_np ?_ | refine r_pt ?_ | refine r_pti ?_ | refine r_lc ?_ | refine r_il ?_ | refine r_it ?_ | refine r_rng1 ?_ | refine r_rng2 ?_ | refine r_callN ?_ | refine r_fld ?_ | refine r_sfld ?_ | refine r_meth ?_ | refine r_make ?_ | refine r_aug rfl ?_ | refine r_ipI ?_ | refine r_par ?_ | refine r_par3 ?_ | refine r_two ?_ | refine r_three ?_)
local macro_rules | `(tactic| wtm_at "ixs") => `(tactic| first
  | ((with_reducible show rIxL _ (V.ref _) (V.int _) _ _); refine r_ixL (.inl (.inl (by assumption))) (by first | rfl | exact ati_n (by omega) | exact ati_int (by omega) (by omega)) ?_)
  | ((with_reducible show rIxT _ (V.ref _) (V.int _) _ _); refine r_ixT (.inl (.inl (by assumption))) (by first | rfl | exact ati_n (by omega) | exact ati_int (by omega) (by omega)) ?_))
local macro_rules | `(tactic| wtm_at "rd") => `(tactic| repeat first | wtm_at "rd1" | wtm_at "ixs")
local macro_rules | `(tactic| wtm_at "rdi") => `(tactic| repeat' (first | wtm_at "rd1" | wtm_at "ixs" | with_reducible refine iteT ?_ | with_reducible refine iteF ?_ | with_reducible refine iteNT ?_ | with_reducible refine iteNF ?_ | with_reducible refine r_ite (fun _ => ?_) (fun _ => ?_) | with_reducible refine r_iten (fun _ => ?_) (fun _ => ?_)))
local macro_rules | `(tactic| wtm_at "rd1") => `(tactic| with_reducible first
  | refine r_binS ?_ | refine r_makeS ?_ | refine r_makeKS ?_ | refine r_xf ?_ | refine r_ost ?_ | refine r_isNi ?_ | refine r_isNn ?_ | refine r_isNr ?_ | refine r_notNi ?_ | refine r_notNn ?_ | refine r_notNr ?_ | refine r_isNe ?_ | refine r_notNe ?_)
local macro_rules | `(tactic| wtm_at "rd1") => `(tactic| with_reducible refine r_makeN ?_)
local macro_rules | `(tactic| wtm_at "rd1") => `(tactic| with_reducible refine r_makeNS ?_)
section
variable {P : Program} {w : World} {K : PySem.W.Frag} {mg : Str → Option Value} {base : Heap}
theorem ok__law_draw (T : Txt K mg) : FnOk P w K mg base CX0 1 T.f__law_draw T.d__law_draw ["_law_draws", "_law_many"] spDraw := by
  refine T.F__law_draw.ok sc__law_draw (fun vs H Q E h => ?_) (fun cdv A outer s H vs Q E hr h => ?_)
  · obtain ⟨d, c, r, m, rfl, _⟩ := h
    rfl
  · obtain ⟨d, c, r, m, rfl, D, m0, m1, q⟩ := h
    obtain ⟨dc, dr, cr, ns, rs, t, h1, h2, h3, hl, hp, ht, hn⟩ := D
    refine ⟨_, (pss_cons (ps_set (i := 2) sc__law_draw.nd rfl (by first | exact Or.inl rfl | exact Or.inr rfl) (pe_ix (r := rIxL K) ix_list (pv 0) pe_int (fun _ _ => rfl)))
      (pss_cons (ps_asg (pe_op op_add (pv 2) pe_int) (pg_sub (pv 0) pe_int set_list))
      (pss_cons (ps_set (i := 3) sc__law_draw.nd rfl (by first | exact Or.inl rfl | exact Or.inr rfl) (pe_op op_mod (pe_callTy c_int1 (by rfl) T.z_int (by decide +kernel) (pa_cons (pv 2) pa_nil)) (pe_callB (r := rLenL K) (id := "len") c_len (by rfl) T.z_len (by decide +kernel) (pa_cons (pe_ix (r := rIxL K) ix_list (pv 0) pe_int (fun _ _ => rfl)) pa_nil))))
      (pss_cons (ps_set (i := 4) sc__law_draw.nd rfl (by first | exact Or.inl rfl | exact Or.inr rfl) (pe_ix (r := rIxL K) ix_list (pe_ix (r := rIxL K) ix_list (pv 0) pe_int (fun _ _ => rfl)) (pv 3) (fun _ _ => rfl)))
      (pss_cons (ps_if (pt_cmpR op_gt (pe_ix (r := rIxL K) ix_list (pe_ix (r := rIxL K) ix_list (pv 0) pe_int (fun _ _ => rfl)) (pv 3) (fun _ _ => rfl)) pe_int (nomark _)) (pss_cons (ps_set (i := 5) sc__law_draw.nd rfl (by first | exact Or.inl rfl | exact Or.inr rfl) (pe_op op_mod (pe_callTy c_int1 (by rfl) T.z_int (by decide +kernel) (pa_cons (pe_ix (r := rIxL K) ix_list (pe_ix (r := rIxL K) ix_list (pv 0) pe_int (fun _ _ => rfl)) (pv 3) (fun _ _ => rfl)) pa_nil)) (pv 1)))
      (pss_cons (ps_asg (pe_op op_fdivW (pe_ix (r := rIxL K) ix_list (pe_ix (r := rIxL K) ix_list (pv 0) pe_int (fun _ _ => rfl)) (pv 3) (fun _ _ => rfl)) (pv 1)) (pg_sub (pe_ix (r := rIxL K) ix_list (pv 0) pe_int (fun _ _ => rfl)) (pv 3) set_list))
      (pss_one (ps_ret (pv 5))))) pss_nil)
      (pss_cons (ps_set (i := 6) sc__law_draw.nd rfl (by first | exact Or.inl rfl | exact Or.inr rfl) (pe_op op_mod (pe_callTy c_int1 (by rfl) T.z_int (by decide +kernel) (pa_cons (pe_op op_mul (pe_op op_add (pe_op op_mod (pe_callTy c_int1 (by rfl) T.z_int (by decide +kernel) (pa_cons (pv 4) pa_nil)) pe_int) pe_int) (pe_op op_add (pv 2) pe_int)) pa_nil)) pe_int))
      (pss_cons (ps_set (i := 7) sc__law_draw.nd rfl (by first | exact Or.inl rfl | exact Or.inr rfl) (pe_op op_add (pe_op op_mod (pe_callTy c_int1 (by rfl) T.z_int (by decide +kernel) (pa_cons (pv 4) pa_nil)) pe_int) (pe_op op_mul pe_int (pv 2))))
      (pss_cons (ps_set (i := 8) sc__law_draw.nd rfl (by first | exact Or.inl rfl | exact Or.inr rfl) (pe_op op_mod (pe_callTy c_int1 (by rfl) T.z_int (by decide +kernel) (pa_cons (pe_op op_add (pe_op op_add (pe_op op_mul (pv 6) (pv 6)) (pe_op op_mul pe_int (pv 6))) (pv 7)) pa_nil)) pe_int))
      (pss_cons (ps_set (i := 9) sc__law_draw.nd rfl (by first | exact Or.inl rfl | exact Or.inr rfl) (pe_op op_add (pe_op op_mul (pe_op op_mod (pe_callTy c_int1 (by rfl) T.z_int (by decide +kernel) (pa_cons (pv 8) pa_nil)) pe_int) pe_int) (pe_op op_mul (pe_op op_fdivW (pv 8) pe_int) pe_int)))
      (pss_cons (ps_set (i := 10) sc__law_draw.nd rfl (by first | exact Or.inl rfl | exact Or.inr rfl) (pe_op op_mod (pe_callTy c_int1 (by rfl) T.z_int (by decide +kernel) (pa_cons (pe_op op_add (pv 9) (pv 6)) pa_nil)) pe_int))
      (pss_cons (ps_if (pt_cmpR op_le (pv 1) pe_int (nomark _)) (pss_one (ps_ret (pe_op op_mod (pe_callTy c_int1 (by rfl) T.z_int (by decide +kernel) (pa_cons (pv 10) pa_nil)) (pv 1)))) pss_nil)
      (pss_one (ps_ret (pe_op op_mod (pe_callTy c_int1 (by rfl) T.z_int (by decide +kernel) (pa_cons (pe_op op_add (pe_op op_mul (pv 10) pe_int) (pv 8)) pa_nil)) (pv 1))))))))))))))), ?_⟩
    try simp only [nox_K, cx_K]
    wtm_at "rd"
    refine r_setL (n := 2) h1 rfl ?_
    have g1 : (upd H d (.lst ([.ref c, .ref r, .int t].set 2 (.int (t + 1))))) d = some (.lst [.ref c, .ref r, .int (t + 1)]) := upd_same
    have g2 : (upd H d (.lst ([.ref c, .ref r, .int t].set 2 (.int (t + 1))))) c = some (.lst (ns.map V.int)) := (upd_ne dc.symm).trans h2
    have g3 : (upd H d (.lst ([.ref c, .ref r, .int t].set 2 (.int (t + 1))))) r = some (.lst (rs.map V.int)) := (upd_ne dr.symm).trans h3
    have e1 : Ext d r H (upd H d (.lst ([.ref c, .ref r, .int t].set 2 (.int (t + 1))))) := fun b o e n1 n2 => (upd_ne n1).trans e
    revert g1 g2 g3 e1
    generalize (upd H d (.lst ([.ref c, .ref r, .int t].set 2 (.int (t + 1))))) = H1
    intro g1 g2 g3 e1
    wtm_at "rd"
    refine r_lenI g2 ?_
    refine r_mod (by omega) fun at_ a0 a1 _ => ?_
    wtm_at "rd"
    refine r_ite (fun c1 => ?_) (fun c1 => ?_)
    · wtm_at "rd"
      refine r_mod m0 fun k k0 k1 _ => ?_
      wtm_at "rd"
      refine r_fdiv m0 m1 fun z z0 _ => ?_
      wtm_at "rd"
      refine r_setL g3 (ixn_in a0 (by rw [List.length_map]; omega)) ?_
      wtm_at "rd"
      refine q k _ k0 k1 ⟨dc, dr, cr, ns, rs.set at_.toNat z, t + 1, (upd_ne dr).trans g1, (upd_ne cr).trans g2, ?_, ?_, hp, by omega, ?_⟩ (fun b o e n1 n2 => (upd_ne n2).trans (e1 b o e n1 n2))
      · rw [upd_same, List.map_set]
      · rw [List.length_set]; exact hl
      · intro x hx
        rcases List.mem_or_eq_of_mem_set hx with e | e
        · exact hn x e
        · rw [e]; exact z0 (by omega)
    · wtm_at "rd"
      refine r_mod (by decide) fun x1 l1 u1 _ => ?_
      wtm_at "rd"
      refine r_mul (.inl ⟨by omega, by omega⟩) fun x2 _ => ?_
      wtm_at "rd"
      refine r_mod (by decide) fun first f0 f1 _ => ?_
      wtm_at "rd"
      refine r_mod (by decide) fun x3 l3 u3 _ => ?_
      wtm_at "rd"
      refine r_mul (.inl ⟨by omega, by omega⟩) fun x4 _ => ?_
      wtm_at "rd"
      refine r_mul (.inl ⟨by omega, by omega⟩) fun x5 _ => ?_
      wtm_at "rd"
      refine r_mul (.inl ⟨by omega, by omega⟩) fun x6 _ => ?_
      wtm_at "rd"
      refine r_mod (by decide) fun second s0 s1 _ => ?_
      wtm_at "rd"
      refine r_mod (by decide) fun x7 l7 u7 _ => ?_
      wtm_at "rd"
      refine r_mul (.inl ⟨by omega, by omega⟩) fun x8 _ => ?_
      wtm_at "rd"
      refine r_fdiv (by decide) (by decide) fun x9 _ _ => ?_
      wtm_at "rd"
      refine r_mul (.inr ⟨by omega, by omega⟩) fun x10 _ => ?_
      wtm_at "rd"
      refine r_mod (by decide) fun third t0 t1 _ => ?_
      wtm_at "rd"
      refine r_ite (fun c2 => ?_) (fun c2 => ?_)
      · wtm_at "rd"
        refine r_mod m0 fun k k0 k1 _ => ?_
        exact q k _ k0 k1 ⟨dc, dr, cr, ns, rs, t + 1, g1, g2, g3, hl, hp, by omega, hn⟩ e1
      · wtm_at "rd"
        refine r_mul (.inl ⟨by omega, by omega⟩) fun x11 _ => ?_
        wtm_at "rd"
        refine r_mod m0 fun k k0 k1 _ => ?_
        exact q k _ k0 k1 ⟨dc, dr, cr, ns, rs, t + 1, g1, g2, g3, hl, hp, by omega, hn⟩ e1
theorem ok__law_begin (T : Txt K mg) : FnOk P w K mg base CX0 1 T.f__law_begin T.d__law_begin ["_law_script"] (spBegin K) := by
  refine T.F__law_begin.ok sc__law_begin (fun vs H Q E h => ?_) (fun cdv A outer s H vs Q E hr h => ?_)
  · obtain ⟨a, ns, rfl, _⟩ := h
    rfl
  obtain ⟨a, ns, rfl, hS, hlen, q⟩ := h
  refine ⟨_, (pss_cons (ps_setLc (i := 1) (own := [("_law_cell", 2)]) (g := gName 2) (tt := tYes) rfl sc__law_begin.nd rfl rfl (sw_true rfl rfl rfl (by decide +kernel)) (pi_list (pe_slice sl_list (pv 0) po_none (po_some pe_int))) (blkOk_by (N := ["_law_script", "_law_cells", "_law_cell"]) (sc := defScope s__law_begin) (by decide +kernel)) (fun _ _ _ _ _ => pg_name (i := 2) sc__law_begin.nd rfl (by first | exact Or.inl rfl | exact Or.inr rfl)) (fun _ _ _ _ _ => pts_nil) (fun _ _ _ _ _ => (pe_callTy c_int1 (by rfl) T.z_int (by decide +kernel) (pa_cons (pv 2) pa_nil))))
      (C8.pss_cut (ps_if (pt_cmpR op_eq (pe_callB (r := rLenL K) (id := "len") c_len (by rfl) T.z_len (by decide +kernel) (pa_cons (pv 1) pa_nil)) pe_int (nomark _)) (pss_one (ps_set (i := 1) sc__law_begin.nd rfl (by first | exact Or.inl rfl | exact Or.inr rfl) (pe_lst (pa_cons pe_int pa_nil)))) pss_nil)
      (pss_one (ps_ret (pe_lst (pa_cons (pv 1) (pa_cons (pe_lc (own := [("_law_cell", 2)]) (g := gName 2) (tt := tYes) rfl sc__law_begin.nd (pi_list (pv 1)) (blkOk_by (N := ["_law_script", "_law_cells", "_law_cell"]) (sc := defScope s__law_begin) (by decide +kernel)) (fun _ _ _ _ _ => pg_name (i := 2) sc__law_begin.nd rfl (by first | exact Or.inl rfl | exact Or.inr rfl)) (fun _ _ _ _ _ => pts_nil) (fun _ _ _ _ _ => (pe_op op_mul (pe_callB c_abs (by rfl) T.z_abs (by decide +kernel) (pa_cons (pv 2) pa_nil)) (pe_callTy c_intB (by rfl) T.z_int (by decide +kernel) (pa_cons (pe_cmpR op_ge (pe_callB c_abs (by rfl) T.z_abs (by decide +kernel) (pa_cons (pv 2) pa_nil)) (pe_op op_pow pe_int pe_int) (nomark _)) pa_nil))))) (pa_cons pe_int pa_nil)))))))), ?_⟩
  try simp only [nox_K, cx_K]
  wtm_at "rd"
  refine r_slL hS fun p np => ?_
  have s1 : Same H (upd H p (.lst (cutV (ns.map V.int) none (some 63)))) := same_new np
  have e0 : cutV (ns.map V.int) none (some 63) = ns.map V.int := cut_none (n := 63) (by rw [List.length_map]; exact hlen)
  rw [e0] at s1 ⊢
  have hp : (upd H p (.lst (ns.map V.int))) p = some (.lst (ns.map V.int)) := upd_same
  refine r_itl (SqL.of hp) ?_
  refine lc_map (fun x => x) (SqL.of hp) (by rw [List.length_map]; omega) (fun x H' QQ hx s' hQ => ?_) (fun c nc => ?_)
  · obtain ⟨y, _, rfl⟩ := List.mem_map.mp hx
    wtm_at "rd"
    exact hQ
  have s2 := s1.trans (same_new (o := .lst ((ns.map V.int).map fun x => x)) nc)
  have hc : (upd (upd H p (.lst (ns.map V.int))) c (.lst ((ns.map V.int).map fun x => x))) c = some (.lst (ns.map V.int)) := by rw [upd_same, List.map_id']
  revert s2 hc
  generalize (upd (upd H p (.lst (ns.map V.int))) c (.lst ((ns.map V.int).map fun x => x))) = H2
  intro s2 hc
  wtm_at "rd"
  refine ⟨fun σ H1 => ∃ (c : Addr) (ms : List Int) (x3 : Option V), σ = [some (.ref a), some (.ref c), x3] ∧ H1 c = some (.lst (ms.map V.int)) ∧ 0 < ms.length ∧ ms.length ≤ 63 ∧ Same H H1 ∧ H c = none, ?_, ?_⟩
  · wtm_at "rd"
    refine r_lenI hc ?_
    wtm_at "rd"
    refine r_ite (fun e => ?_) (fun e => ?_)
    · wtm_at "rd"
      refine r_new rfl fun c2 nc2 => ?_
      wtm_at "rd"
      exact ⟨c2, [0], _, rfl, upd_same, by decide, by decide, s2.trans (same_new nc2), s2.free nc2⟩
    · wtm_at "rd"
      exact ⟨c, ns, _, rfl, hc, by omega, hlen, s2, s1.free nc⟩
  rintro σ H1 ⟨c, ms, x3, rfl, hc, h0, h63, s1, nc⟩
  wtm_at "rd"
  refine r_itl (SqL.of hc) ?_
  refine lc_map restOf (SqL.of hc) (by rw [List.length_map]; omega) (fun x H' QQ hx s' hQ => ?_) (fun r nr => ?_)
  · obtain ⟨y, _, rfl⟩ := List.mem_map.mp hx
    wtm_at "rd"
    refine r_I ⟨by decide, by decide, by decide⟩ ?_
    wtm_at "rd"
    exact r_I (.inr bit_ok) hQ
  have s2 : Same H1 (upd H1 r (.lst ((ms.map V.int).map restOf))) := same_new nr
  wtm_at "rd"
  refine r_new rfl fun d nd => ?_
  have hd : H d = none := (s1.trans s2).free nd
  have hcr : c ≠ r := ne_of_none hc nr
  have hdc : d ≠ c := (ne_of_none (s2 _ _ hc) nd).symm
  have hdr : d ≠ r := (ne_of_none (upd_same (H := H1) (a := r)) nd).symm
  refine q d c r _ ⟨hdc, hdr, hcr, ms, ms.map restI, 0, upd_same, ?_, ?_, ?_, h0, by decide, ?_⟩ ((s1.trans s2).trans (same_new nd)) hd nc (s1.free nr)
  · rw [upd_ne hdc.symm]; exact s2 _ _ hc
  · rw [upd_ne hdr.symm, upd_same, rest_map]
  · rw [List.length_map]
  · intro x hx
    obtain ⟨y, _, rfl⟩ := List.mem_map.mp hx
    exact rest_nn y

theorem frm_ty (T : Txt K mg) {H : Hp} {p : Addr} {u w : Str} {lo hi : Option Int} (h : FrmAt T.C_Frame H p u lo hi w) : TyX K H (.ref p) (.ref T.C_Frame) := by
  obtain ⟨dx, e⟩ := h
  exact .base (.ins e T.c_Frame T.ca_Frame T.cn_Frame T.ct_Frame T.cm_Frame)
section
variable {H : Hp} {p : Addr} {u w : Str} {lo hi : Option Int} {F : V → Prop}
theorem r_unit (T : Txt K mg) (o : FrmAt T.C_Frame H p u lo hi w) (h : F (.str u)) : ∃ a C dx fs v, V.ref p = .ref a ∧ H a = some (.ins C dx fs) ∧ Cls K C ∧ NoAttr K C "unit" ∧ fs.lookup ("unit" : Str) = some v ∧ F v := by
  obtain ⟨dx, e⟩ := o
  exact r_get e T.c_Frame T.nf_Frame_unit (frm_unit u lo hi w) h
theorem r_start (T : Txt K mg) (o : FrmAt T.C_Frame H p u lo hi w) (h : F (endV lo)) : ∃ a C dx fs v, V.ref p = .ref a ∧ H a = some (.ins C dx fs) ∧ Cls K C ∧ NoAttr K C "start" ∧ fs.lookup ("start" : Str) = some v ∧ F v := by
  obtain ⟨dx, e⟩ := o
  exact r_get e T.c_Frame T.nf_Frame_start (frm_start u lo hi w) h
theorem r_end (T : Txt K mg) (o : FrmAt T.C_Frame H p u lo hi w) (h : F (endV hi)) : ∃ a C dx fs v, V.ref p = .ref a ∧ H a = some (.ins C dx fs) ∧ Cls K C ∧ NoAttr K C "end" ∧ fs.lookup ("end" : Str) = some v ∧ F v := by
  obtain ⟨dx, e⟩ := o
  exact r_get e T.c_Frame T.nf_Frame_end (frm_end u lo hi w) h
theorem r_without (T : Txt K mg) (o : FrmAt T.C_Frame H p u lo hi w) (h : F (.str w)) : ∃ a C dx fs v, V.ref p = .ref a ∧ H a = some (.ins C dx fs) ∧ Cls K C ∧ NoAttr K C "without" ∧ fs.lookup ("without" : Str) = some v ∧ F v := by
  obtain ⟨dx, e⟩ := o
  exact r_get e T.c_Frame T.nf_Frame_without (frm_without u lo hi w) h
end
theorem raise_turned {C : Addr} {lo hi : Option Int} {H : Hp} {Q : XK} (h : ∀ (d : Addr) (H' : Hp), H d = none → H' d = some (.xd (turnF lo hi)) → Same H H' → Q (.ref C) (some d) H') :
    ∀ a, H a = none → spTInit C (.ref a :: ([endV lo, endV hi] ++ [])) (upd H a (exo a C none)) (fun v H2 => v = .non ∧ ∃ (d : Addr) (fs : List (Str × V)), H2 a = some (exo a C (some d)) ∧ H2 d = some (exd d fs) ∧ H d = none ∧ Q (.ref C) (some d) (upd (del H2 a) d (.xd fs))) (fun _ _ _ => False) := by
  intro a na
  refine ⟨a, lo, hi, rfl, upd_same, fun dx H' nd ha hd hk => ⟨rfl, dx, turnF lo hi, ha, hd, (same_new na).free nd, ?_⟩⟩
  refine h dx _ ((same_new na).free nd) upd_same fun b o e => ?_
  have nb : b ≠ a := ne_of_none e na
  rw [upd_ne (ne_of_none e ((same_new na).free nd)), del_ne nb]
  exact hk b o (by rw [upd_ne nb]; exact e) nb
theorem raise_word {C : Addr} {z : Str} {H : Hp} {Q : XK} (h : ∀ (d : Addr) (H' : Hp), H d = none → H' d = some (.xd [("word", .str z)]) → Same H H' → Q (.ref C) (some d) H') :
    ∀ a, H a = none → spBInit C (.ref a :: ([V.str z] ++ [])) (upd H a (exo a C none)) (fun v H2 => v = .non ∧ ∃ (d : Addr) (fs : List (Str × V)), H2 a = some (exo a C (some d)) ∧ H2 d = some (exd d fs) ∧ H d = none ∧ Q (.ref C) (some d) (upd (del H2 a) d (.xd fs))) (fun _ _ _ => False) := by
  intro a na
  refine ⟨a, z, rfl, upd_same, fun dx H' nd ha hd hk => ⟨rfl, dx, _, ha, hd, (same_new na).free nd, ?_⟩⟩
  refine h dx _ ((same_new na).free nd) upd_same fun b o e => ?_
  have nb : b ≠ a := ne_of_none e na
  rw [upd_ne (ne_of_none e ((same_new na).free nd)), del_ne nb]
  exact hk b o (by rw [upd_ne nb]; exact e) nb
theorem ok_TurnedStretch___init__ (T : Txt K mg) : FnOk P w K mg base CX0 1 T.f_TurnedStretch___init__ T.d_TurnedStretch___init__ ["self", "low", "high"] (spTInit T.C_TurnedStretch) := by
  refine T.F_TurnedStretch___init__.ok sc_TurnedStretch___init__ (fun vs H Q E h => ?_) (fun cdv A outer s H vs Q E hr h => ?_)
  · obtain ⟨a, lo, hi, rfl, _⟩ := h
    rfl
  obtain ⟨a, lo, hi, rfl, ha, q⟩ := h
  refine ⟨_, (pss_cons (ps_ost (pv 0) (pv 1))
      (pss_one (ps_ost (pv 0) (pv 2)))), ?_⟩
  try simp only [nox_K, cx_K]
  wtm_at "rd"
  refine ⟨a, _, rfl, T.ox_TurnedStretch, T.nf_TurnedStretch_low, .inl ⟨ha, fun dx nd ne => ?_⟩⟩
  wtm_at "rd"
  refine ⟨a, _, rfl, T.ox_TurnedStretch, T.nf_TurnedStretch_high, .inr ⟨dx, [("low", endV lo)], upd_same, ?_, Nat.le_of_ble_eq_true rfl, ?_⟩⟩
  · rw [upd_ne ne, upd_same]
  wtm_at "rd"
  refine q dx _ nd ?_ upd_same fun b o e nb => ?_
  · rw [upd_ne ne.symm, upd_same]
  · rw [upd_ne (ne_of_none e nd), upd_ne nb, upd_ne (ne_of_none e nd)]
    exact e
theorem ok_BadFrame___init__ (T : Txt K mg) : FnOk P w K mg base CX0 1 T.f_BadFrame___init__ T.d_BadFrame___init__ ["self", "word"] (spBInit T.C_BadFrame) := by
  refine T.F_BadFrame___init__.ok sc_BadFrame___init__ (fun vs H Q E h => ?_) (fun cdv A outer s H vs Q E hr h => ?_)
  · obtain ⟨a, z, rfl, _⟩ := h
    rfl
  obtain ⟨a, z, rfl, ha, q⟩ := h
  refine ⟨_, (pss_one (ps_ost (pv 0) (pv 1))), ?_⟩
  try simp only [nox_K, cx_K]
  wtm_at "rd"
  refine ⟨a, _, rfl, T.ox_BadFrame, T.nf_BadFrame_word, .inl ⟨ha, fun dx nd ne => ?_⟩⟩
  wtm_at "rd"
  refine q dx _ nd upd_same ?_ fun b o e nb => ?_
  · rw [upd_ne ne, upd_same]
  · rw [upd_ne nb, upd_ne (ne_of_none e nd)]
    exact e
theorem ok_turned_ends (T : Txt K mg) : FnOk P w K mg base CX0 1 T.f_turned_ends T.d_turned_ends ["start", "end"] spTurned := by
  refine T.F_turned_ends.ok sc_turned_ends (fun vs H Q E h => ?_) (fun cdv A outer s H vs Q E hr h => ?_)
  · obtain ⟨lo, hi, rfl, _⟩ := h
    rfl
  obtain ⟨lo, hi, rfl, q⟩ := h
  refine ⟨_, (pss_one (ps_ret (pe_and (pe_cmpR o_notN (pv 0) pe_non (nomark _)) (pe_and (pe_cmpR o_notN (pv 1) pe_non (nomark _)) (pe_one (pe_cmpR op_gt (pv 0) (pv 1) (nomark _))))))), ?_⟩
  try simp only [nox_K, cx_K]
  cases lo <;> cases hi
  all_goals simp only [endV]
  all_goals wtm_at "rdi"
  all_goals exact q
theorem ok_Frame___init__ (T : Txt K mg) : FnOk P w K mg base (L2.CX P w) 4 T.f_Frame___init__ T.d_Frame___init__ ["self", "unit", "start", "end", "without"] (spFInit T.C_Frame T.C_BadFrame T.C_TurnedStretch) := by
  refine T.F_Frame___init__.okX sc_Frame___init__ (fun vs H Q E h => ?_) (fun cdv A outer s H vs Q E hr h => ?_)
  · obtain ⟨p, dx, u, lo, hi, w, rfl, _⟩ := h
    rfl
  obtain ⟨p, dx, u, lo, hi, w, rfl, hp, q1, q2, q3, q⟩ := h
  refine ⟨_, (pss_cons (ps_if (pt_cmpR op_notIn_seq (pv 1) (pe_glob (v := .ref T.a_UNITS) rfl T.g_UNITS rfl) (by rfl)) (pss_one (ps_raise rfl (takes_of rfl rfl rfl rfl) (pmk_oex T.ox_BadFrame T.iC_BadFrame T.tI_BadFrame (ok_BadFrame___init__ T) (hr.mono (by decide)) T.b_BadFrame___init__ .nil pass0 (by rfl) T.g_BadFrame (pa_cons (pv 1) pa_nil)))) pss_nil)
      (pss_cons (ps_if (pt_cmpR op_notIn_seq (pv 4) (pe_glob (v := .ref T.a_LEFT_OUT) rfl T.g_LEFT_OUT rfl) (by rfl)) (pss_one (ps_raise rfl (takes_of rfl rfl rfl rfl) (pmk_oex T.ox_BadFrame T.iC_BadFrame T.tI_BadFrame (ok_BadFrame___init__ T) (hr.mono (by decide)) T.b_BadFrame___init__ .nil pass0 (by rfl) T.g_BadFrame (pa_cons (pv 4) pa_nil)))) pss_nil)
      (pss_cons (ps_if (pt_val (pe_call (ok_turned_ends T) (hr.mono (by decide)) (by rfl) T.g_turned_ends T.F_turned_ends.kp T.b_turned_ends .nil pass0 (pa_cons (pv 2) (pa_cons (pv 3) pa_nil)))) (pss_one (ps_raise rfl (takes_of rfl rfl rfl rfl) (pmk_oex T.ox_TurnedStretch T.iC_TurnedStretch T.tI_TurnedStretch (ok_TurnedStretch___init__ T) (hr.mono (by decide)) T.b_TurnedStretch___init__ .nil pass0 (by rfl) T.g_TurnedStretch (pa_cons (pv 2) (pa_cons (pv 3) pa_nil))))) pss_nil)
      (pss_cons (ps_fld (pv 0) (pv 1) rfl)
      (pss_cons (ps_fld (pv 0) (pv 2) rfl)
      (pss_cons (ps_fld (pv 0) (pv 3) rfl)
      (pss_one (ps_fld (pv 0) (pv 4) rfl)))))))), ?_⟩
  try simp only [nox_K, cx_K]
  wtm_at "rd"
  refine r_inT (T.q_UNITS _) rfl rfl ?_
  show ∃ k, V.bl (!unitB u) = .bl k ∧ _
  wtm_at "rd"
  refine r_itebn (fun e1 => ?_) (fun e1 => ?_)
  · refine ⟨.str u, rfl, Nat.le_of_ble_eq_true rfl, raise_word fun d H' nd hd s => ?_⟩
    exact q1 e1 d H' nd hd s
  wtm_at "rd"
  refine r_inT (T.q_LEFT_OUT _) rfl rfl ?_
  show ∃ k, V.bl (!leftB w) = .bl k ∧ _
  wtm_at "rd"
  refine r_itebn (fun e2 => ?_) (fun e2 => ?_)
  · refine ⟨.str w, rfl, Nat.le_of_ble_eq_true rfl, raise_word fun d H' nd hd s => ?_⟩
    exact q2 e1 e2 d H' nd hd s
  wtm_at "rd"
  refine ⟨lo, hi, rfl, ?_⟩
  wtm_at "rd"
  refine r_iteb (fun e3 => ?_) (fun e3 => ?_)
  · refine ⟨endV lo, rfl, endV hi, rfl, Nat.le_of_ble_eq_true rfl, raise_turned fun d H' nd hd s => ?_⟩
    exact q3 e1 e2 e3 d H' nd hd s
  wtm_at "rd"
  refine r_put hp T.c_Frame T.nf_Frame_unit (by decide) ?_
  wtm_at "rd"
  refine r_put upd_same T.c_Frame T.nf_Frame_start (Nat.lt_of_le_of_lt (putF_len _ _ _) (by decide)) ?_
  wtm_at "rd"
  refine r_put upd_same T.c_Frame T.nf_Frame_end (Nat.lt_of_le_of_lt (putF_len _ _ _) (Nat.lt_of_le_of_lt (Nat.succ_le_succ (putF_len _ _ _)) (by decide))) ?_
  wtm_at "rd"
  refine r_put upd_same T.c_Frame T.nf_Frame_without (Nat.lt_of_le_of_lt (putF_len _ _ _) (Nat.lt_of_le_of_lt (Nat.succ_le_succ (putF_len _ _ _)) (Nat.lt_of_le_of_lt (Nat.succ_le_succ (Nat.succ_le_succ (putF_len _ _ _))) (by decide)))) ?_
  wtm_at "rd"
  refine q e1 e2 e3 _ ⟨dx, upd_same⟩ fun b o e nb => ?_
  rw [upd_ne nb, upd_ne nb, upd_ne nb, upd_ne nb]
  exact e
end

def spWord : Sp := fun vs H Q _ => ∃ (d c r wl : Addr) (ws : List Str), vs = [.ref d, .ref wl] ∧ Drw H d c r ∧ H wl = some (.lst (ws.map V.str)) ∧ 0 < ws.length ∧ ws.length ≤ 10 ∧ (∀ z ∈ ws, Wd z ∧ 0 < z.length) ∧
  ∀ (z : Str) (H' : Hp), Wd z → Drw H' d c r → Ext d r H H' → Q (.str z) H'
def spEndW : Sp := fun vs H Q _ => ∃ (d c r : Addr) (w : Str), vs = [.ref d, .str w] ∧ Drw H d c r ∧ ∀ (e : Option Int) (H' : Hp), Drw H' d c r → Ext d r H H' → Q (endV e) H'
structure F4 where
  u : Str
  lo : Option Int
  hi : Option Int
  w : Str
def F4.ok (f : F4) : Prop := Wd f.u ∧ Wd f.w
def F4.vs (f : F4) : List V := [.str f.u, endV f.lo, endV f.hi, .str f.w]
def F4.due (f : F4) : List V := if unitB f.u = false then [.str "word", .str f.u, .bl true, .bl false] else if leftB f.w = false then [.str "word", .str f.w, .bl true, .bl false] else
  if turnedB f.lo f.hi = true then [.str "ends", endV f.lo, endV f.hi, .bl true, .bl false] else f.vs
def F4.bad (f : F4) : Bool := !(unitB f.u && leftB f.w && !turnedB f.lo f.hi)
def spMade : Sp := fun vs H Q _ => ∃ (p : Addr) (f : F4), vs = [.ref p] ∧ H p = some (.lst f.vs) ∧ f.ok ∧ ∀ l H', H' l = some (.lst f.due) → Same H H' → Q (.ref l) H'
def spBase : Sp := fun vs H Q _ => ∃ (p : Addr) (f : F4), vs = [.ref p] ∧ H p = some (.lst f.vs) ∧ f.ok ∧ ∀ H', Same H H' → Q (.bl f.bad) H'
theorem four_d {H : Hp} {d c r a : Addr} {f : F4} (D : Drw H d c r) (h : H a = some (.lst f.vs)) : a ≠ d ∧ a ≠ r := by
  obtain ⟨_, _, _, ns, rs, t, h1, h2, h3, _⟩ := D
  refine ⟨ne_of h h1 fun z => ?_, ne_of h h3 fun z => ?_⟩
  · cases z
  · have z := HO.lst.inj z
    cases rs with
    | nil => cases z
    | cons x rs => cases z
theorem strs_d {H : Hp} {d c r a : Addr} {ws : List Str} (D : Drw H d c r) (h0 : 0 < ws.length) (h : H a = some (.lst (ws.map V.str))) : a ≠ d ∧ a ≠ r := by
  obtain ⟨_, _, _, ns, rs, t, h1, h2, h3, _⟩ := D
  cases ws with
  | nil => exact absurd h0 (Nat.lt_irrefl 0)
  | cons w ws =>
    refine ⟨ne_of h h1 fun z => ?_, ne_of h h3 fun z => ?_⟩
    · cases z
    · have z := HO.lst.inj z
      cases rs with
      | nil => cases z
      | cons x rs => cases z
def lettersS : Str := "abcdefghijklmnopqrstuvwxyz"
theorem letter_ok {k : Int} {c : Nat} (h : atI lettersS.cps.toList k = some c) : Wd ⟨#[c]⟩ := by
  have hc : c ∈ lettersS.cps.toList := by
    unfold atI at h
    obtain ⟨n, _, h⟩ := Option.bind_eq_some_iff.mp h
    exact List.mem_of_getElem? h
  have ha : ∀ c ∈ lettersS.cps.toList, c < 1000 := by decide +kernel
  refine ⟨?_, Nat.le_of_ble_eq_true rfl⟩
  show Array.all #[c] _ = true
  have := ha c hc
  simp
  omega
theorem letter_at {k : Int} (h0 : 0 ≤ k) (h1 : k < 26) : ∃ c, atI lettersS.cps.toList k = some c := by
  have hl : lettersS.cps.toList.length = 26 := by decide +kernel
  have e : atI lettersS.cps.toList (k.toNat : Int) = some (lettersS.cps.toList[k.toNat]'(by rw [hl]; omega)) := atI_nat (List.getElem?_eq_getElem _)
  rw [Int.toNat_of_nonneg h0] at e
  exact ⟨_, e⟩
section
variable {P : Program} {w : World} {K : PySem.W.Frag} {mg : Str → Option Value} {base : Heap}

theorem ok__law_end (T : Txt K mg) : FnOk P w K mg base CX0 2 T.f__law_end T.d__law_end ["_law_draws", "_law_word_here"] spEndW := by
  refine T.F__law_end.ok sc__law_end (fun vs H Q E h => ?_) (fun cdv A outer s H vs Q E hr h => ?_)
  · obtain ⟨d, c, r, w0, rfl, _⟩ := h
    rfl
  obtain ⟨d, c, r, w0, rfl, D, q⟩ := h
  refine ⟨_, (pss_cons (ps_set (i := 2) sc__law_end.nd rfl (by first | exact Or.inl rfl | exact Or.inr rfl) (pe_call (ok__law_draw T) (hr.mono (by decide)) (by rfl) T.g__law_draw T.F__law_draw.kp T.b__law_draw .nil pass0 (pa_cons (pv 0) (pa_cons pe_int pa_nil))))
      (pss_cons (ps_set (i := 3) sc__law_end.nd rfl (by first | exact Or.inl rfl | exact Or.inr rfl) (pe_ix (r := rIxL K) ix_list (pe_lst (pa_cons pe_int (pa_cons pe_int (pa_cons pe_int (pa_cons (pe_op op_pow pe_int pe_int) pa_nil))))) (pe_op op_add (pe_callTy c_intB (by rfl) T.z_int (by decide +kernel) (pa_cons (pe_cmpR op_gt (pv 2) pe_int (nomark _)) pa_nil)) (pe_op op_mul pe_int (pe_callTy c_intB (by rfl) T.z_int (by decide +kernel) (pa_cons (pe_cmpR op_eq (pv 1) pe_str (nomark _)) pa_nil)))) (fun _ _ => rfl)))
      (pss_one (ps_ret (pe_ifExp (pt_cmpR op_gt (pv 2) pe_int (nomark _)) (pe_op op_sub (pe_call (ok__law_draw T) (hr.mono (by decide)) (by rfl) T.g__law_draw T.F__law_draw.kp T.b__law_draw .nil pass0 (pa_cons (pv 0) (pa_cons (pe_op op_add (pe_op op_mul pe_int (pv 3)) pe_int) pa_nil))) (pv 3)) pe_non))))), ?_⟩
  try simp only [nox_K, cx_K]
  wtm_at "rd"
  refine ⟨d, c, r, 8, rfl, D, by decide, by decide, fun k H1 k0 k1 D1 E1 => ?_⟩
  wtm_at "rd"
  refine r_I ⟨by decide, by decide, by decide⟩ ?_
  wtm_at "rd"
  refine r_new rfl fun l nl => ?_
  wtm_at "rd"
  refine r_mul (.inl ⟨by decide, by decide⟩) fun j ej => ?_
  wtm_at "rd"
  have hl : (upd H1 l (.lst [V.int 3, .int 12, .int 3, .int (10 ^ (9 : Int).toNat)])) l = some (.lst ([3, 12, 3, 10 ^ (9 : Int).toNat].map V.int)) := upd_same
  have hb : ∀ b : Bool, (if b then (1 : Int) else 0) = 0 ∨ (if b then (1 : Int) else 0) = 1 := fun b => by cases b <;> decide
  have b1 := hb (decide (5 < k))
  have b2 := hb (decide (w0 = ("keys" : Str)))
  have hi : 0 ≤ (if decide (5 < k) then (1 : Int) else 0) + j ∧ (if decide (5 < k) then (1 : Int) else 0) + j < 4 := by omega
  revert hi
  generalize (if decide (5 < k) then (1 : Int) else 0) + j = ix
  intro hi
  refine r_ixL (SqL.of hl) (ati_int hi.1 hi.2) ?_
  have hw : 0 < kAt [3, 12, 3, 10 ^ (9 : Int).toNat] ix.toNat ∧ kAt [3, 12, 3, 10 ^ (9 : Int).toNat] ix.toNat < 10 ^ 12 := by
    obtain e | e | e | e : ix = 0 ∨ ix = 1 ∨ ix = 2 ∨ ix = 3 := by omega
    all_goals subst e
    all_goals decide
  revert hw
  generalize kAt [3, 12, 3, 10 ^ (9 : Int).toNat] ix.toNat = wd
  intro hw
  have D2 := D1.new (p := l) (o := .lst [V.int 3, .int 12, .int 3, .int (10 ^ (9 : Int).toNat)]) nl
  have E2 := E1.trans (Ext.of (same_new (o := .lst [V.int 3, .int 12, .int 3, .int (10 ^ (9 : Int).toNat)]) nl))
  wtm_at "rd"
  refine r_ite (fun e1 => ?_) (fun e1 => ?_)
  · wtm_at "rd"
    refine r_mul (.inl ⟨by decide, by decide⟩) fun m em => ?_
    wtm_at "rd"
    refine ⟨d, c, r, _, rfl, D2, by omega, by omega, fun k2 H3 l2 u2 D3 E3 => ?_⟩
    wtm_at "rd"
    exact q (some (k2 - wd)) _ D3 (E2.trans E3)
  · wtm_at "rd"
    exact q none _ D2 E2
theorem ok__law_word (T : Txt K mg) : FnOk P w K mg base CX0 2 T.f__law_word T.d__law_word ["_law_draws", "_law_words"] spWord := by
  refine T.F__law_word.ok sc__law_word (fun vs H Q E h => ?_) (fun cdv A outer s H vs Q E hr h => ?_)
  · obtain ⟨d, c, r, wl, ws, rfl, _⟩ := h
    rfl
  obtain ⟨d, c, r, wl, ws, rfl, D, hw, w0, w10, wok, q⟩ := h
  refine ⟨_, (pss_cons (ps_set (i := 2) sc__law_word.nd rfl (by first | exact Or.inl rfl | exact Or.inr rfl) (pe_call (ok__law_draw T) (hr.mono (by decide)) (by rfl) T.g__law_draw T.F__law_draw.kp T.b__law_draw .nil pass0 (pa_cons (pv 0) (pa_cons pe_int pa_nil))))
      (pss_cons (ps_if (pt_cmpR op_lt (pv 2) pe_int (nomark _)) (pss_one (ps_ret (pe_ix (r := rIxL K) ix_list (pv 1) (pe_call (ok__law_draw T) (hr.mono (by decide)) (by rfl) T.g__law_draw T.F__law_draw.kp T.b__law_draw .nil pass0 (pa_cons (pv 0) (pa_cons (pe_callB (r := rLenL K) (id := "len") c_len (by rfl) T.z_len (by decide +kernel) (pa_cons (pv 1) pa_nil)) pa_nil))) (fun _ _ => rfl)))) pss_nil)
      (pss_cons (ps_if (pt_cmpR op_eq (pv 2) pe_int (nomark _)) (pss_cons (ps_set (i := 3) sc__law_word.nd rfl (by first | exact Or.inl rfl | exact Or.inr rfl) (pe_lst (pa_cons pe_str (pa_cons pe_str (pa_cons pe_str (pa_cons pe_str (pa_cons pe_str (pa_cons pe_str (pa_cons pe_str (pa_cons pe_str (pa_cons pe_str (pa_cons pe_str (pa_cons pe_str pa_nil)))))))))))))
      (pss_cons (ps_set (i := 3) sc__law_word.nd rfl (by first | exact Or.inl rfl | exact Or.inr rfl) (pe_op op_cat (pv 3) (pe_lst (pa_cons pe_str (pa_cons pe_str (pa_cons pe_str (pa_cons pe_str (pa_cons pe_str (pa_cons pe_str (pa_cons pe_str pa_nil))))))))))
      (pss_one (ps_ret (pe_ix (r := rIxL K) ix_list (pv 3) (pe_call (ok__law_draw T) (hr.mono (by decide)) (by rfl) T.g__law_draw T.F__law_draw.kp T.b__law_draw .nil pass0 (pa_cons (pv 0) (pa_cons (pe_callB (r := rLenL K) (id := "len") c_len (by rfl) T.z_len (by decide +kernel) (pa_cons (pv 3) pa_nil)) pa_nil))) (fun _ _ => rfl)))))) pss_nil)
      (pss_cons (ps_set (i := 4) sc__law_word.nd rfl (by first | exact Or.inl rfl | exact Or.inr rfl) pe_str)
      (pss_cons (ps_if (pt_cmpR op_eq (pv 2) pe_int (nomark _)) (pss_one (ps_ret (pe_join pe_str (pe_lc (own := [("_law_k", 7)]) (g := gName 7) (tt := tYes) rfl sc__law_word.nd (pi_range1 (by rfl) T.z_range (pa_cons (pe_call (ok__law_draw T) (hr.mono (by decide)) (by rfl) T.g__law_draw T.F__law_draw.kp T.b__law_draw .nil pass0 (pa_cons (pv 0) (pa_cons pe_int pa_nil))) pa_nil)) (blkOk_by (N := ["_law_draws", "_law_words", "_law_way", "_law_odd", "_law_letters", "_law_word_here", "_law_spot", "_law_k"]) (sc := defScope s__law_word) (by decide +kernel)) (fun _ _ _ _ _ => pg_name (i := 7) sc__law_word.nd rfl (by first | exact Or.inl rfl | exact Or.inr rfl)) (fun _ _ _ _ _ => pts_nil) (fun _ _ _ _ _ => (pe_ix ix_str (pv 4) (pe_call (ok__law_draw T) (hr.mono (by decide)) (by rfl) T.g__law_draw T.F__law_draw.kp T.b__law_draw .nil pass0 (pa_cons (pv 0) (pa_cons pe_int pa_nil))) (fun _ _ => rfl))))))) pss_nil)
      (pss_cons (ps_set (i := 5) sc__law_word.nd rfl (by first | exact Or.inl rfl | exact Or.inr rfl) (pe_ix (r := rIxL K) ix_list (pv 1) (pe_call (ok__law_draw T) (hr.mono (by decide)) (by rfl) T.g__law_draw T.F__law_draw.kp T.b__law_draw .nil pass0 (pa_cons (pv 0) (pa_cons (pe_callB (r := rLenL K) (id := "len") c_len (by rfl) T.z_len (by decide +kernel) (pa_cons (pv 1) pa_nil)) pa_nil))) (fun _ _ => rfl)))
      (pss_cons (ps_set (i := 6) sc__law_word.nd rfl (by first | exact Or.inl rfl | exact Or.inr rfl) (pe_call (ok__law_draw T) (hr.mono (by decide)) (by rfl) T.g__law_draw T.F__law_draw.kp T.b__law_draw .nil pass0 (pa_cons (pv 0) (pa_cons (pe_callB call_len_str (by rfl) T.z_len (by decide +kernel) (pa_cons (pv 5) pa_nil)) pa_nil))))
      (pss_one (ps_ret (pe_op op_add_str (pe_op op_add_str (pe_slice sl_str (pv 5) po_none (po_some (pv 6))) (pe_ix ix_str (pv 4) (pe_call (ok__law_draw T) (hr.mono (by decide)) (by rfl) T.g__law_draw T.F__law_draw.kp T.b__law_draw .nil pass0 (pa_cons (pv 0) (pa_cons pe_int pa_nil))) (fun _ _ => rfl))) (pe_slice sl_str (pv 5) (po_some (pe_op op_add (pv 6) pe_int)) po_none))))))))))), ?_⟩
  try simp only [nox_K, cx_K]
  wtm_at "rd"
  refine ⟨d, c, r, 6, rfl, D, by decide, by decide, fun k H1 k0 k1 D1 E1 => ?_⟩
  have hw1 := E1 _ _ hw (strs_d D w0 hw).1 (strs_d D w0 hw).2
  wtm_at "rd"
  refine r_ite (fun e1 => ?_) (fun e1 => ?_)
  · wtm_at "rd"
    refine r_lenS hw1 ?_
    wtm_at "rd"
    refine ⟨d, c, r, _, rfl, D1, by omega, by omega, fun k2 H2 l2 u2 D2 E2 => ?_⟩
    have hw2 := E2 _ _ hw1 (strs_d D1 w0 hw1).1 (strs_d D1 w0 hw1).2
    obtain ⟨z, hz, hzm⟩ := at_strs (ws := ws) l2 u2
    refine r_ixL (SqL.of hw2) hz ?_
    exact q z _ (wok z hzm).1 D2 (E1.trans E2)
  wtm_at "rd"
  refine r_ite (fun e2 => ?_) (fun e2 => ?_)
  · wtm_at "rd"
    refine r_new rfl fun l1 n_l1 => ?_
    generalize eq_l1 : upd _ l1 _ = H2
    have s_l1 : Same _ H2 := eq_l1 ▸ same_new n_l1
    have h_l1 : H2 l1 = some _ := eq_l1 ▸ upd_same
    clear eq_l1
    have D1 := D1.same s_l1
    have E1 := E1.trans (Ext.of s_l1)
    wtm_at "rd"
    refine r_new rfl fun l2 n_l2 => ?_
    generalize eq_l2 : upd _ l2 _ = H3
    have s_l2 : Same _ H3 := eq_l2 ▸ same_new n_l2
    have h_l2 : H3 l2 = some _ := eq_l2 ▸ upd_same
    clear eq_l2
    have D1 := D1.same s_l2
    have E1 := E1.trans (Ext.of s_l2)
    have h_l1 := s_l2 _ _ h_l1
    refine ⟨l1, l2, _, _, rfl, rfl, h_l1, h_l2, Nat.le_of_lt (small1000 (Nat.le_of_ble_eq_true rfl)), fun l3 n_l3 => ?_⟩
    generalize eq_l3 : upd _ l3 _ = H4
    have s_l3 : Same _ H4 := eq_l3 ▸ same_new n_l3
    have h_l3 : H4 l3 = some _ := eq_l3 ▸ upd_same
    clear eq_l3
    have D1 := D1.same s_l3
    have E1 := E1.trans (Ext.of s_l3)
    wtm_at "rd"
    have h3 : H4 l3 = some (.lst ((["", "row", "Rows", "rows ", "key", "none", "self", "range", "others", "tie", "groupS", "nothing", "current", "group", "ties", "rows", "groups", "keys"] : List Str).map V.str)) := h_l3
    refine r_lenS h3 ?_
    wtm_at "rd"
    refine ⟨d, c, r, _, rfl, D1, by decide, by decide, fun k2 H2 j2 u2 D2 E2 => ?_⟩
    have h4 := E2 _ _ h3 (strs_d D1 (by decide) h3).1 (strs_d D1 (by decide) h3).2
    obtain ⟨z, hz, hzm⟩ := at_strs j2 u2
    refine r_ixL (SqL.of h4) hz ?_
    refine q z _ ?_ D2 (E1.trans E2)
    have all : ∀ z ∈ (["", "row", "Rows", "rows ", "key", "none", "self", "range", "others", "tie", "groupS", "nothing", "current", "group", "ties", "rows", "groups", "keys"] : List Str), PyData.strOk z = true ∧ z.length ≤ 30 := by decide +kernel
    exact all z hzm
  wtm_at "rd"
  refine r_ite (fun e3 => ?_) (fun e3 => ?_)
  · wtm_at "rd"
    refine ⟨⟨_, rfl⟩, ?_⟩
    wtm_at "rd"
    refine ⟨d, c, r, 9, rfl, D1, by decide, by decide, fun k2 H2 l2 u2 D2 E2 => ?_⟩
    wtm_at "rd"
    refine r_upto (by omega) (by omega) ?_
    refine lc_drawsG (P := fun v => ∃ z : Str, v = .str z ∧ PyData.strOk z = true ∧ z.length = 1) (by omega) D2 (fun i H3 QQ hi D3 E3 hQ => ?_) fun l ss H3 hl hp nl hs D3 E3 => ?_
    · wtm_at "rd"
      refine ⟨d, c, r, 26, rfl, D3, by decide, by decide, fun k3 H4 l4 u4 D4 E4 => ?_⟩
      obtain ⟨c0, hc0⟩ := letter_at l4 u4
      refine ⟨lettersS, k3, c0, rfl, rfl, Nat.le_of_lt (small1000 (by decide +kernel)), hc0, ?_⟩
      exact hQ _ _ ⟨_, rfl, (letter_ok hc0).1, rfl⟩ D4 E4
    · obtain ⟨ys, rfl, hy⟩ := strs_of hp
      wtm_at "rd"
      rw [List.length_map] at hl
      have hsum := sum_ones (ys := ys) fun y h => (hy y h).2
      refine ⟨_, l, ys, rfl, rfl, .inl (SqL.of hs), ?_, ?_⟩
      · rw [hsum]
        show ys.length + ys.length * 0 ≤ 16777216
        omega
      · have hj := join_ok hy
        rw [TL.join_eq]
        exact q (Str.join "" ys) _ ⟨hj.1, by rw [hj.2]; omega⟩ D3 ((E1.trans E2).trans E3)
  wtm_at "rd"
  refine r_lenS hw1 ?_
  wtm_at "rd"
  refine ⟨d, c, r, _, rfl, D1, by omega, by omega, fun k2 H2 l2 u2 D2 E2 => ?_⟩
  have hw2 := E2 _ _ hw1 (strs_d D1 w0 hw1).1 (strs_d D1 w0 hw1).2
  obtain ⟨z, hz, hzm⟩ := at_strs (ws := ws) l2 u2
  obtain ⟨hzw, hz0⟩ := wok z hzm
  have zl : z.length ≤ sizeLine := Nat.le_of_lt (small1000 (Nat.le_trans hzw.2 (by decide)))
  refine r_ixL (SqL.of hw2) hz ?_
  wtm_at "rd"
  refine ⟨z, rfl, zl, ?_⟩
  wtm_at "rd"
  refine ⟨d, c, r, _, rfl, D2, by omega, by have := hzw.2; omega, fun k3 H3 l3 u3 D3 E3 => ?_⟩
  wtm_at "rd"
  refine ⟨z, rfl, zl, ?_⟩
  wtm_at "rd"
  refine ⟨d, c, r, 26, rfl, D3, by decide, by decide, fun k4 H4 l4 u4 D4 E4 => ?_⟩
  obtain ⟨c0, hc0⟩ := letter_at l4 u4
  refine ⟨lettersS, k4, c0, rfl, rfl, Nat.le_of_lt (small1000 (by decide +kernel)), hc0, ?_⟩
  have q1 := cut_lenS (z := z) (lo := none) (hi := some k3)
  have q2 := cut_lenS (z := z) (lo := some (k3 + 1)) (hi := none)
  have q3 := hzw.2
  have q4 : (⟨#[c0]⟩ : Str).length = 1 := rfl
  have q5 := len_app (cutS z none (some k3)) ⟨#[c0]⟩
  have q6 := len_app (cutS z none (some k3) ++ ⟨#[c0]⟩) (cutS z (some (k3 + 1)) none)
  refine ⟨_, _, rfl, rfl, Nat.le_of_lt (small1000 (by omega)), ?_⟩
  wtm_at "rd"
  refine ⟨z, rfl, zl, ?_⟩
  refine ⟨_, _, rfl, rfl, Nat.le_of_lt (small1000 (by omega)), ?_⟩
  have q7 : (cutS z none (some k3)).length + (cutS z (some (k3 + 1)) none).length + 1 ≤ 30 := by
    have a1 := cut_two z l3 u3
    omega
  exact q _ _ ⟨sok_app (sok_app (cut_sok hzw.1) (letter_ok hc0).1) (cut_sok hzw.1), by omega⟩ D4 (((E1.trans E2).trans E3).trans E4)
end

theorem end_flat (e : Option Int) : flatV (endV e) = true := by cases e <;> rfl
theorem unit_none {u : Str} (h : unitB u = true) : ¬ u = "none" := by
  rintro rfl
  revert h
  decide +kernel
theorem unit_word {u : Str} (h : unitB u = true) : ¬ u = "word" ∧ ¬ u = "ends" := by
  refine ⟨?_, ?_⟩
  all_goals rintro rfl
  all_goals revert h
  all_goals decide +kernel
theorem due_eqD {f : F4} (h : f.ok) : ∀ v ∈ f.due, eqD v := by
  have e1 : ∀ e : Option Int, eqD (endV e) := fun e => by cases e <;> trivial
  intro v hv
  unfold F4.due at hv
  split at hv
  · simp only [List.mem_cons, List.mem_nil_iff, or_false] at hv
    rcases hv with rfl | rfl | rfl | rfl
    · exact sok_of _
    · exact h.1.1
    · trivial
    · trivial
  · split at hv
    · simp only [List.mem_cons, List.mem_nil_iff, or_false] at hv
      rcases hv with rfl | rfl | rfl | rfl
      · exact sok_of _
      · exact h.2.1
      · trivial
      · trivial
    · split at hv
      · simp only [List.mem_cons, List.mem_nil_iff, or_false] at hv
        rcases hv with rfl | rfl | rfl | rfl | rfl
        · exact sok_of _
        · exact e1 _
        · exact e1 _
        · trivial
        · trivial
      · simp only [F4.vs, List.mem_cons, List.mem_nil_iff, or_false] at hv
        rcases hv with rfl | rfl | rfl | rfl
        · exact h.1.1
        · exact e1 _
        · exact e1 _
        · exact h.2.1
theorem kind_refl : ∀ (vs : List V), ∀ p ∈ vs.zip vs, sameKind p.1 p.2 = true
  | [], p, hp => nomatch hp
  | v :: vs, p, hp => by
    rcases List.mem_cons.mp hp with rfl | hp
    · cases v <;> rfl
    · exact kind_refl vs p hp
/-- the first word of what is due -/
def F4.first (f : F4) : Str := if unitB f.u = false then "word" else if leftB f.w = false then "word" else if turnedB f.lo f.hi = true then "ends" else f.u
theorem due_first (f : F4) : ∃ r, f.due = .str f.first :: r := by
  unfold F4.due F4.first
  split
  · exact ⟨_, rfl⟩
  · split
    · exact ⟨_, rfl⟩
    · split
      · exact ⟨_, rfl⟩
      · exact ⟨_, rfl⟩
theorem first_bad (f : F4) : inV (.str f.first) [V.str "word", V.str "ends"] = f.bad := by
  unfold F4.first F4.bad
  cases h1 : unitB f.u with
  | false =>
    rw [if_pos rfl]
    show inV _ _ = true
    decide +kernel
  | true =>
    rw [if_neg (by simp)]
    cases h2 : leftB f.w with
    | false =>
      rw [if_pos rfl]
      show inV _ _ = true
      decide +kernel
    | true =>
      rw [if_neg (by simp)]
      cases h3 : turnedB f.lo f.hi with
      | true =>
        rw [if_pos rfl]
        decide +kernel
      | false =>
        rw [if_neg (by simp)]
        obtain ⟨n1, n2⟩ := unit_word h1
        show ((("word" : Str) == f.u) || ((("ends" : Str) == f.u) || false)) = false
        rw [beq_eq_false_iff_ne.mpr (Ne.symm n1), beq_eq_false_iff_ne.mpr (Ne.symm n2)]
        rfl
def spLaw (K : PySem.W.Frag) : Sp := fun vs H Q _ => ∃ (a : Addr) (ns : List Int), vs = [.ref a] ∧ SqL K H a (ns.map V.int) ∧ ns.length ≤ 63 ∧ ∀ H', Q (.bl true) H'
/-- each is a four -/
def As (H : Hp) (as : List Addr) : Prop := ∀ a ∈ as, ∃ f : F4, H a = some (.lst f.vs) ∧ f.ok
theorem As.to {H H' : Hp} {as : List Addr} (h : As H as) (s : ∀ a (f : F4), H a = some (.lst f.vs) → H' a = some (.lst f.vs)) : As H' as := fun a ha => by
  obtain ⟨f, h1, h2⟩ := h a ha
  exact ⟨f, s _ _ h1, h2⟩
theorem As.snoc {H : Hp} {as : List Addr} {b : Addr} {f : F4} (h : As H as) (hb : H b = some (.lst f.vs)) (hf : f.ok) : As H (as ++ [b]) := fun a ha => by
  rcases List.mem_append.mp ha with z | z
  · exact h a z
  · rw [List.mem_singleton.mp z]
    exact ⟨f, hb, hf⟩
theorem four_L {H : Hp} {a L : Addr} {f : F4} {as : List Addr} (h : H a = some (.lst f.vs)) (hL : H L = some (.lst (as.map V.ref))) : a ≠ L := ne_of h hL fun z => by
  have z := HO.lst.inj z
  cases as with
  | nil => cases z
  | cons x as => cases z
theorem cut_mem {as : List Addr} {lo hi : Option Int} : ∃ bs : List Addr, cutV (as.map V.ref) lo hi = bs.map V.ref ∧ bs.length ≤ as.length ∧ ∀ b ∈ bs, b ∈ as := by
  refine ⟨(as.drop (HT.sIx (as.map V.ref).length 0 lo)).take (HT.sIx (as.map V.ref).length (as.map V.ref).length hi - HT.sIx (as.map V.ref).length 0 lo), ?_, ?_, fun b hb => List.mem_of_mem_drop (List.mem_of_mem_take hb)⟩
  · rw [List.map_take, List.map_drop]
    rfl
  · rw [List.length_take, List.length_drop]
    omega
theorem wl_ok : ∀ z ∈ (["rows", "groups", "keys"] : List Str), (PyData.strOk z = true ∧ z.length ≤ 30) ∧ 0 < z.length := by decide +kernel
theorem wl2_ok : ∀ z ∈ (["nothing", "current", "group", "ties"] : List Str), (PyData.strOk z = true ∧ z.length ≤ 30) ∧ 0 < z.length := by decide +kernel
section
variable {P : Program} {w : World} {K : PySem.W.Frag} {mg : Str → Option Value} {base : Heap}

theorem same_two {H : Hp} {x dx C : Addr} (nx : H x = none) (nd : H dx = none) : Same H (upd (upd H dx (.own x)) x (.ins C dx [])) := fun b o e => (upd_ne (ne_of_none e nx)).trans ((upd_ne (ne_of_none e nd)).trans e)
theorem ok__law_made (T : Txt K mg) : FnOk P w K mg base CX0 6 T.f__law_made T.d__law_made ["_law_four"] spMade := by
  refine T.F__law_made.ok sc__law_made (fun vs H Q E h => ?_) (fun cdv A outer s H vs Q E hr h => ?_)
  · obtain ⟨p, f, rfl, _⟩ := h
    rfl
  obtain ⟨p, f, rfl, hp, okf, q⟩ := h
  refine ⟨_, (pss_cons (ps_try_manyA rfl rfl sc__law_made.nd takes0 (fun W pn xe tk _ => (pss_one (ps_set (i := 1) sc__law_made.nd rfl (by first | exact Or.inl rfl | exact Or.inr rfl) (pe_makeNS T.m_Frame (ok_Frame___init__ T) (hr.mono (by decide)) (by rfl) T.g_Frame T.kn_Frame___init__ (fun σ => passAt tk σ) (pa_cons (pe_ix (r := rIxL K) ix_list (pv 0) pe_int (fun _ _ => rfl)) (pa_cons (pe_ix (r := rIxL K) ix_list (pv 0) pe_int (fun _ _ => rfl)) (pa_cons (pe_ix (r := rIxL K) ix_list (pv 0) pe_int (fun _ _ => rfl)) pa_nil))) (pk_cons (pe_ix (r := rIxL K) ix_list (pv 0) pe_int (fun _ _ => rfl)) pk_nil))))) (HdsA.cons (i := 2) rfl rfl ⟨rfl, by decide, Or.inl T.g_BadFrame⟩ (fun a oe cls d pn hz hf => (pss_one (ps_ret (pe_lst (pa_cons pe_str (pa_cons (pe_xf T.xf_BadFrame T.nf_BadFrame_word hz hf (pv 2)) (pa_cons (pe_callB (call_isX hz hf) (by rfl) T.z_isinstance (by decide +kernel) (pa_cons (pv 2) (pa_cons (pe_glob (v := .ref T.C_WindowError) rfl T.g_WindowError rfl) pa_nil))) (pa_cons (pe_callB (call_isX hz hf) (by rfl) T.z_isinstance (by decide +kernel) (pa_cons (pv 2) (pa_cons (pe_glob (v := .ref T.C_TurnedStretch) rfl T.g_TurnedStretch rfl) pa_nil))) pa_nil)))))))) (HdsA.cons (i := 2) rfl rfl ⟨rfl, by decide, Or.inl T.g_TurnedStretch⟩ (fun a oe cls d pn hz hf => (pss_one (ps_ret (pe_lst (pa_cons pe_str (pa_cons (pe_xf T.xf_TurnedStretch T.nf_TurnedStretch_low hz hf (pv 2)) (pa_cons (pe_xf T.xf_TurnedStretch T.nf_TurnedStretch_high hz hf (pv 2)) (pa_cons (pe_callB (call_isX hz hf) (by rfl) T.z_isinstance (by decide +kernel) (pa_cons (pv 2) (pa_cons (pe_glob (v := .ref T.C_WindowError) rfl T.g_WindowError rfl) pa_nil))) (pa_cons (pe_callB (call_isX hz hf) (by rfl) T.z_isinstance (by decide +kernel) (pa_cons (pv 2) (pa_cons (pe_glob (v := .ref T.C_BadFrame) rfl T.g_BadFrame rfl) pa_nil))) pa_nil))))))))) HdsA.nil)))
      (pss_one (ps_ret (pe_lst (pa_cons (pe_fldK (K := K) (pv 1)) (pa_cons (pe_fldK (K := K) (pv 1)) (pa_cons (pe_fldK (K := K) (pv 1)) (pa_cons (pe_fldK (K := K) (pv 1)) pa_nil)))))))), ?_⟩
  try simp only [nox_K, cx_K]
  have hp : H p = some (.lst [.str f.u, endV f.lo, endV f.hi, .str f.w]) := hp
  wtm_at "rd"
  refine ⟨rfl, rfl, fun x1 dx nx nd nxd => ?_⟩
  have s0 : Same H (upd (upd H dx (.own x1)) x1 (.ins T.C_Frame dx [])) := same_two nx nd
  refine ⟨x1, dx, f.u, f.lo, f.hi, f.w, rfl, upd_same, fun e1 dd H1 _ hd s1 => ?_, fun e1 e2 dd H1 _ hd s1 => ?_, fun e1 e2 e3 dd H1 _ hd s1 => ?_, fun e1 e2 e3 H1 ho hk => ⟨rfl, ?_⟩⟩
  · refine ⟨true, T.em_BadFrame_BadFrame, fun _ a na => ?_, fun z => nomatch z⟩
    wtm_at "rd"
    refine ⟨rfl, rfl, dd, _, _, rfl, hd, rfl, ?_⟩
    wtm_at "rd"
    refine r_isX T.ec_BadFrame hd (.own _) T.ke_BadFrame_WindowError ?_
    wtm_at "rd"
    refine r_isX T.ec_BadFrame hd (.own _) T.ke_BadFrame_TurnedStretch ?_
    wtm_at "rd"
    refine r_new rfl fun u n_u => ?_
    generalize eq_u : upd _ u _ = H2
    have s_u : Same _ H2 := eq_u ▸ same_new n_u
    have h_u : H2 u = some _ := eq_u ▸ upd_same
    clear eq_u
    refine q u _ ?_ ((s0.trans s1).trans s_u)
    rw [h_u, F4.due, if_pos e1]
  · refine ⟨true, T.em_BadFrame_BadFrame, fun _ a na => ?_, fun z => nomatch z⟩
    wtm_at "rd"
    refine ⟨rfl, rfl, dd, _, _, rfl, hd, rfl, ?_⟩
    wtm_at "rd"
    refine r_isX T.ec_BadFrame hd (.own _) T.ke_BadFrame_WindowError ?_
    wtm_at "rd"
    refine r_isX T.ec_BadFrame hd (.own _) T.ke_BadFrame_TurnedStretch ?_
    wtm_at "rd"
    refine r_new rfl fun u n_u => ?_
    generalize eq_u : upd _ u _ = H2
    have s_u : Same _ H2 := eq_u ▸ same_new n_u
    have h_u : H2 u = some _ := eq_u ▸ upd_same
    clear eq_u
    refine q u _ ?_ ((s0.trans s1).trans s_u)
    rw [h_u, F4.due, if_neg (by rw [e1]; exact fun z => nomatch z), if_pos e2]
  · refine ⟨false, T.em_TurnedStretch_BadFrame, fun z => (nomatch z), fun _ => ⟨true, T.em_TurnedStretch_TurnedStretch, fun _ a na => ?_, fun z => nomatch z⟩⟩
    wtm_at "rd"
    refine ⟨rfl, rfl, dd, _, _, rfl, hd, turn_low _ _, ?_⟩
    wtm_at "rd"
    refine ⟨rfl, rfl, dd, _, _, rfl, hd, turn_high _ _, ?_⟩
    wtm_at "rd"
    refine r_isX T.ec_TurnedStretch hd (.own _) T.ke_TurnedStretch_WindowError ?_
    wtm_at "rd"
    refine r_isX T.ec_TurnedStretch hd (.own _) T.ke_TurnedStretch_BadFrame ?_
    wtm_at "rd"
    refine r_new rfl fun u n_u => ?_
    generalize eq_u : upd _ u _ = H2
    have s_u : Same _ H2 := eq_u ▸ same_new n_u
    have h_u : H2 u = some _ := eq_u ▸ upd_same
    clear eq_u
    refine q u _ ?_ ((s0.trans s1).trans s_u)
    rw [h_u, F4.due, if_neg (by rw [e1]; exact fun z => nomatch z), if_neg (by rw [e2]; exact fun z => nomatch z), if_pos e3]
  · wtm_at "rd"
    refine r_unit T ho ?_
    wtm_at "rd"
    refine r_start T ho ?_
    wtm_at "rd"
    refine r_end T ho ?_
    wtm_at "rd"
    refine r_without T ho ?_
    wtm_at "rd"
    refine r_new rfl fun u n_u => ?_
    generalize eq_u : upd _ u _ = H2
    have s_u : Same _ H2 := eq_u ▸ same_new n_u
    have h_u : H2 u = some _ := eq_u ▸ upd_same
    clear eq_u
    refine q u _ ?_ ((same_make nx nd hk).trans s_u)
    rw [h_u, F4.due, if_neg (by rw [e1]; exact fun z => nomatch z), if_neg (by rw [e2]; exact fun z => nomatch z), if_neg (by rw [e3]; exact fun z => nomatch z)]
    rfl
theorem ok__law_base (T : Txt K mg) : FnOk P w K mg base CX0 6 T.f__law_base T.d__law_base ["_law_four"] spBase := by
  refine T.F__law_base.ok sc__law_base (fun vs H Q E h => ?_) (fun cdv A outer s H vs Q E hr h => ?_)
  · obtain ⟨p, f, rfl, _⟩ := h
    rfl
  obtain ⟨p, f, rfl, hp, okf, q⟩ := h
  refine ⟨_, (pss_cons (ps_try_as (i := 2) rfl rfl sc__law_base.nd rfl rfl ⟨rfl, by decide, Or.inl T.g_WindowError⟩ takes0 (fun W pn xe tk _ => (pss_one (ps_set (i := 1) sc__law_base.nd rfl (by first | exact Or.inl rfl | exact Or.inr rfl) (pe_makeNS T.m_Frame (ok_Frame___init__ T) (hr.mono (by decide)) (by rfl) T.g_Frame T.kn_Frame___init__ (fun σ => passAt tk σ) (pa_cons (pe_ix (r := rIxL K) ix_list (pv 0) pe_int (fun _ _ => rfl)) (pa_cons (pe_ix (r := rIxL K) ix_list (pv 0) pe_int (fun _ _ => rfl)) (pa_cons (pe_ix (r := rIxL K) ix_list (pv 0) pe_int (fun _ _ => rfl)) pa_nil))) (pk_cons (pe_ix (r := rIxL K) ix_list (pv 0) pe_int (fun _ _ => rfl)) pk_nil))))) (fun a oe cls d pn hz hf => (pss_one (ps_ret (pe_callB (call_isX hz hf) (by rfl) T.z_isinstance (by decide +kernel) (pa_cons (pv 2) (pa_cons (pe_bltn (v := .ty "ValueError") (u := .type "ValueError") (by rfl) T.z_ValueError (by decide +kernel) rfl) pa_nil)))))))
      (pss_one (ps_ret (pe_cmpR op_eq (pe_fldK (K := K) (pv 1)) pe_str (nomark _))))), ?_⟩
  try simp only [nox_K, cx_K]
  have hp : H p = some (.lst [.str f.u, endV f.lo, endV f.hi, .str f.w]) := hp
  wtm_at "rd"
  refine ⟨rfl, rfl, fun x1 dx nx nd nxd => ?_⟩
  have s0 : Same H (upd (upd H dx (.own x1)) x1 (.ins T.C_Frame dx [])) := same_two nx nd
  refine ⟨x1, dx, f.u, f.lo, f.hi, f.w, rfl, upd_same, fun e1 dd H1 _ hd s1 => ?_, fun e1 e2 dd H1 _ hd s1 => ?_, fun e1 e2 e3 dd H1 _ hd s1 => ?_, fun e1 e2 e3 H1 ho hk => ⟨rfl, ?_⟩⟩
  · refine ⟨true, T.em_BadFrame_WindowError, fun _ a na => ?_, fun z => nomatch z⟩
    wtm_at "rd"
    refine r_isX T.ec_BadFrame hd (.ty _) T.ke_BadFrame_ValueError ?_
    refine bl_to (q _ (s0.trans s1)) ?_
    rw [F4.bad, e1]
    rfl
  · refine ⟨true, T.em_BadFrame_WindowError, fun _ a na => ?_, fun z => nomatch z⟩
    wtm_at "rd"
    refine r_isX T.ec_BadFrame hd (.ty _) T.ke_BadFrame_ValueError ?_
    refine bl_to (q _ (s0.trans s1)) ?_
    rw [F4.bad, e1, e2]
    rfl
  · refine ⟨true, T.em_TurnedStretch_WindowError, fun _ a na => ?_, fun z => nomatch z⟩
    wtm_at "rd"
    refine r_isX T.ec_TurnedStretch hd (.ty _) T.ke_TurnedStretch_ValueError ?_
    refine bl_to (q _ (s0.trans s1)) ?_
    rw [F4.bad, e1, e2, e3]
    rfl
  · wtm_at "rd"
    refine r_unit T ho ?_
    wtm_at "rd"
    refine bl_to (q _ (same_make nx nd hk)) ?_
    rw [F4.bad, e1, e2, e3, decide_eq_false (unit_none e1)]
    rfl
theorem ok__law_due (T : Txt K mg) : FnOk P w K mg base CX0 1 T.f__law_due T.d__law_due ["_law_four"] spMade := by
  refine T.F__law_due.ok sc__law_due (fun vs H Q E h => ?_) (fun cdv A outer s H vs Q E hr h => ?_)
  · obtain ⟨p, f, rfl, _⟩ := h
    rfl
  obtain ⟨p, f, rfl, hp, okf, q⟩ := h
  refine ⟨_, (pss_cons (ps_if (pt_cmpR op_notIn_seq (pe_ix (r := rIxL K) ix_list (pv 0) pe_int (fun _ _ => rfl)) (pe_tup (pa_cons pe_str (pa_cons pe_str (pa_cons pe_str pa_nil)))) (by rfl)) (pss_one (ps_ret (pe_lst (pa_cons pe_str (pa_cons (pe_ix (r := rIxL K) ix_list (pv 0) pe_int (fun _ _ => rfl)) (pa_cons pe_bl (pa_cons pe_bl pa_nil))))))) pss_nil)
      (pss_cons (ps_if (pt_cmpR op_notIn_seq (pe_ix (r := rIxL K) ix_list (pv 0) pe_int (fun _ _ => rfl)) (pe_tup (pa_cons pe_str (pa_cons pe_str (pa_cons pe_str (pa_cons pe_str pa_nil))))) (by rfl)) (pss_one (ps_ret (pe_lst (pa_cons pe_str (pa_cons (pe_ix (r := rIxL K) ix_list (pv 0) pe_int (fun _ _ => rfl)) (pa_cons pe_bl (pa_cons pe_bl pa_nil))))))) pss_nil)
      (pss_cons (ps_if (PW.pt (pw_and (pt_cmpR o_notN (pe_ix (r := rIxL K) ix_list (pv 0) pe_int (fun _ _ => rfl)) pe_non (nomark _)) (pw_and (pt_cmpR o_notN (pe_ix (r := rIxL K) ix_list (pv 0) pe_int (fun _ _ => rfl)) pe_non (nomark _)) (pw_and1 (pt_cmpR op_gt (pe_ix (r := rIxL K) ix_list (pv 0) pe_int (fun _ _ => rfl)) (pe_ix (r := rIxL K) ix_list (pv 0) pe_int (fun _ _ => rfl)) (nomark _)))))) (pss_one (ps_ret (pe_lst (pa_cons pe_str (pa_cons (pe_ix (r := rIxL K) ix_list (pv 0) pe_int (fun _ _ => rfl)) (pa_cons (pe_ix (r := rIxL K) ix_list (pv 0) pe_int (fun _ _ => rfl)) (pa_cons pe_bl (pa_cons pe_bl pa_nil)))))))) pss_nil)
      (pss_one (ps_ret (pe_callTy c_listA (by rfl) T.z_list (by decide +kernel) (pa_cons (pv 0) pa_nil))))))), ?_⟩
  try simp only [nox_K, cx_K]
  have hp : H p = some (.lst [.str f.u, endV f.lo, endV f.hi, .str f.w]) := hp
  wtm_at "rd"
  refine r_new rfl fun t1 n_t1 => ?_
  generalize eq_t1 : upd _ t1 _ = H1
  have s_t1 : Same _ H1 := eq_t1 ▸ same_new n_t1
  have h_t1 : H1 t1 = some _ := eq_t1 ▸ upd_same
  clear eq_t1
  have hp := s_t1 _ _ hp
  wtm_at "rd"
  refine r_inT (SqT.of h_t1) rfl rfl ?_
  show ∃ k, V.bl (!unitB f.u) = .bl k ∧ _
  wtm_at "rd"
  refine r_itebn (fun e1 => ?_) (fun e1 => ?_)
  · wtm_at "rd"
    refine r_new rfl fun u n_u => ?_
    generalize eq_u : upd _ u _ = H2
    have s_u : Same _ H2 := eq_u ▸ same_new n_u
    have h_u : H2 u = some _ := eq_u ▸ upd_same
    clear eq_u
    refine q u _ ?_ (s_t1.trans s_u)
    rw [h_u, F4.due, if_pos e1]
  wtm_at "rd"
  refine r_new rfl fun t2 n_t2 => ?_
  generalize eq_t2 : upd _ t2 _ = H2
  have s_t2 : Same _ H2 := eq_t2 ▸ same_new n_t2
  have h_t2 : H2 t2 = some _ := eq_t2 ▸ upd_same
  clear eq_t2
  have hp := s_t2 _ _ hp
  have s_t1 := s_t1.trans s_t2
  wtm_at "rd"
  refine r_inT (SqT.of h_t2) rfl rfl ?_
  show ∃ k, V.bl (!leftB f.w) = .bl k ∧ _
  wtm_at "rd"
  refine r_itebn (fun e2 => ?_) (fun e2 => ?_)
  · wtm_at "rd"
    refine r_new rfl fun u n_u => ?_
    generalize eq_u : upd _ u _ = H3
    have s_u : Same _ H3 := eq_u ▸ same_new n_u
    have h_u : H3 u = some _ := eq_u ▸ upd_same
    clear eq_u
    refine q u _ ?_ (s_t1.trans s_u)
    rw [h_u, F4.due, if_neg (by rw [e1]; exact fun z => nomatch z), if_pos e2]
  have fin : turnedB f.lo f.hi = true → ∀ u H3, H3 u = some (.lst [V.str "ends", endV f.lo, endV f.hi, .bl true, .bl false]) → Same H2 H3 → Q (.ref u) H3 := fun e3 u H3 hu su => q u _ (by rw [hu, F4.due, if_neg (by rw [e1]; exact fun z => nomatch z), if_neg (by rw [e2]; exact fun z => nomatch z), if_pos e3]) (s_t1.trans su)
  have fin0 : turnedB f.lo f.hi = false → ∀ u H3, H3 u = some (.lst [.str f.u, endV f.lo, endV f.hi, .str f.w]) → Same H2 H3 → Q (.ref u) H3 := fun e3 u H3 hu su => q u _ (by rw [hu, F4.due, if_neg (by rw [e1]; exact fun z => nomatch z), if_neg (by rw [e2]; exact fun z => nomatch z), if_neg (by rw [e3]; exact fun z => nomatch z)]; rfl) (s_t1.trans su)
  revert hp fin fin0
  generalize f.lo = lo
  generalize f.hi = hi
  intro hp fin fin0
  cases lo <;> cases hi
  all_goals simp only [endV] at hp fin fin0
  all_goals wtm_at "rdi"
  all_goals first
    | exact r_listA (.inl (SqL.of hp)) fun u nu => fin0 rfl u _ upd_same (same_new nu)
    | (rename_i z; exact r_listA (.inl (SqL.of hp)) fun u nu => fin0 (decide_eq_false z) u _ upd_same (same_new nu))
    | (rename_i z; exact r_new rfl fun u nu => fin (decide_eq_true z) u _ upd_same (same_new nu))
theorem ok_law (T : Txt K mg) : FnOk P w K mg base CX0 8 T.f_law T.d_law ["_law_script"] (spLaw K) := by
  refine T.F_law.ok sc_law (fun vs H Q E h => ?_) (fun cdv A outer s H vs Q E hr h => ?_)
  · obtain ⟨a, ns, rfl, _⟩ := h
    rfl
  obtain ⟨a, ns, rfl, hS, hlen, q⟩ := h
  refine ⟨_, (pss_cons (ps_set (i := 1) sc_law.nd rfl (by first | exact Or.inl rfl | exact Or.inr rfl) (pe_call (ok__law_begin T) (hr.mono (by decide)) (by rfl) T.g__law_begin T.F__law_begin.kp T.b__law_begin .nil pass0 (pa_cons (pv 0) pa_nil)))
      (pss_cons (ps_set (i := 2) sc_law.nd rfl (by first | exact Or.inl rfl | exact Or.inr rfl) (pe_lst pa_nil))
      (pss_cons (ps_for PassesOwn.never rfl (pi_range1 (by rfl) T.z_range (pa_cons pe_int pa_nil)) (pg_name (i := 3) sc_law.nd rfl (by first | exact Or.inl rfl | exact Or.inr rfl)) (pss_cons (ps_set (i := 4) sc_law.nd rfl (by first | exact Or.inl rfl | exact Or.inr rfl) (pe_call (ok__law_word T) (hr.mono (by decide)) (by rfl) T.g__law_word T.F__law_word.kp T.b__law_word .nil pass0 (pa_cons (pv 1) (pa_cons (pe_lst (pa_cons pe_str (pa_cons pe_str (pa_cons pe_str pa_nil)))) pa_nil))))
      (pss_cons (ps_set (i := 5) sc_law.nd rfl (by first | exact Or.inl rfl | exact Or.inr rfl) (pe_call (ok__law_word T) (hr.mono (by decide)) (by rfl) T.g__law_word T.F__law_word.kp T.b__law_word .nil pass0 (pa_cons (pv 1) (pa_cons (pe_lst (pa_cons pe_str (pa_cons pe_str (pa_cons pe_str (pa_cons pe_str pa_nil))))) pa_nil))))
      (pss_one (ps_expr (pe_bm PySem.F.plainAttrs_list PySem.F.slot_list_append PySem.F.type_list_append mt_append (pv 2) (pa_cons (pe_lst (pa_cons (pv 4) (pa_cons (pe_call (ok__law_end T) (hr.mono (by decide)) (by rfl) T.g__law_end T.F__law_end.kp T.b__law_end .nil pass0 (pa_cons (pv 1) (pa_cons pe_str pa_nil))) (pa_cons (pe_call (ok__law_end T) (hr.mono (by decide)) (by rfl) T.g__law_end T.F__law_end.kp T.b__law_end .nil pass0 (pa_cons (pv 1) (pa_cons pe_str pa_nil))) (pa_cons (pv 5) pa_nil))))) pa_nil)))))))
      (pss_cons (ps_for PassesOwn.never rfl (pi_list (pe_op op_cat (pv 2) (pe_slice sl_list (pv 2) po_none (po_some pe_int)))) (pg_name (i := 6) sc_law.nd rfl (by first | exact Or.inl rfl | exact Or.inr rfl)) (pss_cons (ps_set (i := 7) sc_law.nd rfl (by first | exact Or.inl rfl | exact Or.inr rfl) (pe_call (ok__law_due T) (hr.mono (by decide)) (by rfl) T.g__law_due T.F__law_due.kp T.b__law_due .nil pass0 (pa_cons (pv 6) pa_nil)))
      (pss_cons (ps_if (pt_cmpR (op_neD hr.units) (pe_call (ok__law_made T) (hr.mono (by decide)) (by rfl) T.g__law_made T.F__law_made.kp T.b__law_made .nil pass0 (pa_cons (pe_callTy c_listA (by rfl) T.z_list (by decide +kernel) (pa_cons (pv 6) pa_nil)) pa_nil)) (pv 7) (nomark _)) (pss_one (ps_ret pe_bl)) pss_nil)
      (pss_one (ps_if (pt_cmpR op_ne (pe_call (ok__law_base T) (hr.mono (by decide)) (by rfl) T.g__law_base T.F__law_base.kp T.b__law_base .nil pass0 (pa_cons (pe_callTy c_listA (by rfl) T.z_list (by decide +kernel) (pa_cons (pv 6) pa_nil)) pa_nil)) (pe_cmpR op_in_seq (pe_ix (r := rIxL K) ix_list (pv 7) pe_int (fun _ _ => rfl)) (pe_tup (pa_cons pe_str (pa_cons pe_str pa_nil))) (by rfl)) (nomark _)) (pss_one (ps_ret pe_bl)) pss_nil)))))
      (pss_one (ps_ret pe_bl)))))), ?_⟩
  try simp only [nox_K, cx_K]
  wtm_at "rd"
  refine ⟨a, ns, rfl, hS, hlen, fun d c r H1 D1 s1 nd nc nr => ?_⟩
  wtm_at "rd"
  refine r_new rfl fun L nL => ?_
  have Ld := D1.ned nL
  have Lr := D1.ner nL
  have Lc := D1.nec nL
  wtm_at "rd"
  refine r_for (r_rng1 ?_)
  wtm_at "rd"
  refine r_upto (by decide) (by decide) ?_
  refine for_range (fun i σ H' => ∃ (x3 x4 x5 x6 x7 : Option V) (as : List Addr), σ = [some (.ref a), some (.ref d), some (.ref L), x3, x4, x5, x6, x7] ∧ Drw H' d c r ∧ H' L = some (.lst (as.map V.ref)) ∧ As H' as ∧ as.length ≤ i) ⟨_, _, _, _, _, [], rfl, D1.new nL, upd_same, fun _ z => (nomatch z), Nat.le_refl _⟩ ?_ ?_
  · rintro i σ H3 hi ⟨x3, x4, x5, x6, x7, as, rfl, D3, hL3, F3, li⟩
    have hi : i < 3 := hi
    wtm_at "rd"
    have F3 : As H3 as := F3
    refine r_new rfl fun w1 n_w1 => ?_
    generalize eq_w1 : upd _ w1 _ = H4
    have s_w1 : Same _ H4 := eq_w1 ▸ same_new n_w1
    have h_w1 : H4 w1 = some _ := eq_w1 ▸ upd_same
    clear eq_w1
    have D3 := D3.same s_w1
    have hL3 := s_w1 _ _ hL3
    have F3 := F3.to fun a' f' z => s_w1 _ _ z
    wtm_at "rd"
    refine ⟨d, c, r, w1, ["rows", "groups", "keys"], rfl, D3, h_w1, by decide, by decide, wl_ok, fun u H5 hu D5 E5 => ?_⟩
    have hL5 := E5 _ _ hL3 Ld Lr
    have F5 := F3.to fun a' f' h => E5 _ _ h (four_d D3 h).1 (four_d D3 h).2
    wtm_at "rd"
    refine r_new rfl fun w2 n_w2 => ?_
    generalize eq_w2 : upd _ w2 _ = H6
    have s_w2 : Same _ H6 := eq_w2 ▸ same_new n_w2
    have h_w2 : H6 w2 = some _ := eq_w2 ▸ upd_same
    clear eq_w2
    have D5 := D5.same s_w2
    have hL5 := s_w2 _ _ hL5
    have F5 := F5.to fun a' f' z => s_w2 _ _ z
    wtm_at "rd"
    refine ⟨d, c, r, w2, ["nothing", "current", "group", "ties"], rfl, D5, h_w2, by decide, by decide, wl2_ok, fun w H7 hw D7 E7 => ?_⟩
    have hL7 := E7 _ _ hL5 Ld Lr
    have F7 := F5.to fun a' f' h => E7 _ _ h (four_d D5 h).1 (four_d D5 h).2
    wtm_at "rd"
    refine r_tyL (SqL.of hL7) ?_
    wtm_at "rd"
    refine ⟨d, c, r, _, rfl, D7, fun lo H8 D8 E8 => ?_⟩
    have hL8 := E8 _ _ hL7 Ld Lr
    have F8 := F7.to fun a' f' h => E8 _ _ h (four_d D7 h).1 (four_d D7 h).2
    wtm_at "rd"
    refine ⟨d, c, r, _, rfl, D8, fun hi' H9 D9 E9 => ?_⟩
    have hL9 := E9 _ _ hL8 Ld Lr
    have F9 := F8.to fun a' f' h => E9 _ _ h (four_d D8 h).1 (four_d D8 h).2
    wtm_at "rd"
    refine r_new rfl fun y n_y => ?_
    generalize eq_y : upd _ y _ = H10
    have s_y : Same _ H10 := eq_y ▸ same_new n_y
    have h_y : H10 y = some _ := eq_y ▸ upd_same
    clear eq_y
    have D9 := D9.same s_y
    have hL9 := s_y _ _ hL9
    have F9 := F9.to fun a' f' z => s_y _ _ z
    wtm_at "rd"
    refine r_app hL9 (small1000 (by rw [List.length_map]; omega)) ?_
    wtm_at "rd"
    have h_y : H10 y = some (.lst (F4.vs ⟨u, lo, hi', w⟩)) := h_y
    exact ⟨_, _, _, _, _, as ++ [y], rfl, D9.put Ld Lr Lc, by rw [upd_same, List.map_append]; rfl, As.snoc (F9.to fun a' f' h => (upd_ne (four_L h hL9)).trans h) ((upd_ne (four_L h_y hL9)).trans h_y) ⟨hu, hw⟩, by rw [List.length_append]; show as.length + 1 ≤ i + 1; omega⟩
  rintro σ H3 ⟨x3, x4, x5, x6, x7, as, rfl, D3, hL3, F3, li⟩
  have li : as.length ≤ 3 := li
  wtm_at "rd"
  refine r_for (r_il ?_)
  wtm_at "rd"
  refine r_slL (SqL.of hL3) fun b1 n_b1 => ?_
  obtain ⟨bs, ebs, lbs, mbs⟩ := cut_mem (as := as) (lo := none) (hi := some 1)
  rw [ebs]
  have F3 : As H3 as := F3
  generalize eq_b1 : upd _ b1 _ = H4
  have s_b1 : Same _ H4 := eq_b1 ▸ same_new n_b1
  have h_b1 : H4 b1 = some _ := eq_b1 ▸ upd_same
  clear eq_b1
  have hL3 := s_b1 _ _ hL3
  have F4' := F3.to fun a' f' z => s_b1 _ _ z
  refine ⟨L, b1, _, _, rfl, rfl, hL3, h_b1, Nat.le_of_lt (small1000 (by rw [List.length_map, List.length_map]; omega)), fun b2 n_b2 => ?_⟩
  rw [← List.map_append]
  generalize eq_b2 : upd _ b2 _ = H5
  have s_b2 : Same _ H5 := eq_b2 ▸ same_new n_b2
  have h_b2 : H5 b2 = some _ := eq_b2 ▸ upd_same
  clear eq_b2
  have F5 := F4'.to fun a' f' z => s_b2 _ _ z
  refine r_itl (SqL.of h_b2) ?_
  refine for_list (K := K) (a := b2) (xs := (as ++ bs).map V.ref) (fun i σ H' => ∃ (x3 x4 x5 x6 x7 : Option V), σ = [some (.ref a), some (.ref d), some (.ref L), x3, x4, x5, x6, x7] ∧ Same H5 H') ⟨_, _, _, _, _, rfl, Same.refl _⟩ (fun i σ H' _ ⟨_, _, _, _, _, _, s8⟩ => SqL.of (s8 _ _ h_b2)) ?_ ?_
  · rintro i v σ H6 hv ⟨x3, x4, x5, x6, x7, rfl, s6⟩
    obtain ⟨b, hb, rfl⟩ := List.mem_map.mp (List.mem_of_getElem? hv)
    have hb : b ∈ as := by
      rcases List.mem_append.mp hb with z | z
      · exact z
      · exact mbs b z
    obtain ⟨f, hbf, okf⟩ := F5 b hb
    have hbf := s6 _ _ hbf
    wtm_at "rd"
    refine ⟨b, f, rfl, hbf, okf, fun du H7 hdu s7 => ?_⟩
    have hbf := s7 _ _ hbf
    have s6 := s6.trans s7
    wtm_at "rd"
    refine r_listA (.inl (SqL.of hbf)) fun l1 n_l1 => ?_
    generalize eq_l1 : upd _ l1 _ = H8
    have s_l1 : Same _ H8 := eq_l1 ▸ same_new n_l1
    have h_l1 : H8 l1 = some _ := eq_l1 ▸ upd_same
    clear eq_l1
    have hbf := s_l1 _ _ hbf
    have hdu := s_l1 _ _ hdu
    have s6 := s6.trans s_l1
    wtm_at "rd"
    refine ⟨l1, f, rfl, h_l1, okf, fun ma H9 hma s9 => ?_⟩
    have hbf := s9 _ _ hbf
    have hdu := s9 _ _ hdu
    have s6 := s6.trans s9
    wtm_at "rd"
    refine r_neLL (SqL.of hma) (SqL.of hdu) (due_eqD okf) (due_eqD okf) (kind_refl _) ?_
    wtm_at "rdi"
    · rename_i z
      exact absurd rfl z
    refine r_listA (.inl (SqL.of hbf)) fun l2 n_l2 => ?_
    generalize eq_l2 : upd _ l2 _ = H10
    have s_l2 : Same _ H10 := eq_l2 ▸ same_new n_l2
    have h_l2 : H10 l2 = some _ := eq_l2 ▸ upd_same
    clear eq_l2
    have hdu := s_l2 _ _ hdu
    have s6 := s6.trans s_l2
    wtm_at "rd"
    refine ⟨l2, f, rfl, h_l2, okf, fun H11 s11 => ?_⟩
    have hdu := s11 _ _ hdu
    have s6 := s6.trans s11
    obtain ⟨rest, er⟩ := due_first f
    rw [er] at hdu
    wtm_at "rd"
    refine r_ixL (SqL.of hdu) (show atI (V.str f.first :: rest) ((0 : Nat) : Int) = some (.str f.first) from atI_nat rfl) ?_
    wtm_at "rd"
    refine r_new rfl fun t3 n_t3 => ?_
    generalize eq_t3 : upd _ t3 _ = H12
    have s_t3 : Same _ H12 := eq_t3 ▸ same_new n_t3
    have h_t3 : H12 t3 = some _ := eq_t3 ▸ upd_same
    clear eq_t3
    have s6 := s6.trans s_t3
    wtm_at "rd"
    refine r_inT (SqT.of h_t3) rfl rfl ?_
    show rNe (V.bl f.bad) (V.bl (inV (.str f.first) [V.str "word", V.str "ends"])) _ _
    rw [first_bad]
    wtm_at "rd"
    rw [beq_self_eq_true]
    wtm_at "rdi"
    exact ⟨_, _, _, _, _, rfl, s6⟩
  · rintro σ H6 ⟨x3, x4, x5, x6, x7, rfl, s6⟩
    wtm_at "rd"
    exact q _
end
theorem all_mk {l : PySem.W.OpenLaw} {w : World} {K : PySem.W.Frag} {h : Heap} {mg : Str → Option Value} {fa : Addr} (X : K.In h) (G : h.Ns mainGlobals mg) (hfa : mg "law" = some (.ref fa))
    {C_WindowError : Addr}
    {C_TurnedStretch : Addr}
    {nm_TurnedStretch q_TurnedStretch : Str} {N_TurnedStretch : Addr} {bs_TurnedStretch bm_TurnedStretch : List Value} {sn_TurnedStretch : List Str} {sub_TurnedStretch : List Value} {ab_TurnedStretch : Bool} {col_TurnedStretch : Option Bool} {dd_TurnedStretch : Option Addr} {m0_TurnedStretch m1_TurnedStretch m2_TurnedStretch m3_TurnedStretch m5_TurnedStretch : Option Value}
    {C_BadFrame : Addr}
    {nm_BadFrame q_BadFrame : Str} {N_BadFrame : Addr} {bs_BadFrame bm_BadFrame : List Value} {sn_BadFrame : List Str} {sub_BadFrame : List Value} {ab_BadFrame : Bool} {col_BadFrame : Option Bool} {dd_BadFrame : Option Addr} {m0_BadFrame m1_BadFrame m2_BadFrame m3_BadFrame m5_BadFrame : Option Value}
    {C_Frame : Addr}
    {cK_UNITS : Addr} {it_UNITS : Array Value} {nn_UNITS : Nat} {sl_UNITS : Array (Option Value)}
    {cK_LEFT_OUT : Addr} {it_LEFT_OUT : Array Value} {nn_LEFT_OUT : Nat} {sl_LEFT_OUT : Array (Option Value)}
    {od0 an0 : Option Addr} {sl0 : Array (Option Value)} {oc0 kV0 dc0 pm0 cd0 ct0 : Value} {f0 : Addr}
    {od1 an1 : Option Addr} {sl1 : Array (Option Value)} {oc1 kV1 dc1 pm1 cd1 ct1 : Value} {f1 : Addr}
    {od2 an2 : Option Addr} {sl2 : Array (Option Value)} {oc2 kV2 dc2 pm2 cd2 ct2 : Value} {f2 : Addr}
    {od3 an3 : Option Addr} {sl3 : Array (Option Value)} {oc3 kV3 dc3 pm3 cd3 ct3 : Value} {f3 : Addr}
    {od4 an4 : Option Addr} {sl4 : Array (Option Value)} {oc4 kV4 dc4 pm4 cd4 ct4 : Value} {f4 : Addr}
    {od5 an5 : Option Addr} {sl5 : Array (Option Value)} {oc5 kV5 dc5 pm5 cd5 ct5 : Value} {f5 : Addr}
    {od6 an6 : Option Addr} {sl6 : Array (Option Value)} {oc6 kV6 dc6 pm6 cd6 ct6 : Value} {f6 : Addr}
    {od7 an7 : Option Addr} {sl7 : Array (Option Value)} {oc7 kV7 dc7 pm7 cd7 ct7 : Value} {f7 : Addr}
    {od8 an8 : Option Addr} {sl8 : Array (Option Value)} {oc8 kV8 dc8 pm8 cd8 ct8 : Value} {f8 : Addr}
    {od9 an9 : Option Addr} {sl9 : Array (Option Value)} {oc9 kV9 dc9 pm9 cd9 ct9 : Value} {f9 : Addr}
    {od10 an10 : Option Addr} {sl10 : Array (Option Value)} {oc10 kV10 dc10 pm10 cd10 ct10 : Value} {f10 : Addr}
    {od11 an11 : Option Addr} {sl11 : Array (Option Value)} {oc11 kV11 dc11 pm11 cd11 ct11 : Value} {f11 : Addr}
    (aC_WindowError : PySem.W.nsIn K mainGlobals "WindowError" = some (some (.ref C_WindowError)))
    (aC_TurnedStretch : PySem.W.nsIn K mainGlobals "TurnedStretch" = some (some (.ref C_TurnedStretch)))
    (aC_BadFrame : PySem.W.nsIn K mainGlobals "BadFrame" = some (some (.ref C_BadFrame)))
    (aC_Frame : PySem.W.nsIn K mainGlobals "Frame" = some (some (.ref C_Frame)))
    (aC_UNITS : PySem.W.nsIn K mainGlobals "UNITS" = some (some (.ref cK_UNITS)))
    (aC_LEFT_OUT : PySem.W.nsIn K mainGlobals "LEFT_OUT" = some (some (.ref cK_LEFT_OUT)))
    (a0 : PySem.W.findIn K (.ref C_TurnedStretch) "__init__" = some (some (.ref f0)))
    (i0 : PySem.W.isFn K (.ref f0) = true)
    (l0 : K.lookup f0 = some ⟨oc0, od0, .func (PySem.W.fnOf "__init__" "TurnedStretch.__init__" (defArgs s_TurnedStretch___init__) (defBody s_TurnedStretch___init__) (defScope s_TurnedStretch___init__) .none kV0 dc0 pm0 an0 cd0 ct0), sl0⟩)
    (c0 : PySem.W.codeIn K cd0 "TurnedStretch.__init__" = true)
    (k0 : PySem.W.keepIn K (.ref f0) = true)
    (a1 : PySem.W.findIn K (.ref C_BadFrame) "__init__" = some (some (.ref f1)))
    (i1 : PySem.W.isFn K (.ref f1) = true)
    (l1 : K.lookup f1 = some ⟨oc1, od1, .func (PySem.W.fnOf "__init__" "BadFrame.__init__" (defArgs s_BadFrame___init__) (defBody s_BadFrame___init__) (defScope s_BadFrame___init__) .none kV1 dc1 pm1 an1 cd1 ct1), sl1⟩)
    (c1 : PySem.W.codeIn K cd1 "BadFrame.__init__" = true)
    (k1 : PySem.W.keepIn K (.ref f1) = true)
    (a2 : PySem.W.nsIn K mainGlobals "turned_ends" = some (some (.ref f2)))
    (l2 : K.lookup f2 = some ⟨oc2, od2, .func (PySem.W.fnOf "turned_ends" "turned_ends" (defArgs s_turned_ends) (defBody s_turned_ends) (defScope s_turned_ends) .none kV2 dc2 pm2 an2 cd2 ct2), sl2⟩)
    (c2 : PySem.W.codeIn K cd2 "turned_ends" = true)
    (k2 : PySem.W.keepIn K (.ref f2) = true)
    (a3 : PySem.W.findIn K (.ref C_Frame) "__init__" = some (some (.ref f3)))
    (i3 : PySem.W.isFn K (.ref f3) = true)
    (l3 : K.lookup f3 = some ⟨oc3, od3, .func (PySem.W.fnOf "__init__" "Frame.__init__" (defArgs s_Frame___init__) (defBody s_Frame___init__) (defScope s_Frame___init__) .none kV3 dc3 pm3 an3 cd3 ct3), sl3⟩)
    (c3 : PySem.W.codeIn K cd3 "Frame.__init__" = true)
    (k3 : PySem.W.keepIn K (.ref f3) = true)
    (a4 : PySem.W.nsIn K mainGlobals "_law_begin" = some (some (.ref f4)))
    (l4 : K.lookup f4 = some ⟨oc4, od4, .func (PySem.W.fnOf "_law_begin" "_law_begin" (defArgs s__law_begin) (defBody s__law_begin) (defScope s__law_begin) .none kV4 dc4 pm4 an4 cd4 ct4), sl4⟩)
    (c4 : PySem.W.codeIn K cd4 "_law_begin" = true)
    (k4 : PySem.W.keepIn K (.ref f4) = true)
    (a5 : PySem.W.nsIn K mainGlobals "_law_draw" = some (some (.ref f5)))
    (l5 : K.lookup f5 = some ⟨oc5, od5, .func (PySem.W.fnOf "_law_draw" "_law_draw" (defArgs s__law_draw) (defBody s__law_draw) (defScope s__law_draw) .none kV5 dc5 pm5 an5 cd5 ct5), sl5⟩)
    (c5 : PySem.W.codeIn K cd5 "_law_draw" = true)
    (k5 : PySem.W.keepIn K (.ref f5) = true)
    (a6 : PySem.W.nsIn K mainGlobals "_law_end" = some (some (.ref f6)))
    (l6 : K.lookup f6 = some ⟨oc6, od6, .func (PySem.W.fnOf "_law_end" "_law_end" (defArgs s__law_end) (defBody s__law_end) (defScope s__law_end) .none kV6 dc6 pm6 an6 cd6 ct6), sl6⟩)
    (c6 : PySem.W.codeIn K cd6 "_law_end" = true)
    (k6 : PySem.W.keepIn K (.ref f6) = true)
    (a7 : PySem.W.nsIn K mainGlobals "_law_word" = some (some (.ref f7)))
    (l7 : K.lookup f7 = some ⟨oc7, od7, .func (PySem.W.fnOf "_law_word" "_law_word" (defArgs s__law_word) (defBody s__law_word) (defScope s__law_word) .none kV7 dc7 pm7 an7 cd7 ct7), sl7⟩)
    (c7 : PySem.W.codeIn K cd7 "_law_word" = true)
    (k7 : PySem.W.keepIn K (.ref f7) = true)
    (a8 : PySem.W.nsIn K mainGlobals "_law_made" = some (some (.ref f8)))
    (l8 : K.lookup f8 = some ⟨oc8, od8, .func (PySem.W.fnOf "_law_made" "_law_made" (defArgs s__law_made) (defBody s__law_made) (defScope s__law_made) .none kV8 dc8 pm8 an8 cd8 ct8), sl8⟩)
    (c8 : PySem.W.codeIn K cd8 "_law_made" = true)
    (k8 : PySem.W.keepIn K (.ref f8) = true)
    (a9 : PySem.W.nsIn K mainGlobals "_law_base" = some (some (.ref f9)))
    (l9 : K.lookup f9 = some ⟨oc9, od9, .func (PySem.W.fnOf "_law_base" "_law_base" (defArgs s__law_base) (defBody s__law_base) (defScope s__law_base) .none kV9 dc9 pm9 an9 cd9 ct9), sl9⟩)
    (c9 : PySem.W.codeIn K cd9 "_law_base" = true)
    (k9 : PySem.W.keepIn K (.ref f9) = true)
    (a10 : PySem.W.nsIn K mainGlobals "_law_due" = some (some (.ref f10)))
    (l10 : K.lookup f10 = some ⟨oc10, od10, .func (PySem.W.fnOf "_law_due" "_law_due" (defArgs s__law_due) (defBody s__law_due) (defScope s__law_due) .none kV10 dc10 pm10 an10 cd10 ct10), sl10⟩)
    (c10 : PySem.W.codeIn K cd10 "_law_due" = true)
    (k10 : PySem.W.keepIn K (.ref f10) = true)
    (a11 : PySem.W.nsIn K mainGlobals "law" = some (some (.ref f11)))
    (l11 : K.lookup f11 = some ⟨oc11, od11, .func (PySem.W.fnOf "law" "law" (defArgs s_law) (defBody s_law) (defScope s_law) .none kV11 dc11 pm11 an11 cd11 ct11), sl11⟩)
    (c11 : PySem.W.codeIn K cd11 "law" = true)
    (k11 : PySem.W.keepIn K (.ref f11) = true)
    (z_ValueError : PySem.W.nsIn K mainGlobals "ValueError" = some none)
    (z_abs : PySem.W.nsIn K mainGlobals "abs" = some none)
    (z_int : PySem.W.nsIn K mainGlobals "int" = some none)
    (z_isinstance : PySem.W.nsIn K mainGlobals "isinstance" = some none)
    (z_len : PySem.W.nsIn K mainGlobals "len" = some none)
    (z_list : PySem.W.nsIn K mainGlobals "list" = some none)
    (z_range : PySem.W.nsIn K mainGlobals "range" = some none)
    (ex_WindowError : PySem.W.subIn K (.ref C_WindowError) (.type "BaseException") = some true)
    (ty_WindowError : PySem.W.typeIn K (.ref C_WindowError) = some (.type "type"))
    (hd_WindowError : PySem.W.hasDictIn K C_WindowError = true)
    (ex_TurnedStretch : PySem.W.subIn K (.ref C_TurnedStretch) (.type "BaseException") = some true)
    (ty_TurnedStretch : PySem.W.typeIn K (.ref C_TurnedStretch) = some (.type "type"))
    (hd_TurnedStretch : PySem.W.hasDictIn K C_TurnedStretch = true)
    (xL_TurnedStretch : K.lookup C_TurnedStretch = some (excClassObj nm_TurnedStretch q_TurnedStretch C_TurnedStretch N_TurnedStretch bs_TurnedStretch bm_TurnedStretch true sn_TurnedStretch sub_TurnedStretch ab_TurnedStretch col_TurnedStretch dd_TurnedStretch m0_TurnedStretch m1_TurnedStretch m2_TurnedStretch m3_TurnedStretch m5_TurnedStretch "ValueError.__new__"))
    (bmr_TurnedStretch : PySem.HandSPX.refsVE bm_TurnedStretch = true)
    (sa_TurnedStretch : PySem.W.findIn K (.ref C_TurnedStretch) "__setattr__" = some (some (.builtin "object.__setattr__")))
    (kc_TurnedStretch : PySem.W.keepIn K (.ref C_TurnedStretch) = true)
    (ga_TurnedStretch : PySem.W.findIn K (.ref C_TurnedStretch) "__getattribute__" = some (some (.builtin "BaseException.__getattribute__")))
    (gg_TurnedStretch : PySem.W.findIn K (.ref C_TurnedStretch) "__getattr__" = some none)
    (tI_TurnedStretch : PySem.W.typeIn K (.ref f0) = some (.type "function"))
    (nf_TurnedStretch_low : PySem.W.findIn K (.ref C_TurnedStretch) "low" = some none)
    (nf_TurnedStretch_high : PySem.W.findIn K (.ref C_TurnedStretch) "high" = some none)
    (ca_TurnedStretch : PySem.W.findIn K (.ref C_TurnedStretch) "__class__" = some (some (.builtin "object.__class__")))
    (cn_TurnedStretch : PySem.W.specialIn K (.builtin "object.__class__") "__get__" = some (some (.builtin "getset_descriptor.__get__")))
    (ct_TurnedStretch : PySem.W.takesIn K (.builtin "object.__class__") = some true)
    (cm_TurnedStretch : PySem.W.mroIn K C_TurnedStretch (.type "object") = some true)
    (ke_TurnedStretch_WindowError : PySem.W.kitOne K (.ref C_TurnedStretch) (.ref C_WindowError) = some true)
    (ke_TurnedStretch_BadFrame : PySem.W.kitOne K (.ref C_TurnedStretch) (.ref C_BadFrame) = some false)
    (ke_TurnedStretch_ValueError : PySem.W.kitOne K (.ref C_TurnedStretch) (.type "ValueError") = some true)
    (su_TurnedStretch_BadFrame : PySem.W.subIn K (.ref C_TurnedStretch) (.ref C_BadFrame) = some false)
    (su_TurnedStretch_TurnedStretch : PySem.W.subIn K (.ref C_TurnedStretch) (.ref C_TurnedStretch) = some true)
    (is_TurnedStretch_TurnedStretch : PySem.W.isIn K (.ref C_TurnedStretch) C_TurnedStretch = true)
    (su_TurnedStretch_WindowError : PySem.W.subIn K (.ref C_TurnedStretch) (.ref C_WindowError) = some true)
    (is_TurnedStretch_WindowError : PySem.W.isIn K (.ref C_TurnedStretch) C_WindowError = true)
    (ex_BadFrame : PySem.W.subIn K (.ref C_BadFrame) (.type "BaseException") = some true)
    (ty_BadFrame : PySem.W.typeIn K (.ref C_BadFrame) = some (.type "type"))
    (hd_BadFrame : PySem.W.hasDictIn K C_BadFrame = true)
    (xL_BadFrame : K.lookup C_BadFrame = some (excClassObj nm_BadFrame q_BadFrame C_BadFrame N_BadFrame bs_BadFrame bm_BadFrame true sn_BadFrame sub_BadFrame ab_BadFrame col_BadFrame dd_BadFrame m0_BadFrame m1_BadFrame m2_BadFrame m3_BadFrame m5_BadFrame "ValueError.__new__"))
    (bmr_BadFrame : PySem.HandSPX.refsVE bm_BadFrame = true)
    (sa_BadFrame : PySem.W.findIn K (.ref C_BadFrame) "__setattr__" = some (some (.builtin "object.__setattr__")))
    (kc_BadFrame : PySem.W.keepIn K (.ref C_BadFrame) = true)
    (ga_BadFrame : PySem.W.findIn K (.ref C_BadFrame) "__getattribute__" = some (some (.builtin "BaseException.__getattribute__")))
    (gg_BadFrame : PySem.W.findIn K (.ref C_BadFrame) "__getattr__" = some none)
    (tI_BadFrame : PySem.W.typeIn K (.ref f1) = some (.type "function"))
    (nf_BadFrame_word : PySem.W.findIn K (.ref C_BadFrame) "word" = some none)
    (ca_BadFrame : PySem.W.findIn K (.ref C_BadFrame) "__class__" = some (some (.builtin "object.__class__")))
    (cn_BadFrame : PySem.W.specialIn K (.builtin "object.__class__") "__get__" = some (some (.builtin "getset_descriptor.__get__")))
    (ct_BadFrame : PySem.W.takesIn K (.builtin "object.__class__") = some true)
    (cm_BadFrame : PySem.W.mroIn K C_BadFrame (.type "object") = some true)
    (ke_BadFrame_WindowError : PySem.W.kitOne K (.ref C_BadFrame) (.ref C_WindowError) = some true)
    (ke_BadFrame_TurnedStretch : PySem.W.kitOne K (.ref C_BadFrame) (.ref C_TurnedStretch) = some false)
    (ke_BadFrame_ValueError : PySem.W.kitOne K (.ref C_BadFrame) (.type "ValueError") = some true)
    (su_BadFrame_BadFrame : PySem.W.subIn K (.ref C_BadFrame) (.ref C_BadFrame) = some true)
    (is_BadFrame_BadFrame : PySem.W.isIn K (.ref C_BadFrame) C_BadFrame = true)
    (su_BadFrame_WindowError : PySem.W.subIn K (.ref C_BadFrame) (.ref C_WindowError) = some true)
    (is_BadFrame_WindowError : PySem.W.isIn K (.ref C_BadFrame) C_WindowError = true)
    (pg_Frame : PySem.W.plainGet K C_Frame Str.empty = true)
    (hd_Frame : PySem.W.hasDictIn K C_Frame = true)
    (po_Frame : PySem.W.plainOver K C_Frame = true)
    (sa_Frame : PySem.W.findIn K (.ref C_Frame) "__setattr__" = some (some (.builtin "object.__setattr__")))
    (mk_Frame : PySem.W.makesIn K C_Frame = true)
    (kc_Frame : PySem.W.keepIn K (.ref C_Frame) = true)
    (nf_Frame_unit : PySem.W.findIn K (.ref C_Frame) "unit" = some none)
    (nf_Frame_start : PySem.W.findIn K (.ref C_Frame) "start" = some none)
    (nf_Frame_end : PySem.W.findIn K (.ref C_Frame) "end" = some none)
    (nf_Frame_without : PySem.W.findIn K (.ref C_Frame) "without" = some none)
    (ca_Frame : PySem.W.findIn K (.ref C_Frame) "__class__" = some (some (.builtin "object.__class__")))
    (cn_Frame : PySem.W.specialIn K (.builtin "object.__class__") "__get__" = some (some (.builtin "getset_descriptor.__get__")))
    (ct_Frame : PySem.W.takesIn K (.builtin "object.__class__") = some true)
    (cm_Frame : PySem.W.mroIn K C_Frame (.type "object") = some true)
    (lK_UNITS : K.lookup cK_UNITS = some ⟨.type "tuple", none, .seq it_UNITS nn_UNITS, sl_UNITS⟩)
    (vK_UNITS : Vals [V.str "rows", V.str "groups", V.str "keys"] it_UNITS.toList)
    (lK_LEFT_OUT : K.lookup cK_LEFT_OUT = some ⟨.type "tuple", none, .seq it_LEFT_OUT nn_LEFT_OUT, sl_LEFT_OUT⟩)
    (vK_LEFT_OUT : Vals [V.str "nothing", V.str "current", V.str "group", V.str "ties"] it_LEFT_OUT.toList)
    : ∃ fd : FuncData, (∀ (s : Shared) (v : Value), BindsTo s fd ⟨[v], []⟩ [("_law_script", v)]) ∧ ∀ base : Heap, K.In base → base.Ns mainGlobals mg → FnOk l.prog w K mg base CX0 8 fa fd ["_law_script"] (spLaw K) := by
  have e := hfa.symm.trans (PySem.W.mg_of X G a11)
  cases e
  have F0 := fun_mk (st := s_TurnedStretch___init__) l0 c0 k0
  have b0 := F0.binds (ps := ["self", "low", "high"]) fun _ _ _ _ _ _ us hl => match us, hl with | [_, _, _], _ => rfl
  have F1 := fun_mk (st := s_BadFrame___init__) l1 c1 k1
  have b1 := F1.binds (ps := ["self", "word"]) fun _ _ _ _ _ _ us hl => match us, hl with | [_, _], _ => rfl
  have F2 := fun_mk (st := s_turned_ends) l2 c2 k2
  have b2 := F2.binds (ps := ["start", "end"]) fun _ _ _ _ _ _ us hl => match us, hl with | [_, _], _ => rfl
  have F3 := fun_mk (st := s_Frame___init__) l3 c3 k3
  have F4 := fun_mk (st := s__law_begin) l4 c4 k4
  have b4 := F4.binds (ps := ["_law_script"]) fun _ _ _ _ _ _ us hl => match us, hl with | [_], _ => rfl
  have F5 := fun_mk (st := s__law_draw) l5 c5 k5
  have b5 := F5.binds (ps := ["_law_draws", "_law_many"]) fun _ _ _ _ _ _ us hl => match us, hl with | [_, _], _ => rfl
  have F6 := fun_mk (st := s__law_end) l6 c6 k6
  have b6 := F6.binds (ps := ["_law_draws", "_law_word_here"]) fun _ _ _ _ _ _ us hl => match us, hl with | [_, _], _ => rfl
  have F7 := fun_mk (st := s__law_word) l7 c7 k7
  have b7 := F7.binds (ps := ["_law_draws", "_law_words"]) fun _ _ _ _ _ _ us hl => match us, hl with | [_, _], _ => rfl
  have F8 := fun_mk (st := s__law_made) l8 c8 k8
  have b8 := F8.binds (ps := ["_law_four"]) fun _ _ _ _ _ _ us hl => match us, hl with | [_], _ => rfl
  have F9 := fun_mk (st := s__law_base) l9 c9 k9
  have b9 := F9.binds (ps := ["_law_four"]) fun _ _ _ _ _ _ us hl => match us, hl with | [_], _ => rfl
  have F10 := fun_mk (st := s__law_due) l10 c10 k10
  have b10 := F10.binds (ps := ["_law_four"]) fun _ _ _ _ _ _ us hl => match us, hl with | [_], _ => rfl
  have F11 := fun_mk (st := s_law) l11 c11 k11
  have b11 := F11.binds (ps := ["_law_script"]) fun _ _ _ _ _ _ us hl => match us, hl with | [_], _ => rfl
  let T : Txt K mg := {
    f_TurnedStretch___init__ := f0,
    d_TurnedStretch___init__ := _,
    F_TurnedStretch___init__ := F0,
    b_TurnedStretch___init__ := b0,
    f_BadFrame___init__ := f1,
    d_BadFrame___init__ := _,
    F_BadFrame___init__ := F1,
    b_BadFrame___init__ := b1,
    f_turned_ends := f2,
    d_turned_ends := _,
    F_turned_ends := F2,
    b_turned_ends := b2,
    g_turned_ends := PySem.W.mg_of X G a2,
    f_Frame___init__ := f3,
    d_Frame___init__ := _,
    F_Frame___init__ := F3,
    kn_Frame___init__ := kb_mkN F3 (fun _ _ _ _ _ _ us ws hl hm => match us, ws, hl, hm with | [_, _, _, _], [_], _, _ => rfl),
    f__law_begin := f4,
    d__law_begin := _,
    F__law_begin := F4,
    b__law_begin := b4,
    g__law_begin := PySem.W.mg_of X G a4,
    f__law_draw := f5,
    d__law_draw := _,
    F__law_draw := F5,
    b__law_draw := b5,
    g__law_draw := PySem.W.mg_of X G a5,
    f__law_end := f6,
    d__law_end := _,
    F__law_end := F6,
    b__law_end := b6,
    g__law_end := PySem.W.mg_of X G a6,
    f__law_word := f7,
    d__law_word := _,
    F__law_word := F7,
    b__law_word := b7,
    g__law_word := PySem.W.mg_of X G a7,
    f__law_made := f8,
    d__law_made := _,
    F__law_made := F8,
    b__law_made := b8,
    g__law_made := PySem.W.mg_of X G a8,
    f__law_base := f9,
    d__law_base := _,
    F__law_base := F9,
    b__law_base := b9,
    g__law_base := PySem.W.mg_of X G a9,
    f__law_due := f10,
    d__law_due := _,
    F__law_due := F10,
    b__law_due := b10,
    g__law_due := PySem.W.mg_of X G a10,
    f_law := fa,
    d_law := _,
    F_law := F11,
    b_law := b11,
    g_law := PySem.W.mg_of X G a11,
    z_ValueError := PySem.W.mg_none_of X G z_ValueError,
    z_abs := PySem.W.mg_none_of X G z_abs,
    z_int := PySem.W.mg_none_of X G z_int,
    z_isinstance := PySem.W.mg_none_of X G z_isinstance,
    z_len := PySem.W.mg_none_of X G z_len,
    z_list := PySem.W.mg_none_of X G z_list,
    z_range := PySem.W.mg_none_of X G z_range,
    C_WindowError := C_WindowError,
    g_WindowError := PySem.W.mg_of X G aC_WindowError,
    C_TurnedStretch := C_TurnedStretch,
    g_TurnedStretch := PySem.W.mg_of X G aC_TurnedStretch,
    ox_TurnedStretch := ⟨⟨nm_TurnedStretch, q_TurnedStretch, N_TurnedStretch, bs_TurnedStretch, bm_TurnedStretch, sn_TurnedStretch, sub_TurnedStretch, ab_TurnedStretch, col_TurnedStretch, dd_TurnedStretch, m0_TurnedStretch, m1_TurnedStretch, m2_TurnedStretch, m3_TurnedStretch, m5_TurnedStretch, xL_TurnedStretch, bmr_TurnedStretch⟩, sa_TurnedStretch, ex_TurnedStretch, ty_TurnedStretch, kc_TurnedStretch⟩,
    xf_TurnedStretch := ⟨ga_TurnedStretch, gg_TurnedStretch, ex_TurnedStretch, hd_TurnedStretch⟩,
    iC_TurnedStretch := a0,
    tI_TurnedStretch := tI_TurnedStretch,
    nf_TurnedStretch_low := nf_TurnedStretch_low,
    nf_TurnedStretch_high := nf_TurnedStretch_high,
    ec_TurnedStretch := ⟨ga_TurnedStretch, gg_TurnedStretch, ex_TurnedStretch, hd_TurnedStretch, ca_TurnedStretch, cn_TurnedStretch, ct_TurnedStretch, cm_TurnedStretch⟩,
    ke_TurnedStretch_WindowError := ke_TurnedStretch_WindowError,
    ke_TurnedStretch_BadFrame := ke_TurnedStretch_BadFrame,
    ke_TurnedStretch_ValueError := ke_TurnedStretch_ValueError,
    em_TurnedStretch_BadFrame := PySem.W.exm_ref ex_BadFrame hd_BadFrame ty_BadFrame su_TurnedStretch_BadFrame,
    em_TurnedStretch_TurnedStretch := PySem.W.exm_ref ex_TurnedStretch hd_TurnedStretch ty_TurnedStretch su_TurnedStretch_TurnedStretch,
    is_TurnedStretch_TurnedStretch := is_TurnedStretch_TurnedStretch,
    em_TurnedStretch_WindowError := PySem.W.exm_ref ex_WindowError hd_WindowError ty_WindowError su_TurnedStretch_WindowError,
    is_TurnedStretch_WindowError := is_TurnedStretch_WindowError,
    C_BadFrame := C_BadFrame,
    g_BadFrame := PySem.W.mg_of X G aC_BadFrame,
    ox_BadFrame := ⟨⟨nm_BadFrame, q_BadFrame, N_BadFrame, bs_BadFrame, bm_BadFrame, sn_BadFrame, sub_BadFrame, ab_BadFrame, col_BadFrame, dd_BadFrame, m0_BadFrame, m1_BadFrame, m2_BadFrame, m3_BadFrame, m5_BadFrame, xL_BadFrame, bmr_BadFrame⟩, sa_BadFrame, ex_BadFrame, ty_BadFrame, kc_BadFrame⟩,
    xf_BadFrame := ⟨ga_BadFrame, gg_BadFrame, ex_BadFrame, hd_BadFrame⟩,
    iC_BadFrame := a1,
    tI_BadFrame := tI_BadFrame,
    nf_BadFrame_word := nf_BadFrame_word,
    ec_BadFrame := ⟨ga_BadFrame, gg_BadFrame, ex_BadFrame, hd_BadFrame, ca_BadFrame, cn_BadFrame, ct_BadFrame, cm_BadFrame⟩,
    ke_BadFrame_WindowError := ke_BadFrame_WindowError,
    ke_BadFrame_TurnedStretch := ke_BadFrame_TurnedStretch,
    ke_BadFrame_ValueError := ke_BadFrame_ValueError,
    em_BadFrame_BadFrame := PySem.W.exm_ref ex_BadFrame hd_BadFrame ty_BadFrame su_BadFrame_BadFrame,
    is_BadFrame_BadFrame := is_BadFrame_BadFrame,
    em_BadFrame_WindowError := PySem.W.exm_ref ex_WindowError hd_WindowError ty_WindowError su_BadFrame_WindowError,
    is_BadFrame_WindowError := is_BadFrame_WindowError,
    C_Frame := C_Frame,
    g_Frame := PySem.W.mg_of X G aC_Frame,
    c_Frame := ⟨pg_Frame, hd_Frame, po_Frame, sa_Frame⟩,
    m_Frame := ⟨mk_Frame, a3, i3, kc_Frame⟩,
    nf_Frame_unit := nf_Frame_unit,
    nf_Frame_start := nf_Frame_start,
    nf_Frame_end := nf_Frame_end,
    nf_Frame_without := nf_Frame_without,
    ca_Frame := ca_Frame,
    cn_Frame := cn_Frame,
    ct_Frame := ct_Frame,
    cm_Frame := cm_Frame,
    a_UNITS := cK_UNITS,
    g_UNITS := PySem.W.mg_of X G aC_UNITS,
    q_UNITS := fun H => sqt_const lK_UNITS vK_UNITS (by decide),
    y_UNITS := fun H => .inr (.inl ⟨rfl, _, lK_UNITS, rfl, rfl⟩),
    a_LEFT_OUT := cK_LEFT_OUT,
    g_LEFT_OUT := PySem.W.mg_of X G aC_LEFT_OUT,
    q_LEFT_OUT := fun H => sqt_const lK_LEFT_OUT vK_LEFT_OUT (by decide),
    y_LEFT_OUT := fun H => .inr (.inl ⟨rfl, _, lK_LEFT_OUT, rfl, rfl⟩) }
  exact ⟨PySem.W.fnOf "law" "law" (defArgs s_law) (defBody s_law) (defScope s_law) .none kV11 dc11 pm11 an11 cd11 ct11, fun s v => .of_eq rfl, fun base _ _ => ok_law T⟩
end Wr
open PySem PySem.W PyProof.Rows
set_option maxRecDepth 100000 in
set_option maxHeartbeats 0 in
theorem PySem.Challenge.cw_windowrows_k36_frames_refused_holds : PySem.Challenge.rw_windowrows_k36_frames_refused.Holds := by
  w_on; o_law; k_head; (case hw => w_witness2)
  k_fill
  refine L2.walk_of (l := PySem.Challenge.rw_windowrows_k36_frames_refused) (n := 63) (k := 8) (x := "_law_script") (CX := fun _ => L2.CX0) (sp := fun w => Wr.spLaw _) rfl (by decide) rfl ⟨rfl, by decide, by decide⟩ (fun w h Y => PySem.W.kIn_of Y) ?F (fun _ _ a ns hl _ hS => ⟨a, ns, rfl, hS, hl, fun _ => rfl⟩) (fun _ _ _ _ _ h => h)
  case F =>
    intro w mg fa h KX G hmg
    refine' Wr.all_mk KX G hmg ?aC_WindowError ?aC_TurnedStretch ?aC_BadFrame ?aC_Frame ?aC_UNITS ?aC_LEFT_OUT ?a0 ?i0 ?l0 ?c0 ?k0 ?a1 ?i1 ?l1 ?c1 ?k1 ?a2 ?l2 ?c2 ?k2 ?a3 ?i3 ?l3 ?c3 ?k3 ?a4 ?l4 ?c4 ?k4 ?a5 ?l5 ?c5 ?k5 ?a6 ?l6 ?c6 ?k6 ?a7 ?l7 ?c7 ?k7 ?a8 ?l8 ?c8 ?k8 ?a9 ?l9 ?c9 ?k9 ?a10 ?l10 ?c10 ?k10 ?a11 ?l11 ?c11 ?k11 ?z_ValueError ?z_abs ?z_int ?z_isinstance ?z_len ?z_list ?z_range ?ex_WindowError ?ty_WindowError ?hd_WindowError ?ex_TurnedStretch ?ty_TurnedStretch ?hd_TurnedStretch ?xL_TurnedStretch ?bmr_TurnedStretch ?sa_TurnedStretch ?kc_TurnedStretch ?ga_TurnedStretch ?gg_TurnedStretch ?tI_TurnedStretch ?nf_TurnedStretch_low ?nf_TurnedStretch_high ?ca_TurnedStretch ?cn_TurnedStretch ?ct_TurnedStretch ?cm_TurnedStretch ?ke_TurnedStretch_WindowError ?ke_TurnedStretch_BadFrame ?ke_TurnedStretch_ValueError ?su_TurnedStretch_BadFrame ?su_TurnedStretch_TurnedStretch ?is_TurnedStretch_TurnedStretch ?su_TurnedStretch_WindowError ?is_TurnedStretch_WindowError ?ex_BadFrame ?ty_BadFrame ?hd_BadFrame ?xL_BadFrame ?bmr_BadFrame ?sa_BadFrame ?kc_BadFrame ?ga_BadFrame ?gg_BadFrame ?tI_BadFrame ?nf_BadFrame_word ?ca_BadFrame ?cn_BadFrame ?ct_BadFrame ?cm_BadFrame ?ke_BadFrame_WindowError ?ke_BadFrame_TurnedStretch ?ke_BadFrame_ValueError ?su_BadFrame_BadFrame ?is_BadFrame_BadFrame ?su_BadFrame_WindowError ?is_BadFrame_WindowError ?pg_Frame ?hd_Frame ?po_Frame ?sa_Frame ?mk_Frame ?kc_Frame ?nf_Frame_unit ?nf_Frame_start ?nf_Frame_end ?nf_Frame_without ?ca_Frame ?cn_Frame ?ct_Frame ?cm_Frame ?lK_UNITS ?vK_UNITS ?lK_LEFT_OUT ?vK_LEFT_OUT
    (case aC_WindowError => k_is)
    (case aC_TurnedStretch => k_is)
    (case aC_BadFrame => k_is)
    (case aC_Frame => k_is)
    (case aC_UNITS => k_is)
    (case aC_LEFT_OUT => k_is)
    (case a0 => k_is)
    (case i0 => k_is)
    (case l0 => k_is)
    (case c0 => k_is)
    (case k0 => k_is)
    (case a1 => k_is)
    (case i1 => k_is)
    (case l1 => k_is)
    (case c1 => k_is)
    (case k1 => k_is)
    (case a2 => k_is)
    (case l2 => k_is)
    (case c2 => k_is)
    (case k2 => k_is)
    (case a3 => k_is)
    (case i3 => k_is)
    (case l3 => k_is)
    (case c3 => k_is)
    (case k3 => k_is)
    (case a4 => k_is)
    (case l4 => k_is)
    (case c4 => k_is)
    (case k4 => k_is)
    (case a5 => k_is)
    (case l5 => k_is)
    (case c5 => k_is)
    (case k5 => k_is)
    (case a6 => k_is)
    (case l6 => k_is)
    (case c6 => k_is)
    (case k6 => k_is)
    (case a7 => k_is)
    (case l7 => k_is)
    (case c7 => k_is)
    (case k7 => k_is)
    (case a8 => k_is)
    (case l8 => k_is)
    (case c8 => k_is)
    (case k8 => k_is)
    (case a9 => k_is)
    (case l9 => k_is)
    (case c9 => k_is)
    (case k9 => k_is)
    (case a10 => k_is)
    (case l10 => k_is)
    (case c10 => k_is)
    (case k10 => k_is)
    (case a11 => k_is)
    (case l11 => k_is)
    (case c11 => k_is)
    (case k11 => k_is)
    (case z_ValueError => k_is)
    (case z_abs => k_is)
    (case z_int => k_is)
    (case z_isinstance => k_is)
    (case z_len => k_is)
    (case z_list => k_is)
    (case z_range => k_is)
    (case ex_WindowError => k_is)
    (case ty_WindowError => k_is)
    (case hd_WindowError => k_is)
    (case ex_TurnedStretch => k_is)
    (case ty_TurnedStretch => k_is)
    (case hd_TurnedStretch => k_is)
    (case xL_TurnedStretch => k_is)
    (case bmr_TurnedStretch => decide +kernel)
    (case sa_TurnedStretch => k_is)
    (case kc_TurnedStretch => k_is)
    (case ga_TurnedStretch => k_is)
    (case gg_TurnedStretch => k_is)
    (case tI_TurnedStretch => k_is)
    (case nf_TurnedStretch_low => k_is)
    (case nf_TurnedStretch_high => k_is)
    (case ca_TurnedStretch => k_is)
    (case cn_TurnedStretch => k_is)
    (case ct_TurnedStretch => k_is)
    (case cm_TurnedStretch => k_is)
    (case ke_TurnedStretch_WindowError => kit_is)
    (case ke_TurnedStretch_BadFrame => kit_is)
    (case ke_TurnedStretch_ValueError => kit_is)
    (case su_TurnedStretch_BadFrame => first | rfl | k_is)
    (case su_TurnedStretch_TurnedStretch => first | rfl | k_is)
    (case is_TurnedStretch_TurnedStretch => first | k_is | rfl)
    (case su_TurnedStretch_WindowError => first | rfl | k_is)
    (case is_TurnedStretch_WindowError => first | k_is | rfl)
    (case ex_BadFrame => k_is)
    (case ty_BadFrame => k_is)
    (case hd_BadFrame => k_is)
    (case xL_BadFrame => k_is)
    (case bmr_BadFrame => decide +kernel)
    (case sa_BadFrame => k_is)
    (case kc_BadFrame => k_is)
    (case ga_BadFrame => k_is)
    (case gg_BadFrame => k_is)
    (case tI_BadFrame => k_is)
    (case nf_BadFrame_word => k_is)
    (case ca_BadFrame => k_is)
    (case cn_BadFrame => k_is)
    (case ct_BadFrame => k_is)
    (case cm_BadFrame => k_is)
    (case ke_BadFrame_WindowError => kit_is)
    (case ke_BadFrame_TurnedStretch => kit_is)
    (case ke_BadFrame_ValueError => kit_is)
    (case su_BadFrame_BadFrame => first | rfl | k_is)
    (case is_BadFrame_BadFrame => first | k_is | rfl)
    (case su_BadFrame_WindowError => first | rfl | k_is)
    (case is_BadFrame_WindowError => first | k_is | rfl)
    (case pg_Frame => k_is)
    (case hd_Frame => k_is)
    (case po_Frame => k_is)
    (case sa_Frame => k_is)
    (case mk_Frame => k_is)
    (case kc_Frame => k_is)
    (case nf_Frame_unit => k_is)
    (case nf_Frame_start => k_is)
    (case nf_Frame_end => k_is)
    (case nf_Frame_without => k_is)
    (case ca_Frame => k_is)
    (case cn_Frame => k_is)
    (case ct_Frame => k_is)
    (case cm_Frame => k_is)
    (case lK_UNITS => k_is)
    (case vK_UNITS => exact (.cons ⟨_, rfl⟩ (.cons ⟨_, rfl⟩ (.cons ⟨_, rfl⟩ .nil))))
    (case lK_LEFT_OUT => k_is)
    (case vK_LEFT_OUT => exact (.cons ⟨_, rfl⟩ (.cons ⟨_, rfl⟩ (.cons ⟨_, rfl⟩ (.cons ⟨_, rfl⟩ .nil)))))
