import PyProof.Rows.All
import Wide.All
import OpenK.AllK
import Wide.FinOn
import HandS.ForMost
import HandS.Wide
import HandS.IsInst
import HandS.Defaults
import HandS.Codes
import PyProof.InstNe
import HandS.Style
import PyProof.ReprRoads
import PyProof.ReprLen
import HandS.ForExc
import HandS.ExcInit
import HandS.ExcField
import HandS.ExcIs
import PyProof.NeKinds
import PySem.Challenge.RW_windowrows_k17_offsets_made_and_refused
set_option Elab.async false
set_option linter.all false
set_option maxRecDepth 100000
namespace Wr
open PySem PySem.Spec PyProof.Rows L2
/-! ### readings, one lemma a construct: what is left to be shown behind it -/
section
variable {σ : L2.St} {H : Hp} {Q : VK} {QB : Bool → Hp → Prop} {QA : List V → Hp → Prop} {D : Ends} {t u : TS} {te ta tb : TE} {tt tu : TT} {i j : Int} {v : V} {K : PySem.W.Frag}
theorem r_seq (h : t { D with nx := u D } σ H) : tSeq t u D σ H := h
theorem r_next (h : D.nx σ H) : tNext D σ H := h
theorem r_asg {g : TG} (h : te σ H fun x H1 => g x σ H1 D.nx) : tAsg te g D σ H := h
theorem r_drop (h : te σ H fun _ H1 => D.nx σ H1) : tDrop te D σ H := h
theorem r_ret (h : te σ H D.rt) : tRet te D σ H := h
theorem r_ifs (h : tt σ H fun b H1 => if b = true then t D σ H1 else u D σ H1) : tIfS tt t u D σ H := h
theorem r_gname {n : Nat} {QS : L2.St → Hp → Prop} (h : QS (σ.set n (some v)) H) : gName n v σ H QS := h
theorem r_gsub {to ti : TE} {s : TSet} {QS : L2.St → Hp → Prop} (h : to σ H fun o H1 => ti σ H1 fun i H2 => s o i v H2 fun H3 => QS σ H3) : gSub to ti s v σ H QS := h
theorem r_gtup {n : Nat} {tg : TGs} {a : Addr} {xs : List V} {QS : L2.St → Hp → Prop} (h1 : SqT K H a xs) (h2 : xs.length = n) (h : tg xs σ H QS) : gTup K n tg (.ref a) σ H QS := ⟨a, xs, rfl, h1, h2, h⟩
theorem r_gcons {g : TG} {tg : TGs} {xs : List V} {QS : L2.St → Hp → Prop} (h : g v σ H fun s' H' => tg xs s' H' QS) : gCons g tg (v :: xs) σ H QS := ⟨v, xs, rfl, h⟩
theorem r_gnil {QS : L2.St → Hp → Prop} (h : QS σ H) : gNil [] σ H QS := ⟨rfl, h⟩
theorem r_var {n : Nat} (e : σ[n]? = some (some v)) (h : Q v H) : tVar n σ H Q := ⟨v, e, h⟩
theorem r_c (h : Q v H) : tC v σ H Q := h
theorem r_op {r : R2} (h : ta σ H fun x H1 => tb σ H1 fun y H2 => r x y H2 Q) : tOp r ta tb σ H Q := h
theorem r_un {r : V → Hp → VK → Prop} (h : ta σ H fun x H1 => r x H1 Q) : tUn r ta σ H Q := h
theorem r_I {C : Int → Int → Prop} {g : Int → Int → V} (c : C i j) (h : Q (g i j) H) : rI C g (.int i) (.int j) H Q := ⟨i, j, rfl, rfl, c, h⟩
theorem r_I0 {g : Int → Int → V} (h : Q (g i j) H) : rI0 g (.int i) (.int j) H Q := ⟨i, j, rfl, rfl, h⟩
theorem r_U {g : Int → V} (h : Q (g i) H) : rU g (.int i) H Q := ⟨i, rfl, h⟩
theorem r_test (h : te σ H fun x H1 => ∃ k, x = .bl k ∧ QB k H1) : tTest te σ H QB := h
theorem r_tB (h : te σ H fun x H1 => ∃ k, x = .bl k ∧ QB k H1) : tB te σ H QB := h
theorem r_bl {b : Bool} {F : Bool → Prop} (h : F b) : ∃ k, V.bl b = .bl k ∧ F k := ⟨b, rfl, h⟩
theorem r_and (h : tt σ H fun c H1 => if c = true then tu σ H1 QB else QB false H1) : tAnd tt tu σ H QB := h
theorem r_or (h : tt σ H fun c H1 => if c = true then QB true H1 else tu σ H1 QB) : tOr tt tu σ H QB := h
theorem r_not (h : tt σ H fun c H1 => QB (!c) H1) : tNot tt σ H QB := h
theorem r_andV (h : ta σ H fun x H1 => ∃ c, x = .bl c ∧ if c = true then tb σ H1 Q else Q (.bl false) H1) : tAndV ta tb σ H Q := h
theorem r_orV (h : ta σ H fun x H1 => ∃ c, x = .bl c ∧ if c = true then Q (.bl true) H1 else tb σ H1 Q) : tOrV ta tb σ H Q := h
theorem r_notV (h : ta σ H fun x H1 => ∃ c, x = .bl c ∧ Q (.bl (!c)) H1) : tNotV ta σ H Q := h
theorem r_ife (h : tt σ H fun c H1 => if c = true then ta σ H1 Q else tb σ H1 Q) : tIf tt ta tb σ H Q := h
theorem eq_dint : decide (V.int i = V.int j) = decide (i = j) := by
  by_cases e : i = j
  · rw [e, decide_eq_true rfl, decide_eq_true rfl]
  · rw [decide_eq_false e, decide_eq_false fun z => e (V.int.inj z)]
theorem eq_dbl {a b : Bool} : decide (V.bl a = V.bl b) = (a == b) := by cases a <;> cases b <;> rfl
theorem eq_dstr {a b : Str} : decide (V.str a = V.str b) = decide (a = b) := by
  by_cases e : a = b
  · rw [e, decide_eq_true rfl, decide_eq_true rfl]
  · rw [decide_eq_false e, decide_eq_false fun z => e (V.str.inj z)]
theorem r_eqI (h : Q (.bl (decide (i = j))) H) : rEq (.int i) (.int j) H Q := ⟨rfl, by rw [eq_dint]; exact h⟩
theorem r_neI (h : Q (.bl (!decide (i = j))) H) : rNe (.int i) (.int j) H Q := ⟨rfl, by rw [eq_dint]; exact h⟩
theorem r_eqB {a b : Bool} (h : Q (.bl (a == b)) H) : rEq (.bl a) (.bl b) H Q := ⟨rfl, by rw [eq_dbl]; exact h⟩
theorem r_neB {a b : Bool} (h : Q (.bl (!(a == b))) H) : rNe (.bl a) (.bl b) H Q := ⟨rfl, by rw [eq_dbl]; exact h⟩
theorem r_eqS {a b : Str} (h : Q (.bl (decide (a = b))) H) : rEq (.str a) (.str b) H Q := ⟨rfl, by rw [eq_dstr]; exact h⟩
theorem r_neS {a b : Str} (h : Q (.bl (!decide (a = b))) H) : rNe (.str a) (.str b) H Q := ⟨rfl, by rw [eq_dstr]; exact h⟩
theorem r_ixL {p : Addr} {xs : List V} (h1 : SqL K H p xs) (h2 : atI xs i = some v) (h : Q v H) : rIxL K (.ref p) (.int i) H Q := ⟨p, xs, i, v, rfl, rfl, h1, h2, h⟩
theorem r_ixT {p : Addr} {xs : List V} (h1 : SqT K H p xs) (h2 : atI xs i = some v) (h : Q v H) : rIxT K (.ref p) (.int i) H Q := ⟨p, xs, i, v, rfl, rfl, h1, h2, h⟩
theorem r_setL {p : Addr} {xs : List V} {n : Nat} {QH : Hp → Prop} (h1 : H p = some (.lst xs)) (h2 : ixN xs.length i = some n) (h : QH (upd H p (.lst (xs.set n v)))) : rSetL (.ref p) (.int i) v H QH := ⟨p, xs, i, n, rfl, rfl, h1, h2, h⟩
theorem r_nil (h : QA [] H) : tNil σ H QA := h
theorem r_cons {tr : TA} (h : te σ H fun x H1 => tr σ H1 fun xs H2 => QA (x :: xs) H2) : tCons te tr σ H QA := h
theorem r_cb {r : List V → Hp → VK → Prop} {ts : TA} (h : ts σ H fun vs H1 => r vs H1 Q) : tCB r ts σ H Q := h
theorem r_call {sp : Sp} {dvs : List V} {E : XK} {ts : TA} (h : ts σ H fun vs H1 => sp (vs ++ dvs) H1 Q E) : tCall sp dvs E ts σ H Q := h
theorem r_lst {ts : TA} (h : ts σ H fun xs H1 => xs.length ≤ sizeLine ∧ ∀ p, H1 p = none → Q (.ref p) (upd H1 p (.lst xs))) : tLst ts σ H Q := h
theorem r_tup {ts : TA} (h : ts σ H fun xs H1 => xs.length ≤ sizeLine ∧ ∀ p, H1 p = none → Q (.ref p) (upd H1 p (.tup xs))) : tTup ts σ H Q := h
theorem r_new {n : Nat} {F : Addr → Prop} (h1 : Nat.ble n 1000 = true) (h : ∀ p, H p = none → F p) : n ≤ sizeLine ∧ ∀ p, H p = none → F p := ⟨Nat.le_of_lt (small1000 (Nat.le_of_ble_eq_true h1)), h⟩
theorem r_ite {c : Prop} [Decidable c] {A B : Prop} (h1 : c → A) (h2 : ¬ c → B) : if decide c = true then A else B := by
  by_cases e : c
  · rw [decide_eq_true e]; exact iteT (h1 e)
  · rw [decide_eq_false e]; exact iteF (h2 e)
theorem r_iten {c : Prop} [Decidable c] {A B : Prop} (h1 : ¬ c → A) (h2 : c → B) : if (!decide c) = true then A else B := by
  by_cases e : c
  · rw [decide_eq_true e]; exact iteF (h2 e)
  · rw [decide_eq_false e]; exact iteT (h1 e)
theorem r_iteb {b : Bool} {A B : Prop} (h1 : b = true → A) (h2 : b = false → B) : if b = true then A else B := by
  cases b
  · exact iteF (h2 rfl)
  · exact iteT (h1 rfl)
theorem r_itebn {b : Bool} {A B : Prop} (h1 : b = false → A) (h2 : b = true → B) : if (!b) = true then A else B := by
  cases b
  · exact iteT (h1 rfl)
  · exact iteF (h2 rfl)
theorem iteNT {A B : Prop} (h : B) : if (!true) = true then A else B := iteF h
theorem iteNF {A B : Prop} (h : A) : if (!false) = true then A else B := iteT h
/-- int(n), abs(n), len(list) by words of their own -/
def rInt1 : List V → Hp → VK → Prop := fun xs H Q => ∃ i, xs = [.int i] ∧ Q (.int i) H
def rIntB : List V → Hp → VK → Prop := fun xs H Q => ∃ k, xs = [.bl k] ∧ Q (.int (if k then 1 else 0)) H
def rAbs1 : List V → Hp → VK → Prop := fun xs H Q => ∃ i, xs = [.int i] ∧ Q (.int (if i < 0 then -i else i)) H
def rLenL (K : PySem.W.Frag) : List V → Hp → VK → Prop := fun xs H Q => ∃ p ys, xs = [.ref p] ∧ (SqL K H p ys ∨ SqT K H p ys) ∧ Q (.int ys.length) H
theorem c_int1 {X : Cx} : CallR X (.type "int") rInt1 := fun pins s σ H xs us Q I r h => call_int1 pins s σ H xs us Q I r (Or.inl h)
theorem c_intB {X : Cx} : CallR X (.type "int") rIntB := fun pins s σ H xs us Q I r h => call_int1 pins s σ H xs us Q I r (Or.inr h)
theorem c_abs {X : Cx} : CallR X (.builtin "abs") rAbs1 := call_abs
theorem c_len {X : Cx} : CallR X (.builtin "len") (rLenL X.K) := call_len_seq
theorem r_int1 (h : Q (.int i) H) : rInt1 [.int i] H Q := ⟨i, rfl, h⟩
theorem r_intB {b : Bool} (h : Q (.int (if b then 1 else 0)) H) : rIntB [.bl b] H Q := ⟨b, rfl, h⟩
theorem r_abs1 (h : Q (.int (if i < 0 then -i else i)) H) : rAbs1 [.int i] H Q := ⟨i, rfl, h⟩
theorem r_lenL {p : Addr} {xs : List V} (h1 : SqL K H p xs) (h : Q (.int xs.length) H) : rLenL K [.ref p] H Q := ⟨p, xs, rfl, .inl h1, h⟩
theorem r_lenT {p : Addr} {xs : List V} (h1 : SqT K H p xs) (h : Q (.int xs.length) H) : rLenL K [.ref p] H Q := ⟨p, xs, rfl, .inr h1, h⟩
theorem r_bm {T : String} {r : V → List V → Hp → VK → Prop} {to : TE} {ts : TA} (h : to σ H fun x H1 => tyV K T x H1 ∧ ts σ H1 fun xs H2 => r x xs H2 Q) : tBM K T r to ts σ H Q := h
theorem r_tyL {p : Addr} {xs : List V} {A : Prop} (h1 : SqL K H p xs) (h : A) : tyV K "list" (.ref p) H ∧ A := ⟨Or.inl ⟨rfl, xs, h1⟩, h⟩
theorem r_app {p : Addr} {xs : List V} (h1 : H p = some (.lst xs)) (h2 : xs.length < sizeLine) (h : Q .non (upd H p (.lst (xs ++ [v])))) : rAppend (.ref p) [v] H Q := ⟨p, xs, v, rfl, rfl, h1, h2, h⟩
theorem r_isi {x c : V} {tv uv : Value} {b : Bool} (h1 : ClsV c uv) (h2 : TyX K H x tv) (h3 : PySem.W.kitOne K tv uv = some b) (h : Q (.bl b) H) : rIsi K [x, c] H Q := ⟨x, c, tv, uv, b, rfl, h1, h2, h3, h⟩
end
theorem bit_ok {b : Bool} : -(2 ^ 64) < (if b then (1 : Int) else 0) ∧ (if b then (1 : Int) else 0) < 2 ^ 64 := by cases b <;> decide
def kAt (ns : List Int) (i : Nat) : Int := ns.getD i 0
theorem ati_n {ns : List Int} {j : Nat} (h : j < ns.length) : atI (ns.map V.int) (j : Int) = some (.int (kAt ns j)) := atI_nat (by
  rw [List.getElem?_map, List.getElem?_eq_getElem h]
  show some (V.int ns[j]) = _
  rw [kAt, List.getD_eq_getElem?_getD, List.getElem?_eq_getElem h]
  rfl)
theorem ati_int {ns : List Int} {i : Int} (h0 : 0 ≤ i) (h1 : i < ns.length) : atI (ns.map V.int) i = some (.int (kAt ns i.toNat)) := by
  have e := ati_n (ns := ns) (j := i.toNat) (by omega)
  rw [Int.toNat_of_nonneg h0] at e
  exact e
theorem ati_last {ns : List Int} (h : 0 < ns.length) : atI (ns.map V.int) (-1) = some (.int (kAt ns (ns.length - 1))) := by
  unfold atI ixN
  rw [if_neg (by decide), if_pos (by rw [List.length_map]; omega), List.length_map]
  show (ns.map V.int)[((-1 : Int) + ns.length).toNat]? = _
  rw [show ((-1 : Int) + ns.length).toNat = ns.length - 1 by omega, List.getElem?_map, List.getElem?_eq_getElem (by omega)]
  rw [kAt, List.getD_eq_getElem?_getD, List.getElem?_eq_getElem (by omega)]
  rfl
theorem ixn_in {n : Nat} {i : Int} (h0 : 0 ≤ i) (h1 : i < n) : ixN n i = some i.toNat := by
  unfold ixN
  rw [if_pos h0, if_pos h1]
theorem same_new {H : Hp} {p : Addr} {o : HO} (h : H p = none) : Same H (upd H p o) := fun b x e => by
  rw [upd_ne (ne_of_none e h)]
  exact e
theorem nox_K {CX : CXT} {P : Program} {w : World} {K : PySem.W.Frag} {mg : Str → Option Value} {base : Heap} {N : List Str} {qual : Str} {sc : Scope} {f : Addr} {cd : Value} {A : Around} {outer : List Env} {s : Shared} {H : Hp} {E : XK} : (cxOf CX P w K mg base N qual sc f cd A outer s H E).nox.K = K := rfl
theorem cx_K {CX : CXT} {P : Program} {w : World} {K : PySem.W.Frag} {mg : Str → Option Value} {base : Heap} {N : List Str} {qual : Str} {sc : Scope} {f : Addr} {cd : Value} {A : Around} {outer : List Env} {s : Shared} {H : Hp} {E : XK} : (cxOf CX P w K mg base N qual sc f cd A outer s H E).K = K := rfl
section
variable {H : Hp} {Q : VK} {i j : Int} {K : PySem.W.Frag}
/-- % and // and * that hand on a letter -/
theorem r_mod (c : 0 < j) (h : ∀ k : Int, 0 ≤ k → k < j → k = i % j → Q (.int k) H) : rI (fun _ j => 0 < j) (fun i j => .int (i % j)) (.int i) (.int j) H Q :=
  ⟨i, j, rfl, rfl, c, h _ (Int.emod_nonneg _ (by omega)) (Int.emod_lt_of_pos _ c) rfl⟩
theorem r_fdiv (c : 0 < j) (c2 : j < 2 ^ 200) (h : ∀ k : Int, (0 ≤ i → 0 ≤ k) → k = i / j → Q (.int k) H) : rI CDivW (fun i j => .int (i / j)) (.int i) (.int j) H Q :=
  ⟨i, j, rfl, rfl, wide_div (b := 201) c (by omega) (by decide) (by decide), h _ (fun z => Int.ediv_nonneg z (by omega)) rfl⟩
theorem r_mul (c : CMul i j) (h : ∀ k : Int, k = i * j → Q (.int k) H) : rI CMul (fun i j => .int (i * j)) (.int i) (.int j) H Q := ⟨i, j, rfl, rfl, c, h _ rfl⟩
theorem r_lenI {p : Addr} {ns : List Int} (h1 : H p = some (.lst (ns.map V.int))) (h : Q (.int ns.length) H) : rLenL K [.ref p] H Q := ⟨p, _, rfl, .inl (.inl (.inl h1)), by rw [List.length_map]; exact h⟩
end
theorem bl_to {a b : Bool} {Q : VK} {H : Hp} (q : Q (.bl b) H) (e : a = b) : Q (.bl a) H := e ▸ q
/-! ### comprehensions by words of their own -/
def lcGo (J : It) (g : TG) (tt : TT) (te : TE) (vs : List Nat) (σ : L2.St) (Q : VK) (H1 : Hp) : Prop :=
  ∀ D, H1 D = none → ∃ W : Nat → Nat → Hp → Prop, (∃ m, W 0 m (upd H1 D (.lst []))) ∧
    ∀ i m H, W i m H → (J.stop i H ∧ Q (.ref D) H) ∨
      (J.go i H ∧ ∃ Nx : Hp → Prop, (∀ H', Nx H' → ∃ m', m' < m ∧ W (i + 1) m' H') ∧
        ∀ x H', J.yld i H x H' → g x (wipe σ vs) H' fun σ2 H2 => wipe σ2 vs = wipe σ vs ∧ tt σ2 H2 fun b H3 =>
          if b = true then te σ2 H3 fun y H4 => ∃ acc, H4 D = some (.lst acc) ∧ acc.length < sizeLine ∧ Nx (upd H4 D (.lst (acc ++ [y]))) else Nx H3)
section
variable {σ : L2.St} {H : Hp} {Q : VK} {te tl : TE} {K : PySem.W.Frag} {a : Addr} {xs : List V}
theorem r_lc {wi : TI} {g : TG} {tt : TT} {vs : List Nat} (h : wi σ H fun J H1 => lcGo J g tt te vs σ Q H1) : tLc wi g tt te vs σ H Q := h
theorem r_il {R : It → Hp → Prop} (h : tl σ H fun x H1 => ∃ a, x = .ref a ∧ (∃ xs, SqL K H1 a xs) ∧ R (Itl K a) H1) : iList K tl σ H R := h
theorem r_it {R : It → Hp → Prop} (h : tl σ H fun x H1 => ∃ a, x = .ref a ∧ (∃ xs, SqT K H1 a xs) ∧ R (Itt K a) H1) : iTup K tl σ H R := h
theorem r_itl {F : Addr → Prop} (hS : SqL K H a xs) (h : F a) : ∃ b, V.ref a = .ref b ∧ (∃ xs, SqL K H b xs) ∧ F b := ⟨a, rfl, ⟨xs, hS⟩, h⟩
theorem r_itt {F : Addr → Prop} (hS : SqT K H a xs) (h : F a) : ∃ b, V.ref a = .ref b ∧ (∃ xs, SqT K H b xs) ∧ F b := ⟨a, rfl, ⟨xs, hS⟩, h⟩
theorem r_rng1 {ta : TA} {R : It → Hp → Prop} (h : ta σ H fun vs H1 => ∃ j : Int, vs = [.int j] ∧ -(2 ^ 62) ≤ j ∧ j < 2 ^ 62 ∧ R (Itr 0 j.toNat) H1) : iRng1 ta σ H R := h
theorem r_rng2 {ta : TA} {R : It → Hp → Prop} (h : ta σ H fun vs H1 => ∃ i j : Int, vs = [.int i, .int j] ∧ (-(2 ^ 62) ≤ i ∧ i < 2 ^ 62 ∧ -(2 ^ 62) ≤ j ∧ j < 2 ^ 62) ∧ R (Itr i (j - i).toNat) H1) : iRng2 ta σ H R := h
theorem r_upto {j : Int} {F : Int → Prop} (h1 : -1000000 ≤ j) (h2 : j ≤ 1000000) (h : F j) : ∃ k : Int, [V.int j] = [.int k] ∧ -(2 ^ 62) ≤ k ∧ k < 2 ^ 62 ∧ F k := ⟨j, rfl, by omega, by omega, h⟩
theorem r_from {i j : Int} {F : Int → Int → Prop} (h0 : -1000000 ≤ i ∧ i ≤ 1000000) (h1 : -1000000 ≤ j ∧ j ≤ 1000000) (h : F i j) : ∃ i' j' : Int, [V.int i, V.int j] = [.int i', .int j'] ∧ (-(2 ^ 62) ≤ i' ∧ i' < 2 ^ 62 ∧ -(2 ^ 62) ≤ j' ∧ j' < 2 ^ 62) ∧ F i' j' := ⟨i, j, rfl, by omega, h⟩
theorem r_for {wi : TI} {g : TG} {tb : TS} {D : Ends} (h : wi σ H fun J H1 => ∃ W : Nat → Nat → L2.St → Hp → Prop, (∃ m, W 0 m σ H1) ∧ ∀ i m σ H, W i m σ H →
      (J.stop i H ∧ D.nx σ H) ∨ (J.go i H ∧ ∃ N : L2.St → Hp → Prop, (∀ σ' H', N σ' H' → ∃ m', m' < m ∧ W (i + 1) m' σ' H') ∧
        ∀ x H', J.yld i H x H' → g x σ H' fun σ2 H2 => tb { D with nx := N, ct := N, bk := D.nx } σ2 H2)) : tFor wi g tb D σ H := h
theorem wipe1 {n : Nat} {x : V} : wipe ((wipe σ [n]).set n (some x)) [n] = wipe σ [n] := by
  show ((σ.set n none).set n (some x)).set n none = σ.set n none
  rw [List.set_set, List.set_set]
/-- [e for x in xs], e a value by a function of x, the heap only grows aside -/
theorem lc_map {n : Nat} (f : V → V) (hS : SqL K H a xs) (hz : xs.length ≤ 1000) (he : ∀ (x : V) (H' : Hp) (QQ : VK), x ∈ xs → Same H H' → QQ (f x) H' → te ((wipe σ [n]).set n (some x)) H' QQ)
    (hq : ∀ D, H D = none → Q (.ref D) (upd H D (.lst (xs.map f)))) : lcGo (Itl K a) (gName n) tYes te [n] σ Q H := by
  intro D hD
  refine lc_list (K := K) (a := a) (xs := xs) (fun i H' => H' = upd H D (.lst ((xs.take i).map f))) rfl (fun i H' _ e => by subst e; exact (same_new hD).seq hS) ?_ ?_
  · rintro i x H' hx rfl
    refine ⟨wipe1, ?_⟩
    show te _ _ _
    refine he x _ _ (List.mem_of_getElem? hx) (same_new hD) ⟨(xs.take i).map f, upd_same, ?_, ?_⟩
    · rw [List.length_map, List.length_take]
      exact small1000 (by omega)
    · rw [upd_upd, List.take_add_one, hx, List.map_append]
      rfl
  · rintro H' rfl
    rw [List.take_length]
    exact hq D hD
end
section
variable {σ : L2.St} {H : Hp} {Q : VK} {te : TE} {K : PySem.W.Frag} {QO : Option Int → Hp → Prop}
theorem r_sl {r : V → Option Int → Option Int → Hp → VK → Prop} {tl th : TO} (h : te σ H fun x H1 => tl σ H1 fun l H2 => th σ H2 fun u H3 => r x l u H3 Q) : tSl r te tl th σ H Q := h
theorem r_np (h : QO none H) : tNoPart σ H QO := h
theorem r_pt (h : te σ H fun x H1 => ∃ i, x = .int i ∧ QO (some i) H1) : tPart te σ H QO := h
theorem r_pti {i : Int} {F : Int → Prop} (h : F i) : ∃ k, V.int i = .int k ∧ F k := ⟨i, rfl, h⟩
theorem r_slL {a : Addr} {xs : List V} {lo hi : Option Int} (hS : SqL K H a xs) (h : ∀ p, H p = none → Q (.ref p) (upd H p (.lst (cutV xs lo hi)))) : rSlL K (.ref a) lo hi H Q := ⟨a, xs, rfl, hS, h⟩
end
theorem cut_none {xs : List V} {n : Nat} (h : xs.length ≤ n) : cutV xs none (some (n : Int)) = xs := by
  unfold cutV
  rw [HT.sIx_none, show HT.sIx xs.length xs.length (some (n : Int)) = min n xs.length from HT.sIx_nat xs.length xs.length n]
  rw [List.drop_zero, Nat.sub_zero, Nat.min_eq_right h, List.take_length]
/-! ### the draws of a script -/
structure Drw (H : Hp) (d c r : Addr) : Prop where
  dc : d ≠ c
  dr : d ≠ r
  cr : c ≠ r
  ex : ∃ (ns rs : List Int) (t : Int), H d = some (.lst [.ref c, .ref r, .int t]) ∧ H c = some (.lst (ns.map V.int)) ∧ H r = some (.lst (rs.map V.int)) ∧ ns.length = rs.length ∧ 0 < ns.length ∧ 0 ≤ t ∧ ∀ x ∈ rs, 0 ≤ x
def Ext (d r : Addr) (H H' : Hp) : Prop := ∀ b o, H b = some o → b ≠ d → b ≠ r → H' b = some o
theorem Ext.refl {d r : Addr} {H : Hp} : Ext d r H H := fun _ _ e _ _ => e
theorem Ext.trans {d r : Addr} {H H1 H2 : Hp} (a : Ext d r H H1) (b : Ext d r H1 H2) : Ext d r H H2 := fun x o e n1 n2 => b x o (a x o e n1 n2) n1 n2
theorem Ext.of {d r : Addr} {H H' : Hp} (s : Same H H') : Ext d r H H' := fun b o e _ _ => s b o e
theorem Drw.same {H H' : Hp} {d c r : Addr} (D : Drw H d c r) (s : Same H H') : Drw H' d c r := by
  obtain ⟨dc, dr, cr, ns, rs, t, h1, h2, h3, h⟩ := D
  exact ⟨dc, dr, cr, ns, rs, t, s _ _ h1, s _ _ h2, s _ _ h3, h⟩
theorem Drw.new {H : Hp} {d c r p : Addr} {o : HO} (D : Drw H d c r) (h : H p = none) : Drw (upd H p o) d c r := D.same (same_new h)
theorem Drw.ned {H : Hp} {d c r p : Addr} (D : Drw H d c r) (h : H p = none) : p ≠ d := by
  obtain ⟨_, _, _, _, _, _, h1, _⟩ := D
  exact (ne_of_none h1 h).symm
theorem Drw.ner {H : Hp} {d c r p : Addr} (D : Drw H d c r) (h : H p = none) : p ≠ r := by
  obtain ⟨_, _, _, _, _, _, _, _, h1, _⟩ := D
  exact (ne_of_none h1 h).symm
theorem Drw.nec {H : Hp} {d c r p : Addr} (D : Drw H d c r) (h : H p = none) : p ≠ c := by
  obtain ⟨_, _, _, _, _, _, _, h1, _⟩ := D
  exact (ne_of_none h1 h).symm
theorem getD_left {xs : List Int} {y : Int} {i : Nat} (h : i < xs.length) : (xs ++ [y]).getD i 0 = xs.getD i 0 := by
  rw [List.getD_eq_getElem?_getD, List.getD_eq_getElem?_getD, List.getElem?_append_left h]
theorem getD_end {xs : List Int} {y : Int} : (xs ++ [y]).getD xs.length 0 = y := by
  rw [List.getD_eq_getElem?_getD, List.getElem?_append_right (Nat.le_refl _), Nat.sub_self]
  rfl
theorem Drw.back {H H' : Hp} {d c r p : Addr} (D : Drw H d c r) (e : Ext d r H H') (h : H' p = none) (D' : Drw H' d c r := by assumption) : H p = none := by
  cases q : H p with
  | none => rfl
  | some o =>
    have z := e p o q (D'.ned h) (D'.ner h)
    rw [h] at z
    cases z
theorem Drw.put {H : Hp} {d c r p : Addr} {o : HO} (D : Drw H d c r) (h1 : p ≠ d) (h2 : p ≠ r) (h3 : p ≠ c) : Drw (upd H p o) d c r := by
  obtain ⟨dc, dr, cr, ns, rs, t, g1, g2, g3, h⟩ := D
  exact ⟨dc, dr, cr, ns, rs, t, (upd_ne h1.symm).trans g1, (upd_ne h3.symm).trans g2, (upd_ne h2.symm).trans g3, h⟩
def spDraw : Sp := fun vs H Q _ => ∃ (d c r : Addr) (m : Int), vs = [.ref d, .int m] ∧ Drw H d c r ∧ 0 < m ∧ m < 2 ^ 200 ∧ ∀ (k : Int) (H' : Hp), 0 ≤ k → k < m → Drw H' d c r → Ext d r H H' → Q (.int k) H'
def spBegin (K : PySem.W.Frag) : Sp := fun vs H Q _ => ∃ (a : Addr) (ns : List Int), vs = [.ref a] ∧ SqL K H a (ns.map V.int) ∧ ns.length ≤ 63 ∧
  ∀ (d c r : Addr) (H' : Hp), Drw H' d c r → Same H H' → H d = none → H c = none → H r = none → Q (.ref d) H'
def restOf (v : V) : V := match v with
  | .int x => .int ((if x < 0 then -x else x) * (if decide ((10 : Int) ^ 18 ≤ (if x < 0 then -x else x)) then 1 else 0))
  | w => w
def restI (x : Int) : Int := (if x < 0 then -x else x) * (if decide ((10 : Int) ^ 18 ≤ (if x < 0 then -x else x)) then 1 else 0)
theorem rest_map (ns : List Int) : (ns.map V.int).map restOf = (ns.map restI).map V.int := by
  rw [List.map_map, List.map_map]
  rfl
theorem rest_nn (x : Int) : 0 ≤ restI x := by
  unfold restI
  refine Int.mul_nonneg ?_ ?_
  · split <;> omega
  · split <;> omega
/-! ### calls by keywords alone -/
section
variable {X : Cx} {CX : CXT} {k : Nat} {f : Addr} {fd : FuncData} {ps ks : List Str} {sp : Sp} {E : XK} {x : Str} {p pos : Pos} {kws : List Keyword} {tk : TA} {g : List Value → List Value → List Value} {gV : List V → List V → List V}
theorem pe_callN0 (F : FnOk X.prog X.w X.K X.mg X.base CX k f fd ps sp) (hr : Room k X.A) (hg : Gl X x) (hm : X.mg x = some (.ref f)) (hk : PySem.W.keepIn X.K (.ref f) = true) (hb : KBn X.K fd ps 0 ks g gV) (hx : Passes CX X E) (hkw : PK X kws tk)
    (hall : (backToKw pos (keywordEach kws X.env)).all (fun q => q.1.isSome) = true := by rfl) (hks : (backToKw pos (keywordEach kws X.env)).filterMap (fun q => q.1) = ks := by rfl) (hdb : (x == ("__debug__" : Str)) = false := by decide)
    (hpl : ((backTo pos (starEach [] X.env)).any (fun q => q.1) || (backToKw pos (keywordEach kws X.env)).any (fun q => q.1.isNone)) = false := by rfl) :
    PE X (.Call (.Name x p) [] kws pos) (tCallN 0 ks.length sp gV E tNil tk) := by
  refine ⟨fun pins s σ H Q I h => wpAny_Call_Name_kw (ld_glob I hg hm ?_ hdb)⟩
  refine PySem.W.callWith_KW0 (h₀ := X.base) I.ok.mod.kin hk hall (thn (hkw.run pos pins s σ H _ I h) fun ws s2 hh => ?_) hpl
  obtain ⟨zs, H2, I2, rz, l1, l2, q2⟩ := hh
  refine ⟨I2.kIn, ?_⟩
  rw [hks]
  exact run_fnN (us := []) (vs := []) F hr hb hx I2 .nil rz rfl l2 q2
theorem r_callN {n m : Nat} {ts : TA} {σ : L2.St} {H : Hp} {Q : VK} (h : ts σ H fun vs H1 => tk σ H1 fun zs H2 => vs.length = n ∧ zs.length = m ∧ sp (gV vs zs) H2 Q E) : tCallN n m sp gV E ts tk σ H Q := h
end
theorem kb_mk {K : PySem.W.Frag} {x qual : Str} {st : Stmt} {f : Addr} {fd : FuncData} {ps ks : List Str} {g : List Value → List Value → List Value} {gV : List V → List V → List V} (F : Fun K x qual st f fd)
    (h : ∀ (kV doc pm : Value) (an : Option Addr) (cdv ct : Value) (ws : List Value), ws.length = ks.length → bindArgs (PySem.W.fnOf x qual (defArgs st) (defBody st) (defScope st) .none kV doc pm an cdv ct) ⟨[], ks.zip ws⟩ = pure (ps.zip (g [] ws)))
    (hrel : ∀ {vs : List V} {us : List Value} {zs : List V} {ws : List Value}, Vals vs us → Vals zs ws → Vals (gV vs zs) (g us ws)) : KBn K fd ps 0 ks g gV := by
  obtain ⟨oc, od, kV, doc, pm, an, cdv, ct, osl, rfl, lk, hcd⟩ := F.ex
  refine ⟨fun s us ws _ l1 l2 => ?_, hrel⟩
  have e : us = [] := List.length_eq_zero_iff.mp l1
  subst e
  exact .of_eq (h kV doc pm an cdv ct ws l2)
section
variable {σ : L2.St} {H : Hp} {D : Ends} {ta : TA}
theorem r_par {i j : Nat} (h : ta σ H fun vs H1 => ∃ v w, vs = [v, w] ∧ D.nx ((σ.set i (some v)).set j (some w)) H1) : tPar i j ta D σ H := h
theorem r_par3 {i j l : Nat} (h : ta σ H fun vs H1 => ∃ u v w, vs = [u, v, w] ∧ D.nx (((σ.set i (some u)).set j (some v)).set l (some w)) H1) : tPar3 i j l ta D σ H := h
theorem r_two {a b : V} {F : V → V → Prop} (h : F a b) : ∃ v w, [a, b] = [v, w] ∧ F v w := ⟨a, b, rfl, h⟩
theorem r_three {a b c : V} {F : V → V → V → Prop} (h : F a b c) : ∃ u v w, [a, b, c] = [u, v, w] ∧ F u v w := ⟨a, b, c, rfl, h⟩
end
/-- [e for x in range(..)], e draws -/
theorem lc_draws {σ : L2.St} {H : Hp} {Q : VK} {te : TE} {n m : Nat} {lo : Int} {d c r : Addr} {P : Int → Prop} (hm : m ≤ 1000) (D0 : Drw H d c r)
    (he : ∀ (i : Nat) (H' : Hp) (QQ : VK), i < m → Drw H' d c r → Ext d r H H' → (∀ (k : Int) (H'' : Hp), P k → Drw H'' d c r → Ext d r H' H'' → QQ (.int k) H'') → te ((wipe σ [n]).set n (some (.int (lo + i)))) H' QQ)
    (hq : ∀ (l : Addr) (ss : List Int) (H' : Hp), ss.length = m → (∀ x ∈ ss, P x) → H l = none → H' l = some (.lst (ss.map V.int)) → Drw H' d c r → Ext d r H H' → Q (.ref l) H') : lcGo (Itr lo m) (gName n) tYes te [n] σ Q H := by
  intro l nl
  have ld := D0.ned nl
  have lr := D0.ner nl
  have lc := D0.nec nl
  refine lc_range (fun i H' => ∃ ss : List Int, ss.length = i ∧ (∀ x ∈ ss, P x) ∧ H' l = some (.lst (ss.map V.int)) ∧ Drw H' d c r ∧ Ext d r H H') ⟨[], rfl, fun x hx => (nomatch hx), upd_same, D0.new nl, Ext.of (same_new nl)⟩ ?_ ?_
  · rintro i H' hi ⟨ss, hl, hp, hs, D1, E1⟩
    refine ⟨wipe1, ?_⟩
    show te _ _ _
    refine he i H' _ hi D1 E1 fun k H'' hk D2 E2 => ⟨ss.map V.int, E2 _ _ hs ld lr, ?_, ?_⟩
    · rw [List.length_map]
      exact small1000 (by omega)
    · refine ⟨ss ++ [k], by rw [List.length_append, hl]; rfl, fun x hx => ?_, by rw [upd_same, List.map_append]; rfl, D2.put ld lr lc, fun b o e n1 n2 => ?_⟩
      · rcases List.mem_append.mp hx with z | z
        · exact hp x z
        · rw [List.mem_singleton.mp z]; exact hk
      · rw [upd_ne (ne_of_none e nl)]
        exact E2 b o (E1 b o e n1 n2) n1 n2
  · rintro H' ⟨ss, hl, hp, hs, D1, E1⟩
    exact hq l ss H' hl hp nl hs D1 E1
section
variable {σ : L2.St} {H : Hp} {D : Ends} {te : TE} {Q : VK}
theorem r_aug {i : Nat} {ti : TIp} {x : V} (e : σ[i]? = some (some x)) (h : te σ H fun y H1 => ti x y H1 fun z H2 => D.nx (σ.set i (some z)) H2) : tAug i te ti D σ H := ⟨x, e, h⟩
theorem r_ext2 {l b : Addr} {xs zs : List V} (h1 : H l = some (.lst xs)) (h2 : H b = some (.lst zs)) (hz : xs.length + zs.length ≤ 1000) (h : Q (.ref l) (upd H l (.lst (xs ++ zs)))) : rExt2 (.ref l) (.ref b) H Q := ⟨l, b, xs, zs, rfl, rfl, h1, h2, Nat.le_of_lt (small1000 hz), h⟩
theorem r_ipI {f : Int → Int → Int} {i j : Int} (h : Q (.int (f i j)) H) : ipI f (.int i) (.int j) H Q := ⟨i, j, rfl, rfl, h⟩
end
/-! ### operators of own classes: by the class's own def -/
section
open PySem.W
variable {prog : Program} {w : World} {A : Around} {E : Value → Shared → Prop} {s : Shared} {K : PySem.W.Frag} {x C f : Addr} {ox : Obj} {od : Option Obj} {b tb : Value}
theorem check_obj {M : Model} {rest : List Value} {Q : Unit → Shared → Prop} (X : K.In s.heap) (I : InstAt s.heap x ox C od) (hob : subIn K (.ref C) (.type "object") = some true) (ha : argsOk "object.__ne__" ⟨.ref x :: rest, []⟩) (hq : Q () s) :
    wpAny M A (checkBuiltinCall "object.__ne__" ⟨.ref x :: rest, []⟩) Q E s := by
  simp only [checkBuiltinCall, F.cmpKind_ne, F.cmpSplit_ne]
  refine wpAny_bind ?_
  unfold isInstance
  refine wpAny_bind (I.type.here ((looks_subIn X hob).here ?_))
  simp only [Bool.not_true, Bool.false_eq_true, if_false]
  cases hsig : Manifest.signature? "object.__ne__" with
  | none => exact wpAny_pure hq
  | some sig =>
    simp only [argsOk, hsig] at ha
    show wpAny M A (Bind.checkArgs "object.__ne__" sig ⟨.ref x :: rest, []⟩) Q E _
    rw [show Bind.checkArgs "object.__ne__" sig ⟨.ref x :: rest, []⟩ = pure () from ha]
    exact wpAny_pure hq
theorem bound_ne {M : Model} {args : List Value} {Q : Option Value → Shared → Prop} (X : K.In s.heap) (I : InstAt s.heap x ox C od) (hs : findIn K (.ref C) "__ne__" = some (some (.builtin "object.__ne__")))
    (h : wpAny M A (call (.builtin "object.__ne__") (.ref x :: args)) (fun v => Q (some v)) E s) : wpAny M A (callSpecialIfBound? (.ref x) "__ne__" args) Q E s := by
  simp only [callSpecialIfBound?, bindSpecialIfBound?]
  have hb : bindSpecial (.builtin "object.__ne__") (.ref x) = pure (.builtin "object.__ne__", [.ref x]) := F.cmp_object.ne.bind _
  have fin : wpAny M A (call (.builtin "object.__ne__") ([.ref x] ++ args) >>= fun v => pure (some v)) Q E s := wpAny_bind (wpAny_mono h (fun v s' h' => wpAny_pure h') fun _ _ h' => h')
  refine wpAny_holding (wpAny_bind (wpAny_bind (wpAny_bind (I.type.here ((looks_findIn X hs).here ?_)))))
  refine wpAny_bind (wpAny_askSetting (wpAny_ite ?_))
  rw [hb]
  split
  · exact wpAny_bind (wpAny_pure (wpAny_pure (by exact fin)))
  · exact wpAny_tryCatch (wpAny_bind (wpAny_pure (wpAny_pure (by exact fin))))
theorem ne_own {Q : Value → Shared → Prop} (hu : A.units + 1 < cLine) (X : K.In s.heap) (I : InstAt s.heap x ox C od) (hb : Looks (model prog w) s.heap (typeOf b) tb) (hn : notFirst K C tb = true)
    (hne : findIn K (.ref C) "__ne__" = some (some (.builtin "object.__ne__"))) (hob : subIn K (.ref C) (.type "object") = some true) (hs : findIn K (.ref C) "__eq__" = some (some (.ref f))) (hf : isFn K (.ref f) = true)
    (h : wpAny (model prog w) A.in1 (call (.ref f) [.ref x, b]) (fun v s' => ∃ k, v = .bool k ∧ Q (.bool (!k)) s') E s) : wpAny (model prog w) A (richCompare .NotEq (.ref x) b) Q E s := by
  have one : wpAny (model prog w) A (tryCompare (.ref x) (cmpInfo .NotEq).2.1 b) (fun r s' => ∃ v, r = some v ∧ Q v s') E s := by
    unfold tryCompare
    refine wpAny_bind (bound_ne X I hne (wpAny_call (codeAny_call_builtin F.cmp_object.ne.plain F.cmpEntry_ne (check_obj X I hob (F.cmpArgs_ne _ _) ?_))))
    unfold Builtin.«object.__ne__»
    repeat (first
      | with_reducible refine wpAny_cRoomFor hu ?_
      | (refine wpAny_bind (m := callSpecialIfBound? (.ref x) (Str.ofString "__eq__") [b])
          (ifBound_K X I hs hf (wpAny_mono h (fun r s' hr => by
            obtain ⟨k, rfl, hq⟩ := hr
            repeat (first | exact wpAny_pure ⟨_, rfl, hq⟩ | (refine wpAny_bind (m := truthy (.bool _)) (wpAny_truthy_bool ?_)) | wp_step)) fun _ _ e => e)))
      | wp_step)
  unfold richCompare
  simp only [oneThing_ref]
  refine wpAny_holding (wpAny_bind (wpAny_cRoomFor (Nat.lt_of_succ_lt hu) ?_))
  refine wpAny_bind (I.type.here (wpAny_bind (hb.here ?_)))
  split
  · rename_i q
    have e : subIn K tb (.ref C) = some false := by
      rcases Bool.or_eq_true_iff.mp hn with e | e
      · rw [beq_iff_eq.mp e] at q; simp at q
      · exact beq_iff_eq.mp e
    refine wpAny_bind ((looks_subIn X e).here ?_)
    simp only [Bool.false_eq_true, if_false]
    refine wpAny_bind (wpAny_mono one (fun r s' z => ?_) fun _ _ e => e)
    obtain ⟨v, rfl, hq⟩ := z
    exact wpAny_pure hq
  · refine wpAny_bind (wpAny_pure ?_)
    simp only [Bool.false_eq_true, if_false]
    refine wpAny_bind (wpAny_mono one (fun r s' z => ?_) fun _ _ e => e)
    obtain ⟨v, rfl, hq⟩ := z
    exact wpAny_pure hq
theorem neg_own {M : Model} {Q : Value → Shared → Prop} (X : K.In s.heap) (I : InstAt s.heap x ox C od) (hs : findIn K (.ref C) "__neg__" = some (some (.ref f))) (hf : isFn K (.ref f) = true)
    (h : wpAny M A (call (.ref f) [.ref x]) Q E s) : wpAny M A (unaryOp .USub (.ref x)) Q E s := by
  unfold unaryOp
  refine wpAny_holding ?_
  dsimp only
  rw [if_neg (by decide)]
  exact wpAny_bind (special_fn X I hs (beq_iff_eq.mp hf) (wpAny_mono h (fun _ _ z => wpAny_pure z) fun _ _ z => z))
end
section
variable {X : Cx} {CX : CXT} {k : Nat} {g C : Addr} {fd : FuncData} {ps : List Str} {sp : Sp} {E : XK}
theorem cmpb {P : Value → Shared → Prop} {z : V} {v : Value} {s' : Shared} (r : RelV z v) (h : P v s') : PySem.W.CmpBack P v s' := by
  cases z with
  | non => cases (show v = Value.none from r); exact h
  | bl b => cases (show v = Value.bool b from r); exact h
  | int i => obtain ⟨t, rfl⟩ := (show ∃ t, v = Value.int i t from r); exact h
  | str x => obtain ⟨t, rfl⟩ := (show ∃ t, v = Value.str x t from r); exact h
  | byt b => obtain ⟨t, rfl⟩ := (show ∃ t, v = Value.bytes b t from r); exact h
  | flt b => obtain ⟨t, rfl⟩ := (show ∃ t, v = Value.float b t from r); exact h
  | ref a => cases (show v = Value.ref a from r); exact h
  | ty n => cases (show v = Value.type n from r); exact h
/-- what an own operator of the class at C asks: the left one is an instance, the right one's type is known and not below C -/
def rCmpO (K : PySem.W.Frag) (C : Addr) (sp : Sp) (E : XK) : R2 := fun x y H Q => ∃ a dx fs t, x = .ref a ∧ H a = some (.ins C dx fs) ∧ TyX K H y t ∧ PySem.W.notFirst K C t = true ∧ sp [x, y] H Q E
def rNeO (K : PySem.W.Frag) (C : Addr) (sp : Sp) (E : XK) : R2 := fun x y H Q => ∃ a dx fs t, x = .ref a ∧ H a = some (.ins C dx fs) ∧ TyX K H y t ∧ PySem.W.notFirst K C t = true ∧ sp [x, y] H (fun v H' => ∃ b, v = .bl b ∧ Q (.bl (!b)) H') E
def rAddO (C : Addr) (sp : Sp) (E : XK) : R2 := fun x y H Q => ∃ a dx fs b dy gs, x = .ref a ∧ y = .ref b ∧ H a = some (.ins C dx fs) ∧ H b = some (.ins C dy gs) ∧ sp [x, y] H Q E
def rNegO (C : Addr) (sp : Sp) (E : XK) : V → Hp → VK → Prop := fun x H Q => ∃ a dx fs, x = .ref a ∧ H a = some (.ins C dx fs) ∧ sp [x] H Q E
theorem inst_at {pins : List (Addr × Obj)} {σ : L2.St} {H : Hp} {s : Shared} {a dx : Addr} {fs : List (Str × V)} (I : Inv X pins σ H s) (h : H a = some (.ins C dx fs)) : ∃ ox od, PySem.W.InstAt s.heap a ox C od := by
  obtain ⟨mA, O, _⟩ := ins_get I.hok h
  obtain ⟨od, J, _⟩ := O.look
  exact ⟨_, _, J⟩
theorem op_cmpO {op : CmpOp} (hop : ∀ a b, compareOp op a b = richCompare op a b) (hs : PySem.W.findIn X.K (.ref C) (cmpInfo op).2.1 = some (some (.ref g))) (hf : PySem.W.isFn X.K (.ref g) = true) (F : FnOk X.prog X.w X.K X.mg X.base CX k g fd ps sp) (hr : Room k X.A) (hb : Binds X.K fd ps []) (hx : Passes CX X E) :
    OpR X (compareOp op) (rCmpO X.K C sp E) := by
  intro pins s σ H x y v u Q I rx ry h
  obtain ⟨a, dx, fs, t, rfl, ha, ty, hn, q⟩ := h
  cases (show v = Value.ref a from rx)
  obtain ⟨ox, od, J⟩ := inst_at I ha
  obtain ⟨P, Z, p, _⟩ := kit_of I ry ty
  obtain ⟨m, hF⟩ := I.fr
  rw [hop]
  refine PySem.W.cmp_K (op := op) (tb := t) hr.units0 hF I.ok.mod.kin J (Z.ty _ _ I.kIn p) hn hs hf ?_
  refine wpAny_mono (run_fn (ds := []) (dvs := []) (vs := [.ref a, y]) F hr hb .nil hx I (.cons rfl (.cons ry .nil)) (by rw [List.append_nil]; exact q)) (fun w s' z => ?_) fun _ _ e => e
  obtain ⟨z', H', I', rz, qz⟩ := z
  exact cmpb rz ⟨z', H', I', rz, qz⟩
theorem op_eqO (hs : PySem.W.findIn X.K (.ref C) "__eq__" = some (some (.ref g))) (hf : PySem.W.isFn X.K (.ref g) = true) (F : FnOk X.prog X.w X.K X.mg X.base CX k g fd ps sp) (hr : Room k X.A) (hb : Binds X.K fd ps []) (hx : Passes CX X E) :
    OpR X (compareOp .Eq) (rCmpO X.K C sp E) := op_cmpO (fun _ _ => rfl) hs hf F hr hb hx
theorem op_neO (hs : PySem.W.findIn X.K (.ref C) "__eq__" = some (some (.ref g))) (hf : PySem.W.isFn X.K (.ref g) = true) (hne : PySem.W.findIn X.K (.ref C) "__ne__" = some (some (.builtin "object.__ne__"))) (hob : PySem.W.subIn X.K (.ref C) (.type "object") = some true)
    (F : FnOk X.prog X.w X.K X.mg X.base CX k g fd ps sp) (hr : Room (k + 1) X.A) (hb : Binds X.K fd ps []) (hx : Passes CX X E) : OpR X (compareOp .NotEq) (rNeO X.K C sp E) := by
  intro pins s σ H x y v u Q I rx ry h
  obtain ⟨a, dx, fs, t, rfl, ha, ty, hn, q⟩ := h
  cases (show v = Value.ref a from rx)
  obtain ⟨ox, od, J⟩ := inst_at I ha
  obtain ⟨P, Z, p, _⟩ := kit_of I ry ty
  have hu := hr.units
  show wpAny _ _ (richCompare .NotEq _ _) _ _ _
  refine ne_own (by omega) I.kIn J (Z.ty _ _ I.kIn p) hn hne hob hs hf ?_
  have r2 : Vals [V.ref a, y] [Value.ref a, u] := .cons rfl (.cons ry .nil)
  have hl : ([Value.ref a, u] ++ []).length = ps.length := by
    rw [List.append_nil, ← r2.length]
    exact F.len _ _ _ _ q
  refine wpAny_call (codeAny_mono (F.run X.A.in1 X.stack s H ⟨[.ref a, u], []⟩ [.ref a, u] _ _ E hr.in1 I.env0.in1 (by have z := hb s [.ref a, u] I.kIn hl; rw [List.append_nil] at z; exact z) r2 q) fun r s' hq => ?_)
  cases r with
  | error e => exact hx pins σ H s e s' I hq
  | ok fl =>
    cases fl with
    | ret z =>
      obtain ⟨v', H', I', rv, b, rfl, qz⟩ := I.after hq
      cases rv
      exact ⟨b, rfl, .bl (!b), H', I', rfl, qz⟩
    | next => exact False.elim hq
    | brk => exact False.elim hq
    | cont => exact False.elim hq
theorem op_binO {op : Operator} (hc : PySem.W.selfFirst X.K C = true) (hs : PySem.W.findIn X.K (.ref C) (PySem.dunder op.info.2) = some (some (.ref g))) (hf : PySem.W.isFn X.K (.ref g) = true) (F : FnOk X.prog X.w X.K X.mg X.base CX k g fd ps sp) (hr : Room k X.A) (hb : Binds X.K fd ps []) (hx : Passes CX X E) :
    OpR X (binaryOp op) (rAddO C sp E) := by
  intro pins s σ H x y v u Q I rx ry h
  obtain ⟨a, dx, fs, b, dy, gs, rfl, rfl, ha, hb', q⟩ := h
  cases (show v = Value.ref a from rx)
  cases (show u = Value.ref b from ry)
  obtain ⟨ox, od, J⟩ := inst_at I ha
  obtain ⟨oy, oe, J'⟩ := inst_at I hb'
  obtain ⟨m, hF⟩ := I.fr
  refine PySem.W.binop_K (op := op) hF I.ok.mod.kin J J'.type hc hs hf ?_
  refine wpAny_mono (run_fn (ds := []) (dvs := []) (vs := [.ref a, .ref b]) F hr hb .nil hx I (.cons rfl (.cons rfl .nil)) (by rw [List.append_nil]; exact q)) (fun w s' z => ?_) fun _ _ e => e
  obtain ⟨z', H', I', rz, qz⟩ := z
  exact cmpb rz ⟨z', H', I', rz, qz⟩
theorem un_negO (hs : PySem.W.findIn X.K (.ref C) "__neg__" = some (some (.ref g))) (hf : PySem.W.isFn X.K (.ref g) = true) (F : FnOk X.prog X.w X.K X.mg X.base CX k g fd ps sp) (hr : Room k X.A) (hb : Binds X.K fd ps []) (hx : Passes CX X E) :
    UnR X (unaryOp .USub) (rNegO C sp E) := by
  intro pins s σ H x v Q I rx h
  obtain ⟨a, dx, fs, rfl, ha, q⟩ := h
  cases (show v = Value.ref a from rx)
  obtain ⟨ox, od, J⟩ := inst_at I ha
  exact neg_own I.kIn J hs hf (run_fn (ds := []) (dvs := []) (vs := [.ref a]) F hr hb .nil hx I (.cons rfl .nil) (by rw [List.append_nil]; exact q))
/-- v in x, x of an own class with its own __contains__, which hands back a truth -/
def rInO (C : Addr) (sp : Sp) (E : XK) : R2 := fun x y H Q => ∃ a dx fs, y = .ref a ∧ H a = some (.ins C dx fs) ∧ sp [y, x] H (fun v H' => ∃ b, v = .bl b ∧ Q (.bl b) H') E
theorem op_inO (hs : PySem.W.findIn X.K (.ref C) "__contains__" = some (some (.ref g))) (hf : PySem.W.isFn X.K (.ref g) = true) (F : FnOk X.prog X.w X.K X.mg X.base CX k g fd ps sp) (hr : Room k X.A) (hb : Binds X.K fd ps []) (hx : Passes CX X E) :
    OpR X (compareOp .In) (rInO C sp E) := by
  intro pins s σ H x y v u Q I rx ry h
  obtain ⟨a, dx, fs, rfl, ha, q⟩ := h
  cases (show u = Value.ref a from ry)
  obtain ⟨ox, od, J⟩ := inst_at I ha
  obtain ⟨m, hF⟩ := I.fr
  refine PySem.W.in_K hF I.ok.mod.kin J hs hf (wpAny_mono (run_fn (ds := []) (dvs := []) (vs := [.ref a, x]) F hr hb .nil hx I (.cons rfl (.cons rx .nil)) (by rw [List.append_nil]; exact q)) (fun w s' z => ?_) fun _ _ e => e)
  obtain ⟨z', H', I', rz, b, rfl, qz⟩ := z
  cases rz
  exact wpAny_truthy_bool ⟨.bl b, H', I', rfl, qz⟩
end
/-! ### fields, methods, new instances -/
section
variable {σ : L2.St} {H : Hp} {Q : VK} {K : PySem.W.Frag} {te ta tv : TE} {a C dx : Addr} {fs : List (Str × V)} {f : Str} {v : V} {D : Ends}
theorem r_fld (h : ta σ H fun x H1 => ∃ a C dx fs v, x = .ref a ∧ H1 a = some (.ins C dx fs) ∧ Cls K C ∧ NoAttr K C f ∧ fs.lookup f = some v ∧ Q v H1) : tFld K ta f σ H Q := h
theorem r_get {F : V → Prop} (e : H a = some (.ins C dx fs)) (c : Cls K C) (n : NoAttr K C f) (l : fs.lookup f = some v) (h : F v) : ∃ a' C dx fs v, V.ref a = .ref a' ∧ H a' = some (.ins C dx fs) ∧ Cls K C ∧ NoAttr K C f ∧ fs.lookup f = some v ∧ F v := ⟨a, C, dx, fs, v, rfl, e, c, n, l, h⟩
theorem r_sfld (h : tv σ H fun y H1 => ta σ H1 fun x H2 => ∃ a C dx fs, x = .ref a ∧ H2 a = some (.ins C dx fs) ∧ Cls K C ∧ NoAttr K C f ∧ fs.length < 1000 ∧ D.nx σ (upd H2 a (.ins C dx (putF f y fs)))) : sFld K ta tv f D σ H := h
theorem r_put {F : Hp → Prop} {y : V} (e : H a = some (.ins C dx fs)) (c : Cls K C) (n : NoAttr K C f) (l : fs.length < 1000) (h : F (upd H a (.ins C dx (putF f y fs)))) : ∃ a' C dx fs, V.ref a = .ref a' ∧ H a' = some (.ins C dx fs) ∧ Cls K C ∧ NoAttr K C f ∧ fs.length < 1000 ∧ F (upd H a' (.ins C dx (putF f y fs))) := ⟨a, C, dx, fs, rfl, e, c, n, l, h⟩
theorem r_meth {m : Str} {sp : Sp} {dvs : List V} {E : XK} {ts : TA} (h : ta σ H fun x H1 => ∃ a dx fs, x = .ref a ∧ H1 a = some (.ins C dx fs) ∧ fs.lookup m = none ∧ ts σ H1 fun vs H2 => sp (x :: (vs ++ dvs)) H2 Q E) : tMeth C m sp dvs E ta ts σ H Q := h
theorem r_who {m : Str} {A : Prop} (e : H a = some (.ins C dx fs)) (l : fs.lookup m = none) (h : A) : ∃ a' dx fs, V.ref a = .ref a' ∧ H a' = some (.ins C dx fs) ∧ fs.lookup m = none ∧ A := ⟨a, dx, fs, rfl, e, l, h⟩
theorem r_make {sp : Sp} {dvs : List V} {E : XK} {ts : TA} (h : ts σ H fun vs H1 => ∀ x dx, H1 x = none → H1 dx = none → dx ≠ x → sp (.ref x :: (vs ++ dvs)) (upd (upd H1 dx (.own x)) x (.ins C dx [])) (fun v H2 => v = .non ∧ Q (.ref x) H2) E) : tMake C sp dvs E ts σ H Q := h
end
theorem same_make {H H' : Hp} {x dx C : Addr} (nx : H x = none) (nd : H dx = none) (s : ∀ b o, (upd (upd H dx (.own x)) x (.ins C dx [])) b = some o → b ≠ x → H' b = some o) : Same H H' := fun b o e =>
  s b o (by rw [upd_ne (ne_of_none e nx), upd_ne (ne_of_none e nd)]; exact e) (ne_of_none e nx)
/-! ### defs that may ask repr of lists and tuples: called where no repr is under way -/
structure FnG (P : Program) (w : World) (K : PySem.W.Frag) (mg : Str → Option Value) (base : Heap) (CX : CXT) (k : Nat) (f : Addr) (fd : FuncData) (ps : List Str) (sp : Sp) : Prop where
  len : ∀ vs H Q E, sp vs H Q E → vs.length = ps.length
  run : ∀ (A : Around) (outer : List Env) (s : Shared) (H : Hp) (args : Args) (us : List Value) (vs : List V) (Q : VK) (E : XK), A.guards = some [] → Room k A → Env0 P w K mg base A outer s H →
    BindsTo s fd args (ps.zip us) → Vals vs us → sp vs H Q E → codeAny (model P w) A (.call (.ref f) args) (CR CX outer P w H s Q E) s
section
variable {P : Program} {w : World} {K : PySem.W.Frag} {mg : Str → Option Value} {base : Heap}
theorem okG {x qual : Str} {st : Stmt} {f : Addr} {fd : FuncData} {N ps : List Str} {k : Nat} {sp : Sp} (F : Fun K x qual st f fd) (S : FnScope N ps (defScope st)) (len : ∀ vs H Q E, sp vs H Q E → vs.length = ps.length)
    (hbody : ∀ (cdv : Value) (A : Around) (outer : List Env) (s : Shared) (H : Hp) (vs : List V) (Q : VK) (E : XK), A.guards = some [] → Room k (A.deeper (envOfC qual (defScope st) s.heap.objs.size f cdv)) → sp vs H Q E →
      ∃ t, PSs (cxOf CX0 P w K mg base N qual (defScope st) f cdv A outer s H E).nox (defBody st) t ∧ t { nx := fun _ H' => Q .non H', rt := Q } (start N vs) H) : FnG P w K mg base CX0 (k + 1) f fd ps sp := by
  obtain ⟨oc, od, kV, doc, pm, an, cdv, ct, osl, rfl, lk, hcd⟩ := F.ex
  refine ⟨len, fun A outer s H args us vs Q E hG hr e0 hb r hsp => ?_⟩
  -- the body's reading is kept for this around alone: elsewhere the promise is not asked
  have inn : K.In s.heap := e0.mod.kin.keeps fun b o e => (e0.bs b o e).1
  have nol : s.heap.NoLimit := e0.mod.nolimit.keeps fun b o e => (e0.bs b o e).1
  have par : ∀ y ∈ ps.zip us, (defScope st).names.lookup y.1 = some .local ∨ ((defScope st).names.lookup y.1 = some .cell ∧ ((cellsFrom (s.heap.objs.size + 1) (defScope st).names []).lookup y.1).isSome = true) := by
    intro y hy
    have hm : y.1 ∈ ps := (List.of_mem_zip (show (y.1, y.2) ∈ ps.zip us from hy)).1
    exact (S.par y.1 hm).imp (fun z => z) fun z => ⟨z, PySem.W.cellsFrom_some _ _ _ (.inl z)⟩
  obtain ⟨t, ht, hq⟩ := hbody cdv A outer s H vs Q E hG (hr.deeper _) hsp
  refine codeAny_call_function hr.depth (inn _ _ lk) rfl S.co S.gen rfl (PySem.W.codeRec_of inn hcd) (hb _ _ _ _ ?_)
  refine wpAny_newFunctionEnv_cells S.kind par fun env he s1 x => ?_
  subst he
  refine ⟨nol.keeps x.toInCall.keep, codeAny_func ?_⟩
  have I := inv_start (CX := CX0) (E := E) S hr.hd e0 (len _ _ _ _ hsp) r x
  refine wpAny_mono (ht.nox.run [] s1 (start N vs) H _ I hq) (fun fl s' hs => ?_) fun e s' hs => hs
  cases fl with
  | ret u =>
    obtain ⟨v, σ', H', J, rv, q⟩ := hs
    exact ⟨v, H', J.os, J.bare, J.base, J.hok, rv, q⟩
  | next =>
    obtain ⟨σ', H', J, q⟩ := hs
    exact ⟨V.non, H', J.os, J.bare, J.base, J.hok, rfl, q⟩
  | brk => exact False.elim hs.choose_spec.choose_spec.2
  | cont => exact False.elim hs.choose_spec.choose_spec.2
theorem deeper_guards {A : Around} {env : Env} (h : A.guards = some []) : (A.deeper env).guards = some [] := h
end
section
variable {X : Cx} {CX : CXT} {k : Nat} {f : Addr} {fd : FuncData} {ps : List Str} {sp : Sp} {dvs : List V} {ds : List Value} {E : XK} {x : Str} {p pos : Pos} {e : Expr} {es : List Expr} {t : TA}
theorem pe_callG (hG : X.A.guards = some []) (F : FnG X.prog X.w X.K X.mg X.base CX k f fd ps sp) (hr : Room k X.A) (hg : Gl X x) (hm : X.mg x = some (.ref f)) (hk : PySem.W.keepIn X.K (.ref f) = true) (hb : Binds X.K fd ps ds) (hd : Vals dvs ds) (hx : Passes CX X E)
    (ha : PA X (e :: es) t) (hdb : (x == ("__debug__" : Str)) = false := by decide) (he : starEach (e :: es) X.env = (false, eval e X.env) :: starEach es X.env := by rfl) (hpl : (backTo pos (starEach es X.env)).any (fun q => q.1) = false := by rfl) :
    PE X (.Call (.Name x p) (e :: es) [] pos) (tCall sp dvs E t) := by
  refine ⟨fun pins s σ H Q I h => wpAny_Call_Name_kw (ld_glob I hg hm ?_ hdb)⟩
  refine PySem.W.callWith_K (h₀ := X.base) I.ok.mod.kin hk (thn (ha.run pos pins s σ H _ I h) fun us s1 hh => ?_) he hpl
  obtain ⟨vs, H1, I1, r, q⟩ := hh
  refine ⟨I1.kIn, ?_⟩
  have r2 : Vals (vs ++ dvs) (us ++ ds) := r.append hd
  have hl : (us ++ ds).length = ps.length := by rw [← r2.length]; exact F.len _ _ _ _ q
  refine wpAny_call (codeAny_mono (F.run X.A X.stack s1 H1 ⟨us, []⟩ (us ++ ds) (vs ++ dvs) Q E hG hr I1.env0 (hb s1 us I1.kIn hl) r2 q) fun r s' hq => ?_)
  match r, hq with
  | .error e, hq => exact hx pins σ H1 s1 e s' I1 hq
  | .ok (.ret u), hq => exact I1.after hq
  | .ok .next, hq => exact False.elim hq
  | .ok .brk, hq => exact False.elim hq
  | .ok .cont, hq => exact False.elim hq
/-- repr of a list or a tuple of plain things -/
def rRepr (K : PySem.W.Frag) : List V → Hp → VK → Prop := fun xs H Q => ∃ (a : Addr) (d : PyData), xs = [.ref a] ∧ Dp K H (.ref a) d ∧ d.showable = true ∧ d.hasDict = false ∧ d.depth ≤ 20 ∧ d.shown.length ≤ sizeLine ∧ Q (.str d.shown) H
theorem call_repr (hG : X.A.guards = some []) (hu : X.A.units + 64 < cLine) : CallR X (.builtin "repr") (rRepr X.K) := by
  intro pins s σ H xs us Q I r h
  obtain ⟨a, d, rfl, hd, hs, hn, hdp, hz, q⟩ := h
  obtain ⟨u, rfl, ru⟩ := vals1 r
  cases (show u = Value.ref a from ru)
  obtain ⟨as, rd⟩ := Dp.reads I d _ _ hd rfl
  exact repr_of_reads' rd hs (fun z => by rw [hn] at z; cases z) hG (by omega) (fun _ _ z => z) (fun h' u tk hk => ⟨.str d.shown, H, I.kept hk, ⟨u, rfl⟩, q⟩) hz
end
/-! ### the law's own call, of a def of that kind -/
section
variable {P : Program} {w : World} {K : PySem.W.Frag} {mg mb : Str → Option Value} {k : Nat} {fa a : Addr} {fd : FuncData} {x : Str} {sp : Sp} {s : Shared} {vs : List Value} {ns : List Int}
/-- the script alone may be tracked: where it is, what of it is known -/
structure Alone (P : Program) (w : World) (K : PySem.W.Frag) (s : Shared) (a : Addr) (ns : List Int) (H : Hp) : Prop where
  only : Only H
  seq : SqL K H a (ns.map V.int)
  ok : HOk P w H s.heap
  at_ : ∀ b u, H b = some u → b = a
  out : ∀ u, H a = some u → K.lookup a = none
theorem alone_ex (inn : K.In s.heap) (ha : s.heap.get? a = some { cls := .type "list", data := .seq vs.toArray }) (hi : IntsAre vs ns) (hl : ns.length ≤ sizeLine) : ∃ H, Alone P w K s a ns H := by
  have rv := vals_ints hi
  cases hk : K.lookup a with
  | some o =>
    obtain rfl : o = { cls := .type "list", data := .seq vs.toArray } := Option.some.inj ((inn a o hk).symm.trans ha)
    refine ⟨fun _ => none, fun _ => .inl rfl, .inr ⟨_, vs.toArray, _, hk, rfl, rfl, rfl, ?_, ?_⟩, fun _ _ z => (by cases z), fun _ _ z => (by cases z), fun _ z => (by cases z)⟩
    · rw [List.size_toArray, hi.length]; exact hl
    · rw [List.toList_toArray]; exact rv
  | none =>
    have one : ∀ b u, (upd (fun _ => none) a (.frz { cls := .type "list", data := .seq vs.toArray } (.lst (ns.map V.int)))) b = some u → b = a := fun b u z => by
      by_cases hb : b = a
      · exact hb
      · rw [upd_ne hb] at z; cases z
    refine ⟨upd (fun _ => none) a (.frz { cls := .type "list", data := .seq vs.toArray } (.lst (ns.map V.int))), fun b => ?_, .inl (.inr ⟨_, upd_same⟩), fun b u z => ?_, one, fun _ _ => hk⟩
    · by_cases hb : b = a
      · subst hb; exact .inr ⟨_, _, upd_same⟩
      · exact .inl (upd_ne hb)
    · obtain rfl := one b u z
      rw [upd_same] at z
      cases z
      exact ⟨ha, by rw [List.length_map]; exact hl, vs, _, rv, ha⟩
theorem law_callG (inn : K.In s.heap) (hns : s.heap.Ns mainGlobals mg) (hb : s.heap.Ns builtinsNs mb) (hbb : ∀ x : Str, x ≠ "__name__" → mb x = bootBuiltins x) (hlim : s.heap.NoLimit) (hg : s.gens = #[])
    (ha : s.heap.get? a = some { cls := .type "list", data := .seq vs.toArray }) (hi : IntsAre vs ns) (hl : ns.length ≤ sizeLine) (hr : Room k callerA)
    (F : ∀ base : Heap, K.In base → base.Ns mainGlobals mg → FnG P w K mg base CX0 k fa fd [x] sp) (hbind : ∀ (s : Shared) (u : Value), BindsTo s fd ⟨[u], []⟩ [(x, u)])
    (hsp : ∀ H : Hp, Only H → SqL K H a (ns.map V.int) → sp [.ref a] H (fun v _ => v = .bl true) fun _ _ _ => False) :
    codeAny (model P w) callerA (.call (.ref fa) ⟨[.ref a], []⟩) (fun r s' => r = .ok (.ret (.bool true)) ∧ OldK s.heap s'.heap ∧ s'.os = s.os ∧ AllBare s'.gens) s := by
  obtain ⟨H, N⟩ := alone_ex (P := P) (w := w) inn ha hi hl
  -- a dict is not the script: it is not tracked
  have free : ∀ {b : Addr} {o : Obj}, s.heap.get? b = some o → (∀ its n, o.data ≠ .seq its n) → H b = none := fun {b o} e z => by
    cases q : H b with
    | none => rfl
    | some u =>
      obtain rfl := N.at_ b u q
      rw [ha] at e
      cases e
      exact absurd rfl (z _ _)
  have space : ∀ {b : Addr} {m : Str → Option Value}, s.heap.Ns b m → (hidT s.heap H).Ns b m := fun {b m} z => by
    obtain ⟨o, es, ep, e, d, r⟩ := z
    exact ⟨o, es, ep, hidT_get e (free e fun _ _ y => by rw [d] at y; cases y), d, r⟩
  have inb : K.In (hidT s.heap H) := fun b o e => hidT_get (inn b o e) (by
    cases q : H b with
    | none => rfl
    | some u =>
      obtain rfl := N.at_ b u q
      rw [N.out u q] at e
      cases e)
  have md : Mod K mg (hidT s.heap H) := by
    obtain ⟨mc, l1, l2⟩ := hlim
    exact ⟨inb, space hns, ⟨mb, space hb, hbb⟩, mc, space l1, l2⟩
  have e0 : Env0 P w K mg (hidT s.heap H) callerA [] s H := ⟨rfl, md, fun _ _ e => of_hidT e, Nat.le_of_eq (hidT_size _ _), trivial, fun _ z => (nomatch z), N.ok, .of_eq hg⟩
  refine codeAny_mono ((F _ inb (space hns)).run callerA [] s H ⟨[.ref a], []⟩ [.ref a] [.ref a] _ _ rfl hr e0 (hbind s (.ref a)) (.cons rfl .nil) (hsp H N.only N.seq)) fun r s' h => ?_
  match r, h with
  | .error e, h => exact False.elim h
  | .ok .next, h => exact False.elim h
  | .ok .brk, h => exact False.elim h
  | .ok .cont, h => exact False.elim h
  | .ok (.ret u), h =>
    obtain ⟨v, H', os, bare, un, ok', r', q⟩ := h
    obtain rfl : v = .bl true := q
    obtain rfl : u = Value.bool true := r'
    refine ⟨rfl, OldK.of_keep fun b o e => ?_, os, bare⟩
    cases q : H b with
    | none => exact un.keep b o e q (fun z => (nomatch z)) (fun z => (nomatch z))
    | some u =>
      rcases N.only b with z | ⟨ob, xs, z⟩
      · rw [q] at z; cases z
      · have e1 : s.heap.get? b = some ob := (show ObjOk P w H s.heap b (.frz ob (.lst xs)) from N.ok b _ z).1
        have e2 : s'.heap.get? b = some ob := (show ObjOk P w H' s'.heap b (.frz ob (.lst xs)) from ok' b _ (un.frzs b ob _ z)).1
        exact (Option.some.inj (e.symm.trans e1)) ▸ e2
end
theorem walk_ofG {l : PySem.W.OpenLaw} {n k : Nat} {q : Program} {loose : List Str} {XP : (Str → Option Value) → Heap → Prop} {YP : World → Heap → Prop} {d : DefRec} {K : Params → PySem.W.Frag} {sp : World → Sp} {x : Str}
    (hn : l.most = some n) (hn2 : n ≤ sizeLine) (hdf : d.params.defaults = []) (hr : Room k callerA) (hY : ∀ (w : World) (h : Heap), YP w h → (K w.params).In h)
    (F : ∀ (w : World) (mg : Str → Option Value) (fa : Addr) (h : Heap), (K w.params).In h → h.Ns mainGlobals mg → mg d.name = some (.ref fa) →
      ∃ fd : FuncData, (∀ (s : Shared) (u : Value), BindsTo s fd ⟨[u], []⟩ [(x, u)]) ∧ ∀ base : Heap, (K w.params).In base → base.Ns mainGlobals mg → FnG l.prog w (K w.params) mg base CX0 k fa fd [x] (sp w))
    (hsp : ∀ (w : World) (H : Hp) (a : Addr) (ns : List Int), ns.length ≤ n → Only H → SqL (K w.params) H a (ns.map V.int) → sp w [.ref a] H (fun v _ => v = .bl true) fun _ _ _ => False) :
    PySem.W.WalkO q loose XP YP l.row.toRowW d [] (fun f vs => PySem.call f vs) := by
  refine Att.attach_call hn hdf fun w s0 s1 mg mb fa o pm cd doc a vs ns G Y ho hd hcd hmg hobj hints hlen hg => ?_
  obtain ⟨fd, hb, hF⟩ := F w mg fa _ (hY w _ Y) G.T.g hmg
  exact law_callG (hY w _ Y) G.T.g G.T.b G.T.builtins G.T.nolimit hg hobj hints (Nat.le_trans hlen hn2) hr hF hb fun H hO hS => hsp w H a ns hlen hO hS
/-! ### new instances whose __init__ may raise, within a try: what is raised is wished for at the slots -/
section
variable {X : Cx} {CX : CXT} {k : Nat} {f C : Addr} {fd : FuncData} {ps ks : List Str} {sp : Sp} {x : Str} {p pos : Pos} {e : Expr} {es : List Expr} {kws : List Keyword} {t tk : TA} {g : List Value → List Value → List Value} {gV : List V → List V → List V}
theorem run_makeA {pins : List (Addr × Obj)} {σ : L2.St} {H : Hp} {s : Shared} {Q : VK} {E : XK} {us : List Value} {kw : List (Str × Value)} {fu : Value → List Value} {fv : V → List V} (M : Mk X.K C f) (F : FnOk X.prog X.w X.K X.mg X.base CX k f fd ps sp) (hr : Room (k + 1) X.A)
    (hb : ∀ (s' : Shared) (v : Value), X.K.In s'.heap → BindsTo s' fd ⟨v :: us, kw⟩ (ps.zip (fu v))) (rr : ∀ a : Addr, Vals (fv (.ref a)) (fu (.ref a))) (hx : PassesAt CX X σ E) (I : Inv X pins σ H s)
    (h : ∀ x dx, H x = none → H dx = none → dx ≠ x → sp (fv (.ref x)) (upd (upd H dx (.own x)) x (.ins C dx [])) (fun v H2 => v = .non ∧ Q (.ref x) H2) E) :
    wpAny (model X.prog X.w) X.A (call (.ref C) us kw) (EP X pins σ Q) X.xe s := by
  have I2 := Inv.made (C := C) I
  have hq := h (s.heap.objs.size + 1) s.heap.objs.size (I.hok.fresh (Nat.le_succ _)) (I.hok.fresh (Nat.le_refl _)) (Nat.ne_of_lt (Nat.lt_succ_self _))
  refine wpAny_call (make_map (f := f) I.kIn M.makes M.init (beq_iff_eq.mp M.fn) (codeAny_mono (F.run _ X.stack _ _ ⟨Value.ref (s.heap.objs.size + 1) :: us, kw⟩ (fu (.ref (s.heap.objs.size + 1))) (fv (.ref (s.heap.objs.size + 1))) _ E
    (hr.make C us kw) (I2.env0.make C us kw) (hb _ _ I2.kIn) (rr _) hq) fun r s' z => ?_))
  match r, z with
  | .error e, z => exact hx pins _ _ e s' I2 z
  | .ok .next, z => exact False.elim z
  | .ok .brk, z => exact False.elim z
  | .ok .cont, z => exact False.elim z
  | .ok (.ret u), z =>
    obtain ⟨v, H', I3, rv, rfl, q3⟩ := I2.after z
    exact ⟨rv, .ref (s.heap.objs.size + 1), H', I3, rfl, q3⟩
def tMakeS (C : Addr) (sp : Sp) (E : L2.St → XK) (t : TA) : TE := fun σ H Q => t σ H fun vs H1 => ∀ x dx, H1 x = none → H1 dx = none → dx ≠ x → sp (.ref x :: vs) (upd (upd H1 dx (.own x)) x (.ins C dx [])) (fun v H2 => v = .non ∧ Q (.ref x) H2) (E σ)
def tMakeKS (C : Addr) (m : Nat) (sp : Sp) (gV : List V → List V → List V) (E : L2.St → XK) (tk : TA) : TE := fun σ H Q => tk σ H fun zs H1 => zs.length = m ∧ ∀ x dx, H1 x = none → H1 dx = none → dx ≠ x → sp (gV [.ref x] zs) (upd (upd H1 dx (.own x)) x (.ins C dx [])) (fun v H2 => v = .non ∧ Q (.ref x) H2) (E σ)
theorem pe_makeS {E : L2.St → XK} (M : Mk X.K C f) (F : FnOk X.prog X.w X.K X.mg X.base CX k f fd ps sp) (hr : Room (k + 1) X.A) (hg : Gl X x) (hm : X.mg x = some (.ref C)) (hb : Binds X.K fd ps []) (hx : ∀ σ, PassesAt CX X σ (E σ)) (ha : PA X (e :: es) t)
    (hdb : (x == ("__debug__" : Str)) = false := by decide) (he : starEach (e :: es) X.env = (false, eval e X.env) :: starEach es X.env := by rfl) (hpl : (backTo pos (starEach es X.env)).any (fun q => q.1) = false := by rfl) :
    PE X (.Call (.Name x p) (e :: es) [] pos) (tMakeS C sp E t) := by
  refine ⟨fun pins s σ H Q I h => wpAny_Call_Name_kw (ld_glob I hg hm ?_ hdb)⟩
  refine PySem.W.callWith_K (h₀ := X.base) I.ok.mod.kin M.kp (thn (ha.run pos pins s σ H _ I h) fun us s1 hh => ?_) he hpl
  obtain ⟨vs, H1, I1, r, q⟩ := hh
  refine ⟨I1.kIn, ?_⟩
  have hq := q (s1.heap.objs.size + 1) s1.heap.objs.size (I1.hok.fresh (Nat.le_succ _)) (I1.hok.fresh (Nat.le_refl _)) (Nat.ne_of_lt (Nat.lt_succ_self _))
  have hl := F.len _ _ _ _ hq
  have hl2 : vs.length = us.length := r.length
  refine run_makeA (fu := fun v => v :: us) (fv := fun v => v :: vs) M F hr (fun s' v inn => ?_) (fun a => .cons rfl r) (hx σ) I1 q
  have z := hb s' (v :: us) inn (by rw [List.append_nil, List.length_cons, ← hl2]; exact hl)
  rw [List.append_nil] at z
  exact z
theorem pe_makeKS {E : L2.St → XK} (M : Mk X.K C f) (F : FnOk X.prog X.w X.K X.mg X.base CX k f fd ps sp) (hr : Room (k + 1) X.A) (hg : Gl X x) (hm : X.mg x = some (.ref C)) (hb : KBn X.K fd ps 1 ks g gV) (hx : ∀ σ, PassesAt CX X σ (E σ)) (hkw : PK X kws tk)
    (hall : (backToKw pos (keywordEach kws X.env)).all (fun q => q.1.isSome) = true := by rfl) (hks : (backToKw pos (keywordEach kws X.env)).filterMap (fun q => q.1) = ks := by rfl) (hdb : (x == ("__debug__" : Str)) = false := by decide)
    (hpl : ((backTo pos (starEach [] X.env)).any (fun q => q.1) || (backToKw pos (keywordEach kws X.env)).any (fun q => q.1.isNone)) = false := by rfl) :
    PE X (.Call (.Name x p) [] kws pos) (tMakeKS C ks.length sp gV E tk) := by
  refine ⟨fun pins s σ H Q I h => wpAny_Call_Name_kw (ld_glob I hg hm ?_ hdb)⟩
  refine PySem.W.callWith_KW0 (h₀ := X.base) I.ok.mod.kin M.kp hall (thn (hkw.run pos pins s σ H _ I h) fun ws s2 hh => ?_) hpl
  obtain ⟨zs, H2, I2, rz, l2, q2⟩ := hh
  refine ⟨I2.kIn, ?_⟩
  rw [hks]
  exact run_makeA (fu := fun v => g [v] ws) (fv := fun v => gV [v] zs) M F hr (fun s' v inn => hb.to s' [v] ws inn rfl (rz.length.symm.trans l2)) (fun a => hb.rel (.cons rfl .nil) rz) (hx σ) I2 q2
theorem kb_mk1 {K : PySem.W.Frag} {x qual : Str} {st : Stmt} {f : Addr} {fd : FuncData} {ps ks : List Str} {g : List Value → List Value → List Value} {gV : List V → List V → List V} (F : Fun K x qual st f fd)
    (h : ∀ (kV doc pm : Value) (an : Option Addr) (cdv ct : Value) (v : Value) (ws : List Value), ws.length = ks.length → bindArgs (PySem.W.fnOf x qual (defArgs st) (defBody st) (defScope st) .none kV doc pm an cdv ct) ⟨[v], ks.zip ws⟩ = pure (ps.zip (g [v] ws)))
    (hrel : ∀ {vs : List V} {us : List Value} {zs : List V} {ws : List Value}, Vals vs us → Vals zs ws → Vals (gV vs zs) (g us ws)) : KBn K fd ps 1 ks g gV := by
  obtain ⟨oc, od, kV, doc, pm, an, cdv, ct, osl, rfl, lk, hcd⟩ := F.ex
  refine ⟨fun s us ws _ l1 l2 => ?_, hrel⟩
  match us, l1 with
  | [v], _ => exact .of_eq (h kV doc pm an cdv ct v ws l2)
/-- isinstance(e, C), e the caught exception, where its class is C or below it -/
def rIsEp (K : PySem.W.Frag) (cls : Value) (a : Addr) : List V → Hp → VK → Prop := fun xs H Q => ∃ C' : Addr, xs = [.ref a, .ref C'] ∧ PySem.W.isIn K cls C' = true ∧ Q (.bl true) H
theorem call_isEp {a : Addr} {oe : Obj} {cls : Value} {d : Option Addr} {pn : List (Addr × Obj)} (hz : Zc cls d oe) : CallR (X.suite a ((a, oe) :: pn)) (.builtin "isinstance") (rIsEp X.K cls a) := by
  intro pins s σ H xs us Q I r h
  obtain ⟨C', rfl, e, q⟩ := h
  obtain ⟨u1, u2, rfl, r1, r2⟩ := vals2 r
  cases (show u1 = Value.ref a from r1)
  cases (show u2 = Value.ref C' from r2)
  obtain ⟨hget, _⟩ := I.pin (a, oe) (List.mem_append.mpr (.inl List.mem_cons_self))
  exact PySem.W.isi_call I.kIn (fun M A Q E s k q => wpAny_typeOf_ref (k _ _ hget) (by rw [hz.1]; exact q)) e (fun z => nomatch z) ⟨.bl true, H, I, rfl, q⟩
end
section
variable {σ : L2.St} {H : Hp} {Q : VK} {K : PySem.W.Frag} {C : Addr} {sp : Sp} {D : Ends}
theorem r_makeS {E : L2.St → XK} {t : TA} (h : t σ H fun vs H1 => ∀ x dx, H1 x = none → H1 dx = none → dx ≠ x → sp (.ref x :: vs) (upd (upd H1 dx (.own x)) x (.ins C dx [])) (fun v H2 => v = .non ∧ Q (.ref x) H2) (E σ)) : tMakeS C sp E t σ H Q := h
theorem r_makeKS {m : Nat} {gV : List V → List V → List V} {E : L2.St → XK} {tk : TA} (h : tk σ H fun zs H1 => zs.length = m ∧ ∀ x dx, H1 x = none → H1 dx = none → dx ≠ x → sp (gV [.ref x] zs) (upd (upd H1 dx (.own x)) x (.ins C dx [])) (fun v H2 => v = .non ∧ Q (.ref x) H2) (E σ)) : tMakeKS C m sp gV E tk σ H Q := h
theorem r_xf {a : Addr} {cls : Value} {d : Option Addr} {f : Str} {te : TE} (h : te σ H fun x H1 => x = .ref a ∧ cls = .ref C ∧ ∃ (dd : Addr) (fs : List (Str × V)) (v : V), d = some dd ∧ H1 dd = some (.xd fs) ∧ fs.lookup f = some v ∧ Q v H1) : tXf a cls d C f te σ H Q := h
theorem r_isEp {cls : Value} {a C' : Addr} (e : PySem.W.isIn K cls C' = true) (h : Q (.bl true) H) : rIsEp K cls a [.ref a, .ref C'] H Q := ⟨C', rfl, e, h⟩
/-- self.f = e in an exception's __init__: the first field, a later one -/
theorem r_ost {f : Str} {to te : TE} (h : te σ H fun y H1 => to σ H1 fun x H2 => ∃ a C : Addr, x = .ref a ∧ OexC K C ∧ PySem.W.findIn K (.ref C) f = some none ∧
  ((H2 a = some (exo a C none) ∧ ∀ dx, H2 dx = none → dx ≠ a → D.nx σ (upd (upd H2 dx (exd dx [(f, y)])) a (exo a C (some dx)))) ∨
    ∃ (dx : Addr) (fs : List (Str × V)), H2 a = some (exo a C (some dx)) ∧ H2 dx = some (exd dx fs) ∧ fs.length ≤ 900 ∧ D.nx σ (upd H2 dx (exd dx ((f, y) :: fs))))) : tOst K f to te D σ H := h
theorem r_ost1 {a : Addr} {f : Str} {F G : Addr → Addr → Prop} {Z : Addr → Addr → Prop} (T : OexC K C) (n : PySem.W.findIn K (.ref C) f = some none) (ha : H a = some (exo a C none)) (h : F a C) : ∃ a' C : Addr, V.ref a = .ref a' ∧ OexC K C ∧ PySem.W.findIn K (.ref C) f = some none ∧ ((H a' = some (exo a' C none) ∧ F a' C) ∨ G a' C) := ⟨a, C, rfl, T, n, .inl ⟨ha, h⟩⟩
end
/-! ### wrappers that name the written part: for comprehensions, try bodies, suites -/
section
variable {X : Cx} {K : PySem.W.Frag} {o e : Expr} {f : Str} {ta te : TE} {pos : Pos}
theorem pe_fldK (ha : PE X o ta) (hK : X.K = K := by rfl) (hb : attributeBase o f X.env (eval o X.env) = eval o X.env := by rfl) : PE X (.Attribute o f pos) (tFld K ta f) := by
  subst hK
  exact pe_fld ha hb
end
/-! ### a + b by an own def that may raise, within a try -/
def tBinS (C : Addr) (sp : Sp) (E : L2.St → XK) (ta tb : TE) : TE := fun σ H Q => ta σ H fun x H1 => tb σ H1 fun y H2 => ∃ a dx fs b dy gs, x = .ref a ∧ y = .ref b ∧ H2 a = some (.ins C dx fs) ∧ H2 b = some (.ins C dy gs) ∧ sp [x, y] H2 Q (E σ)
section
variable {X : Cx} {CX : CXT} {k : Nat} {g C : Addr} {fd : FuncData} {ps : List Str} {sp : Sp} {a b : Expr} {ta tb : TE} {pos : Pos} {op : Operator}
theorem pe_binS {E : L2.St → XK} (hc : PySem.W.selfFirst X.K C = true) (hs : PySem.W.findIn X.K (.ref C) (PySem.dunder op.info.2) = some (some (.ref g))) (hf : PySem.W.isFn X.K (.ref g) = true) (F : FnOk X.prog X.w X.K X.mg X.base CX k g fd ps sp) (hr : Room k X.A) (hb : Binds X.K fd ps []) (hx : ∀ σ, PassesAt CX X σ (E σ))
    (h1 : PE X a ta) (h2 : PE X b tb) : PE X (.BinOp a op b pos) (tBinS C sp E ta tb) := by
  refine ⟨fun pins s σ H Q I h => wpAny_BinOp (binT h1 h2 I h fun v u s2 x y H2 I2 rx ry q => ?_)⟩
  obtain ⟨p, dx, fs, r, dy, gs, rfl, rfl, ha, hb', q⟩ := q
  cases (show v = Value.ref p from rx)
  cases (show u = Value.ref r from ry)
  obtain ⟨ox, od, J⟩ := inst_at I2 ha
  obtain ⟨oy, oe, J'⟩ := inst_at I2 hb'
  obtain ⟨m, hF⟩ := I2.fr
  refine PySem.W.binop_K (op := op) hF I2.ok.mod.kin J J'.type hc hs hf (wpAny_mono (run_fnS (us := [.ref p, .ref r]) (vs := [.ref p, .ref r]) F hr hb (hx σ) I2 (.cons rfl (.cons rfl .nil)) q) (fun w s' z => ?_) fun _ _ e => e)
  obtain ⟨z', H', I', rz, qz⟩ := z
  exact cmpb rz ⟨z', H', I', rz, qz⟩
end
theorem r_binS {σ : L2.St} {H : Hp} {Q : VK} {C : Addr} {sp : Sp} {E : L2.St → XK} {ta tb : TE} (h : ta σ H fun x H1 => tb σ H1 fun y H2 => ∃ a dx fs b dy gs, x = .ref a ∧ y = .ref b ∧ H2 a = some (.ins C dx fs) ∧ H2 b = some (.ins C dy gs) ∧ sp [x, y] H2 Q (E σ)) : tBinS C sp E ta tb σ H Q := h
/-! ### None -/
def endV : Option Int → V
  | none => .non
  | some i => .int i
section
variable {H : Hp} {Q : VK} {K : PySem.W.Frag} {X : Cx}
def rIsNo : R2 := fun x y H Q => y = .non ∧ Q (.bl (decide (x = .non))) H
def rNotNo : R2 := fun x y H Q => y = .non ∧ Q (.bl (!decide (x = .non))) H
theorem o_isN : OpR X (compareOp .Is) rIsNo := op_isN
theorem o_notN : OpR X (compareOp .IsNot) rNotNo := op_notN
theorem r_isNe {e : Option Int} (h : Q (.bl (!e.isSome)) H) : rIsNo (endV e) .non H Q := by
  cases e with
  | none => exact ⟨rfl, h⟩
  | some i => exact ⟨rfl, h⟩
theorem r_notNe {e : Option Int} (h : Q (.bl e.isSome) H) : rNotNo (endV e) .non H Q := by
  cases e with
  | none => exact ⟨rfl, h⟩
  | some i => exact ⟨rfl, h⟩
theorem r_isNi {i : Int} (h : Q (.bl false) H) : rIsNo (.int i) .non H Q := ⟨rfl, h⟩
theorem r_isNn (h : Q (.bl true) H) : rIsNo .non .non H Q := ⟨rfl, h⟩
theorem r_isNr {a : Addr} (h : Q (.bl false) H) : rIsNo (.ref a) .non H Q := ⟨rfl, h⟩
theorem r_notNi {i : Int} (h : Q (.bl true) H) : rNotNo (.int i) .non H Q := ⟨rfl, h⟩
theorem r_notNn (h : Q (.bl false) H) : rNotNo .non .non H Q := ⟨rfl, h⟩
theorem r_notNr {a : Addr} (h : Q (.bl true) H) : rNotNo (.ref a) .non H Q := ⟨rfl, h⟩
end
/-! ### flat data: None, truths, ints, texts, in a list or a tuple; repr and == of these -/
def vD : V → PyData
  | .non => .none
  | .bl b => .bool b
  | .int i => .int i
  | .str x => .str x
  | _ => .none
def okD : V → Prop
  | .non => True
  | .bl _ => True
  | .int i => -(10 ^ 60) < i ∧ i < 10 ^ 60
  | .str x => (reprText x).length ≤ 1000 ∧ PyData.strOk x = true
  | _ => False
/-- what may be compared: no bound on ints -/
def eqD : V → Prop
  | .non => True
  | .bl _ => True
  | .int _ => True
  | .str x => PyData.strOk x = true
  | _ => False
theorem okD.eq {v : V} (h : okD v) : eqD v := by
  cases v <;> first | exact trivial | exact h.2 | exact h.elim
theorem log_okI {i : Int} (h : -(10 ^ 60) < i ∧ i < 10 ^ 60) : i.natAbs.log2 < 1920 := by
  have h1 : i.natAbs < 2 ^ 200 := by
    have : i.natAbs < 10 ^ 60 := by omega
    exact Nat.lt_trans this (by decide)
  have h2 : i.natAbs.log2 < 200 := by
    by_cases e : i.natAbs = 0
    · rw [e]; decide
    · exact (Nat.log2_lt e).mpr h1
  omega
theorem dp_vD {K : PySem.W.Frag} {H : Hp} {v : V} (h : eqD v) : Dp K H v (vD v) := by
  cases v with
  | non => exact .non
  | bl b => exact .bl b
  | int i => exact .int i
  | str x => exact .str x
  | byt b => exact h.elim
  | flt b => exact h.elim
  | ref a => exact h.elim
  | ty n => exact h.elim
theorem dpAll_vD {K : PySem.W.Frag} {H : Hp} : ∀ {vs : List V}, (∀ v ∈ vs, eqD v) → DpAll K H vs (vs.map vD)
  | [], _ => .nil
  | v :: vs, h => .cons (dp_vD (h v List.mem_cons_self)) (dpAll_vD fun w hw => h w (List.mem_cons_of_mem _ hw))
theorem show_vD : ∀ {vs : List V}, (∀ v ∈ vs, okD v) → PyData.showableAll (vs.map vD) = true
  | [], _ => rfl
  | v :: vs, h => by
    have h1 := h v List.mem_cons_self
    have e : (vD v).showable = true := by
      cases v <;> first | rfl | exact decide_eq_true (log_okI h1)
    show ((vD v).showable && PyData.showableAll (vs.map vD)) = true
    rw [e, show_vD fun w hw => h w (List.mem_cons_of_mem _ hw)]
    rfl
theorem dict_vD : ∀ (vs : List V), PyData.hasDictAll (vs.map vD) = false
  | [] => rfl
  | v :: vs => by
    show ((vD v).hasDict || PyData.hasDictAll (vs.map vD)) = false
    rw [dict_vD vs]
    cases v <;> rfl
theorem depth_vD : ∀ (vs : List V), PyData.depthAll (vs.map vD) = 0
  | [] => rfl
  | v :: vs => by
    show max (vD v).depth (PyData.depthAll (vs.map vD)) = 0
    rw [depth_vD vs]
    cases v <;> rfl
theorem len_vD : ∀ {vs : List V}, (∀ v ∈ vs, okD v) → (PyData.shownAll (vs.map vD)).length = vs.length ∧ ((PyData.shownAll (vs.map vD)).map (fun t => t.length)).sum ≤ 2000 * vs.length
  | [], _ => ⟨rfl, Nat.le_refl _⟩
  | v :: vs, h => by
    obtain ⟨i1, i2⟩ := len_vD (vs := vs) fun w hw => h w (List.mem_cons_of_mem _ hw)
    have h1 := h v List.mem_cons_self
    have e : ((vD v).shown).length ≤ 2000 := by
      cases v with
      | non => decide +kernel
      | bl b => cases b <;> decide +kernel
      | int i => exact Nat.le_trans (PyProof.Rows.int_text_len_1921 (log_okI h1)) (by decide)
      | str x => exact Nat.le_trans h1.1 (by decide)
      | byt b => exact h1.elim
      | flt b => exact h1.elim
      | ref a => exact h1.elim
      | ty n => exact h1.elim
    refine ⟨?_, ?_⟩
    · show (PyData.shownAll (vs.map vD)).length + 1 = vs.length + 1
      rw [i1]
    · show (((vD v).shown).length :: (PyData.shownAll (vs.map vD)).map (fun t => t.length)).sum ≤ 2000 * (vs.length + 1)
      rw [List.sum_cons]
      omega
section
variable {H : Hp} {Q : VK} {K : PySem.W.Frag} {a b : Addr} {vs ws : List V}
def tupD (vs : List V) : PyData := .tuple (vs.map vD)
def lstD (vs : List V) : PyData := .list (vs.map vD)
theorem r_reprT (h : SqT K H a vs) (hv : ∀ v ∈ vs, okD v) (hl : vs.length ≤ 50) (q : Q (.str (tupD vs).shown) H) : rRepr K [.ref a] H Q := by
  refine ⟨a, tupD vs, rfl, .tup h (dpAll_vD fun v hw => (hv v hw).eq), show_vD hv, dict_vD vs, ?_, ?_, q⟩
  · show PyData.depthAll (vs.map vD) + 1 ≤ 20
    rw [depth_vD]
    decide
  · obtain ⟨i1, i2⟩ := len_vD hv
    have h3 := tupleText_len_le (PyData.shownAll (vs.map vD))
    rw [i1] at h3
    exact Nat.le_trans h3 (Nat.le_trans (show _ ≤ 200000 by omega) (by decide))
theorem r_reprL (h : SqL K H a vs) (hv : ∀ v ∈ vs, okD v) (hl : vs.length ≤ 50) (q : Q (.str (lstD vs).shown) H) : rRepr K [.ref a] H Q := by
  refine ⟨a, lstD vs, rfl, .lst h (dpAll_vD fun v hw => (hv v hw).eq), show_vD hv, dict_vD vs, ?_, ?_, q⟩
  · show PyData.depthAll (vs.map vD) + 1 ≤ 20
    rw [depth_vD]
    decide
  · obtain ⟨i1, i2⟩ := len_vD hv
    have h3 := listText_len_le (PyData.shownAll (vs.map vD))
    rw [i1] at h3
    exact Nat.le_trans h3 (Nat.le_trans (show _ ≤ 200000 by omega) (by decide))
theorem lay_vD : ∀ {vs : List V}, (∀ v ∈ vs, eqD v) → PyData.canLayAll0 (vs.map vD) = true
  | [], _ => rfl
  | v :: vs, h => by
    have h1 := h v List.mem_cons_self
    have e : (vD v).canLay0 = true := by cases v <;> first | rfl | exact h1
    show ((vD v).canLay0 && PyData.canLayAll0 (vs.map vD)) = true
    rw [e, lay_vD fun w hw => h w (List.mem_cons_of_mem _ hw)]
    rfl
theorem shaped_tup (h : ∀ v ∈ vs, eqD v) : SeqAt.shaped (tupD vs) = true := by
  unfold SeqAt.shaped
  rw [show (tupD vs).canLay0 = true from lay_vD h]
  show decide (PyData.depthAll (vs.map vD) + 1 ≤ 64) = true
  rw [depth_vD]
  rfl
theorem shaped_lst (h : ∀ v ∈ vs, eqD v) : SeqAt.shaped (lstD vs) = true := by
  unfold SeqAt.shaped
  rw [show (lstD vs).canLay0 = true from lay_vD h]
  show decide (PyData.depthAll (vs.map vD) + 1 ≤ 64) = true
  rw [depth_vD]
  rfl
/-- equality of flat data of the same kinds, place by place -/
def sameKind : V → V → Bool
  | .int _, .bl _ => false
  | .bl _, .int _ => false
  | _, _ => true
theorem eqv_vD {x y : V} (hx : eqD x) (hy : eqD y) (k : sameKind x y = true) : PyData.eqv (vD x) (vD y) = decide (x = y) := by
  cases x <;> cases y <;> first
    | exact hx.elim
    | exact hy.elim
    | (cases k; done)
    | rfl
    | (rw [decide_eq_false fun z => nomatch z]; rfl)
    | skip
  · rename_i a b
    show (a == b) = _
    rw [eq_dbl]
  · rename_i a b
    show (a == b) = _
    rw [eq_dint]
    exact (Bool.beq_eq_decide_eq a b)
  · rename_i a b
    show (a == b) = _
    rw [eq_dstr]
    exact (Bool.beq_eq_decide_eq a b)
theorem eqv_all : ∀ {vs ws : List V}, (∀ v ∈ vs, eqD v) → (∀ v ∈ ws, eqD v) → (∀ p ∈ vs.zip ws, sameKind p.1 p.2 = true) → PyData.eqvAll (vs.map vD) (ws.map vD) = decide (vs = ws)
  | [], [], _, _, _ => rfl
  | [], w :: ws, _, _, _ => by rw [decide_eq_false fun z => nomatch z]; rfl
  | v :: vs, [], _, _, _ => by rw [decide_eq_false fun z => nomatch z]; rfl
  | v :: vs, w :: ws, h1, h2, h3 => by
    show (PyData.eqv (vD v) (vD w) && PyData.eqvAll (vs.map vD) (ws.map vD)) = _
    rw [eqv_vD (h1 v List.mem_cons_self) (h2 w List.mem_cons_self) (h3 (v, w) List.mem_cons_self), eqv_all (fun x hx => h1 x (List.mem_cons_of_mem _ hx)) (fun x hx => h2 x (List.mem_cons_of_mem _ hx)) fun p hp => h3 p (List.mem_cons_of_mem _ hp), Bool.eq_iff_iff, Bool.and_eq_true, decide_eq_true_eq, decide_eq_true_eq, decide_eq_true_eq, List.cons.injEq]
theorem r_neTT (h1 : SqT K H a vs) (h2 : SqT K H b ws) (e1 : ∀ v ∈ vs, eqD v) (e2 : ∀ v ∈ ws, eqD v) (k : ∀ p ∈ vs.zip ws, sameKind p.1 p.2 = true) (q : Q (.bl (!decide (vs = ws))) H) : rNeD K (.ref a) (.ref b) H Q := by
  refine ⟨tupD vs, tupD ws, .tup h1 (dpAll_vD e1), .tup h2 (dpAll_vD e2), shaped_tup e1, shaped_tup e2, ?_⟩
  show Q (.bl (!PyData.eqvAll (vs.map vD) (ws.map vD))) H
  rw [eqv_all e1 e2 k]
  exact q
theorem r_eqTT (h1 : SqT K H a vs) (h2 : SqT K H b ws) (e1 : ∀ v ∈ vs, eqD v) (e2 : ∀ v ∈ ws, eqD v) (k : ∀ p ∈ vs.zip ws, sameKind p.1 p.2 = true) (q : Q (.bl (decide (vs = ws))) H) : rEqD K (.ref a) (.ref b) H Q := by
  refine ⟨tupD vs, tupD ws, .tup h1 (dpAll_vD e1), .tup h2 (dpAll_vD e2), shaped_tup e1, shaped_tup e2, ?_⟩
  show Q (.bl (PyData.eqvAll (vs.map vD) (ws.map vD))) H
  rw [eqv_all e1 e2 k]
  exact q
theorem r_neLL (h1 : SqL K H a vs) (h2 : SqL K H b ws) (e1 : ∀ v ∈ vs, eqD v) (e2 : ∀ v ∈ ws, eqD v) (k : ∀ p ∈ vs.zip ws, sameKind p.1 p.2 = true) (q : Q (.bl (!decide (vs = ws))) H) : rNeD K (.ref a) (.ref b) H Q := by
  refine ⟨lstD vs, lstD ws, .lst h1 (dpAll_vD e1), .lst h2 (dpAll_vD e2), shaped_lst e1, shaped_lst e2, ?_⟩
  show Q (.bl (!PyData.eqvAll (vs.map vD) (ws.map vD))) H
  rw [eqv_all e1 e2 k]
  exact q
end
/-! ### texts whose signs are signs -/
theorem sok_app {x y : Str} (hx : PyData.strOk x = true) (hy : PyData.strOk y = true) : PyData.strOk (x ++ y) = true := by
  show (x.cps ++ y.cps).all _ = true
  rw [Array.all_append]
  exact Bool.and_eq_true_iff.mpr ⟨hx, hy⟩
theorem sok_of (s : String) : PyData.strOk (Str.ofString s) = true := by
  rw [Str.ofString_eq_toList]
  show Array.all _ _ = true
  rw [List.all_toArray, List.all_map, List.all_eq_true]
  intro c _
  refine decide_eq_true ?_
  have := c.valid
  rcases this with z | z
  · exact Nat.lt_trans z (by decide)
  · exact z.2
theorem sok_join : ∀ {ts : List Str}, (∀ t ∈ ts, PyData.strOk t = true) → PyData.strOk (Str.join ", " ts) = true
  | [], _ => by decide +kernel
  | [x], h => h x List.mem_cons_self
  | x :: y :: r, h => by
    show PyData.strOk (x ++ (", " : Str) ++ Str.join ", " (y :: r)) = true
    exact sok_app (sok_app (h x List.mem_cons_self) (sok_of ", ")) (sok_join fun t ht => h t (List.mem_cons_of_mem _ ht))
theorem sok_tup {ts : List Str} (h : ∀ t ∈ ts, PyData.strOk t = true) : PyData.strOk (tupleText ts) = true := by
  unfold tupleText
  exact sok_app (sok_app (sok_of "(") (sok_join h)) (sok_of _)
theorem sok_from : ∀ {ts : List Str} {k : Nat} {acc : Str}, PyData.strOk acc = true → (∀ t ∈ ts, PyData.strOk t = true) → PyData.strOk (textFrom k acc ts) = true
  | [], _, _, ha, _ => ha
  | t :: ts, k, acc, ha, h => by
    unfold textFrom
    refine sok_from ?_ fun x hx => h x (List.mem_cons_of_mem _ hx)
    split
    · exact sok_app (sok_app ha (sok_of ", ")) (h t List.mem_cons_self)
    · exact sok_app ha (h t List.mem_cons_self)
theorem sok_lst {ts : List Str} (h : ∀ t ∈ ts, PyData.strOk t = true) : PyData.strOk (listText ts) = true := by
  unfold listText
  exact sok_app (sok_from (sok_of "[") h) (sok_of "]")
/-- a text whose repr is a text of signs (the laws' own words are) -/
def okR : V → Prop
  | .str x => PyData.strOk (reprText x) = true
  | _ => True
theorem sok_all : ∀ {vs : List V}, (∀ v ∈ vs, okR v) → ∀ t ∈ PyData.shownAll (vs.map vD), PyData.strOk t = true
  | [], _, t, ht => (nomatch ht)
  | v :: vs, h, t, ht => by
    have ht : t ∈ (vD v).shown :: PyData.shownAll (vs.map vD) := ht
    rcases List.mem_cons.mp ht with e | e
    · rw [e]
      cases v with
      | bl b => cases b <;> decide +kernel
      | int i => exact sok_of _
      | str x => exact h _ List.mem_cons_self
      | non => exact sok_of "None"
      | byt b => exact sok_of "None"
      | flt b => exact sok_of "None"
      | ref a => exact sok_of "None"
      | ty n => exact sok_of "None"
    · exact sok_all (fun w hw => h w (List.mem_cons_of_mem _ hw)) t e
theorem sok_tupD {vs : List V} (h : ∀ v ∈ vs, okR v) : PyData.strOk (tupD vs).shown = true := sok_tup (sok_all h)
theorem sok_lstD {vs : List V} (h : ∀ v ∈ vs, okR v) : PyData.strOk (lstD vs).shown = true := sok_lst (sok_all h)
/-! ### a list or a tuple, read alike; comprehensions over tuples and ranges -/
def SqA (K : PySem.W.Frag) (H : Hp) (p : Addr) (xs : List V) : Prop := SqL K H p xs ∨ SqT K H p xs
theorem same_tup {K : PySem.W.Frag} {H H' : Hp} {a : Addr} {xs : List V} (e : Same H H') (h : SqT K H a xs) : SqT K H' a xs := by
  rcases h with (h | ⟨o, h⟩) | h
  · exact .inl (.inl (e _ _ h))
  · exact .inl (.inr ⟨o, e _ _ h⟩)
  · exact .inr h
theorem SqA.same {K : PySem.W.Frag} {H H' : Hp} {a : Addr} {xs : List V} (h : SqA K H a xs) (e : Same H H') : SqA K H' a xs := h.imp (fun z => e.seq z) fun z => same_tup e z
theorem kAt_all {ns : List Int} {P : Int → Prop} (h : ∀ x ∈ ns, P x) {j : Nat} (hj : j < ns.length) : P (kAt ns j) := by
  have e : kAt ns j = ns[j] := by rw [kAt, List.getD_eq_getElem?_getD, List.getElem?_eq_getElem hj]; rfl
  rw [e]
  exact h _ (List.getElem_mem hj)
section
variable {σ : L2.St} {H : Hp} {Q : VK} {te : TE} {K : PySem.W.Frag} {a p : Addr} {xs : List V} {i : Int} {v : V}
theorem r_ixA (h : SqA K H p xs) (e : atI xs i = some v) (q : Q v H) : rIx K (.ref p) (.int i) H Q := by
  rcases h with h | h
  · exact .inl (r_ixL h e q)
  · exact .inr (.inl (r_ixT h e q))
def rTupA (K : PySem.W.Frag) : List V → Hp → VK → Prop := fun xs H Q => ∃ p ys, xs = [.ref p] ∧ ((SqL K H p ys ∧ ∀ l, H l = none → Q (.ref l) (upd H l (.tup ys))) ∨ (SqT K H p ys ∧ Q (.ref p) H))
theorem c_tupA {X : Cx} : CallR X (.type "tuple") (rTupA X.K) := call_tuple_of
theorem r_tupL (h : SqL K H p xs) (q : ∀ l, H l = none → Q (.ref l) (upd H l (.tup xs))) : rTupA K [.ref p] H Q := ⟨p, xs, rfl, .inl ⟨h, q⟩⟩
theorem r_tupA (h : SqA K H p xs) (q : ∀ l H', SqT K H' l xs → Same H H' → Q (.ref l) H') : rTupA K [.ref p] H Q := by
  rcases h with h | h
  · exact ⟨p, xs, rfl, .inl ⟨h, fun l nl => q l _ (SqT.of upd_same) (same_new nl)⟩⟩
  · exact ⟨p, xs, rfl, .inr ⟨h, q p H h (Same.refl H)⟩⟩
def rListA (K : PySem.W.Frag) : List V → Hp → VK → Prop := fun xs H Q => ∃ p ys, xs = [.ref p] ∧ (SqL K H p ys ∨ SqT K H p ys) ∧ ∀ l, H l = none → Q (.ref l) (upd H l (.lst ys))
theorem c_listA {X : Cx} : CallR X (.type "list") (rListA X.K) := call_list_of
theorem r_listA (h : SqA K H p xs) (q : ∀ l, H l = none → Q (.ref l) (upd H l (.lst xs))) : rListA K [.ref p] H Q := ⟨p, xs, rfl, h, q⟩
theorem r_catT {b : Addr} {ys : List V} (h1 : SqT K H a xs) (h2 : SqT K H b ys) (n1 : xs ≠ []) (n2 : ys ≠ []) (hz : xs.length + ys.length ≤ 1000) (q : ∀ p, H p = none → Q (.ref p) (upd H p (.tup (xs ++ ys)))) : rCatT K (.ref a) (.ref b) H Q :=
  ⟨a, b, xs, ys, rfl, rfl, h1, h2, n1, Nat.le_of_lt (small1000 hz), fun z => absurd z n2, fun _ => q⟩
theorem lc_mapT {n : Nat} (f : V → V) (hS : SqT K H a xs) (hz : xs.length ≤ 1000) (he : ∀ (x : V) (H' : Hp) (QQ : VK), x ∈ xs → Same H H' → QQ (f x) H' → te ((wipe σ [n]).set n (some x)) H' QQ)
    (hq : ∀ D, H D = none → Q (.ref D) (upd H D (.lst (xs.map f)))) : lcGo (Itt K a) (gName n) tYes te [n] σ Q H := by
  intro D hD
  refine lc_tup (K := K) (a := a) (xs := xs) (fun i H' => H' = upd H D (.lst ((xs.take i).map f))) rfl (fun i H' _ e => by subst e; exact same_tup (same_new hD) hS) ?_ ?_
  · rintro i x H' hx rfl
    refine ⟨wipe1, ?_⟩
    show te _ _ _
    refine he x _ _ (List.mem_of_getElem? hx) (same_new hD) ⟨(xs.take i).map f, upd_same, ?_, ?_⟩
    · rw [List.length_map, List.length_take]
      exact small1000 (by omega)
    · rw [upd_upd, List.take_add_one, hx, List.map_append]
      rfl
  · rintro H' rfl
    rw [List.take_length]
    exact hq D hD
theorem lc_mapR {n m : Nat} {lo : Int} (f : Nat → V) (hm : m ≤ 1000) (he : ∀ (i : Nat) (H' : Hp) (QQ : VK), i < m → Same H H' → QQ (f i) H' → te ((wipe σ [n]).set n (some (.int (lo + i)))) H' QQ)
    (hq : ∀ D, H D = none → Q (.ref D) (upd H D (.lst ((List.range m).map f)))) : lcGo (Itr lo m) (gName n) tYes te [n] σ Q H := by
  intro D hD
  refine lc_range (fun i H' => H' = upd H D (.lst ((List.range i).map f))) rfl ?_ ?_
  · rintro i H' hi rfl
    refine ⟨wipe1, ?_⟩
    show te _ _ _
    refine he i _ _ hi (same_new hD) ⟨(List.range i).map f, upd_same, ?_, ?_⟩
    · rw [List.length_map, List.length_range]
      exact small1000 (by omega)
    · rw [upd_upd, List.range_succ, List.map_append]
      rfl
  · rintro H' rfl
    exact hq D hD
end
/-! ### xs != [] of any items; comprehensions with any target -/
def rNeE (K : PySem.W.Frag) : R2 := fun x y H Q => ∃ a b xs, x = .ref a ∧ y = .ref b ∧ SqL K H a xs ∧ SqL K H b [] ∧ Q (.bl (!xs.isEmpty)) H
theorem op_neE {X : Cx} (hu : X.A.units < cLine) : OpR X (compareOp .NotEq) (rNeE X.K) := by
  intro pins s σ H x y v u Q I rx ry h
  obtain ⟨a, b, xs, rfl, rfl, h1, h2, q⟩ := h
  cases (show v = Value.ref a from rx)
  cases (show u = Value.ref b from ry)
  obtain ⟨its, r1, ⟨o1, n1, g1, c1, _, d1⟩, _⟩ := I.list h1
  obtain ⟨its2, r2, ⟨o2, n2, g2, c2, _, d2⟩, _⟩ := I.list h2
  cases r2
  show wpAny _ _ (richCompare .NotEq _ _) _ _ _
  cases r1 with
  | nil => exact SeqAt.RcNeAt.lists (e := fun _ => true) ⟨o1, g1, c1, n1, d1⟩ ⟨o2, g2, c2, n2, d2⟩ rfl hu (fun j h1 _ => absurd h1 (Nat.not_lt_zero j)) _ _ _ _ ⟨.bl false, H, I, rfl, q⟩
  | cons ra rb => exact SeqAt.RcNeAt.lists_lengths ⟨o1, g1, c1, n1, d1⟩ ⟨o2, g2, c2, n2, d2⟩ rfl hu _ _ _ _ ⟨.bl true, H, I, rfl, q⟩
section
variable {σ : L2.St} {H : Hp} {Q : VK} {te : TE} {K : PySem.W.Frag} {a b : Addr} {xs : List V}
theorem r_neE (h1 : SqL K H a xs) (h2 : SqL K H b []) (q : Q (.bl (!xs.isEmpty)) H) : rNeE K (.ref a) (.ref b) H Q := ⟨a, b, xs, rfl, rfl, h1, h2, q⟩
/-- [e for target in xs], e a value by a function of the item -/
theorem lc_mapG {g : TG} {vs : List Nat} (f : V → V) (hS : SqL K H a xs) (hz : xs.length ≤ 1000) (he : ∀ (x : V) (H' : Hp) (QQ : VK), x ∈ xs → Same H H' → QQ (f x) H' → g x (wipe σ vs) H' fun σ2 H2 => wipe σ2 vs = wipe σ vs ∧ te σ2 H2 QQ)
    (hq : ∀ D, H D = none → Q (.ref D) (upd H D (.lst (xs.map f)))) : lcGo (Itl K a) g tYes te vs σ Q H := by
  intro D hD
  refine lc_list (K := K) (a := a) (xs := xs) (fun i H' => H' = upd H D (.lst ((xs.take i).map f))) rfl (fun i H' _ e => by subst e; exact (same_new hD).seq hS) ?_ ?_
  · rintro i x H' hx rfl
    refine he x _ _ (List.mem_of_getElem? hx) (same_new hD) ⟨(xs.take i).map f, upd_same, ?_, ?_⟩
    · rw [List.length_map, List.length_take]
      exact small1000 (by omega)
    · rw [upd_upd, List.take_add_one, hx, List.map_append]
      rfl
  · rintro H' rfl
    rw [List.take_length]
    exact hq D hD
end
def top (i : Nat) : Stmt := PySem.Challenge.pw_windowrows_k17_offsets_made_and_refused.main.body.getD i (.Pass ⟨0, 0, 0, 0⟩)
abbrev s_BadOffset___init__ : Stmt := inClass (top 2) 0
theorem sc_BadOffset___init__ : FnScope ["self", "rows", "groups", "distance"] ["self", "rows", "groups", "distance"] (defScope s_BadOffset___init__) := ⟨rfl, rfl, rfl, by decide +kernel, rfl, by decide +kernel, by decide +kernel⟩
abbrev s_possible : Stmt := top 4
theorem sc_possible : FnScope ["rows", "groups", "distance"] ["rows", "groups", "distance"] (defScope s_possible) := ⟨rfl, rfl, rfl, by decide +kernel, rfl, by decide +kernel, by decide +kernel⟩
abbrev s_zone_of : Stmt := top 5
theorem sc_zone_of : FnScope ["rows", "groups"] ["rows", "groups"] (defScope s_zone_of) := ⟨rfl, rfl, rfl, by decide +kernel, rfl, by decide +kernel, by decide +kernel⟩
abbrev s_Offset___init__ : Stmt := inClass (top 6) 0
theorem sc_Offset___init__ : FnScope ["self", "rows", "groups", "distance"] ["self", "rows", "groups", "distance"] (defScope s_Offset___init__) := ⟨rfl, rfl, rfl, by decide +kernel, rfl, by decide +kernel, by decide +kernel⟩
abbrev s_Offset_fewest_rows : Stmt := inClass (top 6) 1
theorem sc_Offset_fewest_rows : FnScope ["self"] ["self"] (defScope s_Offset_fewest_rows) := ⟨rfl, rfl, rfl, by decide +kernel, rfl, by decide +kernel, by decide +kernel⟩
abbrev s_Offset___neg__ : Stmt := inClass (top 6) 2
theorem sc_Offset___neg__ : FnScope ["self"] ["self"] (defScope s_Offset___neg__) := ⟨rfl, rfl, rfl, by decide +kernel, rfl, by decide +kernel, by decide +kernel⟩
abbrev s_Offset___add__ : Stmt := inClass (top 6) 3
theorem sc_Offset___add__ : FnScope ["self", "other"] ["self", "other"] (defScope s_Offset___add__) := ⟨rfl, rfl, rfl, by decide +kernel, rfl, by decide +kernel, by decide +kernel⟩
abbrev s_Offset___eq__ : Stmt := inClass (top 6) 4
theorem sc_Offset___eq__ : FnScope ["self", "other"] ["self", "other"] (defScope s_Offset___eq__) := ⟨rfl, rfl, rfl, by decide +kernel, rfl, by decide +kernel, by decide +kernel⟩
abbrev s__law_begin : Stmt := top 8
theorem sc__law_begin : FnScope ["_law_script", "_law_cells", "_law_rests", "_law_cell"] ["_law_script"] (defScope s__law_begin) := ⟨rfl, rfl, rfl, by decide +kernel, rfl, by decide +kernel, by decide +kernel⟩
abbrev s__law_draw : Stmt := top 9
theorem sc__law_draw : FnScope ["_law_draws", "_law_many", "_law_cells", "_law_rests", "_law_turn", "_law_at", "_law_got", "_law_first", "_law_salt", "_law_second", "_law_mixed", "_law_third"] ["_law_draws", "_law_many"] (defScope s__law_draw) := ⟨rfl, rfl, rfl, by decide +kernel, rfl, by decide +kernel, by decide +kernel⟩
abbrev s__law_whole : Stmt := top 10
theorem sc__law_whole : FnScope ["_law_x"] ["_law_x"] (defScope s__law_whole) := ⟨rfl, rfl, rfl, by decide +kernel, rfl, by decide +kernel, by decide +kernel⟩
abbrev s__law_good : Stmt := top 11
theorem sc__law_good : FnScope ["_law_draws", "_law_way", "_law_g", "_law_d", "_law_k"] ["_law_draws"] (defScope s__law_good) := ⟨rfl, rfl, rfl, by decide +kernel, rfl, by decide +kernel, by decide +kernel⟩
abbrev s__law_far : Stmt := top 12
theorem sc__law_far : FnScope ["_law_draws", "_law_base", "_law_way"] ["_law_draws", "_law_base"] (defScope s__law_far) := ⟨rfl, rfl, rfl, by decide +kernel, rfl, by decide +kernel, by decide +kernel⟩
abbrev s__law_triple : Stmt := top 13
theorem sc__law_triple : FnScope ["_law_draws", "_law_kept", "_law_way", "_law_g", "_law_d", "_law_found", "_law_at", "_law_k"] ["_law_draws", "_law_kept"] (defScope s__law_triple) := ⟨rfl, rfl, rfl, by decide +kernel, rfl, by decide +kernel, by decide +kernel⟩
abbrev s__law_zone : Stmt := top 14
theorem sc__law_zone : FnScope ["_law_triple_here", "_law_d", "_law_g", "_law_k"] ["_law_triple_here"] (defScope s__law_zone) := ⟨rfl, rfl, rfl, by decide +kernel, rfl, by decide +kernel, by decide +kernel⟩
abbrev s__law_made : Stmt := top 15
theorem sc__law_made : FnScope ["_law_triple_here", "_law_by_name", "_law_d", "_law_g", "_law_k", "_law_offset", "e"] ["_law_triple_here", "_law_by_name"] (defScope s__law_made) := ⟨rfl, rfl, rfl, by decide +kernel, rfl, by decide +kernel, by decide +kernel⟩
abbrev s__law_right : Stmt := top 16
theorem sc__law_right : FnScope ["_law_offset", "_law_triple_here"] ["_law_offset", "_law_triple_here"] (defScope s__law_right) := ⟨rfl, rfl, rfl, by decide +kernel, rfl, by decide +kernel, by decide +kernel⟩
abbrev s_law : Stmt := top 17
theorem sc_law : FnScope ["_law_script", "_law_draws", "_law_kept", "_law_turn", "_law_triple_here", "_law_made_here", "_law_offset", "_law_one", "_law_other", "_law_two"] ["_law_script"] (defScope s_law) := ⟨rfl, rfl, rfl, by decide +kernel, rfl, by decide +kernel, by decide +kernel⟩
def permS120 {α : Type} : List α → List α → List α
  | [s], [a, b, c] => [s, b, c, a]
  | _, _ => []
theorem permS120_rel {vs : List V} {us : List Value} {zs : List V} {ws : List Value} (r0 : Vals vs us) (r : Vals zs ws) : Vals (permS120 vs zs) (permS120 us ws) := by
  cases r0 with
  | nil => exact .nil
  | cons s r0 =>
    cases r0 with
    | cons y r0 => exact .nil
    | nil =>
      cases r with
      | nil => exact .nil
      | cons a r =>
        cases r with
        | nil => exact .nil
        | cons b r =>
          cases r with
          | nil => exact .nil
          | cons c r =>
            cases r with
            | nil => exact (.cons s (.cons b (.cons c (.cons a .nil))))
            | cons z r => exact .nil
structure Txt (K : PySem.W.Frag) (mg : Str → Option Value) where
  f_BadOffset___init__ : Addr
  d_BadOffset___init__ : FuncData
  F_BadOffset___init__ : Fun K "__init__" "BadOffset.__init__" s_BadOffset___init__ f_BadOffset___init__ d_BadOffset___init__
  b_BadOffset___init__ : Binds K d_BadOffset___init__ ["self", "rows", "groups", "distance"] []
  f_possible : Addr
  d_possible : FuncData
  F_possible : Fun K "possible" "possible" s_possible f_possible d_possible
  b_possible : Binds K d_possible ["rows", "groups", "distance"] []
  g_possible : mg "possible" = some (.ref f_possible)
  f_zone_of : Addr
  d_zone_of : FuncData
  F_zone_of : Fun K "zone_of" "zone_of" s_zone_of f_zone_of d_zone_of
  b_zone_of : Binds K d_zone_of ["rows", "groups"] []
  g_zone_of : mg "zone_of" = some (.ref f_zone_of)
  f_Offset___init__ : Addr
  d_Offset___init__ : FuncData
  F_Offset___init__ : Fun K "__init__" "Offset.__init__" s_Offset___init__ f_Offset___init__ d_Offset___init__
  b_Offset___init__ : Binds K d_Offset___init__ ["self", "rows", "groups", "distance"] []
  kb_Offset___init__ : KBn K d_Offset___init__ ["self", "rows", "groups", "distance"] 1 ["distance", "rows", "groups"] (permS120 (α := Value)) (permS120 (α := V))
  f_Offset_fewest_rows : Addr
  d_Offset_fewest_rows : FuncData
  F_Offset_fewest_rows : Fun K "fewest_rows" "Offset.fewest_rows" s_Offset_fewest_rows f_Offset_fewest_rows d_Offset_fewest_rows
  b_Offset_fewest_rows : Binds K d_Offset_fewest_rows ["self"] []
  f_Offset___neg__ : Addr
  d_Offset___neg__ : FuncData
  F_Offset___neg__ : Fun K "__neg__" "Offset.__neg__" s_Offset___neg__ f_Offset___neg__ d_Offset___neg__
  b_Offset___neg__ : Binds K d_Offset___neg__ ["self"] []
  f_Offset___add__ : Addr
  d_Offset___add__ : FuncData
  F_Offset___add__ : Fun K "__add__" "Offset.__add__" s_Offset___add__ f_Offset___add__ d_Offset___add__
  b_Offset___add__ : Binds K d_Offset___add__ ["self", "other"] []
  f_Offset___eq__ : Addr
  d_Offset___eq__ : FuncData
  F_Offset___eq__ : Fun K "__eq__" "Offset.__eq__" s_Offset___eq__ f_Offset___eq__ d_Offset___eq__
  b_Offset___eq__ : Binds K d_Offset___eq__ ["self", "other"] []
  f__law_begin : Addr
  d__law_begin : FuncData
  F__law_begin : Fun K "_law_begin" "_law_begin" s__law_begin f__law_begin d__law_begin
  b__law_begin : Binds K d__law_begin ["_law_script"] []
  g__law_begin : mg "_law_begin" = some (.ref f__law_begin)
  f__law_draw : Addr
  d__law_draw : FuncData
  F__law_draw : Fun K "_law_draw" "_law_draw" s__law_draw f__law_draw d__law_draw
  b__law_draw : Binds K d__law_draw ["_law_draws", "_law_many"] []
  g__law_draw : mg "_law_draw" = some (.ref f__law_draw)
  f__law_whole : Addr
  d__law_whole : FuncData
  F__law_whole : Fun K "_law_whole" "_law_whole" s__law_whole f__law_whole d__law_whole
  b__law_whole : Binds K d__law_whole ["_law_x"] []
  g__law_whole : mg "_law_whole" = some (.ref f__law_whole)
  f__law_good : Addr
  d__law_good : FuncData
  F__law_good : Fun K "_law_good" "_law_good" s__law_good f__law_good d__law_good
  b__law_good : Binds K d__law_good ["_law_draws"] []
  g__law_good : mg "_law_good" = some (.ref f__law_good)
  f__law_far : Addr
  d__law_far : FuncData
  F__law_far : Fun K "_law_far" "_law_far" s__law_far f__law_far d__law_far
  b__law_far : Binds K d__law_far ["_law_draws", "_law_base"] []
  g__law_far : mg "_law_far" = some (.ref f__law_far)
  f__law_triple : Addr
  d__law_triple : FuncData
  F__law_triple : Fun K "_law_triple" "_law_triple" s__law_triple f__law_triple d__law_triple
  b__law_triple : Binds K d__law_triple ["_law_draws", "_law_kept"] []
  g__law_triple : mg "_law_triple" = some (.ref f__law_triple)
  f__law_zone : Addr
  d__law_zone : FuncData
  F__law_zone : Fun K "_law_zone" "_law_zone" s__law_zone f__law_zone d__law_zone
  b__law_zone : Binds K d__law_zone ["_law_triple_here"] []
  g__law_zone : mg "_law_zone" = some (.ref f__law_zone)
  f__law_made : Addr
  d__law_made : FuncData
  F__law_made : Fun K "_law_made" "_law_made" s__law_made f__law_made d__law_made
  b__law_made : Binds K d__law_made ["_law_triple_here", "_law_by_name"] []
  g__law_made : mg "_law_made" = some (.ref f__law_made)
  f__law_right : Addr
  d__law_right : FuncData
  F__law_right : Fun K "_law_right" "_law_right" s__law_right f__law_right d__law_right
  b__law_right : Binds K d__law_right ["_law_offset", "_law_triple_here"] []
  g__law_right : mg "_law_right" = some (.ref f__law_right)
  f_law : Addr
  d_law : FuncData
  F_law : Fun K "law" "law" s_law f_law d_law
  b_law : Binds K d_law ["_law_script"] []
  g_law : mg "law" = some (.ref f_law)
  z_NotImplemented : mg "NotImplemented" = none
  z_abs : mg "abs" = none
  z_bool : mg "bool" = none
  z_int : mg "int" = none
  z_isinstance : mg "isinstance" = none
  z_len : mg "len" = none
  z_list : mg "list" = none
  z_range : mg "range" = none
  z_repr : mg "repr" = none
  z_tuple : mg "tuple" = none
  C_WindowError : Addr
  g_WindowError : mg "WindowError" = some (.ref C_WindowError)
  C_BadOffset : Addr
  g_BadOffset : mg "BadOffset" = some (.ref C_BadOffset)
  ox_BadOffset : OexC K C_BadOffset
  xf_BadOffset : XfC K C_BadOffset
  iC_BadOffset : PySem.W.findIn K (.ref C_BadOffset) "__init__" = some (some (.ref f_BadOffset___init__))
  tI_BadOffset : PySem.W.typeIn K (.ref f_BadOffset___init__) = some (.type "function")
  nf_BadOffset_rows : PySem.W.findIn K (.ref C_BadOffset) "rows" = some none
  nf_BadOffset_groups : PySem.W.findIn K (.ref C_BadOffset) "groups" = some none
  nf_BadOffset_distance : PySem.W.findIn K (.ref C_BadOffset) "distance" = some none
  em_BadOffset_BadOffset : PySem.W.exmOne K (.ref C_BadOffset) (.ref C_BadOffset) = some true
  is_BadOffset_BadOffset : PySem.W.isIn K (.ref C_BadOffset) C_BadOffset = true
  em_BadOffset_WindowError : PySem.W.exmOne K (.ref C_BadOffset) (.ref C_WindowError) = some true
  is_BadOffset_WindowError : PySem.W.isIn K (.ref C_BadOffset) C_WindowError = true
  C_Offset : Addr
  g_Offset : mg "Offset" = some (.ref C_Offset)
  c_Offset : Cls K C_Offset
  m_Offset : Mk K C_Offset f_Offset___init__
  nf_Offset_rows : NoAttr K C_Offset "rows"
  nf_Offset_groups : NoAttr K C_Offset "groups"
  nf_Offset_distance : NoAttr K C_Offset "distance"
  nf_Offset_zone : NoAttr K C_Offset "zone"
  mt_Offset_fewest_rows : Meth K C_Offset "fewest_rows" f_Offset_fewest_rows
  mt_Offset___neg__ : Meth K C_Offset "__neg__" f_Offset___neg__
  mt_Offset___add__ : Meth K C_Offset "__add__" f_Offset___add__
  mt_Offset___eq__ : Meth K C_Offset "__eq__" f_Offset___eq__
  ca_Offset : PySem.W.findIn K (.ref C_Offset) "__class__" = some (some (.builtin "object.__class__"))
  cn_Offset : PySem.W.specialIn K (.builtin "object.__class__") "__get__" = some (some (.builtin "getset_descriptor.__get__"))
  ct_Offset : PySem.W.takesIn K (.builtin "object.__class__") = some true
  cm_Offset : PySem.W.mroIn K C_Offset (.type "object") = some true
  nt_Offset : PySem.W.notFirst K C_Offset (.ref C_Offset) = true
  sf_Offset : PySem.W.selfFirst K C_Offset = true
  nt_Offset_list : PySem.W.notFirst K C_Offset (.type "list") = true
  nt_Offset_tuple : PySem.W.notFirst K C_Offset (.type "tuple") = true
  nt_Offset_int : PySem.W.notFirst K C_Offset (.type "int") = true
  ki_Offset_list : PySem.W.kitOne K (.type "list") (.ref C_Offset) = some false
  ki_Offset_tuple : PySem.W.kitOne K (.type "tuple") (.ref C_Offset) = some false
  ki_Offset_int : PySem.W.kitOne K (.type "int") (.ref C_Offset) = some false

def possB (r g d : Int) : Bool := decide ((g = 0 ∧ d = 0) ∨ (g < 0 ∧ r ≤ g ∧ d ≤ g) ∨ (0 < g ∧ g ≤ r ∧ g ≤ d))
theorem poss_neg (r g d : Int) : possB (-r) (-g) (-d) = possB r g d := by
  unfold possB
  rw [decide_eq_decide]
  omega
def zoneS (r g : Int) : Str := if r = 0 then "self" else if g = 0 then (if 0 < r then "after" else "before") else if 0 < g then "future" else "past"
def offF (r g d : Int) : List (Str × V) := putF "zone" (.str (zoneS r g)) (putF "distance" (.int d) (putF "groups" (.int g) (putF "rows" (.int r) [])))
theorem n_rg : ¬ (("rows" : Str) = "groups") := by decide +kernel
theorem n_rd : ¬ (("rows" : Str) = "distance") := by decide +kernel
theorem n_rz : ¬ (("rows" : Str) = "zone") := by decide +kernel
theorem n_gd : ¬ (("groups" : Str) = "distance") := by decide +kernel
theorem n_gz : ¬ (("groups" : Str) = "zone") := by decide +kernel
theorem n_dz : ¬ (("distance" : Str) = "zone") := by decide +kernel
theorem off_rows (r g d : Int) : (offF r g d).lookup ("rows" : Str) = some (.int r) := by
  unfold offF
  rw [lookup_putF, if_neg n_rz, lookup_putF, if_neg n_rd, lookup_putF, if_neg n_rg, lookup_putF, if_pos rfl]
theorem off_groups (r g d : Int) : (offF r g d).lookup ("groups" : Str) = some (.int g) := by
  unfold offF
  rw [lookup_putF, if_neg n_gz, lookup_putF, if_neg n_gd, lookup_putF, if_pos rfl]
theorem off_distance (r g d : Int) : (offF r g d).lookup ("distance" : Str) = some (.int d) := by
  unfold offF
  rw [lookup_putF, if_neg n_dz, lookup_putF, if_pos rfl]
theorem off_zone (r g d : Int) : (offF r g d).lookup ("zone" : Str) = some (.str (zoneS r g)) := by
  unfold offF
  rw [lookup_putF, if_pos rfl]
theorem off_no (r g d : Int) {m : Str} (h1 : ¬ m = "zone") (h2 : ¬ m = "distance") (h3 : ¬ m = "groups") (h4 : ¬ m = "rows") : (offF r g d).lookup m = none := by
  unfold offF
  rw [lookup_putF, if_neg h1, lookup_putF, if_neg h2, lookup_putF, if_neg h3, lookup_putF, if_neg h4]
  rfl
theorem putF_len (f : Str) (v : V) : ∀ fs : List (Str × V), (putF f v fs).length ≤ fs.length + 1
  | [] => Nat.le_refl _
  | (g, x) :: r => by
    unfold putF
    split
    · show r.length + 1 ≤ r.length + 1 + 1
      omega
    · show (putF f v r).length + 1 ≤ r.length + 1 + 1
      have := putF_len f v r
      omega
/-- an Offset stands at p -/
def OffAt (C : Addr) (H : Hp) (p : Addr) (r g d : Int) : Prop := ∃ dx, H p = some (.ins C dx (offF r g d))
theorem OffAt.same {C : Addr} {H H' : Hp} {p : Addr} {r g d : Int} (h : OffAt C H p r g d) (s : Same H H') : OffAt C H' p r g d := by
  obtain ⟨dx, e⟩ := h
  exact ⟨dx, s _ _ e⟩
/-- the dict of a BadOffset -/
def badF (r g d : Int) : List (Str × V) := [("distance", .int d), ("groups", .int g), ("rows", .int r)]
theorem bad_rows (r g d : Int) : (badF r g d).lookup ("rows" : Str) = some (.int r) := by
  unfold badF
  rw [lookup_put, if_neg n_rd, lookup_put, if_neg n_rg, lookup_put, if_pos rfl]
theorem bad_groups (r g d : Int) : (badF r g d).lookup ("groups" : Str) = some (.int g) := by
  unfold badF
  rw [lookup_put, if_neg n_gd, lookup_put, if_pos rfl]
theorem bad_distance (r g d : Int) : (badF r g d).lookup ("distance" : Str) = some (.int d) := by
  unfold badF
  rw [lookup_put, if_pos rfl]
def sp3 (f : Int → Int → Int → Bool) : Sp := fun vs H Q _ => ∃ a b c : Int, vs = [.int a, .int b, .int c] ∧ Q (.bl (f a b c)) H
def spZone2 : Sp := fun vs H Q _ => ∃ a b : Int, vs = [.int a, .int b] ∧ Q (.str (zoneS a b)) H
def spBInit (C : Addr) : Sp := fun vs H Q _ => ∃ (a : Addr) (r g d : Int), vs = [.ref a, .int r, .int g, .int d] ∧ H a = some (exo a C none) ∧
  ∀ (dx : Addr) (H' : Hp), H dx = none → H' a = some (exo a C (some dx)) → H' dx = some (exd dx (badF r g d)) → (∀ b o, H b = some o → b ≠ a → H' b = some o) → Q .non H'
def spOInit (C CB : Addr) : Sp := fun vs H Q E => ∃ (p dx : Addr) (r g d : Int), vs = [.ref p, .int r, .int g, .int d] ∧ H p = some (.ins C dx []) ∧
  (possB r g d = false → ∀ (dd : Addr) (H' : Hp), H dd = none → H' dd = some (.xd (badF r g d)) → Same H H' → E (.ref CB) (some dd) H') ∧
  (possB r g d = true → ∀ H', OffAt C H' p r g d → (∀ b o, H b = some o → b ≠ p → H' b = some o) → Q .non H')
def spOFew (C : Addr) : Sp := fun vs H Q _ => ∃ (p : Addr) (r g d : Int), vs = [.ref p] ∧ OffAt C H p r g d ∧ Q (.int (1 + (if r < 0 then -r else r))) H
def spONeg (C : Addr) : Sp := fun vs H Q _ => ∃ (p : Addr) (r g d : Int), vs = [.ref p] ∧ OffAt C H p r g d ∧ possB r g d = true ∧ ∀ x H', H x = none → Same H H' → OffAt C H' x (-r) (-g) (-d) → Q (.ref x) H'
def spOAdd (C CB : Addr) : Sp := fun vs H Q E => ∃ (p q : Addr) (r g d r' g' d' : Int), vs = [.ref p, .ref q] ∧ OffAt C H p r g d ∧ OffAt C H q r' g' d' ∧
  (possB (r + r') (g + g') (d + d') = false → ∀ (dd : Addr) (H' : Hp), H' dd = some (.xd (badF (r + r') (g + g') (d + d'))) → Same H H' → E (.ref CB) (some dd) H') ∧
  (possB (r + r') (g + g') (d + d') = true → ∀ x H', H x = none → Same H H' → OffAt C H' x (r + r') (g + g') (d + d') → Q (.ref x) H')
def spOEq (C : Addr) : Sp := fun vs H Q _ => ∃ (p q : Addr) (r g d r' g' d' : Int), vs = [.ref p, .ref q] ∧ OffAt C H p r g d ∧ OffAt C H q r' g' d' ∧ Q (.bl (decide (r = r') && (decide (g = g') && decide (d = d')))) H
theorem same_two {H : Hp} {x dx C : Addr} (nx : H x = none) (nd : H dx = none) : Same H (upd (upd H dx (.own x)) x (.ins C dx [])) := fun b o e => (upd_ne (ne_of_none e nx)).trans ((upd_ne (ne_of_none e nd)).trans e)
theorem make_off {C CB : Addr} {H : Hp} {Q : VK} {E : XK} {r g d : Int} (hn : possB r g d = false → ∀ (dd : Addr) (H' : Hp), H' dd = some (.xd (badF r g d)) → Same H H' → E (.ref CB) (some dd) H') (h : possB r g d = true → ∀ x H', H x = none → Same H H' → OffAt C H' x r g d → Q (.ref x) H') :
    ∀ x dx, H x = none → H dx = none → dx ≠ x → spOInit C CB (.ref x :: ([.int r, .int g, .int d] ++ [])) (upd (upd H dx (.own x)) x (.ins C dx [])) (fun v H2 => v = .non ∧ Q (.ref x) H2) E :=
  fun x dx nx nd _ => ⟨x, dx, r, g, d, rfl, upd_same, fun hf dd H' _ hd s => hn hf dd H' hd ((same_two nx nd).trans s), fun ht H' ho hk => ⟨rfl, h ht x H' nx (same_make nx nd hk) ho⟩⟩
/-- the same, read for any end -/
theorem make_offF {C CB : Addr} {H : Hp} {F : Addr → Hp → Prop} {E : XK} {r g d : Int} (hb : possB r g d = true) (h : ∀ x H', H x = none → Same H H' → OffAt C H' x r g d → F x H') :
    ∀ x dx, H x = none → H dx = none → dx ≠ x → spOInit C CB (.ref x :: ([.int r, .int g, .int d] ++ [])) (upd (upd H dx (.own x)) x (.ins C dx [])) (fun v H2 => v = .non ∧ F x H2) E :=
  fun x dx nx nd _ => ⟨x, dx, r, g, d, rfl, upd_same, fun hf => (by rw [hb] at hf; cases hf), fun _ H' ho hk => ⟨rfl, h x H' nx (same_make nx nd hk) ho⟩⟩
local macro_rules | `(tactic| wtm_at "rd1") => `(tactic| with_reducible first
  | refine r_seq ?_ | refine r_next ?_ | refine r_asg ?_ | refine r_drop ?_ | refine r_ret ?_ | refine r_ifs ?_ | refine r_gname ?_ | refine r_gsub ?_ | refine r_gcons ?_ | refine r_gnil ?_
  | refine r_var rfl ?_ | refine r_c ?_ | refine r_op ?_ | refine r_un ?_ | refine r_I0 ?_ | refine r_U ?_ | refine r_test ?_ | refine r_tB ?_ | refine r_bl ?_
  | refine r_and ?_ | refine r_or ?_ | refine r_not ?_ | refine r_andV ?_ | refine r_orV ?_ | refine r_notV ?_ | refine r_ife ?_
  | refine r_eqI ?_ | refine r_neI ?_ | refine r_eqB ?_ | refine r_neB ?_ | refine r_eqS ?_ | refine r_neS ?_
  | refine r_nil ?_ | refine r_cons ?_ | refine r_cb ?_ | refine r_call ?_ | refine r_lst ?_ | refine r_tup ?_ | refine r_int1 ?_ | refine r_intB ?_ | refine r_abs1 ?_ | refine r_bm ?_ | refine r_sl ?_ | refine r_np ?_ | refine r_pt ?_ | refine r_pti ?_ | refine r_lc ?_ | refine r_il ?_ | refine r_it ?_ | refine r_rng1 ?_ | refine r_rng2 ?_ | refine r_callN ?_ | refine r_fld ?_ | refine r_sfld ?_ | refine r_meth ?_ | refine r_make ?_ | refine r_aug rfl ?_ | refine r_ipI ?_ | refine r_par ?_ | refine r_par3 ?_ | refine r_two ?_ | refine r_three ?_)
local macro_rules | `(tactic| wtm_at "ixs") => `(tactic| first
  | ((with_reducible show rIxL _ (V.ref _) (V.int _) _ _); refine r_ixL (.inl (.inl (by assumption))) (by first | rfl | exact ati_n (by omega) | exact ati_int (by omega) (by omega)) ?_)
  | ((with_reducible show rIxT _ (V.ref _) (V.int _) _ _); refine r_ixT (.inl (.inl (by assumption))) (by first | rfl | exact ati_n (by omega) | exact ati_int (by omega) (by omega)) ?_))
local macro_rules | `(tactic| wtm_at "rd") => `(tactic| repeat first | wtm_at "rd1" | wtm_at "ixs")
local macro_rules | `(tactic| wtm_at "rdi") => `(tactic| repeat' (first | wtm_at "rd1" | wtm_at "ixs" | with_reducible refine iteT ?_ | with_reducible refine iteF ?_ | with_reducible refine iteNT ?_ | with_reducible refine iteNF ?_ | with_reducible refine r_ite (fun _ => ?_) (fun _ => ?_) | with_reducible refine r_iten (fun _ => ?_) (fun _ => ?_)))
local macro_rules | `(tactic| wtm_at "rd1") => `(tactic| with_reducible first
  | refine r_binS ?_ | refine r_makeS ?_ | refine r_makeKS ?_ | refine r_xf ?_ | refine r_ost ?_ | refine r_isNi ?_ | refine r_isNn ?_ | refine r_isNr ?_ | refine r_notNi ?_ | refine r_notNn ?_ | refine r_notNr ?_ | refine r_isNe ?_ | refine r_notNe ?_)
section
variable {P : Program} {w : World} {K : PySem.W.Frag} {mg : Str → Option Value} {base : Heap}
theorem ok__law_draw (T : Txt K mg) : FnOk P w K mg base CX0 1 T.f__law_draw T.d__law_draw ["_law_draws", "_law_many"] spDraw := by
  refine T.F__law_draw.ok sc__law_draw (fun vs H Q E h => ?_) (fun cdv A outer s H vs Q E hr h => ?_)
  · obtain ⟨d, c, r, m, rfl, _⟩ := h
    rfl
  · obtain ⟨d, c, r, m, rfl, D, m0, m1, q⟩ := h
    obtain ⟨dc, dr, cr, ns, rs, t, h1, h2, h3, hl, hp, ht, hn⟩ := D
    refine ⟨_, (pss_cons (ps_set (i := 2) sc__law_draw.nd rfl (by first | exact Or.inl rfl | exact Or.inr rfl) (pe_ix (r := rIxL K) ix_list (pv 0) pe_int (fun _ _ => rfl)))
      (pss_cons (ps_set (i := 3) sc__law_draw.nd rfl (by first | exact Or.inl rfl | exact Or.inr rfl) (pe_ix (r := rIxL K) ix_list (pv 0) pe_int (fun _ _ => rfl)))
      (pss_cons (ps_set (i := 4) sc__law_draw.nd rfl (by first | exact Or.inl rfl | exact Or.inr rfl) (pe_ix (r := rIxL K) ix_list (pv 0) pe_int (fun _ _ => rfl)))
      (pss_cons (ps_asg (pe_op op_add (pv 4) pe_int) (pg_sub (pv 0) pe_int set_list))
      (pss_cons (ps_set (i := 5) sc__law_draw.nd rfl (by first | exact Or.inl rfl | exact Or.inr rfl) (pe_op op_mod (pe_callTy c_int1 (by rfl) T.z_int (by decide +kernel) (pa_cons (pv 4) pa_nil)) (pe_callB (r := rLenL K) (id := "len") c_len (by rfl) T.z_len (by decide +kernel) (pa_cons (pv 2) pa_nil))))
      (pss_cons (ps_if (pt_cmpR op_gt (pe_ix (r := rIxL K) ix_list (pv 3) (pv 5) (fun _ _ => rfl)) pe_int (nomark _)) (pss_cons (ps_set (i := 6) sc__law_draw.nd rfl (by first | exact Or.inl rfl | exact Or.inr rfl) (pe_op op_mod (pe_callTy c_int1 (by rfl) T.z_int (by decide +kernel) (pa_cons (pe_ix (r := rIxL K) ix_list (pv 3) (pv 5) (fun _ _ => rfl)) pa_nil)) (pv 1)))
      (pss_cons (ps_asg (pe_op op_fdivW (pe_ix (r := rIxL K) ix_list (pv 3) (pv 5) (fun _ _ => rfl)) (pv 1)) (pg_sub (pv 3) (pv 5) set_list))
      (pss_one (ps_ret (pv 6))))) pss_nil)
      (pss_cons (ps_set (i := 7) sc__law_draw.nd rfl (by first | exact Or.inl rfl | exact Or.inr rfl) (pe_op op_mod (pe_callTy c_int1 (by rfl) T.z_int (by decide +kernel) (pa_cons (pe_op op_mul (pe_op op_add (pe_op op_mod (pe_callTy c_int1 (by rfl) T.z_int (by decide +kernel) (pa_cons (pe_ix (r := rIxL K) ix_list (pv 2) (pv 5) (fun _ _ => rfl)) pa_nil)) pe_int) pe_int) (pe_op op_add (pv 4) pe_int)) pa_nil)) pe_int))
      (pss_cons (ps_set (i := 8) sc__law_draw.nd rfl (by first | exact Or.inl rfl | exact Or.inr rfl) (pe_op op_add (pe_op op_mod (pe_callTy c_int1 (by rfl) T.z_int (by decide +kernel) (pa_cons (pe_ix (r := rIxL K) ix_list (pv 2) (pv 5) (fun _ _ => rfl)) pa_nil)) pe_int) (pe_op op_mul pe_int (pv 4))))
      (pss_cons (ps_set (i := 9) sc__law_draw.nd rfl (by first | exact Or.inl rfl | exact Or.inr rfl) (pe_op op_mod (pe_callTy c_int1 (by rfl) T.z_int (by decide +kernel) (pa_cons (pe_op op_add (pe_op op_add (pe_op op_mul (pv 7) (pv 7)) (pe_op op_mul pe_int (pv 7))) (pv 8)) pa_nil)) pe_int))
      (pss_cons (ps_set (i := 10) sc__law_draw.nd rfl (by first | exact Or.inl rfl | exact Or.inr rfl) (pe_op op_add (pe_op op_mul (pe_op op_mod (pe_callTy c_int1 (by rfl) T.z_int (by decide +kernel) (pa_cons (pv 9) pa_nil)) pe_int) pe_int) (pe_op op_mul (pe_op op_fdivW (pv 9) pe_int) pe_int)))
      (pss_cons (ps_set (i := 11) sc__law_draw.nd rfl (by first | exact Or.inl rfl | exact Or.inr rfl) (pe_op op_mod (pe_callTy c_int1 (by rfl) T.z_int (by decide +kernel) (pa_cons (pe_op op_add (pv 10) (pv 7)) pa_nil)) pe_int))
      (pss_cons (ps_if (pt_cmpR op_le (pv 1) pe_int (nomark _)) (pss_one (ps_ret (pe_op op_mod (pe_callTy c_int1 (by rfl) T.z_int (by decide +kernel) (pa_cons (pv 11) pa_nil)) (pv 1)))) pss_nil)
      (pss_one (ps_ret (pe_op op_mod (pe_callTy c_int1 (by rfl) T.z_int (by decide +kernel) (pa_cons (pe_op op_add (pe_op op_mul (pv 11) pe_int) (pv 9)) pa_nil)) (pv 1)))))))))))))))), ?_⟩
    try simp only [nox_K, cx_K]
    wtm_at "rd"
    refine r_setL (n := 2) h1 rfl ?_
    have g1 : (upd H d (.lst ([.ref c, .ref r, .int t].set 2 (.int (t + 1))))) d = some (.lst [.ref c, .ref r, .int (t + 1)]) := upd_same
    have g2 : (upd H d (.lst ([.ref c, .ref r, .int t].set 2 (.int (t + 1))))) c = some (.lst (ns.map V.int)) := (upd_ne dc.symm).trans h2
    have g3 : (upd H d (.lst ([.ref c, .ref r, .int t].set 2 (.int (t + 1))))) r = some (.lst (rs.map V.int)) := (upd_ne dr.symm).trans h3
    have e1 : Ext d r H (upd H d (.lst ([.ref c, .ref r, .int t].set 2 (.int (t + 1))))) := fun b o e n1 n2 => (upd_ne n1).trans e
    revert g1 g2 g3 e1
    generalize (upd H d (.lst ([.ref c, .ref r, .int t].set 2 (.int (t + 1))))) = H1
    intro g1 g2 g3 e1
    wtm_at "rd"
    refine r_lenI g2 ?_
    refine r_mod (by omega) fun at_ a0 a1 _ => ?_
    wtm_at "rd"
    refine r_ite (fun c1 => ?_) (fun c1 => ?_)
    · wtm_at "rd"
      refine r_mod m0 fun k k0 k1 _ => ?_
      wtm_at "rd"
      refine r_fdiv m0 m1 fun z z0 _ => ?_
      wtm_at "rd"
      refine r_setL g3 (ixn_in a0 (by rw [List.length_map]; omega)) ?_
      wtm_at "rd"
      refine q k _ k0 k1 ⟨dc, dr, cr, ns, rs.set at_.toNat z, t + 1, (upd_ne dr).trans g1, (upd_ne cr).trans g2, ?_, ?_, hp, by omega, ?_⟩ (fun b o e n1 n2 => (upd_ne n2).trans (e1 b o e n1 n2))
      · rw [upd_same, List.map_set]
      · rw [List.length_set]; exact hl
      · intro x hx
        rcases List.mem_or_eq_of_mem_set hx with e | e
        · exact hn x e
        · rw [e]; exact z0 (by omega)
    · wtm_at "rd"
      refine r_mod (by decide) fun x1 l1 u1 _ => ?_
      wtm_at "rd"
      refine r_mul (.inl ⟨by omega, by omega⟩) fun x2 _ => ?_
      wtm_at "rd"
      refine r_mod (by decide) fun first f0 f1 _ => ?_
      wtm_at "rd"
      refine r_mod (by decide) fun x3 l3 u3 _ => ?_
      wtm_at "rd"
      refine r_mul (.inl ⟨by omega, by omega⟩) fun x4 _ => ?_
      wtm_at "rd"
      refine r_mul (.inl ⟨by omega, by omega⟩) fun x5 _ => ?_
      wtm_at "rd"
      refine r_mul (.inl ⟨by omega, by omega⟩) fun x6 _ => ?_
      wtm_at "rd"
      refine r_mod (by decide) fun second s0 s1 _ => ?_
      wtm_at "rd"
      refine r_mod (by decide) fun x7 l7 u7 _ => ?_
      wtm_at "rd"
      refine r_mul (.inl ⟨by omega, by omega⟩) fun x8 _ => ?_
      wtm_at "rd"
      refine r_fdiv (by decide) (by decide) fun x9 _ _ => ?_
      wtm_at "rd"
      refine r_mul (.inr ⟨by omega, by omega⟩) fun x10 _ => ?_
      wtm_at "rd"
      refine r_mod (by decide) fun third t0 t1 _ => ?_
      wtm_at "rd"
      refine r_ite (fun c2 => ?_) (fun c2 => ?_)
      · wtm_at "rd"
        refine r_mod m0 fun k k0 k1 _ => ?_
        exact q k _ k0 k1 ⟨dc, dr, cr, ns, rs, t + 1, g1, g2, g3, hl, hp, by omega, hn⟩ e1
      · wtm_at "rd"
        refine r_mul (.inl ⟨by omega, by omega⟩) fun x11 _ => ?_
        wtm_at "rd"
        refine r_mod m0 fun k k0 k1 _ => ?_
        exact q k _ k0 k1 ⟨dc, dr, cr, ns, rs, t + 1, g1, g2, g3, hl, hp, by omega, hn⟩ e1
theorem ok__law_begin (T : Txt K mg) : FnOk P w K mg base CX0 1 T.f__law_begin T.d__law_begin ["_law_script"] (spBegin K) := by
  refine T.F__law_begin.ok sc__law_begin (fun vs H Q E h => ?_) (fun cdv A outer s H vs Q E hr h => ?_)
  · obtain ⟨a, ns, rfl, _⟩ := h
    rfl
  obtain ⟨a, ns, rfl, hS, hlen, q⟩ := h
  refine ⟨_, (pss_cons (ps_setLc (i := 1) (own := [("_law_cell", 3)]) (g := gName 3) (tt := tYes) rfl sc__law_begin.nd rfl rfl (sw_true rfl rfl rfl (by decide +kernel)) (pi_list (pe_slice sl_list (pv 0) po_none (po_some pe_int))) (blkOk_by (N := ["_law_script", "_law_cells", "_law_rests", "_law_cell"]) (sc := defScope s__law_begin) (by decide +kernel)) (fun _ _ _ _ _ => pg_name (i := 3) sc__law_begin.nd rfl (by first | exact Or.inl rfl | exact Or.inr rfl)) (fun _ _ _ _ _ => pts_nil) (fun _ _ _ _ _ => (pe_callTy c_int1 (by rfl) T.z_int (by decide +kernel) (pa_cons (pv 3) pa_nil))))
      (C8.pss_cut (ps_if (pt_cmpR op_eq (pe_callB (r := rLenL K) (id := "len") c_len (by rfl) T.z_len (by decide +kernel) (pa_cons (pv 1) pa_nil)) pe_int (nomark _)) (pss_one (ps_set (i := 1) sc__law_begin.nd rfl (by first | exact Or.inl rfl | exact Or.inr rfl) (pe_lst (pa_cons pe_int pa_nil)))) pss_nil)
      (pss_cons (ps_setLc (i := 2) (own := [("_law_cell", 3)]) (g := gName 3) (tt := tYes) rfl sc__law_begin.nd rfl rfl (sw_true rfl rfl rfl (by decide +kernel)) (pi_list (pv 1)) (blkOk_by (N := ["_law_script", "_law_cells", "_law_rests", "_law_cell"]) (sc := defScope s__law_begin) (by decide +kernel)) (fun _ _ _ _ _ => pg_name (i := 3) sc__law_begin.nd rfl (by first | exact Or.inl rfl | exact Or.inr rfl)) (fun _ _ _ _ _ => pts_nil) (fun _ _ _ _ _ => (pe_op op_mul (pe_callB c_abs (by rfl) T.z_abs (by decide +kernel) (pa_cons (pv 3) pa_nil)) (pe_callTy c_intB (by rfl) T.z_int (by decide +kernel) (pa_cons (pe_cmpR op_ge (pe_callB c_abs (by rfl) T.z_abs (by decide +kernel) (pa_cons (pv 3) pa_nil)) (pe_op op_pow pe_int pe_int) (nomark _)) pa_nil)))))
      (pss_one (ps_ret (pe_lst (pa_cons (pv 1) (pa_cons (pv 2) (pa_cons pe_int pa_nil))))))))), ?_⟩
  try simp only [nox_K, cx_K]
  wtm_at "rd"
  refine r_slL hS fun p np => ?_
  have s1 : Same H (upd H p (.lst (cutV (ns.map V.int) none (some 63)))) := same_new np
  have e0 : cutV (ns.map V.int) none (some 63) = ns.map V.int := cut_none (n := 63) (by rw [List.length_map]; exact hlen)
  rw [e0] at s1 ⊢
  have hp : (upd H p (.lst (ns.map V.int))) p = some (.lst (ns.map V.int)) := upd_same
  refine r_itl (SqL.of hp) ?_
  refine lc_map (fun x => x) (SqL.of hp) (by rw [List.length_map]; omega) (fun x H' QQ hx s' hQ => ?_) (fun c nc => ?_)
  · obtain ⟨y, _, rfl⟩ := List.mem_map.mp hx
    wtm_at "rd"
    exact hQ
  have s2 := s1.trans (same_new (o := .lst ((ns.map V.int).map fun x => x)) nc)
  have hc : (upd (upd H p (.lst (ns.map V.int))) c (.lst ((ns.map V.int).map fun x => x))) c = some (.lst (ns.map V.int)) := by rw [upd_same, List.map_id']
  revert s2 hc
  generalize (upd (upd H p (.lst (ns.map V.int))) c (.lst ((ns.map V.int).map fun x => x))) = H2
  intro s2 hc
  wtm_at "rd"
  refine ⟨fun σ H1 => ∃ (c : Addr) (ms : List Int) (x3 : Option V), σ = [some (.ref a), some (.ref c), none, x3] ∧ H1 c = some (.lst (ms.map V.int)) ∧ 0 < ms.length ∧ ms.length ≤ 63 ∧ Same H H1 ∧ H c = none, ?_, ?_⟩
  · wtm_at "rd"
    refine r_lenI hc ?_
    wtm_at "rd"
    refine r_ite (fun e => ?_) (fun e => ?_)
    · wtm_at "rd"
      refine r_new rfl fun c2 nc2 => ?_
      wtm_at "rd"
      exact ⟨c2, [0], _, rfl, upd_same, by decide, by decide, s2.trans (same_new nc2), s2.free nc2⟩
    · wtm_at "rd"
      exact ⟨c, ns, _, rfl, hc, by omega, hlen, s2, s1.free nc⟩
  rintro σ H1 ⟨c, ms, x3, rfl, hc, h0, h63, s1, nc⟩
  wtm_at "rd"
  refine r_itl (SqL.of hc) ?_
  refine lc_map restOf (SqL.of hc) (by rw [List.length_map]; omega) (fun x H' QQ hx s' hQ => ?_) (fun r nr => ?_)
  · obtain ⟨y, _, rfl⟩ := List.mem_map.mp hx
    wtm_at "rd"
    refine r_I ⟨by decide, by decide, by decide⟩ ?_
    wtm_at "rd"
    exact r_I (.inr bit_ok) hQ
  have s2 : Same H1 (upd H1 r (.lst ((ms.map V.int).map restOf))) := same_new nr
  wtm_at "rd"
  refine r_new rfl fun d nd => ?_
  have hd : H d = none := (s1.trans s2).free nd
  have hcr : c ≠ r := ne_of_none hc nr
  have hdc : d ≠ c := (ne_of_none (s2 _ _ hc) nd).symm
  have hdr : d ≠ r := (ne_of_none (upd_same (H := H1) (a := r)) nd).symm
  refine q d c r _ ⟨hdc, hdr, hcr, ms, ms.map restI, 0, upd_same, ?_, ?_, ?_, h0, by decide, ?_⟩ ((s1.trans s2).trans (same_new nd)) hd nc (s1.free nr)
  · rw [upd_ne hdc.symm]; exact s2 _ _ hc
  · rw [upd_ne hdr.symm, upd_same, rest_map]
  · rw [List.length_map]
  · intro x hx
    obtain ⟨y, _, rfl⟩ := List.mem_map.mp hx
    exact rest_nn y

theorem off_ty (T : Txt K mg) {H : Hp} {p : Addr} {r g d : Int} (h : OffAt T.C_Offset H p r g d) : TyX K H (.ref p) (.ref T.C_Offset) := by
  obtain ⟨dx, e⟩ := h
  exact .base (.ins e T.c_Offset T.ca_Offset T.cn_Offset T.ct_Offset T.cm_Offset)
theorem kit_self {K : PySem.W.Frag} {v : Value} : PySem.W.kitOne K v v = some true := by
  unfold PySem.W.kitOne
  rw [if_pos (beq_self_eq_true v)]
section
variable {H : Hp} {Q : VK} {p : Addr} {r g d : Int} {F : V → Prop}
theorem r_rows (T : Txt K mg) (o : OffAt T.C_Offset H p r g d) (h : F (.int r)) : ∃ a C dx fs v, V.ref p = .ref a ∧ H a = some (.ins C dx fs) ∧ Cls K C ∧ NoAttr K C "rows" ∧ fs.lookup ("rows" : Str) = some v ∧ F v := by
  obtain ⟨dx, e⟩ := o
  exact r_get e T.c_Offset T.nf_Offset_rows (off_rows r g d) h
theorem r_groups (T : Txt K mg) (o : OffAt T.C_Offset H p r g d) (h : F (.int g)) : ∃ a C dx fs v, V.ref p = .ref a ∧ H a = some (.ins C dx fs) ∧ Cls K C ∧ NoAttr K C "groups" ∧ fs.lookup ("groups" : Str) = some v ∧ F v := by
  obtain ⟨dx, e⟩ := o
  exact r_get e T.c_Offset T.nf_Offset_groups (off_groups r g d) h
theorem r_distance (T : Txt K mg) (o : OffAt T.C_Offset H p r g d) (h : F (.int d)) : ∃ a C dx fs v, V.ref p = .ref a ∧ H a = some (.ins C dx fs) ∧ Cls K C ∧ NoAttr K C "distance" ∧ fs.lookup ("distance" : Str) = some v ∧ F v := by
  obtain ⟨dx, e⟩ := o
  exact r_get e T.c_Offset T.nf_Offset_distance (off_distance r g d) h
theorem r_zone (T : Txt K mg) (o : OffAt T.C_Offset H p r g d) (h : F (.str (zoneS r g))) : ∃ a C dx fs v, V.ref p = .ref a ∧ H a = some (.ins C dx fs) ∧ Cls K C ∧ NoAttr K C "zone" ∧ fs.lookup ("zone" : Str) = some v ∧ F v := by
  obtain ⟨dx, e⟩ := o
  exact r_get e T.c_Offset T.nf_Offset_zone (off_zone r g d) h
theorem off_who {m : Str} {A : Prop} {C : Addr} (o : OffAt C H p r g d) (h1 : ¬ m = "zone") (h2 : ¬ m = "distance") (h3 : ¬ m = "groups") (h4 : ¬ m = "rows") (h : A) : ∃ a' dx fs, V.ref p = .ref a' ∧ H a' = some (.ins C dx fs) ∧ fs.lookup m = none ∧ A := by
  obtain ⟨dx, e⟩ := o
  exact r_who e (off_no r g d h1 h2 h3 h4) h
end
theorem neg_off {C : Addr} {H : Hp} {Q : VK} {E : XK} {p : Addr} {r g d : Int} (o : OffAt C H p r g d) (hb : possB r g d = true) (h : ∀ x H', H x = none → Same H H' → OffAt C H' x (-r) (-g) (-d) → Q (.ref x) H') : rNegO C (spONeg C) E (.ref p) H Q := by
  obtain ⟨dx, e⟩ := id o
  exact ⟨p, dx, _, rfl, e, p, r, g, d, rfl, o, hb, h⟩
theorem ne_off (T : Txt K mg) {H : Hp} {Q : VK} {E : XK} {p q : Addr} {r g d r' g' d' : Int} (o : OffAt T.C_Offset H p r g d) (o2 : OffAt T.C_Offset H q r' g' d') (h : Q (.bl (!(decide (r = r') && (decide (g = g') && decide (d = d'))))) H) : rNeO K T.C_Offset (spOEq T.C_Offset) E (.ref p) (.ref q) H Q := by
  obtain ⟨dx, e⟩ := id o
  exact ⟨p, dx, _, _, rfl, e, off_ty T o2, T.nt_Offset, p, q, r, g, d, r', g', d', rfl, o, o2, _, rfl, h⟩
theorem add_off {C CB : Addr} {H : Hp} {Q : VK} {p q : Addr} {r g d r' g' d' : Int} (o : OffAt C H p r g d) (o2 : OffAt C H q r' g' d') (hb : possB (r + r') (g + g') (d + d') = true) (h : ∀ x H', H x = none → Same H H' → OffAt C H' x (r + r') (g + g') (d + d') → Q (.ref x) H') : rAddO C (spOAdd C CB) E0 (.ref p) (.ref q) H Q := by
  obtain ⟨dx, e⟩ := id o
  obtain ⟨dy, e2⟩ := id o2
  exact ⟨p, dx, _, q, dy, _, rfl, rfl, e, e2, p, q, r, g, d, r', g', d', rfl, o, o2, fun z => (by rw [hb] at z; cases z), fun _ => h⟩
theorem ok_possible (T : Txt K mg) : FnOk P w K mg base CX0 1 T.f_possible T.d_possible ["rows", "groups", "distance"] (sp3 possB) := by
  refine T.F_possible.ok sc_possible (fun vs H Q E h => ?_) (fun cdv A outer s H vs Q E hr h => ?_)
  · obtain ⟨a, b, c, rfl, _⟩ := h
    rfl
  obtain ⟨a, b, c, rfl, q⟩ := h
  refine ⟨_, (pss_cons (ps_if (pt_cmpR op_eq (pv 1) pe_int (nomark _)) (pss_one (ps_ret (pe_cmpR op_eq (pv 2) pe_int (nomark _)))) pss_nil)
      (pss_cons (ps_if (pt_cmpR op_lt (pv 1) pe_int (nomark _)) (pss_one (ps_ret (pe_and (pe_cmpR op_le (pv 0) (pv 1) (nomark _)) (pe_one (pe_cmpR op_le (pv 2) (pv 1) (nomark _)))))) pss_nil)
      (pss_one (ps_ret (pe_and (pe_cmpR op_ge (pv 0) (pv 1) (nomark _)) (pe_one (pe_cmpR op_ge (pv 2) (pv 1) (nomark _)))))))), ?_⟩
  try simp only [nox_K, cx_K]
  wtm_at "rdi"
  all_goals (refine bl_to q ?_; rw [Bool.eq_iff_iff]; simp only [possB, decide_eq_true_eq, Bool.false_eq_true, eq_self, true_iff, false_iff]; omega)
theorem ok_zone_of (T : Txt K mg) : FnOk P w K mg base CX0 1 T.f_zone_of T.d_zone_of ["rows", "groups"] spZone2 := by
  refine T.F_zone_of.ok sc_zone_of (fun vs H Q E h => ?_) (fun cdv A outer s H vs Q E hr h => ?_)
  · obtain ⟨a, b, rfl, _⟩ := h
    rfl
  obtain ⟨a, b, rfl, q⟩ := h
  refine ⟨_, (pss_cons (ps_if (pt_cmpR op_eq (pv 0) pe_int (nomark _)) (pss_one (ps_ret pe_str)) pss_nil)
      (pss_cons (ps_if (pt_cmpR op_eq (pv 1) pe_int (nomark _)) (pss_one (ps_ret (pe_ifExp (pt_cmpR op_gt (pv 0) pe_int (nomark _)) pe_str pe_str))) pss_nil)
      (pss_one (ps_ret (pe_ifExp (pt_cmpR op_gt (pv 1) pe_int (nomark _)) pe_str pe_str))))), ?_⟩
  try simp only [nox_K, cx_K]
  unfold zoneS at q
  wtm_at "rdi"
  all_goals (simp only [*, if_true, if_false] at q; exact q)
theorem ok_BadOffset___init__ (T : Txt K mg) : FnOk P w K mg base CX0 1 T.f_BadOffset___init__ T.d_BadOffset___init__ ["self", "rows", "groups", "distance"] (spBInit T.C_BadOffset) := by
  refine T.F_BadOffset___init__.ok sc_BadOffset___init__ (fun vs H Q E h => ?_) (fun cdv A outer s H vs Q E hr h => ?_)
  · obtain ⟨a, r, g, d, rfl, _⟩ := h
    rfl
  obtain ⟨a, r, g, d, rfl, ha, q⟩ := h
  refine ⟨_, (pss_cons (ps_ost (pv 0) (pv 1))
      (pss_cons (ps_ost (pv 0) (pv 2))
      (pss_one (ps_ost (pv 0) (pv 3))))), ?_⟩
  try simp only [nox_K, cx_K]
  wtm_at "rd"
  refine ⟨a, _, rfl, T.ox_BadOffset, T.nf_BadOffset_rows, .inl ⟨ha, fun dx nd ne => ?_⟩⟩
  wtm_at "rd"
  refine ⟨a, _, rfl, T.ox_BadOffset, T.nf_BadOffset_groups, .inr ⟨dx, [("rows", .int r)], upd_same, ?_, Nat.le_of_ble_eq_true rfl, ?_⟩⟩
  · rw [upd_ne ne, upd_same]
  wtm_at "rd"
  refine ⟨a, _, rfl, T.ox_BadOffset, T.nf_BadOffset_distance, .inr ⟨dx, [("groups", .int g), ("rows", .int r)], ?_, upd_same, Nat.le_of_ble_eq_true rfl, ?_⟩⟩
  · rw [upd_ne ne.symm, upd_same]
  wtm_at "rd"
  refine q dx _ nd ?_ upd_same fun b o e nb => ?_
  · rw [upd_ne ne.symm, upd_ne ne.symm, upd_same]
  · rw [upd_ne (ne_of_none e nd), upd_ne (ne_of_none e nd), upd_ne nb, upd_ne (ne_of_none e nd)]
    exact e
theorem raise_bad {C : Addr} {r g d : Int} {H : Hp} {Q : XK} (h : ∀ (dd : Addr) (H' : Hp), H dd = none → H' dd = some (.xd (badF r g d)) → Same H H' → Q (.ref C) (some dd) H') :
    ∀ a, H a = none → spBInit C (.ref a :: ([.int r, .int g, .int d] ++ [])) (upd H a (exo a C none)) (fun v H2 => v = .non ∧ ∃ (dd : Addr) (fs : List (Str × V)), H2 a = some (exo a C (some dd)) ∧ H2 dd = some (exd dd fs) ∧ H dd = none ∧ Q (.ref C) (some dd) (upd (del H2 a) dd (.xd fs))) (fun _ _ _ => False) := by
  intro a na
  refine ⟨a, r, g, d, rfl, upd_same, fun dx H' nd ha hd hk => ⟨rfl, dx, badF r g d, ha, hd, (same_new na).free nd, ?_⟩⟩
  refine h dx _ ((same_new na).free nd) upd_same fun b o e => ?_
  have nb : b ≠ a := ne_of_none e na
  rw [upd_ne (ne_of_none e ((same_new na).free nd)), del_ne nb]
  exact hk b o (by rw [upd_ne nb]; exact e) nb
theorem ok_Offset___init__ (T : Txt K mg) : FnOk P w K mg base (L2.CX P w) 4 T.f_Offset___init__ T.d_Offset___init__ ["self", "rows", "groups", "distance"] (spOInit T.C_Offset T.C_BadOffset) := by
  refine T.F_Offset___init__.okX sc_Offset___init__ (fun vs H Q E h => ?_) (fun cdv A outer s H vs Q E hr h => ?_)
  · obtain ⟨p, dx, r, g, d, rfl, _⟩ := h
    rfl
  obtain ⟨p, dx, r, g, d, rfl, hp, qE, q⟩ := h
  refine ⟨_, (pss_cons (ps_if (pt_not (pt_val (pe_call (ok_possible T) (hr.mono (by decide)) (by rfl) T.g_possible T.F_possible.kp T.b_possible .nil pass0 (pa_cons (pv 1) (pa_cons (pv 2) (pa_cons (pv 3) pa_nil)))))) (pss_one (ps_raise rfl (takes_of rfl rfl rfl rfl) (pmk_oex T.ox_BadOffset T.iC_BadOffset T.tI_BadOffset (ok_BadOffset___init__ T) (hr.mono (by decide)) T.b_BadOffset___init__ .nil pass0 (by rfl) T.g_BadOffset (pa_cons (pv 1) (pa_cons (pv 2) (pa_cons (pv 3) pa_nil)))))) pss_nil)
      (pss_cons (ps_fld (pv 0) (pv 1) rfl)
      (pss_cons (ps_fld (pv 0) (pv 2) rfl)
      (pss_cons (ps_fld (pv 0) (pv 3) rfl)
      (pss_one (ps_fld (pv 0) (pe_call (ok_zone_of T) (hr.mono (by decide)) (by rfl) T.g_zone_of T.F_zone_of.kp T.b_zone_of .nil pass0 (pa_cons (pv 1) (pa_cons (pv 2) pa_nil))) rfl)))))), ?_⟩
  try simp only [nox_K, cx_K]
  wtm_at "rd"
  refine ⟨r, g, d, rfl, ?_⟩
  wtm_at "rd"
  refine r_itebn (fun hb => ?_) (fun hb => ?_)
  · refine ⟨.int r, rfl, .int g, rfl, .int d, rfl, Nat.le_of_ble_eq_true rfl, raise_bad fun dd H' nd hd s => ?_⟩
    exact qE hb dd H' nd hd s
  wtm_at "rd"
  refine r_put hp T.c_Offset T.nf_Offset_rows (by decide) ?_
  wtm_at "rd"
  refine r_put upd_same T.c_Offset T.nf_Offset_groups (by have := putF_len "rows" (.int r) []; exact Nat.lt_of_le_of_lt this (by decide)) ?_
  wtm_at "rd"
  refine r_put upd_same T.c_Offset T.nf_Offset_distance (Nat.lt_of_le_of_lt (Nat.le_trans (putF_len _ _ _) (Nat.succ_le_succ (putF_len _ _ _))) (by decide)) ?_
  wtm_at "rd"
  refine ⟨r, g, rfl, ?_⟩
  wtm_at "rd"
  refine r_put upd_same T.c_Offset T.nf_Offset_zone (Nat.lt_of_le_of_lt (Nat.le_trans (putF_len _ _ _) (Nat.succ_le_succ (Nat.le_trans (putF_len _ _ _) (Nat.succ_le_succ (putF_len _ _ _))))) (by decide)) ?_
  wtm_at "rd"
  refine q hb _ ⟨dx, upd_same⟩ fun b o e nb => ?_
  rw [upd_ne nb, upd_ne nb, upd_ne nb, upd_ne nb]
  exact e
theorem ok_Offset_fewest_rows (T : Txt K mg) : FnOk P w K mg base CX0 1 T.f_Offset_fewest_rows T.d_Offset_fewest_rows ["self"] (spOFew T.C_Offset) := by
  refine T.F_Offset_fewest_rows.ok sc_Offset_fewest_rows (fun vs H Q E h => ?_) (fun cdv A outer s H vs Q E hr h => ?_)
  · obtain ⟨p, r, g, d, rfl, _⟩ := h
    rfl
  obtain ⟨p, r, g, d, rfl, o, q⟩ := h
  refine ⟨_, (pss_one (ps_ret (pe_op op_add pe_int (pe_callB c_abs (by rfl) T.z_abs (by decide +kernel) (pa_cons (pe_fldK (K := K) (pv 0)) pa_nil))))), ?_⟩
  try simp only [nox_K, cx_K]
  wtm_at "rd"
  refine r_rows T o ?_
  wtm_at "rd"
  exact q
theorem ok_Offset___neg__ (T : Txt K mg) : FnOk P w K mg base CX0 6 T.f_Offset___neg__ T.d_Offset___neg__ ["self"] (spONeg T.C_Offset) := by
  refine T.F_Offset___neg__.ok sc_Offset___neg__ (fun vs H Q E h => ?_) (fun cdv A outer s H vs Q E hr h => ?_)
  · obtain ⟨p, r, g, d, rfl, _⟩ := h
    rfl
  obtain ⟨p, r, g, d, rfl, o, hb, q⟩ := h
  refine ⟨_, (pss_one (ps_ret (pe_make T.m_Offset (ok_Offset___init__ T) (hr.mono (by decide)) (by rfl) T.g_Offset T.b_Offset___init__ .nil passL (pa_cons (pe_un un_neg (pe_fldK (K := K) (pv 0))) (pa_cons (pe_un un_neg (pe_fldK (K := K) (pv 0))) (pa_cons (pe_un un_neg (pe_fldK (K := K) (pv 0))) pa_nil)))))), ?_⟩
  try simp only [nox_K, cx_K]
  wtm_at "rd"
  refine r_rows T o ?_
  wtm_at "rd"
  refine r_groups T o ?_
  wtm_at "rd"
  refine r_distance T o ?_
  wtm_at "rd"
  exact make_off (fun z => (by rw [poss_neg, hb] at z; cases z)) fun _ => q
theorem ok_Offset___add__ (T : Txt K mg) : FnOk P w K mg base (L2.CX P w) 6 T.f_Offset___add__ T.d_Offset___add__ ["self", "other"] (spOAdd T.C_Offset T.C_BadOffset) := by
  refine T.F_Offset___add__.okX sc_Offset___add__ (fun vs H Q E h => ?_) (fun cdv A outer s H vs Q E hr h => ?_)
  · obtain ⟨p, p2, r, g, d, r', g', d', rfl, _⟩ := h
    rfl
  obtain ⟨p, p2, r, g, d, r', g', d', rfl, o, o2, qE, q⟩ := h
  refine ⟨_, (pss_cons (ps_if (pt_not (pt_val (pe_callB call_isi (by rfl) T.z_isinstance (by decide +kernel) (pa_cons (pv 1) (pa_cons (pe_glob (v := .ref T.C_Offset) rfl T.g_Offset rfl) pa_nil))))) (pss_one ps_never) pss_nil)
      (pss_one (ps_ret (pe_make T.m_Offset (ok_Offset___init__ T) (hr.mono (by decide)) (by rfl) T.g_Offset T.b_Offset___init__ .nil (passes_call (takes_of rfl rfl rfl rfl) fun _ _ _ _ h => h) (pa_cons (pe_op op_add (pe_fldK (K := K) (pv 0)) (pe_fldK (K := K) (pv 1))) (pa_cons (pe_op op_add (pe_fldK (K := K) (pv 0)) (pe_fldK (K := K) (pv 1))) (pa_cons (pe_op op_add (pe_fldK (K := K) (pv 0)) (pe_fldK (K := K) (pv 1))) pa_nil))))))), ?_⟩
  try simp only [nox_K, cx_K]
  wtm_at "rd"
  refine r_isi (.own _) (off_ty T o2) kit_self ?_
  wtm_at "rdi"
  refine r_rows T o ?_
  wtm_at "rd"
  refine r_rows T o2 ?_
  wtm_at "rd"
  refine r_groups T o ?_
  wtm_at "rd"
  refine r_groups T o2 ?_
  wtm_at "rd"
  refine r_distance T o ?_
  wtm_at "rd"
  refine r_distance T o2 ?_
  wtm_at "rd"
  exact make_off qE q
end

/-- within 10 ^ 20, and n more -/
def Bd (n : Nat) (x : Int) : Prop := -(10 ^ 20 + (n : Int)) ≤ x ∧ x ≤ 10 ^ 20 + n
def Bd3 (n : Nat) (x y z : Int) : Prop := Bd n x ∧ Bd n y ∧ Bd n z
theorem Bd.up {n m : Nat} {x : Int} (h : Bd n x) (hm : n ≤ m) : Bd m x := by unfold Bd at *; omega
theorem Bd3.up {n m : Nat} {x y z : Int} (h : Bd3 n x y z) (hm : n ≤ m) : Bd3 m x y z := ⟨h.1.up hm, h.2.1.up hm, h.2.2.up hm⟩
theorem Bd.ok {n : Nat} {x : Int} (h : Bd n x) (hn : n ≤ 1000) : okD (.int x) := by
  unfold Bd at h
  show _ ∧ _
  omega
theorem Bd3.ok {n : Nat} {x y z : Int} (h : Bd3 n x y z) (hn : n ≤ 1000) : ∀ v ∈ [V.int x, .int y, .int z], okD v := by
  intro v hv
  simp only [List.mem_cons, List.mem_nil_iff, or_false] at hv
  rcases hv with rfl | rfl | rfl
  · exact h.1.ok hn
  · exact h.2.1.ok hn
  · exact h.2.2.ok hn
theorem int3_eq (x y z : Int) : ∀ v ∈ [V.int x, .int y, .int z], eqD v := by
  intro v hv
  simp only [List.mem_cons, List.mem_nil_iff, or_false] at hv
  rcases hv with rfl | rfl | rfl <;> trivial
theorem int3_kind (x y z x' y' z' : Int) : ∀ p ∈ [V.int x, .int y, .int z].zip [V.int x', .int y', .int z'], sameKind p.1 p.2 = true := by
  intro p hp
  simp only [List.zip_cons_cons, List.zip_nil_right, List.mem_cons, List.mem_nil_iff, or_false] at hp
  rcases hp with rfl | rfl | rfl <;> rfl
def btxt (a b c : Int) : Str := (tupD [.int a, .int b, .int c]).shown
theorem kind_self : ∀ (vs : List V), ∀ p ∈ vs.zip vs, sameKind p.1 p.2 = true
  | [], p, h => (nomatch h)
  | v :: vs, p, h => by
    have h : p ∈ (v, v) :: vs.zip vs := h
    rcases List.mem_cons.mp h with e | e
    · rw [e]; cases v <;> rfl
    · exact kind_self vs p e
theorem bad_eq (a b c : Int) : ∀ v ∈ [V.str "bad", .bl true, .str (btxt a b c)], eqD v := by
  intro v hv
  simp only [List.mem_cons, List.mem_nil_iff, or_false] at hv
  rcases hv with rfl | rfl | rfl
  · exact sok_of "bad"
  · trivial
  · exact sok_tupD fun v hv => by
      simp only [List.mem_cons, List.mem_nil_iff, or_false] at hv
      rcases hv with rfl | rfl | rfl <;> trivial
/-- == of an Offset with anything -/
def spOEq2 (K : PySem.W.Frag) (C : Addr) : Sp := fun vs H Q _ => ∃ (p : Addr) (r g d : Int) (v : V), vs = [.ref p, v] ∧ OffAt C H p r g d ∧
  ((∃ (q : Addr) (r' g' d' : Int), v = .ref q ∧ OffAt C H q r' g' d' ∧ Q (.bl (decide (r = r') && (decide (g = g') && decide (d = d')))) H) ∨
   (∃ t, TyX K H v t ∧ PySem.W.kitOne K t (.ref C) = some false ∧ Q (.bl false) H))
theorem Ext.keep {d c r : Addr} {H H' : Hp} {b : Addr} {o : HO} (e : Ext d r H H') (D : Drw H d c r) (h : H b = some o) (n : ∀ xs, o ≠ .lst xs) : H' b = some o := by
  obtain ⟨_, _, _, _, _, _, h1, _, h3, _⟩ := D
  exact e b o h (ne_of h h1 (n _)) (ne_of h h3 (n _))
def zoneL (x y z : Int) : Str := if possB x y z = true then zoneS x y else ""
theorem z_future {x y z : Int} (h1 : 0 < y) (h2 : y ≤ x) (h3 : y ≤ z) : zoneL x y z = "future" := by
  unfold zoneL zoneS possB
  rw [if_pos (by rw [decide_eq_true_eq]; omega), if_neg (by omega), if_neg (by omega), if_pos h1]
theorem z_past {x y z : Int} (h1 : y < 0) (h2 : x ≤ y) (h3 : z ≤ y) : zoneL x y z = "past" := by
  unfold zoneL zoneS possB
  rw [if_pos (by rw [decide_eq_true_eq]; omega), if_neg (by omega), if_neg (by omega), if_neg (by omega)]
theorem z_no {x y z : Int} (h : possB x y z = false) : zoneL x y z = "" := by
  unfold zoneL
  rw [if_neg (by rw [h]; exact Bool.false_ne_true)]
theorem z_yes {x y z : Int} (h : possB x y z = true) : zoneL x y z = zoneS x y := by
  unfold zoneL
  rw [if_pos h]
theorem zone_ne (x y : Int) : zoneS x y ≠ "" := by
  unfold zoneS
  repeat' split
  all_goals decide +kernel
def spWhole : Sp := fun vs H Q _ => ∃ x : Int, vs = [.int x] ∧ Q (.bl true) H
def spGood : Sp := fun vs H Q _ => ∃ (d c r : Addr), vs = [.ref d] ∧ Drw H d c r ∧ ∀ (t : Addr) (x y z : Int) (H' : Hp), possB x y z = true → (-(10 ^ 20) < x ∧ x < 10 ^ 20) → (-(10 ^ 20) < y ∧ y < 10 ^ 20) → (-(10 ^ 20) < z ∧ z < 10 ^ 20) → H' t = some (.tup [.int x, .int y, .int z]) → Drw H' d c r → Ext d r H H' → Q (.ref t) H'
def spFar : Sp := fun vs H Q _ => ∃ (d c r : Addr) (b : Int), vs = [.ref d, .int b] ∧ Drw H d c r ∧ ∀ (x : Int) (H' : Hp), (x = b - 1 ∨ x = b ∨ x = b + 1 ∨ (-(10 ^ 7) ≤ x ∧ x ≤ 10 ^ 7)) → Drw H' d c r → Ext d r H H' → Q (.int x) H'
def KeptV (C : Addr) (n : Nat) (H : Hp) (v : V) : Prop := ∃ (q p t : Addr) (x y z : Int), v = .ref q ∧ H q = some (.tup [.ref p, .ref t]) ∧ OffAt C H p x y z ∧ H t = some (.tup [.int x, .int y, .int z]) ∧ possB x y z = true ∧ Bd3 n x y z
theorem KeptV.same {C : Addr} {n : Nat} {H H' : Hp} {v : V} (h : KeptV C n H v) (s : Same H H') : KeptV C n H' v := by
  obtain ⟨q, p, t, x, y, z, e, h1, h2, h3, h4⟩ := h
  exact ⟨q, p, t, x, y, z, e, s _ _ h1, h2.same s, s _ _ h3, h4⟩
theorem KeptV.up {C : Addr} {n m : Nat} {H : Hp} {v : V} (h : KeptV C n H v) (hm : n ≤ m) : KeptV C m H v := by
  obtain ⟨q, p, t, x, y, z, e, h1, h2, h3, h4, h5⟩ := h
  exact ⟨q, p, t, x, y, z, e, h1, h2, h3, h4, h5.up hm⟩
theorem KeptV.ext {C : Addr} {n : Nat} {H H' : Hp} {v : V} {d c r : Addr} (h : KeptV C n H v) (s : Ext d r H H') (D : Drw H d c r) : KeptV C n H' v := by
  obtain ⟨q, p, t, x, y, z, e, h1, ⟨dx, h2⟩, h3, h4⟩ := h
  exact ⟨q, p, t, x, y, z, e, s.keep D h1 (fun _ z => nomatch z), ⟨dx, s.keep D h2 (fun _ z => nomatch z)⟩, s.keep D h3 (fun _ z => nomatch z), h4⟩
theorem KeptV.put {C : Addr} {n : Nat} {H : Hp} {v : V} {l : Addr} {xs ys : List V} (h : KeptV C n H v) (hl : H l = some (.lst xs)) : KeptV C n (upd H l (.lst ys)) v := by
  obtain ⟨q, p, t, x, y, z, e, h1, ⟨dx, h2⟩, h3, h4⟩ := h
  exact ⟨q, p, t, x, y, z, e, (upd_ne (ne_of h1 hl fun z => nomatch z)).trans h1, ⟨dx, (upd_ne (ne_of h2 hl fun z => nomatch z)).trans h2⟩, (upd_ne (ne_of h3 hl fun z => nomatch z)).trans h3, h4⟩
def spTriple (C : Addr) : Sp := fun vs H Q _ => ∃ (d c r kp : Addr) (n : Nat) (xs : List V), vs = [.ref d, .ref kp] ∧ Drw H d c r ∧ H kp = some (.lst xs) ∧ kp ≠ d ∧ kp ≠ r ∧ xs.length ≤ 100 ∧ (∀ v ∈ xs, KeptV C n H v) ∧
  ∀ (t : Addr) (x y z : Int) (H' : Hp), Bd3 (n + 1) x y z → H' t = some (.tup [.int x, .int y, .int z]) → Drw H' d c r → Ext d r H H' → Q (.ref t) H'
def spZoneT (K : PySem.W.Frag) : Sp := fun vs H Q _ => ∃ (t : Addr) (x y z : Int), vs = [.ref t] ∧ H t = some (.tup [.int x, .int y, .int z]) ∧ ∀ H', Same H H' → Q (.str (zoneL x y z)) H'
def spMade (C : Addr) : Sp := fun vs H Q _ => ∃ (t : Addr) (x y z : Int) (k : Bool) (n : Nat), vs = [.ref t, .bl k] ∧ H t = some (.tup [.int x, .int y, .int z]) ∧ Bd3 n x y z ∧ n ≤ 1000 ∧
  (possB x y z = false → ∀ u H', H' u = some (.tup [.str "bad", .bl true, .str (btxt x y z)]) → Same H H' → Q (.ref u) H') ∧
  (possB x y z = true → ∀ u p H', H' u = some (.tup [.str "made", .ref p]) → OffAt C H' p x y z → Same H H' → Q (.ref u) H')
def spRight (C : Addr) : Sp := fun vs H Q _ => ∃ (p t : Addr) (x y z : Int) (n : Nat), vs = [.ref p, .ref t] ∧ OffAt C H p x y z ∧ H t = some (.tup [.int x, .int y, .int z]) ∧ possB x y z = true ∧ Bd3 n x y z ∧ n ≤ 1000 ∧ ∀ H', Same H H' → Q (.bl true) H'
def spLaw (K : PySem.W.Frag) : Sp := fun vs H Q _ => ∃ (a : Addr) (ns : List Int), vs = [.ref a] ∧ SqL K H a (ns.map V.int) ∧ ns.length ≤ 63 ∧ ∀ H', Q (.bl true) H'
section
variable {P : Program} {w : World} {K : PySem.W.Frag} {mg : Str → Option Value} {base : Heap}

theorem ok_Offset___eq__ (T : Txt K mg) : FnOk P w K mg base CX0 1 T.f_Offset___eq__ T.d_Offset___eq__ ["self", "other"] (spOEq2 K T.C_Offset) := by
  refine T.F_Offset___eq__.ok sc_Offset___eq__ (fun vs H Q E h => ?_) (fun cdv A outer s H vs Q E hr h => ?_)
  · obtain ⟨p, r, g, d, v, rfl, _⟩ := h
    rfl
  obtain ⟨p, r, g, d, v, rfl, o, q⟩ := h
  refine ⟨_, (pss_cons (ps_if (pt_not (pt_val (pe_callB call_isi (by rfl) T.z_isinstance (by decide +kernel) (pa_cons (pv 1) (pa_cons (pe_glob (v := .ref T.C_Offset) rfl T.g_Offset rfl) pa_nil))))) (pss_one (ps_ret pe_bl)) pss_nil)
      (pss_one (ps_ret (pe_and (pe_cmpR op_eq (pe_fldK (K := K) (pv 0)) (pe_fldK (K := K) (pv 1)) (nomark _)) (pe_and (pe_cmpR op_eq (pe_fldK (K := K) (pv 0)) (pe_fldK (K := K) (pv 1)) (nomark _)) (pe_one (pe_cmpR op_eq (pe_fldK (K := K) (pv 0)) (pe_fldK (K := K) (pv 1)) (nomark _)))))))), ?_⟩
  try simp only [nox_K, cx_K]
  rcases q with ⟨p2, r', g', d', rfl, o2, q⟩ | ⟨t, ty, hk, q⟩
  · wtm_at "rd"
    refine r_isi (.own _) (off_ty T o2) kit_self ?_
    wtm_at "rdi"
    refine r_rows T o ?_
    wtm_at "rd"
    refine r_rows T o2 ?_
    wtm_at "rd"
    refine r_ite (fun e1 => ?_) (fun e1 => ?_)
    · rw [decide_eq_true e1, Bool.true_and] at q
      wtm_at "rd"
      refine r_groups T o ?_
      wtm_at "rd"
      refine r_groups T o2 ?_
      wtm_at "rd"
      refine r_ite (fun e2 => ?_) (fun e2 => ?_)
      · rw [decide_eq_true e2, Bool.true_and] at q
        wtm_at "rd"
        refine r_distance T o ?_
        wtm_at "rd"
        refine r_distance T o2 ?_
        wtm_at "rd"
        exact q
      · rw [decide_eq_false e2, Bool.false_and] at q
        exact q
    · rw [decide_eq_false e1, Bool.false_and] at q
      exact q
  · wtm_at "rd"
    refine r_isi (.own _) ty hk ?_
    wtm_at "rdi"
    exact q
theorem eq_off (T : Txt K mg) {H : Hp} {Q : VK} {E : XK} {p q : Addr} {r g d r' g' d' : Int} (o : OffAt T.C_Offset H p r g d) (o2 : OffAt T.C_Offset H q r' g' d') (h : Q (.bl (decide (r = r') && (decide (g = g') && decide (d = d')))) H) : rCmpO K T.C_Offset (spOEq2 K T.C_Offset) E (.ref p) (.ref q) H Q := by
  obtain ⟨dx, e⟩ := id o
  exact ⟨p, dx, _, _, rfl, e, off_ty T o2, T.nt_Offset, p, r, g, d, _, rfl, o, .inl ⟨q, r', g', d', rfl, o2, h⟩⟩
theorem eq_no (T : Txt K mg) {H : Hp} {Q : VK} {E : XK} {p : Addr} {r g d : Int} {v : V} {t : Value} (o : OffAt T.C_Offset H p r g d) (ty : TyX K H v t) (hn : PySem.W.notFirst K T.C_Offset t = true) (hk : PySem.W.kitOne K t (.ref T.C_Offset) = some false) (h : Q (.bl false) H) : rCmpO K T.C_Offset (spOEq2 K T.C_Offset) E (.ref p) v H Q := by
  obtain ⟨dx, e⟩ := id o
  exact ⟨p, dx, _, _, rfl, e, ty, hn, p, r, g, d, _, rfl, o, .inr ⟨t, ty, hk, h⟩⟩
end
section
variable {P : Program} {w : World} {K : PySem.W.Frag} {mg : Str → Option Value} {base : Heap}

theorem ok__law_whole (T : Txt K mg) : FnOk P w K mg base CX0 1 T.f__law_whole T.d__law_whole ["_law_x"] spWhole := by
  refine T.F__law_whole.ok sc__law_whole (fun vs H Q E h => ?_) (fun cdv A outer s H vs Q E hr h => ?_)
  · obtain ⟨x, rfl, _⟩ := h
    rfl
  obtain ⟨x, rfl, q⟩ := h
  refine ⟨_, (pss_one (ps_ret (pe_and (pe_callB call_isi (by rfl) T.z_isinstance (by decide +kernel) (pa_cons (pv 0) (pa_cons (pe_bltn (v := .ty "int") (u := .type "int") (by rfl) T.z_int (by decide +kernel) rfl) pa_nil))) (pe_one (pe_not (pe_callB call_isi (by rfl) T.z_isinstance (by decide +kernel) (pa_cons (pv 0) (pa_cons (pe_bltn (v := .ty "bool") (u := .type "bool") (by rfl) T.z_bool (by decide +kernel) rfl) pa_nil)))))))), ?_⟩
  try simp only [nox_K, cx_K]
  wtm_at "rd"
  refine r_isi (b := true) (.ty _) (.base (.int x)) (kit_ty (by decide +kernel)) ?_
  wtm_at "rdi"
  refine r_isi (b := false) (.ty _) (.base (.int x)) (kit_ty (by decide +kernel)) ?_
  wtm_at "rdi"
  exact q

theorem ok__law_good (T : Txt K mg) : FnOk P w K mg base CX0 2 T.f__law_good T.d__law_good ["_law_draws"] spGood := by
  refine T.F__law_good.ok sc__law_good (fun vs H Q E h => ?_) (fun cdv A outer s H vs Q E hr h => ?_)
  · obtain ⟨d, c, r, rfl, _⟩ := h
    rfl
  obtain ⟨d, c, r, rfl, D, q⟩ := h
  refine ⟨_, (pss_cons (ps_set (i := 1) sc__law_good.nd rfl (by first | exact Or.inl rfl | exact Or.inr rfl) (pe_call (ok__law_draw T) (hr.mono (by decide)) (by rfl) T.g__law_draw T.F__law_draw.kp T.b__law_draw .nil pass0 (pa_cons (pv 0) (pa_cons pe_int pa_nil))))
      (pss_cons (ps_set (i := 2) sc__law_good.nd rfl (by first | exact Or.inl rfl | exact Or.inr rfl) (pe_ix (r := rIxL K) ix_list (pe_lst (pa_cons pe_int (pa_cons pe_int (pa_cons pe_int (pa_cons pe_int (pa_cons (pe_op op_pow pe_int pe_int) pa_nil)))))) (pe_call (ok__law_draw T) (hr.mono (by decide)) (by rfl) T.g__law_draw T.F__law_draw.kp T.b__law_draw .nil pass0 (pa_cons (pv 0) (pa_cons pe_int pa_nil))) (fun _ _ => rfl)))
      (pss_cons (ps_set (i := 3) sc__law_good.nd rfl (by first | exact Or.inl rfl | exact Or.inr rfl) (pe_op op_add (pv 2) (pe_ix (r := rIxL K) ix_list (pe_lst (pa_cons pe_int (pa_cons pe_int (pa_cons pe_int (pa_cons pe_int (pa_cons (pe_op op_pow pe_int pe_int) pa_nil)))))) (pe_call (ok__law_draw T) (hr.mono (by decide)) (by rfl) T.g__law_draw T.F__law_draw.kp T.b__law_draw .nil pass0 (pa_cons (pv 0) (pa_cons pe_int pa_nil))) (fun _ _ => rfl))))
      (pss_cons (ps_set (i := 4) sc__law_good.nd rfl (by first | exact Or.inl rfl | exact Or.inr rfl) (pe_op op_add (pv 2) (pe_ix (r := rIxL K) ix_list (pe_lst (pa_cons pe_int (pa_cons pe_int (pa_cons pe_int (pa_cons pe_int (pa_cons (pe_op op_pow pe_int pe_int) pa_nil)))))) (pe_call (ok__law_draw T) (hr.mono (by decide)) (by rfl) T.g__law_draw T.F__law_draw.kp T.b__law_draw .nil pass0 (pa_cons (pv 0) (pa_cons pe_int pa_nil))) (fun _ _ => rfl))))
      (pss_cons (ps_if (pt_cmpR op_eq (pv 1) pe_int (nomark _)) (pss_one (ps_ret (pe_tup (pa_cons pe_int (pa_cons pe_int (pa_cons pe_int pa_nil)))))) pss_nil)
      (pss_cons (ps_if (pt_cmpR op_lt (pv 1) pe_int (nomark _)) (pss_one (ps_ret (pe_tup (pa_cons (pe_op op_mul (pe_op op_add (pv 3) pe_int) (pe_ix (r := rIxL K) ix_list (pe_lst (pa_cons pe_int (pa_cons (pe_un un_neg pe_int) pa_nil))) (pe_op op_sub (pv 1) pe_int) (fun _ _ => rfl))) (pa_cons pe_int (pa_cons pe_int pa_nil)))))) pss_nil)
      (C8.pss_cut (ps_if (pt_cmpR op_eq (pv 2) pe_int (nomark _)) (pss_one (ps_par3 (i := 2) (j := 3) (l := 4) (by rfl) sc__law_good.nd rfl rfl rfl (by decide) (by decide) (by decide) rfl rfl rfl (pa_cons pe_int (pa_cons (pe_op op_add (pv 3) pe_int) (pa_cons (pe_op op_add (pv 4) pe_int) pa_nil))) (by rfl))) pss_nil)
      (pss_cons (ps_if (pt_cmpR op_eq (pv 1) pe_int (nomark _)) (pss_one (ps_ret (pe_tup (pa_cons (pv 3) (pa_cons (pv 2) (pa_cons (pv 4) pa_nil)))))) pss_nil)
      (pss_one (ps_ret (pe_tup (pa_cons (pe_op op_sub pe_int (pv 3)) (pa_cons (pe_op op_sub pe_int (pv 2)) (pa_cons (pe_op op_sub pe_int (pv 4)) pa_nil)))))))))))))), ?_⟩
  try simp only [nox_K, cx_K]
  wtm_at "rd"
  refine ⟨d, c, r, 5, rfl, D, by decide, by decide, fun way H1 w0 w1 D1 E1 => ?_⟩
  wtm_at "rd"
  refine r_I ⟨by decide, by decide, by decide⟩ ?_
  wtm_at "rd"
  refine r_new rfl fun l2 n2 => ?_
  wtm_at "rd"
  refine ⟨d, c, r, 5, rfl, D1.new n2, by decide, by decide, fun j2 H2 a2 b2 D2 E2 => ?_⟩
  have h2 : H2 l2 = some (.lst ([0, 1, 2, 3, 10 ^ (6 : Int).toNat].map V.int)) := E2 _ _ upd_same (D1.ned n2) (D1.ner n2)
  refine r_ixL (SqL.of h2) (ati_int a2 b2) ?_
  have g0 := kAt_all (ns := [0, 1, 2, 3, 10 ^ (6 : Int).toNat]) (P := fun x => 0 ≤ x ∧ x ≤ 1000000) (by decide) (j := j2.toNat) (by show j2.toNat < 5; omega)
  revert g0
  generalize kAt [0, 1, 2, 3, 10 ^ (6 : Int).toNat] j2.toNat = gg
  intro g0
  wtm_at "rd"
  refine r_I ⟨by decide, by decide, by decide⟩ ?_
  wtm_at "rd"
  refine r_new rfl fun l3 n3 => ?_
  wtm_at "rd"
  refine ⟨d, c, r, 5, rfl, D2.new n3, by decide, by decide, fun j3 H3 a3 b3 D3 E3 => ?_⟩
  have h3 : H3 l3 = some (.lst ([0, 0, 1, 2, 10 ^ (12 : Int).toNat].map V.int)) := E3 _ _ upd_same (D2.ned n3) (D2.ner n3)
  refine r_ixL (SqL.of h3) (ati_int a3 b3) ?_
  have d0 := kAt_all (ns := [0, 0, 1, 2, 10 ^ (12 : Int).toNat]) (P := fun x => 0 ≤ x ∧ x ≤ 1000000000000) (by decide) (j := j3.toNat) (by show j3.toNat < 5; omega)
  revert d0
  generalize kAt [0, 0, 1, 2, 10 ^ (12 : Int).toNat] j3.toNat = dd
  intro d0
  wtm_at "rd"
  refine r_I ⟨by decide, by decide, by decide⟩ ?_
  wtm_at "rd"
  refine r_new rfl fun l4 n4 => ?_
  wtm_at "rd"
  refine ⟨d, c, r, 5, rfl, D3.new n4, by decide, by decide, fun j4 H4 a4 b4 D4 E4 => ?_⟩
  have h4 : H4 l4 = some (.lst ([0, 0, 1, 3, 10 ^ (12 : Int).toNat].map V.int)) := E4 _ _ upd_same (D3.ned n4) (D3.ner n4)
  refine r_ixL (SqL.of h4) (ati_int a4 b4) ?_
  have k0 := kAt_all (ns := [0, 0, 1, 3, 10 ^ (12 : Int).toNat]) (P := fun x => 0 ≤ x ∧ x ≤ 1000000000000) (by decide) (j := j4.toNat) (by show j4.toNat < 5; omega)
  revert k0
  generalize kAt [0, 0, 1, 3, 10 ^ (12 : Int).toNat] j4.toNat = kk
  intro k0
  have E5 : Ext d r H H4 := (((((E1.trans (Ext.of (same_new n2))).trans E2).trans (Ext.of (same_new n3))).trans E3).trans (Ext.of (same_new n4))).trans E4
  wtm_at "rd"
  refine r_ite (fun e1 => ?_) (fun e1 => ?_)
  · wtm_at "rd"
    refine r_new rfl fun t nt => ?_
    exact q t 0 0 0 _ (by decide) (by omega) (by omega) (by omega) upd_same (D4.new nt) (E5.trans (Ext.of (same_new nt)))
  wtm_at "rd"
  refine r_ite (fun e2 => ?_) (fun e2 => ?_)
  · wtm_at "rd"
    refine r_new rfl fun l5 n5 => ?_
    have h5 : (upd H4 l5 (.lst [V.int 1, .int (-1)])) l5 = some (.lst ([1, -1].map V.int)) := upd_same
    wtm_at "rd"
    refine r_ixL (SqL.of h5) (by exact ati_int (by omega) (by show way - 1 < 2; omega)) ?_
    have m0 := kAt_all (ns := [1, -1]) (P := fun x => x = 1 ∨ x = -1) (by decide) (j := (way - 1).toNat) (by show (way - 1).toNat < 2; omega)
    revert m0
    generalize kAt [1, -1] (way - 1).toNat = mm
    intro m0
    refine r_mul (.inr (by omega)) fun pp hpp => ?_
    have hp2 : pp = gg + dd + 1 ∨ pp = -(gg + dd + 1) := by
      rcases m0 with rfl | rfl
      · left; omega
      · right; omega
    wtm_at "rd"
    refine r_new rfl fun t nt => ?_
    refine q t pp 0 0 _ ?_ (by omega) (by omega) (by omega) upd_same ((D4.new n5).new nt) ((E5.trans (Ext.of (same_new n5))).trans (Ext.of (same_new nt)))
    unfold possB
    rw [decide_eq_true_eq]
    omega
  wtm_at "rd"
  refine ⟨fun σ H' => ∃ (g' d' k' : Int), σ = [some (.ref d), some (.int way), some (.int g'), some (.int d'), some (.int k')] ∧ H' = H4 ∧ 1 ≤ g' ∧ g' ≤ d' ∧ g' ≤ k' ∧ d' ≤ 10000000000000 ∧ k' ≤ 10000000000000, ?_, ?_⟩
  · wtm_at "rdi"
    · exact ⟨1, _, _, rfl, rfl, by omega, by omega, by omega, by omega, by omega⟩
    · exact ⟨_, _, _, rfl, rfl, by omega, by omega, by omega, by omega, by omega⟩
  rintro σ H' ⟨g', d', k', rfl, rfl, x1, x2, x3, x4, x5⟩
  wtm_at "rdi"
  all_goals refine r_new rfl fun t nt => ?_
  · refine q t d' g' k' _ ?_ (by omega) (by omega) (by omega) upd_same (D4.new nt) (E5.trans (Ext.of (same_new nt)))
    unfold possB
    rw [decide_eq_true_eq]
    omega
  · refine q t (0 - d') (0 - g') (0 - k') _ ?_ (by omega) (by omega) (by omega) upd_same (D4.new nt) (E5.trans (Ext.of (same_new nt)))
    unfold possB
    rw [decide_eq_true_eq]
    omega

theorem ok__law_far (T : Txt K mg) : FnOk P w K mg base CX0 2 T.f__law_far T.d__law_far ["_law_draws", "_law_base"] spFar := by
  refine T.F__law_far.ok sc__law_far (fun vs H Q E h => ?_) (fun cdv A outer s H vs Q E hr h => ?_)
  · obtain ⟨d, c, r, b, rfl, _⟩ := h
    rfl
  obtain ⟨d, c, r, b, rfl, D, q⟩ := h
  refine ⟨_, (pss_cons (ps_set (i := 2) sc__law_far.nd rfl (by first | exact Or.inl rfl | exact Or.inr rfl) (pe_call (ok__law_draw T) (hr.mono (by decide)) (by rfl) T.g__law_draw T.F__law_draw.kp T.b__law_draw .nil pass0 (pa_cons (pv 0) (pa_cons pe_int pa_nil))))
      (pss_cons (ps_if (pt_cmpR op_lt (pv 2) pe_int (nomark _)) (pss_one (ps_ret (pe_op op_sub (pe_op op_add (pv 1) (pv 2)) pe_int))) pss_nil)
      (pss_one (ps_ret (pe_op op_sub (pe_call (ok__law_draw T) (hr.mono (by decide)) (by rfl) T.g__law_draw T.F__law_draw.kp T.b__law_draw .nil pass0 (pa_cons (pv 0) (pa_cons (pe_op op_add (pe_op op_mul pe_int (pe_op op_pow pe_int pe_int)) pe_int) pa_nil))) (pe_op op_pow pe_int pe_int)))))), ?_⟩
  try simp only [nox_K, cx_K]
  wtm_at "rd"
  refine ⟨d, c, r, 4, rfl, D, by decide, by decide, fun k H1 k0 k1 D1 E1 => ?_⟩
  wtm_at "rd"
  refine r_ite (fun e1 => ?_) (fun e1 => ?_)
  · wtm_at "rd"
    exact q _ H1 (by omega) D1 E1
  wtm_at "rd"
  refine r_I ⟨by decide, by decide, by decide⟩ ?_
  wtm_at "rd"
  refine r_I (.inl ⟨by decide, by decide⟩) ?_
  wtm_at "rd"
  rw [show (2 : Int) * 10 ^ (7 : Int).toNat + 1 = 20000001 by decide]
  refine ⟨d, c, r, _, rfl, D1, by decide, by decide, fun k2 H2 l2 u2 D2 E2 => ?_⟩
  wtm_at "rd"
  refine r_I ⟨by decide, by decide, by decide⟩ ?_
  wtm_at "rd"
  rw [show (10 : Int) ^ (7 : Int).toNat = 10000000 by decide]
  exact q _ H2 (by omega) D2 (E1.trans E2)
end
section
variable {P : Program} {w : World} {K : PySem.W.Frag} {mg : Str → Option Value} {base : Heap}

theorem at_mem {xs : List V} {i : Int} (h0 : 0 ≤ i) (h1 : i < xs.length) : ∃ v, v ∈ xs ∧ atI xs i = some v := by
  obtain ⟨j, rfl⟩ := Int.eq_ofNat_of_zero_le h0
  have hj : j < xs.length := by omega
  exact ⟨xs[j], List.getElem_mem hj, atI_nat (List.getElem?_eq_getElem hj)⟩
theorem ok__law_triple (T : Txt K mg) : FnOk P w K mg base CX0 3 T.f__law_triple T.d__law_triple ["_law_draws", "_law_kept"] (spTriple T.C_Offset) := by
  refine T.F__law_triple.ok sc__law_triple (fun vs H Q E h => ?_) (fun cdv A outer s H vs Q E hr h => ?_)
  · obtain ⟨d, c, r, kp, n, xs, rfl, _⟩ := h
    rfl
  obtain ⟨d, c, r, kp, n, xs, rfl, D, hk, kd, kr, hl, hall, q⟩ := h
  refine ⟨_, (pss_cons (ps_set (i := 2) sc__law_triple.nd rfl (by first | exact Or.inl rfl | exact Or.inr rfl) (pe_call (ok__law_draw T) (hr.mono (by decide)) (by rfl) T.g__law_draw T.F__law_draw.kp T.b__law_draw .nil pass0 (pa_cons (pv 0) (pa_cons pe_int pa_nil))))
      (pss_cons (ps_if (pt_cmpR op_eq (pv 2) pe_int (nomark _)) (pss_one (ps_ret (pe_callTy c_tupA (by rfl) T.z_tuple (by decide +kernel) (pa_cons (pe_lc (own := [("_law_k", 7)]) (g := gName 7) (tt := tYes) rfl sc__law_triple.nd (pi_range1 (by rfl) T.z_range (pa_cons pe_int pa_nil)) (blkOk_by (N := ["_law_draws", "_law_kept", "_law_way", "_law_g", "_law_d", "_law_found", "_law_at", "_law_k"]) (sc := defScope s__law_triple) (by decide +kernel)) (fun _ _ _ _ _ => pg_name (i := 7) sc__law_triple.nd rfl (by first | exact Or.inl rfl | exact Or.inr rfl)) (fun _ _ _ _ _ => pts_nil) (fun _ _ _ _ _ => (pe_op op_sub (pe_call (ok__law_draw T) (hr.mono (by decide)) (by rfl) T.g__law_draw T.F__law_draw.kp T.b__law_draw .nil pass0 (pa_cons (pv 0) (pa_cons pe_int pa_nil))) pe_int))) pa_nil)))) pss_nil)
      (pss_cons (ps_if (pt_cmpR op_eq (pv 2) pe_int (nomark _)) (pss_cons (ps_set (i := 3) sc__law_triple.nd rfl (by first | exact Or.inl rfl | exact Or.inr rfl) (pe_call (ok__law_far T) (hr.mono (by decide)) (by rfl) T.g__law_far T.F__law_far.kp T.b__law_far .nil pass0 (pa_cons (pv 0) (pa_cons (pe_op op_sub (pe_call (ok__law_draw T) (hr.mono (by decide)) (by rfl) T.g__law_draw T.F__law_draw.kp T.b__law_draw .nil pass0 (pa_cons (pv 0) (pa_cons pe_int pa_nil))) pe_int) pa_nil))))
      (pss_cons (ps_set (i := 4) sc__law_triple.nd rfl (by first | exact Or.inl rfl | exact Or.inr rfl) (pe_call (ok__law_far T) (hr.mono (by decide)) (by rfl) T.g__law_far T.F__law_far.kp T.b__law_far .nil pass0 (pa_cons (pv 0) (pa_cons (pv 3) pa_nil))))
      (pss_one (ps_ret (pe_tup (pa_cons (pv 4) (pa_cons (pv 3) (pa_cons (pe_call (ok__law_far T) (hr.mono (by decide)) (by rfl) T.g__law_far T.F__law_far.kp T.b__law_far .nil pass0 (pa_cons (pv 0) (pa_cons (pe_ix (r := rIxL K) ix_list (pe_lst (pa_cons (pv 3) (pa_cons (pv 4) pa_nil))) (pe_call (ok__law_draw T) (hr.mono (by decide)) (by rfl) T.g__law_draw T.F__law_draw.kp T.b__law_draw .nil pass0 (pa_cons (pv 0) (pa_cons pe_int pa_nil))) (fun _ _ => rfl)) pa_nil))) pa_nil)))))))) pss_nil)
      (pss_cons (ps_set (i := 5) sc__law_triple.nd rfl (by first | exact Or.inl rfl | exact Or.inr rfl) (pe_callTy c_listA (by rfl) T.z_list (by decide +kernel) (pa_cons (pe_call (ok__law_good T) (hr.mono (by decide)) (by rfl) T.g__law_good T.F__law_good.kp T.b__law_good .nil pass0 (pa_cons (pv 0) pa_nil)) pa_nil)))
      (C8.pss_cut (ps_if (PW.pt (pw_and (pt_cmpR op_eq (pv 2) pe_int (nomark _)) (pw_and1 (pt_cmpR (op_neE hr.units0) (pv 1) (pe_lst pa_nil) (nomark _))))) (pss_one (ps_set (i := 5) sc__law_triple.nd rfl (by first | exact Or.inl rfl | exact Or.inr rfl) (pe_callTy c_listA (by rfl) T.z_list (by decide +kernel) (pa_cons (pe_ix (r := rIxT K) ix_tup (pe_ix (r := rIxL K) ix_list (pv 1) (pe_call (ok__law_draw T) (hr.mono (by decide)) (by rfl) T.g__law_draw T.F__law_draw.kp T.b__law_draw .nil pass0 (pa_cons (pv 0) (pa_cons (pe_callB (r := rLenL K) (id := "len") c_len (by rfl) T.z_len (by decide +kernel) (pa_cons (pv 1) pa_nil)) pa_nil))) (fun _ _ => rfl)) pe_int (fun _ _ => rfl)) pa_nil)))) pss_nil)
      (C8.pss_cut (ps_if (pt_cmpR op_lt (pv 2) pe_int (nomark _)) (pss_cons (ps_set (i := 6) sc__law_triple.nd rfl (by first | exact Or.inl rfl | exact Or.inr rfl) (pe_call (ok__law_draw T) (hr.mono (by decide)) (by rfl) T.g__law_draw T.F__law_draw.kp T.b__law_draw .nil pass0 (pa_cons (pv 0) (pa_cons pe_int pa_nil))))
      (pss_one (ps_asg (pe_ix (r := rIxL K) ix_list (pe_lst (pa_cons (pe_op op_add (pe_ix (r := rIxL K) ix_list (pv 5) (pv 6) (fun _ _ => rfl)) pe_int) (pa_cons (pe_op op_sub (pe_ix (r := rIxL K) ix_list (pv 5) (pv 6) (fun _ _ => rfl)) pe_int) (pa_cons (pe_op op_sub pe_int (pe_ix (r := rIxL K) ix_list (pv 5) (pv 6) (fun _ _ => rfl))) pa_nil)))) (pe_call (ok__law_draw T) (hr.mono (by decide)) (by rfl) T.g__law_draw T.F__law_draw.kp T.b__law_draw .nil pass0 (pa_cons (pv 0) (pa_cons pe_int pa_nil))) (fun _ _ => rfl)) (pg_sub (pv 5) (pv 6) set_list)))) pss_nil)
      (pss_one (ps_ret (pe_callTy c_tupA (by rfl) T.z_tuple (by decide +kernel) (pa_cons (pv 5) pa_nil)))))))))), ?_⟩
  try simp only [nox_K, cx_K]
  wtm_at "rd"
  refine ⟨d, c, r, 6, rfl, D, by decide, by decide, fun way H1 w0 w1 D1 E1 => ?_⟩
  wtm_at "rd"
  refine r_ite (fun e1 => ?_) (fun e1 => ?_)
  · wtm_at "rd"
    refine r_upto (by decide) (by decide) ?_
    refine lc_draws (P := fun k => -3 ≤ k ∧ k ≤ 3) (by decide) D1 (fun j H2 QQ hj D2 E2 hQ => ?_) (fun l ss H2 hl hs nl hl2 D2 E2 => ?_)
    · wtm_at "rd"
      refine ⟨d, c, r, 7, rfl, D2, by decide, by decide, fun k H3 a0 a1 D3 E3 => ?_⟩
      wtm_at "rd"
      exact hQ (k - 3) H3 (by omega) D3 E3
    obtain ⟨s0, s1, s2, rfl⟩ : ∃ s0 s1 s2, ss = [s0, s1, s2] := by
      match ss, hl with
      | [a, b, c], _ => exact ⟨a, b, c, rfl⟩
    have a0 := hs s0 (by simp)
    have a1 := hs s1 (by simp)
    have a2 := hs s2 (by simp)
    wtm_at "rd"
    refine r_tupL (SqL.of hl2) fun u nu => ?_
    exact q u s0 s1 s2 _ (by unfold Bd3 Bd; omega) upd_same (D2.new nu) ((E1.trans E2).trans (Ext.of (same_new nu)))
  wtm_at "rd"
  refine r_ite (fun e2 => ?_) (fun e2 => ?_)
  · wtm_at "rd"
    refine ⟨d, c, r, 41, rfl, D1, by decide, by decide, fun k2 H2 a2 b2 D2 E2 => ?_⟩
    wtm_at "rd"
    refine ⟨d, c, r, _, rfl, D2, fun x3 H3 h3 D3 E3 => ?_⟩
    wtm_at "rd"
    refine ⟨d, c, r, _, rfl, D3, fun x4 H4 h4 D4 E4 => ?_⟩
    wtm_at "rd"
    refine r_new rfl fun l5 n5 => ?_
    wtm_at "rd"
    refine ⟨d, c, r, 2, rfl, D4.new n5, by decide, by decide, fun k6 H6 a6 b6 D6 E6 => ?_⟩
    have h6 : H6 l5 = some (.lst ([x3, x4].map V.int)) := E6 _ _ upd_same (D4.ned n5) (D4.ner n5)
    refine r_ixL (SqL.of h6) (ati_int a6 b6) ?_
    have g0 := kAt_all (ns := [x3, x4]) (P := fun x => -100000000 ≤ x ∧ x ≤ 100000000) (by intro x hx; simp only [List.mem_cons, List.mem_nil_iff, or_false] at hx; omega) (j := k6.toNat) (by show k6.toNat < 2; omega)
    revert g0
    generalize kAt [x3, x4] k6.toNat = gg
    intro g0
    wtm_at "rd"
    refine ⟨d, c, r, _, rfl, D6, fun x7 H7 h7 D7 E7 => ?_⟩
    wtm_at "rd"
    refine r_new rfl fun u nu => ?_
    refine q u x4 x3 x7 _ (by unfold Bd3 Bd; omega) upd_same (D7.new nu) ?_
    exact ((((((E1.trans E2).trans E3).trans E4).trans (Ext.of (same_new n5))).trans E6).trans E7).trans (Ext.of (same_new nu))
  wtm_at "rd"
  refine ⟨d, c, r, rfl, D1, fun t2 x y z H2 _ hx hy hz h2 D2 E2 => ?_⟩
  wtm_at "rd"
  refine r_listA (.inr (SqT.of h2)) fun l nl => ?_
  have E3 : Ext d r H (upd H2 l (.lst [.int x, .int y, .int z])) := (E1.trans E2).trans (Ext.of (same_new nl))
  have D3 : Drw (upd H2 l (.lst [.int x, .int y, .int z])) d c r := D2.new nl
  have nl0 : H l = none := D.back (E1.trans E2) nl D2
  have hk3 := E3 _ _ hk kd kr
  wtm_at "rd"
  refine ⟨fun σ H' => ∃ (l : Addr) (x y z : Int), σ = [some (.ref d), some (.ref kp), some (.int way), none, none, some (.ref l), none, none] ∧ H l = none ∧ H' l = some (.lst [.int x, .int y, .int z]) ∧ Bd3 n x y z ∧ Drw H' d c r ∧ Ext d r H H', ?_, ?_⟩
  · wtm_at "rd"
    refine r_ite (fun e3 => ?_) (fun e3 => ?_)
    · wtm_at "rd"
      refine r_new rfl fun l4 n4 => ?_
      refine r_neE (SqL.of ((same_new n4) _ _ hk3)) (SqL.of upd_same) ?_
      by_cases hxs : xs = []
      · subst hxs
        wtm_at "rdi"
        exact ⟨l, x, y, z, rfl, nl0, (same_new n4) _ _ upd_same, by unfold Bd3 Bd; omega, D3.new n4, E3.trans (Ext.of (same_new n4))⟩
      · rw [show xs.isEmpty = false by cases xs with | nil => exact absurd rfl hxs | cons _ _ => rfl]
        have hpos : 0 < xs.length := List.length_pos_iff.mpr hxs
        have hk4 := (same_new (o := .lst []) n4) _ _ hk3
        wtm_at "rdi"
        refine r_lenL (SqL.of hk4) ?_
        wtm_at "rd"
        refine ⟨d, c, r, _, rfl, D3.new n4, by omega, by omega, fun k5 H5 a5 b5 D5 E5 => ?_⟩
        obtain ⟨v, hv, ev⟩ := at_mem a5 b5
        have hk5 := E5 _ _ hk4 kd kr
        have E5' := (E3.trans (Ext.of (same_new n4))).trans E5
        obtain ⟨qq, p, t, x', y', z', rfl, g1, g2, g3, g4, g5⟩ := (hall v hv).ext E5' D
        refine r_ixL (SqL.of hk5) ev ?_
        wtm_at "rd"
        refine r_listA (.inr (SqT.of g3)) fun l6 n6 => ?_
        wtm_at "rd"
        exact ⟨l6, x', y', z', rfl, D.back E5' n6 D5, upd_same, g5, D5.new n6, E5'.trans (Ext.of (same_new n6))⟩
    · wtm_at "rd"
      exact ⟨l, x, y, z, rfl, nl0, upd_same, by unfold Bd3 Bd; omega, D3, E3⟩
  rintro σ H4 ⟨l, x, y, z, rfl, nl, hl4, hb, D4, E4⟩
  have ld := D.ned nl
  have lr := D.ner nl
  have lc := D.nec nl
  wtm_at "rd"
  refine ⟨fun σ H' => ∃ (x y z : Int) (y6 : Option V), σ = [some (.ref d), some (.ref kp), some (.int way), none, none, some (.ref l), y6, none] ∧ H' l = some (.lst [.int x, .int y, .int z]) ∧ Bd3 (n + 1) x y z ∧ Drw H' d c r ∧ Ext d r H H', ?_, ?_⟩
  · wtm_at "rd"
    refine r_ite (fun e4 => ?_) (fun e4 => ?_)
    · wtm_at "rd"
      refine ⟨d, c, r, 3, rfl, D4, by decide, by decide, fun j H5 j0 j1 D5 E5 => ?_⟩
      have hl5 := E5 _ _ hl4 ld lr
      unfold Bd3 Bd at hb
      have w : ∃ (m : Nat) (v : Int), ixN 3 j = some m ∧ atI [V.int x, .int y, .int z] j = some (.int v) ∧ (-(10 ^ 20 + (n : Int)) ≤ v ∧ v ≤ 10 ^ 20 + n) ∧ ∀ w : Int, ∃ x' y' z', List.set [V.int x, .int y, .int z] m (.int w) = [V.int x', .int y', .int z'] ∧ (x' = x ∨ x' = w) ∧ (y' = y ∨ y' = w) ∧ (z' = z ∨ z' = w) := by
        obtain e | e | e : j = 0 ∨ j = 1 ∨ j = 2 := by omega
        · subst e; exact ⟨0, x, rfl, rfl, by omega, fun w => ⟨w, _, _, rfl, .inr rfl, .inl rfl, .inl rfl⟩⟩
        · subst e; exact ⟨1, y, rfl, rfl, by omega, fun w => ⟨_, w, _, rfl, .inl rfl, .inr rfl, .inl rfl⟩⟩
        · subst e; exact ⟨2, z, rfl, rfl, by omega, fun w => ⟨_, _, w, rfl, .inl rfl, .inl rfl, .inr rfl⟩⟩
      obtain ⟨m, v, f1, f2, f3, f4⟩ := w
      wtm_at "rd"
      refine r_ixL (SqL.of hl5) f2 ?_
      wtm_at "rd"
      refine r_ixL (SqL.of hl5) f2 ?_
      wtm_at "rd"
      refine r_ixL (SqL.of hl5) f2 ?_
      wtm_at "rd"
      refine r_new rfl fun l6 n6 => ?_
      wtm_at "rd"
      refine ⟨d, c, r, 3, rfl, D5.new n6, by decide, by decide, fun k7 H7 a7 b7 D7 E7 => ?_⟩
      have h7 : H7 l6 = some (.lst ([v + 1, v - 1, 0 - v].map V.int)) := E7 _ _ upd_same (D5.ned n6) (D5.ner n6)
      refine r_ixL (SqL.of h7) (ati_int a7 b7) ?_
      have g0 := kAt_all (ns := [v + 1, v - 1, 0 - v]) (P := fun x => -(10 ^ 20 + (n : Int) + 1) ≤ x ∧ x ≤ 10 ^ 20 + n + 1) (by intro x hx; simp only [List.mem_cons, List.mem_nil_iff, or_false] at hx; omega) (j := k7.toNat) (by show k7.toNat < 3; omega)
      revert g0
      generalize kAt [v + 1, v - 1, 0 - v] k7.toNat = gg
      intro g0
      obtain ⟨x', y', z', f5, ex, ey, ez⟩ := f4 gg
      have hl7 := E7 _ _ ((same_new n6) _ _ hl5) ld lr
      wtm_at "rd"
      refine r_setL hl7 f1 ?_
      rw [f5]
      refine ⟨x', y', z', _, rfl, upd_same, ?_, D7.put ld lr lc, fun b o e n1 n2 => ?_⟩
      · unfold Bd3 Bd
        push_cast
        omega
      · rw [upd_ne (ne_of_none e nl)]
        exact E7 _ _ ((same_new n6) _ _ (E5 _ _ (E4 _ _ e n1 n2) n1 n2)) n1 n2
    · wtm_at "rd"
      exact ⟨x, y, z, _, rfl, hl4, hb.up (Nat.le_succ n), D4, E4⟩
  rintro σ H5 ⟨x, y, z, y6, rfl, hl5, hb, D5, E5⟩
  wtm_at "rd"
  refine r_tupL (SqL.of hl5) fun u nu => ?_
  exact q u x y z _ hb upd_same (D5.new nu) (E5.trans (Ext.of (same_new nu)))
theorem ok__law_zone (T : Txt K mg) : FnOk P w K mg base CX0 1 T.f__law_zone T.d__law_zone ["_law_triple_here"] (spZoneT K) := by
  refine T.F__law_zone.ok sc__law_zone (fun vs H Q E h => ?_) (fun cdv A outer s H vs Q E hr h => ?_)
  · obtain ⟨t, x, y, z, rfl, _⟩ := h
    rfl
  obtain ⟨t, x, y, z, rfl, ht, q⟩ := h
  refine ⟨_, (pss_cons (ps_asg (pv 0) (pg_tup (by rfl) (pgs_cons (pg_name (i := 1) sc__law_zone.nd rfl (by first | exact Or.inl rfl | exact Or.inr rfl)) (pgs_cons (pg_name (i := 2) sc__law_zone.nd rfl (by first | exact Or.inl rfl | exact Or.inr rfl)) (pgs_cons (pg_name (i := 3) sc__law_zone.nd rfl (by first | exact Or.inl rfl | exact Or.inr rfl)) pgs_nil)))))
      (pss_cons (ps_if (pt_cmpR (op_eqD hr.units) (pv 0) (pe_tup (pa_cons pe_int (pa_cons pe_int (pa_cons pe_int pa_nil)))) (nomark _)) (pss_one (ps_ret pe_str)) pss_nil)
      (pss_cons (ps_if (PW.pt (pw_and (pt_cmpR op_eq (pv 2) pe_int (nomark _)) (pw_and1 (pt_cmpR op_eq (pv 3) pe_int (nomark _))))) (pss_one (ps_ret (pe_ix (r := rIxL K) ix_list (pe_lst (pa_cons pe_str (pa_cons pe_str pa_nil))) (pe_callTy c_intB (by rfl) T.z_int (by decide +kernel) (pa_cons (pe_cmpR op_gt (pv 1) pe_int (nomark _)) pa_nil)) (fun _ _ => rfl)))) pss_nil)
      (pss_cons (ps_if (PW.pt (pw_and (pt_cmpR op_gt (pv 2) pe_int (nomark _)) (pw_and (pt_cmpR op_ge (pv 1) (pv 2) (nomark _)) (pw_and1 (pt_cmpR op_ge (pv 3) (pv 2) (nomark _)))))) (pss_one (ps_ret pe_str)) pss_nil)
      (pss_cons (ps_if (PW.pt (pw_and (pt_cmpR op_lt (pv 2) pe_int (nomark _)) (pw_and (pt_cmpR op_le (pv 1) (pv 2) (nomark _)) (pw_and1 (pt_cmpR op_le (pv 3) (pv 2) (nomark _)))))) (pss_one (ps_ret pe_str)) pss_nil)
      (pss_one (ps_ret pe_str))))))), ?_⟩
  try simp only [nox_K, cx_K]
  wtm_at "rd"
  refine r_gtup (SqT.of ht) rfl ?_
  wtm_at "rd"
  refine r_new rfl fun t2 n2 => ?_
  wtm_at "rd"
  refine r_eqTT (SqT.of ((same_new n2) _ _ ht)) (SqT.of upd_same) (int3_eq _ _ _) (int3_eq _ _ _) (int3_kind _ _ _ _ _ _) ?_
  by_cases h0 : x = 0 ∧ y = 0 ∧ z = 0
  · obtain ⟨rfl, rfl, rfl⟩ := h0
    rw [decide_eq_true rfl]
    wtm_at "rdi"
    exact q _ (same_new n2)
  · rw [decide_eq_false (fun e => h0 (by injection e with e1 e; injection e with e2 e; injection e with e3 e; cases e1; cases e2; cases e3; exact ⟨rfl, rfl, rfl⟩))]
    wtm_at "rdi"
    · refine r_new rfl fun l nl => ?_
      wtm_at "rd"
      have s2 := (same_new (o := .tup [V.int 0, .int 0, .int 0]) n2).trans (same_new (o := .lst [V.str "before", .str "after"]) nl)
      have hp : possB x y z = true := by unfold possB; rw [decide_eq_true_eq]; omega
      unfold zoneL zoneS at q
      rw [if_pos hp, if_neg (by omega), if_pos (by omega)] at q
      by_cases e3 : 0 < x
      · rw [if_pos e3] at q
        rw [decide_eq_true e3]
        exact r_ixL (SqL.of upd_same) (v := .str "after") rfl (q _ s2)
      · rw [if_neg e3] at q
        rw [decide_eq_false e3]
        exact r_ixL (SqL.of upd_same) (v := .str "before") rfl (q _ s2)
    all_goals first
      | (exfalso; omega)
      | (rw [z_future (by omega) (by omega) (by omega)] at q; exact q _ (same_new n2))
      | (rw [z_past (by omega) (by omega) (by omega)] at q; exact q _ (same_new n2))
      | (rw [z_no (by unfold possB; rw [decide_eq_false_iff_not]; omega)] at q; exact q _ (same_new n2))
theorem ok__law_made (T : Txt K mg) : FnG P w K mg base CX0 6 T.f__law_made T.d__law_made ["_law_triple_here", "_law_by_name"] (spMade T.C_Offset) := by
  refine okG T.F__law_made sc__law_made (fun vs H Q E h => ?_) (fun cdv A outer s H vs Q E hG hr h => ?_)
  · obtain ⟨t, x, y, z, k, n, rfl, _⟩ := h
    rfl
  obtain ⟨t, x, y, z, k, n, rfl, ht, hb, hn, qB, qM⟩ := h
  refine ⟨_, (pss_cons (ps_asg (pv 0) (pg_tup (by rfl) (pgs_cons (pg_name (i := 2) sc__law_made.nd rfl (by first | exact Or.inl rfl | exact Or.inr rfl)) (pgs_cons (pg_name (i := 3) sc__law_made.nd rfl (by first | exact Or.inl rfl | exact Or.inr rfl)) (pgs_cons (pg_name (i := 4) sc__law_made.nd rfl (by first | exact Or.inl rfl | exact Or.inr rfl)) pgs_nil)))))
      (pss_cons (ps_try_as (i := 6) rfl rfl sc__law_made.nd rfl rfl ⟨rfl, by decide, Or.inl T.g_BadOffset⟩ takes0 (fun W pn xe tk _ => (pss_one (ps_set (i := 5) sc__law_made.nd rfl (by first | exact Or.inl rfl | exact Or.inr rfl) (pe_ifExp (pt_val (pv 1)) (pe_makeKS T.m_Offset (ok_Offset___init__ T) (hr.mono (by decide)) (by rfl) T.g_Offset T.kb_Offset___init__ (fun σ => passAt tk σ) (pk_cons (pv 4) (pk_cons (pv 2) (pk_cons (pv 3) pk_nil)))) (pe_makeS T.m_Offset (ok_Offset___init__ T) (hr.mono (by decide)) (by rfl) T.g_Offset T.b_Offset___init__ (fun σ => passAt tk σ) (pa_cons (pv 2) (pa_cons (pv 3) (pa_cons (pv 4) pa_nil)))))))) (fun a oe cls d pn hz hf => (pss_one (ps_ret (pe_tup (pa_cons pe_str (pa_cons (pe_callB (call_isEp hz) (by rfl) T.z_isinstance (by decide +kernel) (pa_cons (pv 6) (pa_cons (pe_glob (v := .ref T.C_WindowError) rfl T.g_WindowError rfl) pa_nil))) (pa_cons (pe_callB (r := rRepr K) (id := "repr") (call_repr hG hr.units) (by rfl) T.z_repr (by decide +kernel) (pa_cons (pe_tup (pa_cons (pe_xf T.xf_BadOffset T.nf_BadOffset_rows hz hf (pv 6)) (pa_cons (pe_xf T.xf_BadOffset T.nf_BadOffset_groups hz hf (pv 6)) (pa_cons (pe_xf T.xf_BadOffset T.nf_BadOffset_distance hz hf (pv 6)) pa_nil)))) pa_nil)) pa_nil))))))))
      (pss_one (ps_ret (pe_tup (pa_cons pe_str (pa_cons (pv 5) pa_nil))))))), ?_⟩
  try simp only [nox_K, cx_K]
  wtm_at "rd"
  refine r_gtup (SqT.of ht) rfl ?_
  wtm_at "rd"
  have fin : ∀ (x1 dx : Addr), H x1 = none → H dx = none → dx ≠ x1 → True := fun _ _ _ _ _ => trivial
  cases k with
  | true =>
    wtm_at "rdi"
    refine ⟨rfl, fun x1 dx nx nd nxd => ?_⟩
    have s0 : Same H (upd (upd H dx (.own x1)) x1 (.ins T.C_Offset dx [])) := same_two nx nd
    refine ⟨x1, dx, x, y, z, rfl, upd_same, fun hp dd H1 _ hd s1 => ?_, fun hp H1 ho hk => ⟨rfl, ?_⟩⟩
    · refine ⟨true, T.em_BadOffset_BadOffset, fun _ a na => ?_, fun z => nomatch z⟩
      wtm_at "rd"
      refine r_isEp T.is_BadOffset_WindowError ?_
      wtm_at "rd"
      refine ⟨rfl, rfl, dd, _, _, rfl, hd, bad_rows _ _ _, ?_⟩
      wtm_at "rd"
      refine ⟨rfl, rfl, dd, _, _, rfl, hd, bad_groups _ _ _, ?_⟩
      wtm_at "rd"
      refine ⟨rfl, rfl, dd, _, _, rfl, hd, bad_distance _ _ _, ?_⟩
      wtm_at "rd"
      refine r_new rfl fun t3 n3 => ?_
      wtm_at "rd"
      refine r_reprT (SqT.of upd_same) (hb.ok hn) (Nat.le_of_ble_eq_true rfl) ?_
      wtm_at "rd"
      refine r_new rfl fun u nu => ?_
      exact qB hp u _ upd_same (((s0.trans s1).trans (same_new n3)).trans (same_new nu))
    · wtm_at "rd"
      refine r_new rfl fun u nu => ?_
      exact qM hp u x1 _ upd_same (ho.same (same_new nu)) ((same_make nx nd hk).trans (same_new nu))
  | false =>
    wtm_at "rdi"
    intro x1 dx nx nd nxd
    have s0 : Same H (upd (upd H dx (.own x1)) x1 (.ins T.C_Offset dx [])) := same_two nx nd
    refine ⟨x1, dx, x, y, z, rfl, upd_same, fun hp dd H1 _ hd s1 => ?_, fun hp H1 ho hk => ⟨rfl, ?_⟩⟩
    · refine ⟨true, T.em_BadOffset_BadOffset, fun _ a na => ?_, fun z => nomatch z⟩
      wtm_at "rd"
      refine r_isEp T.is_BadOffset_WindowError ?_
      wtm_at "rd"
      refine ⟨rfl, rfl, dd, _, _, rfl, hd, bad_rows _ _ _, ?_⟩
      wtm_at "rd"
      refine ⟨rfl, rfl, dd, _, _, rfl, hd, bad_groups _ _ _, ?_⟩
      wtm_at "rd"
      refine ⟨rfl, rfl, dd, _, _, rfl, hd, bad_distance _ _ _, ?_⟩
      wtm_at "rd"
      refine r_new rfl fun t3 n3 => ?_
      wtm_at "rd"
      refine r_reprT (SqT.of upd_same) (hb.ok hn) (Nat.le_of_ble_eq_true rfl) ?_
      wtm_at "rd"
      refine r_new rfl fun u nu => ?_
      exact qB hp u _ upd_same (((s0.trans s1).trans (same_new n3)).trans (same_new nu))
    · wtm_at "rd"
      refine r_new rfl fun u nu => ?_
      exact qM hp u x1 _ upd_same (ho.same (same_new nu)) ((same_make nx nd hk).trans (same_new nu))
end
section
variable {P : Program} {w : World} {K : PySem.W.Frag} {mg : Str → Option Value} {base : Heap}

noncomputable def isT (H : Hp) (x y z : Int) (v : V) : Bool := @decide (∃ (q p t : Addr), v = .ref q ∧ H q = some (.tup [.ref p, .ref t]) ∧ H t = some (.tup [.int x, .int y, .int z])) (Classical.propDecidable _)
theorem isT_eq {H : Hp} {q p t : Addr} {x y z x' y' z' : Int} (h : H q = some (.tup [.ref p, .ref t])) (ht : H t = some (.tup [.int x', .int y', .int z'])) : isT H x y z (.ref q) = decide (x = x' ∧ y = y' ∧ z = z') := by
  unfold isT
  rw [Bool.eq_iff_iff, @decide_eq_true_iff _ (Classical.propDecidable _), decide_eq_true_iff]
  constructor
  · rintro ⟨q2, p2, t2, e, h2, ht2⟩
    cases e
    rw [h] at h2
    cases h2
    rw [ht] at ht2
    cases ht2
    exact ⟨rfl, rfl, rfl⟩
  · rintro ⟨rfl, rfl, rfl⟩
    exact ⟨q, p, t, rfl, h, ht⟩
theorem bl_all (f : V → Bool) (ys : List V) : ∀ v ∈ ys.map (fun v => V.bl (f v)), eqD v := by
  intro v hv
  obtain ⟨w, _, rfl⟩ := List.mem_map.mp hv
  trivial
theorem and3 (x y z x' y' z' : Int) : (decide (x = x') && (decide (y = y') && decide (z = z'))) = decide (x = x' ∧ y = y' ∧ z = z') := by
  rw [Bool.eq_iff_iff]
  simp only [Bool.and_eq_true, decide_eq_true_eq]
theorem tup3 (x y z x' y' z' : Int) : decide ([V.int x, .int y, .int z] = [V.int x', .int y', .int z']) = decide (x = x' ∧ y = y' ∧ z = z') := by
  rw [decide_eq_decide]
  constructor
  · intro e
    cases e
    exact ⟨rfl, rfl, rfl⟩
  · rintro ⟨rfl, rfl, rfl⟩
    rfl
theorem ok__law_right (T : Txt K mg) : FnG P w K mg base CX0 2 T.f__law_right T.d__law_right ["_law_offset", "_law_triple_here"] (spRight T.C_Offset) := by
  refine okG T.F__law_right sc__law_right (fun vs H Q E h => ?_) (fun cdv A outer s H vs Q E hG hr h => ?_)
  · obtain ⟨p, t, x, y, z, n, rfl, _⟩ := h
    rfl
  obtain ⟨p, t, x, y, z, n, rfl, o, ht, hp, hb, hn, q⟩ := h
  refine ⟨_, (pss_cons (ps_if (pt_cmpR op_ne (pe_callB (r := rRepr K) (id := "repr") (call_repr hG hr.units) (by rfl) T.z_repr (by decide +kernel) (pa_cons (pe_tup (pa_cons (pe_fldK (K := K) (pv 0)) (pa_cons (pe_fldK (K := K) (pv 0)) (pa_cons (pe_fldK (K := K) (pv 0)) pa_nil)))) pa_nil)) (pe_callB (r := rRepr K) (id := "repr") (call_repr hG hr.units) (by rfl) T.z_repr (by decide +kernel) (pa_cons (pv 1) pa_nil)) (nomark _)) (pss_one (ps_ret pe_bl)) pss_nil)
      (pss_cons (ps_if (PW.pt (pw_or (pt_cmpR op_ne (pe_fldK (K := K) (pv 0)) (pe_call (ok__law_zone T) (hr.mono (by decide)) (by rfl) T.g__law_zone T.F__law_zone.kp T.b__law_zone .nil pass0 (pa_cons (pv 1) pa_nil)) (nomark _)) (pw_or1 (pt_not (pt_val (pe_call (ok__law_whole T) (hr.mono (by decide)) (by rfl) T.g__law_whole T.F__law_whole.kp T.b__law_whole .nil pass0 (pa_cons (pe_meth0 (pv 0) T.c_Offset T.mt_Offset_fewest_rows (ok_Offset_fewest_rows T) (hr.mono (by decide)) T.b_Offset_fewest_rows .nil pass0) pa_nil))))))) (pss_one (ps_ret pe_bl)) pss_nil)
      (pss_cons (ps_if (PW.pt (pw_or (pt_cmpR (op_eqO T.mt_Offset___eq__.at_ T.mt_Offset___eq__.fn (ok_Offset___eq__ T) (hr.mono (by decide)) T.b_Offset___eq__ pass0) (pv 0) (pe_lst pa_nil) (nomark _)) (pw_or (pt_cmpR (op_eqO T.mt_Offset___eq__.at_ T.mt_Offset___eq__.fn (ok_Offset___eq__ T) (hr.mono (by decide)) T.b_Offset___eq__ pass0) (pv 0) (pv 1) (nomark _)) (pw_or1 (pt_cmpR (op_eqO T.mt_Offset___eq__.at_ T.mt_Offset___eq__.fn (ok_Offset___eq__ T) (hr.mono (by decide)) T.b_Offset___eq__ pass0) (pv 0) (pe_ix (r := rIxT K) ix_tup (pv 1) pe_int (fun _ _ => rfl)) (nomark _)))))) (pss_one (ps_ret pe_bl)) pss_nil)
      (pss_one (ps_ret (pe_cmpR op_eq (pe_meth0 (pv 0) T.c_Offset T.mt_Offset_fewest_rows (ok_Offset_fewest_rows T) (hr.mono (by decide)) T.b_Offset_fewest_rows .nil pass0) (pe_op op_add pe_int (pe_callB c_abs (by rfl) T.z_abs (by decide +kernel) (pa_cons (pe_ix (r := rIxT K) ix_tup (pv 1) pe_int (fun _ _ => rfl)) pa_nil))) (nomark _))))))), ?_⟩
  try simp only [nox_K, cx_K]
  wtm_at "rd"
  refine r_rows T o ?_
  wtm_at "rd"
  refine r_groups T o ?_
  wtm_at "rd"
  refine r_distance T o ?_
  wtm_at "rd"
  refine r_new rfl fun u nu => ?_
  wtm_at "rd"
  refine r_reprT (SqT.of upd_same) (hb.ok hn) (Nat.le_of_ble_eq_true rfl) ?_
  wtm_at "rd"
  refine r_reprT (SqT.of ((same_new nu) _ _ ht)) (hb.ok hn) (Nat.le_of_ble_eq_true rfl) ?_
  have s1 := same_new (H := H) (o := .tup [V.int x, .int y, .int z]) nu
  wtm_at "rdi"
  · rename_i z
    exact absurd rfl z
  refine r_zone T (o.same s1) ?_
  wtm_at "rd"
  refine ⟨t, x, y, z, rfl, s1 _ _ ht, fun H2 s2 => ?_⟩
  rw [z_yes hp]
  have s2 := s1.trans s2
  wtm_at "rdi"
  · rename_i z
    exact absurd rfl z
  refine off_who (o.same s2) (by decide +kernel) (by decide +kernel) (by decide +kernel) (by decide +kernel) ?_
  wtm_at "rd"
  refine ⟨p, x, y, z, rfl, o.same s2, ?_⟩
  wtm_at "rd"
  refine ⟨_, rfl, ?_⟩
  wtm_at "rdi"
  refine r_new rfl fun l3 n3 => ?_
  have s3 := s2.trans (same_new (o := .lst []) n3)
  wtm_at "rd"
  refine eq_no T (o.same s3) (.base (.lst upd_same)) T.nt_Offset_list T.ki_Offset_list ?_
  wtm_at "rdi"
  refine eq_no T (o.same s3) (.base (.tup (s3 _ _ ht))) T.nt_Offset_tuple T.ki_Offset_tuple ?_
  wtm_at "rdi"
  refine r_ixT (SqT.of (s3 _ _ ht)) (v := .int x) rfl ?_
  wtm_at "rd"
  refine eq_no T (o.same s3) (.base (.int x)) T.nt_Offset_int T.ki_Offset_int ?_
  wtm_at "rdi"
  refine off_who (o.same s3) (by decide +kernel) (by decide +kernel) (by decide +kernel) (by decide +kernel) ?_
  wtm_at "rd"
  refine ⟨p, x, y, z, rfl, o.same s3, ?_⟩
  wtm_at "rd"
  refine r_ixT (SqT.of (s3 _ _ ht)) (v := .int x) rfl ?_
  wtm_at "rd"
  rw [decide_eq_true rfl]
  exact q _ s3
theorem ok_law (T : Txt K mg) : FnG P w K mg base CX0 7 T.f_law T.d_law ["_law_script"] (spLaw K) := by
  refine okG T.F_law sc_law (fun vs H Q E h => ?_) (fun cdv A outer s H vs Q E hG hr h => ?_)
  · obtain ⟨a, ns, rfl, _⟩ := h
    rfl
  obtain ⟨a, ns, rfl, hS, hlen, q⟩ := h
  refine ⟨_, (pss_cons (ps_set (i := 1) sc_law.nd rfl (by first | exact Or.inl rfl | exact Or.inr rfl) (pe_call (ok__law_begin T) (hr.mono (by decide)) (by rfl) T.g__law_begin T.F__law_begin.kp T.b__law_begin .nil pass0 (pa_cons (pv 0) pa_nil)))
      (pss_cons (ps_set (i := 2) sc_law.nd rfl (by first | exact Or.inl rfl | exact Or.inr rfl) (pe_lst pa_nil))
      (pss_cons (ps_for PassesOwn.never rfl (pi_range1 (by rfl) T.z_range (pa_cons pe_int pa_nil)) (pg_name (i := 3) sc_law.nd rfl (by first | exact Or.inl rfl | exact Or.inr rfl)) (pss_cons (ps_set (i := 4) sc_law.nd rfl (by first | exact Or.inl rfl | exact Or.inr rfl) (pe_call (ok__law_triple T) (hr.mono (by decide)) (by rfl) T.g__law_triple T.F__law_triple.kp T.b__law_triple .nil pass0 (pa_cons (pv 1) (pa_cons (pv 2) pa_nil))))
      (pss_cons (ps_set (i := 5) sc_law.nd rfl (by first | exact Or.inl rfl | exact Or.inr rfl) (pe_callG hG (ok__law_made T) (hr.mono (by decide)) (by rfl) T.g__law_made T.F__law_made.kp T.b__law_made .nil pass0 (pa_cons (pv 4) (pa_cons (pe_cmpR op_eq (pe_op op_mod (pv 3) pe_int) pe_int (nomark _)) pa_nil))))
      (C8.pss_cut (ps_if (pt_cmpR op_eq (pe_call (ok__law_zone T) (hr.mono (by decide)) (by rfl) T.g__law_zone T.F__law_zone.kp T.b__law_zone .nil pass0 (pa_cons (pv 4) pa_nil)) pe_str (nomark _)) (pss_one (ps_if (pt_cmpR (op_neD hr.units) (pv 5) (pe_tup (pa_cons pe_str (pa_cons pe_bl (pa_cons (pe_callB (r := rRepr K) (id := "repr") (call_repr hG hr.units) (by rfl) T.z_repr (by decide +kernel) (pa_cons (pv 4) pa_nil)) pa_nil)))) (nomark _)) (pss_one (ps_ret pe_bl)) pss_nil)) (pss_one (ps_if (pt_cmpR op_ne (pe_ix (r := rIxT K) ix_tup (pv 5) pe_int (fun _ _ => rfl)) pe_str (nomark _)) (pss_one (ps_ret pe_bl)) (pss_one (ps_expr (pe_bm PySem.F.plainAttrs_list PySem.F.slot_list_append PySem.F.type_list_append mt_append (pv 2) (pa_cons (pe_tup (pa_cons (pe_ix (r := rIxT K) ix_tup (pv 5) pe_int (fun _ _ => rfl)) (pa_cons (pv 4) pa_nil))) pa_nil)))))))
      (pss_one (ps_for PassesOwn.never rfl (pi_list (pv 2)) (pg_tup (by rfl) (pgs_cons (pg_name (i := 6) sc_law.nd rfl (by first | exact Or.inl rfl | exact Or.inr rfl)) (pgs_cons (pg_name (i := 7) sc_law.nd rfl (by first | exact Or.inl rfl | exact Or.inr rfl)) pgs_nil))) (pss_cons (ps_if (pt_not (pt_val (pe_callG hG (ok__law_right T) (hr.mono (by decide)) (by rfl) T.g__law_right T.F__law_right.kp T.b__law_right .nil pass0 (pa_cons (pv 6) (pa_cons (pv 7) pa_nil))))) (pss_one (ps_ret pe_bl)) pss_nil)
      (pss_one (ps_if (pt_cmpR (op_neD hr.units) (pe_lc (own := [("_law_other", 8), ("_law_two", 9)]) (g := gTup K 2 (gCons (gName 8) (gCons (gName 9) gNil))) (tt := tYes) rfl sc_law.nd (pi_list (pv 2)) (blkOk_by (N := ["_law_script", "_law_draws", "_law_kept", "_law_turn", "_law_triple_here", "_law_made_here", "_law_offset", "_law_one", "_law_other", "_law_two"]) (sc := defScope s_law) (by decide +kernel)) (fun _ _ _ _ _ => pg_tup (by rfl) (pgs_cons (pg_name (i := 8) sc_law.nd rfl (by first | exact Or.inl rfl | exact Or.inr rfl)) (pgs_cons (pg_name (i := 9) sc_law.nd rfl (by first | exact Or.inl rfl | exact Or.inr rfl)) pgs_nil))) (fun _ _ _ _ _ => pts_nil) (fun _ _ _ _ _ => (pe_cmpR (r := rCmpO K T.C_Offset (spOEq2 K T.C_Offset) E0) (op_eqO T.mt_Offset___eq__.at_ T.mt_Offset___eq__.fn (ok_Offset___eq__ T) (hr.mono (by decide)) T.b_Offset___eq__ pass0) (pv 6) (pv 8) (nomark _)))) (pe_lc (own := [("_law_other", 8), ("_law_two", 9)]) (g := gTup K 2 (gCons (gName 8) (gCons (gName 9) gNil))) (tt := tYes) rfl sc_law.nd (pi_list (pv 2)) (blkOk_by (N := ["_law_script", "_law_draws", "_law_kept", "_law_turn", "_law_triple_here", "_law_made_here", "_law_offset", "_law_one", "_law_other", "_law_two"]) (sc := defScope s_law) (by decide +kernel)) (fun _ _ _ _ _ => pg_tup (by rfl) (pgs_cons (pg_name (i := 8) sc_law.nd rfl (by first | exact Or.inl rfl | exact Or.inr rfl)) (pgs_cons (pg_name (i := 9) sc_law.nd rfl (by first | exact Or.inl rfl | exact Or.inr rfl)) pgs_nil))) (fun _ _ _ _ _ => pts_nil) (fun _ _ _ _ _ => (pe_cmpR (r := rEqD K) (op_eqD hr.units) (pv 7) (pv 9) (nomark _)))) (nomark _)) (pss_one (ps_ret pe_bl)) pss_nil)))))))))
      (pss_one (ps_ret pe_bl))))), ?_⟩
  try simp only [nox_K, cx_K]
  wtm_at "rd"
  refine ⟨a, ns, rfl, hS, hlen, fun d c r H1 D1 s1 nd nc nr => ?_⟩
  wtm_at "rd"
  refine r_new rfl fun kp nk => ?_
  have kd := D1.ned nk
  have kr := D1.ner nk
  have kc := D1.nec nk
  wtm_at "rd"
  refine r_for (r_rng1 ?_)
  wtm_at "rd"
  refine r_upto (by decide) (by decide) ?_
  refine for_range (fun i σ H' => ∃ (xs : List V) (y3 y4 y5 y6 y7 y8 y9 : Option V), σ = [some (.ref a), some (.ref d), some (.ref kp), y3, y4, y5, y6, y7, y8, y9] ∧ H' kp = some (.lst xs) ∧ xs.length ≤ i ∧ (∀ v ∈ xs, KeptV T.C_Offset i H' v) ∧ Drw H' d c r) ?_ ?_ ?_
  · exact ⟨[], _, _, _, _, _, _, _, rfl, upd_same, Nat.le_refl _, fun v hv => (nomatch hv), D1.new nk⟩
  · rintro i σ H2 hi ⟨xs, y3, y4, y5, y6, y7, y8, y9, rfl, hk, hl, hall, D2⟩
    have hi10 : i < 10 := hi
    wtm_at "rd"
    refine ⟨d, c, r, kp, i, xs, rfl, D2, hk, kd, kr, by omega, hall, fun t x y z H3 hb ht D3 E3 => ?_⟩
    have hk3 := E3 _ _ hk kd kr
    have hall3 : ∀ v ∈ xs, KeptV T.C_Offset (i + 1) H3 v := fun v hv => ((hall v hv).ext E3 D2).up (Nat.le_succ i)
    wtm_at "rd"
    refine r_mod (by decide) fun m m0 m1 _ => ?_
    wtm_at "rd"
    have fin : ∀ (ys : List V) (y3 y4 y5 y6 y7 y8 y9 : Option V) (H5 : Hp), H5 kp = some (.lst ys) → ys.length ≤ i + 1 → (∀ v ∈ ys, KeptV T.C_Offset (i + 1) H5 v) → Drw H5 d c r → True := fun _ _ _ _ _ _ _ _ _ _ _ _ _ => trivial
    refine ⟨t, x, y, z, _, i + 1, rfl, ht, hb, by omega, fun hp u H4 hu s4 => ?_, fun hp u p H4 hu ho s4 => ?_⟩
    all_goals have hk4 := s4 _ _ hk3
    all_goals have hall4 : ∀ v ∈ xs, KeptV T.C_Offset (i + 1) H4 v := fun v hv => (hall3 v hv).same s4
    all_goals have D4 := D3.same s4
    all_goals have ht4 := s4 _ _ ht
    all_goals wtm_at "rd"
    all_goals refine ⟨fun σ H' => ∃ (ys : List V) (y3 y4 y5 y6 y7 y8 y9 : Option V), σ = [some (.ref a), some (.ref d), some (.ref kp), y3, y4, y5, y6, y7, y8, y9] ∧ H' kp = some (.lst ys) ∧ ys.length ≤ i + 1 ∧ (∀ v ∈ ys, KeptV T.C_Offset (i + 1) H' v) ∧ Drw H' d c r, ?_, ?_⟩
    · wtm_at "rd"
      refine ⟨t, x, y, z, rfl, ht4, fun H5 s5 => ?_⟩
      rw [z_no hp]
      wtm_at "rd"
      rw [decide_eq_true rfl]
      wtm_at "rdi"
      refine r_reprT (SqT.of (s5 _ _ ht4)) (hb.ok (by omega)) (Nat.le_of_ble_eq_true rfl) ?_
      wtm_at "rd"
      refine r_new rfl fun w nw => ?_
      refine r_neTT (SqT.of ((same_new nw) _ _ (s5 _ _ hu))) (SqT.of upd_same) (bad_eq x y z) (bad_eq x y z) (kind_self _) ?_
      rw [show (tupD [V.int x, V.int y, V.int z]).shown = btxt x y z from rfl, decide_eq_true rfl]
      wtm_at "rdi"
      have s6 := s5.trans (same_new (o := .tup [.str "bad", .bl true, .str (btxt x y z)]) nw)
      exact ⟨xs, _, _, _, _, _, _, _, rfl, s6 _ _ hk4, by omega, fun v hv => (hall4 v hv).same s6, D4.same s6⟩
    rotate_left
    · wtm_at "rd"
      refine ⟨t, x, y, z, rfl, ht4, fun H5 s5 => ?_⟩
      rw [z_yes hp]
      wtm_at "rd"
      rw [decide_eq_false (zone_ne x y)]
      wtm_at "rdi"
      refine r_ixT (SqT.of (s5 _ _ hu)) rfl ?_
      wtm_at "rd"
      rw [decide_eq_true rfl]
      wtm_at "rdi"
      refine r_tyL (SqL.of (s5 _ _ hk4)) ?_
      wtm_at "rd"
      refine r_ixT (SqT.of (s5 _ _ hu)) rfl ?_
      wtm_at "rd"
      refine r_new rfl fun t6 n6 => ?_
      wtm_at "rd"
      refine r_app ((same_new n6) _ _ (s5 _ _ hk4)) (small1000 (by omega)) ?_
      wtm_at "rd"
      refine ⟨xs ++ [.ref t6], _, _, _, _, _, _, _, rfl, upd_same, by rw [List.length_append]; show xs.length + 1 ≤ i + 1; omega, fun v hv => ?_, ((D4.same s5).new n6).put kd kr kc⟩
      refine KeptV.put ?_ ((same_new n6) _ _ (s5 _ _ hk4))
      rcases List.mem_append.mp hv with e | e
      · exact ((hall4 v e).same s5).same (same_new n6)
      rw [List.mem_singleton.mp e]
      exact ⟨t6, p, t, x, y, z, rfl, upd_same, (ho.same s5).same (same_new n6), (same_new n6) _ _ (s5 _ _ ht4), hp, hb⟩
    all_goals rintro σ H5 ⟨ys, y3, y4, y5, y6, y7, y8, y9, rfl, hk5, hl5, hall5, D5⟩
    all_goals refine r_for (r_il ?_)
    all_goals wtm_at "rd"
    all_goals refine r_itl (SqL.of hk5) ?_
    all_goals refine for_list (K := K) (a := kp) (xs := ys) (fun j σ H' => ∃ (y3 y4 y5 y6 y7 y8 y9 : Option V), σ = [some (.ref a), some (.ref d), some (.ref kp), y3, y4, y5, y6, y7, y8, y9] ∧ Same H5 H') ⟨_, _, _, _, _, _, _, rfl, Same.refl _⟩ (fun j σ H' _ ⟨_, _, _, _, _, _, _, _, s6⟩ => SqL.of (s6 _ _ hk5)) ?_ ?_
    rotate_left
    · rintro σ H6 ⟨y3, y4, y5, y6, y7, y8, y9, rfl, s6⟩
      exact ⟨ys, _, _, _, _, _, _, _, rfl, s6 _ _ hk5, hl5, fun v hv => (hall5 v hv).same s6, D5.same s6⟩
    rotate_left
    · rintro σ H6 ⟨y3, y4, y5, y6, y7, y8, y9, rfl, s6⟩
      exact ⟨ys, _, _, _, _, _, _, _, rfl, s6 _ _ hk5, hl5, fun v hv => (hall5 v hv).same s6, D5.same s6⟩
    all_goals rintro j v σ H6 hv ⟨y3, y4, y5, y6, y7, y8, y9, rfl, s6⟩
    all_goals obtain ⟨qq, p1, t1, x1, y1, z1, rfl, h1, h2, h3, h4, h5⟩ := (hall5 v (List.mem_of_getElem? hv)).same s6
    all_goals refine r_gtup (SqT.of h1) rfl ?_
    all_goals wtm_at "rd"
    all_goals refine ⟨p1, t1, x1, y1, z1, i + 1, rfl, h2, h3, h4, h5, by omega, fun H7 s7 => ?_⟩
    all_goals wtm_at "rdi"
    all_goals have s8 := s6.trans s7
    all_goals refine r_itl (SqL.of (s8 _ _ hk5)) ?_
    all_goals have hl5' : ys.length ≤ 1000 := by omega
    all_goals refine lc_mapG (fun v => .bl (isT H7 x1 y1 z1 v)) (SqL.of (s8 _ _ hk5)) hl5' (fun v H' QQ hv s' hq => ?_) fun l1 nl1 => ?_
    rotate_left
    rotate_left
    rotate_left
    all_goals first
      | (obtain ⟨q2, p2, t2, x2, y2, z2, rfl, g1, g2, g3, g4, g5⟩ := (hall5 v hv).same s8
         refine r_gtup (SqT.of (s' _ _ g1)) rfl ?_
         wtm_at "rd"
         refine ⟨rfl, ?_⟩
         wtm_at "rd"
         refine eq_off T ((h2.same s7).same s') (g2.same s') ?_
         rw [and3, ← isT_eq g1 g3]
         exact hq)
      | skip
    all_goals have s9 := s8.trans (same_new (o := .lst (ys.map fun v => .bl (isT H7 x1 y1 z1 v))) nl1)
    all_goals wtm_at "rd"
    all_goals refine r_itl (SqL.of (s9 _ _ hk5)) ?_
    all_goals refine lc_mapG (fun v => .bl (isT H7 x1 y1 z1 v)) (SqL.of (s9 _ _ hk5)) hl5' (fun v H' QQ hv s' hq => ?_) fun l2 nl2 => ?_
    rotate_left
    rotate_left
    rotate_left
    all_goals first
      | (obtain ⟨q2, p2, t2, x2, y2, z2, rfl, g1, g2, g3, g4, g5⟩ := (hall5 v hv).same s8
         refine r_gtup (SqT.of (s' _ _ ((same_new nl1) _ _ g1))) rfl ?_
         wtm_at "rd"
         refine ⟨rfl, ?_⟩
         wtm_at "rd"
         refine r_eqTT (SqT.of (s' _ _ ((same_new nl1) _ _ (s7 _ _ h3)))) (SqT.of (s' _ _ ((same_new nl1) _ _ g3))) (int3_eq _ _ _) (int3_eq _ _ _) (int3_kind _ _ _ _ _ _) ?_
         rw [tup3, ← isT_eq g1 g3]
         exact hq)
      | skip
    all_goals wtm_at "rd"
    all_goals refine r_neLL (SqL.of ((same_new nl2) _ _ upd_same)) (SqL.of upd_same) (bl_all (isT H7 x1 y1 z1) ys) (bl_all (isT H7 x1 y1 z1) ys) (kind_self _) ?_
    all_goals rw [decide_eq_true rfl]
    all_goals wtm_at "rdi"
    all_goals exact ⟨_, _, _, _, _, _, _, rfl, s9.trans (same_new nl2)⟩
  · rintro σ H2 ⟨xs, y3, y4, y5, y6, y7, y8, y9, rfl, hk, hl, hall, D2⟩
    wtm_at "rd"
    exact q _
end
theorem all_mk {l : PySem.W.OpenLaw} {w : World} {K : PySem.W.Frag} {h : Heap} {mg : Str → Option Value} {fa : Addr} (X : K.In h) (G : h.Ns mainGlobals mg) (hfa : mg "law" = some (.ref fa))
    {C_WindowError : Addr}
    {C_BadOffset : Addr}
    {nm_BadOffset q_BadOffset : Str} {N_BadOffset : Addr} {bs_BadOffset bm_BadOffset : List Value} {sn_BadOffset : List Str} {sub_BadOffset : List Value} {ab_BadOffset : Bool} {col_BadOffset : Option Bool} {dd_BadOffset : Option Addr} {m0_BadOffset m1_BadOffset m2_BadOffset m3_BadOffset m5_BadOffset : Option Value}
    {C_Offset : Addr}
    {od0 an0 : Option Addr} {sl0 : Array (Option Value)} {oc0 kV0 dc0 pm0 cd0 ct0 : Value} {f0 : Addr}
    {od1 an1 : Option Addr} {sl1 : Array (Option Value)} {oc1 kV1 dc1 pm1 cd1 ct1 : Value} {f1 : Addr}
    {od2 an2 : Option Addr} {sl2 : Array (Option Value)} {oc2 kV2 dc2 pm2 cd2 ct2 : Value} {f2 : Addr}
    {od3 an3 : Option Addr} {sl3 : Array (Option Value)} {oc3 kV3 dc3 pm3 cd3 ct3 : Value} {f3 : Addr}
    {od4 an4 : Option Addr} {sl4 : Array (Option Value)} {oc4 kV4 dc4 pm4 cd4 ct4 : Value} {f4 : Addr}
    {od5 an5 : Option Addr} {sl5 : Array (Option Value)} {oc5 kV5 dc5 pm5 cd5 ct5 : Value} {f5 : Addr}
    {od6 an6 : Option Addr} {sl6 : Array (Option Value)} {oc6 kV6 dc6 pm6 cd6 ct6 : Value} {f6 : Addr}
    {od7 an7 : Option Addr} {sl7 : Array (Option Value)} {oc7 kV7 dc7 pm7 cd7 ct7 : Value} {f7 : Addr}
    {od8 an8 : Option Addr} {sl8 : Array (Option Value)} {oc8 kV8 dc8 pm8 cd8 ct8 : Value} {f8 : Addr}
    {od9 an9 : Option Addr} {sl9 : Array (Option Value)} {oc9 kV9 dc9 pm9 cd9 ct9 : Value} {f9 : Addr}
    {od10 an10 : Option Addr} {sl10 : Array (Option Value)} {oc10 kV10 dc10 pm10 cd10 ct10 : Value} {f10 : Addr}
    {od11 an11 : Option Addr} {sl11 : Array (Option Value)} {oc11 kV11 dc11 pm11 cd11 ct11 : Value} {f11 : Addr}
    {od12 an12 : Option Addr} {sl12 : Array (Option Value)} {oc12 kV12 dc12 pm12 cd12 ct12 : Value} {f12 : Addr}
    {od13 an13 : Option Addr} {sl13 : Array (Option Value)} {oc13 kV13 dc13 pm13 cd13 ct13 : Value} {f13 : Addr}
    {od14 an14 : Option Addr} {sl14 : Array (Option Value)} {oc14 kV14 dc14 pm14 cd14 ct14 : Value} {f14 : Addr}
    {od15 an15 : Option Addr} {sl15 : Array (Option Value)} {oc15 kV15 dc15 pm15 cd15 ct15 : Value} {f15 : Addr}
    {od16 an16 : Option Addr} {sl16 : Array (Option Value)} {oc16 kV16 dc16 pm16 cd16 ct16 : Value} {f16 : Addr}
    {od17 an17 : Option Addr} {sl17 : Array (Option Value)} {oc17 kV17 dc17 pm17 cd17 ct17 : Value} {f17 : Addr}
    (aC_WindowError : PySem.W.nsIn K mainGlobals "WindowError" = some (some (.ref C_WindowError)))
    (aC_BadOffset : PySem.W.nsIn K mainGlobals "BadOffset" = some (some (.ref C_BadOffset)))
    (aC_Offset : PySem.W.nsIn K mainGlobals "Offset" = some (some (.ref C_Offset)))
    (a0 : PySem.W.findIn K (.ref C_BadOffset) "__init__" = some (some (.ref f0)))
    (i0 : PySem.W.isFn K (.ref f0) = true)
    (l0 : K.lookup f0 = some ⟨oc0, od0, .func (PySem.W.fnOf "__init__" "BadOffset.__init__" (defArgs s_BadOffset___init__) (defBody s_BadOffset___init__) (defScope s_BadOffset___init__) .none kV0 dc0 pm0 an0 cd0 ct0), sl0⟩)
    (c0 : PySem.W.codeIn K cd0 "BadOffset.__init__" = true)
    (k0 : PySem.W.keepIn K (.ref f0) = true)
    (a1 : PySem.W.nsIn K mainGlobals "possible" = some (some (.ref f1)))
    (l1 : K.lookup f1 = some ⟨oc1, od1, .func (PySem.W.fnOf "possible" "possible" (defArgs s_possible) (defBody s_possible) (defScope s_possible) .none kV1 dc1 pm1 an1 cd1 ct1), sl1⟩)
    (c1 : PySem.W.codeIn K cd1 "possible" = true)
    (k1 : PySem.W.keepIn K (.ref f1) = true)
    (a2 : PySem.W.nsIn K mainGlobals "zone_of" = some (some (.ref f2)))
    (l2 : K.lookup f2 = some ⟨oc2, od2, .func (PySem.W.fnOf "zone_of" "zone_of" (defArgs s_zone_of) (defBody s_zone_of) (defScope s_zone_of) .none kV2 dc2 pm2 an2 cd2 ct2), sl2⟩)
    (c2 : PySem.W.codeIn K cd2 "zone_of" = true)
    (k2 : PySem.W.keepIn K (.ref f2) = true)
    (a3 : PySem.W.findIn K (.ref C_Offset) "__init__" = some (some (.ref f3)))
    (i3 : PySem.W.isFn K (.ref f3) = true)
    (l3 : K.lookup f3 = some ⟨oc3, od3, .func (PySem.W.fnOf "__init__" "Offset.__init__" (defArgs s_Offset___init__) (defBody s_Offset___init__) (defScope s_Offset___init__) .none kV3 dc3 pm3 an3 cd3 ct3), sl3⟩)
    (c3 : PySem.W.codeIn K cd3 "Offset.__init__" = true)
    (k3 : PySem.W.keepIn K (.ref f3) = true)
    (a4 : PySem.W.findIn K (.ref C_Offset) "fewest_rows" = some (some (.ref f4)))
    (i4 : PySem.W.isFn K (.ref f4) = true)
    (l4 : K.lookup f4 = some ⟨oc4, od4, .func (PySem.W.fnOf "fewest_rows" "Offset.fewest_rows" (defArgs s_Offset_fewest_rows) (defBody s_Offset_fewest_rows) (defScope s_Offset_fewest_rows) .none kV4 dc4 pm4 an4 cd4 ct4), sl4⟩)
    (c4 : PySem.W.codeIn K cd4 "Offset.fewest_rows" = true)
    (k4 : PySem.W.keepIn K (.ref f4) = true)
    (a5 : PySem.W.findIn K (.ref C_Offset) "__neg__" = some (some (.ref f5)))
    (i5 : PySem.W.isFn K (.ref f5) = true)
    (l5 : K.lookup f5 = some ⟨oc5, od5, .func (PySem.W.fnOf "__neg__" "Offset.__neg__" (defArgs s_Offset___neg__) (defBody s_Offset___neg__) (defScope s_Offset___neg__) .none kV5 dc5 pm5 an5 cd5 ct5), sl5⟩)
    (c5 : PySem.W.codeIn K cd5 "Offset.__neg__" = true)
    (k5 : PySem.W.keepIn K (.ref f5) = true)
    (a6 : PySem.W.findIn K (.ref C_Offset) "__add__" = some (some (.ref f6)))
    (i6 : PySem.W.isFn K (.ref f6) = true)
    (l6 : K.lookup f6 = some ⟨oc6, od6, .func (PySem.W.fnOf "__add__" "Offset.__add__" (defArgs s_Offset___add__) (defBody s_Offset___add__) (defScope s_Offset___add__) .none kV6 dc6 pm6 an6 cd6 ct6), sl6⟩)
    (c6 : PySem.W.codeIn K cd6 "Offset.__add__" = true)
    (k6 : PySem.W.keepIn K (.ref f6) = true)
    (a7 : PySem.W.findIn K (.ref C_Offset) "__eq__" = some (some (.ref f7)))
    (i7 : PySem.W.isFn K (.ref f7) = true)
    (l7 : K.lookup f7 = some ⟨oc7, od7, .func (PySem.W.fnOf "__eq__" "Offset.__eq__" (defArgs s_Offset___eq__) (defBody s_Offset___eq__) (defScope s_Offset___eq__) .none kV7 dc7 pm7 an7 cd7 ct7), sl7⟩)
    (c7 : PySem.W.codeIn K cd7 "Offset.__eq__" = true)
    (k7 : PySem.W.keepIn K (.ref f7) = true)
    (a8 : PySem.W.nsIn K mainGlobals "_law_begin" = some (some (.ref f8)))
    (l8 : K.lookup f8 = some ⟨oc8, od8, .func (PySem.W.fnOf "_law_begin" "_law_begin" (defArgs s__law_begin) (defBody s__law_begin) (defScope s__law_begin) .none kV8 dc8 pm8 an8 cd8 ct8), sl8⟩)
    (c8 : PySem.W.codeIn K cd8 "_law_begin" = true)
    (k8 : PySem.W.keepIn K (.ref f8) = true)
    (a9 : PySem.W.nsIn K mainGlobals "_law_draw" = some (some (.ref f9)))
    (l9 : K.lookup f9 = some ⟨oc9, od9, .func (PySem.W.fnOf "_law_draw" "_law_draw" (defArgs s__law_draw) (defBody s__law_draw) (defScope s__law_draw) .none kV9 dc9 pm9 an9 cd9 ct9), sl9⟩)
    (c9 : PySem.W.codeIn K cd9 "_law_draw" = true)
    (k9 : PySem.W.keepIn K (.ref f9) = true)
    (a10 : PySem.W.nsIn K mainGlobals "_law_whole" = some (some (.ref f10)))
    (l10 : K.lookup f10 = some ⟨oc10, od10, .func (PySem.W.fnOf "_law_whole" "_law_whole" (defArgs s__law_whole) (defBody s__law_whole) (defScope s__law_whole) .none kV10 dc10 pm10 an10 cd10 ct10), sl10⟩)
    (c10 : PySem.W.codeIn K cd10 "_law_whole" = true)
    (k10 : PySem.W.keepIn K (.ref f10) = true)
    (a11 : PySem.W.nsIn K mainGlobals "_law_good" = some (some (.ref f11)))
    (l11 : K.lookup f11 = some ⟨oc11, od11, .func (PySem.W.fnOf "_law_good" "_law_good" (defArgs s__law_good) (defBody s__law_good) (defScope s__law_good) .none kV11 dc11 pm11 an11 cd11 ct11), sl11⟩)
    (c11 : PySem.W.codeIn K cd11 "_law_good" = true)
    (k11 : PySem.W.keepIn K (.ref f11) = true)
    (a12 : PySem.W.nsIn K mainGlobals "_law_far" = some (some (.ref f12)))
    (l12 : K.lookup f12 = some ⟨oc12, od12, .func (PySem.W.fnOf "_law_far" "_law_far" (defArgs s__law_far) (defBody s__law_far) (defScope s__law_far) .none kV12 dc12 pm12 an12 cd12 ct12), sl12⟩)
    (c12 : PySem.W.codeIn K cd12 "_law_far" = true)
    (k12 : PySem.W.keepIn K (.ref f12) = true)
    (a13 : PySem.W.nsIn K mainGlobals "_law_triple" = some (some (.ref f13)))
    (l13 : K.lookup f13 = some ⟨oc13, od13, .func (PySem.W.fnOf "_law_triple" "_law_triple" (defArgs s__law_triple) (defBody s__law_triple) (defScope s__law_triple) .none kV13 dc13 pm13 an13 cd13 ct13), sl13⟩)
    (c13 : PySem.W.codeIn K cd13 "_law_triple" = true)
    (k13 : PySem.W.keepIn K (.ref f13) = true)
    (a14 : PySem.W.nsIn K mainGlobals "_law_zone" = some (some (.ref f14)))
    (l14 : K.lookup f14 = some ⟨oc14, od14, .func (PySem.W.fnOf "_law_zone" "_law_zone" (defArgs s__law_zone) (defBody s__law_zone) (defScope s__law_zone) .none kV14 dc14 pm14 an14 cd14 ct14), sl14⟩)
    (c14 : PySem.W.codeIn K cd14 "_law_zone" = true)
    (k14 : PySem.W.keepIn K (.ref f14) = true)
    (a15 : PySem.W.nsIn K mainGlobals "_law_made" = some (some (.ref f15)))
    (l15 : K.lookup f15 = some ⟨oc15, od15, .func (PySem.W.fnOf "_law_made" "_law_made" (defArgs s__law_made) (defBody s__law_made) (defScope s__law_made) .none kV15 dc15 pm15 an15 cd15 ct15), sl15⟩)
    (c15 : PySem.W.codeIn K cd15 "_law_made" = true)
    (k15 : PySem.W.keepIn K (.ref f15) = true)
    (a16 : PySem.W.nsIn K mainGlobals "_law_right" = some (some (.ref f16)))
    (l16 : K.lookup f16 = some ⟨oc16, od16, .func (PySem.W.fnOf "_law_right" "_law_right" (defArgs s__law_right) (defBody s__law_right) (defScope s__law_right) .none kV16 dc16 pm16 an16 cd16 ct16), sl16⟩)
    (c16 : PySem.W.codeIn K cd16 "_law_right" = true)
    (k16 : PySem.W.keepIn K (.ref f16) = true)
    (a17 : PySem.W.nsIn K mainGlobals "law" = some (some (.ref f17)))
    (l17 : K.lookup f17 = some ⟨oc17, od17, .func (PySem.W.fnOf "law" "law" (defArgs s_law) (defBody s_law) (defScope s_law) .none kV17 dc17 pm17 an17 cd17 ct17), sl17⟩)
    (c17 : PySem.W.codeIn K cd17 "law" = true)
    (k17 : PySem.W.keepIn K (.ref f17) = true)
    (z_NotImplemented : PySem.W.nsIn K mainGlobals "NotImplemented" = some none)
    (z_abs : PySem.W.nsIn K mainGlobals "abs" = some none)
    (z_bool : PySem.W.nsIn K mainGlobals "bool" = some none)
    (z_int : PySem.W.nsIn K mainGlobals "int" = some none)
    (z_isinstance : PySem.W.nsIn K mainGlobals "isinstance" = some none)
    (z_len : PySem.W.nsIn K mainGlobals "len" = some none)
    (z_list : PySem.W.nsIn K mainGlobals "list" = some none)
    (z_range : PySem.W.nsIn K mainGlobals "range" = some none)
    (z_repr : PySem.W.nsIn K mainGlobals "repr" = some none)
    (z_tuple : PySem.W.nsIn K mainGlobals "tuple" = some none)
    (ex_WindowError : PySem.W.subIn K (.ref C_WindowError) (.type "BaseException") = some true)
    (ty_WindowError : PySem.W.typeIn K (.ref C_WindowError) = some (.type "type"))
    (hd_WindowError : PySem.W.hasDictIn K C_WindowError = true)
    (ex_BadOffset : PySem.W.subIn K (.ref C_BadOffset) (.type "BaseException") = some true)
    (ty_BadOffset : PySem.W.typeIn K (.ref C_BadOffset) = some (.type "type"))
    (hd_BadOffset : PySem.W.hasDictIn K C_BadOffset = true)
    (xL_BadOffset : K.lookup C_BadOffset = some (excClassObj nm_BadOffset q_BadOffset C_BadOffset N_BadOffset bs_BadOffset bm_BadOffset true sn_BadOffset sub_BadOffset ab_BadOffset col_BadOffset dd_BadOffset m0_BadOffset m1_BadOffset m2_BadOffset m3_BadOffset m5_BadOffset "ValueError.__new__"))
    (bmr_BadOffset : PySem.HandSPX.refsVE bm_BadOffset = true)
    (sa_BadOffset : PySem.W.findIn K (.ref C_BadOffset) "__setattr__" = some (some (.builtin "object.__setattr__")))
    (kc_BadOffset : PySem.W.keepIn K (.ref C_BadOffset) = true)
    (ga_BadOffset : PySem.W.findIn K (.ref C_BadOffset) "__getattribute__" = some (some (.builtin "BaseException.__getattribute__")))
    (gg_BadOffset : PySem.W.findIn K (.ref C_BadOffset) "__getattr__" = some none)
    (tI_BadOffset : PySem.W.typeIn K (.ref f0) = some (.type "function"))
    (nf_BadOffset_rows : PySem.W.findIn K (.ref C_BadOffset) "rows" = some none)
    (nf_BadOffset_groups : PySem.W.findIn K (.ref C_BadOffset) "groups" = some none)
    (nf_BadOffset_distance : PySem.W.findIn K (.ref C_BadOffset) "distance" = some none)
    (su_BadOffset_BadOffset : PySem.W.subIn K (.ref C_BadOffset) (.ref C_BadOffset) = some true)
    (is_BadOffset_BadOffset : PySem.W.isIn K (.ref C_BadOffset) C_BadOffset = true)
    (su_BadOffset_WindowError : PySem.W.subIn K (.ref C_BadOffset) (.ref C_WindowError) = some true)
    (is_BadOffset_WindowError : PySem.W.isIn K (.ref C_BadOffset) C_WindowError = true)
    (pg_Offset : PySem.W.plainGet K C_Offset Str.empty = true)
    (hd_Offset : PySem.W.hasDictIn K C_Offset = true)
    (po_Offset : PySem.W.plainOver K C_Offset = true)
    (sa_Offset : PySem.W.findIn K (.ref C_Offset) "__setattr__" = some (some (.builtin "object.__setattr__")))
    (mk_Offset : PySem.W.makesIn K C_Offset = true)
    (kc_Offset : PySem.W.keepIn K (.ref C_Offset) = true)
    (nf_Offset_rows : PySem.W.findIn K (.ref C_Offset) "rows" = some none)
    (nf_Offset_groups : PySem.W.findIn K (.ref C_Offset) "groups" = some none)
    (nf_Offset_distance : PySem.W.findIn K (.ref C_Offset) "distance" = some none)
    (nf_Offset_zone : PySem.W.findIn K (.ref C_Offset) "zone" = some none)
    (ca_Offset : PySem.W.findIn K (.ref C_Offset) "__class__" = some (some (.builtin "object.__class__")))
    (cn_Offset : PySem.W.specialIn K (.builtin "object.__class__") "__get__" = some (some (.builtin "getset_descriptor.__get__")))
    (ct_Offset : PySem.W.takesIn K (.builtin "object.__class__") = some true)
    (cm_Offset : PySem.W.mroIn K C_Offset (.type "object") = some true)
    (nt_Offset : PySem.W.notFirst K C_Offset (.ref C_Offset) = true)
    (sf_Offset : PySem.W.selfFirst K C_Offset = true)
    (nt_Offset_list : PySem.W.notFirst K C_Offset (.type "list") = true)
    (nt_Offset_tuple : PySem.W.notFirst K C_Offset (.type "tuple") = true)
    (nt_Offset_int : PySem.W.notFirst K C_Offset (.type "int") = true)
    (ki_Offset_list : PySem.W.kitOne K (.type "list") (.ref C_Offset) = some false)
    (ki_Offset_tuple : PySem.W.kitOne K (.type "tuple") (.ref C_Offset) = some false)
    (ki_Offset_int : PySem.W.kitOne K (.type "int") (.ref C_Offset) = some false)
    : ∃ fd : FuncData, (∀ (s : Shared) (v : Value), BindsTo s fd ⟨[v], []⟩ [("_law_script", v)]) ∧ ∀ base : Heap, K.In base → base.Ns mainGlobals mg → FnG l.prog w K mg base CX0 7 fa fd ["_law_script"] (spLaw K) := by
  have e := hfa.symm.trans (PySem.W.mg_of X G a17)
  cases e
  have F0 := fun_mk (st := s_BadOffset___init__) l0 c0 k0
  have b0 := F0.binds (ps := ["self", "rows", "groups", "distance"]) fun _ _ _ _ _ _ us hl => match us, hl with | [_, _, _, _], _ => rfl
  have F1 := fun_mk (st := s_possible) l1 c1 k1
  have b1 := F1.binds (ps := ["rows", "groups", "distance"]) fun _ _ _ _ _ _ us hl => match us, hl with | [_, _, _], _ => rfl
  have F2 := fun_mk (st := s_zone_of) l2 c2 k2
  have b2 := F2.binds (ps := ["rows", "groups"]) fun _ _ _ _ _ _ us hl => match us, hl with | [_, _], _ => rfl
  have F3 := fun_mk (st := s_Offset___init__) l3 c3 k3
  have b3 := F3.binds (ps := ["self", "rows", "groups", "distance"]) fun _ _ _ _ _ _ us hl => match us, hl with | [_, _, _, _], _ => rfl
  have F4 := fun_mk (st := s_Offset_fewest_rows) l4 c4 k4
  have b4 := F4.binds (ps := ["self"]) fun _ _ _ _ _ _ us hl => match us, hl with | [_], _ => rfl
  have F5 := fun_mk (st := s_Offset___neg__) l5 c5 k5
  have b5 := F5.binds (ps := ["self"]) fun _ _ _ _ _ _ us hl => match us, hl with | [_], _ => rfl
  have F6 := fun_mk (st := s_Offset___add__) l6 c6 k6
  have b6 := F6.binds (ps := ["self", "other"]) fun _ _ _ _ _ _ us hl => match us, hl with | [_, _], _ => rfl
  have F7 := fun_mk (st := s_Offset___eq__) l7 c7 k7
  have b7 := F7.binds (ps := ["self", "other"]) fun _ _ _ _ _ _ us hl => match us, hl with | [_, _], _ => rfl
  have F8 := fun_mk (st := s__law_begin) l8 c8 k8
  have b8 := F8.binds (ps := ["_law_script"]) fun _ _ _ _ _ _ us hl => match us, hl with | [_], _ => rfl
  have F9 := fun_mk (st := s__law_draw) l9 c9 k9
  have b9 := F9.binds (ps := ["_law_draws", "_law_many"]) fun _ _ _ _ _ _ us hl => match us, hl with | [_, _], _ => rfl
  have F10 := fun_mk (st := s__law_whole) l10 c10 k10
  have b10 := F10.binds (ps := ["_law_x"]) fun _ _ _ _ _ _ us hl => match us, hl with | [_], _ => rfl
  have F11 := fun_mk (st := s__law_good) l11 c11 k11
  have b11 := F11.binds (ps := ["_law_draws"]) fun _ _ _ _ _ _ us hl => match us, hl with | [_], _ => rfl
  have F12 := fun_mk (st := s__law_far) l12 c12 k12
  have b12 := F12.binds (ps := ["_law_draws", "_law_base"]) fun _ _ _ _ _ _ us hl => match us, hl with | [_, _], _ => rfl
  have F13 := fun_mk (st := s__law_triple) l13 c13 k13
  have b13 := F13.binds (ps := ["_law_draws", "_law_kept"]) fun _ _ _ _ _ _ us hl => match us, hl with | [_, _], _ => rfl
  have F14 := fun_mk (st := s__law_zone) l14 c14 k14
  have b14 := F14.binds (ps := ["_law_triple_here"]) fun _ _ _ _ _ _ us hl => match us, hl with | [_], _ => rfl
  have F15 := fun_mk (st := s__law_made) l15 c15 k15
  have b15 := F15.binds (ps := ["_law_triple_here", "_law_by_name"]) fun _ _ _ _ _ _ us hl => match us, hl with | [_, _], _ => rfl
  have F16 := fun_mk (st := s__law_right) l16 c16 k16
  have b16 := F16.binds (ps := ["_law_offset", "_law_triple_here"]) fun _ _ _ _ _ _ us hl => match us, hl with | [_, _], _ => rfl
  have F17 := fun_mk (st := s_law) l17 c17 k17
  have b17 := F17.binds (ps := ["_law_script"]) fun _ _ _ _ _ _ us hl => match us, hl with | [_], _ => rfl
  let T : Txt K mg := {
    f_BadOffset___init__ := f0,
    d_BadOffset___init__ := _,
    F_BadOffset___init__ := F0,
    b_BadOffset___init__ := b0,
    f_possible := f1,
    d_possible := _,
    F_possible := F1,
    b_possible := b1,
    g_possible := PySem.W.mg_of X G a1,
    f_zone_of := f2,
    d_zone_of := _,
    F_zone_of := F2,
    b_zone_of := b2,
    g_zone_of := PySem.W.mg_of X G a2,
    f_Offset___init__ := f3,
    d_Offset___init__ := _,
    F_Offset___init__ := F3,
    b_Offset___init__ := b3,
    kb_Offset___init__ := kb_mk1 F3 (fun _ _ _ _ _ _ _ ws hl => match ws, hl with | [_, _, _], _ => rfl) permS120_rel,
    f_Offset_fewest_rows := f4,
    d_Offset_fewest_rows := _,
    F_Offset_fewest_rows := F4,
    b_Offset_fewest_rows := b4,
    f_Offset___neg__ := f5,
    d_Offset___neg__ := _,
    F_Offset___neg__ := F5,
    b_Offset___neg__ := b5,
    f_Offset___add__ := f6,
    d_Offset___add__ := _,
    F_Offset___add__ := F6,
    b_Offset___add__ := b6,
    f_Offset___eq__ := f7,
    d_Offset___eq__ := _,
    F_Offset___eq__ := F7,
    b_Offset___eq__ := b7,
    f__law_begin := f8,
    d__law_begin := _,
    F__law_begin := F8,
    b__law_begin := b8,
    g__law_begin := PySem.W.mg_of X G a8,
    f__law_draw := f9,
    d__law_draw := _,
    F__law_draw := F9,
    b__law_draw := b9,
    g__law_draw := PySem.W.mg_of X G a9,
    f__law_whole := f10,
    d__law_whole := _,
    F__law_whole := F10,
    b__law_whole := b10,
    g__law_whole := PySem.W.mg_of X G a10,
    f__law_good := f11,
    d__law_good := _,
    F__law_good := F11,
    b__law_good := b11,
    g__law_good := PySem.W.mg_of X G a11,
    f__law_far := f12,
    d__law_far := _,
    F__law_far := F12,
    b__law_far := b12,
    g__law_far := PySem.W.mg_of X G a12,
    f__law_triple := f13,
    d__law_triple := _,
    F__law_triple := F13,
    b__law_triple := b13,
    g__law_triple := PySem.W.mg_of X G a13,
    f__law_zone := f14,
    d__law_zone := _,
    F__law_zone := F14,
    b__law_zone := b14,
    g__law_zone := PySem.W.mg_of X G a14,
    f__law_made := f15,
    d__law_made := _,
    F__law_made := F15,
    b__law_made := b15,
    g__law_made := PySem.W.mg_of X G a15,
    f__law_right := f16,
    d__law_right := _,
    F__law_right := F16,
    b__law_right := b16,
    g__law_right := PySem.W.mg_of X G a16,
    f_law := fa,
    d_law := _,
    F_law := F17,
    b_law := b17,
    g_law := PySem.W.mg_of X G a17,
    z_NotImplemented := PySem.W.mg_none_of X G z_NotImplemented,
    z_abs := PySem.W.mg_none_of X G z_abs,
    z_bool := PySem.W.mg_none_of X G z_bool,
    z_int := PySem.W.mg_none_of X G z_int,
    z_isinstance := PySem.W.mg_none_of X G z_isinstance,
    z_len := PySem.W.mg_none_of X G z_len,
    z_list := PySem.W.mg_none_of X G z_list,
    z_range := PySem.W.mg_none_of X G z_range,
    z_repr := PySem.W.mg_none_of X G z_repr,
    z_tuple := PySem.W.mg_none_of X G z_tuple,
    C_WindowError := C_WindowError,
    g_WindowError := PySem.W.mg_of X G aC_WindowError,
    C_BadOffset := C_BadOffset,
    g_BadOffset := PySem.W.mg_of X G aC_BadOffset,
    ox_BadOffset := ⟨⟨nm_BadOffset, q_BadOffset, N_BadOffset, bs_BadOffset, bm_BadOffset, sn_BadOffset, sub_BadOffset, ab_BadOffset, col_BadOffset, dd_BadOffset, m0_BadOffset, m1_BadOffset, m2_BadOffset, m3_BadOffset, m5_BadOffset, xL_BadOffset, bmr_BadOffset⟩, sa_BadOffset, ex_BadOffset, ty_BadOffset, kc_BadOffset⟩,
    xf_BadOffset := ⟨ga_BadOffset, gg_BadOffset, ex_BadOffset, hd_BadOffset⟩,
    iC_BadOffset := a0,
    tI_BadOffset := tI_BadOffset,
    nf_BadOffset_rows := nf_BadOffset_rows,
    nf_BadOffset_groups := nf_BadOffset_groups,
    nf_BadOffset_distance := nf_BadOffset_distance,
    em_BadOffset_BadOffset := PySem.W.exm_ref ex_BadOffset hd_BadOffset ty_BadOffset su_BadOffset_BadOffset,
    is_BadOffset_BadOffset := is_BadOffset_BadOffset,
    em_BadOffset_WindowError := PySem.W.exm_ref ex_WindowError hd_WindowError ty_WindowError su_BadOffset_WindowError,
    is_BadOffset_WindowError := is_BadOffset_WindowError,
    C_Offset := C_Offset,
    g_Offset := PySem.W.mg_of X G aC_Offset,
    c_Offset := ⟨pg_Offset, hd_Offset, po_Offset, sa_Offset⟩,
    m_Offset := ⟨mk_Offset, a3, i3, kc_Offset⟩,
    nf_Offset_rows := nf_Offset_rows,
    nf_Offset_groups := nf_Offset_groups,
    nf_Offset_distance := nf_Offset_distance,
    nf_Offset_zone := nf_Offset_zone,
    mt_Offset_fewest_rows := ⟨a4, i4, k4⟩,
    mt_Offset___neg__ := ⟨a5, i5, k5⟩,
    mt_Offset___add__ := ⟨a6, i6, k6⟩,
    mt_Offset___eq__ := ⟨a7, i7, k7⟩,
    ca_Offset := ca_Offset,
    cn_Offset := cn_Offset,
    ct_Offset := ct_Offset,
    cm_Offset := cm_Offset,
    nt_Offset := nt_Offset,
    sf_Offset := sf_Offset,
    nt_Offset_list := nt_Offset_list,
    nt_Offset_tuple := nt_Offset_tuple,
    nt_Offset_int := nt_Offset_int,
    ki_Offset_list := ki_Offset_list,
    ki_Offset_tuple := ki_Offset_tuple,
    ki_Offset_int := ki_Offset_int }
  exact ⟨PySem.W.fnOf "law" "law" (defArgs s_law) (defBody s_law) (defScope s_law) .none kV17 dc17 pm17 an17 cd17 ct17, fun s v => .of_eq rfl, fun base _ _ => ok_law T⟩
end Wr
open PySem PySem.W PyProof.Rows
set_option maxRecDepth 100000 in
set_option maxHeartbeats 0 in
theorem PySem.Challenge.cw_windowrows_k17_offsets_made_and_refused_holds : PySem.Challenge.rw_windowrows_k17_offsets_made_and_refused.Holds := by
  w_on; o_law; k_head; (case hw => w_witness2)
  k_fill
  refine Wr.walk_ofG (l := PySem.Challenge.rw_windowrows_k17_offsets_made_and_refused) (n := 63) (k := 7) (x := "_law_script") (sp := fun w => Wr.spLaw _) rfl (by decide) rfl ⟨rfl, by decide, by decide⟩ (fun w h Y => PySem.W.kIn_of Y) ?F (fun _ _ a ns hl _ hS => ⟨a, ns, rfl, hS, hl, fun _ => rfl⟩)
  case F =>
    intro w mg fa h KX G hmg
    refine' Wr.all_mk KX G hmg ?aC_WindowError ?aC_BadOffset ?aC_Offset ?a0 ?i0 ?l0 ?c0 ?k0 ?a1 ?l1 ?c1 ?k1 ?a2 ?l2 ?c2 ?k2 ?a3 ?i3 ?l3 ?c3 ?k3 ?a4 ?i4 ?l4 ?c4 ?k4 ?a5 ?i5 ?l5 ?c5 ?k5 ?a6 ?i6 ?l6 ?c6 ?k6 ?a7 ?i7 ?l7 ?c7 ?k7 ?a8 ?l8 ?c8 ?k8 ?a9 ?l9 ?c9 ?k9 ?a10 ?l10 ?c10 ?k10 ?a11 ?l11 ?c11 ?k11 ?a12 ?l12 ?c12 ?k12 ?a13 ?l13 ?c13 ?k13 ?a14 ?l14 ?c14 ?k14 ?a15 ?l15 ?c15 ?k15 ?a16 ?l16 ?c16 ?k16 ?a17 ?l17 ?c17 ?k17 ?z_NotImplemented ?z_abs ?z_bool ?z_int ?z_isinstance ?z_len ?z_list ?z_range ?z_repr ?z_tuple ?ex_WindowError ?ty_WindowError ?hd_WindowError ?ex_BadOffset ?ty_BadOffset ?hd_BadOffset ?xL_BadOffset ?bmr_BadOffset ?sa_BadOffset ?kc_BadOffset ?ga_BadOffset ?gg_BadOffset ?tI_BadOffset ?nf_BadOffset_rows ?nf_BadOffset_groups ?nf_BadOffset_distance ?su_BadOffset_BadOffset ?is_BadOffset_BadOffset ?su_BadOffset_WindowError ?is_BadOffset_WindowError ?pg_Offset ?hd_Offset ?po_Offset ?sa_Offset ?mk_Offset ?kc_Offset ?nf_Offset_rows ?nf_Offset_groups ?nf_Offset_distance ?nf_Offset_zone ?ca_Offset ?cn_Offset ?ct_Offset ?cm_Offset ?nt_Offset ?sf_Offset ?nt_Offset_list ?nt_Offset_tuple ?nt_Offset_int ?ki_Offset_list ?ki_Offset_tuple ?ki_Offset_int
    (case aC_WindowError => k_is)
    (case aC_BadOffset => k_is)
    (case aC_Offset => k_is)
    (case a0 => k_is)
    (case i0 => k_is)
    (case l0 => k_is)
    (case c0 => k_is)
    (case k0 => k_is)
    (case a1 => k_is)
    (case l1 => k_is)
    (case c1 => k_is)
    (case k1 => k_is)
    (case a2 => k_is)
    (case l2 => k_is)
    (case c2 => k_is)
    (case k2 => k_is)
    (case a3 => k_is)
    (case i3 => k_is)
    (case l3 => k_is)
    (case c3 => k_is)
    (case k3 => k_is)
    (case a4 => k_is)
    (case i4 => k_is)
    (case l4 => k_is)
    (case c4 => k_is)
    (case k4 => k_is)
    (case a5 => k_is)
    (case i5 => k_is)
    (case l5 => k_is)
    (case c5 => k_is)
    (case k5 => k_is)
    (case a6 => k_is)
    (case i6 => k_is)
    (case l6 => k_is)
    (case c6 => k_is)
    (case k6 => k_is)
    (case a7 => k_is)
    (case i7 => k_is)
    (case l7 => k_is)
    (case c7 => k_is)
    (case k7 => k_is)
    (case a8 => k_is)
    (case l8 => k_is)
    (case c8 => k_is)
    (case k8 => k_is)
    (case a9 => k_is)
    (case l9 => k_is)
    (case c9 => k_is)
    (case k9 => k_is)
    (case a10 => k_is)
    (case l10 => k_is)
    (case c10 => k_is)
    (case k10 => k_is)
    (case a11 => k_is)
    (case l11 => k_is)
    (case c11 => k_is)
    (case k11 => k_is)
    (case a12 => k_is)
    (case l12 => k_is)
    (case c12 => k_is)
    (case k12 => k_is)
    (case a13 => k_is)
    (case l13 => k_is)
    (case c13 => k_is)
    (case k13 => k_is)
    (case a14 => k_is)
    (case l14 => k_is)
    (case c14 => k_is)
    (case k14 => k_is)
    (case a15 => k_is)
    (case l15 => k_is)
    (case c15 => k_is)
    (case k15 => k_is)
    (case a16 => k_is)
    (case l16 => k_is)
    (case c16 => k_is)
    (case k16 => k_is)
    (case a17 => k_is)
    (case l17 => k_is)
    (case c17 => k_is)
    (case k17 => k_is)
    (case z_NotImplemented => k_is)
    (case z_abs => k_is)
    (case z_bool => k_is)
    (case z_int => k_is)
    (case z_isinstance => k_is)
    (case z_len => k_is)
    (case z_list => k_is)
    (case z_range => k_is)
    (case z_repr => k_is)
    (case z_tuple => k_is)
    (case ex_WindowError => k_is)
    (case ty_WindowError => k_is)
    (case hd_WindowError => k_is)
    (case ex_BadOffset => k_is)
    (case ty_BadOffset => k_is)
    (case hd_BadOffset => k_is)
    (case xL_BadOffset => k_is)
    (case bmr_BadOffset => decide +kernel)
    (case sa_BadOffset => k_is)
    (case kc_BadOffset => k_is)
    (case ga_BadOffset => k_is)
    (case gg_BadOffset => k_is)
    (case tI_BadOffset => k_is)
    (case nf_BadOffset_rows => k_is)
    (case nf_BadOffset_groups => k_is)
    (case nf_BadOffset_distance => k_is)
    (case su_BadOffset_BadOffset => first | rfl | k_is)
    (case is_BadOffset_BadOffset => first | k_is | rfl)
    (case su_BadOffset_WindowError => first | rfl | k_is)
    (case is_BadOffset_WindowError => first | k_is | rfl)
    (case pg_Offset => k_is)
    (case hd_Offset => k_is)
    (case po_Offset => k_is)
    (case sa_Offset => k_is)
    (case mk_Offset => k_is)
    (case kc_Offset => k_is)
    (case nf_Offset_rows => k_is)
    (case nf_Offset_groups => k_is)
    (case nf_Offset_distance => k_is)
    (case nf_Offset_zone => k_is)
    (case ca_Offset => k_is)
    (case cn_Offset => k_is)
    (case ct_Offset => k_is)
    (case cm_Offset => k_is)
    (case nt_Offset => k_is)
    (case sf_Offset => k_is)
    (case nt_Offset_list => k_is)
    (case nt_Offset_tuple => k_is)
    (case nt_Offset_int => k_is)
    (case ki_Offset_list => kit_is)
    (case ki_Offset_tuple => kit_is)
    (case ki_Offset_int => kit_is)
