import PyProof.Rows.All
import Wide.All
import OpenK.AllK
import Wide.FinOn
import HandS.ForMost
import HandS.Wide
import HandS.IsInst
import HandS.Defaults
import HandS.Codes
import PyProof.InstNe
import HandS.Style
import PyProof.ReprRoads
import PyProof.ReprLen
import HandS.ForExc
import HandS.ExcInit
import HandS.ExcField
import HandS.ExcIs
import PyProof.NeKinds
import HandS.Text
import HandS.Codes
import HandS.MakeKw
import HandS.MakeKwOnly
import HandS.Walk
import HandS.Star
import HandS.TryMany
import HandS.OwnEq
import HandS.Strs
import PyProof.StrLawsRepr
import PySem.Challenge.RW_windowrows_k41_schemes
set_option Elab.async false
set_option linter.all false
set_option maxRecDepth 100000
set_option maxHeartbeats 2000000
/-! ### == and != of two tuples, both answers -/
namespace TC
open PySem PySem.SeqAt
open AutoSeq1 (wpAny_loadPart')
open MeetsSeq MeetsSeq2 MeetsSeq3 SeqRoads2
section
variable {prog : Program} {w : World} {A : Around} {R : Result → Shared → Prop}
/-- the loop of the comparison: I i as long as all were equal, N when two were not -/
theorem ne_body (l b : Addr) (items items2 : Array Value) (n n2 : Nat) (dd dd2 : Option Addr) (sl sl2 : Array (Option Value)) (I : Nat → Shared → Prop) (N : Shared → Prop)
    (turn : ∀ i (h1 : i < items.size) (h2 : i < items2.size) s, I i s → wpAny (model prog w) A.in1 (eqBool items[i] items2[i]) (fun r s' => (r = true ∧ I (i + 1) s') ∨ (r = false ∧ N s')) (fun e s' => R (.error e) s') s)
    (fin : ∀ s, I (min items.size items2.size) s → R (.ok (.ret (.bool (items.size != items2.size)))) s) (diff : ∀ s, N s → R (.ok (.ret (.bool true))) s) {s : Shared}
    (g1 : s.heap.get? l = some { cls := .type "tuple", dict := dd, data := .seq items n, slots := sl }) (g2 : s.heap.get? b = some { cls := .type "tuple", dict := dd2, data := .seq items2 n2, slots := sl2 }) (h : I 0 s) :
    wpAny (model prog w) A.in1 (Builtin.«tuple.__ne__» ⟨[.ref l, .ref b], []⟩) (GQ.FinOf prog w A R) (fun e s' => R (.error e) s') s := by
  have f2 := AutoSeq1.sub_tuple_tuple
  have hZ : (items.toList.zip items2.toList).length = min items.size items2.size := by simp
  have h0 := h
  obtain ⟨hp, g, d, tk, os⟩ := s
  wp_walk using wpAny_loadPart' g1, wpAny_loadPart' g2, wpAny_forIn_list _ (fun rest b s' => b.1 = none ∧ ∃ i, rest = (items.toList.zip items2.toList).drop i ∧ i ≤ min items.size items2.size ∧ I i s') _
  case turn =>
    rintro ⟨y, x⟩ rest b s' ⟨hb', i, hz, hi, hI⟩
    have hlt : i < (items.toList.zip items2.toList).length := Nat.lt_of_not_le fun z => by rw [List.drop_of_length_le z] at hz; cases hz
    rw [List.drop_eq_getElem_cons hlt] at hz
    have h1 : i < items.size := by omega
    have h2 : i < items2.size := by omega
    have e1 : (y, x) = (items.toList.zip items2.toList)[i] := (List.cons.inj hz).1
    have hy : y = items[i] := by simpa using congrArg Prod.fst e1
    have hx : x = items2[i] := by simpa using congrArg Prod.snd e1
    subst hy hx
    refine wpAny_bind (wpAny_mono (turn i h1 h2 s' hI) (fun r s2 q2 => ?_) fun _ _ x => x)
    rcases q2 with ⟨rfl, q2⟩ | ⟨rfl, q2⟩
    · wp_walk
      exact ⟨rfl, i + 1, (List.cons.inj hz).2, by omega, q2⟩
    · have hR := diff s2 q2
      wp_walk
      exact hR
  case fin =>
    rintro ⟨b1, b2⟩ s' ⟨hb', i, hz, hi, hI⟩
    simp only at hb'
    subst hb'
    have hge : (items.toList.zip items2.toList).length ≤ i := Nat.le_of_not_lt fun z => by rw [List.drop_eq_getElem_cons z] at hz; cases hz
    have hR := fin s' ((show i = min items.size items2.size by omega) ▸ hI)
    wp_walk
    simpa [Builtin.Tuple.tupleCompareSizes] using hR
  case h =>
    exact ⟨rfl, 0, rfl, Nat.zero_le _, h0⟩
end
section
variable {prog : Program} {w : World} {A : Around} {E : Value → Shared → Prop} {s : Shared}
theorem rc_ne {l b : Addr} {items items2 : Array Value} {Q : Value → Shared → Prop} (hu : A.units < cLine) (I : Nat → Shared → Prop) (N : Shared → Prop) (hl : s.heap.IsTuple l items) (hb : s.heap.IsTuple b items2)
    (turn : ∀ i (h1 : i < items.size) (h2 : i < items2.size) s, I i s → wpAny (model prog w) A.in1 (eqBool items[i] items2[i]) (fun r s' => (r = true ∧ I (i + 1) s') ∨ (r = false ∧ N s')) E s)
    (fin : ∀ s, I (min items.size items2.size) s → Q (.bool (items.size != items2.size)) s) (diff : ∀ s, N s → Q (.bool true) s) (h : I 0 s) : wpAny (model prog w) A (richCompare .NotEq (.ref l) (.ref b)) Q E s := by
  rcases id hl with ⟨⟨c1, d1, t1, z1⟩, y1, y2, n1, y3⟩
  rcases id hb with ⟨⟨c2, d2, t2, z2⟩, x1, x2, n2, x3⟩
  cases (show c1 = _ from y2)
  cases (show t1 = _ from y3)
  cases (show c2 = _ from x2)
  cases (show t2 = _ from x3)
  exact wpAny_richCompare_same_room (op := .NotEq) ⟨_, y1, rfl⟩ ⟨_, x1, rfl⟩ F.slot_tuple_ne (GQ.call_here F.slot_tuple_ne ⟨_, y1, rfl⟩ F.entry_tuple_ne (F.args_tuple_ne_2 _ _)
    (ne_body (R := wants (fun v s' => v ≠ .notImplemented ∧ Q v s') E) l b items items2 n1 n2 d1 d2 z1 z2 I N turn (fun s' q => ⟨(fun x => nomatch x), fin s' q⟩) (fun s' q => ⟨(fun x => nomatch x), diff s' q⟩) y1 x1 h)) hu
end
end TC
namespace TC
open PySem PySem.Spec PyProof.Rows L2
/-- two lists, item by item, by a test -/
def eqP (e : Addr → Addr → Bool) : List Addr → List Addr → Bool
  | [], [] => true
  | a :: as, b :: bs => e a b && eqP e as bs
  | _, _ => false
theorem eqP_all {e : Addr → Addr → Bool} : ∀ {as bs : List Addr}, as.length = bs.length → (∀ (i : Nat) (a b : Addr), as[i]? = some a → bs[i]? = some b → e a b = true) → eqP e as bs = true
  | [], [], _, _ => rfl
  | [], _ :: _, h, _ => by cases h
  | _ :: _, [], h, _ => by cases h
  | a :: as, b :: bs, h, hs => by
    show (e a b && eqP e as bs) = true
    rw [hs 0 a b rfl rfl, eqP_all (Nat.succ.inj h) fun i x y h1 h2 => hs (i + 1) x y h1 h2]
    rfl
theorem eqP_len {e : Addr → Addr → Bool} : ∀ {as bs : List Addr}, as.length ≠ bs.length → eqP e as bs = false
  | [], [], h => absurd rfl h
  | [], _ :: _, _ => rfl
  | _ :: _, [], _ => rfl
  | a :: as, b :: bs, h => by
    show (e a b && eqP e as bs) = false
    rw [eqP_len fun z => h (by rw [List.length_cons, List.length_cons, z]), Bool.and_false]
theorem eqP_no {e : Addr → Addr → Bool} : ∀ {as bs : List Addr} {i : Nat} {a b : Addr}, as[i]? = some a → bs[i]? = some b → e a b = false → eqP e as bs = false
  | a :: as, b :: bs, 0, _, _, h1, h2, h => by
    cases h1
    cases h2
    show (e a b && eqP e as bs) = false
    rw [h, Bool.false_and]
  | a :: as, b :: bs, i + 1, x, y, h1, h2, h => by
    show (e a b && eqP e as bs) = false
    rw [eqP_no (as := as) (bs := bs) (i := i) h1 h2 h, Bool.and_false]
  | [], _, i, _, _, h1, _, _ => by cases h1
  | _ :: _, [], i, _, _, _, h2, _ => by cases h2
/-- != of two tuples of instances of the class at C, by its own ==, which leaves the heap as it is -/
def rNeTO (K : PySem.W.Frag) (C : Addr) (sp : Sp) (E : XK) : R2 := fun x y H Q => ∃ (a b : Addr) (as bs : List Addr) (e : Addr → Addr → Bool), x = .ref a ∧ y = .ref b ∧ SqT K H a (as.map V.ref) ∧ SqT K H b (bs.map V.ref) ∧ (∀ p, e p p = true) ∧
  (∀ p ∈ as, ∀ q ∈ bs, (∃ d f, H p = some (.ins C d f)) ∧ (∃ d f, H q = some (.ins C d f)) ∧ sp [.ref p, .ref q] H (fun v H' => v = .bl (e p q) ∧ H' = H) E) ∧ Q (.bl (!eqP e as bs)) H
section
variable {X : Cx} {CX : CXT} {E : XK} {C g : Addr} {k : Nat} {fd : FuncData} {ps : List Str} {sp : Sp}
theorem own_eq {pins : List (Addr × Obj)} {σ : L2.St} {H : Hp} {s : Shared} {p q : Addr} {r : Bool} (hs : PySem.W.findIn X.K (.ref C) "__eq__" = some (some (.ref g))) (hf : PySem.W.isFn X.K (.ref g) = true) (F : FnOk X.prog X.w X.K X.mg X.base CX k g fd ps sp) (hr : Room (k + 1) X.A) (hb : Binds X.K fd ps [])
    (hx : Passes CX X E) (I : Inv X pins σ H s) (hp : ∃ d f, H p = some (.ins C d f)) (hq : ∃ d f, H q = some (.ins C d f)) (h : sp [.ref p, .ref q] H (fun v H' => v = .bl r ∧ H' = H) E) (same : p = q → r = true) :
    wpAny (model X.prog X.w) X.A.in1 (eqBool (.ref p) (.ref q)) (fun z s' => z = r ∧ Inv X pins σ H s') X.xe s := by
  by_cases e : p = q
  · subst e
    exact SeqAt.EqAt.same (A := X.A.in1) (s := s) (.ref p) X.prog X.w X.xe _ ⟨(same rfl).symm, I⟩
  refine GQ.eqBool_refG e ?_
  obtain ⟨dp, fp, hp⟩ := hp
  obtain ⟨dq, fq, hq⟩ := hq
  obtain ⟨mp, yp, _⟩ := ins_get I.hok hp
  obtain ⟨mq, yq, _⟩ := ins_get I.hok hq
  obtain ⟨op, yp, _⟩ := yp.look
  obtain ⟨oq, yq, _⟩ := yq.look
  obtain ⟨m, fr⟩ := I.fr
  refine PySem.W.cmp_K (op := .Eq) (tb := .ref C) hr.in1.units0 fr I.ok.mod.kin yp yq.type (by simp [PySem.W.notFirst]) hs hf ?_
  have two : Vals [V.ref p, V.ref q] [Value.ref p, Value.ref q] := .cons rfl (.cons rfl .nil)
  have args := hb s [.ref p, .ref q] I.kIn (by rw [List.append_nil, ← two.length]; exact F.len _ _ _ _ h)
  rw [List.append_nil] at args
  refine wpAny_call (codeAny_mono (F.run X.A.in1 X.stack s H ⟨[.ref p, .ref q], []⟩ [.ref p, .ref q] _ _ E hr.in1 I.env0.in1 args two h) fun o s' y => ?_)
  match o, y with
  | .error er, y => exact hx pins σ H s er s' I y
  | .ok (.ret z), y =>
    obtain ⟨v, H', J, rv, ev, eH⟩ := I.after y
    subst ev
    subst eH
    cases rv
    exact ⟨_, rfl, rfl, J⟩
  | .ok .next, y => exact False.elim y
  | .ok .brk, y => exact False.elim y
  | .ok .cont, y => exact False.elim y
theorem vals_refs : ∀ {as : List Addr} {us : List Value}, Vals (as.map V.ref) us → us = as.map Value.ref
  | [], _, r => by cases r; rfl
  | a :: as, _, r => by
    cases r with
    | cons h t =>
      cases (show _ = Value.ref a from h)
      rw [vals_refs t]
      rfl
theorem op_neTO (hs : PySem.W.findIn X.K (.ref C) "__eq__" = some (some (.ref g))) (hf : PySem.W.isFn X.K (.ref g) = true) (F : FnOk X.prog X.w X.K X.mg X.base CX k g fd ps sp) (hr : Room (k + 1) X.A) (hb : Binds X.K fd ps []) (hx : Passes CX X E) :
    OpR X (compareOp .NotEq) (rNeTO X.K C sp E) := by
  intro pins s σ H x y v u Q I rx ry h
  obtain ⟨a, b, as, bs, e, rfl, rfl, ha, hb', refl, each, q⟩ := h
  cases (show v = Value.ref a from rx)
  cases (show u = Value.ref b from ry)
  obtain ⟨us, ru, ta, _⟩ := I.tuple ha
  obtain ⟨ws, rw_, tb, _⟩ := I.tuple hb'
  have eu := vals_refs ru
  have ew := vals_refs rw_
  subst eu
  subst ew
  have z1 : (as.map Value.ref).toArray.size = as.length := by simp
  have z2 : (bs.map Value.ref).toArray.size = bs.length := by simp
  show wpAny _ _ (richCompare .NotEq (.ref a) (.ref b)) _ _ _
  refine rc_ne hr.units0 (fun i s' => Inv X pins σ H s' ∧ ∀ (j : Nat) (p r : Addr), j < i → as[j]? = some p → bs[j]? = some r → e p r = true) (fun s' => Inv X pins σ H s' ∧ eqP e as bs = false) ta tb (fun i h1 h2 s' J => ?_) (fun s' J => ?_) (fun s' J => ?_) ⟨I, fun j p r hj => absurd hj (Nat.not_lt_zero _)⟩
  · rw [z1] at h1
    rw [z2] at h2
    have g1 : (as.map Value.ref).toArray[i] = Value.ref as[i] := by simp
    have g2 : (bs.map Value.ref).toArray[i] = Value.ref bs[i] := by simp
    rw [g1, g2]
    obtain ⟨y1, y2, y3⟩ := each as[i] (List.getElem_mem h1) bs[i] (List.getElem_mem h2)
    refine wpAny_mono (own_eq hs hf F hr hb hx J.1 y1 y2 y3 fun z => by rw [z]; exact refl _) (fun r s2 y => ?_) fun _ _ y => y
    obtain ⟨er, J2⟩ := y
    cases hr' : e as[i] bs[i] with
    | true =>
      rw [hr'] at er
      refine .inl ⟨er, J2, fun j p r hj hp hq => ?_⟩
      rcases Nat.lt_or_ge j i with c | c
      · exact J.2 j p r c hp hq
      · have : j = i := by omega
        subst this
        rw [List.getElem?_eq_getElem h1] at hp
        rw [List.getElem?_eq_getElem h2] at hq
        cases hp
        cases hq
        exact hr'
    | false =>
      rw [hr'] at er
      exact .inr ⟨er, J2, eqP_no (List.getElem?_eq_getElem h1) (List.getElem?_eq_getElem h2) hr'⟩
  · refine ⟨.bl (!eqP e as bs), H, J.1, ?_, q⟩
    rw [z1, z2] at *
    by_cases c : as.length = bs.length
    · rw [eqP_all c fun i p r hp hq => J.2 i p r (by have := (List.getElem?_eq_some_iff.mp hp).1; omega) hp hq]
      show Value.bool _ = Value.bool _
      rw [c]
      simp
    · rw [eqP_len c]
      show Value.bool _ = Value.bool _
      simp [c]
  · rw [J.2] at q
    exact ⟨.bl true, H, J.1, rfl, q⟩
end
end TC
namespace Wr
open PySem PySem.Spec PyProof.Rows L2
/-! ### readings, one lemma a construct: what is left to be shown behind it -/
section
variable {σ : L2.St} {H : Hp} {Q : VK} {QB : Bool → Hp → Prop} {QA : List V → Hp → Prop} {D : Ends} {t u : TS} {te ta tb : TE} {tt tu : TT} {i j : Int} {v : V} {K : PySem.W.Frag}
theorem r_seq (h : t { D with nx := u D } σ H) : tSeq t u D σ H := h
theorem r_next (h : D.nx σ H) : tNext D σ H := h
theorem r_asg {g : TG} (h : te σ H fun x H1 => g x σ H1 D.nx) : tAsg te g D σ H := h
theorem r_drop (h : te σ H fun _ H1 => D.nx σ H1) : tDrop te D σ H := h
theorem r_ret (h : te σ H D.rt) : tRet te D σ H := h
theorem r_ifs (h : tt σ H fun b H1 => if b = true then t D σ H1 else u D σ H1) : tIfS tt t u D σ H := h
theorem r_gname {n : Nat} {QS : L2.St → Hp → Prop} (h : QS (σ.set n (some v)) H) : gName n v σ H QS := h
theorem r_gsub {to ti : TE} {s : TSet} {QS : L2.St → Hp → Prop} (h : to σ H fun o H1 => ti σ H1 fun i H2 => s o i v H2 fun H3 => QS σ H3) : gSub to ti s v σ H QS := h
theorem r_gtup {n : Nat} {tg : TGs} {a : Addr} {xs : List V} {QS : L2.St → Hp → Prop} (h1 : SqT K H a xs) (h2 : xs.length = n) (h : tg xs σ H QS) : gTup K n tg (.ref a) σ H QS := ⟨a, xs, rfl, h1, h2, h⟩
theorem r_gcons {g : TG} {tg : TGs} {xs : List V} {QS : L2.St → Hp → Prop} (h : g v σ H fun s' H' => tg xs s' H' QS) : gCons g tg (v :: xs) σ H QS := ⟨v, xs, rfl, h⟩
theorem r_gnil {QS : L2.St → Hp → Prop} (h : QS σ H) : gNil [] σ H QS := ⟨rfl, h⟩
theorem r_var {n : Nat} (e : σ[n]? = some (some v)) (h : Q v H) : tVar n σ H Q := ⟨v, e, h⟩
theorem r_c (h : Q v H) : tC v σ H Q := h
theorem r_op {r : R2} (h : ta σ H fun x H1 => tb σ H1 fun y H2 => r x y H2 Q) : tOp r ta tb σ H Q := h
theorem r_un {r : V → Hp → VK → Prop} (h : ta σ H fun x H1 => r x H1 Q) : tUn r ta σ H Q := h
theorem r_I {C : Int → Int → Prop} {g : Int → Int → V} (c : C i j) (h : Q (g i j) H) : rI C g (.int i) (.int j) H Q := ⟨i, j, rfl, rfl, c, h⟩
theorem r_I0 {g : Int → Int → V} (h : Q (g i j) H) : rI0 g (.int i) (.int j) H Q := ⟨i, j, rfl, rfl, h⟩
theorem r_U {g : Int → V} (h : Q (g i) H) : rU g (.int i) H Q := ⟨i, rfl, h⟩
theorem r_test (h : te σ H fun x H1 => ∃ k, x = .bl k ∧ QB k H1) : tTest te σ H QB := h
theorem r_tB (h : te σ H fun x H1 => ∃ k, x = .bl k ∧ QB k H1) : tB te σ H QB := h
theorem r_bl {b : Bool} {F : Bool → Prop} (h : F b) : ∃ k, V.bl b = .bl k ∧ F k := ⟨b, rfl, h⟩
theorem r_and (h : tt σ H fun c H1 => if c = true then tu σ H1 QB else QB false H1) : tAnd tt tu σ H QB := h
theorem r_or (h : tt σ H fun c H1 => if c = true then QB true H1 else tu σ H1 QB) : tOr tt tu σ H QB := h
theorem r_not (h : tt σ H fun c H1 => QB (!c) H1) : tNot tt σ H QB := h
theorem r_andV (h : ta σ H fun x H1 => ∃ c, x = .bl c ∧ if c = true then tb σ H1 Q else Q (.bl false) H1) : tAndV ta tb σ H Q := h
theorem r_orV (h : ta σ H fun x H1 => ∃ c, x = .bl c ∧ if c = true then Q (.bl true) H1 else tb σ H1 Q) : tOrV ta tb σ H Q := h
theorem r_notV (h : ta σ H fun x H1 => ∃ c, x = .bl c ∧ Q (.bl (!c)) H1) : tNotV ta σ H Q := h
theorem r_ife (h : tt σ H fun c H1 => if c = true then ta σ H1 Q else tb σ H1 Q) : tIf tt ta tb σ H Q := h
theorem eq_dint : decide (V.int i = V.int j) = decide (i = j) := by
  by_cases e : i = j
  · rw [e, decide_eq_true rfl, decide_eq_true rfl]
  · rw [decide_eq_false e, decide_eq_false fun z => e (V.int.inj z)]
theorem eq_dbl {a b : Bool} : decide (V.bl a = V.bl b) = (a == b) := by cases a <;> cases b <;> rfl
theorem eq_dstr {a b : Str} : decide (V.str a = V.str b) = decide (a = b) := by
  by_cases e : a = b
  · rw [e, decide_eq_true rfl, decide_eq_true rfl]
  · rw [decide_eq_false e, decide_eq_false fun z => e (V.str.inj z)]
theorem r_eqI (h : Q (.bl (decide (i = j))) H) : rEq (.int i) (.int j) H Q := ⟨rfl, by rw [eq_dint]; exact h⟩
theorem r_neI (h : Q (.bl (!decide (i = j))) H) : rNe (.int i) (.int j) H Q := ⟨rfl, by rw [eq_dint]; exact h⟩
theorem r_eqB {a b : Bool} (h : Q (.bl (a == b)) H) : rEq (.bl a) (.bl b) H Q := ⟨rfl, by rw [eq_dbl]; exact h⟩
theorem r_neB {a b : Bool} (h : Q (.bl (!(a == b))) H) : rNe (.bl a) (.bl b) H Q := ⟨rfl, by rw [eq_dbl]; exact h⟩
theorem r_eqS {a b : Str} (h : Q (.bl (decide (a = b))) H) : rEq (.str a) (.str b) H Q := ⟨rfl, by rw [eq_dstr]; exact h⟩
theorem r_neS {a b : Str} (h : Q (.bl (!decide (a = b))) H) : rNe (.str a) (.str b) H Q := ⟨rfl, by rw [eq_dstr]; exact h⟩
theorem r_ixL {p : Addr} {xs : List V} (h1 : SqL K H p xs) (h2 : atI xs i = some v) (h : Q v H) : rIxL K (.ref p) (.int i) H Q := ⟨p, xs, i, v, rfl, rfl, h1, h2, h⟩
theorem r_ixT {p : Addr} {xs : List V} (h1 : SqT K H p xs) (h2 : atI xs i = some v) (h : Q v H) : rIxT K (.ref p) (.int i) H Q := ⟨p, xs, i, v, rfl, rfl, h1, h2, h⟩
theorem r_setL {p : Addr} {xs : List V} {n : Nat} {QH : Hp → Prop} (h1 : H p = some (.lst xs)) (h2 : ixN xs.length i = some n) (h : QH (upd H p (.lst (xs.set n v)))) : rSetL (.ref p) (.int i) v H QH := ⟨p, xs, i, n, rfl, rfl, h1, h2, h⟩
theorem r_nil (h : QA [] H) : tNil σ H QA := h
theorem r_cons {tr : TA} (h : te σ H fun x H1 => tr σ H1 fun xs H2 => QA (x :: xs) H2) : tCons te tr σ H QA := h
theorem r_cb {r : List V → Hp → VK → Prop} {ts : TA} (h : ts σ H fun vs H1 => r vs H1 Q) : tCB r ts σ H Q := h
theorem r_call {sp : Sp} {dvs : List V} {E : XK} {ts : TA} (h : ts σ H fun vs H1 => sp (vs ++ dvs) H1 Q E) : tCall sp dvs E ts σ H Q := h
theorem r_lst {ts : TA} (h : ts σ H fun xs H1 => xs.length ≤ sizeLine ∧ ∀ p, H1 p = none → Q (.ref p) (upd H1 p (.lst xs))) : tLst ts σ H Q := h
theorem r_tup {ts : TA} (h : ts σ H fun xs H1 => xs.length ≤ sizeLine ∧ ∀ p, H1 p = none → Q (.ref p) (upd H1 p (.tup xs))) : tTup ts σ H Q := h
theorem r_new {n : Nat} {F : Addr → Prop} (h1 : Nat.ble n 1000 = true) (h : ∀ p, H p = none → F p) : n ≤ sizeLine ∧ ∀ p, H p = none → F p := ⟨Nat.le_of_lt (small1000 (Nat.le_of_ble_eq_true h1)), h⟩
theorem r_ite {c : Prop} [Decidable c] {A B : Prop} (h1 : c → A) (h2 : ¬ c → B) : if decide c = true then A else B := by
  by_cases e : c
  · rw [decide_eq_true e]; exact iteT (h1 e)
  · rw [decide_eq_false e]; exact iteF (h2 e)
theorem r_iten {c : Prop} [Decidable c] {A B : Prop} (h1 : ¬ c → A) (h2 : c → B) : if (!decide c) = true then A else B := by
  by_cases e : c
  · rw [decide_eq_true e]; exact iteF (h2 e)
  · rw [decide_eq_false e]; exact iteT (h1 e)
theorem r_iteb {b : Bool} {A B : Prop} (h1 : b = true → A) (h2 : b = false → B) : if b = true then A else B := by
  cases b
  · exact iteF (h2 rfl)
  · exact iteT (h1 rfl)
theorem r_itebn {b : Bool} {A B : Prop} (h1 : b = false → A) (h2 : b = true → B) : if (!b) = true then A else B := by
  cases b
  · exact iteT (h1 rfl)
  · exact iteF (h2 rfl)
theorem iteNT {A B : Prop} (h : B) : if (!true) = true then A else B := iteF h
theorem iteNF {A B : Prop} (h : A) : if (!false) = true then A else B := iteT h
/-- int(n), abs(n), len(list) by words of their own -/
def rInt1 : List V → Hp → VK → Prop := fun xs H Q => ∃ i, xs = [.int i] ∧ Q (.int i) H
def rIntB : List V → Hp → VK → Prop := fun xs H Q => ∃ k, xs = [.bl k] ∧ Q (.int (if k then 1 else 0)) H
def rAbs1 : List V → Hp → VK → Prop := fun xs H Q => ∃ i, xs = [.int i] ∧ Q (.int (if i < 0 then -i else i)) H
def rLenL (K : PySem.W.Frag) : List V → Hp → VK → Prop := fun xs H Q => ∃ p ys, xs = [.ref p] ∧ (SqL K H p ys ∨ SqT K H p ys) ∧ Q (.int ys.length) H
theorem c_int1 {X : Cx} : CallR X (.type "int") rInt1 := fun pins s σ H xs us Q I r h => call_int1 pins s σ H xs us Q I r (Or.inl h)
theorem c_intB {X : Cx} : CallR X (.type "int") rIntB := fun pins s σ H xs us Q I r h => call_int1 pins s σ H xs us Q I r (Or.inr h)
theorem c_abs {X : Cx} : CallR X (.builtin "abs") rAbs1 := call_abs
theorem c_len {X : Cx} : CallR X (.builtin "len") (rLenL X.K) := call_len_seq
theorem r_int1 (h : Q (.int i) H) : rInt1 [.int i] H Q := ⟨i, rfl, h⟩
theorem r_intB {b : Bool} (h : Q (.int (if b then 1 else 0)) H) : rIntB [.bl b] H Q := ⟨b, rfl, h⟩
theorem r_abs1 (h : Q (.int (if i < 0 then -i else i)) H) : rAbs1 [.int i] H Q := ⟨i, rfl, h⟩
theorem r_lenL {p : Addr} {xs : List V} (h1 : SqL K H p xs) (h : Q (.int xs.length) H) : rLenL K [.ref p] H Q := ⟨p, xs, rfl, .inl h1, h⟩
theorem r_lenT {p : Addr} {xs : List V} (h1 : SqT K H p xs) (h : Q (.int xs.length) H) : rLenL K [.ref p] H Q := ⟨p, xs, rfl, .inr h1, h⟩
theorem r_bm {T : String} {r : V → List V → Hp → VK → Prop} {to : TE} {ts : TA} (h : to σ H fun x H1 => tyV K T x H1 ∧ ts σ H1 fun xs H2 => r x xs H2 Q) : tBM K T r to ts σ H Q := h
theorem r_tyL {p : Addr} {xs : List V} {A : Prop} (h1 : SqL K H p xs) (h : A) : tyV K "list" (.ref p) H ∧ A := ⟨Or.inl ⟨rfl, xs, h1⟩, h⟩
theorem r_app {p : Addr} {xs : List V} (h1 : H p = some (.lst xs)) (h2 : xs.length < sizeLine) (h : Q .non (upd H p (.lst (xs ++ [v])))) : rAppend (.ref p) [v] H Q := ⟨p, xs, v, rfl, rfl, h1, h2, h⟩
theorem r_isi {x c : V} {tv uv : Value} {b : Bool} (h1 : ClsV c uv) (h2 : TyX K H x tv) (h3 : PySem.W.kitOne K tv uv = some b) (h : Q (.bl b) H) : rIsi K [x, c] H Q := ⟨x, c, tv, uv, b, rfl, h1, h2, h3, h⟩
end
theorem bit_ok {b : Bool} : -(2 ^ 64) < (if b then (1 : Int) else 0) ∧ (if b then (1 : Int) else 0) < 2 ^ 64 := by cases b <;> decide
def kAt (ns : List Int) (i : Nat) : Int := ns.getD i 0
theorem ati_n {ns : List Int} {j : Nat} (h : j < ns.length) : atI (ns.map V.int) (j : Int) = some (.int (kAt ns j)) := atI_nat (by
  rw [List.getElem?_map, List.getElem?_eq_getElem h]
  show some (V.int ns[j]) = _
  rw [kAt, List.getD_eq_getElem?_getD, List.getElem?_eq_getElem h]
  rfl)
theorem ati_int {ns : List Int} {i : Int} (h0 : 0 ≤ i) (h1 : i < ns.length) : atI (ns.map V.int) i = some (.int (kAt ns i.toNat)) := by
  have e := ati_n (ns := ns) (j := i.toNat) (by omega)
  rw [Int.toNat_of_nonneg h0] at e
  exact e
theorem ati_last {ns : List Int} (h : 0 < ns.length) : atI (ns.map V.int) (-1) = some (.int (kAt ns (ns.length - 1))) := by
  unfold atI ixN
  rw [if_neg (by decide), if_pos (by rw [List.length_map]; omega), List.length_map]
  show (ns.map V.int)[((-1 : Int) + ns.length).toNat]? = _
  rw [show ((-1 : Int) + ns.length).toNat = ns.length - 1 by omega, List.getElem?_map, List.getElem?_eq_getElem (by omega)]
  rw [kAt, List.getD_eq_getElem?_getD, List.getElem?_eq_getElem (by omega)]
  rfl
theorem ixn_in {n : Nat} {i : Int} (h0 : 0 ≤ i) (h1 : i < n) : ixN n i = some i.toNat := by
  unfold ixN
  rw [if_pos h0, if_pos h1]
theorem same_new {H : Hp} {p : Addr} {o : HO} (h : H p = none) : Same H (upd H p o) := fun b x e => by
  rw [upd_ne (ne_of_none e h)]
  exact e
theorem nox_K {CX : CXT} {P : Program} {w : World} {K : PySem.W.Frag} {mg : Str → Option Value} {base : Heap} {N : List Str} {qual : Str} {sc : Scope} {f : Addr} {cd : Value} {A : Around} {outer : List Env} {s : Shared} {H : Hp} {E : XK} : (cxOf CX P w K mg base N qual sc f cd A outer s H E).nox.K = K := rfl
theorem cx_K {CX : CXT} {P : Program} {w : World} {K : PySem.W.Frag} {mg : Str → Option Value} {base : Heap} {N : List Str} {qual : Str} {sc : Scope} {f : Addr} {cd : Value} {A : Around} {outer : List Env} {s : Shared} {H : Hp} {E : XK} : (cxOf CX P w K mg base N qual sc f cd A outer s H E).K = K := rfl
section
variable {H : Hp} {Q : VK} {i j : Int} {K : PySem.W.Frag}
/-- % and // and * that hand on a letter -/
theorem r_mod (c : 0 < j) (h : ∀ k : Int, 0 ≤ k → k < j → k = i % j → Q (.int k) H) : rI (fun _ j => 0 < j) (fun i j => .int (i % j)) (.int i) (.int j) H Q :=
  ⟨i, j, rfl, rfl, c, h _ (Int.emod_nonneg _ (by omega)) (Int.emod_lt_of_pos _ c) rfl⟩
theorem r_fdiv (c : 0 < j) (c2 : j < 2 ^ 200) (h : ∀ k : Int, (0 ≤ i → 0 ≤ k) → k = i / j → Q (.int k) H) : rI CDivW (fun i j => .int (i / j)) (.int i) (.int j) H Q :=
  ⟨i, j, rfl, rfl, wide_div (b := 201) c (by omega) (by decide) (by decide), h _ (fun z => Int.ediv_nonneg z (by omega)) rfl⟩
theorem r_mul (c : CMul i j) (h : ∀ k : Int, k = i * j → Q (.int k) H) : rI CMul (fun i j => .int (i * j)) (.int i) (.int j) H Q := ⟨i, j, rfl, rfl, c, h _ rfl⟩
theorem r_lenI {p : Addr} {ns : List Int} (h1 : H p = some (.lst (ns.map V.int))) (h : Q (.int ns.length) H) : rLenL K [.ref p] H Q := ⟨p, _, rfl, .inl (.inl (.inl h1)), by rw [List.length_map]; exact h⟩
end
theorem bl_to {a b : Bool} {Q : VK} {H : Hp} (q : Q (.bl b) H) (e : a = b) : Q (.bl a) H := e ▸ q
/-! ### comprehensions by words of their own -/
def lcGo (J : It) (g : TG) (tt : TT) (te : TE) (vs : List Nat) (σ : L2.St) (Q : VK) (H1 : Hp) : Prop :=
  ∀ D, H1 D = none → ∃ W : Nat → Nat → Hp → Prop, (∃ m, W 0 m (upd H1 D (.lst []))) ∧
    ∀ i m H, W i m H → (J.stop i H ∧ Q (.ref D) H) ∨
      (J.go i H ∧ ∃ Nx : Hp → Prop, (∀ H', Nx H' → ∃ m', m' < m ∧ W (i + 1) m' H') ∧
        ∀ x H', J.yld i H x H' → g x (wipe σ vs) H' fun σ2 H2 => wipe σ2 vs = wipe σ vs ∧ tt σ2 H2 fun b H3 =>
          if b = true then te σ2 H3 fun y H4 => ∃ acc, H4 D = some (.lst acc) ∧ acc.length < sizeLine ∧ Nx (upd H4 D (.lst (acc ++ [y]))) else Nx H3)
section
variable {σ : L2.St} {H : Hp} {Q : VK} {te tl : TE} {K : PySem.W.Frag} {a : Addr} {xs : List V}
theorem r_lc {wi : TI} {g : TG} {tt : TT} {vs : List Nat} (h : wi σ H fun J H1 => lcGo J g tt te vs σ Q H1) : tLc wi g tt te vs σ H Q := h
theorem r_il {R : It → Hp → Prop} (h : tl σ H fun x H1 => ∃ a, x = .ref a ∧ (∃ xs, SqL K H1 a xs) ∧ R (Itl K a) H1) : iList K tl σ H R := h
theorem r_it {R : It → Hp → Prop} (h : tl σ H fun x H1 => ∃ a, x = .ref a ∧ (∃ xs, SqT K H1 a xs) ∧ R (Itt K a) H1) : iTup K tl σ H R := h
theorem r_itl {F : Addr → Prop} (hS : SqL K H a xs) (h : F a) : ∃ b, V.ref a = .ref b ∧ (∃ xs, SqL K H b xs) ∧ F b := ⟨a, rfl, ⟨xs, hS⟩, h⟩
theorem r_itt {F : Addr → Prop} (hS : SqT K H a xs) (h : F a) : ∃ b, V.ref a = .ref b ∧ (∃ xs, SqT K H b xs) ∧ F b := ⟨a, rfl, ⟨xs, hS⟩, h⟩
theorem r_rng1 {ta : TA} {R : It → Hp → Prop} (h : ta σ H fun vs H1 => ∃ j : Int, vs = [.int j] ∧ -(2 ^ 62) ≤ j ∧ j < 2 ^ 62 ∧ R (Itr 0 j.toNat) H1) : iRng1 ta σ H R := h
theorem r_rng2 {ta : TA} {R : It → Hp → Prop} (h : ta σ H fun vs H1 => ∃ i j : Int, vs = [.int i, .int j] ∧ (-(2 ^ 62) ≤ i ∧ i < 2 ^ 62 ∧ -(2 ^ 62) ≤ j ∧ j < 2 ^ 62) ∧ R (Itr i (j - i).toNat) H1) : iRng2 ta σ H R := h
theorem r_upto {j : Int} {F : Int → Prop} (h1 : -1000000 ≤ j) (h2 : j ≤ 1000000) (h : F j) : ∃ k : Int, [V.int j] = [.int k] ∧ -(2 ^ 62) ≤ k ∧ k < 2 ^ 62 ∧ F k := ⟨j, rfl, by omega, by omega, h⟩
theorem r_from {i j : Int} {F : Int → Int → Prop} (h0 : -1000000 ≤ i ∧ i ≤ 1000000) (h1 : -1000000 ≤ j ∧ j ≤ 1000000) (h : F i j) : ∃ i' j' : Int, [V.int i, V.int j] = [.int i', .int j'] ∧ (-(2 ^ 62) ≤ i' ∧ i' < 2 ^ 62 ∧ -(2 ^ 62) ≤ j' ∧ j' < 2 ^ 62) ∧ F i' j' := ⟨i, j, rfl, by omega, h⟩
theorem r_for {wi : TI} {g : TG} {tb : TS} {D : Ends} (h : wi σ H fun J H1 => ∃ W : Nat → Nat → L2.St → Hp → Prop, (∃ m, W 0 m σ H1) ∧ ∀ i m σ H, W i m σ H →
      (J.stop i H ∧ D.nx σ H) ∨ (J.go i H ∧ ∃ N : L2.St → Hp → Prop, (∀ σ' H', N σ' H' → ∃ m', m' < m ∧ W (i + 1) m' σ' H') ∧
        ∀ x H', J.yld i H x H' → g x σ H' fun σ2 H2 => tb { D with nx := N, ct := N, bk := D.nx } σ2 H2)) : tFor wi g tb D σ H := h
theorem wipe1 {n : Nat} {x : V} : wipe ((wipe σ [n]).set n (some x)) [n] = wipe σ [n] := by
  show ((σ.set n none).set n (some x)).set n none = σ.set n none
  rw [List.set_set, List.set_set]
/-- [e for x in xs], e a value by a function of x, the heap only grows aside -/
theorem lc_map {n : Nat} (f : V → V) (hS : SqL K H a xs) (hz : xs.length ≤ 1000) (he : ∀ (x : V) (H' : Hp) (QQ : VK), x ∈ xs → Same H H' → QQ (f x) H' → te ((wipe σ [n]).set n (some x)) H' QQ)
    (hq : ∀ D, H D = none → Q (.ref D) (upd H D (.lst (xs.map f)))) : lcGo (Itl K a) (gName n) tYes te [n] σ Q H := by
  intro D hD
  refine lc_list (K := K) (a := a) (xs := xs) (fun i H' => H' = upd H D (.lst ((xs.take i).map f))) rfl (fun i H' _ e => by subst e; exact (same_new hD).seq hS) ?_ ?_
  · rintro i x H' hx rfl
    refine ⟨wipe1, ?_⟩
    show te _ _ _
    refine he x _ _ (List.mem_of_getElem? hx) (same_new hD) ⟨(xs.take i).map f, upd_same, ?_, ?_⟩
    · rw [List.length_map, List.length_take]
      exact small1000 (by omega)
    · rw [upd_upd, List.take_add_one, hx, List.map_append]
      rfl
  · rintro H' rfl
    rw [List.take_length]
    exact hq D hD
end
section
variable {σ : L2.St} {H : Hp} {Q : VK} {te : TE} {K : PySem.W.Frag} {QO : Option Int → Hp → Prop}
theorem r_sl {r : V → Option Int → Option Int → Hp → VK → Prop} {tl th : TO} (h : te σ H fun x H1 => tl σ H1 fun l H2 => th σ H2 fun u H3 => r x l u H3 Q) : tSl r te tl th σ H Q := h
theorem r_np (h : QO none H) : tNoPart σ H QO := h
theorem r_pt (h : te σ H fun x H1 => ∃ i, x = .int i ∧ QO (some i) H1) : tPart te σ H QO := h
theorem r_pti {i : Int} {F : Int → Prop} (h : F i) : ∃ k, V.int i = .int k ∧ F k := ⟨i, rfl, h⟩
theorem r_slL {a : Addr} {xs : List V} {lo hi : Option Int} (hS : SqL K H a xs) (h : ∀ p, H p = none → Q (.ref p) (upd H p (.lst (cutV xs lo hi)))) : rSlL K (.ref a) lo hi H Q := ⟨a, xs, rfl, hS, h⟩
end
theorem cut_none {xs : List V} {n : Nat} (h : xs.length ≤ n) : cutV xs none (some (n : Int)) = xs := by
  unfold cutV
  rw [HT.sIx_none, show HT.sIx xs.length xs.length (some (n : Int)) = min n xs.length from HT.sIx_nat xs.length xs.length n]
  rw [List.drop_zero, Nat.sub_zero, Nat.min_eq_right h, List.take_length]
/-! ### the draws of a script -/
structure Drw (H : Hp) (d c r : Addr) : Prop where
  dc : d ≠ c
  dr : d ≠ r
  cr : c ≠ r
  ex : ∃ (ns rs : List Int) (t : Int), H d = some (.lst [.ref c, .ref r, .int t]) ∧ H c = some (.lst (ns.map V.int)) ∧ H r = some (.lst (rs.map V.int)) ∧ ns.length = rs.length ∧ 0 < ns.length ∧ 0 ≤ t ∧ ∀ x ∈ rs, 0 ≤ x
def Ext (d r : Addr) (H H' : Hp) : Prop := ∀ b o, H b = some o → b ≠ d → b ≠ r → H' b = some o
theorem Ext.refl {d r : Addr} {H : Hp} : Ext d r H H := fun _ _ e _ _ => e
theorem Ext.trans {d r : Addr} {H H1 H2 : Hp} (a : Ext d r H H1) (b : Ext d r H1 H2) : Ext d r H H2 := fun x o e n1 n2 => b x o (a x o e n1 n2) n1 n2
theorem Ext.of {d r : Addr} {H H' : Hp} (s : Same H H') : Ext d r H H' := fun b o e _ _ => s b o e
theorem Drw.same {H H' : Hp} {d c r : Addr} (D : Drw H d c r) (s : Same H H') : Drw H' d c r := by
  obtain ⟨dc, dr, cr, ns, rs, t, h1, h2, h3, h⟩ := D
  exact ⟨dc, dr, cr, ns, rs, t, s _ _ h1, s _ _ h2, s _ _ h3, h⟩
theorem Drw.new {H : Hp} {d c r p : Addr} {o : HO} (D : Drw H d c r) (h : H p = none) : Drw (upd H p o) d c r := D.same (same_new h)
theorem Drw.ned {H : Hp} {d c r p : Addr} (D : Drw H d c r) (h : H p = none) : p ≠ d := by
  obtain ⟨_, _, _, _, _, _, h1, _⟩ := D
  exact (ne_of_none h1 h).symm
theorem Drw.ner {H : Hp} {d c r p : Addr} (D : Drw H d c r) (h : H p = none) : p ≠ r := by
  obtain ⟨_, _, _, _, _, _, _, _, h1, _⟩ := D
  exact (ne_of_none h1 h).symm
theorem Drw.nec {H : Hp} {d c r p : Addr} (D : Drw H d c r) (h : H p = none) : p ≠ c := by
  obtain ⟨_, _, _, _, _, _, _, h1, _⟩ := D
  exact (ne_of_none h1 h).symm
theorem getD_left {xs : List Int} {y : Int} {i : Nat} (h : i < xs.length) : (xs ++ [y]).getD i 0 = xs.getD i 0 := by
  rw [List.getD_eq_getElem?_getD, List.getD_eq_getElem?_getD, List.getElem?_append_left h]
theorem getD_end {xs : List Int} {y : Int} : (xs ++ [y]).getD xs.length 0 = y := by
  rw [List.getD_eq_getElem?_getD, List.getElem?_append_right (Nat.le_refl _), Nat.sub_self]
  rfl
theorem Drw.back {H H' : Hp} {d c r p : Addr} (D : Drw H d c r) (e : Ext d r H H') (h : H' p = none) (D' : Drw H' d c r := by assumption) : H p = none := by
  cases q : H p with
  | none => rfl
  | some o =>
    have z := e p o q (D'.ned h) (D'.ner h)
    rw [h] at z
    cases z
theorem Drw.put {H : Hp} {d c r p : Addr} {o : HO} (D : Drw H d c r) (h1 : p ≠ d) (h2 : p ≠ r) (h3 : p ≠ c) : Drw (upd H p o) d c r := by
  obtain ⟨dc, dr, cr, ns, rs, t, g1, g2, g3, h⟩ := D
  exact ⟨dc, dr, cr, ns, rs, t, (upd_ne h1.symm).trans g1, (upd_ne h3.symm).trans g2, (upd_ne h2.symm).trans g3, h⟩
def spDraw : Sp := fun vs H Q _ => ∃ (d c r : Addr) (m : Int), vs = [.ref d, .int m] ∧ Drw H d c r ∧ 0 < m ∧ m < 2 ^ 200 ∧ ∀ (k : Int) (H' : Hp), 0 ≤ k → k < m → Drw H' d c r → Ext d r H H' → Q (.int k) H'
def spBegin (K : PySem.W.Frag) : Sp := fun vs H Q _ => ∃ (a : Addr) (ns : List Int), vs = [.ref a] ∧ SqL K H a (ns.map V.int) ∧ ns.length ≤ 63 ∧
  ∀ (d c r : Addr) (H' : Hp), Drw H' d c r → Same H H' → H d = none → H c = none → H r = none → Q (.ref d) H'
def restOf (v : V) : V := match v with
  | .int x => .int ((if x < 0 then -x else x) * (if decide ((10 : Int) ^ 18 ≤ (if x < 0 then -x else x)) then 1 else 0))
  | w => w
def restI (x : Int) : Int := (if x < 0 then -x else x) * (if decide ((10 : Int) ^ 18 ≤ (if x < 0 then -x else x)) then 1 else 0)
theorem rest_map (ns : List Int) : (ns.map V.int).map restOf = (ns.map restI).map V.int := by
  rw [List.map_map, List.map_map]
  rfl
theorem rest_nn (x : Int) : 0 ≤ restI x := by
  unfold restI
  refine Int.mul_nonneg ?_ ?_
  · split <;> omega
  · split <;> omega
/-! ### calls by keywords alone -/
section
variable {X : Cx} {CX : CXT} {k : Nat} {f : Addr} {fd : FuncData} {ps ks : List Str} {sp : Sp} {E : XK} {x : Str} {p pos : Pos} {kws : List Keyword} {tk : TA} {g : List Value → List Value → List Value} {gV : List V → List V → List V}
theorem pe_callN0 (F : FnOk X.prog X.w X.K X.mg X.base CX k f fd ps sp) (hr : Room k X.A) (hg : Gl X x) (hm : X.mg x = some (.ref f)) (hk : PySem.W.keepIn X.K (.ref f) = true) (hb : KBn X.K fd ps 0 ks g gV) (hx : Passes CX X E) (hkw : PK X kws tk)
    (hall : (backToKw pos (keywordEach kws X.env)).all (fun q => q.1.isSome) = true := by rfl) (hks : (backToKw pos (keywordEach kws X.env)).filterMap (fun q => q.1) = ks := by rfl) (hdb : (x == ("__debug__" : Str)) = false := by decide)
    (hpl : ((backTo pos (starEach [] X.env)).any (fun q => q.1) || (backToKw pos (keywordEach kws X.env)).any (fun q => q.1.isNone)) = false := by rfl) :
    PE X (.Call (.Name x p) [] kws pos) (tCallN 0 ks.length sp gV E tNil tk) := by
  refine ⟨fun pins s σ H Q I h => wpAny_Call_Name_kw (ld_glob I hg hm ?_ hdb)⟩
  refine PySem.W.callWith_KW0 (h₀ := X.base) I.ok.mod.kin hk hall (thn (hkw.run pos pins s σ H _ I h) fun ws s2 hh => ?_) hpl
  obtain ⟨zs, H2, I2, rz, l1, l2, q2⟩ := hh
  refine ⟨I2.kIn, ?_⟩
  rw [hks]
  exact run_fnN (us := []) (vs := []) F hr hb hx I2 .nil rz rfl l2 q2
theorem r_callN {n m : Nat} {ts : TA} {σ : L2.St} {H : Hp} {Q : VK} (h : ts σ H fun vs H1 => tk σ H1 fun zs H2 => vs.length = n ∧ zs.length = m ∧ sp (gV vs zs) H2 Q E) : tCallN n m sp gV E ts tk σ H Q := h
end
theorem kb_mk {K : PySem.W.Frag} {x qual : Str} {st : Stmt} {f : Addr} {fd : FuncData} {ps ks : List Str} {g : List Value → List Value → List Value} {gV : List V → List V → List V} (F : Fun K x qual st f fd)
    (h : ∀ (kV doc pm : Value) (an : Option Addr) (cdv ct : Value) (ws : List Value), ws.length = ks.length → bindArgs (PySem.W.fnOf x qual (defArgs st) (defBody st) (defScope st) .none kV doc pm an cdv ct) ⟨[], ks.zip ws⟩ = pure (ps.zip (g [] ws)))
    (hrel : ∀ {vs : List V} {us : List Value} {zs : List V} {ws : List Value}, Vals vs us → Vals zs ws → Vals (gV vs zs) (g us ws)) : KBn K fd ps 0 ks g gV := by
  obtain ⟨oc, od, kV, doc, pm, an, cdv, ct, osl, rfl, lk, hcd⟩ := F.ex
  refine ⟨fun s us ws _ l1 l2 => ?_, hrel⟩
  have e : us = [] := List.length_eq_zero_iff.mp l1
  subst e
  exact .of_eq (h kV doc pm an cdv ct ws l2)
section
variable {σ : L2.St} {H : Hp} {D : Ends} {ta : TA}
theorem r_par {i j : Nat} (h : ta σ H fun vs H1 => ∃ v w, vs = [v, w] ∧ D.nx ((σ.set i (some v)).set j (some w)) H1) : tPar i j ta D σ H := h
theorem r_par3 {i j l : Nat} (h : ta σ H fun vs H1 => ∃ u v w, vs = [u, v, w] ∧ D.nx (((σ.set i (some u)).set j (some v)).set l (some w)) H1) : tPar3 i j l ta D σ H := h
theorem r_two {a b : V} {F : V → V → Prop} (h : F a b) : ∃ v w, [a, b] = [v, w] ∧ F v w := ⟨a, b, rfl, h⟩
theorem r_three {a b c : V} {F : V → V → V → Prop} (h : F a b c) : ∃ u v w, [a, b, c] = [u, v, w] ∧ F u v w := ⟨a, b, c, rfl, h⟩
end
/-- [e for x in range(..)], e draws -/
theorem lc_draws {σ : L2.St} {H : Hp} {Q : VK} {te : TE} {n m : Nat} {lo : Int} {d c r : Addr} {P : Int → Prop} (hm : m ≤ 1000) (D0 : Drw H d c r)
    (he : ∀ (i : Nat) (H' : Hp) (QQ : VK), i < m → Drw H' d c r → Ext d r H H' → (∀ (k : Int) (H'' : Hp), P k → Drw H'' d c r → Ext d r H' H'' → QQ (.int k) H'') → te ((wipe σ [n]).set n (some (.int (lo + i)))) H' QQ)
    (hq : ∀ (l : Addr) (ss : List Int) (H' : Hp), ss.length = m → (∀ x ∈ ss, P x) → H l = none → H' l = some (.lst (ss.map V.int)) → Drw H' d c r → Ext d r H H' → Q (.ref l) H') : lcGo (Itr lo m) (gName n) tYes te [n] σ Q H := by
  intro l nl
  have ld := D0.ned nl
  have lr := D0.ner nl
  have lc := D0.nec nl
  refine lc_range (fun i H' => ∃ ss : List Int, ss.length = i ∧ (∀ x ∈ ss, P x) ∧ H' l = some (.lst (ss.map V.int)) ∧ Drw H' d c r ∧ Ext d r H H') ⟨[], rfl, fun x hx => (nomatch hx), upd_same, D0.new nl, Ext.of (same_new nl)⟩ ?_ ?_
  · rintro i H' hi ⟨ss, hl, hp, hs, D1, E1⟩
    refine ⟨wipe1, ?_⟩
    show te _ _ _
    refine he i H' _ hi D1 E1 fun k H'' hk D2 E2 => ⟨ss.map V.int, E2 _ _ hs ld lr, ?_, ?_⟩
    · rw [List.length_map]
      exact small1000 (by omega)
    · refine ⟨ss ++ [k], by rw [List.length_append, hl]; rfl, fun x hx => ?_, by rw [upd_same, List.map_append]; rfl, D2.put ld lr lc, fun b o e n1 n2 => ?_⟩
      · rcases List.mem_append.mp hx with z | z
        · exact hp x z
        · rw [List.mem_singleton.mp z]; exact hk
      · rw [upd_ne (ne_of_none e nl)]
        exact E2 b o (E1 b o e n1 n2) n1 n2
  · rintro H' ⟨ss, hl, hp, hs, D1, E1⟩
    exact hq l ss H' hl hp nl hs D1 E1
section
variable {σ : L2.St} {H : Hp} {D : Ends} {te : TE} {Q : VK}
theorem r_aug {i : Nat} {ti : TIp} {x : V} (e : σ[i]? = some (some x)) (h : te σ H fun y H1 => ti x y H1 fun z H2 => D.nx (σ.set i (some z)) H2) : tAug i te ti D σ H := ⟨x, e, h⟩
theorem r_ext2 {l b : Addr} {xs zs : List V} (h1 : H l = some (.lst xs)) (h2 : H b = some (.lst zs)) (hz : xs.length + zs.length ≤ 1000) (h : Q (.ref l) (upd H l (.lst (xs ++ zs)))) : rExt2 (.ref l) (.ref b) H Q := ⟨l, b, xs, zs, rfl, rfl, h1, h2, Nat.le_of_lt (small1000 hz), h⟩
theorem r_ipI {f : Int → Int → Int} {i j : Int} (h : Q (.int (f i j)) H) : ipI f (.int i) (.int j) H Q := ⟨i, j, rfl, rfl, h⟩
end
/-! ### operators of own classes: by the class's own def -/
section
open PySem.W
variable {prog : Program} {w : World} {A : Around} {E : Value → Shared → Prop} {s : Shared} {K : PySem.W.Frag} {x C f : Addr} {ox : Obj} {od : Option Obj} {b tb : Value}
theorem check_obj {M : Model} {rest : List Value} {Q : Unit → Shared → Prop} (X : K.In s.heap) (I : InstAt s.heap x ox C od) (hob : subIn K (.ref C) (.type "object") = some true) (ha : argsOk "object.__ne__" ⟨.ref x :: rest, []⟩) (hq : Q () s) :
    wpAny M A (checkBuiltinCall "object.__ne__" ⟨.ref x :: rest, []⟩) Q E s := by
  simp only [checkBuiltinCall, F.cmpKind_ne, F.cmpSplit_ne]
  refine wpAny_bind ?_
  unfold isInstance
  refine wpAny_bind (I.type.here ((looks_subIn X hob).here ?_))
  simp only [Bool.not_true, Bool.false_eq_true, if_false]
  cases hsig : Manifest.signature? "object.__ne__" with
  | none => exact wpAny_pure hq
  | some sig =>
    simp only [argsOk, hsig] at ha
    show wpAny M A (Bind.checkArgs "object.__ne__" sig ⟨.ref x :: rest, []⟩) Q E _
    rw [show Bind.checkArgs "object.__ne__" sig ⟨.ref x :: rest, []⟩ = pure () from ha]
    exact wpAny_pure hq
theorem bound_ne {M : Model} {args : List Value} {Q : Option Value → Shared → Prop} (X : K.In s.heap) (I : InstAt s.heap x ox C od) (hs : findIn K (.ref C) "__ne__" = some (some (.builtin "object.__ne__")))
    (h : wpAny M A (call (.builtin "object.__ne__") (.ref x :: args)) (fun v => Q (some v)) E s) : wpAny M A (callSpecialIfBound? (.ref x) "__ne__" args) Q E s := by
  simp only [callSpecialIfBound?, bindSpecialIfBound?]
  have hb : bindSpecial (.builtin "object.__ne__") (.ref x) = pure (.builtin "object.__ne__", [.ref x]) := F.cmp_object.ne.bind _
  have fin : wpAny M A (call (.builtin "object.__ne__") ([.ref x] ++ args) >>= fun v => pure (some v)) Q E s := wpAny_bind (wpAny_mono h (fun v s' h' => wpAny_pure h') fun _ _ h' => h')
  refine wpAny_holding (wpAny_bind (wpAny_bind (wpAny_bind (I.type.here ((looks_findIn X hs).here ?_)))))
  refine wpAny_bind (wpAny_askSetting (wpAny_ite ?_))
  rw [hb]
  split
  · exact wpAny_bind (wpAny_pure (wpAny_pure (by exact fin)))
  · exact wpAny_tryCatch (wpAny_bind (wpAny_pure (wpAny_pure (by exact fin))))
theorem ne_own {Q : Value → Shared → Prop} (hu : A.units + 1 < cLine) (X : K.In s.heap) (I : InstAt s.heap x ox C od) (hb : Looks (model prog w) s.heap (typeOf b) tb) (hn : notFirst K C tb = true)
    (hne : findIn K (.ref C) "__ne__" = some (some (.builtin "object.__ne__"))) (hob : subIn K (.ref C) (.type "object") = some true) (hs : findIn K (.ref C) "__eq__" = some (some (.ref f))) (hf : isFn K (.ref f) = true)
    (h : wpAny (model prog w) A.in1 (call (.ref f) [.ref x, b]) (fun v s' => ∃ k, v = .bool k ∧ Q (.bool (!k)) s') E s) : wpAny (model prog w) A (richCompare .NotEq (.ref x) b) Q E s := by
  have one : wpAny (model prog w) A (tryCompare (.ref x) (cmpInfo .NotEq).2.1 b) (fun r s' => ∃ v, r = some v ∧ Q v s') E s := by
    unfold tryCompare
    refine wpAny_bind (bound_ne X I hne (wpAny_call (codeAny_call_builtin F.cmp_object.ne.plain F.cmpEntry_ne (check_obj X I hob (F.cmpArgs_ne _ _) ?_))))
    unfold Builtin.«object.__ne__»
    repeat (first
      | with_reducible refine wpAny_cRoomFor hu ?_
      | (refine wpAny_bind (m := callSpecialIfBound? (.ref x) (Str.ofString "__eq__") [b])
          (ifBound_K X I hs hf (wpAny_mono h (fun r s' hr => by
            obtain ⟨k, rfl, hq⟩ := hr
            repeat (first | exact wpAny_pure ⟨_, rfl, hq⟩ | (refine wpAny_bind (m := truthy (.bool _)) (wpAny_truthy_bool ?_)) | wp_step)) fun _ _ e => e)))
      | wp_step)
  unfold richCompare
  simp only [oneThing_ref]
  refine wpAny_holding (wpAny_bind (wpAny_cRoomFor (Nat.lt_of_succ_lt hu) ?_))
  refine wpAny_bind (I.type.here (wpAny_bind (hb.here ?_)))
  split
  · rename_i q
    have e : subIn K tb (.ref C) = some false := by
      rcases Bool.or_eq_true_iff.mp hn with e | e
      · rw [beq_iff_eq.mp e] at q; simp at q
      · exact beq_iff_eq.mp e
    refine wpAny_bind ((looks_subIn X e).here ?_)
    simp only [Bool.false_eq_true, if_false]
    refine wpAny_bind (wpAny_mono one (fun r s' z => ?_) fun _ _ e => e)
    obtain ⟨v, rfl, hq⟩ := z
    exact wpAny_pure hq
  · refine wpAny_bind (wpAny_pure ?_)
    simp only [Bool.false_eq_true, if_false]
    refine wpAny_bind (wpAny_mono one (fun r s' z => ?_) fun _ _ e => e)
    obtain ⟨v, rfl, hq⟩ := z
    exact wpAny_pure hq
theorem neg_own {M : Model} {Q : Value → Shared → Prop} (X : K.In s.heap) (I : InstAt s.heap x ox C od) (hs : findIn K (.ref C) "__neg__" = some (some (.ref f))) (hf : isFn K (.ref f) = true)
    (h : wpAny M A (call (.ref f) [.ref x]) Q E s) : wpAny M A (unaryOp .USub (.ref x)) Q E s := by
  unfold unaryOp
  refine wpAny_holding ?_
  dsimp only
  rw [if_neg (by decide)]
  exact wpAny_bind (special_fn X I hs (beq_iff_eq.mp hf) (wpAny_mono h (fun _ _ z => wpAny_pure z) fun _ _ z => z))
end
section
variable {X : Cx} {CX : CXT} {k : Nat} {g C : Addr} {fd : FuncData} {ps : List Str} {sp : Sp} {E : XK}
theorem cmpb {P : Value → Shared → Prop} {z : V} {v : Value} {s' : Shared} (r : RelV z v) (h : P v s') : PySem.W.CmpBack P v s' := by
  cases z with
  | non => cases (show v = Value.none from r); exact h
  | bl b => cases (show v = Value.bool b from r); exact h
  | int i => obtain ⟨t, rfl⟩ := (show ∃ t, v = Value.int i t from r); exact h
  | str x => obtain ⟨t, rfl⟩ := (show ∃ t, v = Value.str x t from r); exact h
  | byt b => obtain ⟨t, rfl⟩ := (show ∃ t, v = Value.bytes b t from r); exact h
  | flt b => obtain ⟨t, rfl⟩ := (show ∃ t, v = Value.float b t from r); exact h
  | ref a => cases (show v = Value.ref a from r); exact h
  | ty n => cases (show v = Value.type n from r); exact h
/-- what an own operator of the class at C asks: the left one is an instance, the right one's type is known and not below C -/
def rCmpO (K : PySem.W.Frag) (C : Addr) (sp : Sp) (E : XK) : R2 := fun x y H Q => ∃ a dx fs t, x = .ref a ∧ H a = some (.ins C dx fs) ∧ TyX K H y t ∧ PySem.W.notFirst K C t = true ∧ sp [x, y] H Q E
def rNeO (K : PySem.W.Frag) (C : Addr) (sp : Sp) (E : XK) : R2 := fun x y H Q => ∃ a dx fs t, x = .ref a ∧ H a = some (.ins C dx fs) ∧ TyX K H y t ∧ PySem.W.notFirst K C t = true ∧ sp [x, y] H (fun v H' => ∃ b, v = .bl b ∧ Q (.bl (!b)) H') E
def rAddO (C : Addr) (sp : Sp) (E : XK) : R2 := fun x y H Q => ∃ a dx fs b dy gs, x = .ref a ∧ y = .ref b ∧ H a = some (.ins C dx fs) ∧ H b = some (.ins C dy gs) ∧ sp [x, y] H Q E
def rNegO (C : Addr) (sp : Sp) (E : XK) : V → Hp → VK → Prop := fun x H Q => ∃ a dx fs, x = .ref a ∧ H a = some (.ins C dx fs) ∧ sp [x] H Q E
theorem inst_at {pins : List (Addr × Obj)} {σ : L2.St} {H : Hp} {s : Shared} {a dx : Addr} {fs : List (Str × V)} (I : Inv X pins σ H s) (h : H a = some (.ins C dx fs)) : ∃ ox od, PySem.W.InstAt s.heap a ox C od := by
  obtain ⟨mA, O, _⟩ := ins_get I.hok h
  obtain ⟨od, J, _⟩ := O.look
  exact ⟨_, _, J⟩
theorem op_cmpO {op : CmpOp} (hop : ∀ a b, compareOp op a b = richCompare op a b) (hs : PySem.W.findIn X.K (.ref C) (cmpInfo op).2.1 = some (some (.ref g))) (hf : PySem.W.isFn X.K (.ref g) = true) (F : FnOk X.prog X.w X.K X.mg X.base CX k g fd ps sp) (hr : Room k X.A) (hb : Binds X.K fd ps []) (hx : Passes CX X E) :
    OpR X (compareOp op) (rCmpO X.K C sp E) := by
  intro pins s σ H x y v u Q I rx ry h
  obtain ⟨a, dx, fs, t, rfl, ha, ty, hn, q⟩ := h
  cases (show v = Value.ref a from rx)
  obtain ⟨ox, od, J⟩ := inst_at I ha
  obtain ⟨P, Z, p, _⟩ := kit_of I ry ty
  obtain ⟨m, hF⟩ := I.fr
  rw [hop]
  refine PySem.W.cmp_K (op := op) (tb := t) hr.units0 hF I.ok.mod.kin J (Z.ty _ _ I.kIn p) hn hs hf ?_
  refine wpAny_mono (run_fn (ds := []) (dvs := []) (vs := [.ref a, y]) F hr hb .nil hx I (.cons rfl (.cons ry .nil)) (by rw [List.append_nil]; exact q)) (fun w s' z => ?_) fun _ _ e => e
  obtain ⟨z', H', I', rz, qz⟩ := z
  exact cmpb rz ⟨z', H', I', rz, qz⟩
theorem op_eqO (hs : PySem.W.findIn X.K (.ref C) "__eq__" = some (some (.ref g))) (hf : PySem.W.isFn X.K (.ref g) = true) (F : FnOk X.prog X.w X.K X.mg X.base CX k g fd ps sp) (hr : Room k X.A) (hb : Binds X.K fd ps []) (hx : Passes CX X E) :
    OpR X (compareOp .Eq) (rCmpO X.K C sp E) := op_cmpO (fun _ _ => rfl) hs hf F hr hb hx
theorem op_neO (hs : PySem.W.findIn X.K (.ref C) "__eq__" = some (some (.ref g))) (hf : PySem.W.isFn X.K (.ref g) = true) (hne : PySem.W.findIn X.K (.ref C) "__ne__" = some (some (.builtin "object.__ne__"))) (hob : PySem.W.subIn X.K (.ref C) (.type "object") = some true)
    (F : FnOk X.prog X.w X.K X.mg X.base CX k g fd ps sp) (hr : Room (k + 1) X.A) (hb : Binds X.K fd ps []) (hx : Passes CX X E) : OpR X (compareOp .NotEq) (rNeO X.K C sp E) := by
  intro pins s σ H x y v u Q I rx ry h
  obtain ⟨a, dx, fs, t, rfl, ha, ty, hn, q⟩ := h
  cases (show v = Value.ref a from rx)
  obtain ⟨ox, od, J⟩ := inst_at I ha
  obtain ⟨P, Z, p, _⟩ := kit_of I ry ty
  have hu := hr.units
  show wpAny _ _ (richCompare .NotEq _ _) _ _ _
  refine ne_own (by omega) I.kIn J (Z.ty _ _ I.kIn p) hn hne hob hs hf ?_
  have r2 : Vals [V.ref a, y] [Value.ref a, u] := .cons rfl (.cons ry .nil)
  have hl : ([Value.ref a, u] ++ []).length = ps.length := by
    rw [List.append_nil, ← r2.length]
    exact F.len _ _ _ _ q
  refine wpAny_call (codeAny_mono (F.run X.A.in1 X.stack s H ⟨[.ref a, u], []⟩ [.ref a, u] _ _ E hr.in1 I.env0.in1 (by have z := hb s [.ref a, u] I.kIn hl; rw [List.append_nil] at z; exact z) r2 q) fun r s' hq => ?_)
  cases r with
  | error e => exact hx pins σ H s e s' I hq
  | ok fl =>
    cases fl with
    | ret z =>
      obtain ⟨v', H', I', rv, b, rfl, qz⟩ := I.after hq
      cases rv
      exact ⟨b, rfl, .bl (!b), H', I', rfl, qz⟩
    | next => exact False.elim hq
    | brk => exact False.elim hq
    | cont => exact False.elim hq
theorem op_binO {op : Operator} (hc : PySem.W.selfFirst X.K C = true) (hs : PySem.W.findIn X.K (.ref C) (PySem.dunder op.info.2) = some (some (.ref g))) (hf : PySem.W.isFn X.K (.ref g) = true) (F : FnOk X.prog X.w X.K X.mg X.base CX k g fd ps sp) (hr : Room k X.A) (hb : Binds X.K fd ps []) (hx : Passes CX X E) :
    OpR X (binaryOp op) (rAddO C sp E) := by
  intro pins s σ H x y v u Q I rx ry h
  obtain ⟨a, dx, fs, b, dy, gs, rfl, rfl, ha, hb', q⟩ := h
  cases (show v = Value.ref a from rx)
  cases (show u = Value.ref b from ry)
  obtain ⟨ox, od, J⟩ := inst_at I ha
  obtain ⟨oy, oe, J'⟩ := inst_at I hb'
  obtain ⟨m, hF⟩ := I.fr
  refine PySem.W.binop_K (op := op) hF I.ok.mod.kin J J'.type hc hs hf ?_
  refine wpAny_mono (run_fn (ds := []) (dvs := []) (vs := [.ref a, .ref b]) F hr hb .nil hx I (.cons rfl (.cons rfl .nil)) (by rw [List.append_nil]; exact q)) (fun w s' z => ?_) fun _ _ e => e
  obtain ⟨z', H', I', rz, qz⟩ := z
  exact cmpb rz ⟨z', H', I', rz, qz⟩
theorem un_negO (hs : PySem.W.findIn X.K (.ref C) "__neg__" = some (some (.ref g))) (hf : PySem.W.isFn X.K (.ref g) = true) (F : FnOk X.prog X.w X.K X.mg X.base CX k g fd ps sp) (hr : Room k X.A) (hb : Binds X.K fd ps []) (hx : Passes CX X E) :
    UnR X (unaryOp .USub) (rNegO C sp E) := by
  intro pins s σ H x v Q I rx h
  obtain ⟨a, dx, fs, rfl, ha, q⟩ := h
  cases (show v = Value.ref a from rx)
  obtain ⟨ox, od, J⟩ := inst_at I ha
  exact neg_own I.kIn J hs hf (run_fn (ds := []) (dvs := []) (vs := [.ref a]) F hr hb .nil hx I (.cons rfl .nil) (by rw [List.append_nil]; exact q))
/-- v in x, x of an own class with its own __contains__, which hands back a truth -/
def rInO (C : Addr) (sp : Sp) (E : XK) : R2 := fun x y H Q => ∃ a dx fs, y = .ref a ∧ H a = some (.ins C dx fs) ∧ sp [y, x] H (fun v H' => ∃ b, v = .bl b ∧ Q (.bl b) H') E
theorem op_inO (hs : PySem.W.findIn X.K (.ref C) "__contains__" = some (some (.ref g))) (hf : PySem.W.isFn X.K (.ref g) = true) (F : FnOk X.prog X.w X.K X.mg X.base CX k g fd ps sp) (hr : Room k X.A) (hb : Binds X.K fd ps []) (hx : Passes CX X E) :
    OpR X (compareOp .In) (rInO C sp E) := by
  intro pins s σ H x y v u Q I rx ry h
  obtain ⟨a, dx, fs, rfl, ha, q⟩ := h
  cases (show u = Value.ref a from ry)
  obtain ⟨ox, od, J⟩ := inst_at I ha
  obtain ⟨m, hF⟩ := I.fr
  refine PySem.W.in_K hF I.ok.mod.kin J hs hf (wpAny_mono (run_fn (ds := []) (dvs := []) (vs := [.ref a, x]) F hr hb .nil hx I (.cons rfl (.cons rx .nil)) (by rw [List.append_nil]; exact q)) (fun w s' z => ?_) fun _ _ e => e)
  obtain ⟨z', H', I', rz, b, rfl, qz⟩ := z
  cases rz
  exact wpAny_truthy_bool ⟨.bl b, H', I', rfl, qz⟩
end
/-! ### fields, methods, new instances -/
section
variable {σ : L2.St} {H : Hp} {Q : VK} {K : PySem.W.Frag} {te ta tv : TE} {a C dx : Addr} {fs : List (Str × V)} {f : Str} {v : V} {D : Ends}
theorem r_fld (h : ta σ H fun x H1 => ∃ a C dx fs v, x = .ref a ∧ H1 a = some (.ins C dx fs) ∧ Cls K C ∧ NoAttr K C f ∧ fs.lookup f = some v ∧ Q v H1) : tFld K ta f σ H Q := h
theorem r_get {F : V → Prop} (e : H a = some (.ins C dx fs)) (c : Cls K C) (n : NoAttr K C f) (l : fs.lookup f = some v) (h : F v) : ∃ a' C dx fs v, V.ref a = .ref a' ∧ H a' = some (.ins C dx fs) ∧ Cls K C ∧ NoAttr K C f ∧ fs.lookup f = some v ∧ F v := ⟨a, C, dx, fs, v, rfl, e, c, n, l, h⟩
theorem r_sfld (h : tv σ H fun y H1 => ta σ H1 fun x H2 => ∃ a C dx fs, x = .ref a ∧ H2 a = some (.ins C dx fs) ∧ Cls K C ∧ NoAttr K C f ∧ fs.length < 1000 ∧ D.nx σ (upd H2 a (.ins C dx (putF f y fs)))) : sFld K ta tv f D σ H := h
theorem r_put {F : Hp → Prop} {y : V} (e : H a = some (.ins C dx fs)) (c : Cls K C) (n : NoAttr K C f) (l : fs.length < 1000) (h : F (upd H a (.ins C dx (putF f y fs)))) : ∃ a' C dx fs, V.ref a = .ref a' ∧ H a' = some (.ins C dx fs) ∧ Cls K C ∧ NoAttr K C f ∧ fs.length < 1000 ∧ F (upd H a' (.ins C dx (putF f y fs))) := ⟨a, C, dx, fs, rfl, e, c, n, l, h⟩
theorem r_meth {m : Str} {sp : Sp} {dvs : List V} {E : XK} {ts : TA} (h : ta σ H fun x H1 => ∃ a dx fs, x = .ref a ∧ H1 a = some (.ins C dx fs) ∧ fs.lookup m = none ∧ ts σ H1 fun vs H2 => sp (x :: (vs ++ dvs)) H2 Q E) : tMeth C m sp dvs E ta ts σ H Q := h
theorem r_who {m : Str} {A : Prop} (e : H a = some (.ins C dx fs)) (l : fs.lookup m = none) (h : A) : ∃ a' dx fs, V.ref a = .ref a' ∧ H a' = some (.ins C dx fs) ∧ fs.lookup m = none ∧ A := ⟨a, dx, fs, rfl, e, l, h⟩
theorem r_make {sp : Sp} {dvs : List V} {E : XK} {ts : TA} (h : ts σ H fun vs H1 => ∀ x dx, H1 x = none → H1 dx = none → dx ≠ x → sp (.ref x :: (vs ++ dvs)) (upd (upd H1 dx (.own x)) x (.ins C dx [])) (fun v H2 => v = .non ∧ Q (.ref x) H2) E) : tMake C sp dvs E ts σ H Q := h
end
theorem same_make {H H' : Hp} {x dx C : Addr} (nx : H x = none) (nd : H dx = none) (s : ∀ b o, (upd (upd H dx (.own x)) x (.ins C dx [])) b = some o → b ≠ x → H' b = some o) : Same H H' := fun b o e =>
  s b o (by rw [upd_ne (ne_of_none e nx), upd_ne (ne_of_none e nd)]; exact e) (ne_of_none e nx)
/-! ### defs that may ask repr of lists and tuples: called where no repr is under way -/
structure FnG (P : Program) (w : World) (K : PySem.W.Frag) (mg : Str → Option Value) (base : Heap) (CX : CXT) (k : Nat) (f : Addr) (fd : FuncData) (ps : List Str) (sp : Sp) : Prop where
  len : ∀ vs H Q E, sp vs H Q E → vs.length = ps.length
  run : ∀ (A : Around) (outer : List Env) (s : Shared) (H : Hp) (args : Args) (us : List Value) (vs : List V) (Q : VK) (E : XK), A.guards = some [] → Room k A → Env0 P w K mg base A outer s H →
    BindsTo s fd args (ps.zip us) → Vals vs us → sp vs H Q E → codeAny (model P w) A (.call (.ref f) args) (CR CX outer P w H s Q E) s
section
variable {P : Program} {w : World} {K : PySem.W.Frag} {mg : Str → Option Value} {base : Heap}
theorem okG {x qual : Str} {st : Stmt} {f : Addr} {fd : FuncData} {N ps : List Str} {k : Nat} {sp : Sp} (F : Fun K x qual st f fd) (S : FnScope N ps (defScope st)) (len : ∀ vs H Q E, sp vs H Q E → vs.length = ps.length)
    (hbody : ∀ (cdv : Value) (A : Around) (outer : List Env) (s : Shared) (H : Hp) (vs : List V) (Q : VK) (E : XK), A.guards = some [] → Room k (A.deeper (envOfC qual (defScope st) s.heap.objs.size f cdv)) → sp vs H Q E →
      ∃ t, PSs (cxOf CX0 P w K mg base N qual (defScope st) f cdv A outer s H E).nox (defBody st) t ∧ t { nx := fun _ H' => Q .non H', rt := Q } (start N vs) H) : FnG P w K mg base CX0 (k + 1) f fd ps sp := by
  obtain ⟨oc, od, kV, doc, pm, an, cdv, ct, osl, rfl, lk, hcd⟩ := F.ex
  refine ⟨len, fun A outer s H args us vs Q E hG hr e0 hb r hsp => ?_⟩
  -- the body's reading is kept for this around alone: elsewhere the promise is not asked
  have inn : K.In s.heap := e0.mod.kin.keeps fun b o e => (e0.bs b o e).1
  have nol : s.heap.NoLimit := e0.mod.nolimit.keeps fun b o e => (e0.bs b o e).1
  have par : ∀ y ∈ ps.zip us, (defScope st).names.lookup y.1 = some .local ∨ ((defScope st).names.lookup y.1 = some .cell ∧ ((cellsFrom (s.heap.objs.size + 1) (defScope st).names []).lookup y.1).isSome = true) := by
    intro y hy
    have hm : y.1 ∈ ps := (List.of_mem_zip (show (y.1, y.2) ∈ ps.zip us from hy)).1
    exact (S.par y.1 hm).imp (fun z => z) fun z => ⟨z, PySem.W.cellsFrom_some _ _ _ (.inl z)⟩
  obtain ⟨t, ht, hq⟩ := hbody cdv A outer s H vs Q E hG (hr.deeper _) hsp
  refine codeAny_call_function hr.depth (inn _ _ lk) rfl S.co S.gen rfl (PySem.W.codeRec_of inn hcd) (hb _ _ _ _ ?_)
  refine wpAny_newFunctionEnv_cells S.kind par fun env he s1 x => ?_
  subst he
  refine ⟨nol.keeps x.toInCall.keep, codeAny_func ?_⟩
  have I := inv_start (CX := CX0) (E := E) S hr.hd e0 (len _ _ _ _ hsp) r x
  refine wpAny_mono (ht.nox.run [] s1 (start N vs) H _ I hq) (fun fl s' hs => ?_) fun e s' hs => hs
  cases fl with
  | ret u =>
    obtain ⟨v, σ', H', J, rv, q⟩ := hs
    exact ⟨v, H', J.os, J.bare, J.base, J.hok, rv, q⟩
  | next =>
    obtain ⟨σ', H', J, q⟩ := hs
    exact ⟨V.non, H', J.os, J.bare, J.base, J.hok, rfl, q⟩
  | brk => exact False.elim hs.choose_spec.choose_spec.2
  | cont => exact False.elim hs.choose_spec.choose_spec.2
theorem deeper_guards {A : Around} {env : Env} (h : A.guards = some []) : (A.deeper env).guards = some [] := h
end
section
variable {X : Cx} {CX : CXT} {k : Nat} {f : Addr} {fd : FuncData} {ps : List Str} {sp : Sp} {dvs : List V} {ds : List Value} {E : XK} {x : Str} {p pos : Pos} {e : Expr} {es : List Expr} {t : TA}
theorem pe_callG (hG : X.A.guards = some []) (F : FnG X.prog X.w X.K X.mg X.base CX k f fd ps sp) (hr : Room k X.A) (hg : Gl X x) (hm : X.mg x = some (.ref f)) (hk : PySem.W.keepIn X.K (.ref f) = true) (hb : Binds X.K fd ps ds) (hd : Vals dvs ds) (hx : Passes CX X E)
    (ha : PA X (e :: es) t) (hdb : (x == ("__debug__" : Str)) = false := by decide) (he : starEach (e :: es) X.env = (false, eval e X.env) :: starEach es X.env := by rfl) (hpl : (backTo pos (starEach es X.env)).any (fun q => q.1) = false := by rfl) :
    PE X (.Call (.Name x p) (e :: es) [] pos) (tCall sp dvs E t) := by
  refine ⟨fun pins s σ H Q I h => wpAny_Call_Name_kw (ld_glob I hg hm ?_ hdb)⟩
  refine PySem.W.callWith_K (h₀ := X.base) I.ok.mod.kin hk (thn (ha.run pos pins s σ H _ I h) fun us s1 hh => ?_) he hpl
  obtain ⟨vs, H1, I1, r, q⟩ := hh
  refine ⟨I1.kIn, ?_⟩
  have r2 : Vals (vs ++ dvs) (us ++ ds) := r.append hd
  have hl : (us ++ ds).length = ps.length := by rw [← r2.length]; exact F.len _ _ _ _ q
  refine wpAny_call (codeAny_mono (F.run X.A X.stack s1 H1 ⟨us, []⟩ (us ++ ds) (vs ++ dvs) Q E hG hr I1.env0 (hb s1 us I1.kIn hl) r2 q) fun r s' hq => ?_)
  match r, hq with
  | .error e, hq => exact hx pins σ H1 s1 e s' I1 hq
  | .ok (.ret u), hq => exact I1.after hq
  | .ok .next, hq => exact False.elim hq
  | .ok .brk, hq => exact False.elim hq
  | .ok .cont, hq => exact False.elim hq
/-- repr of a list or a tuple of plain things -/
def rRepr (K : PySem.W.Frag) : List V → Hp → VK → Prop := fun xs H Q => ∃ (a : Addr) (d : PyData), xs = [.ref a] ∧ Dp K H (.ref a) d ∧ d.showable = true ∧ d.hasDict = false ∧ d.depth ≤ 20 ∧ d.shown.length ≤ sizeLine ∧ Q (.str d.shown) H
theorem call_repr (hG : X.A.guards = some []) (hu : X.A.units + 64 < cLine) : CallR X (.builtin "repr") (rRepr X.K) := by
  intro pins s σ H xs us Q I r h
  obtain ⟨a, d, rfl, hd, hs, hn, hdp, hz, q⟩ := h
  obtain ⟨u, rfl, ru⟩ := vals1 r
  cases (show u = Value.ref a from ru)
  obtain ⟨as, rd⟩ := Dp.reads I d _ _ hd rfl
  exact repr_of_reads' rd hs (fun z => by rw [hn] at z; cases z) hG (by omega) (fun _ _ z => z) (fun h' u tk hk => ⟨.str d.shown, H, I.kept hk, ⟨u, rfl⟩, q⟩) hz
end
/-! ### the law's own call, of a def of that kind -/
section
variable {P : Program} {w : World} {K : PySem.W.Frag} {mg mb : Str → Option Value} {k : Nat} {fa a : Addr} {fd : FuncData} {x : Str} {sp : Sp} {s : Shared} {vs : List Value} {ns : List Int}
/-- the script alone may be tracked: where it is, what of it is known -/
structure Alone (P : Program) (w : World) (K : PySem.W.Frag) (s : Shared) (a : Addr) (ns : List Int) (H : Hp) : Prop where
  only : Only H
  seq : SqL K H a (ns.map V.int)
  ok : HOk P w H s.heap
  at_ : ∀ b u, H b = some u → b = a
  out : ∀ u, H a = some u → K.lookup a = none
theorem alone_ex (inn : K.In s.heap) (ha : s.heap.get? a = some { cls := .type "list", data := .seq vs.toArray }) (hi : IntsAre vs ns) (hl : ns.length ≤ sizeLine) : ∃ H, Alone P w K s a ns H := by
  have rv := vals_ints hi
  cases hk : K.lookup a with
  | some o =>
    obtain rfl : o = { cls := .type "list", data := .seq vs.toArray } := Option.some.inj ((inn a o hk).symm.trans ha)
    refine ⟨fun _ => none, fun _ => .inl rfl, .inr ⟨_, vs.toArray, _, hk, rfl, rfl, rfl, ?_, ?_⟩, fun _ _ z => (by cases z), fun _ _ z => (by cases z), fun _ z => (by cases z)⟩
    · rw [List.size_toArray, hi.length]; exact hl
    · rw [List.toList_toArray]; exact rv
  | none =>
    have one : ∀ b u, (upd (fun _ => none) a (.frz { cls := .type "list", data := .seq vs.toArray } (.lst (ns.map V.int)))) b = some u → b = a := fun b u z => by
      by_cases hb : b = a
      · exact hb
      · rw [upd_ne hb] at z; cases z
    refine ⟨upd (fun _ => none) a (.frz { cls := .type "list", data := .seq vs.toArray } (.lst (ns.map V.int))), fun b => ?_, .inl (.inr ⟨_, upd_same⟩), fun b u z => ?_, one, fun _ _ => hk⟩
    · by_cases hb : b = a
      · subst hb; exact .inr ⟨_, _, upd_same⟩
      · exact .inl (upd_ne hb)
    · obtain rfl := one b u z
      rw [upd_same] at z
      cases z
      exact ⟨ha, by rw [List.length_map]; exact hl, vs, _, rv, ha⟩
theorem law_callG (inn : K.In s.heap) (hns : s.heap.Ns mainGlobals mg) (hb : s.heap.Ns builtinsNs mb) (hbb : ∀ x : Str, x ≠ "__name__" → mb x = bootBuiltins x) (hlim : s.heap.NoLimit) (hg : s.gens = #[])
    (ha : s.heap.get? a = some { cls := .type "list", data := .seq vs.toArray }) (hi : IntsAre vs ns) (hl : ns.length ≤ sizeLine) (hr : Room k callerA)
    (F : ∀ base : Heap, K.In base → base.Ns mainGlobals mg → FnG P w K mg base CX0 k fa fd [x] sp) (hbind : ∀ (s : Shared) (u : Value), BindsTo s fd ⟨[u], []⟩ [(x, u)])
    (hsp : ∀ H : Hp, Only H → SqL K H a (ns.map V.int) → sp [.ref a] H (fun v _ => v = .bl true) fun _ _ _ => False) :
    codeAny (model P w) callerA (.call (.ref fa) ⟨[.ref a], []⟩) (fun r s' => r = .ok (.ret (.bool true)) ∧ OldK s.heap s'.heap ∧ s'.os = s.os ∧ AllBare s'.gens) s := by
  obtain ⟨H, N⟩ := alone_ex (P := P) (w := w) inn ha hi hl
  -- a dict is not the script: it is not tracked
  have free : ∀ {b : Addr} {o : Obj}, s.heap.get? b = some o → (∀ its n, o.data ≠ .seq its n) → H b = none := fun {b o} e z => by
    cases q : H b with
    | none => rfl
    | some u =>
      obtain rfl := N.at_ b u q
      rw [ha] at e
      cases e
      exact absurd rfl (z _ _)
  have space : ∀ {b : Addr} {m : Str → Option Value}, s.heap.Ns b m → (hidT s.heap H).Ns b m := fun {b m} z => by
    obtain ⟨o, es, ep, e, d, r⟩ := z
    exact ⟨o, es, ep, hidT_get e (free e fun _ _ y => by rw [d] at y; cases y), d, r⟩
  have inb : K.In (hidT s.heap H) := fun b o e => hidT_get (inn b o e) (by
    cases q : H b with
    | none => rfl
    | some u =>
      obtain rfl := N.at_ b u q
      rw [N.out u q] at e
      cases e)
  have md : Mod K mg (hidT s.heap H) := by
    obtain ⟨mc, l1, l2⟩ := hlim
    exact ⟨inb, space hns, ⟨mb, space hb, hbb⟩, mc, space l1, l2⟩
  have e0 : Env0 P w K mg (hidT s.heap H) callerA [] s H := ⟨rfl, md, fun _ _ e => of_hidT e, Nat.le_of_eq (hidT_size _ _), trivial, fun _ z => (nomatch z), N.ok, .of_eq hg⟩
  refine codeAny_mono ((F _ inb (space hns)).run callerA [] s H ⟨[.ref a], []⟩ [.ref a] [.ref a] _ _ rfl hr e0 (hbind s (.ref a)) (.cons rfl .nil) (hsp H N.only N.seq)) fun r s' h => ?_
  match r, h with
  | .error e, h => exact False.elim h
  | .ok .next, h => exact False.elim h
  | .ok .brk, h => exact False.elim h
  | .ok .cont, h => exact False.elim h
  | .ok (.ret u), h =>
    obtain ⟨v, H', os, bare, un, ok', r', q⟩ := h
    obtain rfl : v = .bl true := q
    obtain rfl : u = Value.bool true := r'
    refine ⟨rfl, OldK.of_keep fun b o e => ?_, os, bare⟩
    cases q : H b with
    | none => exact un.keep b o e q (fun z => (nomatch z)) (fun z => (nomatch z))
    | some u =>
      rcases N.only b with z | ⟨ob, xs, z⟩
      · rw [q] at z; cases z
      · have e1 : s.heap.get? b = some ob := (show ObjOk P w H s.heap b (.frz ob (.lst xs)) from N.ok b _ z).1
        have e2 : s'.heap.get? b = some ob := (show ObjOk P w H' s'.heap b (.frz ob (.lst xs)) from ok' b _ (un.frzs b ob _ z)).1
        exact (Option.some.inj (e.symm.trans e1)) ▸ e2
end
theorem walk_ofG {l : PySem.W.OpenLaw} {n k : Nat} {q : Program} {loose : List Str} {XP : (Str → Option Value) → Heap → Prop} {YP : World → Heap → Prop} {d : DefRec} {K : Params → PySem.W.Frag} {sp : World → Sp} {x : Str}
    (hn : l.most = some n) (hn2 : n ≤ sizeLine) (hdf : d.params.defaults = []) (hr : Room k callerA) (hY : ∀ (w : World) (h : Heap), YP w h → (K w.params).In h)
    (F : ∀ (w : World) (mg : Str → Option Value) (fa : Addr) (h : Heap), (K w.params).In h → h.Ns mainGlobals mg → mg d.name = some (.ref fa) →
      ∃ fd : FuncData, (∀ (s : Shared) (u : Value), BindsTo s fd ⟨[u], []⟩ [(x, u)]) ∧ ∀ base : Heap, (K w.params).In base → base.Ns mainGlobals mg → FnG l.prog w (K w.params) mg base CX0 k fa fd [x] (sp w))
    (hsp : ∀ (w : World) (H : Hp) (a : Addr) (ns : List Int), ns.length ≤ n → Only H → SqL (K w.params) H a (ns.map V.int) → sp w [.ref a] H (fun v _ => v = .bl true) fun _ _ _ => False) :
    PySem.W.WalkO q loose XP YP l.row.toRowW d [] (fun f vs => PySem.call f vs) := by
  refine Att.attach_call hn hdf fun w s0 s1 mg mb fa o pm cd doc a vs ns G Y ho hd hcd hmg hobj hints hlen hg => ?_
  obtain ⟨fd, hb, hF⟩ := F w mg fa _ (hY w _ Y) G.T.g hmg
  exact law_callG (hY w _ Y) G.T.g G.T.b G.T.builtins G.T.nolimit hg hobj hints (Nat.le_trans hlen hn2) hr hF hb fun H hO hS => hsp w H a ns hlen hO hS
/-! ### new instances whose __init__ may raise, within a try: what is raised is wished for at the slots -/
section
variable {X : Cx} {CX : CXT} {k : Nat} {f C : Addr} {fd : FuncData} {ps ks : List Str} {sp : Sp} {x : Str} {p pos : Pos} {e : Expr} {es : List Expr} {kws : List Keyword} {t tk : TA} {g : List Value → List Value → List Value} {gV : List V → List V → List V}
theorem run_makeA {pins : List (Addr × Obj)} {σ : L2.St} {H : Hp} {s : Shared} {Q : VK} {E : XK} {us : List Value} {kw : List (Str × Value)} {fu : Value → List Value} {fv : V → List V} (M : Mk X.K C f) (F : FnOk X.prog X.w X.K X.mg X.base CX k f fd ps sp) (hr : Room (k + 1) X.A)
    (hb : ∀ (s' : Shared) (v : Value), X.K.In s'.heap → BindsTo s' fd ⟨v :: us, kw⟩ (ps.zip (fu v))) (rr : ∀ a : Addr, Vals (fv (.ref a)) (fu (.ref a))) (hx : PassesAt CX X σ E) (I : Inv X pins σ H s)
    (h : ∀ x dx, H x = none → H dx = none → dx ≠ x → sp (fv (.ref x)) (upd (upd H dx (.own x)) x (.ins C dx [])) (fun v H2 => v = .non ∧ Q (.ref x) H2) E) :
    wpAny (model X.prog X.w) X.A (call (.ref C) us kw) (EP X pins σ Q) X.xe s := by
  have I2 := Inv.made (C := C) I
  have hq := h (s.heap.objs.size + 1) s.heap.objs.size (I.hok.fresh (Nat.le_succ _)) (I.hok.fresh (Nat.le_refl _)) (Nat.ne_of_lt (Nat.lt_succ_self _))
  refine wpAny_call (make_map (f := f) I.kIn M.makes M.init (beq_iff_eq.mp M.fn) (codeAny_mono (F.run _ X.stack _ _ ⟨Value.ref (s.heap.objs.size + 1) :: us, kw⟩ (fu (.ref (s.heap.objs.size + 1))) (fv (.ref (s.heap.objs.size + 1))) _ E
    (hr.make C us kw) (I2.env0.make C us kw) (hb _ _ I2.kIn) (rr _) hq) fun r s' z => ?_))
  match r, z with
  | .error e, z => exact hx pins _ _ e s' I2 z
  | .ok .next, z => exact False.elim z
  | .ok .brk, z => exact False.elim z
  | .ok .cont, z => exact False.elim z
  | .ok (.ret u), z =>
    obtain ⟨v, H', I3, rv, rfl, q3⟩ := I2.after z
    exact ⟨rv, .ref (s.heap.objs.size + 1), H', I3, rfl, q3⟩
def tMakeS (C : Addr) (sp : Sp) (E : L2.St → XK) (t : TA) : TE := fun σ H Q => t σ H fun vs H1 => ∀ x dx, H1 x = none → H1 dx = none → dx ≠ x → sp (.ref x :: vs) (upd (upd H1 dx (.own x)) x (.ins C dx [])) (fun v H2 => v = .non ∧ Q (.ref x) H2) (E σ)
def tMakeKS (C : Addr) (m : Nat) (sp : Sp) (gV : List V → List V → List V) (E : L2.St → XK) (tk : TA) : TE := fun σ H Q => tk σ H fun zs H1 => zs.length = m ∧ ∀ x dx, H1 x = none → H1 dx = none → dx ≠ x → sp (gV [.ref x] zs) (upd (upd H1 dx (.own x)) x (.ins C dx [])) (fun v H2 => v = .non ∧ Q (.ref x) H2) (E σ)
theorem pe_makeS {E : L2.St → XK} (M : Mk X.K C f) (F : FnOk X.prog X.w X.K X.mg X.base CX k f fd ps sp) (hr : Room (k + 1) X.A) (hg : Gl X x) (hm : X.mg x = some (.ref C)) (hb : Binds X.K fd ps []) (hx : ∀ σ, PassesAt CX X σ (E σ)) (ha : PA X (e :: es) t)
    (hdb : (x == ("__debug__" : Str)) = false := by decide) (he : starEach (e :: es) X.env = (false, eval e X.env) :: starEach es X.env := by rfl) (hpl : (backTo pos (starEach es X.env)).any (fun q => q.1) = false := by rfl) :
    PE X (.Call (.Name x p) (e :: es) [] pos) (tMakeS C sp E t) := by
  refine ⟨fun pins s σ H Q I h => wpAny_Call_Name_kw (ld_glob I hg hm ?_ hdb)⟩
  refine PySem.W.callWith_K (h₀ := X.base) I.ok.mod.kin M.kp (thn (ha.run pos pins s σ H _ I h) fun us s1 hh => ?_) he hpl
  obtain ⟨vs, H1, I1, r, q⟩ := hh
  refine ⟨I1.kIn, ?_⟩
  have hq := q (s1.heap.objs.size + 1) s1.heap.objs.size (I1.hok.fresh (Nat.le_succ _)) (I1.hok.fresh (Nat.le_refl _)) (Nat.ne_of_lt (Nat.lt_succ_self _))
  have hl := F.len _ _ _ _ hq
  have hl2 : vs.length = us.length := r.length
  refine run_makeA (fu := fun v => v :: us) (fv := fun v => v :: vs) M F hr (fun s' v inn => ?_) (fun a => .cons rfl r) (hx σ) I1 q
  have z := hb s' (v :: us) inn (by rw [List.append_nil, List.length_cons, ← hl2]; exact hl)
  rw [List.append_nil] at z
  exact z
theorem pe_makeKS {E : L2.St → XK} (M : Mk X.K C f) (F : FnOk X.prog X.w X.K X.mg X.base CX k f fd ps sp) (hr : Room (k + 1) X.A) (hg : Gl X x) (hm : X.mg x = some (.ref C)) (hb : KBn X.K fd ps 1 ks g gV) (hx : ∀ σ, PassesAt CX X σ (E σ)) (hkw : PK X kws tk)
    (hall : (backToKw pos (keywordEach kws X.env)).all (fun q => q.1.isSome) = true := by rfl) (hks : (backToKw pos (keywordEach kws X.env)).filterMap (fun q => q.1) = ks := by rfl) (hdb : (x == ("__debug__" : Str)) = false := by decide)
    (hpl : ((backTo pos (starEach [] X.env)).any (fun q => q.1) || (backToKw pos (keywordEach kws X.env)).any (fun q => q.1.isNone)) = false := by rfl) :
    PE X (.Call (.Name x p) [] kws pos) (tMakeKS C ks.length sp gV E tk) := by
  refine ⟨fun pins s σ H Q I h => wpAny_Call_Name_kw (ld_glob I hg hm ?_ hdb)⟩
  refine PySem.W.callWith_KW0 (h₀ := X.base) I.ok.mod.kin M.kp hall (thn (hkw.run pos pins s σ H _ I h) fun ws s2 hh => ?_) hpl
  obtain ⟨zs, H2, I2, rz, l2, q2⟩ := hh
  refine ⟨I2.kIn, ?_⟩
  rw [hks]
  exact run_makeA (fu := fun v => g [v] ws) (fv := fun v => gV [v] zs) M F hr (fun s' v inn => hb.to s' [v] ws inn rfl (rz.length.symm.trans l2)) (fun a => hb.rel (.cons rfl .nil) rz) (hx σ) I2 q2
theorem kb_mk1 {K : PySem.W.Frag} {x qual : Str} {st : Stmt} {f : Addr} {fd : FuncData} {ps ks : List Str} {g : List Value → List Value → List Value} {gV : List V → List V → List V} (F : Fun K x qual st f fd)
    (h : ∀ (kV doc pm : Value) (an : Option Addr) (cdv ct : Value) (v : Value) (ws : List Value), ws.length = ks.length → bindArgs (PySem.W.fnOf x qual (defArgs st) (defBody st) (defScope st) .none kV doc pm an cdv ct) ⟨[v], ks.zip ws⟩ = pure (ps.zip (g [v] ws)))
    (hrel : ∀ {vs : List V} {us : List Value} {zs : List V} {ws : List Value}, Vals vs us → Vals zs ws → Vals (gV vs zs) (g us ws)) : KBn K fd ps 1 ks g gV := by
  obtain ⟨oc, od, kV, doc, pm, an, cdv, ct, osl, rfl, lk, hcd⟩ := F.ex
  refine ⟨fun s us ws _ l1 l2 => ?_, hrel⟩
  match us, l1 with
  | [v], _ => exact .of_eq (h kV doc pm an cdv ct v ws l2)
/-- isinstance(e, C), e the caught exception, where its class is C or below it -/
def rIsEp (K : PySem.W.Frag) (cls : Value) (a : Addr) : List V → Hp → VK → Prop := fun xs H Q => ∃ C' : Addr, xs = [.ref a, .ref C'] ∧ PySem.W.isIn K cls C' = true ∧ Q (.bl true) H
theorem call_isEp {a : Addr} {oe : Obj} {cls : Value} {d : Option Addr} {pn : List (Addr × Obj)} (hz : Zc cls d oe) : CallR (X.suite a ((a, oe) :: pn)) (.builtin "isinstance") (rIsEp X.K cls a) := by
  intro pins s σ H xs us Q I r h
  obtain ⟨C', rfl, e, q⟩ := h
  obtain ⟨u1, u2, rfl, r1, r2⟩ := vals2 r
  cases (show u1 = Value.ref a from r1)
  cases (show u2 = Value.ref C' from r2)
  obtain ⟨hget, _⟩ := I.pin (a, oe) (List.mem_append.mpr (.inl List.mem_cons_self))
  exact PySem.W.isi_call I.kIn (fun M A Q E s k q => wpAny_typeOf_ref (k _ _ hget) (by rw [hz.1]; exact q)) e (fun z => nomatch z) ⟨.bl true, H, I, rfl, q⟩
end
section
variable {σ : L2.St} {H : Hp} {Q : VK} {K : PySem.W.Frag} {C : Addr} {sp : Sp} {D : Ends}
theorem r_makeS {E : L2.St → XK} {t : TA} (h : t σ H fun vs H1 => ∀ x dx, H1 x = none → H1 dx = none → dx ≠ x → sp (.ref x :: vs) (upd (upd H1 dx (.own x)) x (.ins C dx [])) (fun v H2 => v = .non ∧ Q (.ref x) H2) (E σ)) : tMakeS C sp E t σ H Q := h
theorem r_makeKS {m : Nat} {gV : List V → List V → List V} {E : L2.St → XK} {tk : TA} (h : tk σ H fun zs H1 => zs.length = m ∧ ∀ x dx, H1 x = none → H1 dx = none → dx ≠ x → sp (gV [.ref x] zs) (upd (upd H1 dx (.own x)) x (.ins C dx [])) (fun v H2 => v = .non ∧ Q (.ref x) H2) (E σ)) : tMakeKS C m sp gV E tk σ H Q := h
theorem r_xf {a : Addr} {cls : Value} {d : Option Addr} {f : Str} {te : TE} (h : te σ H fun x H1 => x = .ref a ∧ cls = .ref C ∧ ∃ (dd : Addr) (fs : List (Str × V)) (v : V), d = some dd ∧ H1 dd = some (.xd fs) ∧ fs.lookup f = some v ∧ Q v H1) : tXf a cls d C f te σ H Q := h
theorem r_isEp {cls : Value} {a C' : Addr} (e : PySem.W.isIn K cls C' = true) (h : Q (.bl true) H) : rIsEp K cls a [.ref a, .ref C'] H Q := ⟨C', rfl, e, h⟩
/-- self.f = e in an exception's __init__: the first field, a later one -/
theorem r_ost {f : Str} {to te : TE} (h : te σ H fun y H1 => to σ H1 fun x H2 => ∃ a C : Addr, x = .ref a ∧ OexC K C ∧ PySem.W.findIn K (.ref C) f = some none ∧
  ((H2 a = some (exo a C none) ∧ ∀ dx, H2 dx = none → dx ≠ a → D.nx σ (upd (upd H2 dx (exd dx [(f, y)])) a (exo a C (some dx)))) ∨
    ∃ (dx : Addr) (fs : List (Str × V)), H2 a = some (exo a C (some dx)) ∧ H2 dx = some (exd dx fs) ∧ fs.length ≤ 900 ∧ D.nx σ (upd H2 dx (exd dx ((f, y) :: fs))))) : tOst K f to te D σ H := h
theorem r_ost1 {a : Addr} {f : Str} {F G : Addr → Addr → Prop} {Z : Addr → Addr → Prop} (T : OexC K C) (n : PySem.W.findIn K (.ref C) f = some none) (ha : H a = some (exo a C none)) (h : F a C) : ∃ a' C : Addr, V.ref a = .ref a' ∧ OexC K C ∧ PySem.W.findIn K (.ref C) f = some none ∧ ((H a' = some (exo a' C none) ∧ F a' C) ∨ G a' C) := ⟨a, C, rfl, T, n, .inl ⟨ha, h⟩⟩
end
/-! ### wrappers that name the written part: for comprehensions, try bodies, suites -/
section
variable {X : Cx} {K : PySem.W.Frag} {o e : Expr} {f : Str} {ta te : TE} {pos : Pos}
theorem pe_fldK (ha : PE X o ta) (hK : X.K = K := by rfl) (hb : attributeBase o f X.env (eval o X.env) = eval o X.env := by rfl) : PE X (.Attribute o f pos) (tFld K ta f) := by
  subst hK
  exact pe_fld ha hb
end
/-! ### a + b by an own def that may raise, within a try -/
def tBinS (C : Addr) (sp : Sp) (E : L2.St → XK) (ta tb : TE) : TE := fun σ H Q => ta σ H fun x H1 => tb σ H1 fun y H2 => ∃ a dx fs b dy gs, x = .ref a ∧ y = .ref b ∧ H2 a = some (.ins C dx fs) ∧ H2 b = some (.ins C dy gs) ∧ sp [x, y] H2 Q (E σ)
section
variable {X : Cx} {CX : CXT} {k : Nat} {g C : Addr} {fd : FuncData} {ps : List Str} {sp : Sp} {a b : Expr} {ta tb : TE} {pos : Pos} {op : Operator}
theorem pe_binS {E : L2.St → XK} (hc : PySem.W.selfFirst X.K C = true) (hs : PySem.W.findIn X.K (.ref C) (PySem.dunder op.info.2) = some (some (.ref g))) (hf : PySem.W.isFn X.K (.ref g) = true) (F : FnOk X.prog X.w X.K X.mg X.base CX k g fd ps sp) (hr : Room k X.A) (hb : Binds X.K fd ps []) (hx : ∀ σ, PassesAt CX X σ (E σ))
    (h1 : PE X a ta) (h2 : PE X b tb) : PE X (.BinOp a op b pos) (tBinS C sp E ta tb) := by
  refine ⟨fun pins s σ H Q I h => wpAny_BinOp (binT h1 h2 I h fun v u s2 x y H2 I2 rx ry q => ?_)⟩
  obtain ⟨p, dx, fs, r, dy, gs, rfl, rfl, ha, hb', q⟩ := q
  cases (show v = Value.ref p from rx)
  cases (show u = Value.ref r from ry)
  obtain ⟨ox, od, J⟩ := inst_at I2 ha
  obtain ⟨oy, oe, J'⟩ := inst_at I2 hb'
  obtain ⟨m, hF⟩ := I2.fr
  refine PySem.W.binop_K (op := op) hF I2.ok.mod.kin J J'.type hc hs hf (wpAny_mono (run_fnS (us := [.ref p, .ref r]) (vs := [.ref p, .ref r]) F hr hb (hx σ) I2 (.cons rfl (.cons rfl .nil)) q) (fun w s' z => ?_) fun _ _ e => e)
  obtain ⟨z', H', I', rz, qz⟩ := z
  exact cmpb rz ⟨z', H', I', rz, qz⟩
end
theorem r_binS {σ : L2.St} {H : Hp} {Q : VK} {C : Addr} {sp : Sp} {E : L2.St → XK} {ta tb : TE} (h : ta σ H fun x H1 => tb σ H1 fun y H2 => ∃ a dx fs b dy gs, x = .ref a ∧ y = .ref b ∧ H2 a = some (.ins C dx fs) ∧ H2 b = some (.ins C dy gs) ∧ sp [x, y] H2 Q (E σ)) : tBinS C sp E ta tb σ H Q := h
/-! ### ends: None or an int -/
def endV : Option Int → V
  | none => .non
  | some i => .int i
def endD : Option Int → PyData
  | none => .none
  | some i => .int i
/-- a small end: what repr takes -/
def EndOk (e : Option Int) : Prop := ∀ i, e = some i → -(10 ^ 60) < i ∧ i < 10 ^ 60
theorem log_ok {i : Int} (h : -(10 ^ 60) < i ∧ i < 10 ^ 60) : i.natAbs.log2 < 1920 := by
  have h1 : i.natAbs < 2 ^ 200 := by
    have : i.natAbs < 10 ^ 60 := by omega
    exact Nat.lt_trans this (by decide)
  have h2 : i.natAbs.log2 < 200 := by
    by_cases e : i.natAbs = 0
    · rw [e]; decide
    · exact (Nat.log2_lt e).mpr h1
  omega
theorem dp_end {K : PySem.W.Frag} {H : Hp} (e : Option Int) : Dp K H (endV e) (endD e) := by
  cases e with
  | none => exact .non
  | some i => exact .int i
theorem show_end {e : Option Int} (h : EndOk e) : (endD e).showable = true := by
  cases e with
  | none => rfl
  | some i => exact decide_eq_true (log_ok (h i rfl))
theorem len_end {e : Option Int} (h : EndOk e) : ((endD e).shown).length ≤ 2000 := by
  cases e with
  | none => decide +kernel
  | some i => exact Nat.le_trans (PyProof.Rows.int_text_len_1921 (log_ok (h i rfl))) (by decide)
section
variable {H : Hp} {Q : VK} {K : PySem.W.Frag} {X : Cx}
def rIsNo : R2 := fun x y H Q => y = .non ∧ Q (.bl (decide (x = .non))) H
def rNotNo : R2 := fun x y H Q => y = .non ∧ Q (.bl (!decide (x = .non))) H
theorem o_isN : OpR X (compareOp .Is) rIsNo := op_isN
theorem o_notN : OpR X (compareOp .IsNot) rNotNo := op_notN
theorem r_isNe {e : Option Int} (h : Q (.bl (!e.isSome)) H) : rIsNo (endV e) .non H Q := by
  cases e with
  | none => exact ⟨rfl, h⟩
  | some i => exact ⟨rfl, h⟩
theorem r_notNe {e : Option Int} (h : Q (.bl e.isSome) H) : rNotNo (endV e) .non H Q := by
  cases e with
  | none => exact ⟨rfl, h⟩
  | some i => exact ⟨rfl, h⟩
theorem r_isNi {i : Int} (h : Q (.bl false) H) : rIsNo (.int i) .non H Q := ⟨rfl, h⟩
theorem r_isNn (h : Q (.bl true) H) : rIsNo .non .non H Q := ⟨rfl, h⟩
theorem r_isNr {a : Addr} (h : Q (.bl false) H) : rIsNo (.ref a) .non H Q := ⟨rfl, h⟩
theorem r_notNi {i : Int} (h : Q (.bl true) H) : rNotNo (.int i) .non H Q := ⟨rfl, h⟩
theorem r_notNn (h : Q (.bl false) H) : rNotNo .non .non H Q := ⟨rfl, h⟩
theorem r_notNr {a : Addr} (h : Q (.bl true) H) : rNotNo (.ref a) .non H Q := ⟨rfl, h⟩
/-- repr of a list of two ends -/
theorem r_repr2 {a : Addr} {b c : Option Int} (h : H a = some (.lst [endV b, endV c])) (hb : EndOk b) (hc : EndOk c) (q : Q (.str (PyData.list [endD b, endD c]).shown) H) : rRepr K [.ref a] H Q := by
  refine ⟨a, .list [endD b, endD c], rfl, .lst (SqL.of h) (.cons (dp_end b) (.cons (dp_end c) .nil)), ?_, ?_, ?_, ?_, q⟩
  · show ((endD b).showable && ((endD c).showable && true)) = true
    rw [show_end hb, show_end hc]; rfl
  · cases b <;> cases c <;> rfl
  · cases b <;> cases c <;> exact Nat.le_of_ble_eq_true rfl
  · have h1 := len_end hb
    have h2 := len_end hc
    have h3 := listText_len_le (PyData.shownAll [endD b, endD c])
    have h4 : (PyData.shownAll [endD b, endD c]).length = 2 := rfl
    have h5 : ((PyData.shownAll [endD b, endD c]).map (fun t => t.length)).sum = (endD b).shown.length + ((endD c).shown.length + 0) := rfl
    show (listText (PyData.shownAll [endD b, endD c])).length ≤ sizeLine
    rw [h5, h4] at h3
    exact Nat.le_trans h3 (Nat.le_trans (show _ ≤ 5000 by omega) (by decide))
end
/-! ### stretches -/
def turnedB : Option Int → Option Int → Bool
  | some a, some b => decide (b < a)
  | _, _ => false
def loB : Option Int → Int → Bool
  | none, _ => true
  | some a, n => decide (a ≤ n)
def hiB : Option Int → Int → Bool
  | none, _ => true
  | some b, n => decide (n ≤ b)
def inB (lo hi : Option Int) (n : Int) : Bool := loB lo n && hiB hi n
def strF (lo hi : Option Int) : List (Str × V) := putF "high" (endV hi) (putF "low" (endV lo) [])
theorem n_lh : ¬ (("low" : Str) = "high") := by decide +kernel
theorem str_low (lo hi : Option Int) : (strF lo hi).lookup ("low" : Str) = some (endV lo) := by
  unfold strF
  rw [lookup_putF, if_neg n_lh, lookup_putF, if_pos rfl]
theorem str_high (lo hi : Option Int) : (strF lo hi).lookup ("high" : Str) = some (endV hi) := by
  unfold strF
  rw [lookup_putF, if_pos rfl]
theorem str_no (lo hi : Option Int) {m : Str} (h1 : ¬ m = "high") (h2 : ¬ m = "low") : (strF lo hi).lookup m = none := by
  unfold strF
  rw [lookup_putF, if_neg h1, lookup_putF, if_neg h2]
  rfl
theorem putF_len (f : Str) (v : V) : ∀ fs : List (Str × V), (putF f v fs).length ≤ fs.length + 1
  | [] => Nat.le_refl _
  | (g, x) :: r => by
    unfold putF
    split
    · show r.length + 1 ≤ r.length + 1 + 1
      omega
    · show (putF f v r).length + 1 ≤ r.length + 1 + 1
      have := putF_len f v r
      omega
def StrAt (C : Addr) (H : Hp) (p : Addr) (lo hi : Option Int) : Prop := ∃ dx, H p = some (.ins C dx (strF lo hi))
theorem StrAt.same {C : Addr} {H H' : Hp} {p : Addr} {lo hi : Option Int} (h : StrAt C H p lo hi) (s : Same H H') : StrAt C H' p lo hi := by
  obtain ⟨dx, e⟩ := h
  exact ⟨dx, s _ _ e⟩
/-- what is no list is not among the draws -/
theorem Ext.keep {d c r : Addr} {H H' : Hp} {b : Addr} {o : HO} (e : Ext d r H H') (D : Drw H d c r) (h : H b = some o) (n : ∀ xs, o ≠ .lst xs) : H' b = some o := by
  obtain ⟨_, _, _, _, _, _, h1, _, h3, _⟩ := D
  exact e b o h (ne_of h h1 (n _)) (ne_of h h3 (n _))
theorem StrAt.ext {C : Addr} {H H' : Hp} {p d c r : Addr} {lo hi : Option Int} (h : StrAt C H p lo hi) (e : Ext d r H H') (D : Drw H d c r) : StrAt C H' p lo hi := by
  obtain ⟨dx, z⟩ := h
  exact ⟨dx, e.keep D z fun _ q => nomatch q⟩
/-- the dict of a TurnedStretch -/
def turnF (lo hi : Option Int) : List (Str × V) := [("high", endV hi), ("low", endV lo)]
theorem turn_low (lo hi : Option Int) : (turnF lo hi).lookup ("low" : Str) = some (endV lo) := by
  unfold turnF
  rw [lookup_put, if_neg n_lh, lookup_put, if_pos rfl]
theorem turn_high (lo hi : Option Int) : (turnF lo hi).lookup ("high" : Str) = some (endV hi) := by
  unfold turnF
  rw [lookup_put, if_pos rfl]
def spTInit (C : Addr) : Sp := fun vs H Q _ => ∃ (a : Addr) (lo hi : Option Int), vs = [.ref a, endV lo, endV hi] ∧ H a = some (exo a C none) ∧
  ∀ (dx : Addr) (H' : Hp), H dx = none → H' a = some (exo a C (some dx)) → H' dx = some (exd dx (turnF lo hi)) → (∀ b o, H b = some o → b ≠ a → H' b = some o) → Q .non H'
def spSInit (C CT : Addr) : Sp := fun vs H Q E => ∃ (p dx : Addr) (lo hi : Option Int), vs = [.ref p, endV lo, endV hi] ∧ H p = some (.ins C dx []) ∧
  (turnedB lo hi = true → ∀ (d : Addr) (H' : Hp), H d = none → H' d = some (.xd (turnF lo hi)) → Same H H' → E (.ref CT) (some d) H') ∧
  (turnedB lo hi = false → ∀ H', StrAt C H' p lo hi → (∀ b o, H b = some o → b ≠ p → H' b = some o) → Q .non H')
def spSIn (C : Addr) : Sp := fun vs H Q _ => ∃ (p : Addr) (lo hi : Option Int) (n : Int), vs = [.ref p, .int n] ∧ StrAt C H p lo hi ∧ Q (.bl (inB lo hi n)) H
/-! ### flat data: None, truths, ints, texts, in a list or a tuple; repr and == of these -/
def vD : V → PyData
  | .non => .none
  | .bl b => .bool b
  | .int i => .int i
  | .str x => .str x
  | _ => .none
def okD : V → Prop
  | .non => True
  | .bl _ => True
  | .int i => -(10 ^ 60) < i ∧ i < 10 ^ 60
  | .str x => (reprText x).length ≤ 1000 ∧ PyData.strOk x = true
  | _ => False
/-- what may be compared: no bound on ints -/
def eqD : V → Prop
  | .non => True
  | .bl _ => True
  | .int _ => True
  | .str x => PyData.strOk x = true
  | _ => False
theorem okD.eq {v : V} (h : okD v) : eqD v := by
  cases v <;> first | exact trivial | exact h.2 | exact h.elim
theorem log_okI {i : Int} (h : -(10 ^ 60) < i ∧ i < 10 ^ 60) : i.natAbs.log2 < 1920 := by
  have h1 : i.natAbs < 2 ^ 200 := by
    have : i.natAbs < 10 ^ 60 := by omega
    exact Nat.lt_trans this (by decide)
  have h2 : i.natAbs.log2 < 200 := by
    by_cases e : i.natAbs = 0
    · rw [e]; decide
    · exact (Nat.log2_lt e).mpr h1
  omega
theorem dp_vD {K : PySem.W.Frag} {H : Hp} {v : V} (h : eqD v) : Dp K H v (vD v) := by
  cases v with
  | non => exact .non
  | bl b => exact .bl b
  | int i => exact .int i
  | str x => exact .str x
  | byt b => exact h.elim
  | flt b => exact h.elim
  | ref a => exact h.elim
  | ty n => exact h.elim
theorem dpAll_vD {K : PySem.W.Frag} {H : Hp} : ∀ {vs : List V}, (∀ v ∈ vs, eqD v) → DpAll K H vs (vs.map vD)
  | [], _ => .nil
  | v :: vs, h => .cons (dp_vD (h v List.mem_cons_self)) (dpAll_vD fun w hw => h w (List.mem_cons_of_mem _ hw))
theorem show_vD : ∀ {vs : List V}, (∀ v ∈ vs, okD v) → PyData.showableAll (vs.map vD) = true
  | [], _ => rfl
  | v :: vs, h => by
    have h1 := h v List.mem_cons_self
    have e : (vD v).showable = true := by
      cases v <;> first | rfl | exact decide_eq_true (log_okI h1)
    show ((vD v).showable && PyData.showableAll (vs.map vD)) = true
    rw [e, show_vD fun w hw => h w (List.mem_cons_of_mem _ hw)]
    rfl
theorem dict_vD : ∀ (vs : List V), PyData.hasDictAll (vs.map vD) = false
  | [] => rfl
  | v :: vs => by
    show ((vD v).hasDict || PyData.hasDictAll (vs.map vD)) = false
    rw [dict_vD vs]
    cases v <;> rfl
theorem depth_vD : ∀ (vs : List V), PyData.depthAll (vs.map vD) = 0
  | [] => rfl
  | v :: vs => by
    show max (vD v).depth (PyData.depthAll (vs.map vD)) = 0
    rw [depth_vD vs]
    cases v <;> rfl
theorem len_vD : ∀ {vs : List V}, (∀ v ∈ vs, okD v) → (PyData.shownAll (vs.map vD)).length = vs.length ∧ ((PyData.shownAll (vs.map vD)).map (fun t => t.length)).sum ≤ 2000 * vs.length
  | [], _ => ⟨rfl, Nat.le_refl _⟩
  | v :: vs, h => by
    obtain ⟨i1, i2⟩ := len_vD (vs := vs) fun w hw => h w (List.mem_cons_of_mem _ hw)
    have h1 := h v List.mem_cons_self
    have e : ((vD v).shown).length ≤ 2000 := by
      cases v with
      | non => decide +kernel
      | bl b => cases b <;> decide +kernel
      | int i => exact Nat.le_trans (PyProof.Rows.int_text_len_1921 (log_okI h1)) (by decide)
      | str x => exact Nat.le_trans h1.1 (by decide)
      | byt b => exact h1.elim
      | flt b => exact h1.elim
      | ref a => exact h1.elim
      | ty n => exact h1.elim
    refine ⟨?_, ?_⟩
    · show (PyData.shownAll (vs.map vD)).length + 1 = vs.length + 1
      rw [i1]
    · show (((vD v).shown).length :: (PyData.shownAll (vs.map vD)).map (fun t => t.length)).sum ≤ 2000 * (vs.length + 1)
      rw [List.sum_cons]
      omega
section
variable {H : Hp} {Q : VK} {K : PySem.W.Frag} {a b : Addr} {vs ws : List V}
def tupD (vs : List V) : PyData := .tuple (vs.map vD)
def lstD (vs : List V) : PyData := .list (vs.map vD)
theorem r_reprT (h : SqT K H a vs) (hv : ∀ v ∈ vs, okD v) (hl : vs.length ≤ 50) (q : Q (.str (tupD vs).shown) H) : rRepr K [.ref a] H Q := by
  refine ⟨a, tupD vs, rfl, .tup h (dpAll_vD fun v hw => (hv v hw).eq), show_vD hv, dict_vD vs, ?_, ?_, q⟩
  · show PyData.depthAll (vs.map vD) + 1 ≤ 20
    rw [depth_vD]
    decide
  · obtain ⟨i1, i2⟩ := len_vD hv
    have h3 := tupleText_len_le (PyData.shownAll (vs.map vD))
    rw [i1] at h3
    exact Nat.le_trans h3 (Nat.le_trans (show _ ≤ 200000 by omega) (by decide))
theorem r_reprL (h : SqL K H a vs) (hv : ∀ v ∈ vs, okD v) (hl : vs.length ≤ 50) (q : Q (.str (lstD vs).shown) H) : rRepr K [.ref a] H Q := by
  refine ⟨a, lstD vs, rfl, .lst h (dpAll_vD fun v hw => (hv v hw).eq), show_vD hv, dict_vD vs, ?_, ?_, q⟩
  · show PyData.depthAll (vs.map vD) + 1 ≤ 20
    rw [depth_vD]
    decide
  · obtain ⟨i1, i2⟩ := len_vD hv
    have h3 := listText_len_le (PyData.shownAll (vs.map vD))
    rw [i1] at h3
    exact Nat.le_trans h3 (Nat.le_trans (show _ ≤ 200000 by omega) (by decide))
theorem lay_vD : ∀ {vs : List V}, (∀ v ∈ vs, eqD v) → PyData.canLayAll0 (vs.map vD) = true
  | [], _ => rfl
  | v :: vs, h => by
    have h1 := h v List.mem_cons_self
    have e : (vD v).canLay0 = true := by cases v <;> first | rfl | exact h1
    show ((vD v).canLay0 && PyData.canLayAll0 (vs.map vD)) = true
    rw [e, lay_vD fun w hw => h w (List.mem_cons_of_mem _ hw)]
    rfl
theorem shaped_tup (h : ∀ v ∈ vs, eqD v) : SeqAt.shaped (tupD vs) = true := by
  unfold SeqAt.shaped
  rw [show (tupD vs).canLay0 = true from lay_vD h]
  show decide (PyData.depthAll (vs.map vD) + 1 ≤ 64) = true
  rw [depth_vD]
  rfl
theorem shaped_lst (h : ∀ v ∈ vs, eqD v) : SeqAt.shaped (lstD vs) = true := by
  unfold SeqAt.shaped
  rw [show (lstD vs).canLay0 = true from lay_vD h]
  show decide (PyData.depthAll (vs.map vD) + 1 ≤ 64) = true
  rw [depth_vD]
  rfl
/-- equality of flat data of the same kinds, place by place -/
def sameKind : V → V → Bool
  | .int _, .bl _ => false
  | .bl _, .int _ => false
  | _, _ => true
theorem eqv_vD {x y : V} (hx : eqD x) (hy : eqD y) (k : sameKind x y = true) : PyData.eqv (vD x) (vD y) = decide (x = y) := by
  cases x <;> cases y <;> first
    | exact hx.elim
    | exact hy.elim
    | (cases k; done)
    | rfl
    | (rw [decide_eq_false fun z => nomatch z]; rfl)
    | skip
  · rename_i a b
    show (a == b) = _
    rw [eq_dbl]
  · rename_i a b
    show (a == b) = _
    rw [eq_dint]
    exact (Bool.beq_eq_decide_eq a b)
  · rename_i a b
    show (a == b) = _
    rw [eq_dstr]
    exact (Bool.beq_eq_decide_eq a b)
theorem eqv_all : ∀ {vs ws : List V}, (∀ v ∈ vs, eqD v) → (∀ v ∈ ws, eqD v) → (∀ p ∈ vs.zip ws, sameKind p.1 p.2 = true) → PyData.eqvAll (vs.map vD) (ws.map vD) = decide (vs = ws)
  | [], [], _, _, _ => rfl
  | [], w :: ws, _, _, _ => by rw [decide_eq_false fun z => nomatch z]; rfl
  | v :: vs, [], _, _, _ => by rw [decide_eq_false fun z => nomatch z]; rfl
  | v :: vs, w :: ws, h1, h2, h3 => by
    show (PyData.eqv (vD v) (vD w) && PyData.eqvAll (vs.map vD) (ws.map vD)) = _
    rw [eqv_vD (h1 v List.mem_cons_self) (h2 w List.mem_cons_self) (h3 (v, w) List.mem_cons_self), eqv_all (fun x hx => h1 x (List.mem_cons_of_mem _ hx)) (fun x hx => h2 x (List.mem_cons_of_mem _ hx)) fun p hp => h3 p (List.mem_cons_of_mem _ hp), Bool.eq_iff_iff, Bool.and_eq_true, decide_eq_true_eq, decide_eq_true_eq, decide_eq_true_eq, List.cons.injEq]
theorem r_neTT (h1 : SqT K H a vs) (h2 : SqT K H b ws) (e1 : ∀ v ∈ vs, eqD v) (e2 : ∀ v ∈ ws, eqD v) (k : ∀ p ∈ vs.zip ws, sameKind p.1 p.2 = true) (q : Q (.bl (!decide (vs = ws))) H) : rNeD K (.ref a) (.ref b) H Q := by
  refine ⟨tupD vs, tupD ws, .tup h1 (dpAll_vD e1), .tup h2 (dpAll_vD e2), shaped_tup e1, shaped_tup e2, ?_⟩
  show Q (.bl (!PyData.eqvAll (vs.map vD) (ws.map vD))) H
  rw [eqv_all e1 e2 k]
  exact q
theorem r_eqTT (h1 : SqT K H a vs) (h2 : SqT K H b ws) (e1 : ∀ v ∈ vs, eqD v) (e2 : ∀ v ∈ ws, eqD v) (k : ∀ p ∈ vs.zip ws, sameKind p.1 p.2 = true) (q : Q (.bl (decide (vs = ws))) H) : rEqD K (.ref a) (.ref b) H Q := by
  refine ⟨tupD vs, tupD ws, .tup h1 (dpAll_vD e1), .tup h2 (dpAll_vD e2), shaped_tup e1, shaped_tup e2, ?_⟩
  show Q (.bl (PyData.eqvAll (vs.map vD) (ws.map vD))) H
  rw [eqv_all e1 e2 k]
  exact q
theorem r_neLL (h1 : SqL K H a vs) (h2 : SqL K H b ws) (e1 : ∀ v ∈ vs, eqD v) (e2 : ∀ v ∈ ws, eqD v) (k : ∀ p ∈ vs.zip ws, sameKind p.1 p.2 = true) (q : Q (.bl (!decide (vs = ws))) H) : rNeD K (.ref a) (.ref b) H Q := by
  refine ⟨lstD vs, lstD ws, .lst h1 (dpAll_vD e1), .lst h2 (dpAll_vD e2), shaped_lst e1, shaped_lst e2, ?_⟩
  show Q (.bl (!PyData.eqvAll (vs.map vD) (ws.map vD))) H
  rw [eqv_all e1 e2 k]
  exact q
end
/-! ### texts whose signs are signs -/
theorem sok_app {x y : Str} (hx : PyData.strOk x = true) (hy : PyData.strOk y = true) : PyData.strOk (x ++ y) = true := by
  show (x.cps ++ y.cps).all _ = true
  rw [Array.all_append]
  exact Bool.and_eq_true_iff.mpr ⟨hx, hy⟩
theorem sok_of (s : String) : PyData.strOk (Str.ofString s) = true := by
  rw [Str.ofString_eq_toList]
  show Array.all _ _ = true
  rw [List.all_toArray, List.all_map, List.all_eq_true]
  intro c _
  refine decide_eq_true ?_
  have := c.valid
  rcases this with z | z
  · exact Nat.lt_trans z (by decide)
  · exact z.2
theorem sok_join : ∀ {ts : List Str}, (∀ t ∈ ts, PyData.strOk t = true) → PyData.strOk (Str.join ", " ts) = true
  | [], _ => by decide +kernel
  | [x], h => h x List.mem_cons_self
  | x :: y :: r, h => by
    show PyData.strOk (x ++ (", " : Str) ++ Str.join ", " (y :: r)) = true
    exact sok_app (sok_app (h x List.mem_cons_self) (sok_of ", ")) (sok_join fun t ht => h t (List.mem_cons_of_mem _ ht))
theorem sok_tup {ts : List Str} (h : ∀ t ∈ ts, PyData.strOk t = true) : PyData.strOk (tupleText ts) = true := by
  unfold tupleText
  exact sok_app (sok_app (sok_of "(") (sok_join h)) (sok_of _)
theorem sok_from : ∀ {ts : List Str} {k : Nat} {acc : Str}, PyData.strOk acc = true → (∀ t ∈ ts, PyData.strOk t = true) → PyData.strOk (textFrom k acc ts) = true
  | [], _, _, ha, _ => ha
  | t :: ts, k, acc, ha, h => by
    unfold textFrom
    refine sok_from ?_ fun x hx => h x (List.mem_cons_of_mem _ hx)
    split
    · exact sok_app (sok_app ha (sok_of ", ")) (h t List.mem_cons_self)
    · exact sok_app ha (h t List.mem_cons_self)
theorem sok_lst {ts : List Str} (h : ∀ t ∈ ts, PyData.strOk t = true) : PyData.strOk (listText ts) = true := by
  unfold listText
  exact sok_app (sok_from (sok_of "[") h) (sok_of "]")
/-- a text whose repr is a text of signs (the laws' own words are) -/
def okR : V → Prop
  | .str x => PyData.strOk (reprText x) = true
  | _ => True
theorem sok_all : ∀ {vs : List V}, (∀ v ∈ vs, okR v) → ∀ t ∈ PyData.shownAll (vs.map vD), PyData.strOk t = true
  | [], _, t, ht => (nomatch ht)
  | v :: vs, h, t, ht => by
    have ht : t ∈ (vD v).shown :: PyData.shownAll (vs.map vD) := ht
    rcases List.mem_cons.mp ht with e | e
    · rw [e]
      cases v with
      | bl b => cases b <;> decide +kernel
      | int i => exact sok_of _
      | str x => exact h _ List.mem_cons_self
      | non => exact sok_of "None"
      | byt b => exact sok_of "None"
      | flt b => exact sok_of "None"
      | ref a => exact sok_of "None"
      | ty n => exact sok_of "None"
    · exact sok_all (fun w hw => h w (List.mem_cons_of_mem _ hw)) t e
theorem sok_tupD {vs : List V} (h : ∀ v ∈ vs, okR v) : PyData.strOk (tupD vs).shown = true := sok_tup (sok_all h)
theorem sok_lstD {vs : List V} (h : ∀ v ∈ vs, okR v) : PyData.strOk (lstD vs).shown = true := sok_lst (sok_all h)
/-! ### a list or a tuple, read alike; comprehensions over tuples and ranges -/
def SqA (K : PySem.W.Frag) (H : Hp) (p : Addr) (xs : List V) : Prop := SqL K H p xs ∨ SqT K H p xs
theorem same_tup {K : PySem.W.Frag} {H H' : Hp} {a : Addr} {xs : List V} (e : Same H H') (h : SqT K H a xs) : SqT K H' a xs := by
  rcases h with (h | ⟨o, h⟩) | h
  · exact .inl (.inl (e _ _ h))
  · exact .inl (.inr ⟨o, e _ _ h⟩)
  · exact .inr h
theorem SqA.same {K : PySem.W.Frag} {H H' : Hp} {a : Addr} {xs : List V} (h : SqA K H a xs) (e : Same H H') : SqA K H' a xs := h.imp (fun z => e.seq z) fun z => same_tup e z
theorem kAt_all {ns : List Int} {P : Int → Prop} (h : ∀ x ∈ ns, P x) {j : Nat} (hj : j < ns.length) : P (kAt ns j) := by
  have e : kAt ns j = ns[j] := by rw [kAt, List.getD_eq_getElem?_getD, List.getElem?_eq_getElem hj]; rfl
  rw [e]
  exact h _ (List.getElem_mem hj)
section
variable {σ : L2.St} {H : Hp} {Q : VK} {te : TE} {K : PySem.W.Frag} {a p : Addr} {xs : List V} {i : Int} {v : V}
theorem r_ixA (h : SqA K H p xs) (e : atI xs i = some v) (q : Q v H) : rIx K (.ref p) (.int i) H Q := by
  rcases h with h | h
  · exact .inl (r_ixL h e q)
  · exact .inr (.inl (r_ixT h e q))
def rTupA (K : PySem.W.Frag) : List V → Hp → VK → Prop := fun xs H Q => ∃ p ys, xs = [.ref p] ∧ ((SqL K H p ys ∧ ∀ l, H l = none → Q (.ref l) (upd H l (.tup ys))) ∨ (SqT K H p ys ∧ Q (.ref p) H))
theorem c_tupA {X : Cx} : CallR X (.type "tuple") (rTupA X.K) := call_tuple_of
theorem r_tupL (h : SqL K H p xs) (q : ∀ l, H l = none → Q (.ref l) (upd H l (.tup xs))) : rTupA K [.ref p] H Q := ⟨p, xs, rfl, .inl ⟨h, q⟩⟩
theorem r_tupA (h : SqA K H p xs) (q : ∀ l H', SqT K H' l xs → Same H H' → Q (.ref l) H') : rTupA K [.ref p] H Q := by
  rcases h with h | h
  · exact ⟨p, xs, rfl, .inl ⟨h, fun l nl => q l _ (SqT.of upd_same) (same_new nl)⟩⟩
  · exact ⟨p, xs, rfl, .inr ⟨h, q p H h (Same.refl H)⟩⟩
def rListA (K : PySem.W.Frag) : List V → Hp → VK → Prop := fun xs H Q => ∃ p ys, xs = [.ref p] ∧ (SqL K H p ys ∨ SqT K H p ys) ∧ ∀ l, H l = none → Q (.ref l) (upd H l (.lst ys))
theorem c_listA {X : Cx} : CallR X (.type "list") (rListA X.K) := call_list_of
theorem r_listA (h : SqA K H p xs) (q : ∀ l, H l = none → Q (.ref l) (upd H l (.lst xs))) : rListA K [.ref p] H Q := ⟨p, xs, rfl, h, q⟩
theorem r_catT {b : Addr} {ys : List V} (h1 : SqT K H a xs) (h2 : SqT K H b ys) (n1 : xs ≠ []) (n2 : ys ≠ []) (hz : xs.length + ys.length ≤ 1000) (q : ∀ p, H p = none → Q (.ref p) (upd H p (.tup (xs ++ ys)))) : rCatT K (.ref a) (.ref b) H Q :=
  ⟨a, b, xs, ys, rfl, rfl, h1, h2, n1, Nat.le_of_lt (small1000 hz), fun z => absurd z n2, fun _ => q⟩
theorem lc_mapT {n : Nat} (f : V → V) (hS : SqT K H a xs) (hz : xs.length ≤ 1000) (he : ∀ (x : V) (H' : Hp) (QQ : VK), x ∈ xs → Same H H' → QQ (f x) H' → te ((wipe σ [n]).set n (some x)) H' QQ)
    (hq : ∀ D, H D = none → Q (.ref D) (upd H D (.lst (xs.map f)))) : lcGo (Itt K a) (gName n) tYes te [n] σ Q H := by
  intro D hD
  refine lc_tup (K := K) (a := a) (xs := xs) (fun i H' => H' = upd H D (.lst ((xs.take i).map f))) rfl (fun i H' _ e => by subst e; exact same_tup (same_new hD) hS) ?_ ?_
  · rintro i x H' hx rfl
    refine ⟨wipe1, ?_⟩
    show te _ _ _
    refine he x _ _ (List.mem_of_getElem? hx) (same_new hD) ⟨(xs.take i).map f, upd_same, ?_, ?_⟩
    · rw [List.length_map, List.length_take]
      exact small1000 (by omega)
    · rw [upd_upd, List.take_add_one, hx, List.map_append]
      rfl
  · rintro H' rfl
    rw [List.take_length]
    exact hq D hD
theorem lc_mapR {n m : Nat} {lo : Int} (f : Nat → V) (hm : m ≤ 1000) (he : ∀ (i : Nat) (H' : Hp) (QQ : VK), i < m → Same H H' → QQ (f i) H' → te ((wipe σ [n]).set n (some (.int (lo + i)))) H' QQ)
    (hq : ∀ D, H D = none → Q (.ref D) (upd H D (.lst ((List.range m).map f)))) : lcGo (Itr lo m) (gName n) tYes te [n] σ Q H := by
  intro D hD
  refine lc_range (fun i H' => H' = upd H D (.lst ((List.range i).map f))) rfl ?_ ?_
  · rintro i H' hi rfl
    refine ⟨wipe1, ?_⟩
    show te _ _ _
    refine he i _ _ hi (same_new hD) ⟨(List.range i).map f, upd_same, ?_, ?_⟩
    · rw [List.length_map, List.length_range]
      exact small1000 (by omega)
    · rw [upd_upd, List.range_succ, List.map_append]
      rfl
  · rintro H' rfl
    exact hq D hD
end
/-! ### xs != [] of any items; comprehensions with any target -/
def rNeE (K : PySem.W.Frag) : R2 := fun x y H Q => ∃ a b xs, x = .ref a ∧ y = .ref b ∧ SqL K H a xs ∧ SqL K H b [] ∧ Q (.bl (!xs.isEmpty)) H
theorem op_neE {X : Cx} (hu : X.A.units < cLine) : OpR X (compareOp .NotEq) (rNeE X.K) := by
  intro pins s σ H x y v u Q I rx ry h
  obtain ⟨a, b, xs, rfl, rfl, h1, h2, q⟩ := h
  cases (show v = Value.ref a from rx)
  cases (show u = Value.ref b from ry)
  obtain ⟨its, r1, ⟨o1, n1, g1, c1, _, d1⟩, _⟩ := I.list h1
  obtain ⟨its2, r2, ⟨o2, n2, g2, c2, _, d2⟩, _⟩ := I.list h2
  cases r2
  show wpAny _ _ (richCompare .NotEq _ _) _ _ _
  cases r1 with
  | nil => exact SeqAt.RcNeAt.lists (e := fun _ => true) ⟨o1, g1, c1, n1, d1⟩ ⟨o2, g2, c2, n2, d2⟩ rfl hu (fun j h1 _ => absurd h1 (Nat.not_lt_zero j)) _ _ _ _ ⟨.bl false, H, I, rfl, q⟩
  | cons ra rb => exact SeqAt.RcNeAt.lists_lengths ⟨o1, g1, c1, n1, d1⟩ ⟨o2, g2, c2, n2, d2⟩ rfl hu _ _ _ _ ⟨.bl true, H, I, rfl, q⟩
section
variable {σ : L2.St} {H : Hp} {Q : VK} {te : TE} {K : PySem.W.Frag} {a b : Addr} {xs : List V}
theorem r_neE (h1 : SqL K H a xs) (h2 : SqL K H b []) (q : Q (.bl (!xs.isEmpty)) H) : rNeE K (.ref a) (.ref b) H Q := ⟨a, b, xs, rfl, rfl, h1, h2, q⟩
/-- [e for target in xs], e a value by a function of the item -/
theorem lc_mapG {g : TG} {vs : List Nat} (f : V → V) (hS : SqL K H a xs) (hz : xs.length ≤ 1000) (he : ∀ (x : V) (H' : Hp) (QQ : VK), x ∈ xs → Same H H' → QQ (f x) H' → g x (wipe σ vs) H' fun σ2 H2 => wipe σ2 vs = wipe σ vs ∧ te σ2 H2 QQ)
    (hq : ∀ D, H D = none → Q (.ref D) (upd H D (.lst (xs.map f)))) : lcGo (Itl K a) g tYes te vs σ Q H := by
  intro D hD
  refine lc_list (K := K) (a := a) (xs := xs) (fun i H' => H' = upd H D (.lst ((xs.take i).map f))) rfl (fun i H' _ e => by subst e; exact (same_new hD).seq hS) ?_ ?_
  · rintro i x H' hx rfl
    refine he x _ _ (List.mem_of_getElem? hx) (same_new hD) ⟨(xs.take i).map f, upd_same, ?_, ?_⟩
    · rw [List.length_map, List.length_take]
      exact small1000 (by omega)
    · rw [upd_upd, List.take_add_one, hx, List.map_append]
      rfl
  · rintro H' rfl
    rw [List.take_length]
    exact hq D hD
end
section
variable {σ : L2.St} {H : Hp} {Q : VK} {te : TE} {tt : TT} {K : PySem.W.Frag} {a : Addr} {xs : List V}
/-- [x for x in xs if test]: what passes the test -/
theorem lc_filt {n : Nat} (f : V → Bool) (hS : SqL K H a xs) (hz : xs.length ≤ 1000) (ht : ∀ (x : V) (H' : Hp) (QT : Bool → Hp → Prop), x ∈ xs → Same H H' → QT (f x) H' → tt ((wipe σ [n]).set n (some x)) H' QT)
    (he : ∀ (x : V) (H' : Hp) (QQ : VK), x ∈ xs → Same H H' → QQ x H' → te ((wipe σ [n]).set n (some x)) H' QQ) (hq : ∀ D, H D = none → Q (.ref D) (upd H D (.lst (xs.filter f)))) : lcGo (Itl K a) (gName n) tt te [n] σ Q H := by
  intro D hD
  refine lc_list (K := K) (a := a) (xs := xs) (fun i H' => H' = upd H D (.lst ((xs.take i).filter f))) rfl (fun i H' _ e => by subst e; exact (same_new hD).seq hS) ?_ ?_
  · rintro i x H' hx rfl
    have hx' := List.mem_of_getElem? hx
    refine ⟨wipe1, ht x _ _ hx' (same_new hD) ?_⟩
    cases hf : f x with
    | true =>
      refine he x _ _ hx' (same_new hD) ⟨(xs.take i).filter f, upd_same, ?_, ?_⟩
      · refine small1000 (Nat.le_trans (List.length_filter_le _ _) ?_)
        rw [List.length_take]
        omega
      · rw [upd_upd, List.take_add_one, hx, List.filter_append]
        show _ = upd H D (.lst (_ ++ List.filter f [x]))
        rw [List.filter_cons, if_pos hf]
        rfl
    | false =>
      show _ = _
      rw [List.take_add_one, hx, List.filter_append]
      show _ = upd H D (.lst (_ ++ List.filter f [x]))
      rw [List.filter_cons, if_neg (by rw [hf]; exact Bool.false_ne_true)]
      show _ = upd H D (.lst (_ ++ []))
      rw [List.append_nil]
  · rintro H' rfl
    rw [List.take_length]
    exact hq D hD
end
theorem sort1 {ns : List Int} {a : Int} (h : ns.Perm [a]) : ns = [a] := List.perm_singleton.mp h
theorem sort2 {ns : List Int} {a b : Int} (h : ns.Perm [a, b]) (hp : ns.Pairwise (· ≤ ·)) : ns = if b < a then [b, a] else [a, b] := by
  obtain ⟨x, y, rfl⟩ : ∃ x y, ns = [x, y] := by
    match ns, h.length_eq with
    | [x, y], _ => exact ⟨x, y, rfl⟩
  have hxy : x ≤ y := by
    have := List.rel_of_pairwise_cons hp (List.mem_singleton_self y)
    exact this
  have hx : x ∈ [a, b] := h.mem_iff.mp List.mem_cons_self
  simp only [List.mem_cons, List.mem_nil_iff, or_false] at hx
  rcases hx with rfl | rfl
  · have hy := List.perm_singleton.mp h.cons_inv
    cases hy
    rw [if_neg (by omega)]
  · have hy := List.perm_singleton.mp (h.trans (List.Perm.swap _ _ _)).cons_inv
    cases hy
    split
    · rfl
    · have : x = a := by omega
      rw [this]
section
variable {σ : L2.St} {H : Hp} {Q : VK} {te : TE} {tt : TT} {K : PySem.W.Frag} {a : Addr} {xs : List V}
/-- the same over a tuple -/
theorem lc_filtT {n : Nat} (f : V → Bool) (hS : SqT K H a xs) (hz : xs.length ≤ 1000) (ht : ∀ (x : V) (H' : Hp) (QT : Bool → Hp → Prop), x ∈ xs → Same H H' → QT (f x) H' → tt ((wipe σ [n]).set n (some x)) H' QT)
    (he : ∀ (x : V) (H' : Hp) (QQ : VK), x ∈ xs → Same H H' → QQ x H' → te ((wipe σ [n]).set n (some x)) H' QQ) (hq : ∀ D, H D = none → Q (.ref D) (upd H D (.lst (xs.filter f)))) : lcGo (Itt K a) (gName n) tt te [n] σ Q H := by
  intro D hD
  refine lc_tup (K := K) (a := a) (xs := xs) (fun i H' => H' = upd H D (.lst ((xs.take i).filter f))) rfl (fun i H' _ e => by subst e; exact same_tup (same_new hD) hS) ?_ ?_
  · rintro i x H' hx rfl
    have hx' := List.mem_of_getElem? hx
    refine ⟨wipe1, ht x _ _ hx' (same_new hD) ?_⟩
    cases hf : f x with
    | true =>
      refine he x _ _ hx' (same_new hD) ⟨(xs.take i).filter f, upd_same, ?_, ?_⟩
      · refine small1000 (Nat.le_trans (List.length_filter_le _ _) ?_)
        rw [List.length_take]
        omega
      · rw [upd_upd, List.take_add_one, hx, List.filter_append]
        show _ = upd H D (.lst (_ ++ List.filter f [x]))
        rw [List.filter_cons, if_pos hf]
        rfl
    | false =>
      show _ = _
      rw [List.take_add_one, hx, List.filter_append]
      show _ = upd H D (.lst (_ ++ List.filter f [x]))
      rw [List.filter_cons, if_neg (by rw [hf]; exact Bool.false_ne_true)]
      show _ = upd H D (.lst (_ ++ []))
      rw [List.append_nil]
  · rintro H' rfl
    rw [List.take_length]
    exact hq D hD
end
/-! ### constants of the top; binding by place and by keywords -/
theorem sqt_const {K : PySem.W.Frag} {H : Hp} {a : Addr} {od : Option Addr} {its : Array Value} {n : Nat} {sl : Array (Option Value)} {vs : List V} (h : K.lookup a = some ⟨.type "tuple", od, .seq its n, sl⟩) (r : Vals vs its.toList) (hl : vs.length ≤ 1000) : SqT K H a vs := by
  refine .inr ⟨_, its, n, h, rfl, rfl, ?_, r⟩
  have e : its.size = vs.length := (Array.length_toList (xs := its)).symm.trans r.length.symm
  rw [e]
  exact Nat.le_of_lt (small1000 hl)
theorem kb_mkN {K : PySem.W.Frag} {x qual : Str} {st : Stmt} {f : Addr} {fd : FuncData} {ps ks : List Str} {n : Nat} (F : Fun K x qual st f fd)
    (h : ∀ (kV doc pm : Value) (an : Option Addr) (cdv ct : Value) (us ws : List Value), us.length = n → ws.length = ks.length → bindArgs (PySem.W.fnOf x qual (defArgs st) (defBody st) (defScope st) .none kV doc pm an cdv ct) ⟨us, ks.zip ws⟩ = pure (ps.zip (us ++ ws))) :
    KBn K fd ps n ks (fun us ws => us ++ ws) (fun vs zs => vs ++ zs) := by
  obtain ⟨oc, od, kV, doc, pm, an, cdv, ct, osl, rfl, lk, hcd⟩ := F.ex
  exact ⟨fun s us ws _ l1 l2 => .of_eq (h kV doc pm an cdv ct us ws l1 l2), fun r1 r2 => r1.append r2⟩
theorem r_makeN {C : Addr} {n m : Nat} {sp : Sp} {gV : List V → List V → List V} {E : XK} {t tk : TA} {σ : L2.St} {H : Hp} {Q : VK} (h : t σ H fun vs H1 => tk σ H1 fun zs H2 => vs.length = n ∧ zs.length = m ∧ ∀ x dx, H2 x = none → H2 dx = none → dx ≠ x → sp (gV (.ref x :: vs) zs) (upd (upd H2 dx (.own x)) x (.ins C dx [])) (fun v H3 => v = .non ∧ Q (.ref x) H3) E) : tMakeN C n m sp gV E t tk σ H Q := h
theorem r_inT {K : PySem.W.Frag} {H : Hp} {Q : VK} {neg : Bool} {x : V} {p : Addr} {xs : List V} (h : SqT K H p xs) (h1 : flatV x = true) (h2 : xs.all flatV = true) (q : Q (.bl (if neg then !inV x xs else inV x xs)) H) : rIn K neg x (.ref p) H Q := ⟨p, xs, rfl, .inr h, h1, h2, q⟩
theorem r_inL {K : PySem.W.Frag} {H : Hp} {Q : VK} {neg : Bool} {x : V} {p : Addr} {xs : List V} (h : SqL K H p xs) (h1 : flatV x = true) (h2 : xs.all flatV = true) (q : Q (.bl (if neg then !inV x xs else inV x xs)) H) : rIn K neg x (.ref p) H Q := ⟨p, xs, rfl, .inl h, h1, h2, q⟩
/-! ### isinstance of a caught error with attributes of its own: both answers -/
section
open PySem.W PySem.Calls
variable {prog : Program} {w : World} {A : Around} {E : Value → Shared → Prop} {st : Shared} {K : PySem.W.Frag} {x D : Addr} {ob : Obj} {dob : Option Obj}
/-- e.__class__ of an error, whatever its own dict holds -/
theorem cls_of_error {Q : Option Value → Shared → Prop} (C : ExcC K D) (X : K.In st.heap) (I : PySem.W.InstAt st.heap x ob D dob) (h : Q (some (.ref D)) { st with toks := st.toks + 1 }) : wpAny (model prog w) A (getAttr? (.ref x) "__class__") Q E st := by
  have found : findObj K D dob "__class__" = some (.bind (.builtin "getset_descriptor.__get__") (.builtin "object.__class__")) := by
    obtain ⟨cd, hc, _⟩ := any_some C.hd
    unfold findObj; rw [hc, Option.bind_some, C.ha, Option.bind_some]; simp [C.hn, C.ht]
  obtain ⟨hp, g, d, t, os⟩ := st
  have T0 := I.type (M := model prog w)
  have T1 := looks_findIn (M := model prog w) X C.hg
  have T2 := looks_findIn (M := model prog w) X C.hk
  have T3 := looks_find (M := model prog w) X I found
  have isB : Looks (model prog w) hp (isInstance (.ref x) (.type "BaseException")) true := T0.andThen (looks_subIn X C.hs)
  have z2 : (Value.builtin "BaseException.__getattribute__" == Value.builtin "object.__getattribute__") = false := by decide +kernel
  have z1 : (onTheHeap (Value.ref D) && Value.builtin "BaseException.__getattribute__" == Value.builtin "object.__getattribute__") = false := by rw [z2] <;> rfl
  have z0 : (false && onTheHeap (Value.builtin "BaseException.__getattribute__")) = false := rfl
  unfold getAttr? getAttrBy?; unfold getAttrBy
  refine wpAny_bind (wpAny_mkText (wpAny_bind (wpAny_attempt (wpAny_holding (wpAny_bind (T0.at (wpAny_bind (T1.at ?_))))))))
  show wpAny _ _ (if (onTheHeap (Value.ref D) && Value.builtin "BaseException.__getattribute__" == Value.builtin "object.__getattribute__") = true then _ else _) _ _ _; rw [z1, if_neg Bool.false_ne_true]
  unfold getAttrByItsOwn; unfold hookBefore
  refine wpAny_bind ?_
  rw [if_pos (show onTheHeap (Value.ref D) = true from rfl)]; refine T2.at ?_
  refine wpAny_bind (wpAny_attempt (wpAny_holding ?_)); unfold callGetattribute
  rw [z0, if_neg Bool.false_ne_true]
  unfold boundAndCalled; rw [PySem.F.excAttr_ValueError.ga.bind (.ref x)]
  refine wpAny_bind (wpAny_pure ?_)
  show wpAny _ _ (call (.builtin "BaseException.__getattribute__") [.ref x, .str "__class__" t]) _ _ _; refine wpAny_call (codeAny_call_builtin PySem.F.excAttr_ValueError.ga.plain PySem.F.entry_bexc_ga ?_)
  refine @check_slot (model prog w) _ _ ⟨hp, g, d, t + 1, os⟩ "BaseException.__getattribute__" "BaseException" "__getattribute__" (.ref x) [.str "__class__" t] [] _ (by decide +kernel) (by decide +kernel) isB (PySem.F.args_bexc_ga (.ref x) (.str "__class__" t)) ?_
  unfold Builtin.«object.__getattribute__»; refine wpAny_bind (wpAny_of_eq (a := ((Value.ref x : Value), [Value.str "__class__" t])) (by first | rfl | (simp only [slotArgs]; rfl)) ?_)
  refine wpAny_bind (wpAny_pure (wpAny_bind (T0.at (wpAny_bind (T3.at ?_)))))
  show wpAny _ _ (holding [Value.builtin "object.__class__"] (call (.builtin "getset_descriptor.__get__") [.builtin "object.__class__", .ref x, .ref D]) >>= ret) _ _ _; refine wpAny_bind (wpAny_holding (wpAny_call (class_get (s := ⟨hp, g, d, t + 1, os⟩) (ox := ob) (od := dob) X I C.hm ?_)))
  refine wpAny_pure ?_; show wpAny _ _ (handedOut (.ref D)) _ _ _; rw [handedOut_of (v := .ref D) rfl]
  first | exact wpAny_pure (wpAny_pure h) | exact wpAny_pure h | exact wpAny_pure (wpAny_bind (wpAny_pure (wpAny_pure h)))
theorem kit_error (C : ExcC K D) : PySem.W.KitX K (.ref x) (.ref D) (fun h => PySem.W.InstAt h x ob D dob) where
  ty := fun _ _ _ I => I.type
  it := fun _ _ X _ => by
    obtain ⟨cd, hc, _⟩ := any_some C.hd
    unfold clsIn at hc
    split at hc
    · rename_i ho
      intro A' Q' E' s' k q
      unfold isType loadHead; exact wpAny_bind (wpAny_loadPart (k _ _ (X _ _ ho)) (wpAny_pure q))
    · cases hc
  ne := fun h tp dd its n sl X htp => by
    obtain ⟨cd, hc, _⟩ := any_some C.hd
    refine Bool.eq_false_iff.mpr fun q => ?_
    obtain rfl : D = tp := Value.ref.inj (beq_iff_eq.mp q)
    unfold clsIn at hc
    split at hc
    · rename_i ho; cases (X _ _ ho).symm.trans htp
    · cases hc
  ca := fun X I k => cls_of_error C X I k
end
def rIsX (K : PySem.W.Frag) (cls : Value) (d : Option Addr) (a : Addr) : List V → Hp → VK → Prop := fun xs H Q => ∃ (D dd : Addr) (fs : List (Str × V)) (c : V) (cv : Value) (b : Bool), cls = .ref D ∧ ExcC K D ∧ d = some dd ∧ H dd = some (.xd fs) ∧ xs = [.ref a, c] ∧ ClsV c cv ∧ PySem.W.kitOne K (.ref D) cv = some b ∧ Q (.bl b) H
theorem call_isX {X : Cx} {a : Addr} {oe : Obj} {cls : Value} {d : Option Addr} {pn : List (Addr × Obj)} (hz : Zc cls d oe) (hf : ∃ vs, oe.data = .fields vs) : CallR (X.suite a ((a, oe) :: pn)) (.builtin "isinstance") (rIsX X.K cls d a) := by
  intro pins s σ H xs us Q I r h
  obtain ⟨D, dd, fs, c, cv, b, rfl, C, rfl, ea, rfl, hc, e, q⟩ := h
  obtain ⟨u1, u2, rfl, r1, r2⟩ := vals2 r
  cases (show u1 = Value.ref a from r1)
  cases hc.eq r2
  obtain ⟨ha, _⟩ := I.pin (a, oe) (List.mem_append_left _ List.mem_cons_self)
  obtain ⟨vs, hv⟩ := hf
  have ho : ObjOk X.prog X.w H s.heap dd (.xd fs) := I.hok dd _ ea
  obtain ⟨mA, hns, _⟩ := ho
  obtain ⟨od, ho, _⟩ := lookIn_ns hns
  have J : PySem.W.InstAt s.heap a oe D (some od) := ⟨ha, hz.1, by unfold PySem.W.notCls; rw [hv] <;> rfl, by rw [hz.2]; exact ho⟩
  exact PySem.W.kia_one (kit_error C) I.kIn J e (fun z => nomatch z) fun tk => ⟨.bl b, H, I.kept (t' := tk) fun _ _ z => z, rfl, q⟩
theorem r_isX {K : PySem.W.Frag} {a D dd : Addr} {fs : List (Str × V)} {c : V} {cv : Value} {b : Bool} {H : Hp} {Q : VK} (C : ExcC K D) (hd : H dd = some (.xd fs)) (hc : ClsV c cv) (e : PySem.W.kitOne K (.ref D) cv = some b) (q : Q (.bl b) H) : rIsX K (.ref D) (some dd) a [.ref a, c] H Q := ⟨D, dd, fs, c, cv, b, rfl, C, rfl, hd, rfl, hc, e, q⟩
/-! ### several except clauses, each with a name -/
/-- the clauses' wishes: class, slot of the name, suite -/
def wManyA (K : PySem.W.Frag) (Wout : WX) (D : Ends) : List (Value × Nat × (Addr → Value → Option Addr → TS)) → WX
  | [] => Wout
  | (c, i, ts) :: r => fun cls d σ H => ∃ b, PySem.W.exmOne K cls c = some b ∧ (b = true → ∀ a, H a = none → ts a cls d { D with nx := fun σ' H' => D.nx (σ'.set i none) H', bk := fun σ' H' => D.bk (σ'.set i none) H', ct := fun σ' H' => D.ct (σ'.set i none) H' } (σ.set i (some (.ref a))) H) ∧ (b = false → wManyA K Wout D r cls d σ H)
inductive HdsA (X : Cx) : List ExceptHandler → List (Value × Nat × (Addr → Value → Option Addr → TS)) → Prop
  | nil : HdsA X [] []
  | cons {x n : Str} {c : Value} {i : Nat} {ts : Addr → Value → Option Addr → TS} {b₀ : Stmt} {suite : List Stmt} {np pos' : Pos} {hds : List ExceptHandler} {l : List (Value × Nat × (Addr → Value → Option Addr → TS))} (hi : X.N[i]? = some n) (hln : X.env.kindOf n = some .local) (hc : Names X x c)
      (hsu : ∀ (a : Addr) (oe : Obj) (cls : Value) (d : Option Addr) (pn : List (Addr × Obj)), Zc cls d oe → (∃ vs, oe.data = .fields vs) → PSs (X.suite a ((a, oe) :: pn)) (b₀ :: suite) (ts a cls d)) (r : HdsA X hds l) :
      HdsA X (.ExceptHandler (some (.Name x np)) (some n) (b₀ :: suite) pos' :: hds) ((c, i, ts) :: l)
theorem ps_try_manyA {X : Cx} {body : List Stmt} {h₀ : ExceptHandler} {hds : List ExceptHandler} {l : List (Value × Nat × (Addr → Value → Option Addr → TS))} {pos : Pos} {tb : WX → TS} {Wout : WX} (hs : X.stack = X.env :: X.outer) (hf : X.env.frame = some X.env.locals) (hN : X.N.Nodup) (tk : Takes X Wout)
    (hb : ∀ (W : WX) (pn : List (Addr × Obj)) (xe : Value → Shared → Prop), Takes (X.tr pn xe) W → PassesOwn (model X.prog X.w) X.A X.env xe → PSs (X.tr pn xe) body (tb W))
    (hh : HdsA X (h₀ :: hds) l) : PS X (.Try body (h₀ :: hds) [] [] pos) (fun D σ H => tb (wManyA X.K Wout D l) D σ H) := by
  refine ⟨fun pins s σ H D I h => ?_⟩
  have ok := I.ok; have hfr : X.A.frames = some (X.env :: X.outer) := by rw [ok.frames, hs]
  refine wpAny_Try_except ?_
  refine wpAny_mono ((hb (wManyA X.K Wout D l) (X.pn ++ pins) (fun e s₁ => wpAny (model X.prog X.w) X.A (noteFrame e X.env) (fun _ s₂ => wpAny (model X.prog X.w) X.A (setFlight e none) (fun _ s₃ =>
    wpAny (model X.prog X.w) X.A (handleBy e X.env (h₀ :: hds)) (SP X pins D) X.xe s₃) X.xe s₂) X.xe s₁) (fun u s' xx => ?_) PassesOwn.looking).run [] s σ H D (I.toTry _) h) (fun f s1 hsp => ?_) (fun e s1 he => he)
  · obtain ⟨a, B, sI, pins', σ', H', cls, d, rfl, J', nb, up, sky, na, os, ag, w⟩ := xx
    have J : Inv X pins σ' H' sI := J'.ofTry ok; have sky' : Sky B (X.env :: X.outer) a (Zc cls d) X.env.locals s'.heap := by rw [← hs]; exact sky
    show wpAny (model X.prog X.w) X.A (noteFrame (.ref a) X.env) _ _ _; refine Sky.land Zc.steady hfr hf sky' fun h3 fl3 up3 => ?_
    have J3 : Inv X pins σ' H' { s' with heap := h3 } := J.landed nb fl3.1 (up.trans up3) os ag; obtain ⟨oe3, vs3, he3, hz3, hd3⟩ := fl3.there
    have nfr : a ∉ frs (X.env :: X.outer) := fun hm => by
      obtain ⟨_, o', e', hnf⟩ := fl3.2.2.1.mem hm
      rw [he3] at e'; cases e'; exact hnf _ hd3
    have nL : a ≠ X.env.locals := fun z => nfr (List.mem_filterMap.mpr ⟨X.env, List.mem_cons_self, by rw [hf, z]⟩); have nF : a ∉ X.fs := fun hm => by
      obtain ⟨e, he, q⟩ := List.mem_filterMap.mp hm; exact nfr (List.mem_filterMap.mpr ⟨e, List.mem_cons_of_mem _ he, q⟩)
    have S3 := J3.suite he3 hd3 na nL nF; clear h hb; suffices go : ∀ {hds' : List ExceptHandler} {l' : List (Value × Nat × (Addr → Value → Option Addr → TS))}, HdsA X hds' l' → wManyA X.K Wout D l' cls d σ' H' →
        wpAny (model X.prog X.w) X.A (handleBy (.ref a) X.env hds') (SP X pins D) X.xe { s' with heap := h3 } from go hh w
    intro hds' l' hk
    induction hk with
    | nil =>
      intro w; refine wpAny_handleBy_nil ?_
      obtain ⟨k1, k2, k3, oe, vs, T, oT, ts', he, hz, hd, h1, hr⟩ := id fl3; unfold PySem.passOn
      refine wpAny_bind (wpAny_field he hd h1 ?_); rw [if_neg (show ¬ ((Value.ref T == Value.none) = true) from by simp)]
      have fin : wpAny (model X.prog X.w) X.A (setFlight (.ref a) X.env.frame) (fun _ s4 => wpAny (model X.prog X.w) X.A (throw (.ref a) : Sem Flow) (SP X pins D) X.xe s4) X.xe { s' with heap := h3 } := by
        rw [hf]; refine HandSPX.setFlight_upZ fl3 fun h4 hh4 up4 => wpAny_throw (tk _ _ ?_)
        exact ⟨a, B, sI, pins, σ', H', cls, d, rfl, J, nb, (up.trans up3).trans up4, .inr (.inr (by rw [hs]; exact hh4)), na, os, ag, w⟩
      first | exact wpAny_bind (wpAny_pure (wpAny_bind fin)) | exact wpAny_bind fin
    | @cons x n c i ts b₀ suite np pos' hds2 l2 hi hln hc hsu r ih =>
      intro w; obtain ⟨b, hb1, hyes, hno⟩ := w
      refine wpAny_handleBy_cons (codeAny_handlers_test ?_) (by intro q; cases q); have LT : PySem.W.Looks (model X.prog X.w) h3 (typeOf (.ref a)) cls := fun A Q E s k q => wpAny_typeOf_ref (k _ _ he3) (by rw [hz3.1]; exact q)
      have LM := PySem.W.exm_one (M := model X.prog X.w) (J3.kIn) LT hb1; have test : ∀ {Q : Value → Shared → Prop} {E : Value → Shared → Prop}, Q c { s' with heap := h3 } → wpAny (model X.prog X.w) (X.A.mark (some (.ref a))) (eval (.Name x np) X.env) Q E { s' with heap := h3 } := fun {Q E} q => by
        obtain ⟨hg, hdbg, hm | ⟨hm, hv, hnn⟩⟩ := hc
        · exact ld_glob (X := X.suite a ((a, oe3) :: (X.pn ++ pins))) S3 hg hm q hdbg
        · exact ld_blt (X := X.suite a ((a, oe3) :: (X.pn ++ pins))) S3 hg hm hv q hnn hdbg
      refine test (LM.here ?_)
      cases b with
      | false => exact ih (hno rfl)
      | true =>
        refine codeAny_handlers_suite_as ?_; refine HandSPX.lands_againZ fl3 fun h4 fl4 up4 => ?_
        have J4 : Inv X pins σ' H' { s' with heap := h4 } := J.landed nb fl4.1 ((up.trans up3).trans up4) os ag; obtain ⟨oe4, vs4, he4, hz4, hd4⟩ := fl4.there
        have S4 := J4.suite he4 hd4 na nL nF
        have hloc : Loc X.env.scope n := .inl hln; refine store_ok (X := X.suite a ((a, oe4) :: (X.pn ++ pins))) (v := .ref a) S4 hN hi hloc rfl (fun s5 S5 => ?_) (.inr hln)
        refine wpAny_mono ((hsu a oe4 cls d (X.pn ++ pins) hz4 ⟨_, hd4⟩).run [] s5 _ H' _ S5 (hyes rfl a na)) (fun f s6 hsp => ?_) (fun _ _ z => False.elim z)
        have end_ : ∀ {σ6 : L2.St} {H6 : Hp} {Q : Shared → Prop}, Inv (X.suite a ((a, oe4) :: (X.pn ++ pins))) [] σ6 H6 s6 → (∀ s7, Inv X pins (σ6.set i none) H6 s7 → Q s7) →
            wpAny (model X.prog X.w) X.A (do bindName X.env n .none; unbindBehindTheSuite X.env n pos') (fun _ s7 => Q s7) X.xe s6 := fun {σ6 H6 Q} S6 hq => gone_ok (S6.unsuite ok) hN hi hln hq
        cases f with
        | next => obtain ⟨σ6, H6, S6, q6⟩ := hsp; exact end_ S6 fun s7 J7 => ⟨_, _, J7, q6⟩
        | brk => obtain ⟨σ6, H6, S6, q6⟩ := hsp; exact end_ S6 fun s7 J7 => ⟨_, _, J7, q6⟩
        | cont => obtain ⟨σ6, H6, S6, q6⟩ := hsp; exact end_ S6 fun s7 J7 => ⟨_, _, J7, q6⟩
        | ret u => obtain ⟨v6, σ6, H6, S6, r6, q6⟩ := hsp; exact end_ S6 fun s7 J7 => ⟨_, _, _, J7, r6, q6⟩
  · cases f with
    | next => obtain ⟨σ', H', J', q⟩ := hsp; exact wpAny_execs_nil ⟨σ', H', J'.ofTry ok, q⟩
    | brk => obtain ⟨σ', H', J', q⟩ := hsp; exact ⟨σ', H', J'.ofTry ok, q⟩
    | cont => obtain ⟨σ', H', J', q⟩ := hsp; exact ⟨σ', H', J'.ofTry ok, q⟩
    | ret u => obtain ⟨v, σ', H', J', r, q⟩ := hsp; exact ⟨v, σ', H', J'.ofTry ok, r, q⟩
/-! ### C(e, .., k = v, ..) within a try, where __init__ may raise -/
def tMakeNS (C : Addr) (n m : Nat) (sp : Sp) (gV : List V → List V → List V) (E : L2.St → XK) (t tk : TA) : TE := fun σ H Q => t σ H fun vs H1 => tk σ H1 fun zs H2 => vs.length = n ∧ zs.length = m ∧ ∀ x dx, H2 x = none → H2 dx = none → dx ≠ x → sp (gV (.ref x :: vs) zs) (upd (upd H2 dx (.own x)) x (.ins C dx [])) (fun v H3 => v = .non ∧ Q (.ref x) H3) (E σ)
theorem pe_makeNS {X : Cx} {CX : CXT} {k n : Nat} {f C : Addr} {fd : FuncData} {ps ks : List Str} {sp : Sp} {x : Str} {p pos : Pos} {e : Expr} {es : List Expr} {kws : List Keyword} {t tk : TA} {g : List Value → List Value → List Value} {gV : List V → List V → List V} {E : L2.St → XK}
    (M : Mk X.K C f) (F : FnOk X.prog X.w X.K X.mg X.base CX k f fd ps sp) (hr : Room (k + 1) X.A) (hg : Gl X x) (hm : X.mg x = some (.ref C)) (hb : KBn X.K fd ps (n + 1) ks g gV) (hx : ∀ σ, PassesAt CX X σ (E σ)) (ha : PA X (e :: es) t) (hkw : PK X kws tk)
    (hall : (backToKw pos (keywordEach kws X.env)).all (fun q => q.1.isSome) = true := by rfl) (hks : (backToKw pos (keywordEach kws X.env)).filterMap (fun q => q.1) = ks := by rfl) (hdb : (x == ("__debug__" : Str)) = false := by decide)
    (he : starEach (e :: es) X.env = (false, eval e X.env) :: starEach es X.env := by rfl) (hpl : ((backTo pos (starEach (e :: es) X.env)).any (fun q => q.1) || (backToKw pos (keywordEach kws X.env)).any (fun q => q.1.isNone)) = false := by rfl) :
    PE X (.Call (.Name x p) (e :: es) kws pos) (tMakeNS C n ks.length sp gV E t tk) := by
  refine ⟨fun pins s σ H Q I h => wpAny_Call_Name_kw (ld_glob I hg hm ?_ hdb)⟩
  refine PySem.W.callWith_KW (h₀ := X.base) I.ok.mod.kin M.kp hall (thn (ha.run pos pins s σ H _ I h) fun us s1 hh => ?_) hpl he
  obtain ⟨vs, H1, I1, r, q⟩ := hh
  refine thn (hkw.run pos pins s1 σ H1 _ I1 q) fun ws s2 hw => ?_
  obtain ⟨zs, H2, I2, rz, l1, l2, q2⟩ := hw
  refine ⟨I2.kIn, ?_⟩
  rw [hks]
  exact run_makeA (fu := fun v => g (v :: us) ws) (fv := fun v => gV (v :: vs) zs) M F hr (fun s' v inn => hb.to s' (v :: us) ws inn (congrArg Nat.succ (r.length.symm.trans l1)) (rz.length.symm.trans l2)) (fun a => hb.rel (.cons rfl r) rz) (hx σ) I2 q2
theorem r_makeNS {C : Addr} {n m : Nat} {sp : Sp} {gV : List V → List V → List V} {E : L2.St → XK} {t tk : TA} {σ : L2.St} {H : Hp} {Q : VK} (h : t σ H fun vs H1 => tk σ H1 fun zs H2 => vs.length = n ∧ zs.length = m ∧ ∀ x dx, H2 x = none → H2 dx = none → dx ≠ x → sp (gV (.ref x :: vs) zs) (upd (upd H2 dx (.own x)) x (.ins C dx [])) (fun v H3 => v = .non ∧ Q (.ref x) H3) (E σ)) : tMakeNS C n m sp gV E t tk σ H Q := h
/-! ### short texts of signs -/
def Wd (z : Str) : Prop := PyData.strOk z = true ∧ z.length ≤ 30
theorem at_strs {ws : List Str} {k : Int} (h0 : 0 ≤ k) (h1 : k < ws.length) : ∃ z, atI (ws.map V.str) k = some (.str z) ∧ z ∈ ws := by
  have hk : k.toNat < ws.length := by omega
  have e : atI (ws.map V.str) (k.toNat : Int) = some (.str ws[k.toNat]) := atI_nat (by rw [List.getElem?_map, List.getElem?_eq_getElem hk]; rfl)
  rw [Int.toNat_of_nonneg h0] at e
  exact ⟨_, e, List.getElem_mem hk⟩
theorem r_lenS {H : Hp} {Q : VK} {K : PySem.W.Frag} {p : Addr} {ws : List Str} (h1 : H p = some (.lst (ws.map V.str))) (h : Q (.int ws.length) H) : rLenL K [.ref p] H Q := ⟨p, _, rfl, .inl (.inl (.inl h1)), by rw [List.length_map]; exact h⟩
theorem len_app (x y : Str) : (x ++ y).length = x.length + y.length := by
  show (x.cps ++ y.cps).size = _
  rw [Array.size_append]
  rfl
theorem cut_sok {z : Str} {lo hi : Option Int} (h : PyData.strOk z = true) : PyData.strOk (cutS z lo hi) = true := by
  show Array.all _ _ = true
  have h : z.cps.all (fun c => decide (c < 0x110000)) = true := h
  rw [← Array.all_toList] at h ⊢
  rw [List.all_eq_true] at h ⊢
  intro x hx
  exact h x (List.mem_of_mem_drop (List.mem_of_mem_take (by simpa [cutS] using hx)))
theorem cut_lenS {z : Str} {lo hi : Option Int} : (cutS z lo hi).length ≤ z.length := by
  show (List.toArray _).size ≤ z.cps.size
  rw [List.size_toArray, List.length_take, List.length_drop, Array.length_toList]
  omega
theorem join_ok : ∀ {ys : List Str}, (∀ y ∈ ys, PyData.strOk y = true ∧ y.length = 1) → PyData.strOk (Str.join "" ys) = true ∧ (Str.join "" ys).length = ys.length
  | [], _ => by decide +kernel
  | [x], h => h x List.mem_cons_self
  | x :: y :: r, h => by
    obtain ⟨i1, i2⟩ := join_ok (ys := y :: r) fun z hz => h z (List.mem_cons_of_mem _ hz)
    obtain ⟨h1, h2⟩ := h x List.mem_cons_self
    show PyData.strOk (x ++ ("" : Str) ++ Str.join "" (y :: r)) = true ∧ (x ++ ("" : Str) ++ Str.join "" (y :: r)).length = _
    refine ⟨sok_app (sok_app h1 (sok_of "")) i1, ?_⟩
    rw [len_app, len_app, i2, h2]
    show 1 + 0 + (r.length + 1) = r.length + 1 + 1
    omega
/-- [e for x in range(..)], e draws: items of any kind -/
theorem lc_drawsG {σ : L2.St} {H : Hp} {Q : VK} {te : TE} {n m : Nat} {lo : Int} {d c r : Addr} {P : V → Prop} (hm : m ≤ 1000) (D0 : Drw H d c r)
    (he : ∀ (i : Nat) (H' : Hp) (QQ : VK), i < m → Drw H' d c r → Ext d r H H' → (∀ (v : V) (H'' : Hp), P v → Drw H'' d c r → Ext d r H' H'' → QQ v H'') → te ((wipe σ [n]).set n (some (.int (lo + i)))) H' QQ)
    (hq : ∀ (l : Addr) (ss : List V) (H' : Hp), ss.length = m → (∀ x ∈ ss, P x) → H l = none → H' l = some (.lst ss) → Drw H' d c r → Ext d r H H' → Q (.ref l) H') : lcGo (Itr lo m) (gName n) tYes te [n] σ Q H := by
  intro l nl
  have ld := D0.ned nl
  have lr := D0.ner nl
  have lc := D0.nec nl
  refine lc_range (fun i H' => ∃ ss : List V, ss.length = i ∧ (∀ x ∈ ss, P x) ∧ H' l = some (.lst ss) ∧ Drw H' d c r ∧ Ext d r H H') ⟨[], rfl, fun x hx => (nomatch hx), upd_same, D0.new nl, Ext.of (same_new nl)⟩ ?_ ?_
  · rintro i H' hi ⟨ss, hl, hp, hs, D1, E1⟩
    refine ⟨wipe1, ?_⟩
    show te _ _ _
    refine he i H' _ hi D1 E1 fun k H'' hk D2 E2 => ⟨ss, E2 _ _ hs ld lr, small1000 (by omega), ?_⟩
    refine ⟨ss ++ [k], by rw [List.length_append, hl]; rfl, fun x hx => ?_, upd_same, D2.put ld lr lc, fun b o e n1 n2 => ?_⟩
    · rcases List.mem_append.mp hx with z | z
      · exact hp x z
      · rw [List.mem_singleton.mp z]; exact hk
    · rw [upd_ne (ne_of_none e nl)]
      exact E2 b o (E1 b o e n1 n2) n1 n2
  · rintro H' ⟨ss, hl, hp, hs, D1, E1⟩
    exact hq l ss H' hl hp nl hs D1 E1
theorem strs_of : ∀ {ss : List V}, (∀ x ∈ ss, ∃ z : Str, x = .str z ∧ PyData.strOk z = true ∧ z.length = 1) → ∃ ys : List Str, ss = ys.map V.str ∧ ∀ y ∈ ys, PyData.strOk y = true ∧ y.length = 1
  | [], _ => ⟨[], rfl, fun _ h => nomatch h⟩
  | x :: ss, h => by
    obtain ⟨ys, e, hy⟩ := strs_of (ss := ss) fun z hz => h z (List.mem_cons_of_mem _ hz)
    obtain ⟨z, rfl, hz⟩ := h x List.mem_cons_self
    refine ⟨z :: ys, by rw [e]; rfl, fun y hm => ?_⟩
    rcases List.mem_cons.mp hm with rfl | hm
    · exact hz
    · exact hy y hm
theorem sum_ones : ∀ {ys : List Str}, (∀ y ∈ ys, y.length = 1) → (ys.map (fun y => y.length)).sum = ys.length
  | [], _ => rfl
  | y :: ys, h => by
    rw [List.map_cons, List.sum_cons, sum_ones fun z hz => h z (List.mem_cons_of_mem _ hz), h y List.mem_cons_self, List.length_cons]
    omega
theorem cut_two (z : Str) {k : Int} (h0 : 0 ≤ k) (h1 : k < z.length) : (cutS z none (some k)).length + (cutS z (some (k + 1)) none).length + 1 = z.length := by
  have e1 : HT.sIx z.length z.length (some k) = k.toNat := by
    have := HT.sIx_nat z.length z.length k.toNat
    rw [Int.toNat_of_nonneg h0] at this
    rw [this]; omega
  have e2 : HT.sIx z.length 0 (some (k + 1)) = k.toNat + 1 := by
    have := HT.sIx_nat z.length 0 (k.toNat + 1)
    rw [show ((k.toNat + 1 : Nat) : Int) = k + 1 by omega] at this
    rw [this]; omega
  show (List.toArray _).size + (List.toArray _).size + 1 = _
  rw [List.size_toArray, List.size_toArray, List.length_take, List.length_take, List.length_drop, List.length_drop, Array.length_toList, e1, e2, HT.sIx_none, HT.sIx_none]
  show min (k.toNat - 0) (z.length - 0) + min (z.length - (k.toNat + 1)) (z.length - (k.toNat + 1)) + 1 = z.length
  omega
theorem cut_two0 (z : Str) {k : Int} (h0 : 0 ≤ k) (h1 : k < z.length) : (cutS z none (some k)).length + (cutS z (some k) none).length = z.length := by
  have e1 : HT.sIx z.length z.length (some k) = k.toNat := by
    have := HT.sIx_nat z.length z.length k.toNat
    rw [Int.toNat_of_nonneg h0] at this
    rw [this]; omega
  have e2 : HT.sIx z.length 0 (some k) = k.toNat := by
    have := HT.sIx_nat z.length 0 k.toNat
    rw [Int.toNat_of_nonneg h0] at this
    rw [this]; omega
  show (List.toArray _).size + (List.toArray _).size = _
  rw [List.size_toArray, List.size_toArray, List.length_take, List.length_take, List.length_drop, List.length_drop, Array.length_toList, e1, e2, HT.sIx_none, HT.sIx_none]
  show min (k.toNat - 0) (z.length - 0) + min (z.length - k.toNat) (z.length - k.toNat) = z.length
  omega
/-! ### names: words of letters -/
def wordsS : List Str := ["rows", "groups", "keys", "self", "ties", "group", "all", "none", "sum", "count", "by", "not"]
def lettersT : Str := "abcdefghijklmnopqrstuvwxyz"
def letB (c : Nat) : Bool := decide (c ∈ lettersT.cps.toList)
theorem letB_iff {c : Nat} : letB c = true ↔ 97 ≤ c ∧ c ≤ 122 := by
  have e : lettersT.cps.toList = (List.range 26).map (97 + ·) := by decide +kernel
  unfold letB
  rw [decide_eq_true_iff, e, List.mem_map]
  constructor
  · rintro ⟨k, hk, rfl⟩
    have := List.mem_range.mp hk
    omega
  · intro h
    exact ⟨c - 97, List.mem_range.mpr (by omega), by omega⟩
def isNameB (z : Str) : Bool := decide (1 ≤ z.length ∧ z.length ≤ 8) && (!inV (.str z) (wordsS.map V.str) && z.cps.toList.all letB)
theorem inV_strs {z : Str} {ws : List Str} : inV (.str z) (ws.map V.str) = decide (z ∈ ws) := by
  unfold inV
  rw [List.any_map, Bool.eq_iff_iff, List.any_eq_true, decide_eq_true_iff]
  constructor
  · rintro ⟨x, hx, e⟩
    have e : (x == z) = true := e
    rw [← eq_of_beq e]
    exact hx
  · intro h
    exact ⟨z, h, show (z == z) = true from beq_self_eq_true z⟩
theorem flat_strsV (ws : List Str) : (ws.map V.str).all flatV = true := by
  rw [List.all_map]
  exact List.all_eq_true.mpr fun _ _ => rfl
theorem nodup_len {α : Type} [DecidableEq α] : ∀ {l m : List α}, l.Nodup → (∀ x ∈ l, x ∈ m) → l.length ≤ m.length
  | [], _, _, _ => Nat.zero_le _
  | x :: l, m, hn, h => by
    obtain ⟨h1, h2⟩ := List.nodup_cons.mp hn
    have hx := h x List.mem_cons_self
    have i := nodup_len (l := l) (m := m.erase x) h2 fun y hy => (List.mem_erase_of_ne (show y ≠ x from fun z => h1 (by rw [← z]; exact hy))).mpr (h y (List.mem_cons_of_mem _ hy))
    rw [List.length_erase_of_mem hx] at i
    have := List.length_pos_of_mem hx
    show l.length + 1 ≤ m.length
    omega
/-- what the law tries, letter by letter -/
def cand (pre : List Nat) (last : Int) (j : Nat) : Str := SX.S (pre ++ [97 + ((last + j) % 26).toNat])
theorem cand_inj {pre : List Nat} {last : Int} {i j : Nat} (hi : i < 26) (hj : j < 26) (h : cand pre last i = cand pre last j) : i = j := by
  have h := List.append_cancel_left (SX.S_inj h)
  injection h with h
  omega
theorem cands_nodup (pre : List Nat) (last : Int) : ((List.range 26).map (cand pre last)).Nodup := by
  rw [List.nodup_iff_pairwise_ne, List.pairwise_map]
  refine List.Pairwise.imp_of_mem ?_ (List.nodup_iff_pairwise_ne.mp List.nodup_range)
  intro i j hi hj hne e
  exact hne (cand_inj (List.mem_range.mp hi) (List.mem_range.mp hj) e)
theorem words_pre : ∀ a ∈ wordsS, ∀ b ∈ wordsS, a.cps.toList.dropLast = b.cps.toList.dropLast → a = b := by decide +kernel
theorem cand_words {pre : List Nat} {last : Int} {i j : Nat} (hi : i < 26) (hj : j < 26) (h1 : cand pre last i ∈ wordsS) (h2 : cand pre last j ∈ wordsS) : i = j := by
  refine cand_inj hi hj (words_pre _ h1 _ h2 ?_)
  show (pre ++ [97 + ((last + i) % 26).toNat]).dropLast = (pre ++ [97 + ((last + j) % 26).toNat]).dropLast
  rw [List.dropLast_concat, List.dropLast_concat]
/-- at most one of the words can be met -/
theorem cand_free {pre : List Nat} {last : Int} {ts : List Str} (hl : ts.length ≤ 20) (h : ∀ j, j < 26 → cand pre last j ∈ wordsS ∨ cand pre last j ∈ ts) : False := by
  obtain ⟨m, lm, hm⟩ : ∃ m : List Str, m.length ≤ ts.length + 1 ∧ ∀ j, j < 26 → cand pre last j ∈ m := by
    by_cases c : ∃ j, j < 26 ∧ cand pre last j ∈ wordsS
    · obtain ⟨j, hj, hw⟩ := c
      refine ⟨cand pre last j :: ts, Nat.le_refl _, fun k hk => ?_⟩
      rcases h k hk with z | z
      · rw [cand_words hk hj z hw]; exact List.mem_cons_self
      · exact List.mem_cons_of_mem _ z
    · exact ⟨ts, Nat.le_succ _, fun k hk => (h k hk).resolve_left fun z => c ⟨k, hk, z⟩⟩
  have i := nodup_len (cands_nodup pre last) (m := m) fun x hx => by
    obtain ⟨j, hj, rfl⟩ := List.mem_map.mp hx
    exact hm j (List.mem_range.mp hj)
  rw [List.length_map, List.length_range] at i
  omega
theorem cand_name {pre : List Nat} {last : Int} {j : Nat} (hp : ∀ c ∈ pre, letB c = true) (hl : pre.length ≤ 7) (hw : ¬ cand pre last j ∈ wordsS) : isNameB (cand pre last j) = true := by
  unfold isNameB
  have h1 : (cand pre last j).length = pre.length + 1 := by
    unfold cand
    rw [SX.S_len, List.length_append]
    rfl
  rw [inV_strs, decide_eq_false hw, decide_eq_true ⟨by omega, by omega⟩]
  show (pre ++ [97 + ((last + j) % 26).toNat]).all letB = true
  rw [List.all_append, List.all_eq_true.mpr hp]
  show (letB _ && true) = true
  rw [letB_iff.mpr (by omega)]
  rfl
theorem isName_len {z : Str} (h : isNameB z = true) : z.length ≤ 8 ∧ 1 ≤ z.length := by
  unfold isNameB at h
  have := of_decide_eq_true (Bool.and_eq_true_iff.mp h).1
  omega
theorem isName_sok {z : Str} (h : isNameB z = true) : PyData.strOk z = true := by
  unfold isNameB at h
  have h := (Bool.and_eq_true_iff.mp (Bool.and_eq_true_iff.mp h).2).2
  show z.cps.all _ = true
  rw [← Array.all_toList, List.all_eq_true]
  intro c hc
  have := letB_iff.mp (List.all_eq_true.mp h c hc)
  exact decide_eq_true (by omega)
/-- the first word that stands for the second time -/
def dblFrom : List Str → List Str → Option Str
  | _, [] => none
  | seen, w :: r => if w ∈ seen then some w else dblFrom (seen ++ [w]) r
theorem dbl_cons (seen : List Str) (w : Str) (r : List Str) : dblFrom seen (w :: r) = if w ∈ seen then some w else dblFrom (seen ++ [w]) r := rfl
theorem dbl_none : ∀ {seen ws : List Str}, (seen ++ ws).Nodup → dblFrom seen ws = none
  | _, [], _ => rfl
  | seen, w :: r, h => by
    unfold dblFrom
    have hn : ¬ w ∈ seen := fun z => (List.nodup_append.mp h).2.2 w z w List.mem_cons_self rfl
    rw [if_neg hn]
    refine dbl_none ?_
    rw [List.append_assoc]
    exact h
theorem join_ones : ∀ (cs : List Nat), Str.join "" (cs.map fun c => SX.S [c]) = SX.S cs
  | [] => by decide +kernel
  | [x] => rfl
  | x :: y :: r => by
    have i := join_ones (y :: r)
    show SX.S [x] ++ ("" : Str) ++ Str.join "" ((y :: r).map fun c => SX.S [c]) = _
    rw [i, show ("" : Str) = SX.S [] by decide +kernel, SX.S_cat, SX.S_cat]
    rfl
/-! ### two lists, place by place -/
structure All2 {α β : Type} (P : α → β → Prop) (as : List α) (bs : List β) : Prop where
  len : as.length = bs.length
  at_ : ∀ (j : Nat) (a : α) (b : β), as[j]? = some a → bs[j]? = some b → P a b
theorem All2.nil {α β : Type} {P : α → β → Prop} : All2 P ([] : List α) ([] : List β) := ⟨rfl, fun j a b h => by cases h⟩
theorem All2.imp {α β : Type} {P Q : α → β → Prop} {as : List α} {bs : List β} (h : All2 P as bs) (f : ∀ a b, P a b → Q a b) : All2 Q as bs := ⟨h.len, fun j a b h1 h2 => f a b (h.at_ j a b h1 h2)⟩
theorem All2.snoc {α β : Type} {P : α → β → Prop} {as : List α} {bs : List β} {a : α} {b : β} (h : All2 P as bs) (p : P a b) : All2 P (as ++ [a]) (bs ++ [b]) := by
  refine ⟨by rw [List.length_append, List.length_append, h.len]; rfl, fun j x y h1 h2 => ?_⟩
  rcases Nat.lt_or_ge j as.length with hj | hj
  · rw [List.getElem?_append_left hj] at h1
    rw [List.getElem?_append_left (by rw [← h.len]; exact hj)] at h2
    exact h.at_ j x y h1 h2
  · rw [List.getElem?_append_right hj] at h1
    rw [List.getElem?_append_right (by rw [← h.len]; exact hj), ← h.len] at h2
    cases hz : j - as.length with
    | zero =>
      rw [hz] at h1 h2
      cases h1
      cases h2
      exact p
    | succ n => rw [hz] at h1; cases h1
theorem All2.get {α β : Type} {P : α → β → Prop} {as : List α} {bs : List β} (h : All2 P as bs) {j : Nat} {a : α} (ha : as[j]? = some a) : ∃ b, bs[j]? = some b ∧ P a b := by
  have hj : j < bs.length := by rw [← h.len]; exact (List.getElem?_eq_some_iff.mp ha).1
  exact ⟨bs[j], List.getElem?_eq_getElem hj, h.at_ j a _ ha (List.getElem?_eq_getElem hj)⟩
theorem All2.map {α β : Type} {γ : Type} {P : α → β → Prop} {as : List α} {bs : List β} {f : α → γ} {k : β → γ} (h : All2 P as bs) (e : ∀ a b, P a b → f a = k b) : as.map f = bs.map k := by
  apply List.ext_getElem?
  intro j
  rw [List.getElem?_map, List.getElem?_map]
  cases ha : as[j]? with
  | none =>
    have : bs[j]? = none := by
      rw [List.getElem?_eq_none_iff] at ha ⊢
      rw [← h.len]
      exact ha
    rw [this]
    rfl
  | some a =>
    obtain ⟨b, hb, p⟩ := h.get ha
    rw [hb]
    exact congrArg some (e a b p)
/-- a field of the instance at an address -/
def fldV (H : Hp) (f : Str) : V → V
  | .ref u => match H u with
    | some (.ins _ _ fs) => (fs.lookup f).getD .non
    | _ => .non
  | _ => .non
theorem fld_at {H : Hp} {f : Str} {u C dx : Addr} {fs : List (Str × V)} {v : V} (h : H u = some (.ins C dx fs)) (l : fs.lookup f = some v) : fldV H f (.ref u) = v := by
  simp only [fldV, h]
  rw [l]
  rfl
section
variable {σ : L2.St} {H : Hp} {Q : VK} {K : PySem.W.Frag} {tr : TA} {te : TE} {QA : List V → Hp → Prop}
theorem r_star (h : te σ H fun x H1 => ∃ p xs, x = V.ref p ∧ (SqT K H1 p xs ∨ SqL K H1 p xs) ∧ tr σ H1 fun ys H2 => QA (xs ++ ys) H2) : StX.tStar K te tr σ H QA := h
theorem r_stT {a : Addr} {xs : List V} {F : List V → Prop} (h1 : SqT K H a xs) (h : F xs) : ∃ p xs, V.ref a = .ref p ∧ (SqT K H p xs ∨ SqL K H p xs) ∧ F xs := ⟨a, xs, rfl, .inl h1, h⟩
theorem r_stL {a : Addr} {xs : List V} {F : List V → Prop} (h1 : SqL K H a xs) (h : F xs) : ∃ p xs, V.ref a = .ref p ∧ (SqT K H p xs ∨ SqL K H p xs) ∧ F xs := ⟨a, xs, rfl, .inr h1, h⟩
end
/-! ### dicts, chains, texts sign by sign: readings -/
section
variable {σ : L2.St} {H : Hp} {Q : VK} {K : PySem.W.Frag} {ta tb tc te td ty tv : TE} {D : Ends}
theorem r_dnew (h : ∀ p, H p = none → Q (.ref p) (upd H p (.dK []))) : tDNewK σ H Q := h
theorem r_din (h : ty σ H fun y H1 => td σ H1 fun x H2 => ∃ a o, x = .ref a ∧ DGet H2 a y o ∧ Q (.bl o.isSome) H2) : tDIn ty td σ H Q := h
theorem r_dput (h : tv σ H fun v H1 => td σ H1 fun x H2 => ty σ H2 fun y H3 => ∃ a H4, x = .ref a ∧ DPut H3 a y v H4 ∧ D.nx σ H4) : sDPut td ty tv D σ H := h
theorem r_dinS {d : Addr} {kvs : List (Key × V)} {w : Str} {F : Option V → Prop} (e : H d = some (.dK kvs)) (h : F (valV kvs (Sum.inr w))) : ∃ a o, V.ref d = .ref a ∧ DGet H a (.str w) o ∧ F o := ⟨d, _, rfl, DGet.k (k := Sum.inr w) e, h⟩
theorem r_dputS {d : Addr} {kvs : List (Key × V)} {w : Str} {v : V} {F : Hp → Prop} (e : H d = some (.dK kvs)) (hl : kvs.length ≤ 1000) (h : F (upd H d (.dK (putK kvs (Sum.inr w) v)))) : ∃ a H4, V.ref d = .ref a ∧ DPut H a (.str w) v H4 ∧ F H4 := ⟨d, _, rfl, DPut.k (k := Sum.inr w) e (small1000 hl), h⟩
theorem r_chain {r r' : R2} (h : ta σ H fun x H1 => tb σ H1 fun y H2 => r x y H2 fun z H3 => ∃ k, z = .bl k ∧ (if k = true then tc σ H3 fun w' H4 => r' y w' H4 Q else Q (.bl false) H3)) : tChain r r' ta tb tc σ H Q := h
theorem r_is {R : It → Hp → Prop} (h : te σ H fun v H1 => ∃ x, v = .str x ∧ R (Its x) H1) : iStr te σ H R := h
theorem r_iss {z : Str} {F : Str → Prop} (h : F z) : ∃ x, V.str z = .str x ∧ F x := ⟨z, rfl, h⟩
theorem putK_len {kvs : List (Key × V)} {k : Key} {v : V} : (putK kvs k v).length ≤ kvs.length + 1 := by
  unfold putK
  split
  · rw [List.length_map]; omega
  · rw [List.length_append]; exact Nat.le_refl _
/-- [e for c in s], e by the sign -/
theorem lc_strM {n : Nat} {z : Str} (f : Nat → V) (hz : z.length ≤ 1000) (he : ∀ (c : Nat) (H' : Hp) (QQ : VK), Same H H' → QQ (f c) H' → te ((wipe σ [n]).set n (some (.str ⟨#[c]⟩))) H' QQ)
    (hq : ∀ D, H D = none → Q (.ref D) (upd H D (.lst (z.cps.toList.map f)))) : lcGo (Its z) (gName n) tYes te [n] σ Q H := by
  intro D hD
  have hz : z.cps.toList.length ≤ 1000 := by rw [Array.length_toList]; exact hz
  refine lc_it walk_str (fun i H' => H' = upd H D (.lst ((z.cps.toList.take i).map f))) rfl (fun _ _ _ _ => trivial) ?_ ?_
  · rintro i x H1 H2 hi rfl ⟨rfl, c, hc, rfl⟩
    refine ⟨wipe1, ?_⟩
    show te _ _ _
    refine he c _ _ (same_new hD) ⟨_, upd_same, ?_, ?_⟩
    · rw [List.length_map, List.length_take]
      exact small1000 (by omega)
    · have hc : z.cps.toList[i]? = some c := by rw [Array.getElem?_toList]; exact hc
      rw [upd_upd, List.take_add_one, hc, List.map_append]
      rfl
  · rintro H' rfl
    rw [show z.cps.size = z.cps.toList.length from (Array.length_toList).symm, List.take_length]
    exact hq D hD
end
theorem r_mko {C : Addr} {sp : Sp} {dvs : List V} {t : TA} {σ : L2.St} {H : Hp} {Q : XK} (h : t σ H fun vs H1 => vs.length ≤ 1000 ∧ ∀ a, H1 a = none → sp (.ref a :: (vs ++ dvs)) (upd H1 a (exo a C none)) (fun v H2 => v = .non ∧ ∃ (d : Addr) (fs : List (Str × V)), H2 a = some (exo a C (some d)) ∧ H2 d = some (exd d fs) ∧ H1 d = none ∧ Q (.ref C) (some d) (upd (del H2 a) d (.xd fs))) (fun _ _ _ => False)) : tMkO C sp dvs t σ H Q := h
theorem r_m0 {r : V → List V → Hp → VK → Prop} {to : TE} {σ : L2.St} {H : Hp} {Q : VK} (h : to σ H fun x H1 => (∃ a, x = .str a) ∧ r x [] H1 Q) : tM0 r to σ H Q := h
/-! ### o.m(e, ..) of an own method that may raise, within a try -/
def tMethT (C : Addr) (m : Str) (sp : Sp) (E : L2.St → XK) (ta : TE) (t : TA) : TE := fun σ H Q => ta σ H fun x H1 => ∃ a dx fs, x = .ref a ∧ H1 a = some (.ins C dx fs) ∧ fs.lookup m = none ∧ t σ H1 fun vs H2 => sp (x :: vs) H2 Q (E σ)
section
variable {X : Cx} {CX : CXT} {k : Nat} {f C : Addr} {fd : FuncData} {ps : List Str} {sp : Sp} {m : Str} {pos apos : Pos} {e o : Expr} {es : List Expr} {ta : TE} {t : TA}
theorem pe_methT {E : L2.St → XK} {pl : Sem Bool} (he : PE X o ta) (c : Cls X.K C) (hm : Meth X.K C m f) (F : FnOk X.prog X.w X.K X.mg X.base CX k f fd ps sp) (hr : Room k X.A) (hb : Binds X.K fd ps []) (hx : ∀ σ, PassesAt CX X σ (E σ)) (ha : PA X (e :: es) t)
    (hst : starEach (e :: es) X.env = (false, eval e X.env) :: starEach es X.env := by rfl) (hpl : (backTo pos (starEach es X.env)).any (fun q => q.1) = false := by rfl)
    (ht : eval (.Call (.Attribute o m apos) (e :: es) [] pos) X.env = (eval o X.env >>= fun ov => standAt apos.atName >>= fun _ => holding [ov] (getMethod ov m pl) >>= fun q => callWith pos q.1 q.2 (backTo pos (starEach (e :: es) X.env)) (backToKw pos (keywordEach [] X.env))) := by rfl) :
    PE X (.Call (.Attribute o m apos) (e :: es) [] pos) (tMethT C m sp E ta t) := by
  refine ⟨fun pins s σ H Q I h => PySem.W.methodCall_KW (pl := pl) (thn (he.run pins s σ H _ I h) fun u s1 w1 => ?_) ht⟩
  obtain ⟨x, H1, I1, rx, a, dx, fs, rfl, ea, l, q⟩ := w1
  cases (show u = Value.ref a from rx)
  refine getmeth_ok I1 ea c hm l (PySem.W.callWith_K (first := [.ref a]) (h₀ := X.base) I.ok.mod.kin hm.kp (thn (ha.run pos pins s1 σ H1 _ I1 q) fun us s2 w2 => ?_) hst hpl)
  obtain ⟨vs, H2, I2, r, q2⟩ := w2
  have two : Vals (V.ref a :: vs) (Value.ref a :: us) := .cons rfl r
  exact ⟨I2.kIn, run_fnS F hr hb (hx σ) I2 two q2⟩
end
theorem r_methT {σ : L2.St} {H : Hp} {Q : VK} {C : Addr} {m : Str} {sp : Sp} {E : L2.St → XK} {ta : TE} {t : TA} (h : ta σ H fun x H1 => ∃ a dx fs, x = .ref a ∧ H1 a = some (.ins C dx fs) ∧ fs.lookup m = none ∧ t σ H1 fun vs H2 => sp (x :: vs) H2 Q (E σ)) : tMethT C m sp E ta t σ H Q := h
theorem vals_rev : ∀ {vs : List V} {us : List Value}, Vals vs us → Vals vs.reverse us.reverse
  | [], _, r => by cases r; exact .nil
  | v :: vs, _, r => by
    cases r with
    | cons h t =>
      rw [List.reverse_cons, List.reverse_cons]
      exact (vals_rev t).append (.cons h .nil)
theorem kit_self {K : PySem.W.Frag} {v : Value} : PySem.W.kitOne K v v = some true := by
  unfold PySem.W.kitOne
  rw [if_pos (beq_self_eq_true v)]
def top (i : Nat) : Stmt := PySem.Challenge.pw_windowrows_k41_schemes.main.body.getD i (.Pass ⟨0, 0, 0, 0⟩)
abbrev s_BadScheme___init__ : Stmt := inClass (top 2) 0
theorem sc_BadScheme___init__ : FnScope ["self", "word"] ["self", "word"] (defScope s_BadScheme___init__) := ⟨rfl, rfl, rfl, by decide +kernel, rfl, by decide +kernel, by decide +kernel⟩
abbrev s_UnknownSort___init__ : Stmt := inClass (top 3) 0
theorem sc_UnknownSort___init__ : FnScope ["self", "name"] ["self", "name"] (defScope s_UnknownSort___init__) := ⟨rfl, rfl, rfl, by decide +kernel, rfl, by decide +kernel, by decide +kernel⟩
abbrev s_is_name : Stmt := top 7
theorem sc_is_name : FnScope ["thing", "letter"] ["thing"] (defScope s_is_name) := ⟨rfl, rfl, rfl, by decide +kernel, rfl, by decide +kernel, by decide +kernel⟩
abbrev s_first_double : Stmt := top 8
theorem sc_first_double : FnScope ["words", "known", "word"] ["words"] (defScope s_first_double) := ⟨rfl, rfl, rfl, by decide +kernel, rfl, by decide +kernel, by decide +kernel⟩
abbrev s_Sort___init__ : Stmt := inClass (top 9) 0
theorem sc_Sort___init__ : FnScope ["self", "name", "key", "part", "descending"] ["self", "name", "key", "part", "descending"] (defScope s_Sort___init__) := ⟨rfl, rfl, rfl, by decide +kernel, rfl, by decide +kernel, by decide +kernel⟩
abbrev s_Sort___eq__ : Stmt := inClass (top 9) 1
theorem sc_Sort___eq__ : FnScope ["self", "other"] ["self", "other"] (defScope s_Sort___eq__) := ⟨rfl, rfl, rfl, by decide +kernel, rfl, by decide +kernel, by decide +kernel⟩
abbrev s_Scheme___init__ : Stmt := inClass (top 10) 0
theorem sc_Scheme___init__ : FnScope ["self", "sorts", "parts", "values", "marks"] ["self", "sorts", "parts", "values", "marks"] (defScope s_Scheme___init__) := ⟨rfl, rfl, rfl, by decide +kernel, rfl, by decide +kernel, by decide +kernel⟩
abbrev s_Scheme_inspect : Stmt := inClass (top 10) 1
theorem sc_Scheme_inspect : FnScope ["self", "names", "columns", "word", "words", "one"] ["self"] (defScope s_Scheme_inspect) := ⟨rfl, rfl, rfl, by decide +kernel, rfl, by decide +kernel, by decide +kernel⟩
abbrev s_Scheme_columns : Stmt := inClass (top 10) 2
theorem sc_Scheme_columns : FnScope ["self", "keys", "one"] ["self"] (defScope s_Scheme_columns) := ⟨rfl, rfl, rfl, by decide +kernel, rfl, by decide +kernel, by decide +kernel⟩
abbrev s_Scheme_sort_names : Stmt := inClass (top 10) 3
theorem sc_Scheme_sort_names : FnScope ["self", "one"] ["self"] (defScope s_Scheme_sort_names) := ⟨rfl, rfl, rfl, by decide +kernel, rfl, by decide +kernel, by decide +kernel⟩
abbrev s_Scheme_sort_named : Stmt := inClass (top 10) 4
theorem sc_Scheme_sort_named : FnScope ["self", "name", "one"] ["self", "name"] (defScope s_Scheme_sort_named) := ⟨rfl, rfl, rfl, by decide +kernel, rfl, by decide +kernel, by decide +kernel⟩
abbrev s_Scheme___eq__ : Stmt := inClass (top 10) 5
theorem sc_Scheme___eq__ : FnScope ["self", "other"] ["self", "other"] (defScope s_Scheme___eq__) := ⟨rfl, rfl, rfl, by decide +kernel, rfl, by decide +kernel, by decide +kernel⟩
abbrev s__law_begin : Stmt := top 12
theorem sc__law_begin : FnScope ["_law_script", "_law_cells", "_law_rests", "_law_cell"] ["_law_script"] (defScope s__law_begin) := ⟨rfl, rfl, rfl, by decide +kernel, rfl, by decide +kernel, by decide +kernel⟩
abbrev s__law_draw : Stmt := top 13
theorem sc__law_draw : FnScope ["_law_draws", "_law_many", "_law_cells", "_law_rests", "_law_turn", "_law_at", "_law_got", "_law_first", "_law_salt", "_law_second", "_law_mixed", "_law_third"] ["_law_draws", "_law_many"] (defScope s__law_draw) := ⟨rfl, rfl, rfl, by decide +kernel, rfl, by decide +kernel, by decide +kernel⟩
abbrev s__law_name : Stmt := top 14
theorem sc__law_name : FnScope ["_law_draws", "_law_taken", "_law_letters", "_law_words", "_law_spots", "_law_step", "_law_last", "_law_word", "_law_k", "_law_spot"] ["_law_draws", "_law_taken"] (defScope s__law_name) := ⟨rfl, rfl, rfl, by decide +kernel, rfl, by decide +kernel, by decide +kernel⟩
abbrev s__law_names : Stmt := top 15
theorem sc__law_names : FnScope ["_law_draws", "_law_taken", "_law_many", "_law_found", "_law_k", "_law_word"] ["_law_draws", "_law_taken", "_law_many"] (defScope s__law_names) := ⟨rfl, rfl, rfl, by decide +kernel, rfl, by decide +kernel, by decide +kernel⟩
abbrev s__law_spec : Stmt := top 16
theorem sc__law_spec : FnScope ["_law_draws", "_law_most", "_law_taken", "_law_called_here", "_law_sorts", "_law_halls", "_law_worths", "_law_flags", "_law_k", "_law_falling", "_law_hall", "_law_same", "_law_key"] ["_law_draws", "_law_most"] (defScope s__law_spec) := ⟨rfl, rfl, rfl, by decide +kernel, rfl, by decide +kernel, by decide +kernel⟩
abbrev s__law_sort : Stmt := top 17
theorem sc__law_sort : FnScope ["_law_one"] ["_law_one"] (defScope s__law_sort) := ⟨rfl, rfl, rfl, by decide +kernel, rfl, by decide +kernel, by decide +kernel⟩
abbrev s__law_made : Stmt := top 18
theorem sc__law_made : FnScope ["_law_spec_here", "_law_sorts", "_law_kinds", "_law_found", "_law_words", "_law_one"] ["_law_spec_here"] (defScope s__law_made) := ⟨rfl, rfl, rfl, by decide +kernel, rfl, by decide +kernel, by decide +kernel⟩
abbrev s__law_told : Stmt := top 19
theorem sc__law_told : FnScope ["_law_scheme", "_law_told_here"] ["_law_scheme"] (defScope s__law_told) := ⟨rfl, rfl, rfl, by decide +kernel, rfl, by decide +kernel, by decide +kernel⟩
abbrev s__law_columns : Stmt := top 20
theorem sc__law_columns : FnScope ["_law_spec_here", "_law_one"] ["_law_spec_here"] (defScope s__law_columns) := ⟨rfl, rfl, rfl, by decide +kernel, rfl, by decide +kernel, by decide +kernel⟩
abbrev s__law_due : Stmt := top 21
theorem sc__law_due : FnScope ["_law_spec_here", "_law_told_here", "_law_one"] ["_law_spec_here"] (defScope s__law_due) := ⟨rfl, rfl, rfl, by decide +kernel, rfl, by decide +kernel, by decide +kernel⟩
abbrev s__law_four : Stmt := top 22
theorem sc__law_four : FnScope ["_law_found"] ["_law_found"] (defScope s__law_four) := ⟨rfl, rfl, rfl, by decide +kernel, rfl, by decide +kernel, by decide +kernel⟩
abbrev s__law_named : Stmt := top 23
theorem sc__law_named : FnScope ["_law_scheme", "_law_name_here", "_law_found", "e"] ["_law_scheme", "_law_name_here"] (defScope s__law_named) := ⟨rfl, rfl, rfl, by decide +kernel, rfl, by decide +kernel, by decide +kernel⟩
abbrev s__law_names_right : Stmt := top 24
theorem sc__law_names_right : FnScope ["_law_scheme", "_law_spec_here", "_law_names_here", "_law_word", "_law_due_here", "_law_one", "_law_given"] ["_law_scheme", "_law_spec_here"] (defScope s__law_names_right) := ⟨rfl, rfl, rfl, by decide +kernel, rfl, by decide +kernel, by decide +kernel⟩
abbrev s__law_called : Stmt := top 25
theorem sc__law_called : FnScope ["_law_draws", "_law_spec_here", "_law_names_here", "_law_free", "_law_at", "_law_one", "_law_word"] ["_law_draws", "_law_spec_here"] (defScope s__law_called) := ⟨rfl, rfl, rfl, by decide +kernel, rfl, by decide +kernel, by decide +kernel⟩
abbrev s__law_changed : Stmt := top 26
theorem sc__law_changed : FnScope ["_law_draws", "_law_spec_here", "_law_sorts", "_law_kinds", "_law_fresh", "_law_at", "_law_way", "_law_one", "_law_words"] ["_law_draws", "_law_spec_here"] (defScope s__law_changed) := ⟨rfl, rfl, rfl, by decide +kernel, rfl, by decide +kernel, by decide +kernel⟩
abbrev s__law_right : Stmt := top 27
theorem sc__law_right : FnScope ["_law_scheme", "_law_spec_here", "_law_turn"] ["_law_scheme", "_law_spec_here"] (defScope s__law_right) := ⟨rfl, rfl, rfl, by decide +kernel, rfl, by decide +kernel, by decide +kernel⟩
abbrev s__law_sorts_right : Stmt := top 28
theorem sc__law_sorts_right : FnScope ["_law_spec_here", "_law_other", "_law_one", "_law_two"] ["_law_spec_here", "_law_other"] (defScope s__law_sorts_right) := ⟨rfl, rfl, rfl, by decide +kernel, rfl, by decide +kernel, by decide +kernel⟩
abbrev s_law : Stmt := top 29
theorem sc_law : FnScope ["_law_script", "_law_draws", "_law_turn", "_law_spec_here", "_law_other", "_law_first", "_law_second"] ["_law_script"] (defScope s_law) := ⟨rfl, rfl, rfl, by decide +kernel, rfl, by decide +kernel, by decide +kernel⟩
structure Txt (K : PySem.W.Frag) (mg : Str → Option Value) where
  f_BadScheme___init__ : Addr
  d_BadScheme___init__ : FuncData
  F_BadScheme___init__ : Fun K "__init__" "BadScheme.__init__" s_BadScheme___init__ f_BadScheme___init__ d_BadScheme___init__
  b_BadScheme___init__ : Binds K d_BadScheme___init__ ["self", "word"] []
  f_UnknownSort___init__ : Addr
  d_UnknownSort___init__ : FuncData
  F_UnknownSort___init__ : Fun K "__init__" "UnknownSort.__init__" s_UnknownSort___init__ f_UnknownSort___init__ d_UnknownSort___init__
  b_UnknownSort___init__ : Binds K d_UnknownSort___init__ ["self", "name"] []
  f_is_name : Addr
  d_is_name : FuncData
  F_is_name : Fun K "is_name" "is_name" s_is_name f_is_name d_is_name
  b_is_name : Binds K d_is_name ["thing"] []
  g_is_name : mg "is_name" = some (.ref f_is_name)
  f_first_double : Addr
  d_first_double : FuncData
  F_first_double : Fun K "first_double" "first_double" s_first_double f_first_double d_first_double
  b_first_double : Binds K d_first_double ["words"] []
  g_first_double : mg "first_double" = some (.ref f_first_double)
  f_Sort___init__ : Addr
  d_Sort___init__ : FuncData
  F_Sort___init__ : Fun K "__init__" "Sort.__init__" s_Sort___init__ f_Sort___init__ d_Sort___init__
  f_Sort___eq__ : Addr
  d_Sort___eq__ : FuncData
  F_Sort___eq__ : Fun K "__eq__" "Sort.__eq__" s_Sort___eq__ f_Sort___eq__ d_Sort___eq__
  b_Sort___eq__ : Binds K d_Sort___eq__ ["self", "other"] []
  f_Scheme___init__ : Addr
  d_Scheme___init__ : FuncData
  F_Scheme___init__ : Fun K "__init__" "Scheme.__init__" s_Scheme___init__ f_Scheme___init__ d_Scheme___init__
  f_Scheme_inspect : Addr
  d_Scheme_inspect : FuncData
  F_Scheme_inspect : Fun K "inspect" "Scheme.inspect" s_Scheme_inspect f_Scheme_inspect d_Scheme_inspect
  b_Scheme_inspect : Binds K d_Scheme_inspect ["self"] []
  f_Scheme_columns : Addr
  d_Scheme_columns : FuncData
  F_Scheme_columns : Fun K "columns" "Scheme.columns" s_Scheme_columns f_Scheme_columns d_Scheme_columns
  b_Scheme_columns : Binds K d_Scheme_columns ["self"] []
  f_Scheme_sort_names : Addr
  d_Scheme_sort_names : FuncData
  F_Scheme_sort_names : Fun K "sort_names" "Scheme.sort_names" s_Scheme_sort_names f_Scheme_sort_names d_Scheme_sort_names
  b_Scheme_sort_names : Binds K d_Scheme_sort_names ["self"] []
  f_Scheme_sort_named : Addr
  d_Scheme_sort_named : FuncData
  F_Scheme_sort_named : Fun K "sort_named" "Scheme.sort_named" s_Scheme_sort_named f_Scheme_sort_named d_Scheme_sort_named
  b_Scheme_sort_named : Binds K d_Scheme_sort_named ["self", "name"] []
  f_Scheme___eq__ : Addr
  d_Scheme___eq__ : FuncData
  F_Scheme___eq__ : Fun K "__eq__" "Scheme.__eq__" s_Scheme___eq__ f_Scheme___eq__ d_Scheme___eq__
  b_Scheme___eq__ : Binds K d_Scheme___eq__ ["self", "other"] []
  f__law_begin : Addr
  d__law_begin : FuncData
  F__law_begin : Fun K "_law_begin" "_law_begin" s__law_begin f__law_begin d__law_begin
  b__law_begin : Binds K d__law_begin ["_law_script"] []
  g__law_begin : mg "_law_begin" = some (.ref f__law_begin)
  f__law_draw : Addr
  d__law_draw : FuncData
  F__law_draw : Fun K "_law_draw" "_law_draw" s__law_draw f__law_draw d__law_draw
  b__law_draw : Binds K d__law_draw ["_law_draws", "_law_many"] []
  g__law_draw : mg "_law_draw" = some (.ref f__law_draw)
  f__law_name : Addr
  d__law_name : FuncData
  F__law_name : Fun K "_law_name" "_law_name" s__law_name f__law_name d__law_name
  b__law_name : Binds K d__law_name ["_law_draws", "_law_taken"] []
  g__law_name : mg "_law_name" = some (.ref f__law_name)
  f__law_names : Addr
  d__law_names : FuncData
  F__law_names : Fun K "_law_names" "_law_names" s__law_names f__law_names d__law_names
  b__law_names : Binds K d__law_names ["_law_draws", "_law_taken", "_law_many"] []
  g__law_names : mg "_law_names" = some (.ref f__law_names)
  f__law_spec : Addr
  d__law_spec : FuncData
  F__law_spec : Fun K "_law_spec" "_law_spec" s__law_spec f__law_spec d__law_spec
  b__law_spec : Binds K d__law_spec ["_law_draws", "_law_most"] []
  g__law_spec : mg "_law_spec" = some (.ref f__law_spec)
  f__law_sort : Addr
  d__law_sort : FuncData
  F__law_sort : Fun K "_law_sort" "_law_sort" s__law_sort f__law_sort d__law_sort
  b__law_sort : Binds K d__law_sort ["_law_one"] []
  g__law_sort : mg "_law_sort" = some (.ref f__law_sort)
  f__law_made : Addr
  d__law_made : FuncData
  F__law_made : Fun K "_law_made" "_law_made" s__law_made f__law_made d__law_made
  b__law_made : Binds K d__law_made ["_law_spec_here"] []
  g__law_made : mg "_law_made" = some (.ref f__law_made)
  f__law_told : Addr
  d__law_told : FuncData
  F__law_told : Fun K "_law_told" "_law_told" s__law_told f__law_told d__law_told
  b__law_told : Binds K d__law_told ["_law_scheme"] []
  g__law_told : mg "_law_told" = some (.ref f__law_told)
  f__law_columns : Addr
  d__law_columns : FuncData
  F__law_columns : Fun K "_law_columns" "_law_columns" s__law_columns f__law_columns d__law_columns
  b__law_columns : Binds K d__law_columns ["_law_spec_here"] []
  g__law_columns : mg "_law_columns" = some (.ref f__law_columns)
  f__law_due : Addr
  d__law_due : FuncData
  F__law_due : Fun K "_law_due" "_law_due" s__law_due f__law_due d__law_due
  b__law_due : Binds K d__law_due ["_law_spec_here"] []
  g__law_due : mg "_law_due" = some (.ref f__law_due)
  f__law_four : Addr
  d__law_four : FuncData
  F__law_four : Fun K "_law_four" "_law_four" s__law_four f__law_four d__law_four
  b__law_four : Binds K d__law_four ["_law_found"] []
  g__law_four : mg "_law_four" = some (.ref f__law_four)
  f__law_named : Addr
  d__law_named : FuncData
  F__law_named : Fun K "_law_named" "_law_named" s__law_named f__law_named d__law_named
  b__law_named : Binds K d__law_named ["_law_scheme", "_law_name_here"] []
  g__law_named : mg "_law_named" = some (.ref f__law_named)
  f__law_names_right : Addr
  d__law_names_right : FuncData
  F__law_names_right : Fun K "_law_names_right" "_law_names_right" s__law_names_right f__law_names_right d__law_names_right
  b__law_names_right : Binds K d__law_names_right ["_law_scheme", "_law_spec_here"] []
  g__law_names_right : mg "_law_names_right" = some (.ref f__law_names_right)
  f__law_called : Addr
  d__law_called : FuncData
  F__law_called : Fun K "_law_called" "_law_called" s__law_called f__law_called d__law_called
  b__law_called : Binds K d__law_called ["_law_draws", "_law_spec_here"] []
  g__law_called : mg "_law_called" = some (.ref f__law_called)
  f__law_changed : Addr
  d__law_changed : FuncData
  F__law_changed : Fun K "_law_changed" "_law_changed" s__law_changed f__law_changed d__law_changed
  b__law_changed : Binds K d__law_changed ["_law_draws", "_law_spec_here"] []
  g__law_changed : mg "_law_changed" = some (.ref f__law_changed)
  f__law_right : Addr
  d__law_right : FuncData
  F__law_right : Fun K "_law_right" "_law_right" s__law_right f__law_right d__law_right
  b__law_right : Binds K d__law_right ["_law_scheme", "_law_spec_here"] []
  g__law_right : mg "_law_right" = some (.ref f__law_right)
  f__law_sorts_right : Addr
  d__law_sorts_right : FuncData
  F__law_sorts_right : Fun K "_law_sorts_right" "_law_sorts_right" s__law_sorts_right f__law_sorts_right d__law_sorts_right
  b__law_sorts_right : Binds K d__law_sorts_right ["_law_spec_here", "_law_other"] []
  g__law_sorts_right : mg "_law_sorts_right" = some (.ref f__law_sorts_right)
  f_law : Addr
  d_law : FuncData
  F_law : Fun K "law" "law" s_law f_law d_law
  b_law : Binds K d_law ["_law_script"] []
  g_law : mg "law" = some (.ref f_law)
  ds_Sort___init__ : List Value
  rds_Sort___init__ : Vals [V.non, (V.bl false)] ds_Sort___init__
  bd_Sort___init__ : Binds K d_Sort___init__ ["self", "name", "key", "part", "descending"] ds_Sort___init__
  mv_Sort___init___D : List Value
  kn_Sort___init___D : KBn K d_Sort___init__ ["self", "name", "key", "part", "descending"] 3 ["descending"] (fun us ws => us ++ mv_Sort___init___D ++ ws) (fun us ws => us ++ [V.non] ++ ws)
  mv_Sort___init___P : List Value
  kn_Sort___init___P : KBn K d_Sort___init__ ["self", "name", "key", "part", "descending"] 3 ["part"] (fun us ws => us ++ ws ++ mv_Sort___init___P) (fun us ws => us ++ ws ++ [(V.bl false)])
  mv_Sort___init___DP : List Value
  kn_Sort___init___DP : KBn K d_Sort___init__ ["self", "name", "key", "part", "descending"] 3 ["descending", "part"] (fun us ws => us ++ ws.reverse) (fun us ws => us ++ ws.reverse)
  e_Scheme___init___parts : Addr
  eq_Scheme___init___parts : ∀ H, SqT K H e_Scheme___init___parts []
  e_Scheme___init___values : Addr
  eq_Scheme___init___values : ∀ H, SqT K H e_Scheme___init___values []
  e_Scheme___init___marks : Addr
  eq_Scheme___init___marks : ∀ H, SqT K H e_Scheme___init___marks []
  ds_Scheme___init__ : List Value
  rds_Scheme___init__ : Vals [(V.ref e_Scheme___init___parts), (V.ref e_Scheme___init___values), (V.ref e_Scheme___init___marks)] ds_Scheme___init__
  bd_Scheme___init__ : Binds K d_Scheme___init__ ["self", "sorts", "parts", "values", "marks"] ds_Scheme___init__
  mv_Scheme___init___VP : List Value
  kn_Scheme___init___VP : KBn K d_Scheme___init__ ["self", "sorts", "parts", "values", "marks"] 2 ["values", "parts"] (fun us ws => us ++ ws.reverse ++ mv_Scheme___init___VP) (fun us ws => us ++ ws.reverse ++ [(V.ref e_Scheme___init___marks)])
  mv_Scheme___init___PVM : List Value
  kn_Scheme___init___PVM : KBn K d_Scheme___init__ ["self", "sorts", "parts", "values", "marks"] 2 ["parts", "values", "marks"] (fun us ws => us ++ ws) (fun us ws => us ++ ws)
  z_abs : mg "abs" = none
  z_all : mg "all" = none
  z_int : mg "int" = none
  z_isinstance : mg "isinstance" = none
  z_len : mg "len" = none
  z_list : mg "list" = none
  z_range : mg "range" = none
  z_repr : mg "repr" = none
  z_str : mg "str" = none
  z_tuple : mg "tuple" = none
  C_WindowError : Addr
  C_BadScheme : Addr
  C_UnknownSort : Addr
  C_Sort : Addr
  C_Scheme : Addr
  g_WindowError : mg "WindowError" = some (.ref C_WindowError)
  g_BadScheme : mg "BadScheme" = some (.ref C_BadScheme)
  ox_BadScheme : OexC K C_BadScheme
  xf_BadScheme : XfC K C_BadScheme
  iC_BadScheme : PySem.W.findIn K (.ref C_BadScheme) "__init__" = some (some (.ref f_BadScheme___init__))
  tI_BadScheme : PySem.W.typeIn K (.ref f_BadScheme___init__) = some (.type "function")
  nf_BadScheme_word : PySem.W.findIn K (.ref C_BadScheme) "word" = some none
  g_UnknownSort : mg "UnknownSort" = some (.ref C_UnknownSort)
  ox_UnknownSort : OexC K C_UnknownSort
  xf_UnknownSort : XfC K C_UnknownSort
  iC_UnknownSort : PySem.W.findIn K (.ref C_UnknownSort) "__init__" = some (some (.ref f_UnknownSort___init__))
  tI_UnknownSort : PySem.W.typeIn K (.ref f_UnknownSort___init__) = some (.type "function")
  nf_UnknownSort_name : PySem.W.findIn K (.ref C_UnknownSort) "name" = some none
  em_UnknownSort_UnknownSort : PySem.W.exmOne K (.ref C_UnknownSort) (.ref C_UnknownSort) = some true
  is_UnknownSort_UnknownSort : PySem.W.isIn K (.ref C_UnknownSort) C_UnknownSort = true
  g_Sort : mg "Sort" = some (.ref C_Sort)
  c_Sort : Cls K C_Sort
  m_Sort : Mk K C_Sort f_Sort___init__
  nf_Sort_name : NoAttr K C_Sort "name"
  nf_Sort_key : NoAttr K C_Sort "key"
  nf_Sort_part : NoAttr K C_Sort "part"
  nf_Sort_descending : NoAttr K C_Sort "descending"
  mt_Sort___eq__ : Meth K C_Sort "__eq__" f_Sort___eq__
  ca_Sort : PySem.W.findIn K (.ref C_Sort) "__class__" = some (some (.builtin "object.__class__"))
  cn_Sort : PySem.W.specialIn K (.builtin "object.__class__") "__get__" = some (some (.builtin "getset_descriptor.__get__"))
  ct_Sort : PySem.W.takesIn K (.builtin "object.__class__") = some true
  cm_Sort : PySem.W.mroIn K C_Sort (.type "object") = some true
  ne_Sort : PySem.W.findIn K (.ref C_Sort) "__ne__" = some (some (.builtin "object.__ne__"))
  ob_Sort : PySem.W.subIn K (.ref C_Sort) (.type "object") = some true
  nt_Sort : PySem.W.notFirst K C_Sort (.ref C_Sort) = true
  nt_Sort_tuple : PySem.W.notFirst K C_Sort (.type "tuple") = true
  ki_Sort_tuple : PySem.W.kitOne K (.type "tuple") (.ref C_Sort) = some false
  g_Scheme : mg "Scheme" = some (.ref C_Scheme)
  c_Scheme : Cls K C_Scheme
  m_Scheme : Mk K C_Scheme f_Scheme___init__
  nf_Scheme_sorts : NoAttr K C_Scheme "sorts"
  nf_Scheme_part_columns : NoAttr K C_Scheme "part_columns"
  nf_Scheme_value_columns : NoAttr K C_Scheme "value_columns"
  nf_Scheme_mark_columns : NoAttr K C_Scheme "mark_columns"
  mt_Scheme_inspect : Meth K C_Scheme "inspect" f_Scheme_inspect
  mt_Scheme_columns : Meth K C_Scheme "columns" f_Scheme_columns
  mt_Scheme_sort_names : Meth K C_Scheme "sort_names" f_Scheme_sort_names
  mt_Scheme_sort_named : Meth K C_Scheme "sort_named" f_Scheme_sort_named
  mt_Scheme___eq__ : Meth K C_Scheme "__eq__" f_Scheme___eq__
  ca_Scheme : PySem.W.findIn K (.ref C_Scheme) "__class__" = some (some (.builtin "object.__class__"))
  cn_Scheme : PySem.W.specialIn K (.builtin "object.__class__") "__get__" = some (some (.builtin "getset_descriptor.__get__"))
  ct_Scheme : PySem.W.takesIn K (.builtin "object.__class__") = some true
  cm_Scheme : PySem.W.mroIn K C_Scheme (.type "object") = some true
  ne_Scheme : PySem.W.findIn K (.ref C_Scheme) "__ne__" = some (some (.builtin "object.__ne__"))
  ob_Scheme : PySem.W.subIn K (.ref C_Scheme) (.type "object") = some true
  nt_Scheme : PySem.W.notFirst K C_Scheme (.ref C_Scheme) = true
  nt_Scheme_list : PySem.W.notFirst K C_Scheme (.type "list") = true
  ki_Scheme_list : PySem.W.kitOne K (.type "list") (.ref C_Scheme) = some false
  nt_Scheme_Sort : PySem.W.notFirst K C_Scheme (.ref C_Sort) = true
  ki_Scheme_Sort : PySem.W.kitOne K (.ref C_Sort) (.ref C_Scheme) = some false
  t_LETTERS : Tok
  g_LETTERS : mg "LETTERS" = some (.str "abcdefghijklmnopqrstuvwxyz" t_LETTERS)
  a_WORDS : Addr
  g_WORDS : mg "WORDS" = some (.ref a_WORDS)
  q_WORDS : ∀ H, SqT K H a_WORDS [V.str "rows", V.str "groups", V.str "keys", V.str "self", V.str "ties", V.str "group", V.str "all", V.str "none", V.str "sum", V.str "count", V.str "by", V.str "not"]
  y_WORDS : ∀ H, tyV K "tuple" (.ref a_WORDS) H

def partV : Option Str → V
  | none => .non
  | some z => .str z
structure Srt where
  nm : Str
  ky : Str
  pt : Option Str
  ds : Bool
structure Sch where
  ss : List Srt
  ps : List Str
  vs : List Str
  ms : List Str
def srtF (s : Srt) : List (Str × V) := putF "descending" (.bl s.ds) (putF "part" (partV s.pt) (putF "key" (.str s.ky) (putF "name" (.str s.nm) [])))
theorem srt_name (s : Srt) : (srtF s).lookup ("name" : Str) = some (.str s.nm) := by
  unfold srtF
  rw [lookup_putF, if_neg (by decide +kernel), lookup_putF, if_neg (by decide +kernel), lookup_putF, if_neg (by decide +kernel), lookup_putF, if_pos rfl]
theorem srt_key (s : Srt) : (srtF s).lookup ("key" : Str) = some (.str s.ky) := by
  unfold srtF
  rw [lookup_putF, if_neg (by decide +kernel), lookup_putF, if_neg (by decide +kernel), lookup_putF, if_pos rfl]
theorem srt_part (s : Srt) : (srtF s).lookup ("part" : Str) = some (partV s.pt) := by
  unfold srtF
  rw [lookup_putF, if_neg (by decide +kernel), lookup_putF, if_pos rfl]
theorem srt_desc (s : Srt) : (srtF s).lookup ("descending" : Str) = some (.bl s.ds) := by
  unfold srtF
  rw [lookup_putF, if_pos rfl]
def SortAt (C : Addr) (H : Hp) (p : Addr) (s : Srt) : Prop := ∃ dx, H p = some (.ins C dx (srtF s))
theorem SortAt.same {C : Addr} {H H' : Hp} {p : Addr} {s : Srt} (h : SortAt C H p s) (e : Same H H') : SortAt C H' p s := by
  obtain ⟨dx, z⟩ := h
  exact ⟨dx, e _ _ z⟩
theorem SortAt.put {C : Addr} {H : Hp} {p D : Addr} {s : Srt} {o o' : HO} (h : SortAt C H p s) (hD : H D = some o) (n : ∀ C dx fs, o ≠ .ins C dx fs) : SortAt C (upd H D o') p s := by
  obtain ⟨dx, e⟩ := h
  exact ⟨dx, (upd_ne (ne_of e hD fun z => n _ _ _ z.symm)).trans e⟩
def schF (tS tP tV tM : Addr) : List (Str × V) := putF "mark_columns" (.ref tM) (putF "value_columns" (.ref tV) (putF "part_columns" (.ref tP) (putF "sorts" (.ref tS) [])))
theorem sch_sorts (a b c d : Addr) : (schF a b c d).lookup ("sorts" : Str) = some (.ref a) := by
  unfold schF
  rw [lookup_putF, if_neg (by decide +kernel), lookup_putF, if_neg (by decide +kernel), lookup_putF, if_neg (by decide +kernel), lookup_putF, if_pos rfl]
theorem sch_parts (a b c d : Addr) : (schF a b c d).lookup ("part_columns" : Str) = some (.ref b) := by
  unfold schF
  rw [lookup_putF, if_neg (by decide +kernel), lookup_putF, if_neg (by decide +kernel), lookup_putF, if_pos rfl]
theorem sch_values (a b c d : Addr) : (schF a b c d).lookup ("value_columns" : Str) = some (.ref c) := by
  unfold schF
  rw [lookup_putF, if_neg (by decide +kernel), lookup_putF, if_pos rfl]
theorem sch_marks (a b c d : Addr) : (schF a b c d).lookup ("mark_columns" : Str) = some (.ref d) := by
  unfold schF
  rw [lookup_putF, if_pos rfl]
theorem sch_no (a b c d : Addr) {m : Str} (h1 : ¬ m = "mark_columns") (h2 : ¬ m = "value_columns") (h3 : ¬ m = "part_columns") (h4 : ¬ m = "sorts") : (schF a b c d).lookup m = none := by
  unfold schF
  rw [lookup_putF, if_neg h1, lookup_putF, if_neg h2, lookup_putF, if_neg h3, lookup_putF, if_neg h4]
  rfl
/-- a Scheme stands at p -/
structure SchAt (K : PySem.W.Frag) (CC CS : Addr) (H : Hp) (p : Addr) (s : Sch) : Prop where
  ex : ∃ dx tS tP tV tM as, H p = some (.ins CC dx (schF tS tP tV tM)) ∧ SqT K H tS (as.map V.ref) ∧ All2 (SortAt CS H) as s.ss ∧ SqT K H tP (s.ps.map V.str) ∧ SqT K H tV (s.vs.map V.str) ∧ SqT K H tM (s.ms.map V.str)
theorem SchAt.same {K : PySem.W.Frag} {CC CS : Addr} {H H' : Hp} {p : Addr} {s : Sch} (h : SchAt K CC CS H p s) (e : Same H H') : SchAt K CC CS H' p s := by
  obtain ⟨dx, tS, tP, tV, tM, as, h0, h1, h2, h3, h4, h5⟩ := h
  exact ⟨dx, tS, tP, tV, tM, as, e _ _ h0, same_tup e h1, h2.imp fun _ _ z => z.same e, same_tup e h3, same_tup e h4, same_tup e h5⟩
def Sch.names (s : Sch) : List Str := s.ss.map Srt.nm
def Sch.cols (s : Sch) : List Str := s.ps ++ (s.ss.map Srt.ky ++ (s.vs ++ s.ms))
def badWord (ws : List Str) : Option Str := ws.find? fun w => !isNameB w
def partBad (ps : List Str) (s : Srt) : Bool := match s.pt with
  | none => false
  | some z => !decide (z ∈ ps)
def badPart (ps : List Str) (ss : List Srt) : Option Str := (ss.find? (partBad ps)).bind Srt.pt
def orO : Option Str → Option Str → Option Str
  | some w, _ => some w
  | none, y => y
def Sch.bad (s : Sch) : Option Str := orO (badWord (s.names ++ s.cols)) (orO (dblFrom [] s.names) (orO (dblFrom [] s.cols) (badPart s.ps s.ss)))
structure Sch.small (s : Sch) : Prop where
  l1 : s.ss.length ≤ 20
  l2 : s.ps.length ≤ 20
  l3 : s.vs.length ≤ 20
  l4 : s.ms.length ≤ 20
  w : ∀ z ∈ s.names ++ s.cols, z.length ≤ 1000
theorem find_take {α : Type} {f : α → Bool} {l : List α} {i : Nat} {x : α} (h : ∀ y ∈ l.take i, f y = false) (hx : l[i]? = some x) (hf : f x = true) : l.find? f = some x := by
  have hi := (List.getElem?_eq_some_iff.mp hx).1
  have e : l = l.take i ++ (x :: l.drop (i + 1)) := by
    rw [← (List.getElem?_eq_some_iff.mp hx).2, List.getElem_cons_drop, List.take_append_drop]
  rw [e, List.find?_append, List.find?_eq_none.mpr fun y hy => by rw [h y hy]; exact Bool.false_ne_true, List.find?_cons, hf]
  rfl
theorem take_snoc {α : Type} {l : List α} {i : Nat} {x y : α} (hx : l[i]? = some x) (hy : y ∈ l.take (i + 1)) : y ∈ l.take i ∨ y = x := by
  rw [List.take_add_one, hx] at hy
  rcases List.mem_append.mp hy with z | z
  · exact .inl z
  · exact .inr (List.mem_singleton.mp z)
def spIsName : Sp := fun vs H Q _ => ∃ z : Str, vs = [.str z] ∧ z.length ≤ 1000 ∧ ∀ H', Same H H' → Q (.bl (isNameB z)) H'
def spFirstD : Sp := fun vs H Q _ => ∃ (p : Addr) (ws : List Str), vs = [.ref p] ∧ H p = some (.lst (ws.map V.str)) ∧ ws.length ≤ 200 ∧ ∀ H', Same H H' → Q (partV (dblFrom [] ws)) H'
def spBSInit (C : Addr) : Sp := fun vs H Q _ => ∃ (a : Addr) (z : Str), vs = [.ref a, .str z] ∧ H a = some (exo a C none) ∧
  ∀ (dx : Addr) (H' : Hp), H dx = none → H' a = some (exo a C (some dx)) → H' dx = some (exd dx [("word", .str z)]) → (∀ b o, H b = some o → b ≠ a → H' b = some o) → Q .non H'
def spSortInit (C : Addr) : Sp := fun vs H Q _ => ∃ (p dx : Addr) (s : Srt), vs = [.ref p, .str s.nm, .str s.ky, partV s.pt, .bl s.ds] ∧ H p = some (.ins C dx []) ∧
  ∀ H', SortAt C H' p s → (∀ b o, H b = some o → b ≠ p → H' b = some o) → Q .non H'
def spNamesOf (K : PySem.W.Frag) (CC CS : Addr) : Sp := fun vs H Q _ => ∃ (p : Addr) (s : Sch), vs = [.ref p] ∧ SchAt K CC CS H p s ∧ s.small ∧ ∀ l H', H l = none → Same H H' → H' l = some (.lst (s.names.map V.str)) → Q (.ref l) H'
def spColsOf (K : PySem.W.Frag) (CC CS : Addr) : Sp := fun vs H Q _ => ∃ (p : Addr) (s : Sch), vs = [.ref p] ∧ SchAt K CC CS H p s ∧ s.small ∧ ∀ l H', H l = none → Same H H' → H' l = some (.lst (s.cols.map V.str)) → Q (.ref l) H'
def spInspect (K : PySem.W.Frag) (CC CS CB : Addr) : Sp := fun vs H Q E => ∃ (p : Addr) (s : Sch), vs = [.ref p] ∧ SchAt K CC CS H p s ∧ s.small ∧
  (∀ w, s.bad = some w → ∀ (d : Addr) (H' : Hp), H d = none → H' d = some (.xd [("word", .str w)]) → Same H H' → E (.ref CB) (some d) H') ∧ (s.bad = none → ∀ H', Same H H' → Q .non H')
/-- Scheme(sorts, parts = .., values = .., marks = ..): lists or tuples -/
def spSchInit (K : PySem.W.Frag) (CC CS CB : Addr) : Sp := fun vs H Q E => ∃ (p dx aS aP aV aM : Addr) (s : Sch) (as : List Addr), vs = [.ref p, .ref aS, .ref aP, .ref aV, .ref aM] ∧ H p = some (.ins CC dx []) ∧ SqA K H aS (as.map V.ref) ∧ All2 (SortAt CS H) as s.ss ∧ SqA K H aP (s.ps.map V.str) ∧ SqA K H aV (s.vs.map V.str) ∧ SqA K H aM (s.ms.map V.str) ∧ s.small ∧
  (∀ w, s.bad = some w → ∀ (d : Addr) (H' : Hp), H d = none → H' d = some (.xd [("word", .str w)]) → (∀ b o, H b = some o → b ≠ p → H' b = some o) → E (.ref CB) (some d) H') ∧
  (s.bad = none → ∀ H', SchAt K CC CS H' p s → (∀ b o, H b = some o → b ≠ p → H' b = some o) → Q .non H')
local macro_rules | `(tactic| wtm_at "rd1") => `(tactic| with_reducible first
  | refine r_seq ?_ | refine r_next ?_ | refine r_asg ?_ | refine r_drop ?_ | refine r_ret ?_ | refine r_ifs ?_ | refine r_gname ?_ | refine r_gsub ?_ | refine r_gcons ?_ | refine r_gnil ?_
  | refine r_var rfl ?_ | refine r_c ?_ | refine r_op ?_ | refine r_un ?_ | refine r_I0 ?_ | refine r_U ?_ | refine r_test ?_ | refine r_tB ?_ | refine r_bl ?_
  | refine r_and ?_ | refine r_or ?_ | refine r_not ?_ | refine r_andV ?_ | refine r_orV ?_ | refine r_notV ?_ | refine r_ife ?_
  | refine r_eqI ?_ | refine r_neI ?_ | refine r_eqB ?_ | refine r_neB ?_ | refine r_eqS ?_ | refine r_neS ?_
  | refine r_nil ?_ | refine r_cons ?_ | refine r_cb ?_ | refine r_call ?_ | refine r_lst ?_ | refine r_tup ?_ | refine r_int1 ?_ | refine r_intB ?_ | refine r_abs1 ?_ | refine r_bm ?_ | refine r_sl ?_ | refine r_np ?_ | refine r_pt ?_ | refine r_pti ?_ | refine r_lc ?_ | refine r_il ?_ | refine r_it ?_ | refine r_rng1 ?_ | refine r_rng2 ?_ | refine r_callN ?_ | refine r_fld ?_ | refine r_sfld ?_ | refine r_meth ?_ | refine r_make ?_ | refine r_aug rfl ?_ | refine r_ipI ?_ | refine r_par ?_ | refine r_par3 ?_ | refine r_two ?_ | refine r_three ?_)
local macro_rules | `(tactic| wtm_at "ixs") => `(tactic| first
  | ((with_reducible show rIxL _ (V.ref _) (V.int _) _ _); refine r_ixL (.inl (.inl (by assumption))) (by first | rfl | exact ati_n (by omega) | exact ati_int (by omega) (by omega)) ?_)
  | ((with_reducible show rIxT _ (V.ref _) (V.int _) _ _); refine r_ixT (.inl (.inl (by assumption))) (by first | rfl | exact ati_n (by omega) | exact ati_int (by omega) (by omega)) ?_))
local macro_rules | `(tactic| wtm_at "rd") => `(tactic| repeat first | wtm_at "rd1" | wtm_at "ixs")
local macro_rules | `(tactic| wtm_at "rdi") => `(tactic| repeat' (first | wtm_at "rd1" | wtm_at "ixs" | with_reducible refine iteT ?_ | with_reducible refine iteF ?_ | with_reducible refine iteNT ?_ | with_reducible refine iteNF ?_ | with_reducible refine r_ite (fun _ => ?_) (fun _ => ?_) | with_reducible refine r_iten (fun _ => ?_) (fun _ => ?_)))
local macro_rules | `(tactic| wtm_at "rd1") => `(tactic| with_reducible first
  | refine r_binS ?_ | refine r_makeS ?_ | refine r_makeKS ?_ | refine r_xf ?_ | refine r_ost ?_ | refine r_isNi ?_ | refine r_isNn ?_ | refine r_isNr ?_ | refine r_notNi ?_ | refine r_notNn ?_ | refine r_notNr ?_ | refine r_isNe ?_ | refine r_notNe ?_)
local macro_rules | `(tactic| wtm_at "rd1") => `(tactic| with_reducible refine r_makeN ?_)
local macro_rules | `(tactic| wtm_at "rd1") => `(tactic| with_reducible refine r_makeNS ?_)
local macro_rules | `(tactic| wtm_at "rd1") => `(tactic| with_reducible refine r_star ?_)
local macro_rules | `(tactic| wtm_at "rd1") => `(tactic| with_reducible first | refine r_din ?_ | refine r_dput ?_ | refine r_chain ?_ | refine r_is ?_ | refine r_iss ?_)
local macro_rules | `(tactic| wtm_at "rd1") => `(tactic| with_reducible refine r_methT ?_)
section
variable {P : Program} {w : World} {K : PySem.W.Frag} {mg : Str → Option Value} {base : Heap}
theorem ok__law_draw (T : Txt K mg) : FnOk P w K mg base CX0 1 T.f__law_draw T.d__law_draw ["_law_draws", "_law_many"] spDraw := by
  refine T.F__law_draw.ok sc__law_draw (fun vs H Q E h => ?_) (fun cdv A outer s H vs Q E hr h => ?_)
  · obtain ⟨d, c, r, m, rfl, _⟩ := h
    rfl
  · obtain ⟨d, c, r, m, rfl, D, m0, m1, q⟩ := h
    obtain ⟨dc, dr, cr, ns, rs, t, h1, h2, h3, hl, hp, ht, hn⟩ := D
    refine ⟨_, (pss_cons (ps_set (i := 2) sc__law_draw.nd rfl (by first | exact Or.inl rfl | exact Or.inr rfl) (pe_ix (r := rIxL K) ix_list (pv 0) pe_int (fun _ _ => rfl)))
      (pss_cons (ps_set (i := 3) sc__law_draw.nd rfl (by first | exact Or.inl rfl | exact Or.inr rfl) (pe_ix (r := rIxL K) ix_list (pv 0) pe_int (fun _ _ => rfl)))
      (pss_cons (ps_set (i := 4) sc__law_draw.nd rfl (by first | exact Or.inl rfl | exact Or.inr rfl) (pe_ix (r := rIxL K) ix_list (pv 0) pe_int (fun _ _ => rfl)))
      (pss_cons (ps_asg (pe_op op_add (pv 4) pe_int) (pg_sub (pv 0) pe_int set_list))
      (pss_cons (ps_set (i := 5) sc__law_draw.nd rfl (by first | exact Or.inl rfl | exact Or.inr rfl) (pe_op op_mod (pe_callTy c_int1 (by rfl) T.z_int (by decide +kernel) (pa_cons (pv 4) pa_nil)) (pe_callB (r := rLenL K) (id := "len") c_len (by rfl) T.z_len (by decide +kernel) (pa_cons (pv 2) pa_nil))))
      (pss_cons (ps_if (pt_cmpR op_gt (pe_ix (r := rIxL K) ix_list (pv 3) (pv 5) (fun _ _ => rfl)) pe_int (nomark _)) (pss_cons (ps_set (i := 6) sc__law_draw.nd rfl (by first | exact Or.inl rfl | exact Or.inr rfl) (pe_op op_mod (pe_callTy c_int1 (by rfl) T.z_int (by decide +kernel) (pa_cons (pe_ix (r := rIxL K) ix_list (pv 3) (pv 5) (fun _ _ => rfl)) pa_nil)) (pv 1)))
      (pss_cons (ps_asg (pe_op op_fdivW (pe_ix (r := rIxL K) ix_list (pv 3) (pv 5) (fun _ _ => rfl)) (pv 1)) (pg_sub (pv 3) (pv 5) set_list))
      (pss_one (ps_ret (pv 6))))) pss_nil)
      (pss_cons (ps_set (i := 7) sc__law_draw.nd rfl (by first | exact Or.inl rfl | exact Or.inr rfl) (pe_op op_mod (pe_callTy c_int1 (by rfl) T.z_int (by decide +kernel) (pa_cons (pe_op op_mul (pe_op op_add (pe_op op_mod (pe_callTy c_int1 (by rfl) T.z_int (by decide +kernel) (pa_cons (pe_ix (r := rIxL K) ix_list (pv 2) (pv 5) (fun _ _ => rfl)) pa_nil)) pe_int) pe_int) (pe_op op_add (pv 4) pe_int)) pa_nil)) pe_int))
      (pss_cons (ps_set (i := 8) sc__law_draw.nd rfl (by first | exact Or.inl rfl | exact Or.inr rfl) (pe_op op_add (pe_op op_mod (pe_callTy c_int1 (by rfl) T.z_int (by decide +kernel) (pa_cons (pe_ix (r := rIxL K) ix_list (pv 2) (pv 5) (fun _ _ => rfl)) pa_nil)) pe_int) (pe_op op_mul pe_int (pv 4))))
      (pss_cons (ps_set (i := 9) sc__law_draw.nd rfl (by first | exact Or.inl rfl | exact Or.inr rfl) (pe_op op_mod (pe_callTy c_int1 (by rfl) T.z_int (by decide +kernel) (pa_cons (pe_op op_add (pe_op op_add (pe_op op_mul (pv 7) (pv 7)) (pe_op op_mul pe_int (pv 7))) (pv 8)) pa_nil)) pe_int))
      (pss_cons (ps_set (i := 10) sc__law_draw.nd rfl (by first | exact Or.inl rfl | exact Or.inr rfl) (pe_op op_add (pe_op op_mul (pe_op op_mod (pe_callTy c_int1 (by rfl) T.z_int (by decide +kernel) (pa_cons (pv 9) pa_nil)) pe_int) pe_int) (pe_op op_mul (pe_op op_fdivW (pv 9) pe_int) pe_int)))
      (pss_cons (ps_set (i := 11) sc__law_draw.nd rfl (by first | exact Or.inl rfl | exact Or.inr rfl) (pe_op op_mod (pe_callTy c_int1 (by rfl) T.z_int (by decide +kernel) (pa_cons (pe_op op_add (pv 10) (pv 7)) pa_nil)) pe_int))
      (pss_cons (ps_if (pt_cmpR op_le (pv 1) pe_int (nomark _)) (pss_one (ps_ret (pe_op op_mod (pe_callTy c_int1 (by rfl) T.z_int (by decide +kernel) (pa_cons (pv 11) pa_nil)) (pv 1)))) pss_nil)
      (pss_one (ps_ret (pe_op op_mod (pe_callTy c_int1 (by rfl) T.z_int (by decide +kernel) (pa_cons (pe_op op_add (pe_op op_mul (pv 11) pe_int) (pv 9)) pa_nil)) (pv 1)))))))))))))))), ?_⟩
    try simp only [nox_K, cx_K]
    wtm_at "rd"
    refine r_setL (n := 2) h1 rfl ?_
    have g1 : (upd H d (.lst ([.ref c, .ref r, .int t].set 2 (.int (t + 1))))) d = some (.lst [.ref c, .ref r, .int (t + 1)]) := upd_same
    have g2 : (upd H d (.lst ([.ref c, .ref r, .int t].set 2 (.int (t + 1))))) c = some (.lst (ns.map V.int)) := (upd_ne dc.symm).trans h2
    have g3 : (upd H d (.lst ([.ref c, .ref r, .int t].set 2 (.int (t + 1))))) r = some (.lst (rs.map V.int)) := (upd_ne dr.symm).trans h3
    have e1 : Ext d r H (upd H d (.lst ([.ref c, .ref r, .int t].set 2 (.int (t + 1))))) := fun b o e n1 n2 => (upd_ne n1).trans e
    revert g1 g2 g3 e1
    generalize (upd H d (.lst ([.ref c, .ref r, .int t].set 2 (.int (t + 1))))) = H1
    intro g1 g2 g3 e1
    wtm_at "rd"
    refine r_lenI g2 ?_
    refine r_mod (by omega) fun at_ a0 a1 _ => ?_
    wtm_at "rd"
    refine r_ite (fun c1 => ?_) (fun c1 => ?_)
    · wtm_at "rd"
      refine r_mod m0 fun k k0 k1 _ => ?_
      wtm_at "rd"
      refine r_fdiv m0 m1 fun z z0 _ => ?_
      wtm_at "rd"
      refine r_setL g3 (ixn_in a0 (by rw [List.length_map]; omega)) ?_
      wtm_at "rd"
      refine q k _ k0 k1 ⟨dc, dr, cr, ns, rs.set at_.toNat z, t + 1, (upd_ne dr).trans g1, (upd_ne cr).trans g2, ?_, ?_, hp, by omega, ?_⟩ (fun b o e n1 n2 => (upd_ne n2).trans (e1 b o e n1 n2))
      · rw [upd_same, List.map_set]
      · rw [List.length_set]; exact hl
      · intro x hx
        rcases List.mem_or_eq_of_mem_set hx with e | e
        · exact hn x e
        · rw [e]; exact z0 (by omega)
    · wtm_at "rd"
      refine r_mod (by decide) fun x1 l1 u1 _ => ?_
      wtm_at "rd"
      refine r_mul (.inl ⟨by omega, by omega⟩) fun x2 _ => ?_
      wtm_at "rd"
      refine r_mod (by decide) fun first f0 f1 _ => ?_
      wtm_at "rd"
      refine r_mod (by decide) fun x3 l3 u3 _ => ?_
      wtm_at "rd"
      refine r_mul (.inl ⟨by omega, by omega⟩) fun x4 _ => ?_
      wtm_at "rd"
      refine r_mul (.inl ⟨by omega, by omega⟩) fun x5 _ => ?_
      wtm_at "rd"
      refine r_mul (.inl ⟨by omega, by omega⟩) fun x6 _ => ?_
      wtm_at "rd"
      refine r_mod (by decide) fun second s0 s1 _ => ?_
      wtm_at "rd"
      refine r_mod (by decide) fun x7 l7 u7 _ => ?_
      wtm_at "rd"
      refine r_mul (.inl ⟨by omega, by omega⟩) fun x8 _ => ?_
      wtm_at "rd"
      refine r_fdiv (by decide) (by decide) fun x9 _ _ => ?_
      wtm_at "rd"
      refine r_mul (.inr ⟨by omega, by omega⟩) fun x10 _ => ?_
      wtm_at "rd"
      refine r_mod (by decide) fun third t0 t1 _ => ?_
      wtm_at "rd"
      refine r_ite (fun c2 => ?_) (fun c2 => ?_)
      · wtm_at "rd"
        refine r_mod m0 fun k k0 k1 _ => ?_
        exact q k _ k0 k1 ⟨dc, dr, cr, ns, rs, t + 1, g1, g2, g3, hl, hp, by omega, hn⟩ e1
      · wtm_at "rd"
        refine r_mul (.inl ⟨by omega, by omega⟩) fun x11 _ => ?_
        wtm_at "rd"
        refine r_mod m0 fun k k0 k1 _ => ?_
        exact q k _ k0 k1 ⟨dc, dr, cr, ns, rs, t + 1, g1, g2, g3, hl, hp, by omega, hn⟩ e1
theorem ok__law_begin (T : Txt K mg) : FnOk P w K mg base CX0 1 T.f__law_begin T.d__law_begin ["_law_script"] (spBegin K) := by
  refine T.F__law_begin.ok sc__law_begin (fun vs H Q E h => ?_) (fun cdv A outer s H vs Q E hr h => ?_)
  · obtain ⟨a, ns, rfl, _⟩ := h
    rfl
  obtain ⟨a, ns, rfl, hS, hlen, q⟩ := h
  refine ⟨_, (pss_cons (ps_setLc (i := 1) (own := [("_law_cell", 3)]) (g := gName 3) (tt := tYes) rfl sc__law_begin.nd rfl rfl (sw_true rfl rfl rfl (by decide +kernel)) (pi_list (pe_slice sl_list (pv 0) po_none (po_some pe_int))) (blkOk_by (N := ["_law_script", "_law_cells", "_law_rests", "_law_cell"]) (sc := defScope s__law_begin) (by decide +kernel)) (fun _ _ _ _ _ => pg_name (i := 3) sc__law_begin.nd rfl (by first | exact Or.inl rfl | exact Or.inr rfl)) (fun _ _ _ _ _ => pts_nil) (fun _ _ _ _ _ => (pe_callTy c_int1 (by rfl) T.z_int (by decide +kernel) (pa_cons (pv 3) pa_nil))))
      (C8.pss_cut (ps_if (pt_cmpR op_eq (pe_callB (r := rLenL K) (id := "len") c_len (by rfl) T.z_len (by decide +kernel) (pa_cons (pv 1) pa_nil)) pe_int (nomark _)) (pss_one (ps_set (i := 1) sc__law_begin.nd rfl (by first | exact Or.inl rfl | exact Or.inr rfl) (pe_lst (pa_cons pe_int pa_nil)))) pss_nil)
      (pss_cons (ps_setLc (i := 2) (own := [("_law_cell", 3)]) (g := gName 3) (tt := tYes) rfl sc__law_begin.nd rfl rfl (sw_true rfl rfl rfl (by decide +kernel)) (pi_list (pv 1)) (blkOk_by (N := ["_law_script", "_law_cells", "_law_rests", "_law_cell"]) (sc := defScope s__law_begin) (by decide +kernel)) (fun _ _ _ _ _ => pg_name (i := 3) sc__law_begin.nd rfl (by first | exact Or.inl rfl | exact Or.inr rfl)) (fun _ _ _ _ _ => pts_nil) (fun _ _ _ _ _ => (pe_op op_mul (pe_callB c_abs (by rfl) T.z_abs (by decide +kernel) (pa_cons (pv 3) pa_nil)) (pe_callTy c_intB (by rfl) T.z_int (by decide +kernel) (pa_cons (pe_cmpR op_ge (pe_callB c_abs (by rfl) T.z_abs (by decide +kernel) (pa_cons (pv 3) pa_nil)) (pe_op op_pow pe_int pe_int) (nomark _)) pa_nil)))))
      (pss_one (ps_ret (pe_lst (pa_cons (pv 1) (pa_cons (pv 2) (pa_cons pe_int pa_nil))))))))), ?_⟩
  try simp only [nox_K, cx_K]
  wtm_at "rd"
  refine r_slL hS fun p np => ?_
  have s1 : Same H (upd H p (.lst (cutV (ns.map V.int) none (some 63)))) := same_new np
  have e0 : cutV (ns.map V.int) none (some 63) = ns.map V.int := cut_none (n := 63) (by rw [List.length_map]; exact hlen)
  rw [e0] at s1 ⊢
  have hp : (upd H p (.lst (ns.map V.int))) p = some (.lst (ns.map V.int)) := upd_same
  refine r_itl (SqL.of hp) ?_
  refine lc_map (fun x => x) (SqL.of hp) (by rw [List.length_map]; omega) (fun x H' QQ hx s' hQ => ?_) (fun c nc => ?_)
  · obtain ⟨y, _, rfl⟩ := List.mem_map.mp hx
    wtm_at "rd"
    exact hQ
  have s2 := s1.trans (same_new (o := .lst ((ns.map V.int).map fun x => x)) nc)
  have hc : (upd (upd H p (.lst (ns.map V.int))) c (.lst ((ns.map V.int).map fun x => x))) c = some (.lst (ns.map V.int)) := by rw [upd_same, List.map_id']
  revert s2 hc
  generalize (upd (upd H p (.lst (ns.map V.int))) c (.lst ((ns.map V.int).map fun x => x))) = H2
  intro s2 hc
  wtm_at "rd"
  refine ⟨fun σ H1 => ∃ (c : Addr) (ms : List Int) (x3 : Option V), σ = [some (.ref a), some (.ref c), none, x3] ∧ H1 c = some (.lst (ms.map V.int)) ∧ 0 < ms.length ∧ ms.length ≤ 63 ∧ Same H H1 ∧ H c = none, ?_, ?_⟩
  · wtm_at "rd"
    refine r_lenI hc ?_
    wtm_at "rd"
    refine r_ite (fun e => ?_) (fun e => ?_)
    · wtm_at "rd"
      refine r_new rfl fun c2 nc2 => ?_
      wtm_at "rd"
      exact ⟨c2, [0], _, rfl, upd_same, by decide, by decide, s2.trans (same_new nc2), s2.free nc2⟩
    · wtm_at "rd"
      exact ⟨c, ns, _, rfl, hc, by omega, hlen, s2, s1.free nc⟩
  rintro σ H1 ⟨c, ms, x3, rfl, hc, h0, h63, s1, nc⟩
  wtm_at "rd"
  refine r_itl (SqL.of hc) ?_
  refine lc_map restOf (SqL.of hc) (by rw [List.length_map]; omega) (fun x H' QQ hx s' hQ => ?_) (fun r nr => ?_)
  · obtain ⟨y, _, rfl⟩ := List.mem_map.mp hx
    wtm_at "rd"
    refine r_I ⟨by decide, by decide, by decide⟩ ?_
    wtm_at "rd"
    exact r_I (.inr bit_ok) hQ
  have s2 : Same H1 (upd H1 r (.lst ((ms.map V.int).map restOf))) := same_new nr
  wtm_at "rd"
  refine r_new rfl fun d nd => ?_
  have hd : H d = none := (s1.trans s2).free nd
  have hcr : c ≠ r := ne_of_none hc nr
  have hdc : d ≠ c := (ne_of_none (s2 _ _ hc) nd).symm
  have hdr : d ≠ r := (ne_of_none (upd_same (H := H1) (a := r)) nd).symm
  refine q d c r _ ⟨hdc, hdr, hcr, ms, ms.map restI, 0, upd_same, ?_, ?_, ?_, h0, by decide, ?_⟩ ((s1.trans s2).trans (same_new nd)) hd nc (s1.free nr)
  · rw [upd_ne hdc.symm]; exact s2 _ _ hc
  · rw [upd_ne hdr.symm, upd_same, rest_map]
  · rw [List.length_map]
  · intro x hx
    obtain ⟨y, _, rfl⟩ := List.mem_map.mp hx
    exact rest_nn y
end
section
variable {P : Program} {w : World} {K : PySem.W.Frag} {mg : Str → Option Value} {base : Heap}

theorem raise_word {C : Addr} {z : Str} {H : Hp} {Q : XK} (h : ∀ (d : Addr) (H' : Hp), H d = none → H' d = some (.xd [("word", .str z)]) → Same H H' → Q (.ref C) (some d) H') :
    ∀ a, H a = none → spBSInit C (.ref a :: ([V.str z] ++ [])) (upd H a (exo a C none)) (fun v H2 => v = .non ∧ ∃ (d : Addr) (fs : List (Str × V)), H2 a = some (exo a C (some d)) ∧ H2 d = some (exd d fs) ∧ H d = none ∧ Q (.ref C) (some d) (upd (del H2 a) d (.xd fs))) (fun _ _ _ => False) := by
  intro a na
  refine ⟨a, z, rfl, upd_same, fun dx H' nd ha hd hk => ⟨rfl, dx, _, ha, hd, (same_new na).free nd, ?_⟩⟩
  refine h dx _ ((same_new na).free nd) upd_same fun b o e => ?_
  have nb : b ≠ a := ne_of_none e na
  rw [upd_ne (ne_of_none e ((same_new na).free nd)), del_ne nb]
  exact hk b o (by rw [upd_ne nb]; exact e) nb
theorem ok_BadScheme___init__ (T : Txt K mg) : FnOk P w K mg base CX0 1 T.f_BadScheme___init__ T.d_BadScheme___init__ ["self", "word"] (spBSInit T.C_BadScheme) := by
  refine T.F_BadScheme___init__.ok sc_BadScheme___init__ (fun vs H Q E h => ?_) (fun cdv A outer s H vs Q E hr h => ?_)
  · obtain ⟨a, z, rfl, _⟩ := h
    rfl
  obtain ⟨a, z, rfl, ha, q⟩ := h
  refine ⟨_, (pss_one (ps_ost (pv 0) (pv 1))), ?_⟩
  try simp only [nox_K, cx_K]
  wtm_at "rd"
  refine ⟨a, _, rfl, T.ox_BadScheme, T.nf_BadScheme_word, .inl ⟨ha, fun dx nd ne => ?_⟩⟩
  wtm_at "rd"
  refine q dx _ nd upd_same ?_ fun b o e nb => ?_
  · rw [upd_ne ne, upd_same]
  · rw [upd_ne nb, upd_ne (ne_of_none e nd)]
    exact e
theorem ok_is_name (T : Txt K mg) : FnOk P w K mg base CX0 1 T.f_is_name T.d_is_name ["thing"] spIsName := by
  refine T.F_is_name.ok sc_is_name (fun vs H Q E h => ?_) (fun cdv A outer s H vs Q E hr h => ?_)
  · obtain ⟨z, rfl, _⟩ := h
    rfl
  obtain ⟨z, rfl, hz, q⟩ := h
  refine ⟨_, (pss_cons (ps_if (PW.pt (pw_or (pt_not (pt_val (pe_callB call_isi (by rfl) T.z_isinstance (by decide +kernel) (pa_cons (pv 0) (pa_cons (pe_bltn (v := .ty "str") (u := .type "str") (by rfl) T.z_str (by decide +kernel) rfl) pa_nil))))) (pw_or (pt_not (pt_chain op_le op_le pe_int (pe_callB call_len_str (by rfl) T.z_len (by decide +kernel) (pa_cons (pv 0) pa_nil)) pe_int)) (pw_or1 (pt_cmpR op_in_seq (pv 0) (pe_glob (v := .ref T.a_WORDS) rfl T.g_WORDS rfl) (by rfl)))))) (pss_one (ps_ret pe_bl)) pss_nil)
      (pss_one (ps_ret (pe_callB (cr_all rfl) (by rfl) T.z_all (by decide +kernel) (pa_cons (pe_lc (own := [("letter", 1)]) (g := gName 1) (tt := tYes) rfl sc_is_name.nd (pi_str (pv 0)) (blkOk_by (N := ["thing", "letter"]) (sc := defScope s_is_name) (by decide +kernel)) (fun _ _ _ _ _ => pg_name (i := 1) sc_is_name.nd rfl (by first | exact Or.inl rfl | exact Or.inr rfl)) (fun _ _ _ _ _ => pts_nil) (fun _ _ _ _ _ => (pe_cmpR op_in_sign (pv 1) (pe_glob (v := .str "abcdefghijklmnopqrstuvwxyz") rfl T.g_LETTERS ⟨_, rfl⟩) (by rfl)))) pa_nil))))), ?_⟩
  try simp only [nox_K, cx_K]
  have zl : z.length ≤ sizeLine := Nat.le_of_lt (small1000 hz)
  wtm_at "rd"
  refine r_isi (.ty "str") (.base (.str _)) kit_self ?_
  wtm_at "rdi"
  · refine ⟨z, rfl, zl, ?_⟩
    wtm_at "rd"
    refine r_ite (fun e1 => ?_) (fun e1 => ?_)
    · wtm_at "rd"
      refine r_iten (fun e2 => ?_) (fun e2 => ?_)
      · wtm_at "rdi"
        refine bl_to (q _ (Same.refl _)) ?_
        rw [isNameB, decide_eq_false (by omega), Bool.false_and]
      · wtm_at "rd"
        refine r_inT (T.q_WORDS _) rfl rfl ?_
        show ∃ k, V.bl (inV (.str z) (wordsS.map V.str)) = .bl k ∧ _
        wtm_at "rd"
        refine r_iteb (fun e3 => ?_) (fun e3 => ?_)
        · wtm_at "rd"
          refine bl_to (q _ (Same.refl _)) ?_
          rw [isNameB, e3, decide_eq_true (by omega)]
          rfl
        · wtm_at "rd"
          refine lc_strM (fun c => .bl (letB c)) hz (fun c H' QQ s' hQ => ?_) fun D nD => ?_
          · wtm_at "rd"
            exact ⟨c, _, rfl, rfl, hQ⟩
          · wtm_at "rd"
            refine ⟨D, z.cps.toList.map letB, rfl, SqL.of (by rw [upd_same, List.map_map]; rfl), ?_⟩
            refine bl_to (q _ (same_new nD)) ?_
            rw [isNameB, e3, decide_eq_true (by omega), List.all_map]
            rfl
    · refine ⟨false, rfl, ?_⟩
      wtm_at "rdi"
      refine bl_to (q _ (Same.refl _)) ?_
      rw [isNameB, decide_eq_false (by omega), Bool.false_and]
theorem ok_Sort___init__ (T : Txt K mg) : FnOk P w K mg base CX0 1 T.f_Sort___init__ T.d_Sort___init__ ["self", "name", "key", "part", "descending"] (spSortInit T.C_Sort) := by
  refine T.F_Sort___init__.ok sc_Sort___init__ (fun vs H Q E h => ?_) (fun cdv A outer s H vs Q E hr h => ?_)
  · obtain ⟨p, dx, sr, rfl, _⟩ := h
    rfl
  obtain ⟨p, dx, sr, rfl, hp, q⟩ := h
  refine ⟨_, (pss_cons (ps_fld (pv 0) (pv 1) rfl)
      (pss_cons (ps_fld (pv 0) (pv 2) rfl)
      (pss_cons (ps_fld (pv 0) (pv 3) rfl)
      (pss_one (ps_fld (pv 0) (pv 4) rfl))))), ?_⟩
  try simp only [nox_K, cx_K]
  wtm_at "rd"
  refine r_put hp T.c_Sort T.nf_Sort_name (by decide) ?_
  wtm_at "rd"
  refine r_put upd_same T.c_Sort T.nf_Sort_key (Nat.lt_of_le_of_lt (putF_len _ _ _) (by decide)) ?_
  wtm_at "rd"
  refine r_put upd_same T.c_Sort T.nf_Sort_part (Nat.lt_of_le_of_lt (putF_len _ _ _) (Nat.lt_of_le_of_lt (Nat.succ_le_succ (putF_len _ _ _)) (by decide))) ?_
  wtm_at "rd"
  refine r_put upd_same T.c_Sort T.nf_Sort_descending (Nat.lt_of_le_of_lt (putF_len _ _ _) (Nat.lt_of_le_of_lt (Nat.succ_le_succ (putF_len _ _ _)) (Nat.lt_of_le_of_lt (Nat.succ_le_succ (Nat.succ_le_succ (putF_len _ _ _))) (by decide)))) ?_
  wtm_at "rd"
  refine q _ ⟨dx, upd_same⟩ fun b o e nb => ?_
  rw [upd_ne nb, upd_ne nb, upd_ne nb, upd_ne nb]
  exact e
theorem ok_first_double (T : Txt K mg) : FnOk P w K mg base CX0 1 T.f_first_double T.d_first_double ["words"] spFirstD := by
  refine T.F_first_double.ok sc_first_double (fun vs H Q E h => ?_) (fun cdv A outer s H vs Q E hr h => ?_)
  · obtain ⟨p, ws, rfl, _⟩ := h
    rfl
  obtain ⟨p, ws, rfl, hp, hl, q⟩ := h
  refine ⟨_, (pss_cons (ps_set (i := 1) sc_first_double.nd rfl (by first | exact Or.inl rfl | exact Or.inr rfl) pe_dnewK)
      (pss_cons (ps_for PassesOwn.never rfl (pi_list (pv 0)) (pg_name (i := 2) sc_first_double.nd rfl (by first | exact Or.inl rfl | exact Or.inr rfl)) (pss_cons (ps_if (pt_cmp (pc_din (hu_of hr) (pv 2) (pv 1))) (pss_one (ps_ret (pv 2))) pss_nil)
      (pss_one (ps_dput (hu_of hr) (pv 1) (pv 2) pe_bl rfl))))
      (pss_one (ps_ret pe_non)))), ?_⟩
  try simp only [nox_K, cx_K]
  wtm_at "rd"
  refine r_dnew fun d nd => ?_
  wtm_at "rd"
  refine r_for (r_il ?_)
  wtm_at "rd"
  refine r_itl (SqL.of ((same_new nd) _ _ hp)) ?_
  refine for_list (K := K) (a := p) (xs := ws.map V.str) (fun i σ H' => ∃ (y2 : Option V) (kvs : List (Key × V)), σ = [some (.ref p), some (.ref d), y2] ∧ H' d = some (.dK kvs) ∧ (∀ w, (valV kvs (Sum.inr w)).isSome = decide (w ∈ ws.take i)) ∧ kvs.length ≤ i ∧ Same H H' ∧ dblFrom [] ws = dblFrom (ws.take i) (ws.drop i)) ⟨_, [], rfl, upd_same, fun w => (by rw [List.take_zero]; rfl), Nat.le_refl _, same_new nd, rfl⟩ (fun i σ H' _ ⟨_, _, _, _, _, _, s, _⟩ => SqL.of (s _ _ hp)) ?_ ?_
  · rintro i v σ H1 hv ⟨y2, kvs, rfl, hd, hval, hkl, s1, hdb⟩
    have hi : i < ws.length := by
      have := (List.getElem?_eq_some_iff.mp hv).1
      rw [List.length_map] at this
      exact this
    have hw : ws[i]? = some ws[i] := List.getElem?_eq_getElem hi
    rw [List.getElem?_map, hw] at hv
    cases hv
    rw [List.drop_eq_getElem_cons hi] at hdb
    rw [dbl_cons] at hdb
    wtm_at "rd"
    refine r_dinS hd ?_
    wtm_at "rd"
    rw [hval]
    refine r_ite (fun e1 => ?_) (fun e1 => ?_)
    · rw [if_pos e1] at hdb
      wtm_at "rd"
      have z := q _ s1
      rw [hdb] at z
      exact z
    · rw [if_neg e1] at hdb
      wtm_at "rd"
      refine r_dputS hd (by omega) ?_
      refine ⟨_, _, rfl, upd_same, fun w => ?_, Nat.le_trans putK_len (by omega), fun b o e => (upd_ne (ne_of_none e nd)).trans (s1 _ _ e), ?_⟩
      · rw [valV_put, List.take_add_one, hw]
        by_cases c : w = ws[i]
        · rw [c, if_pos rfl]
          exact (decide_eq_true (List.mem_append.mpr (.inr List.mem_cons_self))).symm
        · rw [if_neg fun z => c (Sum.inr.inj z), hval, decide_eq_decide, List.mem_append]
          exact ⟨.inl, fun z => z.elim id fun y => absurd (List.mem_singleton.mp y) c⟩
      · rw [hdb, List.take_add_one, hw]
        rfl
  · rintro σ H1 ⟨y2, kvs, rfl, hd, hval, hkl, s1, hdb⟩
    rw [List.length_map, List.drop_length] at hdb
    wtm_at "rd"
    have z := q _ s1
    rw [show dblFrom [] ws = none from hdb] at z
    exact z
section
variable {H : Hp} {p : Addr} {sr : Srt} {F : V → Prop}
theorem r_sname (T : Txt K mg) (o : SortAt T.C_Sort H p sr) (h : F (.str sr.nm)) : ∃ a C dx fs v, V.ref p = .ref a ∧ H a = some (.ins C dx fs) ∧ Cls K C ∧ NoAttr K C "name" ∧ fs.lookup ("name" : Str) = some v ∧ F v := by
  obtain ⟨dx, e⟩ := o
  exact r_get e T.c_Sort T.nf_Sort_name (srt_name sr) h
theorem r_skey (T : Txt K mg) (o : SortAt T.C_Sort H p sr) (h : F (.str sr.ky)) : ∃ a C dx fs v, V.ref p = .ref a ∧ H a = some (.ins C dx fs) ∧ Cls K C ∧ NoAttr K C "key" ∧ fs.lookup ("key" : Str) = some v ∧ F v := by
  obtain ⟨dx, e⟩ := o
  exact r_get e T.c_Sort T.nf_Sort_key (srt_key sr) h
theorem r_spart (T : Txt K mg) (o : SortAt T.C_Sort H p sr) (h : F (partV sr.pt)) : ∃ a C dx fs v, V.ref p = .ref a ∧ H a = some (.ins C dx fs) ∧ Cls K C ∧ NoAttr K C "part" ∧ fs.lookup ("part" : Str) = some v ∧ F v := by
  obtain ⟨dx, e⟩ := o
  exact r_get e T.c_Sort T.nf_Sort_part (srt_part sr) h
end
theorem ok_Scheme_sort_names (T : Txt K mg) : FnOk P w K mg base CX0 1 T.f_Scheme_sort_names T.d_Scheme_sort_names ["self"] (spNamesOf K T.C_Scheme T.C_Sort) := by
  refine T.F_Scheme_sort_names.ok sc_Scheme_sort_names (fun vs H Q E h => ?_) (fun cdv A outer s H vs Q E hr h => ?_)
  · obtain ⟨p, sc, rfl, _⟩ := h
    rfl
  obtain ⟨p, sc, rfl, o, sm, q⟩ := h
  refine ⟨_, (pss_one (ps_ret (pe_lc (own := [("one", 1)]) (g := gName 1) (tt := tYes) rfl sc_Scheme_sort_names.nd (pi_tup (pe_fldK (K := K) (pv 0))) (blkOk_by (N := ["self", "one"]) (sc := defScope s_Scheme_sort_names) (by decide +kernel)) (fun _ _ _ _ _ => pg_name (i := 1) sc_Scheme_sort_names.nd rfl (by first | exact Or.inl rfl | exact Or.inr rfl)) (fun _ _ _ _ _ => pts_nil) (fun _ _ _ _ _ => (pe_fldK (K := K) (pv 1)))))), ?_⟩
  try simp only [nox_K, cx_K]
  obtain ⟨dx, tS, tP, tV, tM, as, e, hS, hA, hP, hV, hM⟩ := o
  have hl : (as.map V.ref).length ≤ 1000 := by rw [List.length_map, hA.len]; exact Nat.le_trans sm.l1 (by decide)
  wtm_at "rd"
  refine r_get e T.c_Scheme T.nf_Scheme_sorts (sch_sorts _ _ _ _) ?_
  refine r_itt hS ?_
  refine lc_mapT (fldV H "name") hS hl (fun v H' QQ hv s' hQ => ?_) fun l nl => ?_
  · obtain ⟨a, ha, rfl⟩ := List.mem_map.mp hv
    obtain ⟨j, hj⟩ := List.getElem?_of_mem ha
    obtain ⟨b, _, hb⟩ := hA.get hj
    have ev : fldV H "name" (.ref a) = .str b.nm := by
      obtain ⟨dx', e'⟩ := hb
      exact fld_at e' (srt_name b)
    rw [ev] at hQ
    wtm_at "rd"
    exact r_sname T (hb.same s') hQ
  · refine q l _ nl (same_new nl) ?_
    rw [upd_same, List.map_map]
    congr 2
    show _ = (sc.ss.map Srt.nm).map V.str
    rw [List.map_map]
    refine hA.map fun a b hb => ?_
    obtain ⟨dx', e'⟩ := hb
    exact fld_at e' (srt_name b)
theorem ok_Scheme_columns (T : Txt K mg) : FnOk P w K mg base CX0 1 T.f_Scheme_columns T.d_Scheme_columns ["self"] (spColsOf K T.C_Scheme T.C_Sort) := by
  refine T.F_Scheme_columns.ok sc_Scheme_columns (fun vs H Q E h => ?_) (fun cdv A outer s H vs Q E hr h => ?_)
  · obtain ⟨p, sc, rfl, _⟩ := h
    rfl
  obtain ⟨p, sc, rfl, o, sm, q⟩ := h
  refine ⟨_, (pss_cons (ps_setLc (i := 1) (own := [("one", 2)]) (g := gName 2) (tt := tYes) rfl sc_Scheme_columns.nd rfl rfl (sw_true rfl rfl rfl (by decide +kernel)) (pi_tup (pe_fldK (K := K) (pv 0))) (blkOk_by (N := ["self", "keys", "one"]) (sc := defScope s_Scheme_columns) (by decide +kernel)) (fun _ _ _ _ _ => pg_name (i := 2) sc_Scheme_columns.nd rfl (by first | exact Or.inl rfl | exact Or.inr rfl)) (fun _ _ _ _ _ => pts_nil) (fun _ _ _ _ _ => (pe_fldK (K := K) (pv 2))))
      (pss_one (ps_ret (pe_lst (StX.pa_star (pe_fldK (K := K) (pv 0)) (StX.pa_star (pv 1) (StX.pa_star (pe_fldK (K := K) (pv 0)) (StX.pa_star (pe_fldK (K := K) (pv 0)) pa_nil)))))))), ?_⟩
  try simp only [nox_K, cx_K]
  obtain ⟨dx, tS, tP, tV, tM, as, e, hS, hA, hP, hV, hM⟩ := o
  have hl : (as.map V.ref).length ≤ 1000 := by rw [List.length_map, hA.len]; exact Nat.le_trans sm.l1 (by decide)
  wtm_at "rd"
  refine r_get e T.c_Scheme T.nf_Scheme_sorts (sch_sorts _ _ _ _) ?_
  refine r_itt hS ?_
  refine lc_mapT (fldV H "key") hS hl (fun v H' QQ hv s' hQ => ?_) fun l nl => ?_
  · obtain ⟨a, ha, rfl⟩ := List.mem_map.mp hv
    obtain ⟨j, hj⟩ := List.getElem?_of_mem ha
    obtain ⟨b, _, hb⟩ := hA.get hj
    have ev : fldV H "key" (.ref a) = .str b.ky := by
      obtain ⟨dx', e'⟩ := hb
      exact fld_at e' (srt_key b)
    rw [ev] at hQ
    wtm_at "rd"
    exact r_skey T (hb.same s') hQ
  have ek : (as.map V.ref).map (fldV H "key") = (sc.ss.map Srt.ky).map V.str := by
    rw [List.map_map, List.map_map]
    refine hA.map fun a b hb => ?_
    obtain ⟨dx', e'⟩ := hb
    exact fld_at e' (srt_key b)
  rw [ek]
  have s1 := same_new (H := H) (o := .lst ((sc.ss.map Srt.ky).map V.str)) nl
  have e := s1 _ _ e
  wtm_at "rd"
  refine r_get e T.c_Scheme T.nf_Scheme_part_columns (sch_parts _ _ _ _) ?_
  refine r_stT (same_tup s1 hP) ?_
  wtm_at "rd"
  refine r_stL (SqL.of upd_same) ?_
  wtm_at "rd"
  refine r_get e T.c_Scheme T.nf_Scheme_value_columns (sch_values _ _ _ _) ?_
  refine r_stT (same_tup s1 hV) ?_
  wtm_at "rd"
  refine r_get e T.c_Scheme T.nf_Scheme_mark_columns (sch_marks _ _ _ _) ?_
  refine r_stT (same_tup s1 hM) ?_
  wtm_at "rd"
  have h1 := sm.l1
  have h2 := sm.l2
  have h3 := sm.l3
  have h4 := sm.l4
  refine ⟨Nat.le_of_lt (small1000 ?_), fun l2 nl2 => ?_⟩
  · simp only [List.length_append, List.length_map, List.length_nil]
    omega
  · refine q l2 _ (s1.free nl2) (s1.trans (same_new nl2)) ?_
    rw [upd_same]
    congr 2
    simp only [Sch.cols, List.map_append, List.append_nil]
theorem sch_who {CC CS : Addr} {H : Hp} {p : Addr} {sc : Sch} {m : Str} {A : Prop} (o : SchAt K CC CS H p sc) (h1 : ¬ m = "mark_columns") (h2 : ¬ m = "value_columns") (h3 : ¬ m = "part_columns") (h4 : ¬ m = "sorts") (h : A) : ∃ a' dx fs, V.ref p = .ref a' ∧ H a' = some (.ins CC dx fs) ∧ fs.lookup m = none ∧ A := by
  obtain ⟨dx, tS, tP, tV, tM, as, e, _⟩ := o
  exact r_who e (sch_no _ _ _ _ h1 h2 h3 h4) h
theorem ok_Scheme_inspect (T : Txt K mg) : FnOk P w K mg base (L2.CX P w) 3 T.f_Scheme_inspect T.d_Scheme_inspect ["self"] (spInspect K T.C_Scheme T.C_Sort T.C_BadScheme) := by
  refine T.F_Scheme_inspect.okX sc_Scheme_inspect (fun vs H Q E h => ?_) (fun cdv A outer s H vs Q E hr h => ?_)
  · obtain ⟨p, sc, rfl, _⟩ := h
    rfl
  obtain ⟨p, sc, rfl, o, sm, qE, q⟩ := h
  refine ⟨_, (pss_cons (ps_set (i := 1) sc_Scheme_inspect.nd rfl (by first | exact Or.inl rfl | exact Or.inr rfl) (pe_meth0 (pv 0) T.c_Scheme T.mt_Scheme_sort_names (ok_Scheme_sort_names T) (hr.mono (by decide)) T.b_Scheme_sort_names .nil pass0))
      (pss_cons (ps_set (i := 2) sc_Scheme_inspect.nd rfl (by first | exact Or.inl rfl | exact Or.inr rfl) (pe_meth0 (pv 0) T.c_Scheme T.mt_Scheme_columns (ok_Scheme_columns T) (hr.mono (by decide)) T.b_Scheme_columns .nil pass0))
      (pss_cons (ps_for (passes_of rfl) rfl (pi_list (pe_op op_cat (pv 1) (pv 2))) (pg_name (i := 3) sc_Scheme_inspect.nd rfl (by first | exact Or.inl rfl | exact Or.inr rfl)) (pss_one (ps_if (pt_not (pt_val (pe_call (ok_is_name T) (hr.mono (by decide)) (by rfl) T.g_is_name T.F_is_name.kp T.b_is_name .nil pass0 (pa_cons (pv 3) pa_nil)))) (pss_one (ps_raise rfl (takes_of rfl rfl rfl rfl) (pmk_oex T.ox_BadScheme T.iC_BadScheme T.tI_BadScheme (ok_BadScheme___init__ T) (hr.mono (by decide)) T.b_BadScheme___init__ .nil pass0 (by rfl) T.g_BadScheme (pa_cons (pv 3) pa_nil)))) pss_nil)))
      (pss_cons (ps_for (passes_of rfl) rfl (pi_tup (pe_tup (pa_cons (pv 1) (pa_cons (pv 2) pa_nil)))) (pg_name (i := 4) sc_Scheme_inspect.nd rfl (by first | exact Or.inl rfl | exact Or.inr rfl)) (pss_cons (ps_set (i := 3) sc_Scheme_inspect.nd rfl (by first | exact Or.inl rfl | exact Or.inr rfl) (pe_call (ok_first_double T) (hr.mono (by decide)) (by rfl) T.g_first_double T.F_first_double.kp T.b_first_double .nil pass0 (pa_cons (pv 4) pa_nil)))
      (pss_one (ps_if (pt_cmpR o_notN (pv 3) pe_non (nomark _)) (pss_one (ps_raise rfl (takes_of rfl rfl rfl rfl) (pmk_oex T.ox_BadScheme T.iC_BadScheme T.tI_BadScheme (ok_BadScheme___init__ T) (hr.mono (by decide)) T.b_BadScheme___init__ .nil pass0 (by rfl) T.g_BadScheme (pa_cons (pv 3) pa_nil)))) pss_nil))))
      (pss_one (ps_for (passes_of rfl) rfl (pi_tup (pe_fldK (K := K) (pv 0))) (pg_name (i := 5) sc_Scheme_inspect.nd rfl (by first | exact Or.inl rfl | exact Or.inr rfl)) (pss_one (ps_if (PW.pt (pw_and (pt_cmpR o_notN (pe_fldK (K := K) (pv 5)) pe_non (nomark _)) (pw_and1 (pt_cmpR op_notIn_seq (pe_fldK (K := K) (pv 5)) (pe_fldK (K := K) (pv 0)) (by rfl))))) (pss_one (ps_raise rfl (takes_of rfl rfl rfl rfl) (pmk_oex T.ox_BadScheme T.iC_BadScheme T.tI_BadScheme (ok_BadScheme___init__ T) (hr.mono (by decide)) T.b_BadScheme___init__ .nil pass0 (by rfl) T.g_BadScheme (pa_cons (pe_fldK (K := K) (pv 5)) pa_nil)))) pss_nil)))))))), ?_⟩
  try simp only [nox_K, cx_K]
  wtm_at "rd"
  refine sch_who o (by decide +kernel) (by decide +kernel) (by decide +kernel) (by decide +kernel) ?_
  wtm_at "rd"
  refine ⟨p, sc, rfl, o, sm, fun ln H1 n1 s1 hn1 => ?_⟩
  have o := o.same s1
  wtm_at "rd"
  refine sch_who o (by decide +kernel) (by decide +kernel) (by decide +kernel) (by decide +kernel) ?_
  wtm_at "rd"
  refine ⟨p, sc, rfl, o, sm, fun lc H2 n2 s2 hc2 => ?_⟩
  have o := o.same s2
  have hn2 := s2 _ _ hn1
  have s2 := s1.trans s2
  have h1 := sm.l1
  have h2 := sm.l2
  have h3 := sm.l3
  have h4 := sm.l4
  have ln' : sc.names.length ≤ 20 := by rw [Sch.names, List.length_map]; exact h1
  have lc' : sc.cols.length ≤ 80 := by
    simp only [Sch.cols, List.length_append, List.length_map]
    omega
  wtm_at "rd"
  refine r_for (r_il ?_)
  wtm_at "rd"
  refine ⟨ln, lc, _, _, rfl, rfl, hn2, hc2, Nat.le_of_lt (small1000 (by rw [List.length_map, List.length_map]; omega)), fun l3 n_l3 => ?_⟩
  rw [← List.map_append]
  generalize eq_l3 : upd _ l3 _ = H3
  have s_l3 : Same _ H3 := eq_l3 ▸ same_new n_l3
  have h_l3 : H3 l3 = some _ := eq_l3 ▸ upd_same
  clear eq_l3
  have o := o.same s_l3
  have hn2 := s_l3 _ _ hn2
  have hc2 := s_l3 _ _ hc2
  have s2 := s2.trans s_l3
  refine r_itl (SqL.of h_l3) ?_
  refine for_list (K := K) (a := l3) (xs := (sc.names ++ sc.cols).map V.str) (fun i σ H' => ∃ (y3 y4 y5 : Option V), σ = [some (.ref p), some (.ref ln), some (.ref lc), y3, y4, y5] ∧ Same H3 H' ∧ ∀ w ∈ (sc.names ++ sc.cols).take i, isNameB w = true) ⟨_, _, _, rfl, Same.refl _, fun w z => (by rw [List.take_zero] at z; cases z)⟩ (fun i σ H' _ ⟨_, _, _, _, s, _⟩ => SqL.of (s _ _ h_l3)) ?_ ?_
  · rintro i v σ H4 hv ⟨y3, y4, y5, rfl, s4, hall⟩
    rw [List.getElem?_map] at hv
    obtain ⟨w, hw, rfl⟩ := Option.map_eq_some_iff.mp hv
    wtm_at "rd"
    refine ⟨w, rfl, sm.w w (List.mem_of_getElem? hw), fun H5 s5 => ?_⟩
    wtm_at "rd"
    refine r_itebn (fun e1 => ?_) (fun e1 => ?_)
    · refine ⟨.str w, rfl, Nat.le_of_ble_eq_true rfl, raise_word fun d H' nd hd s => ?_⟩
      have s6 := ((s2.trans s4).trans s5)
      refine qE w ?_ d H' (s6.free nd) hd (s6.trans s)
      unfold Sch.bad badWord
      rw [find_take (f := fun w => !isNameB w) (fun y hy => by rw [hall y hy]; rfl) hw (by rw [e1]; rfl)]
      rfl
    · wtm_at "rd"
      refine ⟨_, _, _, rfl, s4.trans s5, fun y hy => ?_⟩
      rcases take_snoc hw hy with z | z
      · exact hall y z
      · rw [z]; exact e1
  rintro σ H4 ⟨y3, y4, y5, rfl, s4, hall⟩
  rw [List.length_map, List.take_length] at hall
  have b1 : badWord (sc.names ++ sc.cols) = none := List.find?_eq_none.mpr fun y hy => by rw [hall y hy]; exact Bool.false_ne_true
  have o := o.same s4
  have hn4 := s4 _ _ hn2
  have hc4 := s4 _ _ hc2
  have s4 := s2.trans s4
  wtm_at "rd"
  refine r_for (r_it ?_)
  wtm_at "rd"
  refine r_new rfl fun tt n_tt => ?_
  generalize eq_tt : upd _ tt _ = H5
  have s_tt : Same _ H5 := eq_tt ▸ same_new n_tt
  have h_tt : H5 tt = some _ := eq_tt ▸ upd_same
  clear eq_tt
  have o := o.same s_tt
  have hn4 := s_tt _ _ hn4
  have hc4 := s_tt _ _ hc4
  have s4 := s4.trans s_tt
  refine r_itt (SqT.of h_tt) ?_
  refine for_tup (K := K) (a := tt) (xs := [.ref ln, .ref lc]) (fun i σ H' => ∃ (y3 y4 y5 : Option V), σ = [some (.ref p), some (.ref ln), some (.ref lc), y3, y4, y5] ∧ Same H5 H' ∧ (1 ≤ i → dblFrom [] sc.names = none) ∧ (2 ≤ i → dblFrom [] sc.cols = none)) ⟨_, _, _, rfl, Same.refl _, fun z => absurd z (by decide), fun z => absurd z (by decide)⟩ (fun i σ H' _ ⟨_, _, _, _, s, _⟩ => SqT.of (s _ _ h_tt)) ?_ ?_
  · rintro i v σ H6 hv ⟨y3, y4, y5, rfl, s6, hd1, hd2⟩
    have hi : i < 2 := (List.getElem?_eq_some_iff.mp hv).1
    obtain e | e : i = 0 ∨ i = 1 := by omega
    · subst e
      cases hv
      wtm_at "rd"
      refine ⟨ln, sc.names, rfl, s6 _ _ hn4, by omega, fun H7 s7 => ?_⟩
      cases hdb : dblFrom [] sc.names with
      | none =>
        simp only [partV]
        wtm_at "rdi"
        exact ⟨_, _, _, rfl, s6.trans s7, fun _ => trivial, fun z => absurd z (by decide)⟩
      | some w =>
        simp only [partV]
        wtm_at "rd"
        refine ⟨rfl, ?_⟩
        rw [decide_eq_false (fun z => nomatch z)]
        wtm_at "rdi"
        refine ⟨.str w, rfl, Nat.le_of_ble_eq_true rfl, raise_word fun d H' nd hd s => ?_⟩
        have s8 := ((s4.trans s6).trans s7)
        refine qE w ?_ d H' (s8.free nd) hd (s8.trans s)
        unfold Sch.bad
        rw [b1, hdb]
        rfl
    · subst e
      cases hv
      have hd1 := hd1 (Nat.le_refl 1)
      wtm_at "rd"
      refine ⟨lc, sc.cols, rfl, s6 _ _ hc4, by omega, fun H7 s7 => ?_⟩
      cases hdb : dblFrom [] sc.cols with
      | none =>
        simp only [partV]
        wtm_at "rdi"
        exact ⟨_, _, _, rfl, s6.trans s7, fun _ => hd1, fun _ => trivial⟩
      | some w =>
        simp only [partV]
        wtm_at "rd"
        refine ⟨rfl, ?_⟩
        rw [decide_eq_false (fun z => nomatch z)]
        wtm_at "rdi"
        refine ⟨.str w, rfl, Nat.le_of_ble_eq_true rfl, raise_word fun d H' nd hd s => ?_⟩
        have s8 := ((s4.trans s6).trans s7)
        refine qE w ?_ d H' (s8.free nd) hd (s8.trans s)
        unfold Sch.bad
        rw [b1, hd1, hdb]
        rfl
  rintro σ H6 ⟨y3, y4, y5, rfl, s6, hd1, hd2⟩
  have hd1 := hd1 (Nat.le_of_ble_eq_true rfl)
  have hd2 := hd2 (Nat.le_of_ble_eq_true rfl)
  have o := o.same s6
  have s6 := s4.trans s6
  obtain ⟨dx, tS, tP, tV, tM, as, e, hS, hA, hP, hV, hM⟩ := o
  dsimp only
  refine r_for (r_it ?_)
  wtm_at "rd"
  refine r_get e T.c_Scheme T.nf_Scheme_sorts (sch_sorts _ _ _ _) ?_
  refine r_itt hS ?_
  refine for_tup (K := K) (a := tS) (xs := as.map V.ref) (fun i σ H' => ∃ (y3 y4 y5 : Option V), σ = [some (.ref p), some (.ref ln), some (.ref lc), y3, y4, y5] ∧ H' = H6 ∧ ∀ sr ∈ sc.ss.take i, partBad sc.ps sr = false) ⟨_, _, _, rfl, rfl, fun w z => (by rw [List.take_zero] at z; cases z)⟩ (fun i σ H' _ ⟨_, _, _, _, z, _⟩ => by subst z; exact hS) ?_ ?_
  · rintro i v σ H7 hv ⟨y3, y4, y5, rfl, rfl, hall⟩
    rw [List.getElem?_map] at hv
    obtain ⟨a, ha, rfl⟩ := Option.map_eq_some_iff.mp hv
    obtain ⟨sr, hsr, oa⟩ := hA.get ha
    have next : partBad sc.ps sr = false → ∀ y ∈ sc.ss.take (i + 1), partBad sc.ps y = false := fun z y hy => by
      rcases take_snoc hsr hy with c | c
      · exact hall y c
      · rw [c]; exact z
    wtm_at "rd"
    refine r_spart T oa ?_
    cases hpt : sr.pt with
    | none =>
      simp only [partV]
      wtm_at "rdi"
      exact ⟨_, _, _, rfl, rfl, next (by unfold partBad; rw [hpt])⟩
    | some z =>
      simp only [partV]
      wtm_at "rd"
      refine ⟨rfl, ?_⟩
      rw [decide_eq_false (fun z => nomatch z)]
      wtm_at "rdi"
      refine r_spart T oa ?_
      rw [hpt]
      wtm_at "rd"
      refine r_get e T.c_Scheme T.nf_Scheme_part_columns (sch_parts _ _ _ _) ?_
      refine r_inT hP rfl (flat_strsV _) ?_
      show ∃ k, V.bl (!inV (.str z) (sc.ps.map V.str)) = .bl k ∧ _
      rw [inV_strs]
      wtm_at "rd"
      refine r_iten (fun e1 => ?_) (fun e1 => ?_)
      · refine r_mko ?_
        wtm_at "rd"
        refine r_spart T oa ?_
        rw [hpt]
        wtm_at "rd"
        refine ⟨Nat.le_of_ble_eq_true rfl, raise_word (z := z) fun d H' nd hd s => ?_⟩
        refine qE z ?_ d H' (s6.free nd) hd (s6.trans s)
        unfold Sch.bad badPart
        rw [b1, hd1, hd2, find_take hall hsr (by unfold partBad; rw [hpt]; show (!decide (z ∈ sc.ps)) = true; rw [decide_eq_false e1]; rfl)]
        exact hpt
      · wtm_at "rd"
        exact ⟨_, _, _, rfl, rfl, next (by unfold partBad; rw [hpt]; show (!decide (z ∈ sc.ps)) = false; rw [decide_eq_true e1]; rfl)⟩
  · rintro σ H7 ⟨y3, y4, y5, rfl, rfl, hall⟩
    rw [List.length_map, hA.len, List.take_length] at hall
    wtm_at "rd"
    refine q ?_ _ s6
    unfold Sch.bad badPart
    rw [b1, hd1, hd2, List.find?_eq_none.mpr fun y hy => by rw [hall y hy]; exact Bool.false_ne_true]
    rfl
theorem sqt_put {H : Hp} {a p C dx : Addr} {fs : List (Str × V)} {xs : List V} {o : HO} (e : H p = some (.ins C dx fs)) (h : SqT K H a xs) : SqT K (upd H p o) a xs := by
  rcases h with (h | ⟨u, h⟩) | h
  · exact .inl (.inl ((upd_ne (ne_of h e fun z => nomatch z)).trans h))
  · exact .inl (.inr ⟨u, (upd_ne (ne_of h e fun z => nomatch z)).trans h⟩)
  · exact .inr h
theorem sqa_put {H : Hp} {a p C dx : Addr} {fs : List (Str × V)} {xs : List V} {o : HO} (e : H p = some (.ins C dx fs)) (h : SqA K H a xs) : SqA K (upd H p o) a xs := by
  rcases h with ((h | ⟨u, h⟩) | h) | h
  · exact .inl (.inl (.inl ((upd_ne (ne_of h e fun z => nomatch z)).trans h)))
  · exact .inl (.inl (.inr ⟨u, (upd_ne (ne_of h e fun z => nomatch z)).trans h⟩))
  · exact .inl (.inr h)
  · exact .inr (sqt_put e h)
theorem sort_put {H : Hp} {C CS p dx a : Addr} {sr : Srt} {fs fs' : List (Str × V)} (e : H p = some (.ins C dx fs)) (n : a ≠ p) (h : SortAt CS H a sr) : SortAt CS (upd H p (.ins C dx fs')) a sr := by
  obtain ⟨dy, z⟩ := h
  exact ⟨dy, (upd_ne n).trans z⟩
theorem ok_Scheme___init__ (T : Txt K mg) : FnOk P w K mg base (L2.CX P w) 5 T.f_Scheme___init__ T.d_Scheme___init__ ["self", "sorts", "parts", "values", "marks"] (spSchInit K T.C_Scheme T.C_Sort T.C_BadScheme) := by
  refine T.F_Scheme___init__.okX sc_Scheme___init__ (fun vs H Q E h => ?_) (fun cdv A outer s H vs Q E hr h => ?_)
  · obtain ⟨p, dx, aS, aP, aV, aM, sc, as, rfl, _⟩ := h
    rfl
  obtain ⟨p, dx, aS, aP, aV, aM, sc, as, rfl, hp, hS, hA, hP, hV, hM, sm, qE, q⟩ := h
  refine ⟨_, (pss_cons (ps_fld (pv 0) (pe_callTy c_tupA (by rfl) T.z_tuple (by decide +kernel) (pa_cons (pv 1) pa_nil)) rfl)
      (pss_cons (ps_fld (pv 0) (pe_callTy c_tupA (by rfl) T.z_tuple (by decide +kernel) (pa_cons (pv 2) pa_nil)) rfl)
      (pss_cons (ps_fld (pv 0) (pe_callTy c_tupA (by rfl) T.z_tuple (by decide +kernel) (pa_cons (pv 3) pa_nil)) rfl)
      (pss_cons (ps_fld (pv 0) (pe_callTy c_tupA (by rfl) T.z_tuple (by decide +kernel) (pa_cons (pv 4) pa_nil)) rfl)
      (pss_one (ps_expr (pe_meth0 (pv 0) T.c_Scheme T.mt_Scheme_inspect (ok_Scheme_inspect T) (hr.mono (by decide)) T.b_Scheme_inspect .nil (passes_call (takes_of rfl rfl rfl rfl) fun _ _ _ _ h => h)))))))), ?_⟩
  try simp only [nox_K, cx_K]
  have hA : All2 (fun a sr => a ≠ p ∧ SortAt T.C_Sort H a sr) as sc.ss := hA.imp fun a sr h => ⟨fun z => by
    subst z
    obtain ⟨dy, h⟩ := h
    rw [hp] at h
    have h := congrArg (fun o => match o with | some (HO.ins _ _ fs) => fs.length | _ => 0) h
    have e : (srtF sr).length = 4 := rfl
    exact Nat.noConfusion (show (0 : Nat) = 4 from h.trans e), h⟩
  wtm_at "rd"
  refine r_tupA hS fun tS H1 hS1 s1 => ?_
  have hp := s1 _ _ hp
  have hP := hP.same s1
  have hV := hV.same s1
  have hM := hM.same s1
  have hA : All2 (fun a sr => a ≠ p ∧ SortAt T.C_Sort H1 a sr) as sc.ss := hA.imp fun a sr h => ⟨h.1, h.2.same s1⟩
  wtm_at "rd"
  refine r_put hp T.c_Scheme T.nf_Scheme_sorts (by decide) ?_
  have hS1 := sqt_put (o := .ins T.C_Scheme dx (putF "sorts" (.ref tS) [])) hp hS1
  have hP := sqa_put (o := .ins T.C_Scheme dx (putF "sorts" (.ref tS) [])) hp hP
  have hV := sqa_put (o := .ins T.C_Scheme dx (putF "sorts" (.ref tS) [])) hp hV
  have hM := sqa_put (o := .ins T.C_Scheme dx (putF "sorts" (.ref tS) [])) hp hM
  have hA : All2 (fun a sr => a ≠ p ∧ SortAt T.C_Sort (upd H1 p (.ins T.C_Scheme dx (putF "sorts" (.ref tS) []))) a sr) as sc.ss := hA.imp fun a sr h => ⟨h.1, sort_put hp h.1 h.2⟩
  have k1 : ∀ b o, H b = some o → b ≠ p → (upd H1 p (.ins T.C_Scheme dx (putF "sorts" (.ref tS) []))) b = some o := fun b o e nb => (upd_ne nb).trans (s1 _ _ e)
  have hp1 : (upd H1 p (.ins T.C_Scheme dx (putF "sorts" (.ref tS) []))) p = some (.ins T.C_Scheme dx (putF "sorts" (.ref tS) [])) := upd_same
  clear hp
  revert hS1 hP hV hM hA k1 hp1
  generalize upd H1 p (.ins T.C_Scheme dx (putF "sorts" (.ref tS) [])) = H1'
  intro hS1 hP hV hM hA k1 hp
  wtm_at "rd"
  refine r_tupA hP fun tP H2 hP s2 => ?_
  have hp := s2 _ _ hp
  have hS1 := same_tup s2 hS1
  have hV := hV.same s2
  have hM := hM.same s2
  have hA : All2 (fun a sr => a ≠ p ∧ SortAt T.C_Sort H2 a sr) as sc.ss := hA.imp fun a sr h => ⟨h.1, h.2.same s2⟩
  wtm_at "rd"
  refine r_put hp T.c_Scheme T.nf_Scheme_part_columns (Nat.lt_of_le_of_lt (putF_len _ _ _) (by decide)) ?_
  generalize hz : putF "part_columns" (V.ref tP) (putF "sorts" (.ref tS) []) = fz
  have hS1 := sqt_put (o := .ins T.C_Scheme dx fz) hp hS1
  have hP := sqt_put (o := .ins T.C_Scheme dx fz) hp hP
  have hV := sqa_put (o := .ins T.C_Scheme dx fz) hp hV
  have hM := sqa_put (o := .ins T.C_Scheme dx fz) hp hM
  have hA : All2 (fun a sr => a ≠ p ∧ SortAt T.C_Sort (upd H2 p (.ins T.C_Scheme dx fz)) a sr) as sc.ss := hA.imp fun a sr h => ⟨h.1, sort_put hp h.1 h.2⟩
  have k2 : ∀ b o, H b = some o → b ≠ p → (upd H2 p (.ins T.C_Scheme dx fz)) b = some o := fun b o e nb => (upd_ne nb).trans (s2 _ _ (k1 _ _ e nb))
  have hp2 : (upd H2 p (.ins T.C_Scheme dx fz)) p = some (.ins T.C_Scheme dx fz) := upd_same
  clear hp
  revert hS1 hP hV hM hA k2 hp2
  generalize upd H2 p (.ins T.C_Scheme dx fz) = H2'
  intro hS1 hP hV hM hA k2 hp
  wtm_at "rd"
  refine r_tupA hV fun tV H3 hV s3 => ?_
  have hp := s3 _ _ hp
  have hS1 := same_tup s3 hS1
  have hP := same_tup s3 hP
  have hM := hM.same s3
  have hA : All2 (fun a sr => a ≠ p ∧ SortAt T.C_Sort H3 a sr) as sc.ss := hA.imp fun a sr h => ⟨h.1, h.2.same s3⟩
  wtm_at "rd"
  refine r_put hp T.c_Scheme T.nf_Scheme_value_columns (by rw [← hz]; exact Nat.lt_of_le_of_lt (putF_len _ _ _) (Nat.lt_of_le_of_lt (Nat.succ_le_succ (putF_len _ _ _)) (by decide))) ?_
  generalize hy : putF "value_columns" (V.ref tV) fz = fy
  have hS1 := sqt_put (o := .ins T.C_Scheme dx fy) hp hS1
  have hP := sqt_put (o := .ins T.C_Scheme dx fy) hp hP
  have hV := sqt_put (o := .ins T.C_Scheme dx fy) hp hV
  have hM := sqa_put (o := .ins T.C_Scheme dx fy) hp hM
  have hA : All2 (fun a sr => a ≠ p ∧ SortAt T.C_Sort (upd H3 p (.ins T.C_Scheme dx fy)) a sr) as sc.ss := hA.imp fun a sr h => ⟨h.1, sort_put hp h.1 h.2⟩
  have k3 : ∀ b o, H b = some o → b ≠ p → (upd H3 p (.ins T.C_Scheme dx fy)) b = some o := fun b o e nb => (upd_ne nb).trans (s3 _ _ (k2 _ _ e nb))
  have hp3 : (upd H3 p (.ins T.C_Scheme dx fy)) p = some (.ins T.C_Scheme dx fy) := upd_same
  clear hp
  revert hS1 hP hV hM hA k3 hp3
  generalize upd H3 p (.ins T.C_Scheme dx fy) = H3'
  intro hS1 hP hV hM hA k3 hp
  wtm_at "rd"
  refine r_tupA hM fun tM H4 hM s4 => ?_
  have hp := s4 _ _ hp
  have hS1 := same_tup s4 hS1
  have hP := same_tup s4 hP
  have hV := same_tup s4 hV
  have hA : All2 (fun a sr => a ≠ p ∧ SortAt T.C_Sort H4 a sr) as sc.ss := hA.imp fun a sr h => ⟨h.1, h.2.same s4⟩
  wtm_at "rd"
  refine r_put hp T.c_Scheme T.nf_Scheme_mark_columns (by rw [← hy, ← hz]; exact Nat.lt_of_le_of_lt (putF_len _ _ _) (Nat.lt_of_le_of_lt (Nat.succ_le_succ (putF_len _ _ _)) (Nat.lt_of_le_of_lt (Nat.succ_le_succ (Nat.succ_le_succ (putF_len _ _ _))) (by decide)))) ?_
  have hx : putF "mark_columns" (V.ref tM) fy = schF tS tP tV tM := by rw [← hy, ← hz]; rfl
  rw [hx]
  have hS1 := sqt_put (o := .ins T.C_Scheme dx (schF tS tP tV tM)) hp hS1
  have hP := sqt_put (o := .ins T.C_Scheme dx (schF tS tP tV tM)) hp hP
  have hV := sqt_put (o := .ins T.C_Scheme dx (schF tS tP tV tM)) hp hV
  have hM := sqt_put (o := .ins T.C_Scheme dx (schF tS tP tV tM)) hp hM
  have hA : All2 (SortAt T.C_Sort (upd H4 p (.ins T.C_Scheme dx (schF tS tP tV tM)))) as sc.ss := hA.imp fun a sr h => sort_put hp h.1 h.2
  have k4 : ∀ b o, H b = some o → b ≠ p → (upd H4 p (.ins T.C_Scheme dx (schF tS tP tV tM))) b = some o := fun b o e nb => (upd_ne nb).trans (s4 _ _ (k3 _ _ e nb))
  have o : SchAt K T.C_Scheme T.C_Sort (upd H4 p (.ins T.C_Scheme dx (schF tS tP tV tM))) p sc := ⟨dx, tS, tP, tV, tM, as, upd_same, hS1, hA, hP, hV, hM⟩
  have free : ∀ d, (upd H4 p (.ins T.C_Scheme dx (schF tS tP tV tM))) d = none → H d = none := fun d hd => by
    cases hh : H d with
    | none => rfl
    | some x =>
      by_cases c : d = p
      · subst c
        rw [upd_same] at hd
        cases hd
      · rw [k4 d x hh c] at hd
        cases hd
  revert o k4 free
  generalize upd H4 p (.ins T.C_Scheme dx (schF tS tP tV tM)) = H5
  intro k4 o free
  wtm_at "rd"
  refine sch_who o (by decide +kernel) (by decide +kernel) (by decide +kernel) (by decide +kernel) ?_
  wtm_at "rd"
  refine ⟨p, sc, rfl, o, sm, fun w hw d H' nd hd s' => ?_, fun hb H' s' => ?_⟩
  · exact qE w hw d H' (free d nd) hd fun b o e nb => s' _ _ (k4 b o e nb)
  · wtm_at "rd"
    exact q hb H' (o.same s') fun b o e nb => s' _ _ (k4 b o e nb)
end

theorem strs_dr {H : Hp} {d c r a : Addr} {ws : List Str} (D : Drw H d c r) (h : H a = some (.lst (ws.map V.str))) : a ≠ d ∧ a ≠ r := by
  obtain ⟨_, _, _, ns, rs, t, h1, h2, h3, hl, hp, _⟩ := D
  refine ⟨ne_of h h1 fun z => ?_, ne_of h h3 fun z => ?_⟩
  · have z := HO.lst.inj z
    cases ws with
    | nil => cases z
    | cons w ws => cases z
  · have z := HO.lst.inj z
    cases ws with
    | nil =>
      cases rs with
      | nil => rw [hl] at hp; exact absurd hp (Nat.lt_irrefl 0)
      | cons x rs => cases z
    | cons w ws =>
      cases rs with
      | nil => cases z
      | cons x rs => cases z
def spName : Sp := fun vs H Q _ => ∃ (d c r tk : Addr) (ts : List Str), vs = [.ref d, .ref tk] ∧ Drw H d c r ∧ H tk = some (.lst (ts.map V.str)) ∧ ts.length ≤ 20 ∧
  ∀ (w : Str) (H' : Hp), isNameB w = true → ¬ w ∈ ts → Drw H' d c r → Ext d r H H' → Q (.str w) H'
/-- all but the draws and one list stay -/
def ExtT (d r t : Addr) (H H' : Hp) : Prop := ∀ b o, H b = some o → b ≠ d → b ≠ r → b ≠ t → H' b = some o
def spNames : Sp := fun vs H Q _ => ∃ (d c r tk : Addr) (ts : List Str) (n : Nat), vs = [.ref d, .ref tk, .int n] ∧ Drw H d c r ∧ H tk = some (.lst (ts.map V.str)) ∧ ts.length + n ≤ 13 ∧ tk ≠ c ∧
  ∀ (l : Addr) (ws : List Str) (H' : Hp), H l = none → ws.length = n → (∀ w ∈ ws, isNameB w = true) → (ts.Nodup → (ts ++ ws).Nodup) → H' l = some (.lst (ws.map V.str)) → H' tk = some (.lst ((ts ++ ws).map V.str)) → Drw H' d c r → ExtT d r tk H H' → Q (.ref l) H'
theorem letters_at {k : Int} (h0 : 0 ≤ k) (h1 : k < 26) : atI lettersT.cps.toList k = some (97 + k.toNat) := by
  have e : lettersT.cps.toList = (List.range 26).map (97 + ·) := by decide +kernel
  have z : atI lettersT.cps.toList (k.toNat : Int) = some (97 + k.toNat) := atI_nat (by rw [e, List.getElem?_map, List.getElem?_range (by omega)]; rfl)
  rw [Int.toNat_of_nonneg h0] at z
  exact z
theorem cut_butlast {xs : List V} : cutV xs none (some (-1)) = xs.dropLast := by
  unfold cutV
  rw [HT.sIx_none, List.drop_zero, Nat.sub_zero]
  have e : HT.sIx xs.length xs.length (some (-1)) = xs.length - 1 := by
    show (if ((-1 : Int)) < 0 then ((-1 : Int) + (xs.length : Int)).toNat else min (-1 : Int).toNat xs.length) = _
    rw [if_pos (by decide)]
    omega
  rw [e, List.dropLast_eq_take]
def letCode (v : V) : V := match v with
  | .int k => .str (SX.S [97 + k.toNat])
  | w => w
section
variable {P : Program} {w : World} {K : PySem.W.Frag} {mg : Str → Option Value} {base : Heap}

theorem ok__law_name (T : Txt K mg) : FnOk P w K mg base CX0 2 T.f__law_name T.d__law_name ["_law_draws", "_law_taken"] spName := by
  refine T.F__law_name.ok sc__law_name (fun vs H Q E h => ?_) (fun cdv A outer s H vs Q E hr h => ?_)
  · obtain ⟨d, c, r, tk, tS, rfl, _⟩ := h
    rfl
  obtain ⟨d, c, r, tk, tS, rfl, D, htk, hl, q⟩ := h
  refine ⟨_, (pss_cons (ps_set (i := 2) sc__law_name.nd rfl (by first | exact Or.inl rfl | exact Or.inr rfl) pe_str)
      (pss_cons (ps_set (i := 3) sc__law_name.nd rfl (by first | exact Or.inl rfl | exact Or.inr rfl) (pe_lst (pa_cons pe_str (pa_cons pe_str (pa_cons pe_str (pa_cons pe_str (pa_cons pe_str (pa_cons pe_str (pa_cons pe_str (pa_cons pe_str (pa_cons pe_str (pa_cons pe_str (pa_cons pe_str (pa_cons pe_str pa_nil))))))))))))))
      (pss_cons (ps_setLc (i := 4) (own := [("_law_k", 8)]) (g := gName 8) (tt := tYes) rfl sc__law_name.nd rfl rfl (sw_true rfl rfl rfl (by decide +kernel)) (pi_range1 (by rfl) T.z_range (pa_cons (pe_op op_add pe_int (pe_call (ok__law_draw T) (hr.mono (by decide)) (by rfl) T.g__law_draw T.F__law_draw.kp T.b__law_draw .nil pass0 (pa_cons (pv 0) (pa_cons pe_int pa_nil)))) pa_nil)) (blkOk_by (N := ["_law_draws", "_law_taken", "_law_letters", "_law_words", "_law_spots", "_law_step", "_law_last", "_law_word", "_law_k", "_law_spot"]) (sc := defScope s__law_name) (by decide +kernel)) (fun _ _ _ _ _ => pg_name (i := 8) sc__law_name.nd rfl (by first | exact Or.inl rfl | exact Or.inr rfl)) (fun _ _ _ _ _ => pts_nil) (fun _ _ _ _ _ => (pe_call (ok__law_draw T) (hr.mono (by decide)) (by rfl) T.g__law_draw T.F__law_draw.kp T.b__law_draw .nil pass0 (pa_cons (pv 0) (pa_cons pe_int pa_nil)))))
      (pss_cons (ps_for PassesOwn.never rfl (pi_range1 (by rfl) T.z_range (pa_cons pe_int pa_nil)) (pg_name (i := 5) sc__law_name.nd rfl (by first | exact Or.inl rfl | exact Or.inr rfl)) (pss_cons (ps_set (i := 6) sc__law_name.nd rfl (by first | exact Or.inl rfl | exact Or.inr rfl) (pe_ix ix_str (pv 2) (pe_op op_mod (pe_callTy c_int1 (by rfl) T.z_int (by decide +kernel) (pa_cons (pe_op op_add (pe_ix (r := rIxL K) ix_list (pv 4) (pe_un un_neg pe_int) (fun _ _ => rfl)) (pv 5)) pa_nil)) pe_int) (fun _ _ => rfl)))
      (pss_cons (ps_set (i := 7) sc__law_name.nd rfl (by first | exact Or.inl rfl | exact Or.inr rfl) (pe_join pe_str (pe_op op_cat (pe_lc (own := [("_law_spot", 9)]) (g := gName 9) (tt := tYes) rfl sc__law_name.nd (pi_list (pe_slice sl_list (pv 4) po_none (po_some (pe_un un_neg pe_int)))) (blkOk_by (N := ["_law_draws", "_law_taken", "_law_letters", "_law_words", "_law_spots", "_law_step", "_law_last", "_law_word", "_law_k", "_law_spot"]) (sc := defScope s__law_name) (by decide +kernel)) (fun _ _ _ _ _ => pg_name (i := 9) sc__law_name.nd rfl (by first | exact Or.inl rfl | exact Or.inr rfl)) (fun _ _ _ _ _ => pts_nil) (fun _ _ _ _ _ => (pe_ix ix_str (pv 2) (pv 9) (fun _ _ => rfl)))) (pe_lst (pa_cons (pv 6) pa_nil)))))
      (pss_one (ps_if (PW.pt (pw_and (pt_cmpR op_notIn_seq (pv 7) (pv 3) (by rfl)) (pw_and1 (pt_cmpR op_notIn_seq (pv 7) (pv 1) (by rfl))))) (pss_one (ps_ret (pv 7))) pss_nil)))))
      (pss_one (ps_ret pe_str)))))), ?_⟩
  try simp only [nox_K, cx_K]
  have nd := strs_dr D htk
  wtm_at "rd"
  refine r_new rfl fun wl n_wl => ?_
  generalize eq_wl : upd _ wl _ = H1
  have s_wl : Same _ H1 := eq_wl ▸ same_new n_wl
  have h_wl : H1 wl = some _ := eq_wl ▸ upd_same
  clear eq_wl
  have D := D.same s_wl
  have htk := s_wl _ _ htk
  have E0 := Ext.of (d := d) (r := r) s_wl
  have h_wl : H1 wl = some (.lst (wordsS.map V.str)) := h_wl
  wtm_at "rd"
  refine ⟨d, c, r, 8, rfl, D, by decide, by decide, fun k H2 k0 k1 D2 E2 => ?_⟩
  have htk := E2 _ _ htk nd.1 nd.2
  have h_wl := E2 _ _ h_wl (strs_dr D h_wl).1 (strs_dr D h_wl).2
  have E2 := E0.trans E2
  wtm_at "rd"
  refine r_upto (by omega) (by omega) ?_
  refine lc_draws (P := fun x => 0 ≤ x ∧ x < 26) (by omega) D2 (fun i H3 QQ hi D3 E3 hQ => ?_) fun sp ss H3 ls hss nsp hsp D3 E3 => ?_
  · wtm_at "rd"
    exact ⟨d, c, r, 26, rfl, D3, by decide, by decide, fun k3 H4 l4 u4 D4 E4 => hQ _ _ ⟨l4, u4⟩ D4 E4⟩
  have htk := E3 _ _ htk nd.1 nd.2
  have h_wl := E3 _ _ h_wl (strs_dr D2 h_wl).1 (strs_dr D2 h_wl).2
  have E3 := E2.trans E3
  have hpos : 0 < ss.length := by omega
  have hlast := kAt_all hss (j := ss.length - 1) (by omega)
  have hpre : ∀ x ∈ (ss.dropLast.map fun k : Int => 97 + k.toNat), letB x = true := fun x hx => by
    obtain ⟨y, hy, rfl⟩ := List.mem_map.mp hx
    have := hss y (List.mem_of_mem_take (by rw [← List.dropLast_eq_take]; exact hy))
    exact letB_iff.mpr (by omega)
  have hprel : (ss.dropLast.map fun k : Int => 97 + k.toNat).length ≤ 7 := by
    rw [List.length_map, List.length_dropLast]
    omega
  wtm_at "rd"
  refine r_for (r_rng1 ?_)
  wtm_at "rd"
  refine r_upto (by decide) (by decide) ?_
  refine for_range (fun i σ H' => ∃ (y5 y6 y7 y8 y9 : Option V), σ = [some (.ref d), some (.ref tk), some (.str lettersT), some (.ref wl), some (.ref sp), y5, y6, y7, y8, y9] ∧ Same H3 H' ∧ ∀ j, j < i → cand (ss.dropLast.map fun k : Int => 97 + k.toNat) (kAt ss (ss.length - 1)) j ∈ wordsS ∨ cand (ss.dropLast.map fun k : Int => 97 + k.toNat) (kAt ss (ss.length - 1)) j ∈ tS) ⟨_, _, _, _, _, rfl, Same.refl _, fun j z => absurd z (Nat.not_lt_zero j)⟩ ?_ ?_
  · rintro i σ H4 hi ⟨y5, y6, y7, y8, y9, rfl, s4, hall⟩
    have hi : i < 26 := hi
    have hsp4 := s4 _ _ hsp
    have hwl4 := s4 _ _ h_wl
    have htk4 := s4 _ _ htk
    wtm_at "rd"
    refine r_ixL (SqL.of hsp4) (ati_last hpos) ?_
    wtm_at "rd"
    refine r_mod (by decide) fun m m0 m1 em => ?_
    wtm_at "rd"
    refine ⟨lettersT, m, _, rfl, rfl, Nat.le_of_lt (small1000 (by decide +kernel)), letters_at m0 m1, ?_⟩
    wtm_at "rd"
    refine ⟨⟨_, rfl⟩, ?_⟩
    wtm_at "rd"
    refine r_slL (SqL.of hsp4) fun b1 n_b1 => ?_
    rw [cut_butlast, ← List.map_dropLast]
    generalize eq_b1 : upd _ b1 _ = H5
    have s_b1 : Same _ H5 := eq_b1 ▸ same_new n_b1
    have h_b1 : H5 b1 = some _ := eq_b1 ▸ upd_same
    clear eq_b1
    have hwl4 := s_b1 _ _ hwl4
    have htk4 := s_b1 _ _ htk4
    have s4 := s4.trans s_b1
    refine r_itl (SqL.of h_b1) ?_
    refine lc_map letCode (SqL.of h_b1) (by rw [List.length_map, List.length_dropLast]; omega) (fun v H' QQ hv _ hQ => ?_) fun b2 n_b2 => ?_
    · obtain ⟨y, hy, rfl⟩ := List.mem_map.mp hv
      have hy := hss y (List.mem_of_mem_take (by rw [← List.dropLast_eq_take]; exact hy))
      wtm_at "rd"
      exact ⟨lettersT, y, _, rfl, rfl, Nat.le_of_lt (small1000 (by decide +kernel)), letters_at hy.1 hy.2, hQ⟩
    have em2 : (ss.dropLast.map V.int).map letCode = ((ss.dropLast.map fun k : Int => 97 + k.toNat).map fun c => SX.S [c]).map V.str := by
      rw [List.map_map, List.map_map, List.map_map]
      rfl
    rw [em2]
    generalize eq_b2 : upd _ b2 _ = H6
    have s_b2 : Same _ H6 := eq_b2 ▸ same_new n_b2
    have h_b2 : H6 b2 = some _ := eq_b2 ▸ upd_same
    clear eq_b2
    have hwl4 := s_b2 _ _ hwl4
    have htk4 := s_b2 _ _ htk4
    have s4 := s4.trans s_b2
    wtm_at "rd"
    refine r_new rfl fun b3 n_b3 => ?_
    generalize eq_b3 : upd _ b3 _ = H7
    have s_b3 : Same _ H7 := eq_b3 ▸ same_new n_b3
    have h_b3 : H7 b3 = some _ := eq_b3 ▸ upd_same
    clear eq_b3
    have hwl4 := s_b3 _ _ hwl4
    have htk4 := s_b3 _ _ htk4
    have h_b2 := s_b3 _ _ h_b2
    have s4 := s4.trans s_b3
    refine ⟨b2, b3, _, _, rfl, rfl, h_b2, h_b3, Nat.le_of_lt (small1000 (by rw [List.length_map, List.length_map]; show _ + 1 ≤ 1000; omega)), fun b4 n_b4 => ?_⟩
    generalize eq_b4 : upd _ b4 _ = H8
    have s_b4 : Same _ H8 := eq_b4 ▸ same_new n_b4
    have h_b4 : H8 b4 = some _ := eq_b4 ▸ upd_same
    clear eq_b4
    have hwl4 := s_b4 _ _ hwl4
    have htk4 := s_b4 _ _ htk4
    have s4 := s4.trans s_b4
    have h_b4 : H8 b4 = some (.lst ((((ss.dropLast.map fun k : Int => 97 + k.toNat) ++ [97 + m.toNat]).map fun c => SX.S [c]).map V.str)) := by
      rw [h_b4, List.map_append, List.map_append]
      rfl
    refine ⟨_, b4, _, rfl, rfl, .inl (SqL.of h_b4), ?_, ?_⟩
    · rw [sum_ones (ys := ((ss.dropLast.map fun k : Int => 97 + k.toNat) ++ [97 + m.toNat]).map fun c => SX.S [c]) fun y hy => by obtain ⟨x, _, rfl⟩ := List.mem_map.mp hy; rfl]
      rw [List.length_map, List.length_append]
      show _ + 1 + (_ + 1) * 0 ≤ 16777216
      omega
    rw [TL.join_eq, join_ones, show (SX.S ((ss.dropLast.map fun k : Int => 97 + k.toNat) ++ [97 + m.toNat])) = cand (ss.dropLast.map fun k : Int => 97 + k.toNat) (kAt ss (ss.length - 1)) i by rw [cand, em, Int.zero_add]]
    wtm_at "rd"
    refine r_inL (SqL.of hwl4) rfl (flat_strsV _) ?_
    show ∃ k, V.bl (!inV _ (wordsS.map V.str)) = .bl k ∧ _
    rw [inV_strs]
    wtm_at "rd"
    refine r_iten (fun e1 => ?_) (fun e1 => ?_)
    · wtm_at "rd"
      refine r_inL (SqL.of htk4) rfl (flat_strsV _) ?_
      show ∃ k, V.bl (!inV _ (tS.map V.str)) = .bl k ∧ _
      rw [inV_strs]
      wtm_at "rd"
      refine r_iten (fun e2 => ?_) (fun e2 => ?_)
      · wtm_at "rd"
        exact q _ _ (cand_name hpre hprel e1) e2 (D3.same s4) (E3.trans (Ext.of s4))
      · wtm_at "rd"
        refine ⟨_, _, _, _, _, rfl, s4, fun j hj => ?_⟩
        obtain z | z : j < i ∨ j = i := by omega
        · exact hall j z
        · rw [z]; exact .inr e2
    · wtm_at "rdi"
      refine ⟨_, _, _, _, _, rfl, s4, fun j hj => ?_⟩
      obtain z | z : j < i ∨ j = i := by omega
      · exact hall j z
      · rw [z]; exact .inl e1
  · rintro σ H4 ⟨y5, y6, y7, y8, y9, rfl, s4, hall⟩
    exact (cand_free hl hall).elim

theorem ok__law_names (T : Txt K mg) : FnOk P w K mg base CX0 3 T.f__law_names T.d__law_names ["_law_draws", "_law_taken", "_law_many"] spNames := by
  refine T.F__law_names.ok sc__law_names (fun vs H Q E h => ?_) (fun cdv A outer s H vs Q E hr h => ?_)
  · obtain ⟨d, c, r, tk, tS, n, rfl, _⟩ := h
    rfl
  obtain ⟨d, c, r, tk, tS, n, rfl, D, htk, hl, tkc, q⟩ := h
  refine ⟨_, (pss_cons (ps_set (i := 3) sc__law_names.nd rfl (by first | exact Or.inl rfl | exact Or.inr rfl) (pe_lst pa_nil))
      (pss_cons (ps_for PassesOwn.never rfl (pi_range1 (by rfl) T.z_range (pa_cons (pv 2) pa_nil)) (pg_name (i := 4) sc__law_names.nd rfl (by first | exact Or.inl rfl | exact Or.inr rfl)) (pss_cons (ps_set (i := 5) sc__law_names.nd rfl (by first | exact Or.inl rfl | exact Or.inr rfl) (pe_call (ok__law_name T) (hr.mono (by decide)) (by rfl) T.g__law_name T.F__law_name.kp T.b__law_name .nil pass0 (pa_cons (pv 0) (pa_cons (pv 1) pa_nil))))
      (pss_cons (ps_expr (pe_bm PySem.F.plainAttrs_list PySem.F.slot_list_append PySem.F.type_list_append mt_append (pv 1) (pa_cons (pv 5) pa_nil)))
      (pss_one (ps_expr (pe_bm PySem.F.plainAttrs_list PySem.F.slot_list_append PySem.F.type_list_append mt_append (pv 3) (pa_cons (pv 5) pa_nil)))))))
      (pss_one (ps_ret (pv 3))))), ?_⟩
  try simp only [nox_K, cx_K]
  have nd := strs_dr D htk
  wtm_at "rd"
  refine r_new rfl fun l nl => ?_
  have ld := D.ned nl
  have lr := D.ner nl
  have lc := D.nec nl
  have lt : l ≠ tk := (ne_of_none htk nl).symm
  wtm_at "rd"
  refine r_for (r_rng1 ?_)
  wtm_at "rd"
  refine r_upto (by omega) (by omega) ?_
  refine for_range (fun i σ H' => ∃ (y4 y5 : Option V) (ws : List Str), σ = [some (.ref d), some (.ref tk), some (.int n), some (.ref l), y4, y5] ∧ Drw H' d c r ∧ H' l = some (.lst (ws.map V.str)) ∧ H' tk = some (.lst ((tS ++ ws).map V.str)) ∧ ws.length = i ∧ (∀ w ∈ ws, isNameB w = true) ∧ (tS.Nodup → (tS ++ ws).Nodup) ∧ ExtT d r tk H H') ⟨_, _, [], rfl, D.new nl, upd_same, by rw [List.append_nil]; exact (same_new nl) _ _ htk, rfl, fun w z => (nomatch z), fun z => (by rw [List.append_nil]; exact z), fun b o e _ _ _ => (same_new nl) _ _ e⟩ ?_ ?_
  · rintro i σ H1 hi ⟨y4, y5, ws, rfl, D1, hl1, ht1, lw, hw, hnd, E1⟩
    have hi : i < n := by omega
    wtm_at "rd"
    refine ⟨d, c, r, tk, tS ++ ws, rfl, D1, ht1, by rw [List.length_append]; omega, fun w H2 hw2 hn2 D2 E2 => ?_⟩
    have hl2 := E2 _ _ hl1 ld lr
    have ht2 := E2 _ _ ht1 nd.1 nd.2
    wtm_at "rd"
    refine r_tyL (SqL.of ht2) ?_
    wtm_at "rd"
    refine r_app ht2 (small1000 (by rw [List.length_map, List.length_append]; omega)) ?_
    wtm_at "rd"
    have hl3 := (upd_ne (o := .lst ((tS ++ ws).map V.str ++ [V.str w])) lt).trans hl2
    refine r_tyL (SqL.of hl3) ?_
    wtm_at "rd"
    refine r_app hl3 (small1000 (by rw [List.length_map]; omega)) ?_
    wtm_at "rd"
    refine ⟨_, _, ws ++ [w], rfl, (D2.put nd.1 nd.2 tkc).put ld lr lc, by rw [upd_same, List.map_append]; rfl, ?_, by rw [List.length_append, lw]; rfl, fun y hy => ?_, fun z => ?_, fun b o e n1 n2 n3 => ?_⟩
    · rw [upd_ne lt.symm, upd_same, ← List.append_assoc, List.map_append (l₂ := [w])]
      rfl
    · rcases List.mem_append.mp hy with c | c
      · exact hw y c
      · rw [List.mem_singleton.mp c]; exact hw2
    · rw [← List.append_assoc]
      refine List.nodup_append.mpr ⟨hnd z, (by simp), fun a ha b hb => ?_⟩
      rw [List.mem_singleton.mp hb]
      intro e
      exact hn2 (e ▸ ha)
    · rw [upd_ne (ne_of_none e nl), upd_ne n3]
      exact E2 b o (E1 b o e n1 n2 n3) n1 n2
  · rintro σ H1 ⟨y4, y5, ws, rfl, D1, hl1, ht1, lw, hw, hnd, E1⟩
    wtm_at "rd"
    exact q l ws H1 nl (by omega) hw hnd hl1 ht1 D1 E1
end

def srtV (s : Srt) : List V := [.str s.nm, .str s.ky, partV s.pt, .bl s.ds]
structure SpecAt (H : Hp) (p : Addr) (sc : Sch) : Prop where
  ex : ∃ aS aP aV aM ts, H p = some (.lst [.ref aS, .ref aP, .ref aV, .ref aM]) ∧ H aS = some (.lst (ts.map V.ref)) ∧ All2 (fun t s => H t = some (.tup (srtV s))) ts sc.ss ∧ H aP = some (.lst (sc.ps.map V.str)) ∧ H aV = some (.lst (sc.vs.map V.str)) ∧ H aM = some (.lst (sc.ms.map V.str))
structure Sch.good (s : Sch) : Prop where
  w : ∀ z ∈ s.names ++ s.cols, isNameB z = true
  n1 : s.names.Nodup
  n2 : s.cols.Nodup
  pt : ∀ x ∈ s.ss, ∀ z, x.pt = some z → z ∈ s.ps
  l0 : 1 ≤ s.ss.length
  l1 : s.ss.length ≤ 3
  l2 : s.ps.length ≤ 2
  l3 : s.vs.length ≤ 3
  l4 : s.ms.length ≤ 3
theorem Sch.good.not_bad {s : Sch} (h : s.good) : s.bad = none := by
  have b1 : badWord (s.names ++ s.cols) = none := List.find?_eq_none.mpr fun y hy => by rw [h.w y hy]; exact Bool.false_ne_true
  have b2 : dblFrom [] s.names = none := dbl_none h.n1
  have b3 : dblFrom [] s.cols = none := dbl_none h.n2
  have b4 : badPart s.ps s.ss = none := by
    unfold badPart
    rw [List.find?_eq_none.mpr fun y hy => by
      unfold partBad
      cases hp : y.pt with
      | none => exact Bool.false_ne_true
      | some z =>
        show ¬ (!decide (z ∈ s.ps)) = true
        rw [decide_eq_true (h.pt y hy z hp)]
        exact Bool.false_ne_true]
    rfl
  unfold Sch.bad
  rw [b1, b2, b3, b4]
  rfl
theorem Sch.good.small {s : Sch} (h : s.good) : s.small := ⟨Nat.le_trans h.l1 (by decide), Nat.le_trans h.l2 (by decide), Nat.le_trans h.l3 (by decide), Nat.le_trans h.l4 (by decide), fun z hz => Nat.le_trans (isName_len (h.w z hz)).1 (by decide)⟩
def spSpec : Sp := fun vs H Q _ => ∃ (d c r : Addr) (m : Int), vs = [.ref d, .int m] ∧ Drw H d c r ∧ 1 ≤ m ∧ m ≤ 3 ∧ ∀ (p : Addr) (sc : Sch) (H' : Hp), sc.good → SpecAt H' p sc → Drw H' d c r → Ext d r H H' → Q (.ref p) H'
theorem at_lastS {ws : List Str} {w : Str} : atI ((ws ++ [w]).map V.str) (-1) = some (.str w) := by
  unfold atI ixN
  rw [if_neg (by decide), if_pos (by rw [List.length_map, List.length_append, List.length_singleton]; omega)]
  show ((ws ++ [w]).map V.str)[((-1 : Int) + (((ws ++ [w]).map V.str).length : Nat)).toNat]? = _
  rw [List.length_map, List.length_append, show ((-1 : Int) + ((ws.length + [w].length : Nat) : Int)).toNat = ws.length by show ((-1 : Int) + ((ws.length + 1 : Nat) : Int)).toNat = _; omega, List.getElem?_map, List.getElem?_append_right (Nat.le_refl _), Nat.sub_self]
  rfl
theorem at_hall {ps : List Str} {k : Int} (h0 : 0 ≤ k) (h1 : k < ps.length + 1) : ∃ pt : Option Str, atI (V.non :: ps.map V.str) k = some (partV pt) ∧ ∀ z, pt = some z → z ∈ ps := by
  by_cases c : k = 0
  · subst c
    exact ⟨none, atI_nat (j := 0) rfl, fun z h => nomatch h⟩
  · have hk : k.toNat - 1 < ps.length := by omega
    have e : atI (V.non :: ps.map V.str) ((k.toNat - 1 + 1 : Nat) : Int) = some (.str ps[k.toNat - 1]) := atI_nat (by rw [List.getElem?_cons_succ, List.getElem?_map, List.getElem?_eq_getElem hk]; rfl)
    rw [show ((k.toNat - 1 + 1 : Nat) : Int) = k by omega] at e
    exact ⟨some ps[k.toNat - 1], e, fun z h => by cases h; exact List.getElem_mem hk⟩
theorem tup_dr {H : Hp} {d c r a : Addr} {xs : List V} (D : Drw H d c r) (h : H a = some (.tup xs)) : a ≠ d ∧ a ≠ r := by
  obtain ⟨_, _, _, ns, rs, t, h1, h2, h3, _⟩ := D
  exact ⟨ne_of h h1 (fun z => nomatch z), ne_of h h3 (fun z => nomatch z)⟩
theorem ext_T {d r t : Addr} {H H1 H2 : Hp} (E : Ext d r H H1) (F : ExtT d r t H1 H2) (n : H t = none) : Ext d r H H2 := fun b o e n1 n2 => F b o (E b o e n1 n2) n1 n2 (ne_of_none e n)
theorem ext_put {d r t : Addr} {H H1 : Hp} {o' : HO} (E : Ext d r H H1) (n : H t = none) : Ext d r H (upd H1 t o') := fun b o e n1 n2 => (upd_ne (ne_of_none e n)).trans (E b o e n1 n2)
section
variable {P : Program} {w : World} {K : PySem.W.Frag} {mg : Str → Option Value} {base : Heap}

theorem ok__law_spec (T : Txt K mg) : FnOk P w K mg base CX0 4 T.f__law_spec T.d__law_spec ["_law_draws", "_law_most"] spSpec := by
  refine T.F__law_spec.ok sc__law_spec (fun vs H Q E h => ?_) (fun cdv A outer s H vs Q E hr h => ?_)
  · obtain ⟨d, c, r, mm, rfl, _⟩ := h
    rfl
  obtain ⟨d, c, r, mm, rfl, D, m1, m3, q⟩ := h
  refine ⟨_, (pss_cons (ps_set (i := 2) sc__law_spec.nd rfl (by first | exact Or.inl rfl | exact Or.inr rfl) (pe_lst pa_nil))
      (pss_cons (ps_set (i := 3) sc__law_spec.nd rfl (by first | exact Or.inl rfl | exact Or.inr rfl) (pe_lst pa_nil))
      (pss_cons (ps_set (i := 4) sc__law_spec.nd rfl (by first | exact Or.inl rfl | exact Or.inr rfl) (pe_lst pa_nil))
      (pss_cons (ps_set (i := 5) sc__law_spec.nd rfl (by first | exact Or.inl rfl | exact Or.inr rfl) (pe_call (ok__law_names T) (hr.mono (by decide)) (by rfl) T.g__law_names T.F__law_names.kp T.b__law_names .nil pass0 (pa_cons (pv 0) (pa_cons (pv 2) (pa_cons (pe_call (ok__law_draw T) (hr.mono (by decide)) (by rfl) T.g__law_draw T.F__law_draw.kp T.b__law_draw .nil pass0 (pa_cons (pv 0) (pa_cons pe_int pa_nil))) pa_nil)))))
      (pss_cons (ps_set (i := 6) sc__law_spec.nd rfl (by first | exact Or.inl rfl | exact Or.inr rfl) (pe_call (ok__law_names T) (hr.mono (by decide)) (by rfl) T.g__law_names T.F__law_names.kp T.b__law_names .nil pass0 (pa_cons (pv 0) (pa_cons (pv 2) (pa_cons (pe_call (ok__law_draw T) (hr.mono (by decide)) (by rfl) T.g__law_draw T.F__law_draw.kp T.b__law_draw .nil pass0 (pa_cons (pv 0) (pa_cons pe_int pa_nil))) pa_nil)))))
      (pss_cons (ps_set (i := 7) sc__law_spec.nd rfl (by first | exact Or.inl rfl | exact Or.inr rfl) (pe_call (ok__law_names T) (hr.mono (by decide)) (by rfl) T.g__law_names T.F__law_names.kp T.b__law_names .nil pass0 (pa_cons (pv 0) (pa_cons (pv 2) (pa_cons (pe_call (ok__law_draw T) (hr.mono (by decide)) (by rfl) T.g__law_draw T.F__law_draw.kp T.b__law_draw .nil pass0 (pa_cons (pv 0) (pa_cons pe_int pa_nil))) pa_nil)))))
      (pss_cons (ps_for PassesOwn.never rfl (pi_range1 (by rfl) T.z_range (pa_cons (pe_op op_add pe_int (pe_call (ok__law_draw T) (hr.mono (by decide)) (by rfl) T.g__law_draw T.F__law_draw.kp T.b__law_draw .nil pass0 (pa_cons (pv 0) (pa_cons (pv 1) pa_nil)))) pa_nil)) (pg_name (i := 8) sc__law_spec.nd rfl (by first | exact Or.inl rfl | exact Or.inr rfl)) (pss_cons (ps_set (i := 9) sc__law_spec.nd rfl (by first | exact Or.inl rfl | exact Or.inr rfl) (pe_cmpR op_eq (pe_call (ok__law_draw T) (hr.mono (by decide)) (by rfl) T.g__law_draw T.F__law_draw.kp T.b__law_draw .nil pass0 (pa_cons (pv 0) (pa_cons pe_int pa_nil))) pe_int (nomark _)))
      (pss_cons (ps_set (i := 10) sc__law_spec.nd rfl (by first | exact Or.inl rfl | exact Or.inr rfl) (pe_ix (r := rIxL K) ix_list (pe_op op_cat (pe_lst (pa_cons pe_non pa_nil)) (pv 5)) (pe_call (ok__law_draw T) (hr.mono (by decide)) (by rfl) T.g__law_draw T.F__law_draw.kp T.b__law_draw .nil pass0 (pa_cons (pv 0) (pa_cons (pe_op op_add (pe_callB (r := rLenL K) (id := "len") c_len (by rfl) T.z_len (by decide +kernel) (pa_cons (pv 5) pa_nil)) pe_int) pa_nil))) (fun _ _ => rfl)))
      (pss_cons (ps_set (i := 11) sc__law_spec.nd rfl (by first | exact Or.inl rfl | exact Or.inr rfl) (pe_cmpR op_eq (pe_call (ok__law_draw T) (hr.mono (by decide)) (by rfl) T.g__law_draw T.F__law_draw.kp T.b__law_draw .nil pass0 (pa_cons (pv 0) (pa_cons pe_int pa_nil))) pe_int (nomark _)))
      (pss_cons (ps_set (i := 12) sc__law_spec.nd rfl (by first | exact Or.inl rfl | exact Or.inr rfl) (pe_ix (r := rIxL K) ix_list (pe_call (ok__law_names T) (hr.mono (by decide)) (by rfl) T.g__law_names T.F__law_names.kp T.b__law_names .nil pass0 (pa_cons (pv 0) (pa_cons (pv 2) (pa_cons pe_int pa_nil)))) pe_int (fun _ _ => rfl)))
      (C8.pss_cut (ps_if (PW.pt (pw_and (pt_val (pv 11)) (pw_and1 (pt_cmpR op_notIn_seq (pv 12) (pv 3) (by rfl))))) (pss_one (ps_expr (pe_bm PySem.F.plainAttrs_list PySem.F.slot_list_append PySem.F.type_list_append mt_append (pv 3) (pa_cons (pv 12) pa_nil)))) (pss_one (ps_expr (pe_call (ok__law_names T) (hr.mono (by decide)) (by rfl) T.g__law_names T.F__law_names.kp T.b__law_names .nil pass0 (pa_cons (pv 0) (pa_cons (pv 3) (pa_cons pe_int pa_nil)))))))
      (pss_one (ps_expr (pe_bm PySem.F.plainAttrs_list PySem.F.slot_list_append PySem.F.type_list_append mt_append (pv 4) (pa_cons (pe_tup (pa_cons (pe_ix (r := rIxL K) ix_list (pv 3) (pe_un un_neg pe_int) (fun _ _ => rfl)) (pa_cons (pv 12) (pa_cons (pv 10) (pa_cons (pv 9) pa_nil))))) pa_nil))))))))))
      (pss_one (ps_ret (pe_lst (pa_cons (pv 4) (pa_cons (pv 5) (pa_cons (pv 6) (pa_cons (pv 7) pa_nil)))))))))))))), ?_⟩
  try simp only [nox_K, cx_K]
  wtm_at "rd"
  refine r_new rfl fun tk n_tk => ?_
  have tkd := D.ned n_tk
  have tkr := D.ner n_tk
  have tkc := D.nec n_tk
  have n_tk0 := n_tk
  generalize eq_tk : upd _ tk _ = H1
  have s_tk : Same _ H1 := eq_tk ▸ same_new n_tk
  have h_tk : H1 tk = some _ := eq_tk ▸ upd_same
  clear eq_tk
  have D := D.same s_tk
  have E1 : Ext d r H H1 := Ext.of s_tk
  wtm_at "rd"
  refine r_new rfl fun ca n_ca => ?_
  have cad := D.ned n_ca
  have car := D.ner n_ca
  have cac := D.nec n_ca
  have tc : tk ≠ ca := ne_of_none h_tk n_ca
  generalize eq_ca : upd _ ca _ = H2
  have s_ca : Same _ H2 := eq_ca ▸ same_new n_ca
  have h_ca : H2 ca = some _ := eq_ca ▸ upd_same
  clear eq_ca
  have D := D.same s_ca
  have h_tk := s_ca _ _ h_tk
  have E1 := E1.trans (Ext.of s_ca)
  wtm_at "rd"
  refine r_new rfl fun so n_so => ?_
  have sod := D.ned n_so
  have sor := D.ner n_so
  have soc := D.nec n_so
  have ts_ : tk ≠ so := ne_of_none h_tk n_so
  have cs_ : ca ≠ so := ne_of_none h_ca n_so
  generalize eq_so : upd _ so _ = H3
  have s_so : Same _ H3 := eq_so ▸ same_new n_so
  have h_so : H3 so = some _ := eq_so ▸ upd_same
  clear eq_so
  have D := D.same s_so
  have h_tk := s_so _ _ h_tk
  have h_ca := s_so _ _ h_ca
  have E1 := E1.trans (Ext.of s_so)
  wtm_at "rd"
  refine ⟨d, c, r, 3, rfl, D, by decide, by decide, fun k1 H4 k10 k11 D4 E4 => ?_⟩
  have n_ca0 : H ca = none := s_tk.free n_ca
  have n_so0 : H so = none := s_tk.free (s_ca.free n_so)
  have h_tk := E4 _ _ h_tk tkd tkr
  have h_ca := E4 _ _ h_ca cad car
  have h_so := E4 _ _ h_so sod sor
  have E4 := E1.trans E4
  wtm_at "rd"
  refine ⟨d, c, r, tk, [], k1.toNat, by rw [Int.toNat_of_nonneg k10]; rfl, D4, h_tk, by show 0 + k1.toNat ≤ 13; omega, tkc, fun ha ps H5 n_ha lps wps nps h_ha h_tk5 D5 E5 => ?_⟩
  have ht := (ne_of_none h_tk n_ha).symm
  have hc := (ne_of_none h_ca n_ha).symm
  have hs := (ne_of_none h_so n_ha).symm
  have h_ca := E5 _ _ h_ca cad car tc.symm
  have h_so := E5 _ _ h_so sod sor ts_.symm
  have nps := nps List.nodup_nil
  rw [List.nil_append] at h_tk5 nps
  have h_tk := h_tk5
  have E5 := ext_T E4 E5 n_tk0
  wtm_at "rd"
  refine ⟨d, c, r, 4, rfl, D5, by decide, by decide, fun k2 H6 k20 k21 D6 E6 => ?_⟩
  have h_tk := E6 _ _ h_tk tkd tkr
  have h_ca := E6 _ _ h_ca cad car
  have h_so := E6 _ _ h_so sod sor
  have h_ha := E6 _ _ h_ha (strs_dr D5 h_ha).1 (strs_dr D5 h_ha).2
  have E6 := E5.trans E6
  wtm_at "rd"
  refine ⟨d, c, r, tk, ps, k2.toNat, by rw [Int.toNat_of_nonneg k20]; rfl, D6, h_tk, by omega, tkc, fun wo vs H7 n_wo lvs wvs nvs h_wo h_tk7 D7 E7 => ?_⟩
  have wt := (ne_of_none h_tk n_wo).symm
  have wc := (ne_of_none h_ca n_wo).symm
  have ws_ := (ne_of_none h_so n_wo).symm
  have h_ca := E7 _ _ h_ca cad car tc.symm
  have h_so := E7 _ _ h_so sod sor ts_.symm
  have h_ha := E7 _ _ h_ha (strs_dr D6 h_ha).1 (strs_dr D6 h_ha).2 ht
  have nvs := nvs nps
  have h_tk := h_tk7
  have E7 := ext_T E6 E7 n_tk0
  wtm_at "rd"
  refine ⟨d, c, r, 4, rfl, D7, by decide, by decide, fun k3 H8 k30 k31 D8 E8 => ?_⟩
  have h_tk := E8 _ _ h_tk tkd tkr
  have h_ca := E8 _ _ h_ca cad car
  have h_so := E8 _ _ h_so sod sor
  have h_ha := E8 _ _ h_ha (strs_dr D7 h_ha).1 (strs_dr D7 h_ha).2
  have h_wo := E8 _ _ h_wo (strs_dr D7 h_wo).1 (strs_dr D7 h_wo).2
  have E8 := E7.trans E8
  wtm_at "rd"
  refine ⟨d, c, r, tk, ps ++ vs, k3.toNat, by rw [Int.toNat_of_nonneg k30]; rfl, D8, h_tk, by rw [List.length_append]; omega, tkc, fun fl ms H9 n_fl lms wms nms h_fl h_tk9 D9 E9 => ?_⟩
  have ft := (ne_of_none h_tk n_fl).symm
  have fc := (ne_of_none h_ca n_fl).symm
  have fs_ := (ne_of_none h_so n_fl).symm
  have h_ca := E9 _ _ h_ca cad car tc.symm
  have h_so := E9 _ _ h_so sod sor ts_.symm
  have h_ha := E9 _ _ h_ha (strs_dr D8 h_ha).1 (strs_dr D8 h_ha).2 ht
  have h_wo := E9 _ _ h_wo (strs_dr D8 h_wo).1 (strs_dr D8 h_wo).2 wt
  have nms := nms nvs
  have h_tk := h_tk9
  have E9 := ext_T E8 E9 n_tk0
  wtm_at "rd"
  refine r_for (r_rng1 ?_)
  wtm_at "rd"
  refine ⟨d, c, r, mm, rfl, D9, by omega, by omega, fun k4 H10 k40 k41 D10 E10 => ?_⟩
  have h_tk := E10 _ _ h_tk tkd tkr
  have h_ca := E10 _ _ h_ca cad car
  have h_so := E10 _ _ h_so sod sor
  have h_ha := E10 _ _ h_ha (strs_dr D9 h_ha).1 (strs_dr D9 h_ha).2
  have h_wo := E10 _ _ h_wo (strs_dr D9 h_wo).1 (strs_dr D9 h_wo).2
  have h_fl := E10 _ _ h_fl (strs_dr D9 h_fl).1 (strs_dr D9 h_fl).2
  have E10 := E9.trans E10
  wtm_at "rd"
  refine r_upto (by omega) (by omega) ?_
  refine for_range (fun i σ H' => ∃ (y8 y9 y10 y11 y12 : Option V) (ts : List Addr) (ss : List Srt), σ = [some (.ref d), some (.int mm), some (.ref tk), some (.ref ca), some (.ref so), some (.ref ha), some (.ref wo), some (.ref fl), y8, y9, y10, y11, y12] ∧ Drw H' d c r ∧ Ext d r H H' ∧
      H' tk = some (.lst ((ps ++ vs ++ ms ++ ss.map Srt.ky).map V.str)) ∧ H' ca = some (.lst ((ss.map Srt.nm).map V.str)) ∧ H' so = some (.lst (ts.map V.ref)) ∧ All2 (fun t s => H' t = some (.tup (srtV s))) ts ss ∧ H' ha = some (.lst (ps.map V.str)) ∧ H' wo = some (.lst (vs.map V.str)) ∧ H' fl = some (.lst (ms.map V.str)) ∧
      ss.length = i ∧ (∀ s ∈ ss, isNameB s.nm = true ∧ isNameB s.ky = true) ∧ (ps ++ vs ++ ms ++ ss.map Srt.ky).Nodup ∧ (ss.map Srt.nm).Nodup ∧ ∀ x ∈ ss, ∀ z, x.pt = some z → z ∈ ps)
    ⟨_, _, _, _, _, [], [], rfl, D10, E10, by show _ = some (HO.lst ((ps ++ vs ++ ms ++ []).map V.str)); rw [List.append_nil]; exact h_tk, h_ca, h_so, All2.nil, h_ha, h_wo, h_fl, rfl, fun _ z => (nomatch z), by show (ps ++ vs ++ ms ++ []).Nodup; rw [List.append_nil]; exact nms, List.nodup_nil, fun _ z => (nomatch z)⟩ ?_ ?_
  · rintro i σ H11 hi ⟨y8, y9, y10, y11, y12, ts, ss, rfl, D11, E11, h_tk, h_ca, h_so, hA, h_ha, h_wo, h_fl, li, hw, hn1, hn2, hpt⟩
    have hi : i < 4 := by omega
    have la : ts.length = i := hA.len.trans li
    wtm_at "rd"
    refine ⟨d, c, r, 2, rfl, D11, by decide, by decide, fun kf H12 kf0 kf1 D12 E12 => ?_⟩
    have h_tk := E12 _ _ h_tk tkd tkr
    have h_ca := E12 _ _ h_ca cad car
    have h_so := E12 _ _ h_so sod sor
    have hA := hA.imp fun t s z => E12.keep D11 z fun _ y => nomatch y
    have h_ha := E12 _ _ h_ha (strs_dr D11 h_ha).1 (strs_dr D11 h_ha).2
    have h_wo := E12 _ _ h_wo (strs_dr D11 h_wo).1 (strs_dr D11 h_wo).2
    have h_fl := E12 _ _ h_fl (strs_dr D11 h_fl).1 (strs_dr D11 h_fl).2
    have E12 := E11.trans E12
    wtm_at "rd"
    refine r_new rfl fun b1 n_b1 => ?_
    generalize eq_b1 : upd _ b1 _ = H13
    have s_b1 : Same _ H13 := eq_b1 ▸ same_new n_b1
    have h_b1 : H13 b1 = some _ := eq_b1 ▸ upd_same
    clear eq_b1
    have D12 := D12.same s_b1
    have E12 := E12.trans (Ext.of s_b1)
    have h_tk := s_b1 _ _ h_tk
    have h_ca := s_b1 _ _ h_ca
    have h_so := s_b1 _ _ h_so
    have h_ha := s_b1 _ _ h_ha
    have h_wo := s_b1 _ _ h_wo
    have h_fl := s_b1 _ _ h_fl
    have hA := hA.imp fun t s z => s_b1 _ _ z
    wtm_at "rd"
    refine ⟨b1, ha, _, _, rfl, rfl, h_b1, h_ha, Nat.le_of_lt (small1000 (by rw [List.length_map]; show 1 + ps.length ≤ 1000; omega)), fun b2 n_b2 => ?_⟩
    have b2d := D12.ned n_b2
    have b2r := D12.ner n_b2
    generalize eq_b2 : upd _ b2 _ = H14
    have s_b2 : Same _ H14 := eq_b2 ▸ same_new n_b2
    have h_b2 : H14 b2 = some _ := eq_b2 ▸ upd_same
    clear eq_b2
    have D12 := D12.same s_b2
    have E12 := E12.trans (Ext.of s_b2)
    have h_tk := s_b2 _ _ h_tk
    have h_ca := s_b2 _ _ h_ca
    have h_so := s_b2 _ _ h_so
    have h_ha := s_b2 _ _ h_ha
    have h_wo := s_b2 _ _ h_wo
    have h_fl := s_b2 _ _ h_fl
    have hA := hA.imp fun t s z => s_b2 _ _ z
    wtm_at "rd"
    refine r_lenS h_ha ?_
    wtm_at "rd"
    refine ⟨d, c, r, _, rfl, D12, by omega, by omega, fun kh H15 kh0 kh1 D15 E15 => ?_⟩
    have h_b2 := E15 _ _ h_b2 b2d b2r
    obtain ⟨pt, hpt1, hpt2⟩ := at_hall kh0 kh1
    refine r_ixL (SqL.of h_b2) hpt1 ?_
    have h_tk := E15 _ _ h_tk tkd tkr
    have h_ca := E15 _ _ h_ca cad car
    have h_so := E15 _ _ h_so sod sor
    have hA := hA.imp fun t s z => E15.keep D12 z fun _ y => nomatch y
    have h_ha := E15 _ _ h_ha (strs_dr D12 h_ha).1 (strs_dr D12 h_ha).2
    have h_wo := E15 _ _ h_wo (strs_dr D12 h_wo).1 (strs_dr D12 h_wo).2
    have h_fl := E15 _ _ h_fl (strs_dr D12 h_fl).1 (strs_dr D12 h_fl).2
    have E15 := E12.trans E15
    wtm_at "rd"
    refine ⟨d, c, r, 3, rfl, D15, by decide, by decide, fun ks H16 ks0 ks1 D16 E16 => ?_⟩
    have h_tk := E16 _ _ h_tk tkd tkr
    have h_ca := E16 _ _ h_ca cad car
    have h_so := E16 _ _ h_so sod sor
    have hA := hA.imp fun t s z => E16.keep D15 z fun _ y => nomatch y
    have h_ha := E16 _ _ h_ha (strs_dr D15 h_ha).1 (strs_dr D15 h_ha).2
    have h_wo := E16 _ _ h_wo (strs_dr D15 h_wo).1 (strs_dr D15 h_wo).2
    have h_fl := E16 _ _ h_fl (strs_dr D15 h_fl).1 (strs_dr D15 h_fl).2
    have E16 := E15.trans E16
    wtm_at "rd"
    refine ⟨d, c, r, tk, _, 1, rfl, D16, h_tk, by simp only [List.length_append, List.length_map]; omega, tkc, fun kl kw H17 n_kl lkw wkw nkw h_kl h_tk17 D17 E17 => ?_⟩
    obtain ⟨ky, rfl⟩ : ∃ ky, kw = [ky] := List.length_eq_one_iff.mp lkw
    have h_ca := E17 _ _ h_ca cad car tc.symm
    have h_so := E17 _ _ h_so sod sor ts_.symm
    have hA := hA.imp fun t s z => E17 _ _ z (tup_dr D16 z).1 (tup_dr D16 z).2 (ne_of z h_tk fun y => nomatch y)
    have h_ha := E17 _ _ h_ha (strs_dr D16 h_ha).1 (strs_dr D16 h_ha).2 ht
    have h_wo := E17 _ _ h_wo (strs_dr D16 h_wo).1 (strs_dr D16 h_wo).2 wt
    have h_fl := E17 _ _ h_fl (strs_dr D16 h_fl).1 (strs_dr D16 h_fl).2 ft
    have nkw := nkw hn1
    have h_tk := h_tk17
    have E17 := ext_T E16 E17 n_tk0
    have h_kl : H17 kl = some (.lst [V.str ky]) := h_kl
    wtm_at "rd"
    refine ⟨fun σ H' => ∃ (nm : Str), σ = [some (.ref d), some (.int mm), some (.ref tk), some (.ref ca), some (.ref so), some (.ref ha), some (.ref wo), some (.ref fl), some (.int (0 + i)), some (.bl (decide (kf = 1))), some (partV pt), some (.bl (decide (ks = 0))), some (.str ky)] ∧ Drw H' d c r ∧ Ext d r H H' ∧
      H' tk = some (.lst ((ps ++ vs ++ ms ++ ss.map Srt.ky ++ [ky]).map V.str)) ∧ H' ca = some (.lst ((ss.map Srt.nm ++ [nm]).map V.str)) ∧ H' so = some (.lst (ts.map V.ref)) ∧ All2 (fun t s => H' t = some (.tup (srtV s))) ts ss ∧ H' ha = some (.lst (ps.map V.str)) ∧ H' wo = some (.lst (vs.map V.str)) ∧ H' fl = some (.lst (ms.map V.str)) ∧ isNameB nm = true ∧ (ss.map Srt.nm ++ [nm]).Nodup, ?_, ?_⟩
    · have lkc : (ss.map Srt.nm).length ≤ 4 := by rw [List.length_map]; omega
      have other : ∀ {Hx : Hp}, Hx = H17 → spNames [.ref d, .ref ca, .int 1] Hx (fun _ H' => ∃ (nm : Str), [some (V.ref d), some (.int mm), some (.ref tk), some (.ref ca), some (.ref so), some (.ref ha), some (.ref wo), some (.ref fl), some (.int (0 + i)), some (.bl (decide (kf = 1))), some (partV pt), some (.bl (decide (ks = 0))), some (.str ky)] = [some (.ref d), some (.int mm), some (.ref tk), some (.ref ca), some (.ref so), some (.ref ha), some (.ref wo), some (.ref fl), some (.int (0 + i)), some (.bl (decide (kf = 1))), some (partV pt), some (.bl (decide (ks = 0))), some (.str ky)] ∧ Drw H' d c r ∧ Ext d r H H' ∧
        H' tk = some (.lst ((ps ++ vs ++ ms ++ ss.map Srt.ky ++ [ky]).map V.str)) ∧ H' ca = some (.lst ((ss.map Srt.nm ++ [nm]).map V.str)) ∧ H' so = some (.lst (ts.map V.ref)) ∧ All2 (fun t s => H' t = some (.tup (srtV s))) ts ss ∧ H' ha = some (.lst (ps.map V.str)) ∧ H' wo = some (.lst (vs.map V.str)) ∧ H' fl = some (.lst (ms.map V.str)) ∧ isNameB nm = true ∧ (ss.map Srt.nm ++ [nm]).Nodup) E0 := by
        rintro _ rfl
        refine ⟨d, c, r, ca, _, 1, rfl, D17, h_ca, by omega, cac, fun nl nw H18 _ lnw wnw nnw _ h_ca18 D18 E18 => ?_⟩
        obtain ⟨nm, rfl⟩ : ∃ nm, nw = [nm] := List.length_eq_one_iff.mp lnw
        refine ⟨nm, rfl, D18, ext_T E17 E18 n_ca0, E18 _ _ h_tk tkd tkr tc, h_ca18, E18 _ _ h_so sod sor cs_.symm, hA.imp fun t s z => E18 _ _ z (tup_dr D17 z).1 (tup_dr D17 z).2 (ne_of z h_ca fun y => nomatch y), E18 _ _ h_ha (strs_dr D17 h_ha).1 (strs_dr D17 h_ha).2 hc, E18 _ _ h_wo (strs_dr D17 h_wo).1 (strs_dr D17 h_wo).2 wc, E18 _ _ h_fl (strs_dr D17 h_fl).1 (strs_dr D17 h_fl).2 fc, wnw nm List.mem_cons_self, nnw hn2⟩
      wtm_at "rd"
      refine r_ite (fun e1 => ?_) (fun e1 => ?_)
      · wtm_at "rd"
        refine r_inL (SqL.of h_ca) rfl (flat_strsV _) ?_
        show ∃ k, V.bl (!inV _ ((ss.map Srt.nm).map V.str)) = .bl k ∧ _
        rw [inV_strs]
        wtm_at "rd"
        refine r_iten (fun e2 => ?_) (fun e2 => ?_)
        · wtm_at "rd"
          refine r_tyL (SqL.of h_ca) ?_
          wtm_at "rd"
          refine r_app h_ca (small1000 (by rw [List.length_map]; omega)) ?_
          wtm_at "rd"
          refine ⟨ky, rfl, D17.put cad car cac, ext_put E17 n_ca0, (upd_ne tc).trans h_tk, by rw [upd_same, List.map_append (l₂ := [ky])]; rfl, (upd_ne cs_.symm).trans h_so, hA.imp fun t s z => (upd_ne (ne_of z h_ca fun y => nomatch y)).trans z, (upd_ne hc).trans h_ha, (upd_ne wc).trans h_wo, (upd_ne fc).trans h_fl, wkw ky List.mem_cons_self, ?_⟩
          refine List.nodup_append.mpr ⟨hn2, by simp, fun a ha b hb => ?_⟩
          rw [List.mem_singleton.mp hb]
          intro e
          exact e2 (e ▸ ha)
        · wtm_at "rd"
          exact other rfl
      · wtm_at "rdi"
        exact other rfl
    rintro σ H' ⟨nm, rfl, D17, E17, h_tk, h_ca, h_so, hA, h_ha, h_wo, h_fl, wnm, nnm⟩
    wtm_at "rd"
    refine r_tyL (SqL.of h_so) ?_
    wtm_at "rd"
    refine r_ixL (SqL.of h_ca) at_lastS ?_
    wtm_at "rd"
    refine r_new rfl fun tt n_tt => ?_
    generalize eq_tt : upd _ tt _ = H19
    have s_tt : Same _ H19 := eq_tt ▸ same_new n_tt
    have h_tt : H19 tt = some _ := eq_tt ▸ upd_same
    clear eq_tt
    have D17 := D17.same s_tt
    have E17 := E17.trans (Ext.of s_tt)
    have h_tk := s_tt _ _ h_tk
    have h_ca := s_tt _ _ h_ca
    have h_so := s_tt _ _ h_so
    have h_ha := s_tt _ _ h_ha
    have h_wo := s_tt _ _ h_wo
    have h_fl := s_tt _ _ h_fl
    have hA := hA.imp fun t s z => s_tt _ _ z
    have h_tt : H19 tt = some (.tup (srtV ⟨nm, ky, pt, decide (kf = 1)⟩)) := h_tt
    wtm_at "rd"
    refine r_app h_so (small1000 (by rw [List.length_map]; omega)) ?_
    wtm_at "rd"
    have em : ∀ (f : Srt → Str), (ss ++ [(⟨nm, ky, pt, decide (kf = 1)⟩ : Srt)]).map f = ss.map f ++ [f ⟨nm, ky, pt, decide (kf = 1)⟩] := fun f => List.map_append
    refine ⟨_, _, _, _, _, ts ++ [tt], ss ++ [⟨nm, ky, pt, decide (kf = 1)⟩], rfl, D17.put sod sor soc, ext_put E17 n_so0, ?_, ?_, by rw [upd_same, List.map_append]; rfl, All2.snoc (hA.imp fun t s z => (upd_ne (ne_of z h_so fun y => nomatch y)).trans z) ((upd_ne (ne_of h_tt h_so fun y => nomatch y)).trans h_tt), (upd_ne hs).trans h_ha, (upd_ne ws_).trans h_wo, (upd_ne fs_).trans h_fl, by rw [List.length_append, li]; rfl, fun s hs' => ?_, ?_, ?_, fun x hx z hz => ?_⟩
    · rw [em, ← List.append_assoc]
      exact (upd_ne ts_).trans h_tk
    · rw [em]
      exact (upd_ne cs_).trans h_ca
    · rcases List.mem_append.mp hs' with y | y
      · exact hw s y
      · rw [List.mem_singleton.mp y]
        exact ⟨wnm, wkw ky List.mem_cons_self⟩
    · rw [em, ← List.append_assoc]
      exact nkw
    · rw [em]
      exact nnm
    · rcases List.mem_append.mp hx with y | y
      · exact hpt x y z hz
      · rw [List.mem_singleton.mp y] at hz
        exact hpt2 z hz
  · rintro σ H11 ⟨y8, y9, y10, y11, y12, ts, ss, rfl, D11, E11, h_tk, h_ca, h_so, hA, h_ha, h_wo, h_fl, li, hw, hn1, hn2, hpt⟩
    wtm_at "rd"
    refine r_new rfl fun p n_p => ?_
    generalize eq_p : upd _ p _ = H12
    have s_p : Same _ H12 := eq_p ▸ same_new n_p
    have h_p : H12 p = some _ := eq_p ▸ upd_same
    clear eq_p
    have D11 := D11.same s_p
    have E11 := E11.trans (Ext.of s_p)
    have h_so := s_p _ _ h_so
    have h_ha := s_p _ _ h_ha
    have h_wo := s_p _ _ h_wo
    have h_fl := s_p _ _ h_fl
    have hA := hA.imp fun t s z => s_p _ _ z
    refine q p ⟨ss, ps, vs, ms⟩ _ ?_ ⟨so, ha, wo, fl, ts, h_p, h_so, hA, h_ha, h_wo, h_fl⟩ D11 E11
    have pm : (ps ++ (ss.map Srt.ky ++ (vs ++ ms))).Perm (ps ++ vs ++ ms ++ ss.map Srt.ky) := by
      rw [List.append_assoc, List.append_assoc, ← List.append_assoc vs]
      exact List.Perm.append_left _ List.perm_append_comm
    refine ⟨fun z hz => ?_, hn2, pm.nodup_iff.mpr hn1, hpt, by show 1 ≤ ss.length; omega, by show ss.length ≤ 3; omega, by show ps.length ≤ 2; omega, by show vs.length ≤ 3; omega, by show ms.length ≤ 3; omega⟩
    rcases List.mem_append.mp hz with y | y
    · obtain ⟨x, hx, rfl⟩ := List.mem_map.mp y
      exact (hw x hx).1
    · rcases List.mem_append.mp y with y | y
      · exact wps z y
      · rcases List.mem_append.mp y with y | y
        · obtain ⟨x, hx, rfl⟩ := List.mem_map.mp y
          exact (hw x hx).2
        · rcases List.mem_append.mp y with y | y
          · exact wvs z y
          · exact wms z y
end

/-- plain texts of at most n signs -/
def Wn (n : Nat) (z : Str) : Prop := (∀ c ∈ z.cps.toList, c < 128) ∧ z.length ≤ n
theorem Wn.up {n m : Nat} {z : Str} (h : Wn n z) (hm : n ≤ m) : Wn m z := ⟨h.1, Nat.le_trans h.2 hm⟩
theorem Wn.sok {n : Nat} {z : Str} (h : Wn n z) : PyData.strOk z = true := by
  show z.cps.all _ = true
  rw [← Array.all_toList, List.all_eq_true]
  intro c hc
  have := h.1 c hc
  exact decide_eq_true (by omega)
theorem Wn.line {n : Nat} {z : Str} (h : Wn n z) (hn : n ≤ 1000) : z.length ≤ sizeLine := Nat.le_of_lt (small1000 (Nat.le_trans h.2 hn))
theorem Wn.cut {n : Nat} {z : Str} {lo hi : Option Int} (h : Wn n z) : Wn n (cutS z lo hi) := ⟨fun c hc => h.1 c (List.mem_of_mem_drop (List.mem_of_mem_take (by simpa [cutS] using hc))), Nat.le_trans cut_lenS h.2⟩
theorem Wn.app {n m : Nat} {x y : Str} (hx : Wn n x) (hy : Wn m y) : Wn (n + m) (x ++ y) := by
  refine ⟨fun c hc => ?_, by rw [len_app]; exact Nat.add_le_add hx.2 hy.2⟩
  have e : (x ++ y).cps.toList = x.cps.toList ++ y.cps.toList := by
    show (x.cps ++ y.cps).toList = _
    rw [Array.toList_append]
  rw [e] at hc
  rcases List.mem_append.mp hc with z | z
  · exact hx.1 c z
  · exact hy.1 c z
theorem name_Wn {z : Str} (h : isNameB z = true) : Wn 8 z := by
  refine ⟨fun c hc => ?_, (isName_len h).1⟩
  unfold isNameB at h
  have h := (Bool.and_eq_true_iff.mp (Bool.and_eq_true_iff.mp h).2).2
  have := letB_iff.mp (List.all_eq_true.mp h c hc)
  omega
theorem wordsWn : ∀ z ∈ wordsS, (∀ c ∈ z.cps.toList, c < 128) ∧ z.length ≤ 8 := by decide +kernel
theorem upper_Wn {n : Nat} {z : Str} (h : Wn n z) : Wn n (Txt.upper z) := by
  have e := SX.upper_S (a := z.cps.toList) (List.all_eq_true.mpr fun c hc => decide_eq_true (h.1 c hc))
  rw [SX.S_tl] at e
  rw [e]
  refine ⟨fun c hc => ?_, ?_⟩
  · obtain ⟨x, hx, rfl⟩ := List.mem_map.mp hc
    have := h.1 x hx
    unfold PyProof.Rows.up1
    split <;> omega
  · rw [SX.S_len, List.length_map]
    exact h.2
def signsT : Str := " !\"#$&'()*+,-./0123456789:;<=>?@ABCDEFGHIJKLMNOPQRSTUVWXYZ[\\]^_`{|}~"
theorem signsWn : (∀ c ∈ signsT.cps.toList, c < 128) ∧ signsT.length ≤ 80 ∧ 0 < signsT.length := by decide +kernel
theorem at_str {z : Str} {k : Int} (h0 : 0 ≤ k) (h1 : k < z.length) : ∃ c, atI z.cps.toList k = some c ∧ c ∈ z.cps.toList := by
  have hk : k.toNat < z.cps.toList.length := by rw [Array.length_toList]; show k.toNat < z.length; omega
  have e : atI z.cps.toList (k.toNat : Int) = some z.cps.toList[k.toNat] := atI_nat (List.getElem?_eq_getElem hk)
  rw [Int.toNat_of_nonneg h0] at e
  exact ⟨_, e, List.getElem_mem hk⟩
theorem one_Wn {c : Nat} (h : c < 128) : Wn 1 (SX.S [c]) := ⟨fun x hx => by rw [List.mem_singleton.mp hx]; exact h, Nat.le_refl _⟩
def spOdd : Sp := fun vs H Q _ => ∃ (d c r : Addr) (z : Str) (n : Nat), vs = [.ref d, .str z] ∧ Drw H d c r ∧ Wn n z ∧ 9 ≤ n ∧ n ≤ 100 ∧ 0 < z.length ∧ ∀ (w : Str) (H' : Hp), Wn (n + 1) w → Drw H' d c r → Ext d r H H' → Q (.str w) H'
def spNewWord : Sp := fun vs H Q _ => ∃ (d c r a : Addr) (z : Str) (ws : List Str) (n : Nat), vs = [.ref d, .str z, .ref a] ∧ Drw H d c r ∧ H a = some (.lst (ws.map V.str)) ∧ Wn n z ∧ (∀ w ∈ ws, Wn n w) ∧ 0 < ws.length ∧ ws.length ≤ 100 ∧ 9 ≤ n ∧ n ≤ 100 ∧ ∀ (w : Str) (H' : Hp), Wn (n + 1) w → Drw H' d c r → Ext d r H H' → Q (.str w) H'
def spGoodW : Sp := fun vs H Q _ => ∃ (z : Str), vs = [.str z] ∧ z.length ≤ 1000 ∧ ∀ H', Same H H' → Q (.bl (isNameB z)) H'

theorem r_lenR {H : Hp} {Q : VK} {K : PySem.W.Frag} {p : Addr} {as : List Addr} (h1 : H p = some (.lst (as.map V.ref))) (h : Q (.int as.length) H) : rLenL K [.ref p] H Q := ⟨p, _, rfl, .inl (.inl (.inl h1)), by rw [List.length_map]; exact h⟩
theorem at_refs {gs : List Addr} {k : Int} (h0 : 0 ≤ k) (h1 : k < gs.length) : ∃ a, gs[k.toNat]? = some a ∧ atI (gs.map V.ref) k = some (.ref a) := by
  have hk : k.toNat < gs.length := by omega
  have e : atI (gs.map V.ref) (k.toNat : Int) = some (.ref gs[k.toNat]) := atI_nat (by rw [List.getElem?_map, List.getElem?_eq_getElem hk]; rfl)
  rw [Int.toNat_of_nonneg h0] at e
  exact ⟨_, List.getElem?_eq_getElem hk, e⟩
/-- the item of the list at an address -/
def idxV (H : Hp) (j : Nat) : V → V
  | .ref u => match H u with
    | some (.lst xs) => xs.getD j .non
    | _ => .non
  | _ => .non
theorem idx_at {H : Hp} {j : Nat} {u : Addr} {xs : List V} {v : V} (h : H u = some (.lst xs)) (e : xs[j]? = some v) : idxV H j (.ref u) = v := by
  simp only [idxV, h]
  rw [List.getD_eq_getElem?_getD, e]
  rfl
structure SpAt (H : Hp) (aS aK : Addr) (sc : Sch) : Prop where
  ex : ∃ ts aP aV aM, H aS = some (.lst (ts.map V.ref)) ∧ All2 (fun t s => H t = some (.lst (srtV s))) ts sc.ss ∧ H aK = some (.lst [.ref aP, .ref aV, .ref aM]) ∧ H aP = some (.lst (sc.ps.map V.str)) ∧ H aV = some (.lst (sc.vs.map V.str)) ∧ H aM = some (.lst (sc.ms.map V.str))
theorem SpAt.same {H H' : Hp} {aS aK : Addr} {sc : Sch} (h : SpAt H aS aK sc) (s : Same H H') : SpAt H' aS aK sc := by
  obtain ⟨ts, aP, aV, aM, h1, h2, h3, h4, h5, h6⟩ := h
  exact ⟨ts, aP, aV, aM, s _ _ h1, h2.imp fun _ _ z => s _ _ z, s _ _ h3, s _ _ h4, s _ _ h5, s _ _ h6⟩
structure Sch.wd (s : Sch) (n : Nat) : Prop where
  w : ∀ z ∈ s.names ++ s.cols, Wn n z
  p : ∀ x ∈ s.ss, ∀ z, x.pt = some z → Wn n z
  l0 : 1 ≤ s.ss.length
  l1 : s.ss.length ≤ 3
  l2 : s.ps.length ≤ 2
  l3 : s.vs.length ≤ 3
  l4 : s.ms.length ≤ 3
theorem Sch.wd.up {s : Sch} {n m : Nat} (h : s.wd n) (hm : n ≤ m) : s.wd m := ⟨fun z hz => (h.w z hz).up hm, fun x hx z hz => (h.p x hx z hz).up hm, h.l0, h.l1, h.l2, h.l3, h.l4⟩
theorem Sch.wd.small {s : Sch} {n : Nat} (h : s.wd n) (hn : n ≤ 1000) : s.small := ⟨Nat.le_trans h.l1 (by decide), Nat.le_trans h.l2 (by decide), Nat.le_trans h.l3 (by decide), Nat.le_trans h.l4 (by decide), fun z hz => Nat.le_trans (h.w z hz).2 hn⟩
theorem Sch.wd.lens {s : Sch} {n : Nat} (h : s.wd n) : 1 ≤ s.cols.length ∧ s.cols.length ≤ 11 ∧ s.names.length ≤ 3 ∧ 1 ≤ s.names.length := by
  have h0 := h.l0
  have h1 := h.l1
  have h2 := h.l2
  have h3 := h.l3
  have h4 := h.l4
  simp only [Sch.cols, Sch.names, List.length_append, List.length_map]
  omega
theorem good_wd {s : Sch} (h : s.good) : s.wd 20 := ⟨fun z hz => (name_Wn (h.w z hz)).up (by decide), fun x hx z hz => (name_Wn (h.w z (List.mem_append.mpr (.inr (List.mem_append.mpr (.inl (h.pt x hx z hz))))))).up (by decide), h.l0, h.l1, h.l2, h.l3, h.l4⟩
def spColsL : Sp := fun vs H Q _ => ∃ (aS aK : Addr) (sc : Sch) (n : Nat), vs = [.ref aS, .ref aK] ∧ SpAt H aS aK sc ∧ sc.wd n ∧ ∀ l H', H l = none → Same H H' → H' l = some (.lst (sc.cols.map V.str)) → Q (.ref l) H'
def MadeAt (H : Hp) (t : Addr) (sc : Sch) : Prop := match sc.bad with
  | some w => H t = some (.tup [.str "bad", .str w, .bl true])
  | none => ∃ l, H t = some (.tup [.str "made", .ref l]) ∧ H l = some (.lst (sc.cols.map V.str))
theorem made_bad {H : Hp} {t : Addr} {sc : Sch} {w : Str} (e : sc.bad = some w) (h : H t = some (.tup [.str "bad", .str w, .bl true])) : MadeAt H t sc := by
  unfold MadeAt
  rw [e]
  exact h
theorem made_ok {H : Hp} {t l : Addr} {sc : Sch} (e : sc.bad = none) (h : H t = some (.tup [.str "made", .ref l])) (hl : H l = some (.lst (sc.cols.map V.str))) : MadeAt H t sc := by
  unfold MadeAt
  rw [e]
  exact ⟨l, h, hl⟩
def spDueL : Sp := fun vs H Q _ => ∃ (aS aK : Addr) (sc : Sch) (n : Nat), vs = [.ref aS, .ref aK] ∧ SpAt H aS aK sc ∧ sc.wd n ∧ n ≤ 1000 ∧ ∀ t H', Same H H' → MadeAt H' t sc → Q (.ref t) H'
theorem cut_take {ws : List Str} {k : Nat} (h : k ≤ ws.length) : cutV (ws.map V.str) none (some (k : Int)) = (ws.take k).map V.str := by
  unfold cutV
  rw [HT.sIx_none, HT.sIx_nat, List.drop_zero, Nat.sub_zero, List.length_map, Nat.min_eq_left h, List.map_take]
theorem at_nth {ws : List Str} {k : Nat} {w : Str} (h : ws[k]? = some w) : atI (ws.map V.str) (0 + (k : Int)) = some (.str w) := by
  rw [Int.zero_add]
  exact atI_nat (by rw [List.getElem?_map, h]; rfl)

theorem same_two {H : Hp} {x dx C : Addr} (nx : H x = none) (nd : H dx = none) : Same H (upd (upd H dx (.own x)) x (.ins C dx [])) := fun b o e => (upd_ne (ne_of_none e nx)).trans ((upd_ne (ne_of_none e nd)).trans e)
theorem make_sort {C : Addr} {H : Hp} {F : Addr → Hp → Prop} {E : XK} {sr : Srt} (h : ∀ x H', H x = none → Same H H' → SortAt C H' x sr → F x H') :
    ∀ x dx, H x = none → H dx = none → dx ≠ x → spSortInit C ([.ref x, .str sr.nm, .str sr.ky] ++ [partV sr.pt, .bl sr.ds]) (upd (upd H dx (.own x)) x (.ins C dx [])) (fun v H2 => v = .non ∧ F x H2) E :=
  fun x dx nx nd _ => ⟨x, dx, sr, rfl, upd_same, fun H' ho hk => ⟨rfl, h x H' nx (same_make nx nd hk) ho⟩⟩
theorem r_yes {σ : L2.St} {H : Hp} {QT : Bool → Hp → Prop} (h : QT true H) : tYes σ H QT := h
/-- the state of the spoilt lists: nothing of it stood in H0 -/
structure SpB (H0 H : Hp) (d c r aS aK : Addr) (sc : Sch) : Prop where
  ex : ∃ ts aP aV aM, H aS = some (.lst (ts.map V.ref)) ∧ All2 (fun t s => H t = some (.lst (srtV s))) ts sc.ss ∧ H aK = some (.lst [.ref aP, .ref aV, .ref aM]) ∧ H aP = some (.lst (sc.ps.map V.str)) ∧ H aV = some (.lst (sc.vs.map V.str)) ∧ H aM = some (.lst (sc.ms.map V.str)) ∧
    ts.Nodup ∧ aP ≠ aV ∧ aP ≠ aM ∧ aV ≠ aM ∧ (∀ t ∈ ts, H0 t = none) ∧ H0 aP = none ∧ H0 aV = none ∧ H0 aM = none
  drw : Drw H d c r
  keep : Ext d r H0 H
theorem SpB.at_ {H0 H : Hp} {d c r aS aK : Addr} {sc : Sch} (h : SpB H0 H d c r aS aK sc) : SpAt H aS aK sc := by
  obtain ⟨ts, aP, aV, aM, h1, h2, h3, h4, h5, h6, _⟩ := h.ex
  exact ⟨ts, aP, aV, aM, h1, h2, h3, h4, h5, h6⟩
theorem SpB.same {H0 H H' : Hp} {d c r aS aK : Addr} {sc : Sch} (h : SpB H0 H d c r aS aK sc) (s : Same H H') : SpB H0 H' d c r aS aK sc := by
  obtain ⟨⟨ts, aP, aV, aM, h1, h2, h3, h4, h5, h6, h7⟩, D, E⟩ := h
  exact ⟨⟨ts, aP, aV, aM, s _ _ h1, h2.imp fun _ _ z => s _ _ z, s _ _ h3, s _ _ h4, s _ _ h5, s _ _ h6, h7⟩, D.same s, E.trans (Ext.of s)⟩
/-- no list of refs, of texts, of a sort is one of the draws' own -/
theorem refs_drc {H : Hp} {d c r a : Addr} {ts : List Addr} (D : Drw H d c r) (h : H a = some (.lst (ts.map V.ref))) : a ≠ d ∧ a ≠ r ∧ a ≠ c := by
  obtain ⟨_, _, _, ns, rs, t, h1, h2, h3, hl, hp, _⟩ := D
  have key : ∀ {b : Addr} {ms : List Int}, H b = some (.lst (ms.map V.int)) → 0 < ms.length → a ≠ b := fun {b ms} hb hm => ne_of h hb fun z => by
    have z := HO.lst.inj z
    cases ms with
    | nil => exact absurd hm (Nat.lt_irrefl 0)
    | cons x ms =>
      cases ts with
      | nil => cases z
      | cons y ts => cases z
  refine ⟨ne_of h h1 fun z => ?_, key h3 (by omega), key h2 hp⟩
  have z := HO.lst.inj z
  rcases ts with _ | ⟨x, _ | ⟨y, _ | ⟨w, ts⟩⟩⟩ <;> cases z
theorem strs_drc {H : Hp} {d c r a : Addr} {ws : List Str} (D : Drw H d c r) (h : H a = some (.lst (ws.map V.str))) : a ≠ d ∧ a ≠ r ∧ a ≠ c := by
  have z := strs_dr D h
  obtain ⟨_, _, _, ns, rs, t, h1, h2, h3, hl, hp, _⟩ := D
  refine ⟨z.1, z.2, ne_of h h2 fun z => ?_⟩
  have z := HO.lst.inj z
  cases ns with
  | nil => exact absurd hp (Nat.lt_irrefl 0)
  | cons x ms =>
    cases ws with
    | nil => cases z
    | cons y ts => cases z
theorem srt_drc {H : Hp} {d c r a : Addr} {s : Srt} (D : Drw H d c r) (h : H a = some (.lst (srtV s))) : a ≠ d ∧ a ≠ r ∧ a ≠ c := by
  obtain ⟨_, _, _, ns, rs, t, h1, h2, h3, hl, hp, _⟩ := D
  have key : ∀ {b : Addr} {ms : List Int}, H b = some (.lst (ms.map V.int)) → 0 < ms.length → a ≠ b := fun {b ms} hb hm => ne_of h hb fun z => by
    have z := HO.lst.inj z
    cases ms with
    | nil => exact absurd hm (Nat.lt_irrefl 0)
    | cons x ms => cases z
  exact ⟨ne_of h h1 (fun z => nomatch z), key h3 (by omega), key h2 hp⟩
theorem SpB.ext {H0 H H' : Hp} {d c r aS aK : Addr} {sc : Sch} (h : SpB H0 H d c r aS aK sc) (e : Ext d r H H') (D' : Drw H' d c r) : SpB H0 H' d c r aS aK sc := by
  obtain ⟨⟨ts, aP, aV, aM, h1, h2, h3, h4, h5, h6, h7⟩, D, E⟩ := h
  have k3 : H aK = some (.lst ([aP, aV, aM].map V.ref)) := h3
  exact ⟨⟨ts, aP, aV, aM, e _ _ h1 (refs_drc D h1).1 (refs_drc D h1).2.1, h2.imp fun _ _ z => e _ _ z (srt_drc D z).1 (srt_drc D z).2.1, e _ _ h3 (refs_drc D k3).1 (refs_drc D k3).2.1, e _ _ h4 (strs_drc D h4).1 (strs_drc D h4).2.1, e _ _ h5 (strs_drc D h5).1 (strs_drc D h5).2.1, e _ _ h6 (strs_drc D h6).1 (strs_drc D h6).2.1, h7⟩, D', E.trans e⟩
theorem All2.set {α β : Type} {P : α → β → Prop} {as : List α} {bs : List β} {j : Nat} {a : α} {b : β} (h : All2 P as bs) (ha : as[j]? = some a) (p : P a b) : All2 P as (bs.set j b) := by
  refine ⟨by rw [List.length_set]; exact h.len, fun i x y h1 h2 => ?_⟩
  by_cases c : j = i
  · subst c
    rw [ha] at h1
    cases h1
    have hj : j < bs.length := by rw [← h.len]; exact (List.getElem?_eq_some_iff.mp ha).1
    rw [List.getElem?_set_self hj] at h2
    cases h2
    exact p
  · rw [List.getElem?_set_ne c] at h2
    exact h.at_ i x y h1 h2
theorem srt_ne_strs (s : Srt) (ws : List Str) : ¬ srtV s = ws.map V.str := by
  intro z
  have z3 := congrArg (fun l : List V => l[3]?) z
  have e : (srtV s)[3]? = some (.bl s.ds) := rfl
  have e2 : (ws.map V.str)[3]? = ws[3]?.map V.str := List.getElem?_map
  have z4 : some (V.bl s.ds) = ws[3]?.map V.str := e.symm.trans (z3.trans e2)
  cases h : ws[3]? with
  | none => rw [h] at z4; cases z4
  | some x => rw [h] at z4; cases z4
/-- one sort's list is written anew -/
theorem SpB.setS {H0 H : Hp} {d c r aS aK : Addr} {sc : Sch} (h : SpB H0 H d c r aS aK sc) {k : Int} (k0 : 0 ≤ k) (k1 : k < sc.ss.length) : ∃ (ts : List Addr) (t : Addr) (s : Srt), H aS = some (.lst (ts.map V.ref)) ∧ atI (ts.map V.ref) k = some (.ref t) ∧ sc.ss[k.toNat]? = some s ∧ H t = some (.lst (srtV s)) ∧
    ∀ s' : Srt, SpB H0 (upd H t (.lst (srtV s'))) d c r aS aK ⟨sc.ss.set k.toNat s', sc.ps, sc.vs, sc.ms⟩ := by
  obtain ⟨⟨ts, aP, aV, aM, h1, h2, h3, h4, h5, h6, nd, n1, n2, n3, f1, f2, f3, f4⟩, D, E⟩ := h
  obtain ⟨t, ht, hat⟩ := at_refs k0 (by rw [h2.len]; exact k1)
  obtain ⟨s, hs, hts⟩ := h2.get ht
  have key : ∀ {b : Addr} {ws : List Str}, H b = some (.lst (ws.map V.str)) → b ≠ t := fun {b ws} hb => ne_of hb hts fun z => by
    exact srt_ne_strs s ws (HO.lst.inj z).symm
  have keyr : ∀ {b : Addr} {as : List Addr}, H b = some (.lst (as.map V.ref)) → b ≠ t := fun {b as} hb => ne_of hb hts fun z => by
    have z := HO.lst.inj z
    cases as with
    | nil => cases z
    | cons x as => cases z
  have k3 : H aK = some (.lst ([aP, aV, aM].map V.ref)) := h3
  refine ⟨ts, t, s, h1, hat, hs, hts, fun s' => ⟨⟨ts, aP, aV, aM, (upd_ne (keyr h1)).trans h1, ?_, (upd_ne (keyr k3)).trans h3, (upd_ne (key h4)).trans h4, (upd_ne (key h5)).trans h5, (upd_ne (key h6)).trans h6, nd, n1, n2, n3, f1, f2, f3, f4⟩, D.put (srt_drc D hts).1 (srt_drc D hts).2.1 (srt_drc D hts).2.2, fun b o e m1 m2 => (upd_ne (ne_of_none e (f1 t (List.mem_of_getElem? ht)))).trans (E b o e m1 m2)⟩⟩
  refine ⟨by rw [List.length_set]; exact h2.len, fun i x y e1 e2 => ?_⟩
  by_cases cc : k.toNat = i
  · subst cc
    rw [ht] at e1
    cases e1
    have hj : k.toNat < sc.ss.length := by omega
    rw [List.getElem?_set_self hj] at e2
    cases e2
    exact upd_same
  · rw [List.getElem?_set_ne cc] at e2
    have hx := h2.at_ i x y e1 e2
    have hne : x ≠ t := fun z => by
      subst z
      have hi := (List.getElem?_eq_some_iff.mp e1)
      have hk := (List.getElem?_eq_some_iff.mp ht)
      exact cc ((List.getElem_inj (h₀ := hk.1) (h₁ := hi.1) nd).mp (hk.2.trans hi.2.symm))
    exact (upd_ne hne).trans hx
def kindOf (sc : Sch) : Nat → List Str
  | 0 => sc.ps
  | 1 => sc.vs
  | _ => sc.ms
def setKind (sc : Sch) (ws : List Str) : Nat → Sch
  | 0 => ⟨sc.ss, ws, sc.vs, sc.ms⟩
  | 1 => ⟨sc.ss, sc.ps, ws, sc.ms⟩
  | _ => ⟨sc.ss, sc.ps, sc.vs, ws⟩
theorem SpB.setK {H0 H : Hp} {d c r aS aK : Addr} {sc : Sch} (h : SpB H0 H d c r aS aK sc) (l0 : 0 < sc.ss.length) {k : Int} (k0 : 0 ≤ k) (k1 : k < 3) : ∃ (as : List V) (a : Addr), H aK = some (.lst as) ∧ atI as k = some (.ref a) ∧ H a = some (.lst ((kindOf sc k.toNat).map V.str)) ∧
    ∀ ws : List Str, SpB H0 (upd H a (.lst (ws.map V.str))) d c r aS aK (setKind sc ws k.toNat) := by
  obtain ⟨⟨ts, aP, aV, aM, h1, h2, h3, h4, h5, h6, nd, n1, n2, n3, f1, f2, f3, f4⟩, D, E⟩ := h
  have k3 : H aK = some (.lst ([aP, aV, aM].map V.ref)) := h3
  have key : ∀ {a : Addr} {xs : List Str}, H a = some (.lst (xs.map V.str)) → (∀ {t : Addr} {s : Srt}, H t = some (.lst (srtV s)) → t ≠ a) := fun {a xs} hb {t s} hts => ne_of hts hb fun z => by
    exact srt_ne_strs s xs (HO.lst.inj z)
  have k1' : ts.length = sc.ss.length := h2.len
  have keyr : ∀ {a : Addr} {xs : List Str} {b : Addr} {as : List Addr}, H a = some (.lst (xs.map V.str)) → H b = some (.lst (as.map V.ref)) → 0 < as.length → b ≠ a := fun {a xs b as} hb hr hl => ne_of hr hb fun z => by
    have z := HO.lst.inj z
    cases as with
    | nil => exact absurd hl (Nat.lt_irrefl 0)
    | cons x as =>
      cases xs with
      | nil => cases z
      | cons y xs => cases z
  have k3' : 0 < [aP, aV, aM].length := Nat.le_of_ble_eq_true rfl
  have hA : ∀ {a : Addr} {xs : List Str} {o : HO}, H a = some (.lst (xs.map V.str)) → All2 (fun t s => (upd H a o) t = some (.lst (srtV s))) ts sc.ss := fun {a xs o} ha => h2.imp fun t s z => (upd_ne (key ha z)).trans z
  have aSne : ∀ {a : Addr} {xs : List Str}, H a = some (.lst (xs.map V.str)) → aS ≠ a := fun {a xs} ha => keyr ha h1 (by rw [k1']; exact l0)
  have aKne : ∀ {a : Addr} {xs : List Str}, H a = some (.lst (xs.map V.str)) → aK ≠ a := fun {a xs} ha => keyr ha k3 k3'
  have Dp : ∀ {a : Addr} {xs : List Str} {o : HO}, H a = some (.lst (xs.map V.str)) → Drw (upd H a o) d c r := fun {a xs o} ha => D.put (strs_drc D ha).1 (strs_drc D ha).2.1 (strs_drc D ha).2.2
  have Ep : ∀ {a : Addr} {o : HO}, H0 a = none → Ext d r H0 (upd H a o) := fun {a o} ha b o' e m1 m2 => (upd_ne (ne_of_none e ha)).trans (E b o' e m1 m2)
  obtain rfl | rfl | rfl : k = 0 ∨ k = 1 ∨ k = 2 := by omega
  · exact ⟨_, aP, h3, rfl, h4, fun ws => ⟨⟨ts, aP, aV, aM, (upd_ne (aSne h4)).trans h1, hA h4, (upd_ne (aKne h4)).trans h3, upd_same, (upd_ne n1.symm).trans h5, (upd_ne n2.symm).trans h6, nd, n1, n2, n3, f1, f2, f3, f4⟩, Dp h4, Ep f2⟩⟩
  · exact ⟨_, aV, h3, rfl, h5, fun ws => ⟨⟨ts, aP, aV, aM, (upd_ne (aSne h5)).trans h1, hA h5, (upd_ne (aKne h5)).trans h3, (upd_ne n1).trans h4, upd_same, (upd_ne n3.symm).trans h6, nd, n1, n2, n3, f1, f2, f3, f4⟩, Dp h5, Ep f3⟩⟩
  · exact ⟨_, aM, h3, rfl, h6, fun ws => ⟨⟨ts, aP, aV, aM, (upd_ne (aSne h6)).trans h1, hA h6, (upd_ne (aKne h6)).trans h3, (upd_ne n2).trans h4, (upd_ne n3).trans h5, upd_same, nd, n1, n2, n3, f1, f2, f3, f4⟩, Dp h6, Ep f4⟩⟩

theorem SpB.more {H0 H H' : Hp} {d c r aS aK l : Addr} {sc : Sch} {o : HO} (h : SpB H0 H d c r aS aK sc) (n : H l = none) (s : Same H H') (hl : H' l = some o) : SpB (upd H0 l o) H' d c r aS aK sc := by
  obtain ⟨⟨ts, aP, aV, aM, h1, h2, h3, h4, h5, h6, nd, n1, n2, n3, f1, f2, f3, f4⟩, D, E⟩ := h.same s
  obtain ⟨⟨ts0, aP0, aV0, aM0, g1, g2, g3, g4, g5, g6, _⟩, _, _⟩ := h
  have e1 : ts0 = ts := by
    have z := (s _ _ g1).symm.trans h1
    injection z with z
    have z := HO.lst.inj z
    exact List.map_inj_right (fun a b e => V.ref.inj e) |>.mp z
  have e3 := (s _ _ g3).symm.trans h3
  cases e3
  subst e1
  refine ⟨⟨ts0, aP, aV, aM, h1, h2, h3, h4, h5, h6, nd, n1, n2, n3, fun t ht => ?_, ?_, ?_, ?_⟩, D, fun b x e m1 m2 => ?_⟩
  · obtain ⟨j, hj⟩ := List.getElem?_of_mem ht
    obtain ⟨b, _, hb⟩ := g2.get hj
    rw [upd_ne (ne_of_none hb n)]
    exact f1 t ht
  · rw [upd_ne (ne_of_none g4 n)]; exact f2
  · rw [upd_ne (ne_of_none g5 n)]; exact f3
  · rw [upd_ne (ne_of_none g6 n)]; exact f4
  · by_cases q : b = l
    · subst q
      rw [upd_same] at e
      cases e
      exact hl
    · rw [upd_ne q] at e
      exact E b x e m1 m2
theorem SpB.less {H0 H : Hp} {d c r aS aK l : Addr} {sc : Sch} {o : HO} (h : SpB (upd H0 l o) H d c r aS aK sc) (n : H0 l = none) : SpB H0 H d c r aS aK sc := by
  obtain ⟨⟨ts, aP, aV, aM, h1, h2, h3, h4, h5, h6, nd, n1, n2, n3, f1, f2, f3, f4⟩, D, E⟩ := h
  have key : ∀ t, (upd H0 l o) t = none → H0 t = none := fun t z => by
    by_cases q : t = l
    · subst q; rw [upd_same] at z; cases z
    · rw [upd_ne q] at z; exact z
  exact ⟨⟨ts, aP, aV, aM, h1, h2, h3, h4, h5, h6, nd, n1, n2, n3, fun t ht => key t (f1 t ht), key _ f2, key _ f3, key _ f4⟩, D, fun b x e m1 m2 => E b x ((upd_ne (ne_of_none e n)).trans e) m1 m2⟩
theorem SpB.kdr {H0 H : Hp} {d c r aS aK : Addr} {sc : Sch} (h : SpB H0 H d c r aS aK sc) : aK ≠ d ∧ aK ≠ r := by
  obtain ⟨ts, aP, aV, aM, h1, h2, h3, _⟩ := h.ex
  have k3 : H aK = some (.lst ([aP, aV, aM].map V.ref)) := h3
  exact ⟨(refs_drc h.drw k3).1, (refs_drc h.drw k3).2.1⟩
theorem wd_setS {sc : Sch} {n m j : Nat} {s' : Srt} (h : sc.wd n) (hm : n ≤ m) (h1 : Wn m s'.nm) (h2 : Wn m s'.ky) (h3 : ∀ z, s'.pt = some z → Wn m z) : (⟨sc.ss.set j s', sc.ps, sc.vs, sc.ms⟩ : Sch).wd m := by
  have w := (h.up hm).w
  refine ⟨fun z hz => ?_, fun x hx z hz => ?_, by rw [List.length_set]; exact h.l0, by rw [List.length_set]; exact h.l1, h.l2, h.l3, h.l4⟩
  · rcases List.mem_append.mp hz with y | y
    · obtain ⟨x, hx, rfl⟩ := List.mem_map.mp y
      rcases List.mem_or_eq_of_mem_set hx with e | e
      · exact w _ (List.mem_append.mpr (.inl (List.mem_map.mpr ⟨x, e, rfl⟩)))
      · rw [e]; exact h1
    · rcases List.mem_append.mp y with y | y
      · exact w _ (List.mem_append.mpr (.inr (List.mem_append.mpr (.inl y))))
      · rcases List.mem_append.mp y with y | y
        · obtain ⟨x, hx, rfl⟩ := List.mem_map.mp y
          rcases List.mem_or_eq_of_mem_set hx with e | e
          · exact w _ (List.mem_append.mpr (.inr (List.mem_append.mpr (.inr (List.mem_append.mpr (.inl (List.mem_map.mpr ⟨x, e, rfl⟩)))))))
          · rw [e]; exact h2
        · exact w _ (List.mem_append.mpr (.inr (List.mem_append.mpr (.inr (List.mem_append.mpr (.inr y))))))
  · rcases List.mem_or_eq_of_mem_set hx with e | e
    · exact (h.up hm).p x e z hz
    · rw [e] at hz; exact h3 z hz
theorem wd_setK {sc : Sch} {n m k : Nat} {ws : List Str} (h : sc.wd n) (hm : n ≤ m) (hl : ws.length = (kindOf sc k).length) (hw : ∀ z ∈ ws, Wn m z) : (setKind sc ws k).wd m := by
  have w := (h.up hm).w
  have p := (h.up hm).p
  have names : ∀ z ∈ sc.names, Wn m z := fun z hz => w z (List.mem_append.mpr (.inl hz))
  have cps : ∀ z ∈ sc.ps, Wn m z := fun z hz => w z (List.mem_append.mpr (.inr (List.mem_append.mpr (.inl hz))))
  have cks : ∀ z ∈ sc.ss.map Srt.ky, Wn m z := fun z hz => w z (List.mem_append.mpr (.inr (List.mem_append.mpr (.inr (List.mem_append.mpr (.inl hz))))))
  have cvs : ∀ z ∈ sc.vs, Wn m z := fun z hz => w z (List.mem_append.mpr (.inr (List.mem_append.mpr (.inr (List.mem_append.mpr (.inr (List.mem_append.mpr (.inl hz))))))))
  have cms : ∀ z ∈ sc.ms, Wn m z := fun z hz => w z (List.mem_append.mpr (.inr (List.mem_append.mpr (.inr (List.mem_append.mpr (.inr (List.mem_append.mpr (.inr hz))))))))
  have mk : ∀ (ps vs ms : List Str), (∀ z ∈ ps, Wn m z) → (∀ z ∈ vs, Wn m z) → (∀ z ∈ ms, Wn m z) → ps.length ≤ 2 → vs.length ≤ 3 → ms.length ≤ 3 → (⟨sc.ss, ps, vs, ms⟩ : Sch).wd m := fun ps vs ms a b c l2 l3 l4 => ⟨fun z hz => by
    rcases List.mem_append.mp hz with y | y
    · exact names z y
    · rcases List.mem_append.mp y with y | y
      · exact a z y
      · rcases List.mem_append.mp y with y | y
        · exact cks z y
        · rcases List.mem_append.mp y with y | y
          · exact b z y
          · exact c z y, p, h.l0, h.l1, l2, l3, l4⟩
  match k, hl with
  | 0, hl => exact mk _ _ _ hw cvs cms (by rw [hl]; exact h.l2) h.l3 h.l4
  | 1, hl => exact mk _ _ _ cps hw cms h.l2 (by rw [hl]; exact h.l3) h.l4
  | k + 2, hl => exact mk _ _ _ cps cvs hw h.l2 h.l3 (by rw [hl]; exact h.l4)
theorem kind_wn {sc : Sch} {n k : Nat} (h : sc.wd n) : ∀ z ∈ kindOf sc k, Wn n z := by
  have w := h.w
  match k with
  | 0 => exact fun z hz => w z (List.mem_append.mpr (.inr (List.mem_append.mpr (.inl hz))))
  | 1 => exact fun z hz => w z (List.mem_append.mpr (.inr (List.mem_append.mpr (.inr (List.mem_append.mpr (.inr (List.mem_append.mpr (.inl hz))))))))
  | k + 2 => exact fun z hz => w z (List.mem_append.mpr (.inr (List.mem_append.mpr (.inr (List.mem_append.mpr (.inr (List.mem_append.mpr (.inr hz))))))))
theorem kind_len {sc : Sch} {n k : Nat} (h : sc.wd n) : (kindOf sc k).length ≤ 3 := by
  match k with
  | 0 => exact Nat.le_trans h.l2 (by decide)
  | 1 => exact h.l3
  | k + 2 => exact h.l4
theorem setKind_ss {sc : Sch} {ws : List Str} {k : Nat} : (setKind sc ws k).ss = sc.ss := by
  match k with
  | 0 => rfl
  | 1 => rfl
  | k + 2 => rfl
def spSpoil : Sp := fun vs H Q _ => ∃ (H0 : Hp) (d c r aS aK : Addr) (sc : Sch) (n : Nat), vs = [.ref d, .ref aS, .ref aK] ∧ SpB H0 H d c r aS aK sc ∧ sc.wd n ∧ 9 ≤ n ∧ n ≤ 90 ∧ ∀ (sc' : Sch) (H' : Hp), SpB H0 H' d c r aS aK sc' → sc'.wd (n + 4) → Q .non H'
theorem qq_Wn : ∀ z ∈ (["qq", "rows", ""] : List Str), (∀ c ∈ z.cps.toList, c < 128) ∧ z.length ≤ 9 := by decide +kernel

theorem lc_lsts {σ : L2.St} {H : Hp} {Q : VK} {te : TE} {K : PySem.W.Frag} {a : Addr} {xs : List V} {n : Nat} (f : V → List V) (hS : SqL K H a xs) (hz : xs.length ≤ 1000)
    (he : ∀ (x : V) (H' : Hp) (QQ : VK), x ∈ xs → Same H H' → (∀ u, H' u = none → QQ (.ref u) (upd H' u (.lst (f x)))) → te ((wipe σ [n]).set n (some x)) H' QQ)
    (hq : ∀ D (us : List Addr) H', H D = none → us.length = xs.length → us.Nodup → (∀ u ∈ us, H u = none ∧ u ≠ D) → H' D = some (.lst (us.map V.ref)) → (∀ (j : Nat) (u : Addr) (x : V), us[j]? = some u → xs[j]? = some x → H' u = some (.lst (f x))) → Same H H' → Q (.ref D) H') : lcGo (Itl K a) (gName n) tYes te [n] σ Q H := by
  intro D nD
  refine lc_list (K := K) (a := a) (xs := xs) (fun i H' => ∃ us : List Addr, us.length = i ∧ us.Nodup ∧ (∀ u ∈ us, H u = none ∧ u ≠ D) ∧ H' D = some (.lst (us.map V.ref)) ∧ (∀ (j : Nat) (u : Addr) (x : V), us[j]? = some u → xs[j]? = some x → H' u = some (.lst (f x))) ∧ Same H H') ⟨[], rfl, List.nodup_nil, fun u h => (by cases h), upd_same, fun j u x h => (by cases h), same_new nD⟩ (fun i H' _ ⟨_, _, _, _, _, _, s⟩ => s.seq hS) ?_ ?_
  · rintro i x H4 hx ⟨us, hl, hnd, hf, hD4, hu, s4⟩
    refine ⟨wipe1, ?_⟩
    show te _ _ _
    refine he x H4 _ (List.mem_of_getElem? hx) s4 fun u nu => ?_
    have uD : D ≠ u := ne_of_none hD4 nu
    have hD5 : (upd H4 u (.lst (f x))) D = some (.lst (us.map V.ref)) := (upd_ne uD).trans hD4
    have hi : i < xs.length := (List.getElem?_eq_some_iff.mp hx).1
    have nin : u ∉ us := fun hm => by
      obtain ⟨j, hj⟩ := List.getElem?_of_mem hm
      have hj' : j < us.length := (List.getElem?_eq_some_iff.mp hj).1
      have z := hu j u _ hj (List.getElem?_eq_getElem (show j < xs.length by omega))
      rw [nu] at z
      cases z
    refine ⟨_, hD5, small1000 (by rw [List.length_map, hl]; omega), us ++ [u], by rw [List.length_append, hl]; rfl, ?_, ?_, by rw [upd_same, List.map_append]; rfl, fun j v y h1 h2 => ?_, fun b o e => (upd_ne (ne_of_none e nD)).trans ((upd_ne (ne_of_none (s4 _ _ e) nu)).trans (s4 _ _ e))⟩
    · rw [List.nodup_append]
      exact ⟨hnd, (List.nodup_cons.mpr ⟨List.not_mem_nil, List.nodup_nil⟩), fun b hb c hc e => nin (by rw [← List.mem_singleton.mp hc, ← e]; exact hb)⟩
    · intro v hv
      rcases List.mem_append.mp hv with z | z
      · exact hf v z
      · rw [List.mem_singleton.mp z]
        exact ⟨s4.free nu, uD.symm⟩
    rcases Nat.lt_or_ge j us.length with hj | hj
    · rw [List.getElem?_append_left hj] at h1
      have z := hu j v y h1 h2
      have vm := List.mem_of_getElem? h1
      rw [upd_ne (hf v vm).2, upd_ne (ne_of_none z nu)]
      exact z
    · rw [List.getElem?_append_right hj] at h1
      cases hk : j - us.length with
      | zero =>
        rw [hk] at h1
        cases h1
        have : j = i := by omega
        rw [this, hx] at h2
        cases h2
        rw [upd_ne uD.symm]
        exact upd_same
      | succ m => rw [hk] at h1; cases h1
  · rintro H4 ⟨us, hl, hnd, hf, hD4, hu, s4⟩
    exact hq D us H4 nD hl hnd hf hD4 hu s4
/-- the items of the list or tuple at an address -/
def itemsOf (H : Hp) : V → List V
  | .ref u => match H u with
    | some (.lst xs) => xs
    | some (.tup xs) => xs
    | _ => []
  | _ => []
theorem items_tup {H : Hp} {u : Addr} {xs : List V} (h : H u = some (.tup xs)) : itemsOf H (.ref u) = xs := by simp only [itemsOf, h]
theorem items_lst {H : Hp} {u : Addr} {xs : List V} (h : H u = some (.lst xs)) : itemsOf H (.ref u) = xs := by simp only [itemsOf, h]
theorem MadeAt.same {H H' : Hp} {t : Addr} {sc : Sch} (h : MadeAt H t sc) (s : Same H H') : MadeAt H' t sc := by
  unfold MadeAt at *
  split at h
  · exact s _ _ h
  · obtain ⟨l, h1, h2⟩ := h
    exact ⟨l, s _ _ h1, s _ _ h2⟩
theorem dbl_mem : ∀ {seen ws : List Str} {w : Str}, dblFrom seen ws = some w → w ∈ ws
  | _, [], _, h => by cases h
  | seen, x :: r, w, h => by
    rw [dbl_cons] at h
    split at h
    · cases h; exact List.mem_cons_self
    · exact List.mem_cons_of_mem _ (dbl_mem h)
theorem bad_Wn {sc : Sch} {n : Nat} {w : Str} (h : sc.wd n) (e : sc.bad = some w) : Wn n w := by
  unfold Sch.bad at e
  cases e1 : badWord (sc.names ++ sc.cols) with
  | some z =>
    rw [e1] at e
    cases e
    exact h.w _ (List.mem_of_find?_eq_some e1)
  | none =>
    rw [e1] at e
    cases e2 : dblFrom [] sc.names with
    | some z =>
      rw [e2] at e
      cases e
      exact h.w _ (List.mem_append.mpr (.inl (dbl_mem e2)))
    | none =>
      rw [e2] at e
      cases e3 : dblFrom [] sc.cols with
      | some z =>
        rw [e3] at e
        cases e
        exact h.w _ (List.mem_append.mpr (.inr (dbl_mem e3)))
      | none =>
        rw [e3] at e
        have e : badPart sc.ps sc.ss = some w := e
        unfold badPart at e
        obtain ⟨x, hx, hp⟩ := Option.bind_eq_some_iff.mp e
        exact h.p x (List.mem_of_find?_eq_some hx) w hp
def madeD (ws : List Str) : PyData := .tuple [.str "made", .list ((ws.map V.str).map vD)]
theorem lay_made {ws : List Str} (h : ∀ w ∈ ws, PyData.strOk w = true) : (madeD ws).canLay0 = true := by
  show (PyData.strOk "made" && (PyData.canLayAll0 ((ws.map V.str).map vD) && true)) = true
  rw [lay_vD fun v hv => (by obtain ⟨w, hw, rfl⟩ := List.mem_map.mp hv; exact h w hw), show PyData.strOk ("made" : Str) = true by decide +kernel]
  rfl
theorem shaped_made {ws : List Str} (h : ∀ w ∈ ws, PyData.strOk w = true) : SeqAt.shaped (madeD ws) = true := by
  unfold SeqAt.shaped
  rw [lay_made h]
  show decide (max 0 (max (PyData.depthAll ((ws.map V.str).map vD) + 1) 0) + 1 ≤ 64) = true
  rw [depth_vD]
  rfl
theorem r_neM {K : PySem.W.Frag} {H : Hp} {Q : VK} {t t' : Addr} {sc : Sch} {n : Nat} (hw : sc.wd n) (h1 : MadeAt H t sc) (h2 : MadeAt H t' sc) (q : Q (.bl false) H) : rNeD K (.ref t) (.ref t') H Q := by
  unfold MadeAt at h1 h2
  cases e : sc.bad with
  | some w =>
    rw [e] at h1 h2
    have hs := (bad_Wn hw e).sok
    have ok : ∀ v ∈ [V.str "bad", .str w, .bl true], eqD v := fun v hv => by
      simp only [List.mem_cons, List.mem_nil_iff, or_false] at hv
      rcases hv with rfl | rfl | rfl
      · exact show PyData.strOk ("bad" : Str) = true by decide +kernel
      · exact hs
      · trivial
    refine ⟨tupD [.str "bad", .str w, .bl true], tupD [.str "bad", .str w, .bl true], .tup (SqT.of h1) (dpAll_vD ok), .tup (SqT.of h2) (dpAll_vD ok), shaped_tup ok, shaped_tup ok, ?_⟩
    rw [SeqAt.eqv_refl _ (show (tupD _).canLay0 = true from lay_vD ok)]
    exact q
  | none =>
    rw [e] at h1 h2
    obtain ⟨l, h1, hl⟩ := h1
    obtain ⟨l', h2, hl'⟩ := h2
    have hs : ∀ w ∈ sc.cols, PyData.strOk w = true := fun w z => (hw.w w (List.mem_append.mpr (.inr z))).sok
    have ok : ∀ v ∈ sc.cols.map V.str, eqD v := fun v hv => by obtain ⟨w, hw, rfl⟩ := List.mem_map.mp hv; exact hs w hw
    refine ⟨madeD sc.cols, madeD sc.cols, .tup (SqT.of h1) (.cons (.str _) (.cons (.lst (SqL.of hl) (dpAll_vD ok)) .nil)), .tup (SqT.of h2) (.cons (.str _) (.cons (.lst (SqL.of hl') (dpAll_vD ok)) .nil)), shaped_made hs, shaped_made hs, ?_⟩
    rw [SeqAt.eqv_refl _ (lay_made hs)]
    exact q
theorem three_of {α : Type} {us : List α} (h : us.length = 3) : ∃ a b c, us = [a, b, c] := by
  match us, h with
  | [a, b, c], _ => exact ⟨a, b, c, rfl⟩
theorem cut1_3 {a b c d : V} : cutV [a, b, c, d] (some 1) none = [b, c, d] := rfl
def spLaw (K : PySem.W.Frag) : Sp := fun vs H Q _ => ∃ (a : Addr) (ns : List Int), vs = [.ref a] ∧ SqL K H a (ns.map V.int) ∧ ns.length ≤ 63 ∧ ∀ H', Q (.bl true) H'

instance decSrt : DecidableEq Srt := fun a b => if h : a.nm = b.nm ∧ a.ky = b.ky ∧ a.pt = b.pt ∧ a.ds = b.ds then isTrue (by cases a; cases b; obtain ⟨h1, h2, h3, h4⟩ := h; cases h1; cases h2; cases h3; cases h4; rfl) else isFalse fun e => h (by rw [e]; exact ⟨rfl, rfl, rfl, rfl⟩)
instance decSch : DecidableEq Sch := fun a b => if h : a.ss = b.ss ∧ a.ps = b.ps ∧ a.vs = b.vs ∧ a.ms = b.ms then isTrue (by cases a; cases b; obtain ⟨h1, h2, h3, h4⟩ := h; cases h1; cases h2; cases h3; cases h4; rfl) else isFalse fun e => h (by rw [e]; exact ⟨rfl, rfl, rfl, rfl⟩)
theorem eqPt (a b : Option Str) : decide (partV a = partV b) = decide (a = b) := by
  rw [decide_eq_decide]
  cases a <;> cases b <;> simp [partV]
theorem scalPt (a b : Option Str) : scal (partV a) (partV b) = true := by cases a <;> cases b <;> rfl
theorem partV_inj {a b : Option Str} (h : partV a = partV b) : a = b := by
  cases a <;> cases b <;> first | rfl | (cases h; done) | (injection h with h; rw [h])
theorem srtF_inj {s t : Srt} (h : srtF s = srtF t) : s = t := by
  have h1 := (srt_name s).symm.trans ((congrArg _ h).trans (srt_name t))
  have h2 := (srt_key s).symm.trans ((congrArg _ h).trans (srt_key t))
  have h3 := (srt_part s).symm.trans ((congrArg _ h).trans (srt_part t))
  have h4 := (srt_desc s).symm.trans ((congrArg _ h).trans (srt_desc t))
  cases s
  cases t
  simp only [Option.some.injEq, V.str.injEq, V.bl.injEq] at h1 h2 h3 h4
  rw [h1, h2, partV_inj h3, h4]
theorem srt_ext {s t : Srt} (h1 : s.nm = t.nm) (h2 : s.ky = t.ky) (h3 : s.pt = t.pt) (h4 : s.ds = t.ds) : s = t := by
  cases s
  cases t
  cases h1
  cases h2
  cases h3
  cases h4
  rfl
theorem SortAt.fn {C : Addr} {H : Hp} {p : Addr} {s t : Srt} (h : SortAt C H p s) (k : SortAt C H p t) : s = t := by
  obtain ⟨dx, h⟩ := h
  obtain ⟨dy, k⟩ := k
  rw [h] at k
  injection k with k
  injection k with _ _ k
  exact srtF_inj k
open Classical in
noncomputable def eqAd (C : Addr) (H : Hp) (p q : Addr) : Bool := decide (∀ s t, SortAt C H p s → SortAt C H q t → s = t)
open Classical in
theorem eqAd_self (C : Addr) (H : Hp) (p : Addr) : eqAd C H p p = true := decide_eq_true fun _ _ h k => h.fn k
open Classical in
theorem eqAd_at {C : Addr} {H : Hp} {p q : Addr} {s t : Srt} (h : SortAt C H p s) (k : SortAt C H q t) : eqAd C H p q = decide (s = t) := by
  unfold eqAd
  rw [Bool.eq_iff_iff, decide_eq_true_eq, decide_eq_true_eq]
  exact ⟨fun z => z s t h k, fun z s' t' h' k' => (h'.fn h).trans (z.trans (k.fn k'))⟩
theorem All2.uncons {α β : Type} {P : α → β → Prop} {a : α} {b : β} {as : List α} {bs : List β} (h : All2 P (a :: as) (b :: bs)) : P a b ∧ All2 P as bs := ⟨h.at_ 0 a b rfl rfl, Nat.succ.inj h.len, fun j x y h1 h2 => h.at_ (j + 1) x y h1 h2⟩
theorem eqP_dec {C : Addr} {H : Hp} : ∀ {as bs : List Addr} {ss ts : List Srt}, All2 (SortAt C H) as ss → All2 (SortAt C H) bs ts → TC.eqP (eqAd C H) as bs = decide (ss = ts)
  | [], [], [], [], _, _ => rfl
  | [], b :: bs, [], t :: ts, _, _ => by rw [decide_eq_false fun z => nomatch z]; rfl
  | a :: as, [], s :: ss, [], _, _ => by rw [decide_eq_false fun z => nomatch z]; rfl
  | a :: as, b :: bs, s :: ss, t :: ts, h, k => by
    show (eqAd C H a b && TC.eqP (eqAd C H) as bs) = _
    rw [eqAd_at h.uncons.1 k.uncons.1, eqP_dec h.uncons.2 k.uncons.2, Bool.eq_iff_iff, Bool.and_eq_true, decide_eq_true_eq, decide_eq_true_eq, decide_eq_true_eq, List.cons.injEq]
  | [], _, _ :: _, _, h, _ => by cases h.len
  | _ :: _, _, [], _, h, _ => by cases h.len
  | _, [], _, _ :: _, _, k => by cases k.len
  | _, _ :: _, _, [], _, k => by cases k.len
def spSortEq (K : PySem.W.Frag) (C : Addr) : Sp := fun vs H Q _ => ∃ (p : Addr) (s : Srt) (v : V), vs = [.ref p, v] ∧ SortAt C H p s ∧
  ((∃ (q : Addr) (s' : Srt), v = .ref q ∧ SortAt C H q s' ∧ Q (.bl (decide (s = s'))) H) ∨ (∃ t, TyX K H v t ∧ PySem.W.kitOne K t (.ref C) = some false ∧ Q (.bl false) H))
def spSchEq (K : PySem.W.Frag) (CC CS : Addr) : Sp := fun vs H Q _ => ∃ (p : Addr) (s : Sch) (v : V), vs = [.ref p, v] ∧ SchAt K CC CS H p s ∧ s.good ∧
  ((∃ (q : Addr) (s' : Sch), v = .ref q ∧ SchAt K CC CS H q s' ∧ s'.good ∧ Q (.bl (decide (s = s'))) H) ∨ (∃ t, TyX K H v t ∧ PySem.W.kitOne K t (.ref CC) = some false ∧ Q (.bl false) H))
def spUSInit (C : Addr) : Sp := fun vs H Q _ => ∃ (a : Addr) (z : Str), vs = [.ref a, .str z] ∧ H a = some (exo a C none) ∧
  ∀ (dx : Addr) (H' : Hp), H dx = none → H' a = some (exo a C (some dx)) → H' dx = some (exd dx [("name", .str z)]) → (∀ b o, H b = some o → b ≠ a → H' b = some o) → Q .non H'
def findS (sc : Sch) (w : Str) : Option Srt := sc.ss.find? fun s => decide (s.nm = w)
def spNamed (K : PySem.W.Frag) (CC CS CU : Addr) : Sp := fun vs H Q E => ∃ (p : Addr) (s : Sch) (w : Str), vs = [.ref p, .str w] ∧ SchAt K CC CS H p s ∧
  (findS s w = none → ∀ (d : Addr) (H' : Hp), H d = none → H' d = some (.xd [("name", .str w)]) → Same H H' → E (.ref CU) (some d) H') ∧ (∀ x, findS s w = some x → ∀ q, SortAt CS H q x → Q (.ref q) H)
def spSortL (CS : Addr) : Sp := fun vs H Q _ => ∃ (t : Addr) (s : Srt), vs = [.ref t] ∧ H t = some (.tup (srtV s)) ∧ ∀ q H', H q = none → Same H H' → SortAt CS H' q s → Q (.ref q) H'
theorem strs_eqD {ws : List Str} (h : ∀ w ∈ ws, isNameB w = true) : ∀ v ∈ ws.map V.str, eqD v := fun v hv => by
  obtain ⟨w, hw, rfl⟩ := List.mem_map.mp hv
  exact isName_sok (h w hw)
theorem strs_kind {ws zs : List Str} : ∀ p ∈ (ws.map V.str).zip (zs.map V.str), sameKind p.1 p.2 = true := fun p hp => by
  obtain ⟨h1, h2⟩ := List.of_mem_zip (show (p.1, p.2) ∈ _ from hp)
  obtain ⟨w, _, e1⟩ := List.mem_map.mp h1
  obtain ⟨z, _, e2⟩ := List.mem_map.mp h2
  rw [← e1, ← e2]
  rfl
theorem strs_inj {ws zs : List Str} : (ws.map V.str = zs.map V.str) ↔ ws = zs := List.map_inj_right fun a b e => V.str.inj e
theorem Sch.good.wps {s : Sch} (h : s.good) : ∀ w ∈ s.ps, isNameB w = true := fun w z => h.w w (List.mem_append.mpr (.inr (List.mem_append.mpr (.inl z))))
theorem Sch.good.wks {s : Sch} (h : s.good) : ∀ x ∈ s.ss, isNameB x.ky = true := fun x z => h.w _ (List.mem_append.mpr (.inr (List.mem_append.mpr (.inr (List.mem_append.mpr (.inl (List.mem_map.mpr ⟨x, z, rfl⟩)))))))
theorem Sch.good.wns {s : Sch} (h : s.good) : ∀ x ∈ s.ss, isNameB x.nm = true := fun x z => h.w _ (List.mem_append.mpr (.inl (List.mem_map.mpr ⟨x, z, rfl⟩)))
theorem Sch.good.wvs {s : Sch} (h : s.good) : ∀ w ∈ s.vs, isNameB w = true := fun w z => h.w w (List.mem_append.mpr (.inr (List.mem_append.mpr (.inr (List.mem_append.mpr (.inr (List.mem_append.mpr (.inl z))))))))
theorem Sch.good.wms {s : Sch} (h : s.good) : ∀ w ∈ s.ms, isNameB w = true := fun w z => h.w w (List.mem_append.mpr (.inr (List.mem_append.mpr (.inr (List.mem_append.mpr (.inr (List.mem_append.mpr (.inr z))))))))
theorem Sch.good.wcs {s : Sch} (h : s.good) : ∀ w ∈ s.cols, isNameB w = true := fun w z => h.w w (List.mem_append.mpr (.inr z))
theorem Sch.good.wnm {s : Sch} (h : s.good) : ∀ w ∈ s.names, isNameB w = true := fun w z => h.w w (List.mem_append.mpr (.inl z))
theorem SpecAt.same {H H' : Hp} {p : Addr} {sc : Sch} (h : SpecAt H p sc) (s : Same H H') : SpecAt H' p sc := by
  obtain ⟨aS, aP, aV, aM, ts, h0, h1, h2, h3, h4, h5⟩ := h
  exact ⟨aS, aP, aV, aM, ts, s _ _ h0, s _ _ h1, h2.imp fun _ _ z => s _ _ z, s _ _ h3, s _ _ h4, s _ _ h5⟩
theorem SpecAt.ext {H H' : Hp} {p d c r : Addr} {sc : Sch} (h : SpecAt H p sc) (D : Drw H d c r) (e : Ext d r H H') : SpecAt H' p sc := by
  obtain ⟨aS, aP, aV, aM, ts, h0, h1, h2, h3, h4, h5⟩ := h
  have h0' : H p = some (.lst ([aS, aP, aV, aM].map V.ref)) := h0
  exact ⟨aS, aP, aV, aM, ts, e _ _ h0 (refs_drc D h0').1 (refs_drc D h0').2.1, e _ _ h1 (refs_drc D h1).1 (refs_drc D h1).2.1, h2.imp fun _ _ z => e _ _ z (tup_dr D z).1 (tup_dr D z).2, e _ _ h3 (strs_dr D h3).1 (strs_dr D h3).2, e _ _ h4 (strs_dr D h4).1 (strs_dr D h4).2, e _ _ h5 (strs_dr D h5).1 (strs_dr D h5).2⟩
def spColsS : Sp := fun vs H Q _ => ∃ (p : Addr) (sc : Sch), vs = [.ref p] ∧ SpecAt H p sc ∧ sc.good ∧ ∀ l H', H l = none → Same H H' → H' l = some (.lst (sc.cols.map V.str)) → Q (.ref l) H'
/-- the item of the tuple at an address -/
def idxT (H : Hp) (j : Nat) : V → V
  | .ref u => match H u with
    | some (.tup xs) => xs.getD j .non
    | _ => .non
  | _ => .non
theorem idxT_at {H : Hp} {j : Nat} {u : Addr} {xs : List V} {v : V} (h : H u = some (.tup xs)) (e : xs[j]? = some v) : idxT H j (.ref u) = v := by
  simp only [idxT, h]
  rw [List.getD_eq_getElem?_getD, e]
  rfl
theorem make_sortD {C : Addr} {H : Hp} {F : Addr → Hp → Prop} {E : XK} {sr : Srt} (h : ∀ x H', H x = none → Same H H' → SortAt C H' x sr → F x H') :
    ∀ x dx, H x = none → H dx = none → dx ≠ x → spSortInit C [.ref x, .str sr.nm, .str sr.ky, partV sr.pt, .bl sr.ds] (upd (upd H dx (.own x)) x (.ins C dx [])) (fun v H2 => v = .non ∧ F x H2) E :=
  fun x dx nx nd _ => ⟨x, dx, sr, rfl, upd_same, fun H' ho hk => ⟨rfl, h x H' nx (same_make nx nd hk) ho⟩⟩
section
variable {P : Program} {w : World} {K : PySem.W.Frag} {mg : Str → Option Value} {base : Heap}

theorem r_sdesc {H : Hp} {p : Addr} {sr : Srt} {F : V → Prop} (T : Txt K mg) (o : SortAt T.C_Sort H p sr) (h : F (.bl sr.ds)) : ∃ a C dx fs v, V.ref p = .ref a ∧ H a = some (.ins C dx fs) ∧ Cls K C ∧ NoAttr K C "descending" ∧ fs.lookup ("descending" : Str) = some v ∧ F v := by
  obtain ⟨dx, e⟩ := o
  exact r_get e T.c_Sort T.nf_Sort_descending (srt_desc sr) h
theorem sort_ty (T : Txt K mg) {H : Hp} {p : Addr} {sr : Srt} (h : SortAt T.C_Sort H p sr) : TyX K H (.ref p) (.ref T.C_Sort) := by
  obtain ⟨dx, e⟩ := h
  exact .base (.ins e T.c_Sort T.ca_Sort T.cn_Sort T.ct_Sort T.cm_Sort)
theorem sch_ty (T : Txt K mg) {H : Hp} {p : Addr} {sc : Sch} (h : SchAt K T.C_Scheme T.C_Sort H p sc) : TyX K H (.ref p) (.ref T.C_Scheme) := by
  obtain ⟨dx, tS, tP, tV, tM, as, e, _⟩ := h
  exact .base (.ins e T.c_Scheme T.ca_Scheme T.cn_Scheme T.ct_Scheme T.cm_Scheme)
theorem ok_Sort___eq__ (T : Txt K mg) : FnOk P w K mg base CX0 1 T.f_Sort___eq__ T.d_Sort___eq__ ["self", "other"] (spSortEq K T.C_Sort) := by
  refine T.F_Sort___eq__.ok sc_Sort___eq__ (fun vs H Q E h => ?_) (fun cdv A outer s H vs Q E hr h => ?_)
  · obtain ⟨p, sr, v, rfl, _⟩ := h
    rfl
  obtain ⟨p, sr, v, rfl, o, q⟩ := h
  refine ⟨_, (pss_cons (ps_if (PW.pt (pw_or (pt_not (pt_val (pe_callB call_isi (by rfl) T.z_isinstance (by decide +kernel) (pa_cons (pv 1) (pa_cons (pe_glob (v := .ref T.C_Sort) rfl T.g_Sort rfl) pa_nil))))) (pw_or (pt_cmpR op_ne (pe_fldK (K := K) (pv 0)) (pe_fldK (K := K) (pv 1)) (nomark _)) (pw_or1 (pt_cmpR op_ne (pe_fldK (K := K) (pv 0)) (pe_fldK (K := K) (pv 1)) (nomark _)))))) (pss_one (ps_ret pe_bl)) pss_nil)
      (pss_one (ps_ret (pe_and (pe_cmpR op_eq (pe_fldK (K := K) (pv 0)) (pe_fldK (K := K) (pv 1)) (nomark _)) (pe_one (pe_cmpR op_eq (pe_fldK (K := K) (pv 0)) (pe_fldK (K := K) (pv 1)) (nomark _))))))), ?_⟩
  try simp only [nox_K, cx_K]
  rcases q with ⟨p2, sr', rfl, o2, q⟩ | ⟨t, ty, hk, q⟩
  · wtm_at "rd"
    refine r_isi (.own _) (sort_ty T o2) kit_self ?_
    wtm_at "rdi"
    refine r_sname T o ?_
    wtm_at "rd"
    refine r_sname T o2 ?_
    wtm_at "rd"
    refine r_iten (fun e1 => ?_) (fun e1 => ?_)
    · wtm_at "rdi"
      exact bl_to q (by rw [decide_eq_false fun z => e1 (congrArg Srt.nm z)])
    wtm_at "rd"
    refine r_skey T o ?_
    wtm_at "rd"
    refine r_skey T o2 ?_
    wtm_at "rd"
    refine r_iten (fun e2 => ?_) (fun e2 => ?_)
    · wtm_at "rdi"
      exact bl_to q (by rw [decide_eq_false fun z => e2 (congrArg Srt.ky z)])
    wtm_at "rd"
    refine r_spart T o ?_
    wtm_at "rd"
    refine r_spart T o2 ?_
    wtm_at "rd"
    refine ⟨scalPt _ _, ?_⟩
    rw [eqPt]
    wtm_at "rd"
    refine r_ite (fun e3 => ?_) (fun e3 => ?_)
    · wtm_at "rd"
      refine r_sdesc T o ?_
      wtm_at "rd"
      refine r_sdesc T o2 ?_
      wtm_at "rd"
      refine bl_to q ?_
      rw [Bool.eq_iff_iff, beq_iff_eq, decide_eq_true_eq]
      exact ⟨fun z => srt_ext e1 e2 e3 z, fun z => congrArg Srt.ds z⟩
    · exact bl_to q (by rw [decide_eq_false fun z => e3 (congrArg Srt.pt z)])
  · wtm_at "rd"
    refine r_isi (.own _) ty hk ?_
    wtm_at "rdi"
    exact q

theorem raise_name {C : Addr} {z : Str} {H : Hp} {Q : XK} (h : ∀ (d : Addr) (H' : Hp), H d = none → H' d = some (.xd [("name", .str z)]) → Same H H' → Q (.ref C) (some d) H') :
    ∀ a, H a = none → spUSInit C (.ref a :: ([V.str z] ++ [])) (upd H a (exo a C none)) (fun v H2 => v = .non ∧ ∃ (d : Addr) (fs : List (Str × V)), H2 a = some (exo a C (some d)) ∧ H2 d = some (exd d fs) ∧ H d = none ∧ Q (.ref C) (some d) (upd (del H2 a) d (.xd fs))) (fun _ _ _ => False) := by
  intro a na
  refine ⟨a, z, rfl, upd_same, fun dx H' nd ha hd hk => ⟨rfl, dx, _, ha, hd, (same_new na).free nd, ?_⟩⟩
  refine h dx _ ((same_new na).free nd) upd_same fun b o e => ?_
  have nb : b ≠ a := ne_of_none e na
  rw [upd_ne (ne_of_none e ((same_new na).free nd)), del_ne nb]
  exact hk b o (by rw [upd_ne nb]; exact e) nb
theorem ok_UnknownSort___init__ (T : Txt K mg) : FnOk P w K mg base CX0 1 T.f_UnknownSort___init__ T.d_UnknownSort___init__ ["self", "name"] (spUSInit T.C_UnknownSort) := by
  refine T.F_UnknownSort___init__.ok sc_UnknownSort___init__ (fun vs H Q E h => ?_) (fun cdv A outer s H vs Q E hr h => ?_)
  · obtain ⟨a, z, rfl, _⟩ := h
    rfl
  obtain ⟨a, z, rfl, ha, q⟩ := h
  refine ⟨_, (pss_one (ps_ost (pv 0) (pv 1))), ?_⟩
  try simp only [nox_K, cx_K]
  wtm_at "rd"
  refine ⟨a, _, rfl, T.ox_UnknownSort, T.nf_UnknownSort_name, .inl ⟨ha, fun dx nd ne => ?_⟩⟩
  wtm_at "rd"
  refine q dx _ nd upd_same ?_ fun b o e nb => ?_
  · rw [upd_ne ne, upd_same]
  · rw [upd_ne nb, upd_ne (ne_of_none e nd)]
    exact e
theorem ok_Scheme_sort_named (T : Txt K mg) : FnOk P w K mg base (L2.CX P w) 3 T.f_Scheme_sort_named T.d_Scheme_sort_named ["self", "name"] (spNamed K T.C_Scheme T.C_Sort T.C_UnknownSort) := by
  refine T.F_Scheme_sort_named.okX sc_Scheme_sort_named (fun vs H Q E h => ?_) (fun cdv A outer s H vs Q E hr h => ?_)
  · obtain ⟨p, sc, w, rfl, _⟩ := h
    rfl
  obtain ⟨p, sc, w, rfl, o, qE, q⟩ := h
  refine ⟨_, (pss_cons (ps_for (passes_of rfl) rfl (pi_tup (pe_fldK (K := K) (pv 0))) (pg_name (i := 2) sc_Scheme_sort_named.nd rfl (by first | exact Or.inl rfl | exact Or.inr rfl)) (pss_one (ps_if (pt_cmpR op_eq (pe_fldK (K := K) (pv 2)) (pv 1) (nomark _)) (pss_one (ps_ret (pv 2))) pss_nil)))
      (pss_one (ps_raise rfl (takes_of rfl rfl rfl rfl) (pmk_oex T.ox_UnknownSort T.iC_UnknownSort T.tI_UnknownSort (ok_UnknownSort___init__ T) (hr.mono (by decide)) T.b_UnknownSort___init__ .nil pass0 (by rfl) T.g_UnknownSort (pa_cons (pv 1) pa_nil))))), ?_⟩
  try simp only [nox_K, cx_K]
  obtain ⟨dx, tS, tP, tV, tM, as, e, hS, hA, hP, hV, hM⟩ := o
  wtm_at "rd"
  refine r_for (r_it ?_)
  wtm_at "rd"
  refine r_get e T.c_Scheme T.nf_Scheme_sorts (sch_sorts _ _ _ _) ?_
  refine r_itt hS ?_
  refine for_tup (K := K) (a := tS) (xs := as.map V.ref) (fun i σ H' => ∃ (y2 : Option V), σ = [some (.ref p), some (.str w), y2] ∧ H' = H ∧ ∀ sr ∈ sc.ss.take i, decide (sr.nm = w) = false) ⟨_, rfl, rfl, fun w z => (by rw [List.take_zero] at z; cases z)⟩ (fun i σ H' _ ⟨_, _, z, _⟩ => by subst z; exact hS) ?_ ?_
  · rintro i v σ H7 hv ⟨y2, rfl, rfl, hall⟩
    rw [List.getElem?_map] at hv
    obtain ⟨a, ha, rfl⟩ := Option.map_eq_some_iff.mp hv
    obtain ⟨sr, hsr, oa⟩ := hA.get ha
    wtm_at "rd"
    refine r_sname T oa ?_
    wtm_at "rd"
    refine r_ite (fun e1 => ?_) (fun e1 => ?_)
    · wtm_at "rd"
      exact q sr (find_take hall hsr (decide_eq_true e1)) a oa
    · wtm_at "rd"
      refine ⟨_, rfl, rfl, fun y hy => ?_⟩
      rcases take_snoc hsr hy with c | c
      · exact hall y c
      · rw [c]; exact decide_eq_false e1
  · rintro σ H7 ⟨y2, rfl, rfl, hall⟩
    rw [List.length_map, hA.len, List.take_length] at hall
    wtm_at "rd"
    refine ⟨.str w, rfl, Nat.le_of_ble_eq_true rfl, raise_name fun d H' nd hd s => ?_⟩
    exact qE (List.find?_eq_none.mpr fun y hy => by rw [hall y hy]; exact Bool.false_ne_true) d H' nd hd s
theorem ok_Scheme___eq__ (T : Txt K mg) : FnOk P w K mg base CX0 3 T.f_Scheme___eq__ T.d_Scheme___eq__ ["self", "other"] (spSchEq K T.C_Scheme T.C_Sort) := by
  refine T.F_Scheme___eq__.ok sc_Scheme___eq__ (fun vs H Q E h => ?_) (fun cdv A outer s H vs Q E hr h => ?_)
  · obtain ⟨p, sc, v, rfl, _⟩ := h
    rfl
  obtain ⟨p, sc, v, rfl, o, hg, q⟩ := h
  refine ⟨_, (pss_cons (ps_if (PW.pt (pw_or (pt_not (pt_val (pe_callB call_isi (by rfl) T.z_isinstance (by decide +kernel) (pa_cons (pv 1) (pa_cons (pe_glob (v := .ref T.C_Scheme) rfl T.g_Scheme rfl) pa_nil))))) (pw_or1 (pt_cmpR (TC.op_neTO T.mt_Sort___eq__.at_ T.mt_Sort___eq__.fn (ok_Sort___eq__ T) (hr.mono (by decide)) T.b_Sort___eq__ pass0) (pe_fldK (K := K) (pv 0)) (pe_fldK (K := K) (pv 1)) (nomark _))))) (pss_one (ps_ret pe_bl)) pss_nil)
      (pss_cons (ps_if (PW.pt (pw_or (pt_cmpR (op_neD hr.units) (pe_fldK (K := K) (pv 0)) (pe_fldK (K := K) (pv 1)) (nomark _)) (pw_or1 (pt_cmpR (op_neD hr.units) (pe_fldK (K := K) (pv 0)) (pe_fldK (K := K) (pv 1)) (nomark _))))) (pss_one (ps_ret pe_bl)) pss_nil)
      (pss_one (ps_ret (pe_cmpR (op_eqD hr.units) (pe_fldK (K := K) (pv 0)) (pe_fldK (K := K) (pv 1)) (nomark _)))))), ?_⟩
  try simp only [nox_K, cx_K]
  rcases q with ⟨p2, sd, rfl, o2, hg2, q⟩ | ⟨t, ty, hk, q⟩
  · wtm_at "rd"
    refine r_isi (.own _) (sch_ty T o2) kit_self ?_
    obtain ⟨dx, tS, tP, tV, tM, as, e, hS, hA, hP, hV, hM⟩ := o
    obtain ⟨dx2, tS2, tP2, tV2, tM2, as2, e2, hS2, hA2, hP2, hV2, hM2⟩ := o2
    wtm_at "rdi"
    refine r_get e T.c_Scheme T.nf_Scheme_sorts (sch_sorts _ _ _ _) ?_
    wtm_at "rd"
    refine r_get e2 T.c_Scheme T.nf_Scheme_sorts (sch_sorts _ _ _ _) ?_
    wtm_at "rd"
    refine ⟨tS, tS2, as, as2, eqAd T.C_Sort H, rfl, rfl, hS, hS2, eqAd_self _ _, fun x hx y hy => ?_, ?_⟩
    · obtain ⟨j, hj⟩ := List.getElem?_of_mem hx
      obtain ⟨i, hi⟩ := List.getElem?_of_mem hy
      obtain ⟨s1, _, o1⟩ := hA.get hj
      obtain ⟨s2, _, o2⟩ := hA2.get hi
      obtain ⟨d1, z1⟩ := id o1
      obtain ⟨d2, z2⟩ := id o2
      exact ⟨⟨_, _, z1⟩, ⟨_, _, z2⟩, x, s1, .ref y, rfl, o1, .inl ⟨y, s2, rfl, o2, by rw [eqAd_at o1 o2], rfl⟩⟩
    rw [eqP_dec hA hA2]
    wtm_at "rd"
    refine r_iten (fun e3 => ?_) (fun e3 => ?_)
    · wtm_at "rdi"
      exact bl_to q (by rw [decide_eq_false fun z => e3 (congrArg Sch.ss z)])
    wtm_at "rd"
    refine r_get e T.c_Scheme T.nf_Scheme_part_columns (sch_parts _ _ _ _) ?_
    wtm_at "rd"
    refine r_get e2 T.c_Scheme T.nf_Scheme_part_columns (sch_parts _ _ _ _) ?_
    refine r_neTT hP hP2 (strs_eqD hg.wps) (strs_eqD hg2.wps) strs_kind ?_
    wtm_at "rd"
    refine r_iten (fun e4 => ?_) (fun e4 => ?_)
    · wtm_at "rdi"
      exact bl_to q (by rw [decide_eq_false fun z => e4 (strs_inj.mpr (congrArg Sch.ps z))])
    wtm_at "rd"
    refine r_get e T.c_Scheme T.nf_Scheme_value_columns (sch_values _ _ _ _) ?_
    wtm_at "rd"
    refine r_get e2 T.c_Scheme T.nf_Scheme_value_columns (sch_values _ _ _ _) ?_
    refine r_neTT hV hV2 (strs_eqD hg.wvs) (strs_eqD hg2.wvs) strs_kind ?_
    wtm_at "rd"
    refine r_iten (fun e5 => ?_) (fun e5 => ?_)
    · wtm_at "rdi"
      exact bl_to q (by rw [decide_eq_false fun z => e5 (strs_inj.mpr (congrArg Sch.vs z))])
    wtm_at "rd"
    refine r_get e T.c_Scheme T.nf_Scheme_mark_columns (sch_marks _ _ _ _) ?_
    wtm_at "rd"
    refine r_get e2 T.c_Scheme T.nf_Scheme_mark_columns (sch_marks _ _ _ _) ?_
    refine r_eqTT hM hM2 (strs_eqD hg.wms) (strs_eqD hg2.wms) strs_kind ?_
    refine bl_to q ?_
    rw [decide_eq_decide]
    refine ⟨fun z => ?_, fun z => strs_inj.mpr (congrArg Sch.ms z)⟩
    cases sc
    cases sd
    cases e3
    cases strs_inj.mp e4
    cases strs_inj.mp e5
    cases strs_inj.mp z
    rfl
  · wtm_at "rd"
    refine r_isi (.own _) ty hk ?_
    wtm_at "rdi"
    exact q
theorem ok__law_sort (T : Txt K mg) : FnOk P w K mg base CX0 3 T.f__law_sort T.d__law_sort ["_law_one"] (spSortL T.C_Sort) := by
  refine T.F__law_sort.ok sc__law_sort (fun vs H Q E h => ?_) (fun cdv A outer s H vs Q E hr h => ?_)
  · obtain ⟨t, sr, rfl, _⟩ := h
    rfl
  obtain ⟨t, sr, rfl, ht, q⟩ := h
  refine ⟨_, (pss_cons (ps_if (PW.pt (pw_and (pt_cmpR o_isN (pe_ix (r := rIxT K) ix_tup (pv 0) pe_int (fun _ _ => rfl)) pe_non (nomark _)) (pw_and1 (pt_not (pt_val (pe_ix (r := rIxT K) ix_tup (pv 0) pe_int (fun _ _ => rfl))))))) (pss_one (ps_ret (pe_make T.m_Sort (ok_Sort___init__ T) (hr.mono (by decide)) (by rfl) T.g_Sort T.bd_Sort___init__ T.rds_Sort___init__ pass0 (pa_cons (pe_ix (r := rIxT K) ix_tup (pv 0) pe_int (fun _ _ => rfl)) (pa_cons (pe_ix (r := rIxT K) ix_tup (pv 0) pe_int (fun _ _ => rfl)) pa_nil))))) pss_nil)
      (pss_cons (ps_if (pt_cmpR o_isN (pe_ix (r := rIxT K) ix_tup (pv 0) pe_int (fun _ _ => rfl)) pe_non (nomark _)) (pss_one (ps_ret (pe_makeN T.m_Sort (ok_Sort___init__ T) (hr.mono (by decide)) (by rfl) T.g_Sort T.kn_Sort___init___D pass0 (pa_cons (pe_ix (r := rIxT K) ix_tup (pv 0) pe_int (fun _ _ => rfl)) (pa_cons (pe_ix (r := rIxT K) ix_tup (pv 0) pe_int (fun _ _ => rfl)) pa_nil)) (pk_cons (pe_ix (r := rIxT K) ix_tup (pv 0) pe_int (fun _ _ => rfl)) pk_nil)))) pss_nil)
      (pss_cons (ps_if (pt_not (pt_val (pe_ix (r := rIxT K) ix_tup (pv 0) pe_int (fun _ _ => rfl)))) (pss_one (ps_ret (pe_makeN T.m_Sort (ok_Sort___init__ T) (hr.mono (by decide)) (by rfl) T.g_Sort T.kn_Sort___init___P pass0 (pa_cons (pe_ix (r := rIxT K) ix_tup (pv 0) pe_int (fun _ _ => rfl)) (pa_cons (pe_ix (r := rIxT K) ix_tup (pv 0) pe_int (fun _ _ => rfl)) pa_nil)) (pk_cons (pe_ix (r := rIxT K) ix_tup (pv 0) pe_int (fun _ _ => rfl)) pk_nil)))) pss_nil)
      (pss_one (ps_ret (pe_makeN T.m_Sort (ok_Sort___init__ T) (hr.mono (by decide)) (by rfl) T.g_Sort T.kn_Sort___init___DP pass0 (pa_cons (pe_ix (r := rIxT K) ix_tup (pv 0) pe_int (fun _ _ => rfl)) (pa_cons (pe_ix (r := rIxT K) ix_tup (pv 0) pe_int (fun _ _ => rfl)) pa_nil)) (pk_cons pe_bl (pk_cons (pe_ix (r := rIxT K) ix_tup (pv 0) pe_int (fun _ _ => rfl)) pk_nil)))))))), ?_⟩
  try simp only [nox_K, cx_K]
  obtain ⟨nm, ky, pt, ds⟩ := sr
  cases pt with
  | none =>
    have ht : H t = some (.tup [.str nm, .str ky, .non, .bl ds]) := ht
    cases ds with
    | false =>
      wtm_at "rdi"
      exact make_sortD (sr := ⟨nm, ky, none, false⟩) fun x H' nx s o => q x H' nx s o
    | true =>
      wtm_at "rdi"
      exact ⟨rfl, rfl, make_sortD (sr := ⟨nm, ky, none, true⟩) fun x H' nx s o => q x H' nx s o⟩
  | some z =>
    have ht : H t = some (.tup [.str nm, .str ky, .str z, .bl ds]) := ht
    wtm_at "rd"
    refine ⟨rfl, ?_⟩
    rw [decide_eq_false (fun z => nomatch z)]
    wtm_at "rdi"
    refine ⟨rfl, ?_⟩
    rw [decide_eq_false (fun z => nomatch z)]
    cases ds with
    | false =>
      wtm_at "rdi"
      exact ⟨rfl, rfl, make_sortD (sr := ⟨nm, ky, some z, false⟩) fun x H' nx s o => q x H' nx s o⟩
    | true =>
      wtm_at "rdi"
      exact ⟨rfl, rfl, make_sortD (sr := ⟨nm, ky, some z, true⟩) fun x H' nx s o => q x H' nx s o⟩
theorem ok__law_columns (T : Txt K mg) : FnOk P w K mg base CX0 1 T.f__law_columns T.d__law_columns ["_law_spec_here"] spColsS := by
  refine T.F__law_columns.ok sc__law_columns (fun vs H Q E h => ?_) (fun cdv A outer s H vs Q E hr h => ?_)
  · obtain ⟨p, sc, rfl, _⟩ := h
    rfl
  obtain ⟨p, sc, rfl, o, hg, q⟩ := h
  refine ⟨_, (pss_one (ps_ret (pe_op op_cat (pe_op op_cat (pe_op op_cat (pe_callTy c_listA (by rfl) T.z_list (by decide +kernel) (pa_cons (pe_ix (r := rIxL K) ix_list (pv 0) pe_int (fun _ _ => rfl)) pa_nil)) (pe_lc (own := [("_law_one", 1)]) (g := gName 1) (tt := tYes) rfl sc__law_columns.nd (pi_list (pe_ix (r := rIxL K) ix_list (pv 0) pe_int (fun _ _ => rfl))) (blkOk_by (N := ["_law_spec_here", "_law_one"]) (sc := defScope s__law_columns) (by decide +kernel)) (fun _ _ _ _ _ => pg_name (i := 1) sc__law_columns.nd rfl (by first | exact Or.inl rfl | exact Or.inr rfl)) (fun _ _ _ _ _ => pts_nil) (fun _ _ _ _ _ => (pe_ix (r := rIxT K) ix_tup (pv 1) pe_int (fun _ _ => rfl))))) (pe_callTy c_listA (by rfl) T.z_list (by decide +kernel) (pa_cons (pe_ix (r := rIxL K) ix_list (pv 0) pe_int (fun _ _ => rfl)) pa_nil))) (pe_callTy c_listA (by rfl) T.z_list (by decide +kernel) (pa_cons (pe_ix (r := rIxL K) ix_list (pv 0) pe_int (fun _ _ => rfl)) pa_nil))))), ?_⟩
  try simp only [nox_K, cx_K]
  obtain ⟨aS, aP, aV, aM, ts, h0, h1, h2, h4, h5, h6⟩ := o
  have l1 := hg.l1
  have l2 := hg.l2
  have l3 := hg.l3
  have l4 := hg.l4
  wtm_at "rd"
  refine r_listA (.inl (SqL.of h4)) fun bP n_bP => ?_
  generalize eq_bP : upd _ bP _ = G1
  have s_bP : Same _ G1 := eq_bP ▸ same_new n_bP
  have h_bP : G1 bP = some _ := eq_bP ▸ upd_same
  clear eq_bP
  have h0 := s_bP _ _ h0
  have h1 := s_bP _ _ h1
  have h4 := s_bP _ _ h4
  have h5 := s_bP _ _ h5
  have h6 := s_bP _ _ h6
  have h2 := h2.imp fun _ _ z => s_bP _ _ z
  wtm_at "rd"
  refine r_itl (SqL.of h1) ?_
  refine lc_map (idxT G1 1) (SqL.of h1) (by rw [List.length_map, h2.len]; omega) (fun v H' QQ hv s' hQ => ?_) fun l n_l => ?_
  · obtain ⟨t, ht, rfl⟩ := List.mem_map.mp hv
    obtain ⟨j, hj⟩ := List.getElem?_of_mem ht
    obtain ⟨b, _, hb⟩ := h2.get hj
    rw [idxT_at (v := .str b.ky) hb rfl] at hQ
    have hb : H' t = some (.tup [.str b.nm, .str b.ky, partV b.pt, .bl b.ds]) := s' _ _ hb
    wtm_at "rd"
    exact hQ
  have ek : (ts.map V.ref).map (idxT G1 1) = (sc.ss.map Srt.ky).map V.str := by
    rw [List.map_map, List.map_map]
    exact h2.map fun a b hb => idxT_at hb rfl
  rw [ek]
  generalize eq_l : upd _ l _ = H1
  have s_l : Same _ H1 := eq_l ▸ same_new n_l
  have h_l : H1 l = some _ := eq_l ▸ upd_same
  clear eq_l
  have h0 := s_l _ _ h0
  have h_bP := s_l _ _ h_bP
  have h5 := s_l _ _ h5
  have h6 := s_l _ _ h6
  have s_bP := s_bP.trans s_l
  refine ⟨bP, l, _, _, rfl, rfl, h_bP, h_l, Nat.le_of_lt (small1000 (by simp only [List.length_map]; omega)), fun b n_b => ?_⟩
  generalize eq_b : upd _ b _ = H2
  have s_b : Same _ H2 := eq_b ▸ same_new n_b
  have h_b : H2 b = some _ := eq_b ▸ upd_same
  clear eq_b
  have h0 := s_b _ _ h0
  have h5 := s_b _ _ h5
  have h6 := s_b _ _ h6
  have s_bP := s_bP.trans s_b
  wtm_at "rd"
  refine r_listA (.inl (SqL.of h5)) fun bV n_bV => ?_
  generalize eq_bV : upd _ bV _ = H3
  have s_bV : Same _ H3 := eq_bV ▸ same_new n_bV
  have h_bV : H3 bV = some _ := eq_bV ▸ upd_same
  clear eq_bV
  have h0 := s_bV _ _ h0
  have h_b := s_bV _ _ h_b
  have h6 := s_bV _ _ h6
  have s_bP := s_bP.trans s_bV
  refine ⟨b, bV, _, _, rfl, rfl, h_b, h_bV, Nat.le_of_lt (small1000 (by simp only [List.length_append, List.length_map]; omega)), fun b2 n_b2 => ?_⟩
  generalize eq_b2 : upd _ b2 _ = H4
  have s_b2 : Same _ H4 := eq_b2 ▸ same_new n_b2
  have h_b2 : H4 b2 = some _ := eq_b2 ▸ upd_same
  clear eq_b2
  have h0 := s_b2 _ _ h0
  have h6 := s_b2 _ _ h6
  have s_bP := s_bP.trans s_b2
  wtm_at "rd"
  refine r_listA (.inl (SqL.of h6)) fun bM n_bM => ?_
  generalize eq_bM : upd _ bM _ = H5
  have s_bM : Same _ H5 := eq_bM ▸ same_new n_bM
  have h_bM : H5 bM = some _ := eq_bM ▸ upd_same
  clear eq_bM
  have h0 := s_bM _ _ h0
  have h_b2 := s_bM _ _ h_b2
  have s_bP := s_bP.trans s_bM
  refine ⟨b2, bM, _, _, rfl, rfl, h_b2, h_bM, Nat.le_of_lt (small1000 (by simp only [List.length_append, List.length_map]; omega)), fun b3 n_b3 => ?_⟩
  refine q b3 _ (s_bP.free n_b3) (s_bP.trans (same_new n_b3)) ?_
  rw [upd_same]
  congr 2
  simp only [Sch.cols, List.map_append, List.append_assoc]
end

/-! texts of names, their repr -/
theorem rq_two (x : Str) : reprQuote x = 34 ∨ reprQuote x = 39 := by
  unfold reprQuote
  split
  · exact .inl rfl
  · exact .inr rfl
theorem rc_small : ∀ q, q = 34 ∨ q = 39 → ∀ c, c < 128 → ∀ y ∈ Builtin.Str.reprChar q c, y < 128 := by
  have h : ∀ q ∈ [34, 39], ∀ c ∈ List.range 128, (Builtin.Str.reprChar q c).all (fun y => decide (y < 128)) = true := by decide +kernel
  intro q hq c hc y hy
  have z := h q (by rcases hq with e | e <;> rw [e] <;> decide) c (List.mem_range.mpr hc)
  exact of_decide_eq_true (List.all_eq_true.mp z y hy)
theorem fold_small {q : Nat} (hq : q = 34 ∨ q = 39) : ∀ (l : List Nat) (acc : Array Nat), (∀ c ∈ l, c < 128) → (∀ c ∈ acc.toList, c < 128) → ∀ c ∈ (l.foldl (fun out c => out ++ (Builtin.Str.reprChar q c).toArray) acc).toList, c < 128
  | [], acc, _, ha => ha
  | x :: l, acc, hl, ha => fold_small hq l _ (fun c hc => hl c (List.mem_cons_of_mem _ hc)) fun c hc => by
    rw [Array.toList_append] at hc
    rcases List.mem_append.mp hc with z | z
    · exact ha c z
    · exact rc_small q hq x (hl x List.mem_cons_self) c z
theorem repr_small {x : Str} (h : ∀ c ∈ x.cps.toList, c < 128) : ∀ c ∈ (reprText x).cps.toList, c < 128 := by
  intro c hc
  have hq := rq_two x
  have hc : c ∈ ((x.cps.foldl (fun out c => out ++ (Builtin.Str.reprChar (reprQuote x) c).toArray) #[reprQuote x]).push (reprQuote x)).toList := hc
  rw [Array.toList_push, ← Array.foldl_toList] at hc
  have hq' : reprQuote x < 128 := by rcases hq with e | e <;> rw [e] <;> decide
  rcases List.mem_append.mp hc with z | z
  · exact fold_small hq _ _ h (fun y hy => by rw [List.mem_singleton.mp hy]; exact hq') c z
  · rw [List.mem_singleton.mp z]; exact hq'
theorem sok_small {x : Str} (h : ∀ c ∈ x.cps.toList, c < 128) : PyData.strOk x = true := Wn.sok (n := x.length) ⟨h, Nat.le_refl _⟩
theorem name_repr {z : Str} (h : isNameB z = true) : (reprText z).length ≤ 1000 ∧ PyData.strOk z = true ∧ PyData.strOk (reprText z) = true := by
  have w := name_Wn h
  refine ⟨?_, w.sok, sok_small (repr_small w.1)⟩
  have := StrLaws.reprText_len z fun c hc => Nat.lt_trans (w.1 c hc) (by decide)
  have := w.2
  omega
theorem strs_okD {ws : List Str} (h : ∀ w ∈ ws, isNameB w = true) : ∀ v ∈ ws.map V.str, okD v := fun v hv => by
  obtain ⟨w, hw, rfl⟩ := List.mem_map.mp hv
  have z := name_repr (h w hw)
  exact ⟨z.1, z.2.1⟩
structure srtOk (s : Srt) : Prop where
  n : isNameB s.nm = true
  k : isNameB s.ky = true
  p : ∀ z, s.pt = some z → isNameB z = true
theorem Sch.good.srt {sc : Sch} (h : sc.good) {s : Srt} (hs : s ∈ sc.ss) : srtOk s := ⟨h.wns s hs, h.wks s hs, fun z hz => h.wps z (h.pt s hs z hz)⟩
theorem srt_all {s : Srt} (h : srtOk s) {P : V → Prop} (h1 : ∀ z, isNameB z = true → P (.str z)) (h2 : P .non) (h3 : ∀ b, P (.bl b)) : ∀ v ∈ srtV s, P v := fun v hv => by
  simp only [srtV, List.mem_cons, List.mem_nil_iff, or_false] at hv
  rcases hv with e | e | e | e
  · rw [e]; exact h1 _ h.n
  · rw [e]; exact h1 _ h.k
  · rw [e]
    cases hp : s.pt with
    | none => exact h2
    | some z => exact h1 z (h.p z hp)
  · rw [e]; exact h3 _
theorem srt_okD {s : Srt} (h : srtOk s) : ∀ v ∈ srtV s, okD v := srt_all h (fun z hz => ⟨(name_repr hz).1, (name_repr hz).2.1⟩) trivial fun _ => trivial
theorem srt_eqD {s : Srt} (h : srtOk s) : ∀ v ∈ srtV s, eqD v := fun v hv => (srt_okD h v hv).eq
theorem srt_okR {s : Srt} (h : srtOk s) : ∀ v ∈ srtV s, okR v := srt_all h (fun z hz => (name_repr hz).2.2) trivial fun _ => trivial
/-! what a scheme tells -/
def strsL (ws : List Str) : PyData := lstD (ws.map V.str)
def strsT (ws : List Str) : PyData := tupD (ws.map V.str)
def toldD (sc : Sch) : PyData := .list [strsL sc.cols, strsL sc.names, strsT sc.ps, strsT sc.vs, strsT sc.ms]
theorem strsL_len {ws : List Str} (h : ∀ w ∈ ws, isNameB w = true) (hl : ws.length ≤ 50) : (strsL ws).shown.length ≤ 200000 := by
  obtain ⟨i1, i2⟩ := len_vD (strs_okD h)
  have h3 := listText_len_le (PyData.shownAll ((ws.map V.str).map vD))
  rw [i1] at h3
  rw [List.length_map] at h3 i2
  exact Nat.le_trans h3 (by omega)
theorem strsT_len {ws : List Str} (h : ∀ w ∈ ws, isNameB w = true) (hl : ws.length ≤ 50) : (strsT ws).shown.length ≤ 200000 := by
  obtain ⟨i1, i2⟩ := len_vD (strs_okD h)
  have h3 := tupleText_len_le (PyData.shownAll ((ws.map V.str).map vD))
  rw [i1] at h3
  rw [List.length_map] at h3 i2
  exact Nat.le_trans h3 (by omega)
theorem Sch.good.lcols {s : Sch} (h : s.good) : s.cols.length ≤ 11 := by
  have h1 := h.l1
  have h2 := h.l2
  have h3 := h.l3
  have h4 := h.l4
  simp only [Sch.cols, List.length_append, List.length_map]
  omega
theorem Sch.good.lnames {s : Sch} (h : s.good) : s.names.length ≤ 3 := by
  rw [Sch.names, List.length_map]
  exact h.l1
theorem r_reprTold {K : PySem.W.Frag} {H : Hp} {Q : VK} {a lc ln tP tV tM : Addr} {sc : Sch} (hg : sc.good) (ha : H a = some (.lst [.ref lc, .ref ln, .ref tP, .ref tV, .ref tM])) (h1 : H lc = some (.lst (sc.cols.map V.str))) (h2 : H ln = some (.lst (sc.names.map V.str)))
    (h3 : SqT K H tP (sc.ps.map V.str)) (h4 : SqT K H tV (sc.vs.map V.str)) (h5 : SqT K H tM (sc.ms.map V.str)) (q : Q (.str (toldD sc).shown) H) : rRepr K [.ref a] H Q := by
  have o1 := strs_okD hg.wcs
  have o2 := strs_okD hg.wnm
  have o3 := strs_okD hg.wps
  have o4 := strs_okD hg.wvs
  have o5 := strs_okD hg.wms
  refine ⟨a, toldD sc, rfl, .lst (SqL.of ha) (.cons (.lst (SqL.of h1) (dpAll_vD fun v hv => (o1 v hv).eq)) (.cons (.lst (SqL.of h2) (dpAll_vD fun v hv => (o2 v hv).eq)) (.cons (.tup h3 (dpAll_vD fun v hv => (o3 v hv).eq)) (.cons (.tup h4 (dpAll_vD fun v hv => (o4 v hv).eq)) (.cons (.tup h5 (dpAll_vD fun v hv => (o5 v hv).eq)) .nil))))), ?_, ?_, ?_, ?_, q⟩
  · show (PyData.showableAll _ && (PyData.showableAll _ && (PyData.showableAll _ && (PyData.showableAll _ && (PyData.showableAll _ && true))))) = true
    rw [show_vD o1, show_vD o2, show_vD o3, show_vD o4, show_vD o5]
    rfl
  · show (PyData.hasDictAll _ || (PyData.hasDictAll _ || (PyData.hasDictAll _ || (PyData.hasDictAll _ || (PyData.hasDictAll _ || false))))) = false
    rw [dict_vD, dict_vD, dict_vD, dict_vD, dict_vD]
    rfl
  · show max (PyData.depthAll _ + 1) (max (PyData.depthAll _ + 1) (max (PyData.depthAll _ + 1) (max (PyData.depthAll _ + 1) (max (PyData.depthAll _ + 1) 0)))) + 1 ≤ 20
    rw [depth_vD, depth_vD, depth_vD, depth_vD, depth_vD]
    decide
  · have e1 := strsL_len hg.wcs (Nat.le_trans hg.lcols (by decide))
    have e2 := strsL_len hg.wnm (Nat.le_trans hg.lnames (by decide))
    have e3 := strsT_len hg.wps (Nat.le_trans hg.l2 (by decide))
    have e4 := strsT_len hg.wvs (Nat.le_trans hg.l3 (by decide))
    have e5 := strsT_len hg.wms (Nat.le_trans hg.l4 (by decide))
    have h3 := listText_len_le [(strsL sc.cols).shown, (strsL sc.names).shown, (strsT sc.ps).shown, (strsT sc.vs).shown, (strsT sc.ms).shown]
    refine Nat.le_trans h3 (Nat.le_trans ?_ (show 2000000 ≤ sizeLine by decide))
    simp only [List.map_cons, List.map_nil, List.sum_cons, List.sum_nil, List.length_cons, List.length_nil]
    omega
def spTold (K : PySem.W.Frag) (CC CS : Addr) : Sp := fun vs H Q _ => ∃ (p : Addr) (sc : Sch), vs = [.ref p] ∧ SchAt K CC CS H p sc ∧ sc.good ∧ ∀ H', Same H H' → Q (.str (toldD sc).shown) H'
def spDueS : Sp := fun vs H Q _ => ∃ (p : Addr) (sc : Sch), vs = [.ref p] ∧ SpecAt H p sc ∧ sc.good ∧ ∀ H', Same H H' → Q (.str (toldD sc).shown) H'
def spFour (CS : Addr) : Sp := fun vs H Q _ => ∃ (p : Addr) (s : Srt), vs = [.ref p] ∧ SortAt CS H p s ∧ srtOk s ∧ ∀ H', Same H H' → Q (.str (tupD (srtV s)).shown) H'
def namedV (sc : Sch) (w : Str) : List V := match findS sc w with
  | some s => [.str "sort", .str (tupD (srtV s)).shown]
  | none => [.str "unknown", .str w]
theorem named_some {sc : Sch} {w : Str} {s : Srt} (h : findS sc w = some s) : namedV sc w = [.str "sort", .str (tupD (srtV s)).shown] := by unfold namedV; rw [h]
theorem named_none {sc : Sch} {w : Str} (h : findS sc w = none) : namedV sc w = [.str "unknown", .str w] := by unfold namedV; rw [h]
def spNamedL (K : PySem.W.Frag) (CC CS : Addr) : Sp := fun vs H Q _ => ∃ (p : Addr) (sc : Sch) (w : Str), vs = [.ref p, .str w] ∧ SchAt K CC CS H p sc ∧ sc.good ∧ ∀ t H', Same H H' → H' t = some (.tup (namedV sc w)) → Q (.ref t) H'
section
variable {P : Program} {w : World} {K : PySem.W.Frag} {mg : Str → Option Value} {base : Heap}

theorem ok__law_told (T : Txt K mg) : FnG P w K mg base CX0 2 T.f__law_told T.d__law_told ["_law_scheme"] (spTold K T.C_Scheme T.C_Sort) := by
  refine okG T.F__law_told sc__law_told (fun vs H Q E h => ?_) (fun cdv A outer s H vs Q E hG hr h => ?_)
  · obtain ⟨p, sc, rfl, _⟩ := h
    rfl
  obtain ⟨p, sc, rfl, o, hg, q⟩ := h
  refine ⟨_, (pss_cons (ps_set (i := 1) sc__law_told.nd rfl (by first | exact Or.inl rfl | exact Or.inr rfl) (pe_lst (pa_cons (pe_meth0 (pv 0) T.c_Scheme T.mt_Scheme_columns (ok_Scheme_columns T) (hr.mono (by decide)) T.b_Scheme_columns .nil pass0) (pa_cons (pe_meth0 (pv 0) T.c_Scheme T.mt_Scheme_sort_names (ok_Scheme_sort_names T) (hr.mono (by decide)) T.b_Scheme_sort_names .nil pass0) pa_nil))))
      (pss_one (ps_ret (pe_callB (r := rRepr K) (id := "repr") (call_repr hG hr.units) (by rfl) T.z_repr (by decide +kernel) (pa_cons (pe_op op_cat (pv 1) (pe_lst (pa_cons (pe_fldK (K := K) (pv 0)) (pa_cons (pe_fldK (K := K) (pv 0)) (pa_cons (pe_fldK (K := K) (pv 0)) pa_nil))))) pa_nil))))), ?_⟩
  try simp only [nox_K, cx_K]
  have sm := hg.small
  wtm_at "rd"
  refine sch_who o (by decide +kernel) (by decide +kernel) (by decide +kernel) (by decide +kernel) ?_
  wtm_at "rd"
  refine ⟨p, sc, rfl, o, sm, fun lc H1 n1 s1 hc1 => ?_⟩
  have o := o.same s1
  wtm_at "rd"
  refine sch_who o (by decide +kernel) (by decide +kernel) (by decide +kernel) (by decide +kernel) ?_
  wtm_at "rd"
  refine ⟨p, sc, rfl, o, sm, fun ln H2 n2 s2 hn2 => ?_⟩
  have o := o.same s2
  have hc2 := s2 _ _ hc1
  have s2 := s1.trans s2
  wtm_at "rd"
  refine r_new rfl fun b1 n_b1 => ?_
  generalize eq_b1 : upd _ b1 _ = H3
  have s_b1 : Same _ H3 := eq_b1 ▸ same_new n_b1
  have h_b1 : H3 b1 = some _ := eq_b1 ▸ upd_same
  clear eq_b1
  have o := o.same s_b1
  have hn2 := s_b1 _ _ hn2
  have hc2 := s_b1 _ _ hc2
  have s2 := s2.trans s_b1
  obtain ⟨dx, tS, tP, tV, tM, as, e, hS, hA, hP, hV, hM⟩ := o
  wtm_at "rd"
  refine r_get e T.c_Scheme T.nf_Scheme_part_columns (sch_parts _ _ _ _) ?_
  wtm_at "rd"
  refine r_get e T.c_Scheme T.nf_Scheme_value_columns (sch_values _ _ _ _) ?_
  wtm_at "rd"
  refine r_get e T.c_Scheme T.nf_Scheme_mark_columns (sch_marks _ _ _ _) ?_
  wtm_at "rd"
  refine r_new rfl fun b2 n_b2 => ?_
  generalize eq_b2 : upd _ b2 _ = H4
  have s_b2 : Same _ H4 := eq_b2 ▸ same_new n_b2
  have h_b2 : H4 b2 = some _ := eq_b2 ▸ upd_same
  clear eq_b2
  have hn2 := s_b2 _ _ hn2
  have hc2 := s_b2 _ _ hc2
  have h_b1 := s_b2 _ _ h_b1
  have s2 := s2.trans s_b2
  have hP := same_tup s_b2 hP
  have hV := same_tup s_b2 hV
  have hM := same_tup s_b2 hM
  refine ⟨b1, b2, _, _, rfl, rfl, h_b1, h_b2, Nat.le_of_ble_eq_true rfl, fun b3 n_b3 => ?_⟩
  generalize eq_b3 : upd _ b3 _ = H5
  have s_b3 : Same _ H5 := eq_b3 ▸ same_new n_b3
  have h_b3 : H5 b3 = some _ := eq_b3 ▸ upd_same
  clear eq_b3
  have hn2 := s_b3 _ _ hn2
  have hc2 := s_b3 _ _ hc2
  have s2 := s2.trans s_b3
  have hP := same_tup s_b3 hP
  have hV := same_tup s_b3 hV
  have hM := same_tup s_b3 hM
  exact r_reprTold hg h_b3 hc2 hn2 hP hV hM (q _ s2)
theorem ok__law_due (T : Txt K mg) : FnG P w K mg base CX0 2 T.f__law_due T.d__law_due ["_law_spec_here"] spDueS := by
  refine okG T.F__law_due sc__law_due (fun vs H Q E h => ?_) (fun cdv A outer s H vs Q E hG hr h => ?_)
  · obtain ⟨p, sc, rfl, _⟩ := h
    rfl
  obtain ⟨p, sc, rfl, o, hg, q⟩ := h
  refine ⟨_, (pss_cons (ps_set (i := 1) sc__law_due.nd rfl (by first | exact Or.inl rfl | exact Or.inr rfl) (pe_lst (pa_cons (pe_call (ok__law_columns T) (hr.mono (by decide)) (by rfl) T.g__law_columns T.F__law_columns.kp T.b__law_columns .nil pass0 (pa_cons (pv 0) pa_nil)) (pa_cons (pe_lc (own := [("_law_one", 2)]) (g := gName 2) (tt := tYes) rfl sc__law_due.nd (pi_list (pe_ix (r := rIxL K) ix_list (pv 0) pe_int (fun _ _ => rfl))) (blkOk_by (N := ["_law_spec_here", "_law_told_here", "_law_one"]) (sc := defScope s__law_due) (by decide +kernel)) (fun _ _ _ _ _ => pg_name (i := 2) sc__law_due.nd rfl (by first | exact Or.inl rfl | exact Or.inr rfl)) (fun _ _ _ _ _ => pts_nil) (fun _ _ _ _ _ => (pe_ix (r := rIxT K) ix_tup (pv 2) pe_int (fun _ _ => rfl)))) pa_nil))))
      (pss_one (ps_ret (pe_callB (r := rRepr K) (id := "repr") (call_repr hG hr.units) (by rfl) T.z_repr (by decide +kernel) (pa_cons (pe_op op_cat (pv 1) (pe_lst (pa_cons (pe_callTy c_tupA (by rfl) T.z_tuple (by decide +kernel) (pa_cons (pe_ix (r := rIxL K) ix_list (pv 0) pe_int (fun _ _ => rfl)) pa_nil)) (pa_cons (pe_callTy c_tupA (by rfl) T.z_tuple (by decide +kernel) (pa_cons (pe_ix (r := rIxL K) ix_list (pv 0) pe_int (fun _ _ => rfl)) pa_nil)) (pa_cons (pe_callTy c_tupA (by rfl) T.z_tuple (by decide +kernel) (pa_cons (pe_ix (r := rIxL K) ix_list (pv 0) pe_int (fun _ _ => rfl)) pa_nil)) pa_nil))))) pa_nil))))), ?_⟩
  try simp only [nox_K, cx_K]
  wtm_at "rd"
  refine ⟨p, sc, rfl, o, hg, fun lc H1 n1 s1 hc1 => ?_⟩
  have o := o.same s1
  obtain ⟨aS, aP, aV, aM, ts, h0, h1, h2, h4, h5, h6⟩ := o
  have l1 := hg.l1
  wtm_at "rd"
  refine r_itl (SqL.of h1) ?_
  refine lc_map (idxT H1 0) (SqL.of h1) (by rw [List.length_map, h2.len]; omega) (fun v H' QQ hv s' hQ => ?_) fun ln n_ln => ?_
  · obtain ⟨t, ht, rfl⟩ := List.mem_map.mp hv
    obtain ⟨j, hj⟩ := List.getElem?_of_mem ht
    obtain ⟨b, _, hb⟩ := h2.get hj
    rw [idxT_at (v := .str b.nm) hb rfl] at hQ
    have hb : H' t = some (.tup [.str b.nm, .str b.ky, partV b.pt, .bl b.ds]) := s' _ _ hb
    wtm_at "rd"
    exact hQ
  have ek : (ts.map V.ref).map (idxT H1 0) = sc.names.map V.str := by
    rw [Sch.names, List.map_map, List.map_map]
    exact h2.map fun a b hb => idxT_at hb rfl
  rw [ek]
  generalize eq_ln : upd _ ln _ = H2
  have s_ln : Same _ H2 := eq_ln ▸ same_new n_ln
  have h_ln : H2 ln = some _ := eq_ln ▸ upd_same
  clear eq_ln
  have h0 := s_ln _ _ h0
  have h4 := s_ln _ _ h4
  have h5 := s_ln _ _ h5
  have h6 := s_ln _ _ h6
  have hc1 := s_ln _ _ hc1
  have s1 := s1.trans s_ln
  wtm_at "rd"
  refine r_new rfl fun b1 n_b1 => ?_
  generalize eq_b1 : upd _ b1 _ = H3
  have s_b1 : Same _ H3 := eq_b1 ▸ same_new n_b1
  have h_b1 : H3 b1 = some _ := eq_b1 ▸ upd_same
  clear eq_b1
  have h0 := s_b1 _ _ h0
  have h4 := s_b1 _ _ h4
  have h5 := s_b1 _ _ h5
  have h6 := s_b1 _ _ h6
  have hc1 := s_b1 _ _ hc1
  have h_ln := s_b1 _ _ h_ln
  have s1 := s1.trans s_b1
  wtm_at "rd"
  refine r_tupL (SqL.of h4) fun tP n_tP => ?_
  generalize eq_tP : upd _ tP _ = H4
  have s_tP : Same _ H4 := eq_tP ▸ same_new n_tP
  have h_tP : H4 tP = some _ := eq_tP ▸ upd_same
  clear eq_tP
  have h0 := s_tP _ _ h0
  have h5 := s_tP _ _ h5
  have h6 := s_tP _ _ h6
  have hc1 := s_tP _ _ hc1
  have h_ln := s_tP _ _ h_ln
  have h_b1 := s_tP _ _ h_b1
  have s1 := s1.trans s_tP
  wtm_at "rd"
  refine r_tupL (SqL.of h5) fun tV n_tV => ?_
  generalize eq_tV : upd _ tV _ = H5
  have s_tV : Same _ H5 := eq_tV ▸ same_new n_tV
  have h_tV : H5 tV = some _ := eq_tV ▸ upd_same
  clear eq_tV
  have h0 := s_tV _ _ h0
  have h6 := s_tV _ _ h6
  have hc1 := s_tV _ _ hc1
  have h_ln := s_tV _ _ h_ln
  have h_b1 := s_tV _ _ h_b1
  have h_tP := s_tV _ _ h_tP
  have s1 := s1.trans s_tV
  wtm_at "rd"
  refine r_tupL (SqL.of h6) fun tM n_tM => ?_
  generalize eq_tM : upd _ tM _ = H6
  have s_tM : Same _ H6 := eq_tM ▸ same_new n_tM
  have h_tM : H6 tM = some _ := eq_tM ▸ upd_same
  clear eq_tM
  have hc1 := s_tM _ _ hc1
  have h_ln := s_tM _ _ h_ln
  have h_b1 := s_tM _ _ h_b1
  have h_tP := s_tM _ _ h_tP
  have h_tV := s_tM _ _ h_tV
  have s1 := s1.trans s_tM
  wtm_at "rd"
  refine r_new rfl fun b2 n_b2 => ?_
  generalize eq_b2 : upd _ b2 _ = H7
  have s_b2 : Same _ H7 := eq_b2 ▸ same_new n_b2
  have h_b2 : H7 b2 = some _ := eq_b2 ▸ upd_same
  clear eq_b2
  have hc1 := s_b2 _ _ hc1
  have h_ln := s_b2 _ _ h_ln
  have h_b1 := s_b2 _ _ h_b1
  have h_tP := s_b2 _ _ h_tP
  have h_tV := s_b2 _ _ h_tV
  have h_tM := s_b2 _ _ h_tM
  have s1 := s1.trans s_b2
  refine ⟨b1, b2, _, _, rfl, rfl, h_b1, h_b2, Nat.le_of_ble_eq_true rfl, fun b3 n_b3 => ?_⟩
  generalize eq_b3 : upd _ b3 _ = H8
  have s_b3 : Same _ H8 := eq_b3 ▸ same_new n_b3
  have h_b3 : H8 b3 = some _ := eq_b3 ▸ upd_same
  clear eq_b3
  have hc1 := s_b3 _ _ hc1
  have h_ln := s_b3 _ _ h_ln
  have h_tP := s_b3 _ _ h_tP
  have h_tV := s_b3 _ _ h_tV
  have h_tM := s_b3 _ _ h_tM
  have s1 := s1.trans s_b3
  exact r_reprTold hg h_b3 hc1 h_ln (SqT.of h_tP) (SqT.of h_tV) (SqT.of h_tM) (q _ s1)
theorem ok__law_four (T : Txt K mg) : FnG P w K mg base CX0 1 T.f__law_four T.d__law_four ["_law_found"] (spFour T.C_Sort) := by
  refine okG T.F__law_four sc__law_four (fun vs H Q E h => ?_) (fun cdv A outer s H vs Q E hG hr h => ?_)
  · obtain ⟨p, sr, rfl, _⟩ := h
    rfl
  obtain ⟨p, sr, rfl, o, hk, q⟩ := h
  refine ⟨_, (pss_one (ps_ret (pe_callB (r := rRepr K) (id := "repr") (call_repr hG hr.units) (by rfl) T.z_repr (by decide +kernel) (pa_cons (pe_tup (pa_cons (pe_fldK (K := K) (pv 0)) (pa_cons (pe_fldK (K := K) (pv 0)) (pa_cons (pe_fldK (K := K) (pv 0)) (pa_cons (pe_fldK (K := K) (pv 0)) pa_nil))))) pa_nil)))), ?_⟩
  try simp only [nox_K, cx_K]
  wtm_at "rd"
  refine r_sname T o ?_
  wtm_at "rd"
  refine r_skey T o ?_
  wtm_at "rd"
  refine r_spart T o ?_
  wtm_at "rd"
  refine r_sdesc T o ?_
  wtm_at "rd"
  refine r_new rfl fun t n_t => ?_
  generalize eq_t : upd _ t _ = H1
  have s_t : Same _ H1 := eq_t ▸ same_new n_t
  have h_t : H1 t = some _ := eq_t ▸ upd_same
  clear eq_t
  exact r_reprT (SqT.of h_t) (srt_okD hk) (Nat.le_of_ble_eq_true rfl) (q _ s_t)
theorem ok__law_named (T : Txt K mg) : FnG P w K mg base CX0 4 T.f__law_named T.d__law_named ["_law_scheme", "_law_name_here"] (spNamedL K T.C_Scheme T.C_Sort) := by
  refine okG T.F__law_named sc__law_named (fun vs H Q E h => ?_) (fun cdv A outer s H vs Q E hG hr h => ?_)
  · obtain ⟨p, sc, w, rfl, _⟩ := h
    rfl
  obtain ⟨p, sc, w, rfl, o, hg, q⟩ := h
  refine ⟨_, (pss_cons (ps_try_as (i := 3) rfl rfl sc__law_named.nd rfl rfl ⟨rfl, by decide, Or.inl T.g_UnknownSort⟩ takes0 (fun W pn xe tk _ => (pss_one (ps_set (i := 2) sc__law_named.nd rfl (by first | exact Or.inl rfl | exact Or.inr rfl) (pe_methT (pv 0) T.c_Scheme T.mt_Scheme_sort_named (ok_Scheme_sort_named T) (hr.mono (by decide)) T.b_Scheme_sort_named (fun σ => passAt tk σ) (pa_cons (pv 1) pa_nil))))) (fun a oe cls d pn hz hf => (pss_one (ps_ret (pe_tup (pa_cons pe_str (pa_cons (pe_xf T.xf_UnknownSort T.nf_UnknownSort_name hz hf (pv 3)) pa_nil)))))))
      (pss_one (ps_ret (pe_tup (pa_cons pe_str (pa_cons (pe_callG hG (ok__law_four T) (hr.mono (by decide)) (by rfl) T.g__law_four T.F__law_four.kp T.b__law_four .nil pass0 (pa_cons (pv 2) pa_nil)) pa_nil)))))), ?_⟩
  try simp only [nox_K, cx_K]
  wtm_at "rd"
  refine sch_who o (by decide +kernel) (by decide +kernel) (by decide +kernel) (by decide +kernel) ?_
  wtm_at "rd"
  refine ⟨p, sc, w, rfl, o, fun hn d H1 nd hd s1 => ?_, fun x hx a ha => ?_⟩
  · refine ⟨true, T.em_UnknownSort_UnknownSort, fun _ a na => ?_, fun z => nomatch z⟩
    wtm_at "rd"
    refine ⟨rfl, rfl, d, _, _, rfl, hd, rfl, ?_⟩
    wtm_at "rd"
    refine r_new rfl fun t n_t => ?_
    generalize eq_t : upd _ t _ = H2
    have s_t : Same _ H2 := eq_t ▸ same_new n_t
    have h_t : H2 t = some _ := eq_t ▸ upd_same
    clear eq_t
    have s1 := s1.trans s_t
    exact q t _ s1 (by rw [named_none hn]; exact h_t)
  · wtm_at "rd"
    have hm : x ∈ sc.ss := List.mem_of_find?_eq_some hx
    refine ⟨a, x, rfl, ha, hg.srt hm, fun H1 s1 => ?_⟩
    wtm_at "rd"
    refine r_new rfl fun t n_t => ?_
    generalize eq_t : upd _ t _ = H2
    have s_t : Same _ H2 := eq_t ▸ same_new n_t
    have h_t : H2 t = some _ := eq_t ▸ upd_same
    clear eq_t
    have s1 := s1.trans s_t
    exact q t _ s1 (by rw [named_some hx]; exact h_t)
end

theorem r_idxS {K : PySem.W.Frag} {H : Hp} {Q : VK} {a : Addr} {ss : List Str} {z : Str} {j : Nat} (h : SqL K H a (ss.map V.str)) (e : ss[j]? = some z) (n : ∀ m, m < j → ss[m]? ≠ some z) (q : Q (.int j) H) : rIndex K (.ref a) [.str z] H Q := by
  refine ⟨a, _, .str z, j, .str z, rfl, rfl, h, rfl, flat_strsV ss, by rw [List.getElem?_map, e]; rfl, beq_self_eq_true z, fun m z' hm hz => ?_, q⟩
  rw [List.getElem?_map] at hz
  obtain ⟨y, hy, rfl⟩ := Option.map_eq_some_iff.mp hz
  show (y == z) = false
  exact beq_eq_false_iff_ne.mpr fun e => n m hm (by rw [hy, e])
theorem find_ix {α : Type} {f : α → Bool} : ∀ {l : List α}, (∃ x ∈ l, f x = true) → ∃ (j : Nat) (x : α), l[j]? = some x ∧ f x = true ∧ (∀ (m : Nat) (y : α), m < j → l[m]? = some y → f y = false) ∧ l.find? f = some x
  | [], h => by obtain ⟨x, hx, _⟩ := h; cases hx
  | a :: l, h => by
    cases ha : f a with
    | true => exact ⟨0, a, rfl, ha, fun m y hm => absurd hm (Nat.not_lt_zero m), by rw [List.find?_cons, ha]⟩
    | false =>
      obtain ⟨x, hx, fx⟩ := h
      have hx' : x ∈ l := by
        rcases List.mem_cons.mp hx with e | e
        · rw [e, ha] at fx; cases fx
        · exact e
      obtain ⟨j, y, h1, h2, h3, h4⟩ := find_ix (f := f) ⟨x, hx', fx⟩
      refine ⟨j + 1, y, h1, h2, fun m z hm hz => ?_, by rw [List.find?_cons, ha]; exact h4⟩
      cases m with
      | zero => cases hz; exact ha
      | succ m => exact h3 m z (Nat.lt_of_succ_lt_succ hm) hz
theorem named_ix {sc : Sch} {w : Str} (h : w ∈ sc.names) : ∃ (j : Nat) (s : Srt), sc.ss[j]? = some s ∧ sc.names[j]? = some w ∧ (∀ m : Nat, m < j → sc.names[m]? ≠ some w) ∧ findS sc w = some s := by
  obtain ⟨x, hx, e⟩ := List.mem_map.mp h
  obtain ⟨j, s, h1, h2, h3, h4⟩ := find_ix (f := fun s : Srt => decide (s.nm = w)) ⟨x, hx, decide_eq_true e⟩
  refine ⟨j, s, h1, by rw [Sch.names, List.getElem?_map, h1]; exact congrArg some (of_decide_eq_true h2), fun m hm z => ?_, h4⟩
  rw [Sch.names, List.getElem?_map] at z
  obtain ⟨y, hy, e⟩ := Option.map_eq_some_iff.mp z
  exact of_decide_eq_false (h3 m y hm hy) e
theorem named_not {sc : Sch} {w : Str} (h : ¬ w ∈ sc.names) : findS sc w = none := List.find?_eq_none.mpr fun x hx z => h (List.mem_map.mpr ⟨x, hx, of_decide_eq_true z⟩)
theorem named_self {sc : Sch} {s : Srt} (hg : sc.good) (h : s ∈ sc.ss) : findS sc s.nm = some s := by
  obtain ⟨j, t, h1, h2, _, h4⟩ := named_ix (sc := sc) (w := s.nm) (List.mem_map.mpr ⟨s, h, rfl⟩)
  obtain ⟨i, hi⟩ := List.getElem?_of_mem h
  have e1 : sc.names[i]? = some s.nm := by rw [Sch.names, List.getElem?_map, hi]; rfl
  have hij : i = j := by
    have a1 := List.getElem?_eq_some_iff.mp e1
    have a2 := List.getElem?_eq_some_iff.mp h2
    exact (List.getElem_inj (h₀ := a1.1) (h₁ := a2.1) hg.n1).mp (a1.2.trans a2.2.symm)
  subst hij
  rw [hi] at h1
  cases h1
  exact h4
theorem kind_self : ∀ {vs : List V}, ∀ p ∈ vs.zip vs, sameKind p.1 p.2 = true
  | [], p, h => by cases h
  | v :: vs, p, h => by
    rcases List.mem_cons.mp (show p ∈ (v, v) :: vs.zip vs from h) with e | e
    · rw [e]; cases v <;> rfl
    · exact kind_self p e
theorem named_eqD {sc : Sch} {w : Str} (hg : sc.good) (hw : PyData.strOk w = true) : ∀ v ∈ namedV sc w, eqD v := by
  intro v hv
  unfold namedV at hv
  split at hv
  · rename_i s hs
    have hm : s ∈ sc.ss := List.mem_of_find?_eq_some hs
    simp only [List.mem_cons, List.mem_nil_iff, or_false] at hv
    rcases hv with e | e
    · rw [e]; exact sok_of "sort"
    · rw [e]; exact sok_tupD (srt_okR (hg.srt hm))
  · simp only [List.mem_cons, List.mem_nil_iff, or_false] at hv
    rcases hv with e | e
    · rw [e]; exact sok_of "unknown"
    · rw [e]; exact hw
def spNamesR (K : PySem.W.Frag) (CC CS : Addr) : Sp := fun vs H Q _ => ∃ (p a : Addr) (sc : Sch), vs = [.ref p, .ref a] ∧ SchAt K CC CS H p sc ∧ SpecAt H a sc ∧ sc.good ∧ ∀ H', Same H H' → Q (.bl true) H'
/-! three lists of words -/
def kindsD (ps vs ms : List Str) : PyData := .list [strsL ps, strsL vs, strsL ms]
theorem eqv_strsL {ws zs : List Str} (h1 : ∀ w ∈ ws, isNameB w = true) (h2 : ∀ w ∈ zs, isNameB w = true) : PyData.eqv (strsL ws) (strsL zs) = decide (ws = zs) := by
  show PyData.eqvAll _ _ = _
  rw [eqv_all (strs_eqD h1) (strs_eqD h2) strs_kind, decide_eq_decide]
  exact strs_inj
structure Kok (ps vs ms : List Str) : Prop where
  p : ∀ w ∈ ps, isNameB w = true
  v : ∀ w ∈ vs, isNameB w = true
  m : ∀ w ∈ ms, isNameB w = true
theorem kok_nil : Kok [] [] [] := ⟨fun _ h => (nomatch h), fun _ h => (nomatch h), fun _ h => (nomatch h)⟩
theorem Sch.good.kok {s : Sch} (h : s.good) : Kok s.ps s.vs s.ms := ⟨h.wps, h.wvs, h.wms⟩
theorem kinds_eqv {ps vs ms ps' vs' ms' : List Str} (h : Kok ps vs ms) (h' : Kok ps' vs' ms') : PyData.eqv (kindsD ps vs ms) (kindsD ps' vs' ms') = decide (ps = ps' ∧ vs = vs' ∧ ms = ms') := by
  show (PyData.eqv (strsL ps) (strsL ps') && (PyData.eqv (strsL vs) (strsL vs') && (PyData.eqv (strsL ms) (strsL ms') && true))) = _
  rw [eqv_strsL h.p h'.p, eqv_strsL h.v h'.v, eqv_strsL h.m h'.m, Bool.and_true, Bool.eq_iff_iff, Bool.and_eq_true, Bool.and_eq_true, decide_eq_true_eq, decide_eq_true_eq, decide_eq_true_eq, decide_eq_true_eq]
theorem shaped_kinds {ps vs ms : List Str} (h : Kok ps vs ms) : SeqAt.shaped (kindsD ps vs ms) = true := by
  unfold SeqAt.shaped
  rw [show (kindsD ps vs ms).canLay0 = true by
    show (PyData.canLayAll0 _ && (PyData.canLayAll0 _ && (PyData.canLayAll0 _ && true))) = true
    rw [lay_vD (strs_eqD h.p), lay_vD (strs_eqD h.v), lay_vD (strs_eqD h.m)]
    rfl]
  show decide (max (PyData.depthAll _ + 1) (max (PyData.depthAll _ + 1) (max (PyData.depthAll _ + 1) 0)) + 1 ≤ 64) = true
  rw [depth_vD, depth_vD, depth_vD]
  rfl
theorem dp_strsL {K : PySem.W.Frag} {H : Hp} {a : Addr} {ws : List Str} (h : ∀ w ∈ ws, isNameB w = true) (ha : H a = some (.lst (ws.map V.str))) : Dp K H (.ref a) (strsL ws) := .lst (SqL.of ha) (dpAll_vD (strs_eqD h))
theorem dp_kinds {K : PySem.W.Frag} {H : Hp} {a x y z : Addr} {ps vs ms : List Str} (h : Kok ps vs ms) (ha : H a = some (.lst [.ref x, .ref y, .ref z])) (h1 : H x = some (.lst (ps.map V.str))) (h2 : H y = some (.lst (vs.map V.str))) (h3 : H z = some (.lst (ms.map V.str))) : Dp K H (.ref a) (kindsD ps vs ms) :=
  .lst (SqL.of ha) (.cons (dp_strsL h.p h1) (.cons (dp_strsL h.v h2) (.cons (dp_strsL h.m h3) .nil)))
theorem r_eqW {K : PySem.W.Frag} {H : Hp} {Q : VK} {a b : Addr} {ws zs : List Str} (h1 : ∀ w ∈ ws, isNameB w = true) (h2 : ∀ w ∈ zs, isNameB w = true) (ha : H a = some (.lst (ws.map V.str))) (hb : H b = some (.lst (zs.map V.str))) (q : Q (.bl (decide (ws = zs))) H) : rEqD K (.ref a) (.ref b) H Q := by
  refine ⟨strsL ws, strsL zs, dp_strsL h1 ha, dp_strsL h2 hb, shaped_lst (strs_eqD h1), shaped_lst (strs_eqD h2), ?_⟩
  rw [eqv_strsL h1 h2]
  exact q
theorem sqt_lst {K : PySem.W.Frag} {H : Hp} {a b : Addr} {xs ys : List V} {o : HO} (hb : H b = some (.lst ys)) (h : SqT K H a xs) : SqT K (upd H b o) a xs := by
  rcases h with (h | ⟨u, h⟩) | h
  · exact .inl (.inl ((upd_ne (ne_of h hb fun z => nomatch z)).trans h))
  · exact .inl (.inr ⟨u, (upd_ne (ne_of h hb fun z => nomatch z)).trans h⟩)
  · exact .inr h
theorem SchAt.put {K : PySem.W.Frag} {CC CS : Addr} {H : Hp} {p b : Addr} {s : Sch} {ys : List V} {o : HO} (h : SchAt K CC CS H p s) (hb : H b = some (.lst ys)) : SchAt K CC CS (upd H b o) p s := by
  obtain ⟨dx, tS, tP, tV, tM, as, h0, h1, h2, h3, h4, h5⟩ := h
  exact ⟨dx, tS, tP, tV, tM, as, (upd_ne (ne_of h0 hb fun z => nomatch z)).trans h0, sqt_lst hb h1, h2.imp (fun _ _ z => z.put (o' := o) hb (fun _ _ _ y => nomatch y)), sqt_lst hb h3, sqt_lst hb h4, sqt_lst hb h5⟩
theorem make_sch {K : PySem.W.Frag} {CC CS CB : Addr} {H : Hp} {F : Addr → Hp → Prop} {E : XK} {sc : Sch} {D aP aV aM : Addr} {gs : List Addr} (hg : sc.good) (hD : H D = some (.lst (gs.map V.ref))) (hA : All2 (SortAt CS H) gs sc.ss) (hP : SqA K H aP (sc.ps.map V.str)) (hV : SqA K H aV (sc.vs.map V.str)) (hM : SqA K H aM (sc.ms.map V.str))
    (h : ∀ x H', Same H H' → SchAt K CC CS H' x sc → F x H') : ∀ x dx, H x = none → H dx = none → dx ≠ x → spSchInit K CC CS CB [.ref x, .ref D, .ref aP, .ref aV, .ref aM] (upd (upd H dx (.own x)) x (.ins CC dx [])) (fun v H2 => v = .non ∧ F x H2) E := fun x dx nx nd nxd => by
  have s0 : Same H (upd (upd H dx (.own x)) x (.ins CC dx [])) := same_two nx nd
  exact ⟨x, dx, D, aP, aV, aM, sc, gs, rfl, upd_same, .inl (SqL.of (s0 _ _ hD)), hA.imp fun _ _ z => z.same s0, hP.same s0, hV.same s0, hM.same s0, hg.small, fun w hb => (by rw [hg.not_bad] at hb; cases hb), fun hb H8 o8 hk => ⟨rfl, h x H8 (same_make nx nd hk) o8⟩⟩
def spMade (K : PySem.W.Frag) (CC CS : Addr) : Sp := fun vs H Q _ => ∃ (a : Addr) (sc : Sch), vs = [.ref a] ∧ SpecAt H a sc ∧ sc.good ∧ ∀ p H', Same H H' → SchAt K CC CS H' p sc → Q (.ref p) H'
theorem zz_ok : ∀ w ∈ (["", "Zz"] : List Str), PyData.strOk w = true := by decide +kernel
section
variable {P : Program} {w : World} {K : PySem.W.Frag} {mg : Str → Option Value} {base : Heap}

theorem ok__law_names_right (T : Txt K mg) : FnG P w K mg base CX0 5 T.f__law_names_right T.d__law_names_right ["_law_scheme", "_law_spec_here"] (spNamesR K T.C_Scheme T.C_Sort) := by
  refine okG T.F__law_names_right sc__law_names_right (fun vs H Q E h => ?_) (fun cdv A outer s H vs Q E hG hr h => ?_)
  · obtain ⟨p, a, sc, rfl, _⟩ := h
    rfl
  obtain ⟨p, a, sc, rfl, o, so, hg, q⟩ := h
  refine ⟨_, (pss_cons (ps_setLc (i := 2) (own := [("_law_one", 5)]) (g := gName 5) (tt := tYes) rfl sc__law_names_right.nd rfl rfl (sw_true rfl rfl rfl (by decide +kernel)) (pi_list (pe_ix (r := rIxL K) ix_list (pv 1) pe_int (fun _ _ => rfl))) (blkOk_by (N := ["_law_scheme", "_law_spec_here", "_law_names_here", "_law_word", "_law_due_here", "_law_one", "_law_given"]) (sc := defScope s__law_names_right) (by decide +kernel)) (fun _ _ _ _ _ => pg_name (i := 5) sc__law_names_right.nd rfl (by first | exact Or.inl rfl | exact Or.inr rfl)) (fun _ _ _ _ _ => pts_nil) (fun _ _ _ _ _ => (pe_ix (r := rIxT K) ix_tup (pv 5) pe_int (fun _ _ => rfl))))
      (pss_cons (ps_for PassesOwn.never rfl (pi_list (pe_op op_cat (pe_op op_cat (pv 2) (pe_call (ok__law_columns T) (hr.mono (by decide)) (by rfl) T.g__law_columns T.F__law_columns.kp T.b__law_columns .nil pass0 (pa_cons (pv 1) pa_nil))) (pe_lst (pa_cons pe_str (pa_cons pe_str pa_nil))))) (pg_name (i := 3) sc__law_names_right.nd rfl (by first | exact Or.inl rfl | exact Or.inr rfl)) (pss_cons (ps_set (i := 4) sc__law_names_right.nd rfl (by first | exact Or.inl rfl | exact Or.inr rfl) (pe_tup (pa_cons pe_str (pa_cons (pv 3) pa_nil))))
      (C8.pss_cut (ps_if (pt_cmpR op_in_seq (pv 3) (pv 2) (by rfl)) (pss_one (ps_set (i := 4) sc__law_names_right.nd rfl (by first | exact Or.inl rfl | exact Or.inr rfl) (pe_tup (pa_cons pe_str (pa_cons (pe_callB (r := rRepr K) (id := "repr") (call_repr hG hr.units) (by rfl) T.z_repr (by decide +kernel) (pa_cons (pe_callTy c_tupA (by rfl) T.z_tuple (by decide +kernel) (pa_cons (pe_ix (r := rIxL K) ix_list (pe_ix (r := rIxL K) ix_list (pv 1) pe_int (fun _ _ => rfl)) (pe_bm PySem.F.plainAttrs_list PySem.F.slot_list_index PySem.F.type_list_index mt_index (pv 2) (pa_cons (pv 3) pa_nil)) (fun _ _ => rfl)) pa_nil)) pa_nil)) pa_nil))))) pss_nil)
      (pss_one (ps_if (pt_cmpR (op_neD hr.units) (pe_callG hG (ok__law_named T) (hr.mono (by decide)) (by rfl) T.g__law_named T.F__law_named.kp T.b__law_named .nil pass0 (pa_cons (pv 0) (pa_cons (pv 3) pa_nil))) (pv 4) (nomark _)) (pss_one (ps_ret pe_bl)) pss_nil)))))
      (pss_cons (ps_for PassesOwn.never rfl (pi_list (pe_ix (r := rIxL K) ix_list (pv 1) pe_int (fun _ _ => rfl))) (pg_name (i := 5) sc__law_names_right.nd rfl (by first | exact Or.inl rfl | exact Or.inr rfl)) (pss_cons (ps_set (i := 6) sc__law_names_right.nd rfl (by first | exact Or.inl rfl | exact Or.inr rfl) (pe_call (ok__law_sort T) (hr.mono (by decide)) (by rfl) T.g__law_sort T.F__law_sort.kp T.b__law_sort .nil pass0 (pa_cons (pv 5) pa_nil)))
      (pss_one (ps_if (PW.pt (pw_or (pt_cmpR (op_neO T.mt_Sort___eq__.at_ T.mt_Sort___eq__.fn T.ne_Sort T.ob_Sort (ok_Sort___eq__ T) (hr.mono (by decide)) T.b_Sort___eq__ pass0) (pe_meth (pv 0) T.c_Scheme T.mt_Scheme_sort_named (ok_Scheme_sort_named T) (hr.mono (by decide)) T.b_Scheme_sort_named .nil passL (pa_cons (pe_ix (r := rIxT K) ix_tup (pv 5) pe_int (fun _ _ => rfl)) pa_nil)) (pv 6) (nomark _)) (pw_or1 (pt_cmpR op_ne (pe_callG hG (ok__law_four T) (hr.mono (by decide)) (by rfl) T.g__law_four T.F__law_four.kp T.b__law_four .nil pass0 (pa_cons (pv 6) pa_nil)) (pe_callB (r := rRepr K) (id := "repr") (call_repr hG hr.units) (by rfl) T.z_repr (by decide +kernel) (pa_cons (pe_callTy c_tupA (by rfl) T.z_tuple (by decide +kernel) (pa_cons (pv 5) pa_nil)) pa_nil)) (nomark _))))) (pss_one (ps_ret pe_bl)) pss_nil))))
      (pss_one (ps_ret pe_bl))))), ?_⟩
  try simp only [nox_K, cx_K]
  have l1 := hg.l1
  obtain ⟨aS, aP, aV, aM, ts, h0, h1, h2, h4, h5, h6⟩ := id so
  wtm_at "rd"
  refine r_itl (SqL.of h1) ?_
  refine lc_map (idxT H 0) (SqL.of h1) (by rw [List.length_map, h2.len]; omega) (fun v H' QQ hv s' hQ => ?_) fun ln n_ln => ?_
  · obtain ⟨t, ht, rfl⟩ := List.mem_map.mp hv
    obtain ⟨j, hj⟩ := List.getElem?_of_mem ht
    obtain ⟨b, _, hb⟩ := h2.get hj
    rw [idxT_at (v := .str b.nm) hb rfl] at hQ
    have hb : H' t = some (.tup [.str b.nm, .str b.ky, partV b.pt, .bl b.ds]) := s' _ _ hb
    wtm_at "rd"
    exact hQ
  have ek : (ts.map V.ref).map (idxT H 0) = sc.names.map V.str := by
    rw [Sch.names, List.map_map, List.map_map]
    exact h2.map fun a b hb => idxT_at hb rfl
  rw [ek]
  have o0 := o
  have so0 := so
  generalize eq_ln : upd _ ln _ = H1
  have s_ln : Same _ H1 := eq_ln ▸ same_new n_ln
  have h_ln : H1 ln = some _ := eq_ln ▸ upd_same
  clear eq_ln
  have o := o.same s_ln
  have so := so.same s_ln
  wtm_at "rd"
  refine r_for (r_il ?_)
  wtm_at "rd"
  refine ⟨a, sc, rfl, so, hg, fun lc H2 n2 s2 hc2 => ?_⟩
  have h_ln := s2 _ _ h_ln
  have s2 := s_ln.trans s2
  have lc' := hg.lcols
  have ln' := hg.lnames
  refine ⟨ln, lc, _, _, rfl, rfl, h_ln, hc2, Nat.le_of_lt (small1000 (by rw [List.length_map, List.length_map]; omega)), fun b1 n_b1 => ?_⟩
  generalize eq_b1 : upd _ b1 _ = H3
  have s_b1 : Same _ H3 := eq_b1 ▸ same_new n_b1
  have h_b1 : H3 b1 = some _ := eq_b1 ▸ upd_same
  clear eq_b1
  have h_ln := s_b1 _ _ h_ln
  have s2 := s2.trans s_b1
  wtm_at "rd"
  refine r_new rfl fun b2 n_b2 => ?_
  generalize eq_b2 : upd _ b2 _ = H4
  have s_b2 : Same _ H4 := eq_b2 ▸ same_new n_b2
  have h_b2 : H4 b2 = some _ := eq_b2 ▸ upd_same
  clear eq_b2
  have h_ln := s_b2 _ _ h_ln
  have h_b1 := s_b2 _ _ h_b1
  have s2 := s2.trans s_b2
  refine ⟨b1, b2, _, _, rfl, rfl, h_b1, h_b2, Nat.le_of_lt (small1000 (by rw [List.length_append, List.length_map, List.length_map]; show _ + 2 ≤ 1000; omega)), fun b3 n_b3 => ?_⟩
  generalize eq_b3 : upd _ b3 _ = H5
  have s_b3 : Same _ H5 := eq_b3 ▸ same_new n_b3
  have h_b3 : H5 b3 = some _ := eq_b3 ▸ upd_same
  clear eq_b3
  have h_ln := s_b3 _ _ h_ln
  have s2 := s2.trans s_b3
  have h_b3 : H5 b3 = some (.lst ((sc.names ++ sc.cols ++ (["", "Zz"] : List Str)).map V.str)) := by rw [h_b3, List.map_append, List.map_append]; rfl
  have o := o0.same s2
  have so := so0.same s2
  obtain ⟨aS, aP, aV, aM, ts, h0, h1, h2, h4, h5, h6⟩ := id so
  refine r_itl (SqL.of h_b3) ?_
  refine for_list (K := K) (a := b3) (xs := (sc.names ++ sc.cols ++ (["", "Zz"] : List Str)).map V.str) (fun i σ H' => ∃ (y3 y4 y5 y6 : Option V), σ = [some (.ref p), some (.ref a), some (.ref ln), y3, y4, y5, y6] ∧ Same H5 H') ⟨_, _, _, _, rfl, Same.refl _⟩ (fun i σ H' _ ⟨_, _, _, _, _, s⟩ => SqL.of (s _ _ h_b3)) ?_ ?_
  · rintro i v σ H6 hv ⟨y3, y4, y5, y6, rfl, s6⟩
    rw [List.getElem?_map] at hv
    obtain ⟨w, hw, rfl⟩ := Option.map_eq_some_iff.mp hv
    have wok : PyData.strOk w = true := by
      rcases List.mem_append.mp (List.mem_of_getElem? hw) with z | z
      · exact isName_sok (hg.w w z)
      · exact zz_ok w z
    wtm_at "rd"
    refine r_new rfl fun t0 n_t0 => ?_
    generalize eq_t0 : upd _ t0 _ = H7
    have s_t0 : Same _ H7 := eq_t0 ▸ same_new n_t0
    have h_t0 : H7 t0 = some _ := eq_t0 ▸ upd_same
    clear eq_t0
    have s6 := s6.trans s_t0
    refine ⟨fun σ H' => ∃ t, σ = [some (.ref p), some (.ref a), some (.ref ln), some (.str w), some (.ref t), y5, y6] ∧ Same H5 H' ∧ H' t = some (.tup (namedV sc w)), ?_, ?_⟩
    · wtm_at "rd"
      have ln7 := s6 _ _ h_ln
      refine r_inL (SqL.of ln7) rfl (flat_strsV _) ?_
      show ∃ k, V.bl (inV _ (sc.names.map V.str)) = .bl k ∧ _
      rw [inV_strs]
      wtm_at "rd"
      refine r_ite (fun e1 => ?_) (fun e1 => ?_)
      · obtain ⟨j, x, hj, hn, hb, hf⟩ := named_ix e1
        have h07 := s6 _ _ h0
        have h17 := s6 _ _ h1
        have hm : x ∈ sc.ss := List.mem_of_getElem? hj
        have hjt : j < ts.length := by rw [h2.len]; exact (List.getElem?_eq_some_iff.mp hj).1
        have et : ts[j]? = some ts[j] := List.getElem?_eq_getElem hjt
        have hx := s6 _ _ (h2.at_ j _ _ et hj)
        wtm_at "rd"
        refine r_tyL (SqL.of ln7) ?_
        wtm_at "rd"
        refine r_idxS (SqL.of ln7) hn hb ?_
        refine r_ixL (SqL.of h17) (v := .ref ts[j]) (atI_nat (by rw [List.getElem?_map, et]; rfl)) ?_
        wtm_at "rd"
        refine r_tupA (.inr (SqT.of hx)) fun t1 H8 ht1 s8 => ?_
        wtm_at "rd"
        refine r_reprT ht1 (srt_okD (hg.srt hm)) (Nat.le_of_ble_eq_true rfl) ?_
        wtm_at "rd"
        refine r_new rfl fun t2 n_t2 => ?_
        generalize eq_t2 : upd _ t2 _ = H9
        have s_t2 : Same _ H9 := eq_t2 ▸ same_new n_t2
        have h_t2 : H9 t2 = some _ := eq_t2 ▸ upd_same
        clear eq_t2
        have s8 := s8.trans s_t2
        exact ⟨t2, rfl, s6.trans s8, by rw [named_some hf]; exact h_t2⟩
      · wtm_at "rd"
        exact ⟨t0, rfl, s6, by rw [named_none (named_not e1)]; exact h_t0⟩
    rintro σ H8 ⟨t, rfl, s8, ht⟩
    wtm_at "rd"
    refine ⟨p, sc, w, rfl, o.same s8, hg, fun t2 H9 s9 ht2 => ?_⟩
    have ht := s9 _ _ ht
    wtm_at "rd"
    refine r_neTT (SqT.of ht2) (SqT.of ht) (named_eqD hg wok) (named_eqD hg wok) kind_self ?_
    rw [decide_eq_true rfl]
    wtm_at "rdi"
    exact ⟨_, _, _, _, rfl, s8.trans s9⟩
  rintro σ H6 ⟨y3, y4, y5, y6, rfl, s6⟩
  have h06 := s6 _ _ h0
  have h16 := s6 _ _ h1
  wtm_at "rd"
  refine r_for (r_il ?_)
  wtm_at "rd"
  refine r_itl (SqL.of h16) ?_
  refine for_list (K := K) (a := aS) (xs := ts.map V.ref) (fun i σ H' => ∃ (y3 y4 y5 y6 : Option V), σ = [some (.ref p), some (.ref a), some (.ref ln), y3, y4, y5, y6] ∧ Same H5 H') ⟨_, _, _, _, rfl, s6⟩ (fun i σ H' _ ⟨_, _, _, _, _, s⟩ => SqL.of (s _ _ h1)) ?_ ?_
  · rintro i v σ H7 hv ⟨y3, y4, y5, y6, rfl, s7⟩
    rw [List.getElem?_map] at hv
    obtain ⟨b, hb, rfl⟩ := Option.map_eq_some_iff.mp hv
    obtain ⟨sr, hsr, hbf⟩ := h2.get hb
    have hm : sr ∈ sc.ss := List.mem_of_getElem? hsr
    have hb7 := s7 _ _ hbf
    wtm_at "rd"
    refine ⟨b, sr, rfl, hb7, fun x H8 nx s8 o8 => ?_⟩
    have s8 := s7.trans s8
    have hb8 : H8 b = some (.tup [.str sr.nm, .str sr.ky, partV sr.pt, .bl sr.ds]) := s8 _ _ hbf
    have oo := o.same s8
    wtm_at "rd"
    refine sch_who oo (by decide +kernel) (by decide +kernel) (by decide +kernel) (by decide +kernel) ?_
    wtm_at "rd"
    refine ⟨p, sc, sr.nm, rfl, oo, fun hn => ?_, fun y hy c hc => ?_⟩
    · rw [named_self hg hm] at hn
      cases hn
    rw [named_self hg hm] at hy
    cases hy
    wtm_at "rd"
    obtain ⟨dc, zc⟩ := id hc
    refine ⟨c, _, _, _, rfl, zc, sort_ty T o8, T.nt_Sort, c, sr, _, rfl, hc, .inl ⟨x, sr, rfl, o8, _, rfl, ?_⟩⟩
    rw [decide_eq_true rfl]
    wtm_at "rdi"
    refine ⟨x, sr, rfl, o8, hg.srt hm, fun H9 s9 => ?_⟩
    wtm_at "rd"
    refine r_tupA (.inr (SqT.of (s9 _ _ hb8))) fun t1 H10 ht1 s10 => ?_
    wtm_at "rd"
    refine r_reprT ht1 (srt_okD (hg.srt hm)) (Nat.le_of_ble_eq_true rfl) ?_
    wtm_at "rd"
    refine r_iten (fun e => ?_) (fun e => ?_)
    · exact absurd rfl e
    wtm_at "rd"
    exact ⟨_, _, _, _, rfl, (s8.trans s9).trans s10⟩
  · rintro σ H7 ⟨y3, y4, y5, y6, rfl, s7⟩
    wtm_at "rd"
    exact q _ (s2.trans s7)
theorem ok__law_made (T : Txt K mg) : FnOk P w K mg base CX0 7 T.f__law_made T.d__law_made ["_law_spec_here"] (spMade K T.C_Scheme T.C_Sort) := by
  refine T.F__law_made.ok sc__law_made (fun vs H Q E h => ?_) (fun cdv A outer s H vs Q E hr h => ?_)
  · obtain ⟨p, sc, rfl, _⟩ := h
    rfl
  obtain ⟨p, sc, rfl, so, hg, q⟩ := h
  refine ⟨_, (pss_cons (ps_setLc (i := 1) (own := [("_law_one", 5)]) (g := gName 5) (tt := tYes) rfl sc__law_made.nd rfl rfl (sw_true rfl rfl rfl (by decide +kernel)) (pi_list (pe_ix (r := rIxL K) ix_list (pv 0) pe_int (fun _ _ => rfl))) (blkOk_by (N := ["_law_spec_here", "_law_sorts", "_law_kinds", "_law_found", "_law_words", "_law_one"]) (sc := defScope s__law_made) (by decide +kernel)) (fun _ _ _ _ _ => pg_name (i := 5) sc__law_made.nd rfl (by first | exact Or.inl rfl | exact Or.inr rfl)) (fun _ _ _ _ _ => pts_nil) (fun _ _ _ _ _ => (pe_call (ok__law_sort T) (hr.mono (by decide)) (by rfl) T.g__law_sort T.F__law_sort.kp T.b__law_sort .nil pass0 (pa_cons (pv 5) pa_nil))))
      (pss_cons (ps_set (i := 2) sc__law_made.nd rfl (by first | exact Or.inl rfl | exact Or.inr rfl) (pe_lst (pa_cons (pe_callTy c_listA (by rfl) T.z_list (by decide +kernel) (pa_cons (pe_ix (r := rIxL K) ix_list (pv 0) pe_int (fun _ _ => rfl)) pa_nil)) (pa_cons (pe_callTy c_listA (by rfl) T.z_list (by decide +kernel) (pa_cons (pe_ix (r := rIxL K) ix_list (pv 0) pe_int (fun _ _ => rfl)) pa_nil)) (pa_cons (pe_callTy c_listA (by rfl) T.z_list (by decide +kernel) (pa_cons (pe_ix (r := rIxL K) ix_list (pv 0) pe_int (fun _ _ => rfl)) pa_nil)) pa_nil)))))
      (C8.pss_cut (ps_if (pt_cmpR (op_eqD hr.units) (pv 2) (pe_lst (pa_cons (pe_lst pa_nil) (pa_cons (pe_lst pa_nil) (pa_cons (pe_lst pa_nil) pa_nil)))) (nomark _)) (pss_one (ps_set (i := 3) sc__law_made.nd rfl (by first | exact Or.inl rfl | exact Or.inr rfl) (pe_make T.m_Scheme (ok_Scheme___init__ T) (hr.mono (by decide)) (by rfl) T.g_Scheme T.bd_Scheme___init__ T.rds_Scheme___init__ passL (pa_cons (pv 1) pa_nil)))) (pss_one (ps_if (pt_cmpR (op_eqD hr.units) (pe_ix (r := rIxL K) ix_list (pv 2) pe_int (fun _ _ => rfl)) (pe_lst pa_nil) (nomark _)) (pss_one (ps_set (i := 3) sc__law_made.nd rfl (by first | exact Or.inl rfl | exact Or.inr rfl) (pe_makeN T.m_Scheme (ok_Scheme___init__ T) (hr.mono (by decide)) (by rfl) T.g_Scheme T.kn_Scheme___init___VP passL (pa_cons (pv 1) pa_nil) (pk_cons (pe_ix (r := rIxL K) ix_list (pv 2) pe_int (fun _ _ => rfl)) (pk_cons (pe_ix (r := rIxL K) ix_list (pv 2) pe_int (fun _ _ => rfl)) pk_nil))))) (pss_one (ps_set (i := 3) sc__law_made.nd rfl (by first | exact Or.inl rfl | exact Or.inr rfl) (pe_makeN T.m_Scheme (ok_Scheme___init__ T) (hr.mono (by decide)) (by rfl) T.g_Scheme T.kn_Scheme___init___PVM passL (pa_cons (pv 1) pa_nil) (pk_cons (pe_ix (r := rIxL K) ix_list (pv 2) pe_int (fun _ _ => rfl)) (pk_cons (pe_ix (r := rIxL K) ix_list (pv 2) pe_int (fun _ _ => rfl)) (pk_cons (pe_ix (r := rIxL K) ix_list (pv 2) pe_int (fun _ _ => rfl)) pk_nil)))))))))
      (pss_cons (ps_if (PW.pt (pw_or (pt_cmpR (op_neD hr.units) (pv 2) (pe_lc (own := [("_law_words", 4)]) (g := gName 4) (tt := tYes) rfl sc__law_made.nd (pi_list (pe_slice sl_list (pv 0) (po_some pe_int) po_none)) (blkOk_by (N := ["_law_spec_here", "_law_sorts", "_law_kinds", "_law_found", "_law_words", "_law_one"]) (sc := defScope s__law_made) (by decide +kernel)) (fun _ _ _ _ _ => pg_name (i := 4) sc__law_made.nd rfl (by first | exact Or.inl rfl | exact Or.inr rfl)) (fun _ _ _ _ _ => pts_nil) (fun _ _ _ _ _ => (pe_callTy (r := rListA K) (T := "list") c_listA (by rfl) T.z_list (by decide +kernel) (pa_cons (pv 4) pa_nil)))) (nomark _)) (pw_or1 (pt_cmpR op_ne (pe_callB (r := rLenL K) (id := "len") c_len (by rfl) T.z_len (by decide +kernel) (pa_cons (pv 1) pa_nil)) (pe_callB (r := rLenL K) (id := "len") c_len (by rfl) T.z_len (by decide +kernel) (pa_cons (pe_ix (r := rIxL K) ix_list (pv 0) pe_int (fun _ _ => rfl)) pa_nil)) (nomark _))))) (pss_one (ps_ret pe_non)) pss_nil)
      (pss_cons (ps_expr (pe_bm PySem.F.plainAttrs_list PySem.F.slot_list_append PySem.F.type_list_append mt_append (pv 1) (pa_cons pe_str pa_nil)))
      (pss_cons (ps_for PassesOwn.never rfl (pi_list (pv 2)) (pg_name (i := 4) sc__law_made.nd rfl (by first | exact Or.inl rfl | exact Or.inr rfl)) (pss_one (ps_expr (pe_bm PySem.F.plainAttrs_list PySem.F.slot_list_append PySem.F.type_list_append mt_append (pv 4) (pa_cons pe_str pa_nil)))))
      (pss_one (ps_ret (pv 3))))))))), ?_⟩
  try simp only [nox_K, cx_K]
  obtain ⟨aS, aP, aV, aM, ts, h0, h1, h2, h4, h5, h6⟩ := id so
  have l1 := hg.l1
  have l2 := hg.l2
  have l3 := hg.l3
  have l4 := hg.l4
  wtm_at "rd"
  refine r_itl (SqL.of h1) ?_
  intro D nD
  refine lc_list (K := K) (a := aS) (xs := ts.map V.ref) (fun i H' => ∃ gs : List Addr, H' D = some (.lst (gs.map V.ref)) ∧ All2 (SortAt T.C_Sort H') gs (sc.ss.take i) ∧ Same H H') ⟨[], upd_same, by rw [List.take_zero]; exact All2.nil, same_new nD⟩ (fun i H' _ ⟨_, _, _, s⟩ => SqL.of (s _ _ h1)) ?_ ?_
  · rintro i v H4 hv ⟨gs, hD4, G4, s4⟩
    rw [List.getElem?_map] at hv
    obtain ⟨b, hb, rfl⟩ := Option.map_eq_some_iff.mp hv
    obtain ⟨sr, hsr, hbf⟩ := h2.get hb
    have hb4 := s4 _ _ hbf
    refine ⟨wipe1, r_yes (iteT ?_)⟩
    wtm_at "rd"
    refine ⟨b, sr, rfl, hb4, fun x H5 nx s5 o5 => ?_⟩
    have hD5 := s5 _ _ hD4
    have gl : gs.length ≤ 3 := by rw [G4.len, List.length_take]; omega
    refine ⟨_, hD5, small1000 (by rw [List.length_map]; omega), gs ++ [x], by rw [upd_same, List.map_append]; rfl, ?_, fun b o e => (upd_ne (ne_of_none e nD)).trans (s5 _ _ (s4 _ _ e))⟩
    rw [List.take_add_one, hsr]
    exact All2.snoc (G4.imp fun _ _ z => (z.same s5).put hD5 fun _ _ _ y => nomatch y) (o5.put hD5 fun _ _ _ y => nomatch y)
  rintro H4 ⟨gs, hD4, G4, s4⟩
  rw [List.length_map, h2.len, List.take_length] at G4
  have h0 := s4 _ _ h0
  have h4 := s4 _ _ h4
  have h5 := s4 _ _ h5
  have h6 := s4 _ _ h6
  have h1 := s4 _ _ h1
  wtm_at "rd"
  refine r_listA (.inl (SqL.of h4)) fun bP n_bP => ?_
  have f_bP := s4.free n_bP
  have dP := ne_of_none hD4 n_bP
  generalize eq_bP : upd _ bP _ = H5
  have s_bP : Same _ H5 := eq_bP ▸ same_new n_bP
  have h_bP : H5 bP = some _ := eq_bP ▸ upd_same
  clear eq_bP
  have h0 := s_bP _ _ h0
  have h1 := s_bP _ _ h1
  have h4 := s_bP _ _ h4
  have h5 := s_bP _ _ h5
  have h6 := s_bP _ _ h6
  have hD4 := s_bP _ _ hD4
  have s4 := s4.trans s_bP
  have G4 := G4.imp fun _ _ z => z.same s_bP
  wtm_at "rd"
  refine r_listA (.inl (SqL.of h5)) fun bV n_bV => ?_
  have f_bV := s4.free n_bV
  have dV := ne_of_none hD4 n_bV
  generalize eq_bV : upd _ bV _ = H6
  have s_bV : Same _ H6 := eq_bV ▸ same_new n_bV
  have h_bV : H6 bV = some _ := eq_bV ▸ upd_same
  clear eq_bV
  have h0 := s_bV _ _ h0
  have h1 := s_bV _ _ h1
  have h4 := s_bV _ _ h4
  have h5 := s_bV _ _ h5
  have h6 := s_bV _ _ h6
  have hD4 := s_bV _ _ hD4
  have h_bP := s_bV _ _ h_bP
  have s4 := s4.trans s_bV
  have G4 := G4.imp fun _ _ z => z.same s_bV
  wtm_at "rd"
  refine r_listA (.inl (SqL.of h6)) fun bM n_bM => ?_
  have f_bM := s4.free n_bM
  have dM := ne_of_none hD4 n_bM
  generalize eq_bM : upd _ bM _ = H7
  have s_bM : Same _ H7 := eq_bM ▸ same_new n_bM
  have h_bM : H7 bM = some _ := eq_bM ▸ upd_same
  clear eq_bM
  have h0 := s_bM _ _ h0
  have h1 := s_bM _ _ h1
  have h4 := s_bM _ _ h4
  have h5 := s_bM _ _ h5
  have h6 := s_bM _ _ h6
  have hD4 := s_bM _ _ hD4
  have h_bP := s_bM _ _ h_bP
  have h_bV := s_bM _ _ h_bV
  have s4 := s4.trans s_bM
  have G4 := G4.imp fun _ _ z => z.same s_bM
  wtm_at "rd"
  refine r_new rfl fun kk n_kk => ?_
  have kP := (ne_of_none h_bP n_kk).symm
  have kV := (ne_of_none h_bV n_kk).symm
  have kM := (ne_of_none h_bM n_kk).symm
  have kD := (ne_of_none hD4 n_kk).symm
  generalize eq_kk : upd _ kk _ = H8
  have s_kk : Same _ H8 := eq_kk ▸ same_new n_kk
  have h_kk : H8 kk = some _ := eq_kk ▸ upd_same
  clear eq_kk
  have h0 := s_kk _ _ h0
  have h1 := s_kk _ _ h1
  have h4 := s_kk _ _ h4
  have h5 := s_kk _ _ h5
  have h6 := s_kk _ _ h6
  have hD4 := s_kk _ _ hD4
  have h_bP := s_kk _ _ h_bP
  have h_bV := s_kk _ _ h_bV
  have h_bM := s_kk _ _ h_bM
  have s4 := s4.trans s_kk
  have G4 := G4.imp fun _ _ z => z.same s_kk
  wtm_at "rd"
  refine ⟨fun σ H' => ∃ (y4 y5 : Option V) (x : Addr), σ = [some (.ref p), some (.ref D), some (.ref kk), some (.ref x), y4, y5] ∧ SchAt K T.C_Scheme T.C_Sort H' x sc ∧ Same H8 H', ?_, ?_⟩
  · wtm_at "rd"
    refine r_new rfl fun e1 n_e1 => ?_
    generalize eq_e1 : upd _ e1 _ = H9
    have s_e1 : Same _ H9 := eq_e1 ▸ same_new n_e1
    have h_e1 : H9 e1 = some _ := eq_e1 ▸ upd_same
    clear eq_e1
    have hD4 := s_e1 _ _ hD4
    have h_bP := s_e1 _ _ h_bP
    have h_bV := s_e1 _ _ h_bV
    have h_bM := s_e1 _ _ h_bM
    have h_kk := s_e1 _ _ h_kk
    wtm_at "rd"
    refine r_new rfl fun e2 n_e2 => ?_
    generalize eq_e2 : upd _ e2 _ = H10
    have s_e2 : Same _ H10 := eq_e2 ▸ same_new n_e2
    have h_e2 : H10 e2 = some _ := eq_e2 ▸ upd_same
    clear eq_e2
    have hD4 := s_e2 _ _ hD4
    have h_bP := s_e2 _ _ h_bP
    have h_bV := s_e2 _ _ h_bV
    have h_bM := s_e2 _ _ h_bM
    have h_kk := s_e2 _ _ h_kk
    have h_e1 := s_e2 _ _ h_e1
    have s_e1 := s_e1.trans s_e2
    wtm_at "rd"
    refine r_new rfl fun e3 n_e3 => ?_
    generalize eq_e3 : upd _ e3 _ = H11
    have s_e3 : Same _ H11 := eq_e3 ▸ same_new n_e3
    have h_e3 : H11 e3 = some _ := eq_e3 ▸ upd_same
    clear eq_e3
    have hD4 := s_e3 _ _ hD4
    have h_bP := s_e3 _ _ h_bP
    have h_bV := s_e3 _ _ h_bV
    have h_bM := s_e3 _ _ h_bM
    have h_kk := s_e3 _ _ h_kk
    have h_e1 := s_e3 _ _ h_e1
    have h_e2 := s_e3 _ _ h_e2
    have s_e1 := s_e1.trans s_e3
    wtm_at "rd"
    refine r_new rfl fun e4 n_e4 => ?_
    generalize eq_e4 : upd _ e4 _ = H12
    have s_e4 : Same _ H12 := eq_e4 ▸ same_new n_e4
    have h_e4 : H12 e4 = some _ := eq_e4 ▸ upd_same
    clear eq_e4
    have hD4 := s_e4 _ _ hD4
    have h_bP := s_e4 _ _ h_bP
    have h_bV := s_e4 _ _ h_bV
    have h_bM := s_e4 _ _ h_bM
    have h_kk := s_e4 _ _ h_kk
    have h_e1 := s_e4 _ _ h_e1
    have h_e2 := s_e4 _ _ h_e2
    have h_e3 := s_e4 _ _ h_e3
    have s_e1 := s_e1.trans s_e4
    have G5 := G4.imp fun _ _ z => z.same s_e1
    refine ⟨kindsD sc.ps sc.vs sc.ms, kindsD [] [] [], dp_kinds hg.kok h_kk h_bP h_bV h_bM, dp_kinds kok_nil h_e4 h_e1 h_e2 h_e3, shaped_kinds hg.kok, shaped_kinds kok_nil, ?_⟩
    rw [kinds_eqv hg.kok kok_nil]
    wtm_at "rd"
    refine r_ite (fun c1 => ?_) (fun c1 => ?_)
    · wtm_at "rd"
      refine make_sch hg hD4 G5 (by rw [c1.1]; exact .inr (T.eq_Scheme___init___parts _)) (by rw [c1.2.1]; exact .inr (T.eq_Scheme___init___values _)) (by rw [c1.2.2]; exact .inr (T.eq_Scheme___init___marks _)) fun x H13 s13 o13 => ?_
      wtm_at "rd"
      exact ⟨_, _, x, rfl, o13, s_e1.trans s13⟩
    · wtm_at "rd"
      refine r_new rfl fun e5 n_e5 => ?_
      generalize eq_e5 : upd _ e5 _ = H13
      have s_e5 : Same _ H13 := eq_e5 ▸ same_new n_e5
      have h_e5 : H13 e5 = some _ := eq_e5 ▸ upd_same
      clear eq_e5
      have hD4 := s_e5 _ _ hD4
      have h_bP := s_e5 _ _ h_bP
      have h_bV := s_e5 _ _ h_bV
      have h_bM := s_e5 _ _ h_bM
      have h_kk := s_e5 _ _ h_kk
      have s_e1 := s_e1.trans s_e5
      have G5 := G5.imp fun _ _ z => z.same s_e5
      refine r_eqW hg.wms (zs := []) (fun _ h => nomatch h) h_bM h_e5 ?_
      wtm_at "rd"
      refine r_ite (fun c2 => ?_) (fun c2 => ?_)
      · wtm_at "rd"
        refine ⟨rfl, rfl, make_sch hg hD4 G5 (.inl (SqL.of h_bP)) (.inl (SqL.of h_bV)) (by rw [c2]; exact .inr (T.eq_Scheme___init___marks _)) fun x H14 s14 o14 => ?_⟩
        wtm_at "rd"
        exact ⟨_, _, x, rfl, o14, s_e1.trans s14⟩
      · wtm_at "rd"
        refine ⟨rfl, rfl, make_sch hg hD4 G5 (.inl (SqL.of h_bP)) (.inl (SqL.of h_bV)) (.inl (SqL.of h_bM)) fun x H14 s14 o14 => ?_⟩
        wtm_at "rd"
        exact ⟨_, _, x, rfl, o14, s_e1.trans s14⟩
  rintro σ H9 ⟨y4, y5, x, rfl, o9, s9⟩
  have h0 := s9 _ _ h0
  have h1 := s9 _ _ h1
  have hD4 := s9 _ _ hD4
  have h_kk := s9 _ _ h_kk
  have h_bP := s9 _ _ h_bP
  have h_bV := s9 _ _ h_bV
  have h_bM := s9 _ _ h_bM
  have h4 := s9 _ _ h4
  have h5 := s9 _ _ h5
  have h6 := s9 _ _ h6
  have s4 := s4.trans s9
  wtm_at "rd"
  refine r_slL (SqL.of h0) fun l1x n_l1x => ?_
  rw [cut1_3]
  generalize eq_l1x : upd _ l1x _ = H10
  have s_l1x : Same _ H10 := eq_l1x ▸ same_new n_l1x
  have h_l1x : H10 l1x = some _ := eq_l1x ▸ upd_same
  clear eq_l1x
  have h0 := s_l1x _ _ h0
  have h1 := s_l1x _ _ h1
  have hD4 := s_l1x _ _ hD4
  have h_kk := s_l1x _ _ h_kk
  have h_bP := s_l1x _ _ h_bP
  have h_bV := s_l1x _ _ h_bV
  have h_bM := s_l1x _ _ h_bM
  have h4 := s_l1x _ _ h4
  have h5 := s_l1x _ _ h5
  have h6 := s_l1x _ _ h6
  have s4 := s4.trans s_l1x
  have o9 := o9.same s_l1x
  refine r_itl (SqL.of h_l1x) ?_
  refine lc_lsts (itemsOf H10) (SqL.of h_l1x) (by show 3 ≤ 1000; decide) (fun x H2 QQ hx s2 hQ => ?_) fun D2 vs H11 nD2 lvs nvs fvs hD2 hvs s11 => ?_
  · have : ∃ (t : Addr) (xs : List V), x = .ref t ∧ H10 t = some (.lst xs) := by
      simp only [List.mem_cons, List.mem_nil_iff, or_false] at hx
      rcases hx with rfl | rfl | rfl
      · exact ⟨_, _, rfl, h4⟩
      · exact ⟨_, _, rfl, h5⟩
      · exact ⟨_, _, rfl, h6⟩
    obtain ⟨t, xs, rfl, ht⟩ := this
    rw [items_lst ht] at hQ
    wtm_at "rd"
    exact r_listA (.inl (SqL.of (s2 _ _ ht))) hQ
  obtain ⟨cP, cV, cM, rfl⟩ := three_of lvs
  have gP := hvs 0 cP _ rfl rfl
  have gV := hvs 1 cV _ rfl rfl
  have gM := hvs 2 cM _ rfl rfl
  rw [items_lst h4] at gP
  rw [items_lst h5] at gV
  rw [items_lst h6] at gM
  have h0 := s11 _ _ h0
  have h1 := s11 _ _ h1
  have hD4 := s11 _ _ hD4
  have h_kk := s11 _ _ h_kk
  have h_bP := s11 _ _ h_bP
  have h_bV := s11 _ _ h_bV
  have h_bM := s11 _ _ h_bM
  have s4 := s4.trans s11
  have o9 := o9.same s11
  refine ⟨kindsD sc.ps sc.vs sc.ms, kindsD sc.ps sc.vs sc.ms, dp_kinds hg.kok h_kk h_bP h_bV h_bM, dp_kinds hg.kok hD2 gP gV gM, shaped_kinds hg.kok, shaped_kinds hg.kok, ?_⟩
  rw [kinds_eqv hg.kok hg.kok, decide_eq_true ⟨rfl, rfl, rfl⟩]
  wtm_at "rdi"
  refine r_lenR hD4 ?_
  wtm_at "rd"
  refine r_lenR h1 ?_
  wtm_at "rd"
  refine r_iten (fun c => ?_) (fun c => ?_)
  · exact absurd (by rw [G4.len, h2.len]) c
  have lg : gs.length ≤ 3 := by rw [G4.len]; exact l1
  wtm_at "rd"
  refine r_tyL (SqL.of hD4) ?_
  wtm_at "rd"
  refine r_app hD4 (small1000 (by rw [List.length_map]; omega)) ?_
  have o9 := o9.put (o := .lst (gs.map V.ref ++ [.str "more"])) hD4
  have h_kk := (upd_ne (o := .lst (gs.map V.ref ++ [.str "more"])) kD).trans h_kk
  have h_bP := (upd_ne (o := .lst (gs.map V.ref ++ [.str "more"])) dP.symm).trans h_bP
  have h_bV := (upd_ne (o := .lst (gs.map V.ref ++ [.str "more"])) dV.symm).trans h_bV
  have h_bM := (upd_ne (o := .lst (gs.map V.ref ++ [.str "more"])) dM.symm).trans h_bM
  have s5 : Same H (upd H11 D (.lst (gs.map V.ref ++ [.str "more"]))) := fun b o e => (upd_ne (ne_of_none e nD)).trans (s4 _ _ e)
  revert o9 h_kk h_bP h_bV h_bM s5
  generalize upd H11 D (.lst (gs.map V.ref ++ [.str "more"])) = H12
  intro o9 h_kk h_bP h_bV h_bM s5
  wtm_at "rd"
  refine r_for (r_il ?_)
  wtm_at "rd"
  refine r_itl (SqL.of h_kk) ?_
  refine for_list (K := K) (a := kk) (xs := [.ref bP, .ref bV, .ref bM]) (fun i σ H' => ∃ (y4 y5 : Option V), σ = [some (.ref p), some (.ref D), some (.ref kk), some (.ref x), y4, y5] ∧ SchAt K T.C_Scheme T.C_Sort H' x sc ∧ Same H H' ∧ H' kk = some (.lst [.ref bP, .ref bV, .ref bM]) ∧ ∀ b ∈ [bP, bV, bM], ∃ xs : List V, H' b = some (.lst xs) ∧ xs.length ≤ 3 + i) ⟨_, _, rfl, o9, s5, h_kk, fun b hb => ?_⟩ (fun i σ H' _ ⟨_, _, _, _, _, z, _⟩ => SqL.of z) ?_ ?_
  · simp only [List.mem_cons, List.mem_nil_iff, or_false] at hb
    rcases hb with e | e | e
    · rw [e]; exact ⟨_, h_bP, by rw [List.length_map]; omega⟩
    · rw [e]; exact ⟨_, h_bV, by rw [List.length_map]; omega⟩
    · rw [e]; exact ⟨_, h_bM, by rw [List.length_map]; omega⟩
  · rintro i v σ H13 hv ⟨y4, y5, rfl, o13, s13, k13, hb13⟩
    have hi : i < 3 := (List.getElem?_eq_some_iff.mp hv).1
    have hv' : ([bP, bV, bM].map V.ref)[i]? = some v := hv
    rw [List.getElem?_map] at hv'
    obtain ⟨b, hb, rfl⟩ := Option.map_eq_some_iff.mp hv'
    have hbm := List.mem_of_getElem? hb
    obtain ⟨xs, hx, lx⟩ := hb13 b hbm
    have fb : H b = none ∧ kk ≠ b := by
      simp only [List.mem_cons, List.mem_nil_iff, or_false] at hbm
      rcases hbm with e | e | e
      · rw [e]; exact ⟨f_bP, kP⟩
      · rw [e]; exact ⟨f_bV, kV⟩
      · rw [e]; exact ⟨f_bM, kM⟩
    wtm_at "rd"
    refine r_tyL (SqL.of hx) ?_
    wtm_at "rd"
    refine r_app hx (small1000 (by omega)) ?_
    wtm_at "rd"
    refine ⟨_, _, rfl, o13.put hx, fun c o e => (upd_ne (ne_of_none e fb.1)).trans (s13 _ _ e), (upd_ne fb.2).trans k13, fun c hc => ?_⟩
    by_cases e : c = b
    · subst e
      exact ⟨_, upd_same, by rw [List.length_append]; show _ + 1 ≤ _; omega⟩
    · obtain ⟨ys, hy, ly⟩ := hb13 c hc
      exact ⟨ys, (upd_ne e).trans hy, by omega⟩
  · rintro σ H13 ⟨y4, y5, rfl, o13, s13, _⟩
    wtm_at "rd"
    exact q x _ s13 o13
end

theorem r_revL {σ : L2.St} {H : Hp} {Q : VK} {K : PySem.W.Frag} {te : TE} (h : te σ H fun x H1 => ∃ a xs, x = .ref a ∧ SqL K H1 a xs ∧ ∀ p, H1 p = none → Q (.ref p) (upd H1 p (.lst xs.reverse))) : tRevL K te σ H Q := h
theorem r_bm0 {σ : L2.St} {H : Hp} {Q : VK} {K : PySem.W.Frag} {T : String} {r : V → List V → Hp → VK → Prop} {to : TE} (h : to σ H fun x H1 => tyV K T x H1 ∧ r x [] H1 Q) : tBM0 K T r to σ H Q := h
theorem nodup_set {α : Type} : ∀ {l : List α} {j : Nat} {x : α}, l.Nodup → ¬ x ∈ l → (l.set j x).Nodup
  | [], _, _, _, _ => List.nodup_nil
  | a :: l, 0, x, h, n => by
    rw [List.set_cons_zero]
    exact List.nodup_cons.mpr ⟨fun z => n (List.mem_cons_of_mem _ z), (List.nodup_cons.mp h).2⟩
  | a :: l, j + 1, x, h, n => by
    rw [List.set_cons_succ]
    refine List.nodup_cons.mpr ⟨fun z => ?_, nodup_set (List.nodup_cons.mp h).2 fun z => n (List.mem_cons_of_mem _ z)⟩
    rcases List.mem_or_eq_of_mem_set z with e | e
    · exact (List.nodup_cons.mp h).1 e
    · exact n (by rw [e]; exact List.mem_cons_self)
theorem set_self {α : Type} : ∀ {l : List α} {j : Nat} {x : α}, l[j]? = some x → l.set j x = l
  | [], _, _, h => by cases h
  | a :: l, 0, x, h => by cases h; rfl
  | a :: l, j + 1, x, h => by rw [List.set_cons_succ, set_self (l := l) (j := j) h]
theorem set_mid {α : Type} : ∀ {xs ys zs : List α} {j : Nat} {x : α}, j < ys.length → xs ++ (ys.set j x ++ zs) = (xs ++ (ys ++ zs)).set (xs.length + j) x
  | [], ys, zs, j, x, h => by
    show ys.set j x ++ zs = (ys ++ zs).set (0 + j) x
    rw [Nat.zero_add, List.set_append, if_pos h]
  | a :: xs, ys, zs, j, x, h => by
    show a :: (xs ++ (ys.set j x ++ zs)) = (a :: (xs ++ (ys ++ zs))).set (xs.length + 1 + j) x
    rw [show xs.length + 1 + j = xs.length + j + 1 by omega, List.set_cons_succ, set_mid h]
theorem good_set {sc : Sch} {j : Nat} {s s' : Srt} (hg : sc.good) (hj : sc.ss[j]? = some s) (hn : s'.nm = s.nm ∨ (isNameB s'.nm = true ∧ ¬ s'.nm ∈ sc.names)) (hk : s'.ky = s.ky ∨ (isNameB s'.ky = true ∧ ¬ s'.ky ∈ sc.cols)) (hp : ∀ z, s'.pt = some z → z ∈ sc.ps) :
    (⟨sc.ss.set j s', sc.ps, sc.vs, sc.ms⟩ : Sch).good := by
  have hjl := (List.getElem?_eq_some_iff.mp hj).1
  have en : (⟨sc.ss.set j s', sc.ps, sc.vs, sc.ms⟩ : Sch).names = sc.names.set j s'.nm := List.map_set
  have ec : (⟨sc.ss.set j s', sc.ps, sc.vs, sc.ms⟩ : Sch).cols = sc.cols.set (sc.ps.length + j) s'.ky := by
    show sc.ps ++ ((sc.ss.set j s').map Srt.ky ++ (sc.vs ++ sc.ms)) = (sc.ps ++ (sc.ss.map Srt.ky ++ (sc.vs ++ sc.ms))).set _ _
    rw [List.map_set, set_mid (by rw [List.length_map]; exact hjl)]
  have jn : sc.names[j]? = some s.nm := by rw [Sch.names, List.getElem?_map, hj]; rfl
  have jc : sc.cols[sc.ps.length + j]? = some s.ky := by
    rw [Sch.cols, List.getElem?_append_right (Nat.le_add_right _ _), Nat.add_sub_cancel_left, List.getElem?_append_left (by rw [List.length_map]; exact hjl), List.getElem?_map, hj]
    rfl
  refine ⟨fun z hz => ?_, ?_, ?_, fun x hx z hz => ?_, by rw [List.length_set]; exact hg.l0, by rw [List.length_set]; exact hg.l1, hg.l2, hg.l3, hg.l4⟩
  · rw [en, ec] at hz
    rcases List.mem_append.mp hz with y | y
    · rcases List.mem_or_eq_of_mem_set y with e | e
      · exact hg.wnm z e
      · rw [e]
        rcases hn with c | c
        · rw [c]; exact hg.wnm _ (List.mem_of_getElem? jn)
        · exact c.1
    · rcases List.mem_or_eq_of_mem_set y with e | e
      · exact hg.wcs z e
      · rw [e]
        rcases hk with c | c
        · rw [c]; exact hg.wcs _ (List.mem_of_getElem? jc)
        · exact c.1
  · rw [en]
    rcases hn with c | c
    · rw [c, set_self jn]; exact hg.n1
    · exact nodup_set hg.n1 c.2
  · rw [ec]
    rcases hk with c | c
    · rw [c, set_self jc]; exact hg.n2
    · exact nodup_set hg.n2 c.2
  · rcases List.mem_or_eq_of_mem_set hx with e | e
    · exact hg.pt x e z hz
    · rw [e] at hz; exact hp z hz
theorem cutV_take {xs : List V} {k : Nat} (h : k ≤ xs.length) : cutV xs none (some (k : Int)) = xs.take k := by
  unfold cutV
  rw [HT.sIx_none, HT.sIx_nat, List.drop_zero, Nat.sub_zero, Nat.min_eq_left h]
theorem cutV_drop {xs : List V} {k : Nat} (h : k ≤ xs.length) : cutV xs (some (k : Int)) none = xs.drop k := by
  unfold cutV
  rw [HT.sIx_none, HT.sIx_nat, Nat.min_eq_left h, List.take_of_length_le (by rw [List.length_drop]; exact Nat.le_refl _)]
theorem set_cut {α : Type} {l : List α} {j : Nat} {x : α} (h : j < l.length) : l.set j x = l.take j ++ [x] ++ l.drop (j + 1) := by
  rw [List.set_eq_take_append_cons_drop, if_pos h, List.append_assoc]
  rfl
theorem All2.set2 {α β : Type} {P : α → β → Prop} {as : List α} {bs : List β} {j : Nat} {a : α} {b : β} (h : All2 P as bs) (p : P a b) : All2 P (as.set j a) (bs.set j b) := by
  refine ⟨by rw [List.length_set, List.length_set]; exact h.len, fun i x y h1 h2 => ?_⟩
  by_cases c : j = i
  · subst c
    have hj : j < as.length := by
      have := (List.getElem?_eq_some_iff.mp h1).1
      rw [List.length_set] at this
      exact this
    rw [List.getElem?_set_self hj] at h1
    rw [List.getElem?_set_self (by rw [← h.len]; exact hj)] at h2
    cases h1
    cases h2
    exact p
  · rw [List.getElem?_set_ne c] at h1 h2
    exact h.at_ i x y h1 h2
def spCalled : Sp := fun vs H Q _ => ∃ (d c r p : Addr) (sc : Sch), vs = [.ref d, .ref p] ∧ Drw H d c r ∧ SpecAt H p sc ∧ sc.good ∧ ∀ (p' : Addr) (sc' : Sch) (H' : Hp), sc'.good → SpecAt H' p' sc' → Drw H' d c r → Ext d r H H' → Q (.ref p') H'
theorem inV_mem {w : Str} {ws : List Str} : (!inV (.str w) (ws.map V.str)) = (!decide (w ∈ ws)) := by rw [inV_strs]
local macro_rules | `(tactic| wtm_at "rd1") => `(tactic| with_reducible first | refine r_revL ?_ | refine r_bm0 ?_)
section
variable {P : Program} {w : World} {K : PySem.W.Frag} {mg : Str → Option Value} {base : Heap}

theorem ok__law_called (T : Txt K mg) : FnOk P w K mg base CX0 3 T.f__law_called T.d__law_called ["_law_draws", "_law_spec_here"] spCalled := by
  refine T.F__law_called.ok sc__law_called (fun vs H Q E h => ?_) (fun cdv A outer s H vs Q E hr h => ?_)
  · obtain ⟨d, c, r, p, sc, rfl, _⟩ := h
    rfl
  obtain ⟨d, c, r, p, sc, rfl, D, so, hg, q⟩ := h
  refine ⟨_, (pss_cons (ps_set (i := 2) sc__law_called.nd rfl (by first | exact Or.inl rfl | exact Or.inr rfl) (pe_lc (own := [("_law_one", 5)]) (g := gName 5) (tt := tYes) rfl sc__law_called.nd (pi_list (pe_ix (r := rIxL K) ix_list (pv 1) pe_int (fun _ _ => rfl))) (blkOk_by (N := ["_law_draws", "_law_spec_here", "_law_names_here", "_law_free", "_law_at", "_law_one", "_law_word"]) (sc := defScope s__law_called) (by decide +kernel)) (fun _ _ _ _ _ => pg_name (i := 5) sc__law_called.nd rfl (by first | exact Or.inl rfl | exact Or.inr rfl)) (fun _ _ _ _ _ => pts_nil) (fun _ _ _ _ _ => (pe_ix (r := rIxT K) ix_tup (pv 5) pe_int (fun _ _ => rfl)))))
      (pss_cons (ps_setLc (i := 3) (own := [("_law_word", 6)]) (g := gName 6) rfl sc__law_called.nd rfl rfl (sw_true rfl rfl rfl (by decide +kernel)) (pi_list (pe_call (ok__law_columns T) (hr.mono (by decide)) (by rfl) T.g__law_columns T.F__law_columns.kp T.b__law_columns .nil pass0 (pa_cons (pv 1) pa_nil))) (blkOk_by (N := ["_law_draws", "_law_spec_here", "_law_names_here", "_law_free", "_law_at", "_law_one", "_law_word"]) (sc := defScope s__law_called) (by decide +kernel)) (fun _ _ _ _ _ => pg_name (i := 6) sc__law_called.nd rfl (by first | exact Or.inl rfl | exact Or.inr rfl)) (fun _ _ _ _ _ => (pts_one (pt_cmpR (r := rIn K true) op_notIn_seq (pv 6) (pv 2) (by rfl)))) (fun _ _ _ _ _ => (pv 6)))
      (pss_cons (ps_set (i := 4) sc__law_called.nd rfl (by first | exact Or.inl rfl | exact Or.inr rfl) (pe_call (ok__law_draw T) (hr.mono (by decide)) (by rfl) T.g__law_draw T.F__law_draw.kp T.b__law_draw .nil pass0 (pa_cons (pv 0) (pa_cons (pe_callB (r := rLenL K) (id := "len") c_len (by rfl) T.z_len (by decide +kernel) (pa_cons (pv 2) pa_nil)) pa_nil))))
      (pss_cons (ps_if (PW.pt (pw_or (pt_cmpR (op_eqD hr.units) (pv 3) (pe_lst pa_nil) (nomark _)) (pw_or1 (pt_cmpR op_eq (pe_call (ok__law_draw T) (hr.mono (by decide)) (by rfl) T.g__law_draw T.F__law_draw.kp T.b__law_draw .nil pass0 (pa_cons (pv 0) (pa_cons pe_int pa_nil))) pe_int (nomark _))))) (pss_one (ps_ret (pv 1))) pss_nil)
      (pss_cons (ps_set (i := 5) sc__law_called.nd rfl (by first | exact Or.inl rfl | exact Or.inr rfl) (pe_op op_catT (pe_tup (pa_cons (pe_ix (r := rIxL K) ix_list (pv 3) (pe_call (ok__law_draw T) (hr.mono (by decide)) (by rfl) T.g__law_draw T.F__law_draw.kp T.b__law_draw .nil pass0 (pa_cons (pv 0) (pa_cons (pe_callB (r := rLenL K) (id := "len") c_len (by rfl) T.z_len (by decide +kernel) (pa_cons (pv 3) pa_nil)) pa_nil))) (fun _ _ => rfl)) pa_nil)) (pe_slice sl_tup (pe_ix (r := rIxL K) ix_list (pe_ix (r := rIxL K) ix_list (pv 1) pe_int (fun _ _ => rfl)) (pv 4) (fun _ _ => rfl)) (po_some pe_int) po_none)))
      (pss_one (ps_ret (pe_op op_cat (pe_lst (pa_cons (pe_op op_cat (pe_op op_cat (pe_slice sl_list (pe_ix (r := rIxL K) ix_list (pv 1) pe_int (fun _ _ => rfl)) po_none (po_some (pv 4))) (pe_lst (pa_cons (pv 5) pa_nil))) (pe_slice sl_list (pe_ix (r := rIxL K) ix_list (pv 1) pe_int (fun _ _ => rfl)) (po_some (pe_op op_add (pv 4) pe_int)) po_none)) pa_nil)) (pe_slice sl_list (pv 1) (po_some pe_int) po_none))))))))), ?_⟩
  try simp only [nox_K, cx_K]
  have l0 := hg.l0
  have l1 := hg.l1
  have lc' := hg.lcols
  have ln' := hg.lnames
  have ln0 : 1 ≤ sc.names.length := by rw [Sch.names, List.length_map]; exact l0
  obtain ⟨aS, aP, aV, aM, ts, h0, h1, h2, h4, h5, h6⟩ := id so
  wtm_at "rd"
  refine r_itl (SqL.of h1) ?_
  refine lc_map (idxT H 0) (SqL.of h1) (by rw [List.length_map, h2.len]; omega) (fun v H' QQ hv s' hQ => ?_) fun ln n_ln => ?_
  · obtain ⟨t, ht, rfl⟩ := List.mem_map.mp hv
    obtain ⟨j, hj⟩ := List.getElem?_of_mem ht
    obtain ⟨b, _, hb⟩ := h2.get hj
    rw [idxT_at (v := .str b.nm) hb rfl] at hQ
    have hb : H' t = some (.tup [.str b.nm, .str b.ky, partV b.pt, .bl b.ds]) := s' _ _ hb
    wtm_at "rd"
    exact hQ
  have ek : (ts.map V.ref).map (idxT H 0) = sc.names.map V.str := by
    rw [Sch.names, List.map_map, List.map_map]
    exact h2.map fun a b hb => idxT_at hb rfl
  rw [ek]
  generalize eq_ln : upd _ ln _ = H1
  have s_ln : Same _ H1 := eq_ln ▸ same_new n_ln
  have h_ln : H1 ln = some _ := eq_ln ▸ upd_same
  clear eq_ln
  have so := so.same s_ln
  have D := D.same s_ln
  wtm_at "rd"
  refine ⟨p, sc, rfl, so, hg, fun lc H2 n2 s2 hc2 => ?_⟩
  have h_ln := s2 _ _ h_ln
  have D := D.same s2
  have so := so.same s2
  have s2 := s_ln.trans s2
  refine r_itl (SqL.of hc2) ?_
  refine lc_filt (fun v => !inV v (sc.names.map V.str)) (SqL.of hc2) (by rw [List.length_map]; omega) (fun x H' QT hx s' hQ => ?_) (fun x H' QQ hx s' hQ => ?_) fun lf n_lf => ?_
  · obtain ⟨w, hw, rfl⟩ := List.mem_map.mp hx
    wtm_at "rd"
    refine r_inL (SqL.of (s' _ _ h_ln)) rfl (flat_strsV _) ?_
    exact ⟨_, rfl, hQ⟩
  · wtm_at "rd"
    exact hQ
  have ef : (sc.cols.map V.str).filter (fun v => !inV v (sc.names.map V.str)) = (sc.cols.filter fun w => !decide (w ∈ sc.names)).map V.str := by
    rw [List.filter_map]
    congr 1
    refine List.filter_congr fun w _ => ?_
    exact inV_mem
  rw [ef]
  generalize hfr : (sc.cols.filter fun w => !decide (w ∈ sc.names)) = fr
  have frc : ∀ w ∈ fr, w ∈ sc.cols ∧ ¬ w ∈ sc.names := fun w hw => by
    rw [← hfr] at hw
    obtain ⟨z1, z2⟩ := List.mem_filter.mp hw
    exact ⟨z1, fun y => by rw [decide_eq_true y] at z2; cases z2⟩
  have frl : fr.length ≤ 11 := by
    rw [← hfr]
    exact Nat.le_trans (List.length_filter_le _ _) lc'
  generalize eq_lf : upd _ lf _ = H3
  have s_lf : Same _ H3 := eq_lf ▸ same_new n_lf
  have h_lf : H3 lf = some _ := eq_lf ▸ upd_same
  clear eq_lf
  have h_ln := s_lf _ _ h_ln
  have so := so.same s_lf
  have D := D.same s_lf
  have s2 := s2.trans s_lf
  wtm_at "rd"
  refine r_lenS h_ln ?_
  wtm_at "rd"
  refine ⟨d, c, r, _, rfl, D, by omega, by omega, fun k H4 k0 k1 D4 E4 => ?_⟩
  have so := so.ext D E4
  have h_lf := E4 _ _ h_lf (strs_dr D h_lf).1 (strs_dr D h_lf).2
  have E4 := (Ext.of s2).trans E4
  wtm_at "rd"
  refine r_new rfl fun e1 n_e1 => ?_
  generalize eq_e1 : upd _ e1 _ = H5
  have s_e1 : Same _ H5 := eq_e1 ▸ same_new n_e1
  have h_e1 : H5 e1 = some _ := eq_e1 ▸ upd_same
  clear eq_e1
  have h_lf := s_e1 _ _ h_lf
  have so := so.same s_e1
  have D4 := D4.same s_e1
  have E4 := E4.trans (Ext.of s_e1)
  refine r_eqW (fun w hw => hg.wcs w (frc w hw).1) (zs := []) (fun _ h => nomatch h) h_lf h_e1 ?_
  wtm_at "rd"
  refine r_ite (fun c1 => ?_) (fun c1 => ?_)
  · wtm_at "rdi"
    exact q p sc _ hg so D4 E4
  have fr0 : 1 ≤ fr.length := by
    rcases Nat.eq_zero_or_pos fr.length with z | z
    · exact absurd (List.eq_nil_of_length_eq_zero z) c1
    · exact z
  wtm_at "rd"
  refine ⟨d, c, r, 2, rfl, D4, by decide, by decide, fun k2 H6 k20 k21 D6 E6 => ?_⟩
  have so := so.ext D4 E6
  have h_lf := E6 _ _ h_lf (strs_dr D4 h_lf).1 (strs_dr D4 h_lf).2
  have E6 := E4.trans E6
  wtm_at "rd"
  refine r_ite (fun c2 => ?_) (fun c2 => ?_)
  · wtm_at "rdi"
    exact q p sc _ hg so D6 E6
  wtm_at "rd"
  refine r_lenS h_lf ?_
  wtm_at "rd"
  refine ⟨d, c, r, _, rfl, D6, by omega, by omega, fun k3 H7 k30 k31 D7 E7 => ?_⟩
  have so := so.ext D6 E7
  have h_lf := E7 _ _ h_lf (strs_dr D6 h_lf).1 (strs_dr D6 h_lf).2
  have E7 := E6.trans E7
  obtain ⟨w, hw, hm⟩ := at_strs k30 k31
  refine r_ixL (SqL.of h_lf) hw ?_
  wtm_at "rd"
  refine r_new rfl fun t1 n_t1 => ?_
  generalize eq_t1 : upd _ t1 _ = H8
  have s_t1 : Same _ H8 := eq_t1 ▸ same_new n_t1
  have h_t1 : H8 t1 = some _ := eq_t1 ▸ upd_same
  clear eq_t1
  have so := so.same s_t1
  have D7 := D7.same s_t1
  have E7 := E7.trans (Ext.of s_t1)
  obtain ⟨aS, aP, aV, aM, ts, h0, h1, h2, h4, h5, h6⟩ := id so
  have kl : k.toNat < sc.ss.length := by
    rw [Sch.names, List.length_map] at k1
    omega
  obtain ⟨t, ht, hat⟩ := at_refs k0 (gs := ts) (by rw [h2.len]; omega)
  obtain ⟨sr, hsr, hts⟩ := h2.get ht
  have hsm := List.mem_of_getElem? hsr
  wtm_at "rd"
  refine r_ixL (SqL.of h1) hat ?_
  wtm_at "rd"
  refine ⟨t, srtV sr, rfl, SqT.of hts, (fun z => absurd (show HT.sIx 4 0 (some 1) = 0 from z.1) (by decide)), fun t2 n_t2 => ?_⟩
  rw [show cutV (srtV sr) (some 1) none = [.str sr.ky, partV sr.pt, .bl sr.ds] from rfl]
  generalize eq_t2 : upd _ t2 _ = H9
  have s_t2 : Same _ H9 := eq_t2 ▸ same_new n_t2
  have h_t2 : H9 t2 = some _ := eq_t2 ▸ upd_same
  clear eq_t2
  have h0 := s_t2 _ _ h0
  have h1 := s_t2 _ _ h1
  have h4 := s_t2 _ _ h4
  have h5 := s_t2 _ _ h5
  have h6 := s_t2 _ _ h6
  have h_t1 := s_t2 _ _ h_t1
  have D7 := D7.same s_t2
  have E7 := E7.trans (Ext.of s_t2)
  have h2 := h2.imp fun _ _ z => s_t2 _ _ z
  refine ⟨t1, t2, _, _, rfl, rfl, SqT.of h_t1, SqT.of h_t2, (fun z => nomatch z), Nat.le_of_ble_eq_true rfl, (fun z => nomatch z), fun _ t3 n_t3 => ?_⟩
  generalize eq_t3 : upd _ t3 _ = H10
  have s_t3 : Same _ H10 := eq_t3 ▸ same_new n_t3
  have h_t3 : H10 t3 = some _ := eq_t3 ▸ upd_same
  clear eq_t3
  have h0 := s_t3 _ _ h0
  have h1 := s_t3 _ _ h1
  have h4 := s_t3 _ _ h4
  have h5 := s_t3 _ _ h5
  have h6 := s_t3 _ _ h6
  have D7 := D7.same s_t3
  have E7 := E7.trans (Ext.of s_t3)
  have h2 := h2.imp fun _ _ z => s_t3 _ _ z
  have h_t3 : H10 t3 = some (.tup (srtV ⟨w, sr.ky, sr.pt, sr.ds⟩)) := h_t3
  have tl : ts.length ≤ 3 := by rw [h2.len]; exact l1
  have ktl : k.toNat < ts.length := by rw [h2.len]; exact kl
  have ek : ((k.toNat : Nat) : Int) = k := Int.toNat_of_nonneg k0
  wtm_at "rd"
  refine r_slL (SqL.of h1) fun u1 n_u1 => ?_
  rw [← ek, cutV_take (by rw [List.length_map]; omega), ← List.map_take]
  generalize eq_u1 : upd _ u1 _ = H11
  have s_u1 : Same _ H11 := eq_u1 ▸ same_new n_u1
  have h_u1 : H11 u1 = some _ := eq_u1 ▸ upd_same
  clear eq_u1
  have h0 := s_u1 _ _ h0
  have h1 := s_u1 _ _ h1
  have h4 := s_u1 _ _ h4
  have h5 := s_u1 _ _ h5
  have h6 := s_u1 _ _ h6
  have h_t3 := s_u1 _ _ h_t3
  have D7 := D7.same s_u1
  have E7 := E7.trans (Ext.of s_u1)
  have h2 := h2.imp fun _ _ z => s_u1 _ _ z
  wtm_at "rd"
  refine r_new rfl fun u2 n_u2 => ?_
  generalize eq_u2 : upd _ u2 _ = H12
  have s_u2 : Same _ H12 := eq_u2 ▸ same_new n_u2
  have h_u2 : H12 u2 = some _ := eq_u2 ▸ upd_same
  clear eq_u2
  have h0 := s_u2 _ _ h0
  have h1 := s_u2 _ _ h1
  have h4 := s_u2 _ _ h4
  have h5 := s_u2 _ _ h5
  have h6 := s_u2 _ _ h6
  have h_t3 := s_u2 _ _ h_t3
  have h_u1 := s_u2 _ _ h_u1
  have D7 := D7.same s_u2
  have E7 := E7.trans (Ext.of s_u2)
  have h2 := h2.imp fun _ _ z => s_u2 _ _ z
  have tk : (ts.take k.toNat).length ≤ 3 := by rw [List.length_take]; omega
  have td : (ts.drop (k.toNat + 1)).length ≤ 3 := by rw [List.length_drop]; omega
  refine ⟨u1, u2, _, _, rfl, rfl, h_u1, h_u2, Nat.le_of_lt (small1000 (by rw [List.length_map]; show _ + 1 ≤ 1000; omega)), fun u3 n_u3 => ?_⟩
  generalize eq_u3 : upd _ u3 _ = H13
  have s_u3 : Same _ H13 := eq_u3 ▸ same_new n_u3
  have h_u3 : H13 u3 = some _ := eq_u3 ▸ upd_same
  clear eq_u3
  have h0 := s_u3 _ _ h0
  have h1 := s_u3 _ _ h1
  have h4 := s_u3 _ _ h4
  have h5 := s_u3 _ _ h5
  have h6 := s_u3 _ _ h6
  have h_t3 := s_u3 _ _ h_t3
  have D7 := D7.same s_u3
  have E7 := E7.trans (Ext.of s_u3)
  have h2 := h2.imp fun _ _ z => s_u3 _ _ z
  wtm_at "rd"
  refine r_slL (SqL.of h1) fun u4 n_u4 => ?_
  rw [show ((k.toNat : Nat) : Int) + 1 = ((k.toNat + 1 : Nat) : Int) from rfl, cutV_drop (by rw [List.length_map]; omega), ← List.map_drop]
  generalize eq_u4 : upd _ u4 _ = H14
  have s_u4 : Same _ H14 := eq_u4 ▸ same_new n_u4
  have h_u4 : H14 u4 = some _ := eq_u4 ▸ upd_same
  clear eq_u4
  have h0 := s_u4 _ _ h0
  have h1 := s_u4 _ _ h1
  have h4 := s_u4 _ _ h4
  have h5 := s_u4 _ _ h5
  have h6 := s_u4 _ _ h6
  have h_t3 := s_u4 _ _ h_t3
  have h_u3 := s_u4 _ _ h_u3
  have D7 := D7.same s_u4
  have E7 := E7.trans (Ext.of s_u4)
  have h2 := h2.imp fun _ _ z => s_u4 _ _ z
  refine ⟨u3, u4, _, _, rfl, rfl, h_u3, h_u4, Nat.le_of_lt (small1000 (by rw [List.length_append, List.length_map, List.length_map]; show _ + 1 + _ ≤ 1000; omega)), fun u5 n_u5 => ?_⟩
  generalize eq_u5 : upd _ u5 _ = H15
  have s_u5 : Same _ H15 := eq_u5 ▸ same_new n_u5
  have h_u5 : H15 u5 = some _ := eq_u5 ▸ upd_same
  clear eq_u5
  have h0 := s_u5 _ _ h0
  have h1 := s_u5 _ _ h1
  have h4 := s_u5 _ _ h4
  have h5 := s_u5 _ _ h5
  have h6 := s_u5 _ _ h6
  have h_t3 := s_u5 _ _ h_t3
  have D7 := D7.same s_u5
  have E7 := E7.trans (Ext.of s_u5)
  have h2 := h2.imp fun _ _ z => s_u5 _ _ z
  have h_u5 : H15 u5 = some (.lst ((ts.set k.toNat t3).map V.ref)) := by
    rw [h_u5, set_cut ktl, List.map_append, List.map_append]
    rfl
  wtm_at "rd"
  refine r_new rfl fun u6 n_u6 => ?_
  generalize eq_u6 : upd _ u6 _ = H16
  have s_u6 : Same _ H16 := eq_u6 ▸ same_new n_u6
  have h_u6 : H16 u6 = some _ := eq_u6 ▸ upd_same
  clear eq_u6
  have h0 := s_u6 _ _ h0
  have h4 := s_u6 _ _ h4
  have h5 := s_u6 _ _ h5
  have h6 := s_u6 _ _ h6
  have h_t3 := s_u6 _ _ h_t3
  have h_u5 := s_u6 _ _ h_u5
  have D7 := D7.same s_u6
  have E7 := E7.trans (Ext.of s_u6)
  have h2 := h2.imp fun _ _ z => s_u6 _ _ z
  wtm_at "rd"
  refine r_slL (SqL.of h0) fun u7 n_u7 => ?_
  rw [cut1_3]
  generalize eq_u7 : upd _ u7 _ = H17
  have s_u7 : Same _ H17 := eq_u7 ▸ same_new n_u7
  have h_u7 : H17 u7 = some _ := eq_u7 ▸ upd_same
  clear eq_u7
  have h4 := s_u7 _ _ h4
  have h5 := s_u7 _ _ h5
  have h6 := s_u7 _ _ h6
  have h_t3 := s_u7 _ _ h_t3
  have h_u5 := s_u7 _ _ h_u5
  have h_u6 := s_u7 _ _ h_u6
  have D7 := D7.same s_u7
  have E7 := E7.trans (Ext.of s_u7)
  have h2 := h2.imp fun _ _ z => s_u7 _ _ z
  refine ⟨u6, u7, _, _, rfl, rfl, h_u6, h_u7, Nat.le_of_ble_eq_true rfl, fun u8 n_u8 => ?_⟩
  generalize eq_u8 : upd _ u8 _ = H18
  have s_u8 : Same _ H18 := eq_u8 ▸ same_new n_u8
  have h_u8 : H18 u8 = some _ := eq_u8 ▸ upd_same
  clear eq_u8
  have h4 := s_u8 _ _ h4
  have h5 := s_u8 _ _ h5
  have h6 := s_u8 _ _ h6
  have h_t3 := s_u8 _ _ h_t3
  have h_u5 := s_u8 _ _ h_u5
  have D7 := D7.same s_u8
  have E7 := E7.trans (Ext.of s_u8)
  have h2 := h2.imp fun _ _ z => s_u8 _ _ z
  exact q u8 ⟨sc.ss.set k.toNat ⟨w, sr.ky, sr.pt, sr.ds⟩, sc.ps, sc.vs, sc.ms⟩ _ (good_set hg hsr (.inr ⟨hg.wcs w (frc w hm).1, (frc w hm).2⟩) (.inl rfl) fun z hz => hg.pt sr hsm z hz) ⟨u5, aP, aV, aM, ts.set k.toNat t3, h_u8, h_u5, h2.set2 h_t3, h4, h5, h6⟩ D7 E7
end
/-! ### comprehensions that make a new tuple for each item -/
theorem lc_tups {σ : L2.St} {H : Hp} {Q : VK} {te : TE} {K : PySem.W.Frag} {a : Addr} {xs : List V} {n : Nat} (f : V → List V) (hS : SqL K H a xs) (hz : xs.length ≤ 1000)
    (he : ∀ (x : V) (H' : Hp) (QQ : VK), x ∈ xs → Same H H' → (∀ u H'', H' u = none → H'' u = some (.tup (f x)) → Same H' H'' → QQ (.ref u) H'') → te ((wipe σ [n]).set n (some x)) H' QQ)
    (hq : ∀ D (us : List Addr) H', H D = none → us.length = xs.length → H' D = some (.lst (us.map V.ref)) → (∀ (j : Nat) (u : Addr) (x : V), us[j]? = some u → xs[j]? = some x → H' u = some (.tup (f x))) → Same H H' → Q (.ref D) H') : lcGo (Itl K a) (gName n) tYes te [n] σ Q H := by
  intro D nD
  refine lc_list (K := K) (a := a) (xs := xs) (fun i H' => ∃ us : List Addr, us.length = i ∧ H' D = some (.lst (us.map V.ref)) ∧ (∀ (j : Nat) (u : Addr) (x : V), us[j]? = some u → xs[j]? = some x → H' u = some (.tup (f x))) ∧ Same H H') ⟨[], rfl, upd_same, fun j u x h => (by cases h), same_new nD⟩ (fun i H' _ ⟨_, _, _, _, s⟩ => s.seq hS) ?_ ?_
  · rintro i x H4 hx ⟨us, hl, hD4, hu, s4⟩
    refine ⟨wipe1, ?_⟩
    show te _ _ _
    refine he x H4 _ (List.mem_of_getElem? hx) s4 fun u H5 nu hu5 s5 => ?_
    have hD5 := s5 _ _ hD4
    have hi : i < xs.length := (List.getElem?_eq_some_iff.mp hx).1
    refine ⟨_, hD5, small1000 (by rw [List.length_map, hl]; omega), us ++ [u], by rw [List.length_append, hl]; rfl, by rw [upd_same, List.map_append]; rfl, fun j v y h1 h2 => ?_, fun b o e => (upd_ne (ne_of_none e nD)).trans (s5 _ _ (s4 _ _ e))⟩
    rcases Nat.lt_or_ge j us.length with hj | hj
    · rw [List.getElem?_append_left hj] at h1
      have z := s5 _ _ (hu j v y h1 h2)
      exact (upd_ne (ne_of z hD5 fun q => nomatch q)).trans z
    · rw [List.getElem?_append_right hj] at h1
      cases hk : j - us.length with
      | zero =>
        rw [hk] at h1
        cases h1
        have : j = i := by omega
        rw [this, hx] at h2
        cases h2
        exact (upd_ne (ne_of hu5 hD5 fun q => nomatch q)).trans hu5
      | succ m => rw [hk] at h1; cases h1
  · rintro H4 ⟨us, hl, hD4, hu, s4⟩
    exact hq D us H4 nD hl hD4 hu s4

theorem good_perm {sc sc' : Sch} (hg : sc.good) (h1 : sc'.ss.Perm sc.ss) (h2 : sc'.ps.Perm sc.ps) (h3 : (sc'.vs ++ sc'.ms).Perm (sc.vs ++ sc.ms)) (l3 : sc'.vs.length ≤ 3) (l4 : sc'.ms.length ≤ 3) : sc'.good := by
  have pn : sc'.names.Perm sc.names := h1.map _
  have pc : sc'.cols.Perm sc.cols := h2.append ((h1.map _).append h3)
  refine ⟨fun z hz => ?_, pn.nodup_iff.mpr hg.n1, pc.nodup_iff.mpr hg.n2, fun x hx z hz => h2.mem_iff.mpr (hg.pt x (h1.mem_iff.mp hx) z hz), by rw [h1.length_eq]; exact hg.l0, by rw [h1.length_eq]; exact hg.l1, by rw [h2.length_eq]; exact hg.l2, l3, l4⟩
  rcases List.mem_append.mp hz with y | y
  · exact hg.wnm z (pn.mem_iff.mp y)
  · exact hg.wcs z (pc.mem_iff.mp y)
theorem good_add {sc sc' : Sch} {w : Str} (hg : sc.good) (h1 : sc'.ss = sc.ss) (hp : ∀ z ∈ sc.ps, z ∈ sc'.ps) (pc : sc'.cols.Perm (w :: sc.cols)) (hw : isNameB w = true) (hn : ¬ w ∈ sc.cols) (l2 : sc'.ps.length ≤ 2) (l3 : sc'.vs.length ≤ 3) (l4 : sc'.ms.length ≤ 3) : sc'.good := by
  have pn : sc'.names = sc.names := by rw [Sch.names, h1]; rfl
  refine ⟨fun z hz => ?_, by rw [pn]; exact hg.n1, pc.nodup_iff.mpr (List.nodup_cons.mpr ⟨hn, hg.n2⟩), fun x hx z hz => hp z (hg.pt x (by rw [← h1]; exact hx) z hz), by rw [h1]; exact hg.l0, by rw [h1]; exact hg.l1, l2, l3, l4⟩
  rcases List.mem_append.mp hz with y | y
  · rw [pn] at y; exact hg.wnm z y
  · rcases List.mem_cons.mp (pc.mem_iff.mp y) with e | e
    · rw [e]; exact hw
    · exact hg.wcs z e
theorem All2.rev {α β : Type} {P : α → β → Prop} {as : List α} {bs : List β} (h : All2 P as bs) : All2 P as.reverse bs.reverse := by
  refine ⟨by rw [List.length_reverse, List.length_reverse]; exact h.len, fun j a b h1 h2 => ?_⟩
  have hj : j < as.length := by
    have := (List.getElem?_eq_some_iff.mp h1).1
    rw [List.length_reverse] at this
    exact this
  rw [List.getElem?_reverse hj] at h1
  rw [List.getElem?_reverse (by rw [← h.len]; exact hj), ← h.len] at h2
  exact h.at_ _ a b h1 h2
section
variable {H0 H H' : Hp} {d c r aS aK u aP aV aM : Addr} {sc : Sch}
theorem SpB.fresh (B : SpB H0 H d c r aS aK sc) (n : H u = none) : H0 u = none := by
  cases hh : H0 u with
  | none => rfl
  | some o =>
    have z := B.keep u o hh (B.drw.ned n) (B.drw.ner n)
    rw [n] at z
    cases z
theorem SpB.rev {ts : List Addr} (B : SpB H0 H d c r aS aK sc) (h1 : H aS = some (.lst (ts.map V.ref))) (s : Same H H') (hu : H' u = some (.lst (ts.reverse.map V.ref))) : SpB H0 H' d c r u aK ⟨sc.ss.reverse, sc.ps, sc.vs, sc.ms⟩ := by
  obtain ⟨⟨ts', aP, aV, aM, g1, g2, g3, g4, g5, g6, nd, n1, n2, n3, f1, f2, f3, f4⟩, D, E⟩ := B
  have e : ts = ts' := by
    rw [h1] at g1
    injection g1 with z
    exact (List.map_inj_right fun a b e => V.ref.inj e).mp (HO.lst.inj z)
  subst e
  exact ⟨⟨ts.reverse, aP, aV, aM, hu, (g2.imp fun _ _ z => s _ _ z).rev, s _ _ g3, s _ _ g4, s _ _ g5, s _ _ g6, (List.reverse_perm ts).nodup_iff.mpr nd, n1, n2, n3, fun t ht => f1 t (List.mem_reverse.mp ht), f2, f3, f4⟩, D.same s, E.trans (Ext.of s)⟩
/-- the three lists of words -/
theorem SpB.ks (B : SpB H0 H d c r aS aK sc) (l0 : 0 < sc.ss.length) (h3 : H aK = some (.lst [.ref aP, .ref aV, .ref aM])) : H aP = some (.lst (sc.ps.map V.str)) ∧ H aV = some (.lst (sc.vs.map V.str)) ∧ H aM = some (.lst (sc.ms.map V.str)) ∧ aK ≠ aP ∧ aK ≠ aV ∧ aK ≠ aM ∧ aV ≠ aM ∧
    (∀ ws : List Str, SpB H0 (upd H aP (.lst (ws.map V.str))) d c r aS aK ⟨sc.ss, ws, sc.vs, sc.ms⟩) ∧ (∀ ws : List Str, SpB H0 (upd H aV (.lst (ws.map V.str))) d c r aS aK ⟨sc.ss, sc.ps, ws, sc.ms⟩) ∧ (∀ ws : List Str, SpB H0 (upd H aM (.lst (ws.map V.str))) d c r aS aK ⟨sc.ss, sc.ps, sc.vs, ws⟩) := by
  obtain ⟨xs0, x0, p0, q0, r0, f0⟩ := B.setK l0 (k := 0) (by decide) (by decide)
  obtain ⟨xs1, x1, p1, q1, r1, f1⟩ := B.setK l0 (k := 1) (by decide) (by decide)
  obtain ⟨xs2, x2, p2, q2, r2, f2⟩ := B.setK l0 (k := 2) (by decide) (by decide)
  rw [h3] at p0 p1 p2
  cases p0
  cases p1
  cases p2
  cases q0
  cases q1
  cases q2
  obtain ⟨ts, aP', aV', aM', _, _, g3, _, _, _, _, _, _, n3, _⟩ := B.ex
  rw [h3] at g3
  cases g3
  have k3 : H aK = some (.lst ([aP, aV, aM].map V.ref)) := h3
  have key : ∀ {a : Addr} {ws : List Str}, H a = some (.lst (ws.map V.str)) → aK ≠ a := fun {a ws} ha => ne_of k3 ha fun z => by
    have z := HO.lst.inj z
    cases ws with
    | nil => cases z
    | cons y ws => cases z
  exact ⟨r0, r1, r2, key r0, key r1, key r2, n3, f0, f1, f2⟩
theorem SpB.newV {vs' : List Str} (B : SpB H0 H' d c r aS aK sc) (l0 : 0 < sc.ss.length) (h3 : H' aK = some (.lst [.ref aP, .ref aV, .ref aM])) (hS : aS ≠ aK) (fK : H0 aK = none) (n : H u = none) (s : Same H H') (h3' : H aK = some (.lst [.ref aP, .ref aV, .ref aM])) (B0 : SpB H0 H d c r aS aK sc) (hu : H' u = some (.lst (vs'.map V.str))) :
    SpB H0 (upd H' aK (.lst [.ref aP, .ref u, .ref aM])) d c r aS aK ⟨sc.ss, sc.ps, vs', sc.ms⟩ := by
  obtain ⟨e1, e2, e3, m1, m2, m3, _⟩ := B.ks l0 h3
  obtain ⟨b1, b2, b3, _⟩ := B0.ks l0 h3'
  have fu := B0.fresh n
  have uK : aK ≠ u := ne_of_none h3' n
  have uP : aP ≠ u := ne_of_none b1 n
  have uM : aM ≠ u := ne_of_none b3 n
  obtain ⟨⟨ts, aP', aV', aM', g1, g2, g3, g4, g5, g6, nd, n1, n2, n3, f1, f2, f3, f4⟩, D, E⟩ := B
  rw [h3] at g3
  cases g3
  have k3 : H' aK = some (.lst ([aP, aV, aM].map V.ref)) := h3
  have dk := refs_drc D k3
  have tK : ∀ {t : Addr} {s : Srt}, H' t = some (.lst (srtV s)) → t ≠ aK := fun {t s} ht => ne_of ht h3 fun z => by
    have z := HO.lst.inj z
    cases z
  exact ⟨⟨ts, aP, u, aM, (upd_ne hS).trans g1, g2.imp fun _ _ z => (upd_ne (tK z)).trans z, upd_same, (upd_ne m1.symm).trans e1, (upd_ne uK.symm).trans hu, (upd_ne m3.symm).trans e3, nd, uP, n2, uM.symm, f1, f2, fu, f4⟩, D.put dk.1 dk.2.1 dk.2.2, fun b o e x1 x2 => (upd_ne (ne_of_none e fK)).trans (E b o e x1 x2)⟩
end
theorem last_of {ms : List Str} (h : 0 < ms.length) : ∃ m0 z, ms = m0 ++ [z] := by
  rcases List.eq_nil_or_concat ms with e | ⟨m0, z, e⟩
  · rw [e] at h; cases h
  · exact ⟨m0, z, by rw [e, List.concat_eq_append]⟩
theorem last_at {m0 : List Str} {z : Str} : ((m0 ++ [z]).map V.str)[((m0 ++ [z]).map V.str).length - 1]? = some (.str z) := by
  rw [List.length_map, List.length_append, show m0.length + [z].length - 1 = m0.length from rfl, List.getElem?_map, List.getElem?_append_right (Nat.le_refl _), Nat.sub_self]
  rfl
theorem last_drop {m0 : List Str} {z : Str} : ((m0 ++ [z]).map V.str).dropLast = m0.map V.str := by
  rw [List.map_append]
  exact List.dropLast_concat
section
variable {P : Program} {w : World} {K : PySem.W.Frag} {mg : Str → Option Value} {base : Heap}

theorem ok__law_changed (T : Txt K mg) : FnOk P w K mg base CX0 4 T.f__law_changed T.d__law_changed ["_law_draws", "_law_spec_here"] spCalled := by
  refine T.F__law_changed.ok sc__law_changed (fun vs H Q E h => ?_) (fun cdv A outer s H vs Q E hr h => ?_)
  · obtain ⟨d, c, r, p, sc, rfl, _⟩ := h
    rfl
  obtain ⟨d, c, r, p, sc, rfl, D, so, hg, q⟩ := h
  refine ⟨_, (pss_cons (ps_setLc (i := 2) (own := [("_law_one", 7)]) (g := gName 7) (tt := tYes) rfl sc__law_changed.nd rfl rfl (sw_true rfl rfl rfl (by decide +kernel)) (pi_list (pe_ix (r := rIxL K) ix_list (pv 1) pe_int (fun _ _ => rfl))) (blkOk_by (N := ["_law_draws", "_law_spec_here", "_law_sorts", "_law_kinds", "_law_fresh", "_law_at", "_law_way", "_law_one", "_law_words"]) (sc := defScope s__law_changed) (by decide +kernel)) (fun _ _ _ _ _ => pg_name (i := 7) sc__law_changed.nd rfl (by first | exact Or.inl rfl | exact Or.inr rfl)) (fun _ _ _ _ _ => pts_nil) (fun _ _ _ _ _ => (pe_callTy (r := rListA K) (T := "list") c_listA (by rfl) T.z_list (by decide +kernel) (pa_cons (pv 7) pa_nil))))
      (pss_cons (ps_setLc (i := 3) (own := [("_law_words", 8)]) (g := gName 8) (tt := tYes) rfl sc__law_changed.nd rfl rfl (sw_true rfl rfl rfl (by decide +kernel)) (pi_list (pe_slice sl_list (pv 1) (po_some pe_int) po_none)) (blkOk_by (N := ["_law_draws", "_law_spec_here", "_law_sorts", "_law_kinds", "_law_fresh", "_law_at", "_law_way", "_law_one", "_law_words"]) (sc := defScope s__law_changed) (by decide +kernel)) (fun _ _ _ _ _ => pg_name (i := 8) sc__law_changed.nd rfl (by first | exact Or.inl rfl | exact Or.inr rfl)) (fun _ _ _ _ _ => pts_nil) (fun _ _ _ _ _ => (pe_callTy (r := rListA K) (T := "list") c_listA (by rfl) T.z_list (by decide +kernel) (pa_cons (pv 8) pa_nil))))
      (pss_cons (ps_set (i := 4) sc__law_changed.nd rfl (by first | exact Or.inl rfl | exact Or.inr rfl) (pe_call (ok__law_name T) (hr.mono (by decide)) (by rfl) T.g__law_name T.F__law_name.kp T.b__law_name .nil pass0 (pa_cons (pv 0) (pa_cons (pe_op op_cat (pe_call (ok__law_columns T) (hr.mono (by decide)) (by rfl) T.g__law_columns T.F__law_columns.kp T.b__law_columns .nil pass0 (pa_cons (pv 1) pa_nil)) (pe_lc (own := [("_law_one", 7)]) (g := gName 7) (tt := tYes) rfl sc__law_changed.nd (pi_list (pe_ix (r := rIxL K) ix_list (pv 1) pe_int (fun _ _ => rfl))) (blkOk_by (N := ["_law_draws", "_law_spec_here", "_law_sorts", "_law_kinds", "_law_fresh", "_law_at", "_law_way", "_law_one", "_law_words"]) (sc := defScope s__law_changed) (by decide +kernel)) (fun _ _ _ _ _ => pg_name (i := 7) sc__law_changed.nd rfl (by first | exact Or.inl rfl | exact Or.inr rfl)) (fun _ _ _ _ _ => pts_nil) (fun _ _ _ _ _ => (pe_ix (r := rIxT K) ix_tup (pv 7) pe_int (fun _ _ => rfl))))) pa_nil))))
      (pss_cons (ps_set (i := 5) sc__law_changed.nd rfl (by first | exact Or.inl rfl | exact Or.inr rfl) (pe_call (ok__law_draw T) (hr.mono (by decide)) (by rfl) T.g__law_draw T.F__law_draw.kp T.b__law_draw .nil pass0 (pa_cons (pv 0) (pa_cons (pe_callB (r := rLenL K) (id := "len") c_len (by rfl) T.z_len (by decide +kernel) (pa_cons (pv 2) pa_nil)) pa_nil))))
      (pss_cons (ps_set (i := 6) sc__law_changed.nd rfl (by first | exact Or.inl rfl | exact Or.inr rfl) (pe_call (ok__law_draw T) (hr.mono (by decide)) (by rfl) T.g__law_draw T.F__law_draw.kp T.b__law_draw .nil pass0 (pa_cons (pv 0) (pa_cons pe_int pa_nil))))
      (C8.pss_cut (ps_if (pt_cmpR op_eq (pv 6) pe_int (nomark _)) (pss_one (ps_asg (pe_not (pe_ix (r := rIxL K) ix_list (pe_ix (r := rIxL K) ix_list (pv 2) (pv 5) (fun _ _ => rfl)) pe_int (fun _ _ => rfl))) (pg_sub (pe_ix (r := rIxL K) ix_list (pv 2) (pv 5) (fun _ _ => rfl)) pe_int set_list))) pss_nil)
      (C8.pss_cut (ps_if (pt_cmpR op_eq (pv 6) pe_int (nomark _)) (pss_one (ps_asg (pv 4) (pg_sub (pe_ix (r := rIxL K) ix_list (pv 2) (pv 5) (fun _ _ => rfl)) pe_int set_list))) pss_nil)
      (C8.pss_cut (ps_if (pt_cmpR op_eq (pv 6) pe_int (nomark _)) (pss_one (ps_asg (pv 4) (pg_sub (pe_ix (r := rIxL K) ix_list (pv 2) (pv 5) (fun _ _ => rfl)) pe_int set_list))) pss_nil)
      (C8.pss_cut (ps_if (pt_cmpR op_eq (pv 6) pe_int (nomark _)) (pss_one (ps_asg (pe_ix (r := rIxL K) ix_list (pe_op op_cat (pe_lst (pa_cons pe_non pa_nil)) (pe_ix (r := rIxL K) ix_list (pv 3) pe_int (fun _ _ => rfl))) (pe_call (ok__law_draw T) (hr.mono (by decide)) (by rfl) T.g__law_draw T.F__law_draw.kp T.b__law_draw .nil pass0 (pa_cons (pv 0) (pa_cons (pe_op op_add (pe_callB (r := rLenL K) (id := "len") c_len (by rfl) T.z_len (by decide +kernel) (pa_cons (pe_ix (r := rIxL K) ix_list (pv 3) pe_int (fun _ _ => rfl)) pa_nil)) pe_int) pa_nil))) (fun _ _ => rfl)) (pg_sub (pe_ix (r := rIxL K) ix_list (pv 2) (pv 5) (fun _ _ => rfl)) pe_int set_list))) pss_nil)
      (C8.pss_cut (ps_if (pt_cmpR op_eq (pv 6) pe_int (nomark _)) (pss_one (ps_set (i := 2) sc__law_changed.nd rfl (by first | exact Or.inl rfl | exact Or.inr rfl) (pe_revL (pv 2)))) pss_nil)
      (C8.pss_cut (ps_if (pt_cmpR op_eq (pv 6) pe_int (nomark _)) (pss_one (ps_asg (pe_revL (pe_ix (r := rIxL K) ix_list (pv 3) pe_int (fun _ _ => rfl))) (pg_sub (pv 3) pe_int set_list))) pss_nil)
      (C8.pss_cut (ps_if (PW.pt (pw_and (pt_cmpR op_eq (pv 6) pe_int (nomark _)) (pw_and (pt_cmpR op_gt (pe_callB (r := rLenL K) (id := "len") c_len (by rfl) T.z_len (by decide +kernel) (pa_cons (pe_ix (r := rIxL K) ix_list (pv 3) pe_int (fun _ _ => rfl)) pa_nil)) pe_int (nomark _)) (pw_and1 (pt_cmpR op_lt (pe_callB (r := rLenL K) (id := "len") c_len (by rfl) T.z_len (by decide +kernel) (pa_cons (pe_ix (r := rIxL K) ix_list (pv 3) pe_int (fun _ _ => rfl)) pa_nil)) pe_int (nomark _)))))) (pss_one (ps_expr (pe_bm PySem.F.plainAttrs_list PySem.F.slot_list_append PySem.F.type_list_append mt_append (pe_ix (r := rIxL K) ix_list (pv 3) pe_int (fun _ _ => rfl)) (pa_cons (pe_bm0 PySem.F.plainAttrs_list PySem.F.slot_list_pop PySem.F.type_list_pop mt_pop (pe_ix (r := rIxL K) ix_list (pv 3) pe_int (fun _ _ => rfl))) pa_nil)))) pss_nil)
      (C8.pss_cut (ps_if (PW.pt (pw_and (pt_cmpR op_eq (pv 6) pe_int (nomark _)) (pw_and1 (pt_cmpR op_lt (pe_callB (r := rLenL K) (id := "len") c_len (by rfl) T.z_len (by decide +kernel) (pa_cons (pe_ix (r := rIxL K) ix_list (pv 3) pe_int (fun _ _ => rfl)) pa_nil)) pe_int (nomark _))))) (pss_one (ps_expr (pe_bm PySem.F.plainAttrs_list PySem.F.slot_list_append PySem.F.type_list_append mt_append (pe_ix (r := rIxL K) ix_list (pv 3) pe_int (fun _ _ => rfl)) (pa_cons (pv 4) pa_nil)))) pss_nil)
      (C8.pss_cut (ps_if (PW.pt (pw_and (pt_cmpR op_eq (pv 6) pe_int (nomark _)) (pw_and1 (pt_cmpR op_lt (pe_callB (r := rLenL K) (id := "len") c_len (by rfl) T.z_len (by decide +kernel) (pa_cons (pe_ix (r := rIxL K) ix_list (pv 3) pe_int (fun _ _ => rfl)) pa_nil)) pe_int (nomark _))))) (pss_one (ps_expr (pe_bm PySem.F.plainAttrs_list PySem.F.slot_list_append PySem.F.type_list_append mt_append (pe_ix (r := rIxL K) ix_list (pv 3) pe_int (fun _ _ => rfl)) (pa_cons (pv 4) pa_nil)))) pss_nil)
      (C8.pss_cut (ps_if (pt_cmpR op_gt (pv 6) pe_int (nomark _)) (pss_one (ps_expr (pe_bm0 PySem.F.plainAttrs_list PySem.F.slot_list_reverse PySem.F.type_list_reverse mt_reverse (pe_ix (r := rIxL K) ix_list (pv 3) (pe_ix (r := rIxL K) ix_list (pe_lst (pa_cons pe_int (pa_cons pe_int pa_nil))) (pe_op op_sub (pv 6) pe_int) (fun _ _ => rfl)) (fun _ _ => rfl))))) pss_nil)
      (pss_one (ps_ret (pe_op op_cat (pe_lst (pa_cons (pe_lc (own := [("_law_one", 7)]) (g := gName 7) (tt := tYes) rfl sc__law_changed.nd (pi_list (pv 2)) (blkOk_by (N := ["_law_draws", "_law_spec_here", "_law_sorts", "_law_kinds", "_law_fresh", "_law_at", "_law_way", "_law_one", "_law_words"]) (sc := defScope s__law_changed) (by decide +kernel)) (fun _ _ _ _ _ => pg_name (i := 7) sc__law_changed.nd rfl (by first | exact Or.inl rfl | exact Or.inr rfl)) (fun _ _ _ _ _ => pts_nil) (fun _ _ _ _ _ => (pe_callTy (r := rTupA K) (T := "tuple") c_tupA (by rfl) T.z_tuple (by decide +kernel) (pa_cons (pv 7) pa_nil)))) pa_nil)) (pv 3))))))))))))))))))), ?_⟩
  try simp only [nox_K, cx_K]
  have l0 := hg.l0
  have l1 := hg.l1
  have l2 := hg.l2
  have l3 := hg.l3
  have l4 := hg.l4
  have lc' := hg.lcols
  have ln' := hg.lnames
  obtain ⟨aS, aP, aV, aM, ts, h0, h1, h2, h4, h5, h6⟩ := id so
  wtm_at "rd"
  refine r_itl (SqL.of h1) ?_
  refine lc_lsts (itemsOf H) (SqL.of h1) (by rw [List.length_map, h2.len]; omega) (fun x H2 QQ hx s2 hQ => ?_) fun D1 us H5 nD1 lus nus fus hD1 hus s5 => ?_
  · obtain ⟨t, ht, rfl⟩ := List.mem_map.mp hx
    obtain ⟨j, hj⟩ := List.getElem?_of_mem ht
    obtain ⟨b, _, hb⟩ := h2.get hj
    rw [items_tup hb] at hQ
    wtm_at "rd"
    exact r_listA (.inr (SqT.of (s2 _ _ hb))) hQ
  rw [List.length_map] at lus
  have hus : All2 (fun t s => H5 t = some (.lst (srtV s))) us sc.ss := by
    refine ⟨by rw [lus, h2.len], fun j u s e1 e2 => ?_⟩
    have hj : j < ts.length := by rw [← lus]; exact (List.getElem?_eq_some_iff.mp e1).1
    have ht : ts[j]? = some ts[j] := List.getElem?_eq_getElem hj
    have z := hus j u (.ref ts[j]) e1 (by rw [List.getElem?_map, ht]; rfl)
    rw [items_tup (h2.at_ _ _ _ ht e2)] at z
    exact z
  have h05 := s5 _ _ h0
  wtm_at "rd"
  refine r_slL (SqL.of h05) fun l1x n_l1x => ?_
  rw [cut1_3]
  generalize eq_l1x : upd _ l1x _ = H6
  have s_l1x : Same _ H6 := eq_l1x ▸ same_new n_l1x
  have h_l1x : H6 l1x = some _ := eq_l1x ▸ upd_same
  clear eq_l1x
  have hD1 := s_l1x _ _ hD1
  have s5 := s5.trans s_l1x
  have hus := hus.imp fun _ _ z => s_l1x _ _ z
  have g4 := s5 _ _ h4
  have g5 := s5 _ _ h5
  have g6 := s5 _ _ h6
  refine r_itl (SqL.of h_l1x) ?_
  refine lc_lsts (itemsOf H6) (SqL.of h_l1x) (by show 3 ≤ 1000; decide) (fun x H2 QQ hx s2 hQ => ?_) fun D2 vs H7 nD2 lvs nvs fvs hD2 hvs s7 => ?_
  · have : ∃ (t : Addr) (xs : List V), x = .ref t ∧ H6 t = some (.lst xs) := by
      simp only [List.mem_cons, List.mem_nil_iff, or_false] at hx
      rcases hx with rfl | rfl | rfl
      · exact ⟨_, _, rfl, g4⟩
      · exact ⟨_, _, rfl, g5⟩
      · exact ⟨_, _, rfl, g6⟩
    obtain ⟨t, xs, rfl, ht⟩ := this
    rw [items_lst ht] at hQ
    wtm_at "rd"
    exact r_listA (.inl (SqL.of (s2 _ _ ht))) hQ
  obtain ⟨bP, bV, bM, rfl⟩ := three_of lvs
  have gP := hvs 0 bP _ rfl rfl
  have gV := hvs 1 bV _ rfl rfl
  have gM := hvs 2 bM _ rfl rfl
  rw [items_lst g4] at gP
  rw [items_lst g5] at gV
  rw [items_lst g6] at gM
  have s57 := s5.trans s7
  have nvs' : bP ≠ bV ∧ bP ≠ bM ∧ bV ≠ bM := by
    simp only [List.nodup_cons, List.mem_cons, List.mem_nil_iff, or_false, not_or] at nvs
    exact ⟨nvs.1.1, nvs.1.2, nvs.2.1⟩
  have B : SpB H H7 d c r D1 D2 sc := ⟨⟨us, bP, bV, bM, s7 _ _ hD1, hus.imp fun _ _ z => s7 _ _ z, hD2, gP, gV, gM, nus, nvs'.1, nvs'.2.1, nvs'.2.2, fun u hu => (fus u hu).1, s5.free (fvs bP List.mem_cons_self).1, s5.free (fvs bV (List.mem_cons_of_mem _ List.mem_cons_self)).1, s5.free (fvs bM (List.mem_cons_of_mem _ (List.mem_cons_of_mem _ List.mem_cons_self))).1⟩, D.same s57, Ext.of s57⟩
  have fK : H D2 = none := s5.free nD2
  have nS : D1 ≠ D2 := ne_of_none hD1 nD2
  have so := so.same s57
  wtm_at "rd"
  refine ⟨p, sc, rfl, so, hg, fun lc H8 n8 s8 hc8 => ?_⟩
  have B := B.same s8
  have so := so.same s8
  obtain ⟨aS, aP, aV, aM, ts, h0, h1, h2, h4, h5, h6⟩ := id so
  wtm_at "rd"
  refine r_itl (SqL.of h1) ?_
  refine lc_map (idxT H8 0) (SqL.of h1) (by rw [List.length_map, h2.len]; omega) (fun v H' QQ hv s' hQ => ?_) fun ln n_ln => ?_
  · obtain ⟨t, ht, rfl⟩ := List.mem_map.mp hv
    obtain ⟨j, hj⟩ := List.getElem?_of_mem ht
    obtain ⟨b, _, hb⟩ := h2.get hj
    rw [idxT_at (v := .str b.nm) hb rfl] at hQ
    have hb : H' t = some (.tup [.str b.nm, .str b.ky, partV b.pt, .bl b.ds]) := s' _ _ hb
    wtm_at "rd"
    exact hQ
  have ek : (ts.map V.ref).map (idxT H8 0) = sc.names.map V.str := by
    rw [Sch.names, List.map_map, List.map_map]
    exact h2.map fun a b hb => idxT_at hb rfl
  rw [ek]
  generalize eq_ln : upd _ ln _ = H9
  have s_ln : Same _ H9 := eq_ln ▸ same_new n_ln
  have h_ln : H9 ln = some _ := eq_ln ▸ upd_same
  clear eq_ln
  have B := B.same s_ln
  have hc8 := s_ln _ _ hc8
  refine ⟨lc, ln, _, _, rfl, rfl, hc8, h_ln, Nat.le_of_lt (small1000 (by rw [List.length_map, List.length_map]; omega)), fun b1 n_b1 => ?_⟩
  rw [← List.map_append]
  generalize eq_b1 : upd _ b1 _ = H10
  have s_b1 : Same _ H10 := eq_b1 ▸ same_new n_b1
  have h_b1 : H10 b1 = some _ := eq_b1 ▸ upd_same
  clear eq_b1
  have B := B.same s_b1
  wtm_at "rd"
  refine ⟨d, c, r, b1, sc.cols ++ sc.names, rfl, B.drw, h_b1, by rw [List.length_append]; omega, fun w H11 hw hwn D11 E11 => ?_⟩
  have hwc : ¬ w ∈ sc.cols := fun z => hwn (List.mem_append.mpr (.inl z))
  have hwn : ¬ w ∈ sc.names := fun z => hwn (List.mem_append.mpr (.inr z))
  have B := B.ext E11 D11
  obtain ⟨us', _, _, _, e1, e2, _⟩ := id B.ex
  wtm_at "rd"
  refine r_lenR e1 ?_
  wtm_at "rd"
  refine ⟨d, c, r, _, rfl, B.drw, by rw [e2.len]; omega, by rw [e2.len]; omega, fun k H12 k0 kl D12 E12 => ?_⟩
  rw [e2.len] at kl
  have B := B.ext E12 D12
  wtm_at "rd"
  refine ⟨d, c, r, 11, rfl, B.drw, by decide, by decide, fun way G0 w0 w1 D13 E13 => ?_⟩
  have B := B.ext E13 D13
  clear E13 E12 E11 D13 D12 D11 e1 e2 h_b1 h_ln s_b1 s_ln hc8 s8 so h0 h1 h2 h4 h5 h6 s57 gP gV gM hD2 hvs s7 fvs nvs nvs' hus hD1 s5 g4 g5 g6 h05 h_l1x s_l1x fus
  have hst : ∃ (aS : Addr) (sc' : Sch), D1 = aS ∧ sc' = sc := ⟨D1, sc, rfl, rfl⟩
  obtain ⟨aS, sc', eS, esc⟩ := hst
  rw [eS, ← esc] at B
  rw [eS] at nS ⊢
  have hg' : sc'.good := by rw [esc]; exact hg
  have hl' : sc'.ss.length = sc.ss.length := by rw [esc]
  have he : 0 ≤ way → sc' = sc := fun _ => esc
  clear esc eS
  wtm_at "rd"
  refine ⟨fun σ H' => ∃ (y7 y8 : Option V) (aS : Addr) (sc' : Sch), σ = [some (.ref d), some (.ref p), some (.ref aS), some (.ref D2), some (.str w), some (.int k), some (.int way), y7, y8] ∧ SpB H H' d c r aS D2 sc' ∧ sc'.good ∧ aS ≠ D2 ∧ sc'.ss.length = sc.ss.length ∧ (1 ≤ way → sc' = sc), ?_, ?_⟩
  · wtm_at "rd"
    refine r_ite (fun c1 => ?_) (fun c1 => ?_)
    · have es := he (by omega)
      rw [es] at B
      obtain ⟨ts, t, s, h1, hat, hs, hts, hB⟩ := B.setS k0 kl
      have hsm := List.mem_of_getElem? hs
      have hts' : G0 t = some (.lst [.str s.nm, .str s.ky, partV s.pt, .bl s.ds]) := hts
      wtm_at "rd"
      refine r_ixL (SqL.of h1) hat ?_
      wtm_at "rd"
      refine r_ixL (SqL.of h1) hat ?_
      wtm_at "rd"
      refine r_setL (n := 3) hts rfl ?_
      wtm_at "rd"
      exact ⟨_, _, aS, _, rfl, hB ⟨s.nm, s.ky, s.pt, !s.ds⟩, good_set hg hs (.inl rfl) (.inl rfl) fun z hz => hg.pt s hsm z hz, nS, by rw [List.length_set], fun z => absurd z (by omega)⟩
    · wtm_at "rd"
      exact ⟨_, _, aS, sc', rfl, B, hg', nS, hl', fun z => he (by omega)⟩
  rintro σ G1 ⟨y7, y8, aS, sc', rfl, B, hg', nS, hl', he⟩
  refine ⟨fun σ H' => ∃ (y7 y8 : Option V) (aS : Addr) (sc' : Sch), σ = [some (.ref d), some (.ref p), some (.ref aS), some (.ref D2), some (.str w), some (.int k), some (.int way), y7, y8] ∧ SpB H H' d c r aS D2 sc' ∧ sc'.good ∧ aS ≠ D2 ∧ sc'.ss.length = sc.ss.length ∧ (2 ≤ way → sc' = sc), ?_, ?_⟩
  · wtm_at "rd"
    refine r_ite (fun c1 => ?_) (fun c1 => ?_)
    · have es := he (by omega)
      rw [es] at B
      obtain ⟨ts, t, s, h1, hat, hs, hts, hB⟩ := B.setS k0 kl
      have hsm := List.mem_of_getElem? hs
      have hts' : G1 t = some (.lst [.str s.nm, .str s.ky, partV s.pt, .bl s.ds]) := hts
      wtm_at "rd"
      refine r_ixL (SqL.of h1) hat ?_
      wtm_at "rd"
      refine r_setL (n := 0) hts rfl ?_
      wtm_at "rd"
      exact ⟨_, _, aS, _, rfl, hB ⟨w, s.ky, s.pt, s.ds⟩, good_set hg hs (.inr ⟨hw, hwn⟩) (.inl rfl) fun z hz => hg.pt s hsm z hz, nS, by rw [List.length_set], fun z => absurd z (by omega)⟩
    · wtm_at "rd"
      exact ⟨_, _, aS, sc', rfl, B, hg', nS, hl', fun z => he (by omega)⟩
  rintro σ G2 ⟨y7, y8, aS, sc', rfl, B, hg', nS, hl', he⟩
  refine ⟨fun σ H' => ∃ (y7 y8 : Option V) (aS : Addr) (sc' : Sch), σ = [some (.ref d), some (.ref p), some (.ref aS), some (.ref D2), some (.str w), some (.int k), some (.int way), y7, y8] ∧ SpB H H' d c r aS D2 sc' ∧ sc'.good ∧ aS ≠ D2 ∧ sc'.ss.length = sc.ss.length ∧ (3 ≤ way → sc' = sc), ?_, ?_⟩
  · wtm_at "rd"
    refine r_ite (fun c1 => ?_) (fun c1 => ?_)
    · have es := he (by omega)
      rw [es] at B
      obtain ⟨ts, t, s, h1, hat, hs, hts, hB⟩ := B.setS k0 kl
      have hsm := List.mem_of_getElem? hs
      have hts' : G2 t = some (.lst [.str s.nm, .str s.ky, partV s.pt, .bl s.ds]) := hts
      wtm_at "rd"
      refine r_ixL (SqL.of h1) hat ?_
      wtm_at "rd"
      refine r_setL (n := 1) hts rfl ?_
      wtm_at "rd"
      exact ⟨_, _, aS, _, rfl, hB ⟨s.nm, w, s.pt, s.ds⟩, good_set hg hs (.inl rfl) (.inr ⟨hw, hwc⟩) fun z hz => hg.pt s hsm z hz, nS, by rw [List.length_set], fun z => absurd z (by omega)⟩
    · wtm_at "rd"
      exact ⟨_, _, aS, sc', rfl, B, hg', nS, hl', fun z => he (by omega)⟩
  rintro σ G3 ⟨y7, y8, aS, sc', rfl, B, hg', nS, hl', he⟩
  refine ⟨fun σ H' => ∃ (y7 y8 : Option V) (aS : Addr) (sc' : Sch), σ = [some (.ref d), some (.ref p), some (.ref aS), some (.ref D2), some (.str w), some (.int k), some (.int way), y7, y8] ∧ SpB H H' d c r aS D2 sc' ∧ sc'.good ∧ aS ≠ D2 ∧ sc'.ss.length = sc.ss.length ∧ (4 ≤ way → sc' = sc), ?_, ?_⟩
  · wtm_at "rd"
    refine r_ite (fun c1 => ?_) (fun c1 => ?_)
    · have es := he (by omega)
      rw [es] at B
      obtain ⟨_, aP, aV, aM, _, _, h3, _⟩ := B.ex
      obtain ⟨h4, h5, h6, mP, mV, mM, _, fP, fV, fM⟩ := B.ks l0 h3
      wtm_at "rd"
      refine r_new rfl fun b1 n_b1 => ?_
      generalize eq_b1 : upd _ b1 _ = I1
      have s_b1 : Same _ I1 := eq_b1 ▸ same_new n_b1
      have h_b1 : I1 b1 = some _ := eq_b1 ▸ upd_same
      clear eq_b1
      have B := B.same s_b1
      have h3 := s_b1 _ _ h3
      have h4 := s_b1 _ _ h4
      wtm_at "rd"
      refine ⟨b1, aP, _, _, rfl, rfl, h_b1, h4, Nat.le_of_lt (small1000 (by rw [List.length_map]; show 1 + _ ≤ 1000; omega)), fun b2 n_b2 => ?_⟩
      have b2d := B.drw.ned n_b2
      have b2r := B.drw.ner n_b2
      generalize eq_b2 : upd _ b2 _ = I2
      have s_b2 : Same _ I2 := eq_b2 ▸ same_new n_b2
      have h_b2 : I2 b2 = some _ := eq_b2 ▸ upd_same
      clear eq_b2
      have B := B.same s_b2
      have h3 := s_b2 _ _ h3
      have h4 := s_b2 _ _ h4
      wtm_at "rd"
      refine r_lenS h4 ?_
      wtm_at "rd"
      refine ⟨d, c, r, _, rfl, B.drw, by omega, by omega, fun kh I3 kh0 kh1 D3 E3 => ?_⟩
      have h_b2 := E3 _ _ h_b2 b2d b2r
      have B := B.ext E3 D3
      obtain ⟨pt, hpt1, hpt2⟩ := at_hall kh0 kh1
      refine r_ixL (SqL.of h_b2) hpt1 ?_
      obtain ⟨ts, t, s, h1, hat, hs, hts, hB⟩ := B.setS k0 kl
      have hsm := List.mem_of_getElem? hs
      wtm_at "rd"
      refine r_ixL (SqL.of h1) hat ?_
      wtm_at "rd"
      refine r_setL (n := 2) hts rfl ?_
      wtm_at "rd"
      exact ⟨_, _, aS, _, rfl, hB ⟨s.nm, s.ky, pt, s.ds⟩, good_set hg hs (.inl rfl) (.inl rfl) fun z hz => hpt2 z hz, nS, by rw [List.length_set], fun z => absurd z (by omega)⟩
    · wtm_at "rd"
      exact ⟨_, _, aS, sc', rfl, B, hg', nS, hl', fun z => he (by omega)⟩
  rintro σ G4 ⟨y7, y8, aS, sc', rfl, B, hg', nS, hl', he⟩
  refine ⟨fun σ H' => ∃ (y7 y8 : Option V) (aS : Addr) (sc' : Sch), σ = [some (.ref d), some (.ref p), some (.ref aS), some (.ref D2), some (.str w), some (.int k), some (.int way), y7, y8] ∧ SpB H H' d c r aS D2 sc' ∧ sc'.good ∧ aS ≠ D2 ∧ sc'.ss.length = sc.ss.length ∧ (5 ≤ way → sc' = sc), ?_, ?_⟩
  · wtm_at "rd"
    refine r_ite (fun c1 => ?_) (fun c1 => ?_)
    · have es := he (by omega)
      rw [es] at B
      obtain ⟨ts, _, _, _, h1, h2, h3, _⟩ := id B.ex
      wtm_at "rd"
      refine ⟨aS, _, rfl, SqL.of h1, fun u n_u => ?_⟩
      rw [← List.map_reverse]
      have nu : u ≠ D2 := (ne_of_none h3 n_u).symm
      generalize eq_u : upd _ u _ = I1
      have s_u : Same _ I1 := eq_u ▸ same_new n_u
      have h_u : I1 u = some _ := eq_u ▸ upd_same
      clear eq_u
      wtm_at "rd"
      exact ⟨_, _, u, _, rfl, B.rev h1 s_u h_u, good_perm hg (List.reverse_perm _) (List.Perm.refl _) (List.Perm.refl _) hg.l3 hg.l4, nu, List.length_reverse, fun z => absurd z (by omega)⟩
    · wtm_at "rd"
      exact ⟨_, _, aS, sc', rfl, B, hg', nS, hl', fun z => he (by omega)⟩
  rintro σ G5 ⟨y7, y8, aS, sc', rfl, B, hg', nS, hl', he⟩
  refine ⟨fun σ H' => ∃ (y7 y8 : Option V) (aS : Addr) (sc' : Sch), σ = [some (.ref d), some (.ref p), some (.ref aS), some (.ref D2), some (.str w), some (.int k), some (.int way), y7, y8] ∧ SpB H H' d c r aS D2 sc' ∧ sc'.good ∧ aS ≠ D2 ∧ sc'.ss.length = sc.ss.length ∧ (6 ≤ way → sc' = sc), ?_, ?_⟩
  · wtm_at "rd"
    refine r_ite (fun c1 => ?_) (fun c1 => ?_)
    · have es := he (by omega)
      rw [es] at B
      obtain ⟨_, aP, aV, aM, _, _, h3, _⟩ := B.ex
      obtain ⟨h4, h5, h6, mP, mV, mM, _, fP, fV, fM⟩ := B.ks l0 h3
      wtm_at "rd"
      refine ⟨aV, _, rfl, SqL.of h5, fun u n_u => ?_⟩
      rw [← List.map_reverse]
      have h30 := h3
      have B0 := B
      generalize eq_u : upd _ u _ = I1
      have s_u : Same _ I1 := eq_u ▸ same_new n_u
      have h_u : I1 u = some _ := eq_u ▸ upd_same
      clear eq_u
      have B := B.same s_u
      have h3 := s_u _ _ h3
      wtm_at "rd"
      refine r_setL (n := 1) h3 rfl ?_
      wtm_at "rd"
      exact ⟨_, _, aS, _, rfl, B.newV l0 h3 nS fK n_u s_u h30 B0 h_u, good_perm hg (List.Perm.refl _) (List.Perm.refl _) ((List.reverse_perm _).append_right _) (by rw [List.length_reverse]; exact hg.l3) hg.l4, nS, rfl, fun z => absurd z (by omega)⟩
    · wtm_at "rd"
      exact ⟨_, _, aS, sc', rfl, B, hg', nS, hl', fun z => he (by omega)⟩
  rintro σ G6 ⟨y7, y8, aS, sc', rfl, B, hg', nS, hl', he⟩
  refine ⟨fun σ H' => ∃ (y7 y8 : Option V) (aS : Addr) (sc' : Sch), σ = [some (.ref d), some (.ref p), some (.ref aS), some (.ref D2), some (.str w), some (.int k), some (.int way), y7, y8] ∧ SpB H H' d c r aS D2 sc' ∧ sc'.good ∧ aS ≠ D2 ∧ sc'.ss.length = sc.ss.length ∧ (7 ≤ way → sc' = sc), ?_, ?_⟩
  · wtm_at "rd"
    refine r_ite (fun c1 => ?_) (fun c1 => ?_)
    · have es := he (by omega)
      rw [es] at B
      obtain ⟨_, aP, aV, aM, _, _, h3, _⟩ := B.ex
      obtain ⟨h4, h5, h6, mP, mV, mM, _, fP, fV, fM⟩ := B.ks l0 h3
      wtm_at "rd"
      refine r_lenS h6 ?_
      wtm_at "rd"
      refine r_ite (fun c2 => ?_) (fun c2 => by
        wtm_at "rdi"
        exact ⟨_, _, aS, _, rfl, B, hg, nS, rfl, fun z => absurd z (by omega)⟩)
      wtm_at "rd"
      refine r_lenS h5 ?_
      wtm_at "rd"
      refine r_ite (fun c3 => ?_) (fun c3 => by
        wtm_at "rdi"
        exact ⟨_, _, aS, _, rfl, B, hg, nS, rfl, fun z => absurd z (by omega)⟩)
      obtain ⟨m0, z, em⟩ := last_of (ms := sc.ms) (by omega)
      wtm_at "rd"
      refine r_tyL (SqL.of h5) ?_
      wtm_at "rd"
      refine r_tyL (SqL.of h6) ?_
      refine ⟨aM, _, .str z, rfl, rfl, h6, by rw [em]; exact last_at, ?_⟩
      rw [em, last_drop]
      have B2 := fM m0
      have h32 := (upd_ne (o := .lst (m0.map V.str)) mM).trans h3
      obtain ⟨_, g5, _, _, _, _, _, _, fV2, _⟩ := B2.ks l0 h32
      wtm_at "rd"
      refine r_app g5 (small1000 (by rw [List.length_map]; show sc.vs.length ≤ 1000; omega)) ?_
      wtm_at "rd"
      rw [show sc.vs.map V.str ++ [V.str z] = (sc.vs ++ [z]).map V.str by rw [List.map_append]; rfl]
      refine ⟨_, _, aS, _, rfl, fV2 (sc.vs ++ [z]), good_perm hg (List.Perm.refl _) (List.Perm.refl _) ?_ (by rw [List.length_append]; show _ + 1 ≤ 3; omega) ?_, nS, rfl, fun z => absurd z (by omega)⟩
      · show (sc.vs ++ [z] ++ m0).Perm (sc.vs ++ sc.ms)
        rw [em, List.append_assoc]
        exact List.Perm.append_left _ List.perm_append_comm
      · have := hg.l4
        rw [em, List.length_append] at this
        show m0.length ≤ 3
        omega
    · wtm_at "rdi"
      exact ⟨_, _, aS, sc', rfl, B, hg', nS, hl', fun z => he (by omega)⟩
  rintro σ G7 ⟨y7, y8, aS, sc', rfl, B, hg', nS, hl', he⟩
  refine ⟨fun σ H' => ∃ (y7 y8 : Option V) (aS : Addr) (sc' : Sch), σ = [some (.ref d), some (.ref p), some (.ref aS), some (.ref D2), some (.str w), some (.int k), some (.int way), y7, y8] ∧ SpB H H' d c r aS D2 sc' ∧ sc'.good ∧ aS ≠ D2 ∧ sc'.ss.length = sc.ss.length ∧ (8 ≤ way → sc' = sc), ?_, ?_⟩
  · wtm_at "rd"
    refine r_ite (fun c1 => ?_) (fun c1 => ?_)
    · have es := he (by omega)
      rw [es] at B
      obtain ⟨_, aP, aV, aM, _, _, h3, _⟩ := B.ex
      obtain ⟨h4, h5, h6, mP, mV, mM, _, fP, fV, fM⟩ := B.ks l0 h3
      wtm_at "rd"
      refine r_lenS h6 ?_
      wtm_at "rd"
      refine r_ite (fun c2 => ?_) (fun c2 => by
        wtm_at "rdi"
        exact ⟨_, _, aS, _, rfl, B, hg, nS, rfl, fun z => absurd z (by omega)⟩)
      wtm_at "rd"
      refine r_tyL (SqL.of h6) ?_
      wtm_at "rd"
      refine r_app h6 (small1000 (by rw [List.length_map]; omega)) ?_
      wtm_at "rd"
      rw [show sc.ms.map V.str ++ [V.str w] = (sc.ms ++ [w]).map V.str by rw [List.map_append]; rfl]
      refine ⟨_, _, aS, _, rfl, fM (sc.ms ++ [w]), good_add hg rfl (fun z hz => hz) ?_ hw hwc hg.l2 hg.l3 (by rw [List.length_append]; show _ + 1 ≤ 3; omega), nS, rfl, fun z => absurd z (by omega)⟩
      show (sc.ps ++ (sc.ss.map Srt.ky ++ (sc.vs ++ (sc.ms ++ [w])))).Perm (w :: (sc.ps ++ (sc.ss.map Srt.ky ++ (sc.vs ++ sc.ms))))
      rw [← List.append_assoc sc.vs, ← List.append_assoc (sc.ss.map Srt.ky), ← List.append_assoc sc.ps]
      exact List.perm_append_singleton _ _
    · wtm_at "rdi"
      exact ⟨_, _, aS, sc', rfl, B, hg', nS, hl', fun z => he (by omega)⟩
  rintro σ G8 ⟨y7, y8, aS, sc', rfl, B, hg', nS, hl', he⟩
  refine ⟨fun σ H' => ∃ (y7 y8 : Option V) (aS : Addr) (sc' : Sch), σ = [some (.ref d), some (.ref p), some (.ref aS), some (.ref D2), some (.str w), some (.int k), some (.int way), y7, y8] ∧ SpB H H' d c r aS D2 sc' ∧ sc'.good ∧ aS ≠ D2 ∧ sc'.ss.length = sc.ss.length ∧ (9 ≤ way → sc' = sc), ?_, ?_⟩
  · wtm_at "rd"
    refine r_ite (fun c1 => ?_) (fun c1 => ?_)
    · have es := he (by omega)
      rw [es] at B
      obtain ⟨_, aP, aV, aM, _, _, h3, _⟩ := B.ex
      obtain ⟨h4, h5, h6, mP, mV, mM, _, fP, fV, fM⟩ := B.ks l0 h3
      wtm_at "rd"
      refine r_lenS h4 ?_
      wtm_at "rd"
      refine r_ite (fun c2 => ?_) (fun c2 => by
        wtm_at "rdi"
        exact ⟨_, _, aS, _, rfl, B, hg, nS, rfl, fun z => absurd z (by omega)⟩)
      wtm_at "rd"
      refine r_tyL (SqL.of h4) ?_
      wtm_at "rd"
      refine r_app h4 (small1000 (by rw [List.length_map]; omega)) ?_
      wtm_at "rd"
      rw [show sc.ps.map V.str ++ [V.str w] = (sc.ps ++ [w]).map V.str by rw [List.map_append]; rfl]
      refine ⟨_, _, aS, _, rfl, fP (sc.ps ++ [w]), good_add hg rfl (fun z hz => List.mem_append.mpr (.inl hz)) ?_ hw hwc (by rw [List.length_append]; show _ + 1 ≤ 2; omega) hg.l3 hg.l4, nS, rfl, fun z => absurd z (by omega)⟩
      show (sc.ps ++ [w] ++ (sc.ss.map Srt.ky ++ (sc.vs ++ sc.ms))).Perm (w :: (sc.ps ++ (sc.ss.map Srt.ky ++ (sc.vs ++ sc.ms))))
      exact ((List.perm_append_singleton _ _).append_right _)
    · wtm_at "rdi"
      exact ⟨_, _, aS, sc', rfl, B, hg', nS, hl', fun z => he (by omega)⟩
  rintro σ G9 ⟨y7, y8, aS, sc', rfl, B, hg', nS, hl', he⟩
  refine ⟨fun σ H' => ∃ (y7 y8 : Option V) (aS : Addr) (sc' : Sch), σ = [some (.ref d), some (.ref p), some (.ref aS), some (.ref D2), some (.str w), some (.int k), some (.int way), y7, y8] ∧ SpB H H' d c r aS D2 sc' ∧ sc'.good ∧ aS ≠ D2 ∧ sc'.ss.length = sc.ss.length ∧ (11 ≤ way → sc' = sc), ?_, ?_⟩
  · wtm_at "rd"
    refine r_ite (fun c1 => ?_) (fun c1 => ?_)
    · have es := he (by omega)
      rw [es] at B
      obtain ⟨_, aP, aV, aM, _, _, h3, _⟩ := B.ex
      obtain ⟨h4, h5, h6, mP, mV, mM, _, fP, fV, fM⟩ := B.ks l0 h3
      obtain e | e : way = 9 ∨ way = 10 := by omega
      · subst e
        wtm_at "rd"
        refine r_new rfl fun b1 n_b1 => ?_
        generalize eq_b1 : upd _ b1 _ = I1
        have s_b1 : Same _ I1 := eq_b1 ▸ same_new n_b1
        have h_b1 : I1 b1 = some _ := eq_b1 ▸ upd_same
        clear eq_b1
        have B := B.same s_b1
        have h3 := s_b1 _ _ h3
        obtain ⟨h4, h5, h6, mP, mV, mM, _, fP, fV, fM⟩ := B.ks l0 h3
        wtm_at "rd"
        refine r_tyL (SqL.of h4) ?_
        refine ⟨aP, _, rfl, rfl, h4, ?_⟩
        rw [← List.map_reverse]
        wtm_at "rd"
        exact ⟨_, _, aS, _, rfl, fP _, good_perm hg (List.Perm.refl _) (List.reverse_perm _) (List.Perm.refl _) hg.l3 hg.l4, nS, rfl, fun z => absurd z (by omega)⟩
      · subst e
        wtm_at "rd"
        refine r_new rfl fun b1 n_b1 => ?_
        generalize eq_b1 : upd _ b1 _ = I1
        have s_b1 : Same _ I1 := eq_b1 ▸ same_new n_b1
        have h_b1 : I1 b1 = some _ := eq_b1 ▸ upd_same
        clear eq_b1
        have B := B.same s_b1
        have h3 := s_b1 _ _ h3
        obtain ⟨h4, h5, h6, mP, mV, mM, _, fP, fV, fM⟩ := B.ks l0 h3
        wtm_at "rd"
        refine r_tyL (SqL.of h6) ?_
        refine ⟨aM, _, rfl, rfl, h6, ?_⟩
        rw [← List.map_reverse]
        wtm_at "rd"
        exact ⟨_, _, aS, _, rfl, fM _, good_perm hg (List.Perm.refl _) (List.Perm.refl _) ((List.reverse_perm _).append_left _) hg.l3 (by rw [List.length_reverse]; exact hg.l4), nS, rfl, fun z => absurd z (by omega)⟩
    · wtm_at "rd"
      exact ⟨_, _, aS, sc', rfl, B, hg', nS, hl', fun z => he (by omega)⟩
  rintro σ G10 ⟨y7, y8, aS, sc', rfl, B, hg', nS, hl', he⟩
  obtain ⟨ts, bP, bV, bM, h1, h2, h3, h4, h5, h6, _⟩ := id B.ex
  wtm_at "rd"
  refine r_itl (SqL.of h1) ?_
  refine lc_tups (itemsOf G10) (SqL.of h1) (by rw [List.length_map, h2.len]; omega) (fun x H2 QQ hx s2 hQ => ?_) fun D3 us H5 nD3 lus hD3 hus s5 => ?_
  · obtain ⟨t, ht, rfl⟩ := List.mem_map.mp hx
    obtain ⟨j, hj⟩ := List.getElem?_of_mem ht
    obtain ⟨b, _, hb⟩ := h2.get hj
    rw [items_lst hb] at hQ
    wtm_at "rd"
    exact r_tupL (SqL.of (s2 _ _ hb)) fun l n => hQ l _ n upd_same (same_new n)
  rw [List.length_map] at lus
  have hus : All2 (fun t s => H5 t = some (.tup (srtV s))) us sc'.ss := by
    refine ⟨by rw [lus, h2.len], fun j u s e1 e2 => ?_⟩
    have hj : j < ts.length := by rw [← lus]; exact (List.getElem?_eq_some_iff.mp e1).1
    have ht : ts[j]? = some ts[j] := List.getElem?_eq_getElem hj
    have z := hus j u (.ref ts[j]) e1 (by rw [List.getElem?_map, ht]; rfl)
    rw [items_lst (h2.at_ _ _ _ ht e2)] at z
    exact z
  have B := B.same s5
  have h3 := s5 _ _ h3
  have h4 := s5 _ _ h4
  have h5 := s5 _ _ h5
  have h6 := s5 _ _ h6
  wtm_at "rd"
  refine r_new rfl fun b2 n_b2 => ?_
  generalize eq_b2 : upd _ b2 _ = I1
  have s_b2 : Same _ I1 := eq_b2 ▸ same_new n_b2
  have h_b2 : I1 b2 = some _ := eq_b2 ▸ upd_same
  clear eq_b2
  have B := B.same s_b2
  have h3 := s_b2 _ _ h3
  have h4 := s_b2 _ _ h4
  have h5 := s_b2 _ _ h5
  have h6 := s_b2 _ _ h6
  have hD3 := s_b2 _ _ hD3
  have hus := hus.imp fun _ _ z => s_b2 _ _ z
  wtm_at "rd"
  refine ⟨b2, D2, _, _, rfl, rfl, h_b2, h3, Nat.le_of_ble_eq_true rfl, fun b3 n_b3 => ?_⟩
  generalize eq_b3 : upd _ b3 _ = I2
  have s_b3 : Same _ I2 := eq_b3 ▸ same_new n_b3
  have h_b3 : I2 b3 = some _ := eq_b3 ▸ upd_same
  clear eq_b3
  have B := B.same s_b3
  have h4 := s_b3 _ _ h4
  have h5 := s_b3 _ _ h5
  have h6 := s_b3 _ _ h6
  have hD3 := s_b3 _ _ hD3
  have hus := hus.imp fun _ _ z => s_b3 _ _ z
  exact q b3 sc' _ hg' ⟨D3, bP, bV, bM, us, h_b3, hD3, hus, h4, h5, h6⟩ B.drw B.keep
end

def spRight (K : PySem.W.Frag) (CC CS : Addr) : Sp := fun vs H Q _ => ∃ (p a : Addr) (sc : Sch), vs = [.ref p, .ref a] ∧ SchAt K CC CS H p sc ∧ SpecAt H a sc ∧ sc.good ∧ ∀ H', Same H H' → Q (.bl true) H'
def spSortsR : Sp := fun vs H Q _ => ∃ (a b : Addr) (sc sd : Sch), vs = [.ref a, .ref b] ∧ SpecAt H a sc ∧ SpecAt H b sd ∧ sc.good ∧ sd.good ∧ ∀ H', Same H H' → Q (.bl true) H'
theorem srtV_inj {s t : Srt} (h : srtV s = srtV t) : s = t := by
  unfold srtV at h
  injection h with h1 h
  injection h with h2 h
  injection h with h3 h
  injection h with h4 h
  exact srt_ext (V.str.inj h1) (V.str.inj h2) (partV_inj h3) (V.bl.inj h4)
theorem srt_kind {s t : Srt} : ∀ p ∈ (srtV s).zip (srtV t), sameKind p.1 p.2 = true := fun p hp => by
  have hp : p ∈ [(V.str s.nm, V.str t.nm), (V.str s.ky, V.str t.ky), (partV s.pt, partV t.pt), (V.bl s.ds, V.bl t.ds)] := hp
  simp only [List.mem_cons, List.mem_nil_iff, or_false] at hp
  rcases hp with e | e | e | e
  · rw [e]; rfl
  · rw [e]; rfl
  · rw [e]
    cases s.pt <;> cases t.pt <;> rfl
  · rw [e]; rfl
theorem srtV_dec (s t : Srt) : decide (srtV s = srtV t) = decide (s = t) := by
  rw [decide_eq_decide]
  exact ⟨srtV_inj, fun e => by rw [e]⟩
/-! the data of a scheme -/
def srtsD (ss : List Srt) : List PyData := ss.map fun s => tupD (srtV s)
def specD (sc : Sch) : PyData := .list [.list (srtsD sc.ss), strsL sc.ps, strsL sc.vs, strsL sc.ms]
theorem eqv_srt {s t : Srt} (h : srtOk s) (k : srtOk t) : PyData.eqv (tupD (srtV s)) (tupD (srtV t)) = decide (s = t) := by
  show PyData.eqvAll _ _ = _
  rw [eqv_all (srt_eqD h) (srt_eqD k) srt_kind, srtV_dec]
theorem eqv_srts : ∀ {ss ts : List Srt}, (∀ s ∈ ss, srtOk s) → (∀ s ∈ ts, srtOk s) → PyData.eqvAll (srtsD ss) (srtsD ts) = decide (ss = ts)
  | [], [], _, _ => rfl
  | [], t :: ts, _, _ => by rw [decide_eq_false fun z => nomatch z]; rfl
  | s :: ss, [], _, _ => by rw [decide_eq_false fun z => nomatch z]; rfl
  | s :: ss, t :: ts, h, k => by
    show (PyData.eqv (tupD (srtV s)) (tupD (srtV t)) && PyData.eqvAll (srtsD ss) (srtsD ts)) = _
    rw [eqv_srt (h s List.mem_cons_self) (k t List.mem_cons_self), eqv_srts (fun x hx => h x (List.mem_cons_of_mem _ hx)) (fun x hx => k x (List.mem_cons_of_mem _ hx)), Bool.eq_iff_iff, Bool.and_eq_true, decide_eq_true_eq, decide_eq_true_eq, decide_eq_true_eq, List.cons.injEq]
theorem spec_eqv {sc sd : Sch} (h : sc.good) (k : sd.good) : PyData.eqv (specD sc) (specD sd) = decide (sc = sd) := by
  show (PyData.eqvAll (srtsD sc.ss) (srtsD sd.ss) && (PyData.eqv (strsL sc.ps) (strsL sd.ps) && (PyData.eqv (strsL sc.vs) (strsL sd.vs) && (PyData.eqv (strsL sc.ms) (strsL sd.ms) && true)))) = _
  rw [eqv_srts (fun s hs => h.srt hs) (fun s hs => k.srt hs), eqv_strsL h.wps k.wps, eqv_strsL h.wvs k.wvs, eqv_strsL h.wms k.wms, Bool.and_true, Bool.eq_iff_iff, Bool.and_eq_true, Bool.and_eq_true, Bool.and_eq_true, decide_eq_true_eq, decide_eq_true_eq, decide_eq_true_eq, decide_eq_true_eq, decide_eq_true_eq]
  refine ⟨fun z => ?_, fun z => by rw [z]; exact ⟨rfl, rfl, rfl, rfl⟩⟩
  obtain ⟨z1, z2, z3, z4⟩ := z
  cases sc
  cases sd
  cases z1
  cases z2
  cases z3
  cases z4
  rfl
theorem lay_srts : ∀ {ss : List Srt}, (∀ s ∈ ss, srtOk s) → PyData.canLayAll0 (srtsD ss) = true
  | [], _ => rfl
  | s :: ss, h => by
    show (PyData.canLayAll0 _ && PyData.canLayAll0 (srtsD ss)) = true
    rw [lay_vD (srt_eqD (h s List.mem_cons_self)), lay_srts fun x hx => h x (List.mem_cons_of_mem _ hx)]
    rfl
theorem depth_srts : ∀ (ss : List Srt), PyData.depthAll (srtsD ss) ≤ 1
  | [] => by decide
  | s :: ss => by
    show max (PyData.depthAll _ + 1) (PyData.depthAll (srtsD ss)) ≤ 1
    rw [depth_vD]
    exact Nat.max_le.mpr ⟨Nat.le_refl _, depth_srts ss⟩
theorem shaped_spec {sc : Sch} (h : sc.good) : SeqAt.shaped (specD sc) = true := by
  unfold SeqAt.shaped
  rw [show (specD sc).canLay0 = true by
    show (PyData.canLayAll0 _ && (PyData.canLayAll0 _ && (PyData.canLayAll0 _ && (PyData.canLayAll0 _ && true)))) = true
    rw [lay_srts fun s hs => h.srt hs, lay_vD (strs_eqD h.wps), lay_vD (strs_eqD h.wvs), lay_vD (strs_eqD h.wms)]
    rfl]
  show decide (max (PyData.depthAll (srtsD sc.ss) + 1) (max (PyData.depthAll _ + 1) (max (PyData.depthAll _ + 1) (max (PyData.depthAll _ + 1) 0))) + 1 ≤ 64) = true
  rw [depth_vD, depth_vD, depth_vD]
  have := depth_srts sc.ss
  exact decide_eq_true (by omega)
theorem dp_srts {K : PySem.W.Frag} {H : Hp} : ∀ {ts : List Addr} {ss : List Srt}, All2 (fun t s => H t = some (.tup (srtV s))) ts ss → (∀ s ∈ ss, srtOk s) → DpAll K H (ts.map V.ref) (srtsD ss)
  | [], [], _, _ => .nil
  | t :: ts, s :: ss, h, k => .cons (.tup (SqT.of h.uncons.1) (dpAll_vD (srt_eqD (k s List.mem_cons_self)))) (dp_srts h.uncons.2 fun x hx => k x (List.mem_cons_of_mem _ hx))
  | [], _ :: _, h, _ => by cases h.len
  | _ :: _, [], h, _ => by cases h.len
theorem dp_spec {K : PySem.W.Frag} {H : Hp} {p : Addr} {sc : Sch} (h : SpecAt H p sc) (hg : sc.good) : Dp K H (.ref p) (specD sc) := by
  obtain ⟨aS, aP, aV, aM, ts, h0, h1, h2, h4, h5, h6⟩ := h
  exact .lst (SqL.of h0) (.cons (.lst (SqL.of h1) (dp_srts h2 fun s hs => hg.srt hs)) (.cons (dp_strsL hg.wps h4) (.cons (dp_strsL hg.wvs h5) (.cons (dp_strsL hg.wms h6) .nil))))
theorem r_eqSpec {K : PySem.W.Frag} {H : Hp} {Q : VK} {a b : Addr} {sc sd : Sch} (h : SpecAt H a sc) (k : SpecAt H b sd) (hg : sc.good) (kg : sd.good) (q : Q (.bl (decide (sc = sd))) H) : rEqD K (.ref a) (.ref b) H Q := by
  refine ⟨specD sc, specD sd, dp_spec h hg, dp_spec k kg, shaped_spec hg, shaped_spec kg, ?_⟩
  rw [spec_eqv hg kg]
  exact q
section
variable {P : Program} {w : World} {K : PySem.W.Frag} {mg : Str → Option Value} {base : Heap}

theorem ok__law_right (T : Txt K mg) : FnG P w K mg base CX0 6 T.f__law_right T.d__law_right ["_law_scheme", "_law_spec_here"] (spRight K T.C_Scheme T.C_Sort) := by
  refine okG T.F__law_right sc__law_right (fun vs H Q E h => ?_) (fun cdv A outer s H vs Q E hG hr h => ?_)
  · obtain ⟨p, a, sc, rfl, _⟩ := h
    rfl
  obtain ⟨p, a, sc, rfl, o, so, hg, q⟩ := h
  refine ⟨_, (pss_cons (ps_if (pt_cmpR o_isN (pv 0) pe_non (nomark _)) (pss_one (ps_ret pe_bl)) pss_nil)
      (pss_cons (ps_expr (pe_bm PySem.F.plainAttrs_list PySem.F.slot_list_append PySem.F.type_list_append mt_append (pe_meth0 (pv 0) T.c_Scheme T.mt_Scheme_columns (ok_Scheme_columns T) (hr.mono (by decide)) T.b_Scheme_columns .nil pass0) (pa_cons pe_str pa_nil)))
      (pss_cons (ps_expr (pe_bm0 PySem.F.plainAttrs_list PySem.F.slot_list_clear PySem.F.type_list_clear mt_clear (pe_meth0 (pv 0) T.c_Scheme T.mt_Scheme_sort_names (ok_Scheme_sort_names T) (hr.mono (by decide)) T.b_Scheme_sort_names .nil pass0)))
      (pss_cons (ps_for PassesOwn.never rfl (pi_range1 (by rfl) T.z_range (pa_cons pe_int pa_nil)) (pg_name (i := 2) sc__law_right.nd rfl (by first | exact Or.inl rfl | exact Or.inr rfl)) (pss_cons (ps_if (PW.pt (pw_or (pt_cmpR op_ne (pe_callG hG (ok__law_told T) (hr.mono (by decide)) (by rfl) T.g__law_told T.F__law_told.kp T.b__law_told .nil pass0 (pa_cons (pv 0) pa_nil)) (pe_callG hG (ok__law_due T) (hr.mono (by decide)) (by rfl) T.g__law_due T.F__law_due.kp T.b__law_due .nil pass0 (pa_cons (pv 1) pa_nil)) (nomark _)) (pw_or1 (pt_not (pt_val (pe_callG hG (ok__law_names_right T) (hr.mono (by decide)) (by rfl) T.g__law_names_right T.F__law_names_right.kp T.b__law_names_right .nil pass0 (pa_cons (pv 0) (pa_cons (pv 1) pa_nil)))))))) (pss_one (ps_ret pe_bl)) pss_nil)
      (pss_cons (ps_expr (pe_bm PySem.F.plainAttrs_list PySem.F.slot_list_append PySem.F.type_list_append mt_append (pe_meth0 (pv 0) T.c_Scheme T.mt_Scheme_columns (ok_Scheme_columns T) (hr.mono (by decide)) T.b_Scheme_columns .nil pass0) (pa_cons pe_str pa_nil)))
      (pss_one (ps_expr (pe_bm0 PySem.F.plainAttrs_list PySem.F.slot_list_clear PySem.F.type_list_clear mt_clear (pe_meth0 (pv 0) T.c_Scheme T.mt_Scheme_sort_names (ok_Scheme_sort_names T) (hr.mono (by decide)) T.b_Scheme_sort_names .nil pass0)))))))
      (pss_one (ps_ret (pe_cmpR op_eq (pe_callG hG (ok__law_told T) (hr.mono (by decide)) (by rfl) T.g__law_told T.F__law_told.kp T.b__law_told .nil pass0 (pa_cons (pv 0) pa_nil)) (pe_callG hG (ok__law_due T) (hr.mono (by decide)) (by rfl) T.g__law_due T.F__law_due.kp T.b__law_due .nil pass0 (pa_cons (pv 1) pa_nil)) (nomark _)))))))), ?_⟩
  try simp only [nox_K, cx_K]
  have sm := hg.small
  have lc' := hg.lcols
  have o0 := o
  have s0 : Same H H := Same.refl _
  wtm_at "rdi"
  wtm_at "rd"
  refine sch_who o (by decide +kernel) (by decide +kernel) (by decide +kernel) (by decide +kernel) ?_
  wtm_at "rd"
  refine ⟨p, sc, rfl, o, sm, fun lA HA nA sA hA => ?_⟩
  have fA := s0.free nA
  wtm_at "rd"
  refine r_tyL (SqL.of hA) ?_
  wtm_at "rd"
  refine r_app hA (small1000 (by rw [List.length_map]; omega)) ?_
  have s1 : Same H (upd HA lA (.lst (sc.cols.map V.str ++ [V.str "more"]))) := fun b x e => (upd_ne (ne_of_none e fA)).trans (sA _ _ (s0 _ _ e))
  have o := o0.same s1
  revert s1 o
  generalize upd HA lA (.lst (sc.cols.map V.str ++ [V.str "more"])) = HB
  intro s1 o
  wtm_at "rd"
  refine sch_who o (by decide +kernel) (by decide +kernel) (by decide +kernel) (by decide +kernel) ?_
  wtm_at "rd"
  refine ⟨p, sc, rfl, o, sm, fun lC HC nC sC hC => ?_⟩
  have fC := s1.free nC
  wtm_at "rd"
  refine r_tyL (SqL.of hC) ?_
  refine ⟨lC, _, rfl, rfl, hC, ?_⟩
  have s2 : Same H (upd HC lC (.lst [])) := fun b x e => (upd_ne (ne_of_none e fC)).trans (sC _ _ (s1 _ _ e))
  revert s2
  generalize upd HC lC (.lst []) = HD
  intro s2
  wtm_at "rd"
  refine r_for (r_rng1 ?_)
  wtm_at "rd"
  refine r_upto (by omega) (by omega) ?_
  refine for_range (fun i σ H' => ∃ (y2 : Option V), σ = [some (.ref p), some (.ref a), y2] ∧ Same H H') ⟨_, rfl, s2⟩ ?_ ?_
  · rintro i σ H5 hi ⟨y2, rfl, s5⟩
    wtm_at "rd"
    refine ⟨p, sc, rfl, o0.same s5, hg, fun H6 s6 => ?_⟩
    have s6 := s5.trans s6
    wtm_at "rd"
    refine ⟨a, sc, rfl, so.same s6, hg, fun H7 s7 => ?_⟩
    have s7 := s6.trans s7
    wtm_at "rd"
    refine r_iten (fun e => absurd rfl e) (fun e => ?_)
    wtm_at "rd"
    refine ⟨p, a, sc, rfl, o0.same s7, so.same s7, hg, fun H8 s8 => ?_⟩
    have s0 := s7.trans s8
    have o := o0.same s0
    wtm_at "rdi"
    wtm_at "rd"
    refine sch_who o (by decide +kernel) (by decide +kernel) (by decide +kernel) (by decide +kernel) ?_
    wtm_at "rd"
    refine ⟨p, sc, rfl, o, sm, fun lA HA nA sA hA => ?_⟩
    have fA := s0.free nA
    wtm_at "rd"
    refine r_tyL (SqL.of hA) ?_
    wtm_at "rd"
    refine r_app hA (small1000 (by rw [List.length_map]; omega)) ?_
    have s1 : Same H (upd HA lA (.lst (sc.cols.map V.str ++ [V.str "more"]))) := fun b x e => (upd_ne (ne_of_none e fA)).trans (sA _ _ (s0 _ _ e))
    have o := o0.same s1
    revert s1 o
    generalize upd HA lA (.lst (sc.cols.map V.str ++ [V.str "more"])) = HB
    intro s1 o
    wtm_at "rd"
    refine sch_who o (by decide +kernel) (by decide +kernel) (by decide +kernel) (by decide +kernel) ?_
    wtm_at "rd"
    refine ⟨p, sc, rfl, o, sm, fun lC HC nC sC hC => ?_⟩
    have fC := s1.free nC
    wtm_at "rd"
    refine r_tyL (SqL.of hC) ?_
    refine ⟨lC, _, rfl, rfl, hC, ?_⟩
    have s2 : Same H (upd HC lC (.lst [])) := fun b x e => (upd_ne (ne_of_none e fC)).trans (sC _ _ (s1 _ _ e))
    revert s2
    generalize upd HC lC (.lst []) = HD
    intro s2
    wtm_at "rd"
    exact ⟨_, rfl, s2⟩
  · rintro σ H5 ⟨y2, rfl, s5⟩
    wtm_at "rd"
    refine ⟨p, sc, rfl, o0.same s5, hg, fun H6 s6 => ?_⟩
    have s6 := s5.trans s6
    wtm_at "rd"
    refine ⟨a, sc, rfl, so.same s6, hg, fun H7 s7 => ?_⟩
    have s7 := s6.trans s7
    wtm_at "rd"
    exact bl_to (q _ s7) (decide_eq_true rfl)
theorem ok__law_sorts_right (T : Txt K mg) : FnOk P w K mg base CX0 4 T.f__law_sorts_right T.d__law_sorts_right ["_law_spec_here", "_law_other"] spSortsR := by
  refine T.F__law_sorts_right.ok sc__law_sorts_right (fun vs H Q E h => ?_) (fun cdv A outer s H vs Q E hr h => ?_)
  · obtain ⟨a, b, sc, sd, rfl, _⟩ := h
    rfl
  obtain ⟨a, b, sc, sd, rfl, so, sp, hg, hk, q⟩ := h
  refine ⟨_, (pss_cons (ps_for PassesOwn.never rfl (pi_list (pe_ix (r := rIxL K) ix_list (pv 0) pe_int (fun _ _ => rfl))) (pg_name (i := 2) sc__law_sorts_right.nd rfl (by first | exact Or.inl rfl | exact Or.inr rfl)) (pss_one (ps_for PassesOwn.never rfl (pi_list (pe_ix (r := rIxL K) ix_list (pv 1) pe_int (fun _ _ => rfl))) (pg_name (i := 3) sc__law_sorts_right.nd rfl (by first | exact Or.inl rfl | exact Or.inr rfl)) (pss_one (ps_if (PW.pt (pw_or (pt_cmpR op_ne (pe_cmpR (op_eqO T.mt_Sort___eq__.at_ T.mt_Sort___eq__.fn (ok_Sort___eq__ T) (hr.mono (by decide)) T.b_Sort___eq__ pass0) (pe_call (ok__law_sort T) (hr.mono (by decide)) (by rfl) T.g__law_sort T.F__law_sort.kp T.b__law_sort .nil pass0 (pa_cons (pv 2) pa_nil)) (pe_call (ok__law_sort T) (hr.mono (by decide)) (by rfl) T.g__law_sort T.F__law_sort.kp T.b__law_sort .nil pass0 (pa_cons (pv 3) pa_nil)) (nomark _)) (pe_cmpR (op_eqD hr.units) (pv 2) (pv 3) (nomark _)) (nomark _)) (pw_or1 (pt_cmpR (op_eqO T.mt_Sort___eq__.at_ T.mt_Sort___eq__.fn (ok_Sort___eq__ T) (hr.mono (by decide)) T.b_Sort___eq__ pass0) (pe_call (ok__law_sort T) (hr.mono (by decide)) (by rfl) T.g__law_sort T.F__law_sort.kp T.b__law_sort .nil pass0 (pa_cons (pv 2) pa_nil)) (pv 2) (nomark _))))) (pss_one (ps_ret pe_bl)) pss_nil)))))
      (pss_one (ps_ret pe_bl))), ?_⟩
  try simp only [nox_K, cx_K]
  obtain ⟨aS, aP, aV, aM, ts, h0, h1, h2, h4, h5, h6⟩ := id so
  obtain ⟨bS, bP, bV, bM, us, g0, g1, g2, g4, g5, g6⟩ := id sp
  wtm_at "rd"
  refine r_for (r_il ?_)
  wtm_at "rd"
  refine r_itl (SqL.of h1) ?_
  refine for_list (K := K) (a := aS) (xs := ts.map V.ref) (fun i σ H' => ∃ (y2 y3 : Option V), σ = [some (.ref a), some (.ref b), y2, y3] ∧ Same H H') ⟨_, _, rfl, Same.refl _⟩ (fun i σ H' _ ⟨_, _, _, s⟩ => SqL.of (s _ _ h1)) ?_ ?_
  · rintro i v σ H1 hv ⟨y2, y3, rfl, s1⟩
    rw [List.getElem?_map] at hv
    obtain ⟨t, ht, rfl⟩ := Option.map_eq_some_iff.mp hv
    obtain ⟨s, hs, hts⟩ := h2.get ht
    have os := hg.srt (List.mem_of_getElem? hs)
    have g01 := s1 _ _ g0
    wtm_at "rd"
    refine r_for (r_il ?_)
    wtm_at "rd"
    refine r_itl (SqL.of (s1 _ _ g1)) ?_
    refine for_list (K := K) (a := bS) (xs := us.map V.ref) (fun i σ H' => ∃ (y3 : Option V), σ = [some (.ref a), some (.ref b), some (.ref t), y3] ∧ Same H H') ⟨_, rfl, s1⟩ (fun i σ H' _ ⟨_, _, s⟩ => SqL.of (s _ _ g1)) ?_ ?_
    · rintro j v σ H2 hv ⟨y3, rfl, s2⟩
      rw [List.getElem?_map] at hv
      obtain ⟨u, hu, rfl⟩ := Option.map_eq_some_iff.mp hv
      obtain ⟨s', hs', hus⟩ := g2.get hu
      have os' := hk.srt (List.mem_of_getElem? hs')
      wtm_at "rd"
      refine ⟨t, s, rfl, s2 _ _ hts, fun x H3 nx s3 o3 => ?_⟩
      have s3 := s2.trans s3
      wtm_at "rd"
      refine ⟨u, s', rfl, s3 _ _ hus, fun y H4 ny s4 o4 => ?_⟩
      have o3 := o3.same s4
      have s4 := s3.trans s4
      wtm_at "rd"
      obtain ⟨dx, z3⟩ := id o3
      refine ⟨x, _, _, _, rfl, z3, sort_ty T o4, T.nt_Sort, x, s, _, rfl, o3, .inl ⟨y, s', rfl, o4, ?_⟩⟩
      wtm_at "rd"
      refine r_eqTT (SqT.of (s4 _ _ hts)) (SqT.of (s4 _ _ hus)) (srt_eqD os) (srt_eqD os') srt_kind ?_
      rw [srtV_dec]
      wtm_at "rd"
      refine r_iten (fun e => absurd rfl e) (fun e => ?_)
      wtm_at "rd"
      refine ⟨t, s, rfl, s4 _ _ hts, fun x5 H5 nx5 s5 o5 => ?_⟩
      have s5 := s4.trans s5
      wtm_at "rd"
      obtain ⟨dx5, z5⟩ := id o5
      refine ⟨x5, _, _, _, rfl, z5, .base (.tup (s5 _ _ hts)), T.nt_Sort_tuple, x5, s, _, rfl, o5, .inr ⟨_, .base (.tup (s5 _ _ hts)), T.ki_Sort_tuple, ?_⟩⟩
      wtm_at "rdi"
      exact ⟨_, rfl, s5⟩
    · rintro σ H2 ⟨y3, rfl, s2⟩
      wtm_at "rd"
      exact ⟨_, _, rfl, s2⟩
  · rintro σ H1 ⟨y2, y3, rfl, s1⟩
    wtm_at "rd"
    exact q _ s1
end
section
variable {P : Program} {w : World} {K : PySem.W.Frag} {mg : Str → Option Value} {base : Heap}

theorem ok_law (T : Txt K mg) : FnG P w K mg base CX0 9 T.f_law T.d_law ["_law_script"] (spLaw K) := by
  refine okG T.F_law sc_law (fun vs H Q E h => ?_) (fun cdv A outer s H vs Q E hG hr h => ?_)
  · obtain ⟨a, ns, rfl, _⟩ := h
    rfl
  obtain ⟨a, ns, rfl, hS, hlen, q⟩ := h
  refine ⟨_, (pss_cons (ps_set (i := 1) sc_law.nd rfl (by first | exact Or.inl rfl | exact Or.inr rfl) (pe_call (ok__law_begin T) (hr.mono (by decide)) (by rfl) T.g__law_begin T.F__law_begin.kp T.b__law_begin .nil pass0 (pa_cons (pv 0) pa_nil)))
      (pss_cons (ps_for PassesOwn.never rfl (pi_range1 (by rfl) T.z_range (pa_cons pe_int pa_nil)) (pg_name (i := 2) sc_law.nd rfl (by first | exact Or.inl rfl | exact Or.inr rfl)) (pss_cons (ps_set (i := 3) sc_law.nd rfl (by first | exact Or.inl rfl | exact Or.inr rfl) (pe_call (ok__law_called T) (hr.mono (by decide)) (by rfl) T.g__law_called T.F__law_called.kp T.b__law_called .nil pass0 (pa_cons (pv 1) (pa_cons (pe_call (ok__law_spec T) (hr.mono (by decide)) (by rfl) T.g__law_spec T.F__law_spec.kp T.b__law_spec .nil pass0 (pa_cons (pv 1) (pa_cons pe_int pa_nil))) pa_nil))))
      (pss_cons (ps_set (i := 4) sc_law.nd rfl (by first | exact Or.inl rfl | exact Or.inr rfl) (pe_call (ok__law_changed T) (hr.mono (by decide)) (by rfl) T.g__law_changed T.F__law_changed.kp T.b__law_changed .nil pass0 (pa_cons (pv 1) (pa_cons (pv 3) pa_nil))))
      (pss_cons (ps_set (i := 5) sc_law.nd rfl (by first | exact Or.inl rfl | exact Or.inr rfl) (pe_call (ok__law_made T) (hr.mono (by decide)) (by rfl) T.g__law_made T.F__law_made.kp T.b__law_made .nil pass0 (pa_cons (pv 3) pa_nil)))
      (pss_cons (ps_set (i := 6) sc_law.nd rfl (by first | exact Or.inl rfl | exact Or.inr rfl) (pe_call (ok__law_made T) (hr.mono (by decide)) (by rfl) T.g__law_made T.F__law_made.kp T.b__law_made .nil pass0 (pa_cons (pv 4) pa_nil)))
      (pss_cons (ps_if (PW.pt (pw_or (pt_not (pt_val (pe_callG hG (ok__law_right T) (hr.mono (by decide)) (by rfl) T.g__law_right T.F__law_right.kp T.b__law_right .nil pass0 (pa_cons (pv 5) (pa_cons (pv 3) pa_nil))))) (pw_or (pt_not (pt_val (pe_callG hG (ok__law_right T) (hr.mono (by decide)) (by rfl) T.g__law_right T.F__law_right.kp T.b__law_right .nil pass0 (pa_cons (pv 6) (pa_cons (pv 4) pa_nil))))) (pw_or1 (pt_not (pt_val (pe_callG hG (ok__law_right T) (hr.mono (by decide)) (by rfl) T.g__law_right T.F__law_right.kp T.b__law_right .nil pass0 (pa_cons (pv 5) (pa_cons (pv 3) pa_nil))))))))) (pss_one (ps_ret pe_bl)) pss_nil)
      (pss_cons (ps_if (PW.pt (pw_or (pt_cmpR (op_neO T.mt_Scheme___eq__.at_ T.mt_Scheme___eq__.fn T.ne_Scheme T.ob_Scheme (ok_Scheme___eq__ T) (hr.mono (by decide)) T.b_Scheme___eq__ pass0) (pv 5) (pe_call (ok__law_made T) (hr.mono (by decide)) (by rfl) T.g__law_made T.F__law_made.kp T.b__law_made .nil pass0 (pa_cons (pv 3) pa_nil)) (nomark _)) (pw_or (pt_cmpR op_ne (pe_cmpR (op_eqO T.mt_Scheme___eq__.at_ T.mt_Scheme___eq__.fn (ok_Scheme___eq__ T) (hr.mono (by decide)) T.b_Scheme___eq__ pass0) (pv 5) (pv 6) (nomark _)) (pe_cmpR (op_eqD hr.units) (pv 3) (pv 4) (nomark _)) (nomark _)) (pw_or1 (pt_not (pt_val (pe_call (ok__law_sorts_right T) (hr.mono (by decide)) (by rfl) T.g__law_sorts_right T.F__law_sorts_right.kp T.b__law_sorts_right .nil pass0 (pa_cons (pv 3) (pa_cons (pv 4) pa_nil))))))))) (pss_one (ps_ret pe_bl)) pss_nil)
      (pss_one (ps_if (PW.pt (pw_or (pt_cmpR (op_eqO T.mt_Scheme___eq__.at_ T.mt_Scheme___eq__.fn (ok_Scheme___eq__ T) (hr.mono (by decide)) T.b_Scheme___eq__ pass0) (pv 5) (pe_call (ok__law_columns T) (hr.mono (by decide)) (by rfl) T.g__law_columns T.F__law_columns.kp T.b__law_columns .nil pass0 (pa_cons (pv 3) pa_nil)) (nomark _)) (pw_or1 (pt_cmpR (op_eqO T.mt_Scheme___eq__.at_ T.mt_Scheme___eq__.fn (ok_Scheme___eq__ T) (hr.mono (by decide)) T.b_Scheme___eq__ pass0) (pv 5) (pe_call (ok__law_sort T) (hr.mono (by decide)) (by rfl) T.g__law_sort T.F__law_sort.kp T.b__law_sort .nil pass0 (pa_cons (pe_ix (r := rIxL K) ix_list (pe_ix (r := rIxL K) ix_list (pv 3) pe_int (fun _ _ => rfl)) pe_int (fun _ _ => rfl)) pa_nil)) (nomark _))))) (pss_one (ps_ret pe_bl)) pss_nil)))))))))
      (pss_one (ps_ret pe_bl)))), ?_⟩
  try simp only [nox_K, cx_K]
  wtm_at "rd"
  refine ⟨a, ns, rfl, hS, hlen, fun d c r H1 D1 s1 nd nc nr => ?_⟩
  wtm_at "rd"
  refine r_for (r_rng1 ?_)
  wtm_at "rd"
  refine r_upto (by omega) (by omega) ?_
  refine for_range (fun i σ H' => ∃ (x2 x3 x4 x5 x6 : Option V), σ = [some (.ref a), some (.ref d), x2, x3, x4, x5, x6] ∧ Drw H' d c r) ⟨_, _, _, _, _, rfl, D1⟩ ?_ ?_
  · rintro i σ H3 hi ⟨x2, x3, x4, x5, x6, rfl, D3⟩
    wtm_at "rd"
    refine ⟨d, c, r, 3, rfl, D3, by decide, by decide, fun p0 sc0 H4 hg0 so0 D4 E4 => ?_⟩
    wtm_at "rd"
    refine ⟨d, c, r, p0, sc0, rfl, D4, so0, hg0, fun p sc H5 hg so D5 E5 => ?_⟩
    wtm_at "rd"
    refine ⟨d, c, r, p, sc, rfl, D5, so, hg, fun p2 sd H6 hk sp D6 E6 => ?_⟩
    have so := so.ext D5 E6
    wtm_at "rd"
    refine ⟨p, sc, rfl, so, hg, fun f H7 s7 o => ?_⟩
    have so := so.same s7
    have sp := sp.same s7
    have D7 := D6.same s7
    wtm_at "rd"
    refine ⟨p2, sd, rfl, sp, hk, fun f2 H8 s8 o2 => ?_⟩
    have so := so.same s8
    have sp := sp.same s8
    have D8 := D7.same s8
    have o := o.same s8
    have step : ∀ {H' : Hp}, Same H8 H' → SpecAt H' p sc ∧ SpecAt H' p2 sd ∧ Drw H' d c r ∧ SchAt K T.C_Scheme T.C_Sort H' f sc ∧ SchAt K T.C_Scheme T.C_Sort H' f2 sd := fun s => ⟨so.same s, sp.same s, D8.same s, o.same s, o2.same s⟩
    wtm_at "rd"
    refine ⟨f, p, sc, rfl, o, so, hg, fun H9 s9 => ?_⟩
    obtain ⟨so9, sp9, _, o9, o29⟩ := step s9
    wtm_at "rdi"
    refine ⟨f2, p2, sd, rfl, o29, sp9, hk, fun H10 s10 => ?_⟩
    have s10 := s9.trans s10
    obtain ⟨so10, sp10, _, o10, o210⟩ := step s10
    wtm_at "rdi"
    refine ⟨f, p, sc, rfl, o10, so10, hg, fun H11 s11 => ?_⟩
    have s11 := s10.trans s11
    obtain ⟨so11, sp11, _, o11, o211⟩ := step s11
    wtm_at "rdi"
    refine ⟨p, sc, rfl, so11, hg, fun f3 H12 s12 o3 => ?_⟩
    have s12 := s11.trans s12
    obtain ⟨so12, sp12, _, o12, o212⟩ := step s12
    wtm_at "rd"
    obtain ⟨dx, tS, tP, tV, tM, as, e, _⟩ := id o12
    refine ⟨f, _, _, _, rfl, e, sch_ty T o3, T.nt_Scheme, f, sc, _, rfl, o12, hg, .inl ⟨f3, sc, rfl, o3, hg, _, rfl, ?_⟩⟩
    rw [decide_eq_true rfl]
    wtm_at "rdi"
    refine ⟨f, _, _, _, rfl, e, sch_ty T o212, T.nt_Scheme, f, sc, _, rfl, o12, hg, .inl ⟨f2, sd, rfl, o212, hk, ?_⟩⟩
    wtm_at "rd"
    refine r_eqSpec so12 sp12 hg hk ?_
    wtm_at "rd"
    refine r_iten (fun e => absurd rfl e) (fun _ => ?_)
    wtm_at "rd"
    refine ⟨p, p2, sc, sd, rfl, so12, sp12, hg, hk, fun H13 s13 => ?_⟩
    have s13 := s12.trans s13
    obtain ⟨so13, sp13, _, o13, o213⟩ := step s13
    wtm_at "rdi"
    refine ⟨p, sc, rfl, so13, hg, fun lc H14 n14 s14 hc => ?_⟩
    have s14 := s13.trans s14
    obtain ⟨so14, sp14, _, o14, o214⟩ := step s14
    wtm_at "rd"
    obtain ⟨dx, tS, tP, tV, tM, as, e, _⟩ := id o14
    refine ⟨f, _, _, _, rfl, e, .base (.lst hc), T.nt_Scheme_list, f, sc, _, rfl, o14, hg, .inr ⟨_, .base (.lst hc), T.ki_Scheme_list, ?_⟩⟩
    obtain ⟨aS, aP, aV, aM, ts, h0, h1, h2, h4, h5, h6⟩ := id so14
    have l0 := hg.l0
    obtain ⟨t, ht, hat⟩ := at_refs (gs := ts) (k := 0) (by decide) (by rw [h2.len]; omega)
    obtain ⟨sr, hsr, hts⟩ := h2.get ht
    wtm_at "rdi"
    refine r_ixL (SqL.of h1) hat ?_
    wtm_at "rd"
    refine ⟨t, sr, rfl, hts, fun x H15 nx s15 o15 => ?_⟩
    have s15 := s14.trans s15
    obtain ⟨so15, sp15, D15, o15', o215⟩ := step s15
    wtm_at "rd"
    obtain ⟨dx, tS, tP, tV, tM, as, e, _⟩ := id o15'
    refine ⟨f, _, _, _, rfl, e, sort_ty T o15, T.nt_Scheme_Sort, f, sc, _, rfl, o15', hg, .inr ⟨_, sort_ty T o15, T.ki_Scheme_Sort, ?_⟩⟩
    wtm_at "rdi"
    exact ⟨_, _, _, _, _, rfl, D15⟩
  · rintro σ H4 ⟨x2, x3, x4, x5, x6, rfl, D4⟩
    wtm_at "rd"
    exact q _
end
theorem all_mk {l : PySem.W.OpenLaw} {w : World} {K : PySem.W.Frag} {h : Heap} {mg : Str → Option Value} {fa : Addr} (X : K.In h) (G : h.Ns mainGlobals mg) (hfa : mg "law" = some (.ref fa))
    {C_WindowError : Addr}
    {C_BadScheme : Addr}
    {nm_BadScheme q_BadScheme : Str} {N_BadScheme : Addr} {bs_BadScheme bm_BadScheme : List Value} {sn_BadScheme : List Str} {sub_BadScheme : List Value} {ab_BadScheme : Bool} {col_BadScheme : Option Bool} {dd_BadScheme : Option Addr} {m0_BadScheme m1_BadScheme m2_BadScheme m3_BadScheme m5_BadScheme : Option Value}
    {C_UnknownSort : Addr}
    {nm_UnknownSort q_UnknownSort : Str} {N_UnknownSort : Addr} {bs_UnknownSort bm_UnknownSort : List Value} {sn_UnknownSort : List Str} {sub_UnknownSort : List Value} {ab_UnknownSort : Bool} {col_UnknownSort : Option Bool} {dd_UnknownSort : Option Addr} {m0_UnknownSort m1_UnknownSort m2_UnknownSort m3_UnknownSort m5_UnknownSort : Option Value}
    {C_Sort : Addr}
    {C_Scheme : Addr}
    {tK_LETTERS : Tok}
    {cK_WORDS : Addr} {it_WORDS : Array Value} {nn_WORDS : Nat} {sl_WORDS : Array (Option Value)}
    {od0 an0 : Option Addr} {sl0 : Array (Option Value)} {oc0 kV0 dc0 pm0 cd0 ct0 : Value} {f0 : Addr}
    {od1 an1 : Option Addr} {sl1 : Array (Option Value)} {oc1 kV1 dc1 pm1 cd1 ct1 : Value} {f1 : Addr}
    {od2 an2 : Option Addr} {sl2 : Array (Option Value)} {oc2 kV2 dc2 pm2 cd2 ct2 : Value} {f2 : Addr}
    {od3 an3 : Option Addr} {sl3 : Array (Option Value)} {oc3 kV3 dc3 pm3 cd3 ct3 : Value} {f3 : Addr}
    {kD4 : Addr}
    {od4 an4 : Option Addr} {sl4 : Array (Option Value)} {oc4  dc4 pm4 cd4 ct4 : Value} {f4 : Addr}
    {od5 an5 : Option Addr} {sl5 : Array (Option Value)} {oc5 kV5 dc5 pm5 cd5 ct5 : Value} {f5 : Addr}
    {kD6 : Addr}
    {eD6_parts : Addr} {it6_parts : Array Value} {nn6_parts : Nat} {sl6_parts : Array (Option Value)}
    {eD6_values : Addr} {it6_values : Array Value} {nn6_values : Nat} {sl6_values : Array (Option Value)}
    {eD6_marks : Addr} {it6_marks : Array Value} {nn6_marks : Nat} {sl6_marks : Array (Option Value)}
    {od6 an6 : Option Addr} {sl6 : Array (Option Value)} {oc6  dc6 pm6 cd6 ct6 : Value} {f6 : Addr}
    {od7 an7 : Option Addr} {sl7 : Array (Option Value)} {oc7 kV7 dc7 pm7 cd7 ct7 : Value} {f7 : Addr}
    {od8 an8 : Option Addr} {sl8 : Array (Option Value)} {oc8 kV8 dc8 pm8 cd8 ct8 : Value} {f8 : Addr}
    {od9 an9 : Option Addr} {sl9 : Array (Option Value)} {oc9 kV9 dc9 pm9 cd9 ct9 : Value} {f9 : Addr}
    {od10 an10 : Option Addr} {sl10 : Array (Option Value)} {oc10 kV10 dc10 pm10 cd10 ct10 : Value} {f10 : Addr}
    {od11 an11 : Option Addr} {sl11 : Array (Option Value)} {oc11 kV11 dc11 pm11 cd11 ct11 : Value} {f11 : Addr}
    {od12 an12 : Option Addr} {sl12 : Array (Option Value)} {oc12 kV12 dc12 pm12 cd12 ct12 : Value} {f12 : Addr}
    {od13 an13 : Option Addr} {sl13 : Array (Option Value)} {oc13 kV13 dc13 pm13 cd13 ct13 : Value} {f13 : Addr}
    {od14 an14 : Option Addr} {sl14 : Array (Option Value)} {oc14 kV14 dc14 pm14 cd14 ct14 : Value} {f14 : Addr}
    {od15 an15 : Option Addr} {sl15 : Array (Option Value)} {oc15 kV15 dc15 pm15 cd15 ct15 : Value} {f15 : Addr}
    {od16 an16 : Option Addr} {sl16 : Array (Option Value)} {oc16 kV16 dc16 pm16 cd16 ct16 : Value} {f16 : Addr}
    {od17 an17 : Option Addr} {sl17 : Array (Option Value)} {oc17 kV17 dc17 pm17 cd17 ct17 : Value} {f17 : Addr}
    {od18 an18 : Option Addr} {sl18 : Array (Option Value)} {oc18 kV18 dc18 pm18 cd18 ct18 : Value} {f18 : Addr}
    {od19 an19 : Option Addr} {sl19 : Array (Option Value)} {oc19 kV19 dc19 pm19 cd19 ct19 : Value} {f19 : Addr}
    {od20 an20 : Option Addr} {sl20 : Array (Option Value)} {oc20 kV20 dc20 pm20 cd20 ct20 : Value} {f20 : Addr}
    {od21 an21 : Option Addr} {sl21 : Array (Option Value)} {oc21 kV21 dc21 pm21 cd21 ct21 : Value} {f21 : Addr}
    {od22 an22 : Option Addr} {sl22 : Array (Option Value)} {oc22 kV22 dc22 pm22 cd22 ct22 : Value} {f22 : Addr}
    {od23 an23 : Option Addr} {sl23 : Array (Option Value)} {oc23 kV23 dc23 pm23 cd23 ct23 : Value} {f23 : Addr}
    {od24 an24 : Option Addr} {sl24 : Array (Option Value)} {oc24 kV24 dc24 pm24 cd24 ct24 : Value} {f24 : Addr}
    {od25 an25 : Option Addr} {sl25 : Array (Option Value)} {oc25 kV25 dc25 pm25 cd25 ct25 : Value} {f25 : Addr}
    {od26 an26 : Option Addr} {sl26 : Array (Option Value)} {oc26 kV26 dc26 pm26 cd26 ct26 : Value} {f26 : Addr}
    {od27 an27 : Option Addr} {sl27 : Array (Option Value)} {oc27 kV27 dc27 pm27 cd27 ct27 : Value} {f27 : Addr}
    {od28 an28 : Option Addr} {sl28 : Array (Option Value)} {oc28 kV28 dc28 pm28 cd28 ct28 : Value} {f28 : Addr}
    {od29 an29 : Option Addr} {sl29 : Array (Option Value)} {oc29 kV29 dc29 pm29 cd29 ct29 : Value} {f29 : Addr}
    (aC_WindowError : PySem.W.nsIn K mainGlobals "WindowError" = some (some (.ref C_WindowError)))
    (aC_BadScheme : PySem.W.nsIn K mainGlobals "BadScheme" = some (some (.ref C_BadScheme)))
    (aC_UnknownSort : PySem.W.nsIn K mainGlobals "UnknownSort" = some (some (.ref C_UnknownSort)))
    (aC_Sort : PySem.W.nsIn K mainGlobals "Sort" = some (some (.ref C_Sort)))
    (aC_Scheme : PySem.W.nsIn K mainGlobals "Scheme" = some (some (.ref C_Scheme)))
    (aC_LETTERS : PySem.W.nsIn K mainGlobals "LETTERS" = some (some (.str "abcdefghijklmnopqrstuvwxyz" tK_LETTERS)))
    (aC_WORDS : PySem.W.nsIn K mainGlobals "WORDS" = some (some (.ref cK_WORDS)))
    (a0 : PySem.W.findIn K (.ref C_BadScheme) "__init__" = some (some (.ref f0)))
    (i0 : PySem.W.isFn K (.ref f0) = true)
    (l0 : K.lookup f0 = some ⟨oc0, od0, .func (PySem.W.fnOf "__init__" "BadScheme.__init__" (defArgs s_BadScheme___init__) (defBody s_BadScheme___init__) (defScope s_BadScheme___init__) .none kV0 dc0 pm0 an0 cd0 ct0), sl0⟩)
    (c0 : PySem.W.codeIn K cd0 "BadScheme.__init__" = true)
    (k0 : PySem.W.keepIn K (.ref f0) = true)
    (a1 : PySem.W.findIn K (.ref C_UnknownSort) "__init__" = some (some (.ref f1)))
    (i1 : PySem.W.isFn K (.ref f1) = true)
    (l1 : K.lookup f1 = some ⟨oc1, od1, .func (PySem.W.fnOf "__init__" "UnknownSort.__init__" (defArgs s_UnknownSort___init__) (defBody s_UnknownSort___init__) (defScope s_UnknownSort___init__) .none kV1 dc1 pm1 an1 cd1 ct1), sl1⟩)
    (c1 : PySem.W.codeIn K cd1 "UnknownSort.__init__" = true)
    (k1 : PySem.W.keepIn K (.ref f1) = true)
    (a2 : PySem.W.nsIn K mainGlobals "is_name" = some (some (.ref f2)))
    (l2 : K.lookup f2 = some ⟨oc2, od2, .func (PySem.W.fnOf "is_name" "is_name" (defArgs s_is_name) (defBody s_is_name) (defScope s_is_name) .none kV2 dc2 pm2 an2 cd2 ct2), sl2⟩)
    (c2 : PySem.W.codeIn K cd2 "is_name" = true)
    (k2 : PySem.W.keepIn K (.ref f2) = true)
    (a3 : PySem.W.nsIn K mainGlobals "first_double" = some (some (.ref f3)))
    (l3 : K.lookup f3 = some ⟨oc3, od3, .func (PySem.W.fnOf "first_double" "first_double" (defArgs s_first_double) (defBody s_first_double) (defScope s_first_double) .none kV3 dc3 pm3 an3 cd3 ct3), sl3⟩)
    (c3 : PySem.W.codeIn K cd3 "first_double" = true)
    (k3 : PySem.W.keepIn K (.ref f3) = true)
    (a4 : PySem.W.findIn K (.ref C_Sort) "__init__" = some (some (.ref f4)))
    (i4 : PySem.W.isFn K (.ref f4) = true)
    (l4 : K.lookup f4 = some ⟨oc4, od4, .func (PySem.W.fnOf "__init__" "Sort.__init__" (defArgs s_Sort___init__) (defBody s_Sort___init__) (defScope s_Sort___init__) .none (.ref kD4) dc4 pm4 an4 cd4 ct4), sl4⟩)
    (c4 : PySem.W.codeIn K cd4 "Sort.__init__" = true)
    (k4 : PySem.W.keepIn K (.ref f4) = true)
    (kd4_part : PySem.W.nsIn K kD4 "part" = some (some (.none)))
    (kd4_descending : PySem.W.nsIn K kD4 "descending" = some (some (.bool false)))
    (a5 : PySem.W.findIn K (.ref C_Sort) "__eq__" = some (some (.ref f5)))
    (i5 : PySem.W.isFn K (.ref f5) = true)
    (l5 : K.lookup f5 = some ⟨oc5, od5, .func (PySem.W.fnOf "__eq__" "Sort.__eq__" (defArgs s_Sort___eq__) (defBody s_Sort___eq__) (defScope s_Sort___eq__) .none kV5 dc5 pm5 an5 cd5 ct5), sl5⟩)
    (c5 : PySem.W.codeIn K cd5 "Sort.__eq__" = true)
    (k5 : PySem.W.keepIn K (.ref f5) = true)
    (a6 : PySem.W.findIn K (.ref C_Scheme) "__init__" = some (some (.ref f6)))
    (i6 : PySem.W.isFn K (.ref f6) = true)
    (l6 : K.lookup f6 = some ⟨oc6, od6, .func (PySem.W.fnOf "__init__" "Scheme.__init__" (defArgs s_Scheme___init__) (defBody s_Scheme___init__) (defScope s_Scheme___init__) .none (.ref kD6) dc6 pm6 an6 cd6 ct6), sl6⟩)
    (c6 : PySem.W.codeIn K cd6 "Scheme.__init__" = true)
    (k6 : PySem.W.keepIn K (.ref f6) = true)
    (kd6_parts : PySem.W.nsIn K kD6 "parts" = some (some (.ref eD6_parts)))
    (le6_parts : K.lookup eD6_parts = some ⟨.type "tuple", none, .seq it6_parts nn6_parts, sl6_parts⟩)
    (ve6_parts : Vals [] it6_parts.toList)
    (kd6_values : PySem.W.nsIn K kD6 "values" = some (some (.ref eD6_values)))
    (le6_values : K.lookup eD6_values = some ⟨.type "tuple", none, .seq it6_values nn6_values, sl6_values⟩)
    (ve6_values : Vals [] it6_values.toList)
    (kd6_marks : PySem.W.nsIn K kD6 "marks" = some (some (.ref eD6_marks)))
    (le6_marks : K.lookup eD6_marks = some ⟨.type "tuple", none, .seq it6_marks nn6_marks, sl6_marks⟩)
    (ve6_marks : Vals [] it6_marks.toList)
    (a7 : PySem.W.findIn K (.ref C_Scheme) "inspect" = some (some (.ref f7)))
    (i7 : PySem.W.isFn K (.ref f7) = true)
    (l7 : K.lookup f7 = some ⟨oc7, od7, .func (PySem.W.fnOf "inspect" "Scheme.inspect" (defArgs s_Scheme_inspect) (defBody s_Scheme_inspect) (defScope s_Scheme_inspect) .none kV7 dc7 pm7 an7 cd7 ct7), sl7⟩)
    (c7 : PySem.W.codeIn K cd7 "Scheme.inspect" = true)
    (k7 : PySem.W.keepIn K (.ref f7) = true)
    (a8 : PySem.W.findIn K (.ref C_Scheme) "columns" = some (some (.ref f8)))
    (i8 : PySem.W.isFn K (.ref f8) = true)
    (l8 : K.lookup f8 = some ⟨oc8, od8, .func (PySem.W.fnOf "columns" "Scheme.columns" (defArgs s_Scheme_columns) (defBody s_Scheme_columns) (defScope s_Scheme_columns) .none kV8 dc8 pm8 an8 cd8 ct8), sl8⟩)
    (c8 : PySem.W.codeIn K cd8 "Scheme.columns" = true)
    (k8 : PySem.W.keepIn K (.ref f8) = true)
    (a9 : PySem.W.findIn K (.ref C_Scheme) "sort_names" = some (some (.ref f9)))
    (i9 : PySem.W.isFn K (.ref f9) = true)
    (l9 : K.lookup f9 = some ⟨oc9, od9, .func (PySem.W.fnOf "sort_names" "Scheme.sort_names" (defArgs s_Scheme_sort_names) (defBody s_Scheme_sort_names) (defScope s_Scheme_sort_names) .none kV9 dc9 pm9 an9 cd9 ct9), sl9⟩)
    (c9 : PySem.W.codeIn K cd9 "Scheme.sort_names" = true)
    (k9 : PySem.W.keepIn K (.ref f9) = true)
    (a10 : PySem.W.findIn K (.ref C_Scheme) "sort_named" = some (some (.ref f10)))
    (i10 : PySem.W.isFn K (.ref f10) = true)
    (l10 : K.lookup f10 = some ⟨oc10, od10, .func (PySem.W.fnOf "sort_named" "Scheme.sort_named" (defArgs s_Scheme_sort_named) (defBody s_Scheme_sort_named) (defScope s_Scheme_sort_named) .none kV10 dc10 pm10 an10 cd10 ct10), sl10⟩)
    (c10 : PySem.W.codeIn K cd10 "Scheme.sort_named" = true)
    (k10 : PySem.W.keepIn K (.ref f10) = true)
    (a11 : PySem.W.findIn K (.ref C_Scheme) "__eq__" = some (some (.ref f11)))
    (i11 : PySem.W.isFn K (.ref f11) = true)
    (l11 : K.lookup f11 = some ⟨oc11, od11, .func (PySem.W.fnOf "__eq__" "Scheme.__eq__" (defArgs s_Scheme___eq__) (defBody s_Scheme___eq__) (defScope s_Scheme___eq__) .none kV11 dc11 pm11 an11 cd11 ct11), sl11⟩)
    (c11 : PySem.W.codeIn K cd11 "Scheme.__eq__" = true)
    (k11 : PySem.W.keepIn K (.ref f11) = true)
    (a12 : PySem.W.nsIn K mainGlobals "_law_begin" = some (some (.ref f12)))
    (l12 : K.lookup f12 = some ⟨oc12, od12, .func (PySem.W.fnOf "_law_begin" "_law_begin" (defArgs s__law_begin) (defBody s__law_begin) (defScope s__law_begin) .none kV12 dc12 pm12 an12 cd12 ct12), sl12⟩)
    (c12 : PySem.W.codeIn K cd12 "_law_begin" = true)
    (k12 : PySem.W.keepIn K (.ref f12) = true)
    (a13 : PySem.W.nsIn K mainGlobals "_law_draw" = some (some (.ref f13)))
    (l13 : K.lookup f13 = some ⟨oc13, od13, .func (PySem.W.fnOf "_law_draw" "_law_draw" (defArgs s__law_draw) (defBody s__law_draw) (defScope s__law_draw) .none kV13 dc13 pm13 an13 cd13 ct13), sl13⟩)
    (c13 : PySem.W.codeIn K cd13 "_law_draw" = true)
    (k13 : PySem.W.keepIn K (.ref f13) = true)
    (a14 : PySem.W.nsIn K mainGlobals "_law_name" = some (some (.ref f14)))
    (l14 : K.lookup f14 = some ⟨oc14, od14, .func (PySem.W.fnOf "_law_name" "_law_name" (defArgs s__law_name) (defBody s__law_name) (defScope s__law_name) .none kV14 dc14 pm14 an14 cd14 ct14), sl14⟩)
    (c14 : PySem.W.codeIn K cd14 "_law_name" = true)
    (k14 : PySem.W.keepIn K (.ref f14) = true)
    (a15 : PySem.W.nsIn K mainGlobals "_law_names" = some (some (.ref f15)))
    (l15 : K.lookup f15 = some ⟨oc15, od15, .func (PySem.W.fnOf "_law_names" "_law_names" (defArgs s__law_names) (defBody s__law_names) (defScope s__law_names) .none kV15 dc15 pm15 an15 cd15 ct15), sl15⟩)
    (c15 : PySem.W.codeIn K cd15 "_law_names" = true)
    (k15 : PySem.W.keepIn K (.ref f15) = true)
    (a16 : PySem.W.nsIn K mainGlobals "_law_spec" = some (some (.ref f16)))
    (l16 : K.lookup f16 = some ⟨oc16, od16, .func (PySem.W.fnOf "_law_spec" "_law_spec" (defArgs s__law_spec) (defBody s__law_spec) (defScope s__law_spec) .none kV16 dc16 pm16 an16 cd16 ct16), sl16⟩)
    (c16 : PySem.W.codeIn K cd16 "_law_spec" = true)
    (k16 : PySem.W.keepIn K (.ref f16) = true)
    (a17 : PySem.W.nsIn K mainGlobals "_law_sort" = some (some (.ref f17)))
    (l17 : K.lookup f17 = some ⟨oc17, od17, .func (PySem.W.fnOf "_law_sort" "_law_sort" (defArgs s__law_sort) (defBody s__law_sort) (defScope s__law_sort) .none kV17 dc17 pm17 an17 cd17 ct17), sl17⟩)
    (c17 : PySem.W.codeIn K cd17 "_law_sort" = true)
    (k17 : PySem.W.keepIn K (.ref f17) = true)
    (a18 : PySem.W.nsIn K mainGlobals "_law_made" = some (some (.ref f18)))
    (l18 : K.lookup f18 = some ⟨oc18, od18, .func (PySem.W.fnOf "_law_made" "_law_made" (defArgs s__law_made) (defBody s__law_made) (defScope s__law_made) .none kV18 dc18 pm18 an18 cd18 ct18), sl18⟩)
    (c18 : PySem.W.codeIn K cd18 "_law_made" = true)
    (k18 : PySem.W.keepIn K (.ref f18) = true)
    (a19 : PySem.W.nsIn K mainGlobals "_law_told" = some (some (.ref f19)))
    (l19 : K.lookup f19 = some ⟨oc19, od19, .func (PySem.W.fnOf "_law_told" "_law_told" (defArgs s__law_told) (defBody s__law_told) (defScope s__law_told) .none kV19 dc19 pm19 an19 cd19 ct19), sl19⟩)
    (c19 : PySem.W.codeIn K cd19 "_law_told" = true)
    (k19 : PySem.W.keepIn K (.ref f19) = true)
    (a20 : PySem.W.nsIn K mainGlobals "_law_columns" = some (some (.ref f20)))
    (l20 : K.lookup f20 = some ⟨oc20, od20, .func (PySem.W.fnOf "_law_columns" "_law_columns" (defArgs s__law_columns) (defBody s__law_columns) (defScope s__law_columns) .none kV20 dc20 pm20 an20 cd20 ct20), sl20⟩)
    (c20 : PySem.W.codeIn K cd20 "_law_columns" = true)
    (k20 : PySem.W.keepIn K (.ref f20) = true)
    (a21 : PySem.W.nsIn K mainGlobals "_law_due" = some (some (.ref f21)))
    (l21 : K.lookup f21 = some ⟨oc21, od21, .func (PySem.W.fnOf "_law_due" "_law_due" (defArgs s__law_due) (defBody s__law_due) (defScope s__law_due) .none kV21 dc21 pm21 an21 cd21 ct21), sl21⟩)
    (c21 : PySem.W.codeIn K cd21 "_law_due" = true)
    (k21 : PySem.W.keepIn K (.ref f21) = true)
    (a22 : PySem.W.nsIn K mainGlobals "_law_four" = some (some (.ref f22)))
    (l22 : K.lookup f22 = some ⟨oc22, od22, .func (PySem.W.fnOf "_law_four" "_law_four" (defArgs s__law_four) (defBody s__law_four) (defScope s__law_four) .none kV22 dc22 pm22 an22 cd22 ct22), sl22⟩)
    (c22 : PySem.W.codeIn K cd22 "_law_four" = true)
    (k22 : PySem.W.keepIn K (.ref f22) = true)
    (a23 : PySem.W.nsIn K mainGlobals "_law_named" = some (some (.ref f23)))
    (l23 : K.lookup f23 = some ⟨oc23, od23, .func (PySem.W.fnOf "_law_named" "_law_named" (defArgs s__law_named) (defBody s__law_named) (defScope s__law_named) .none kV23 dc23 pm23 an23 cd23 ct23), sl23⟩)
    (c23 : PySem.W.codeIn K cd23 "_law_named" = true)
    (k23 : PySem.W.keepIn K (.ref f23) = true)
    (a24 : PySem.W.nsIn K mainGlobals "_law_names_right" = some (some (.ref f24)))
    (l24 : K.lookup f24 = some ⟨oc24, od24, .func (PySem.W.fnOf "_law_names_right" "_law_names_right" (defArgs s__law_names_right) (defBody s__law_names_right) (defScope s__law_names_right) .none kV24 dc24 pm24 an24 cd24 ct24), sl24⟩)
    (c24 : PySem.W.codeIn K cd24 "_law_names_right" = true)
    (k24 : PySem.W.keepIn K (.ref f24) = true)
    (a25 : PySem.W.nsIn K mainGlobals "_law_called" = some (some (.ref f25)))
    (l25 : K.lookup f25 = some ⟨oc25, od25, .func (PySem.W.fnOf "_law_called" "_law_called" (defArgs s__law_called) (defBody s__law_called) (defScope s__law_called) .none kV25 dc25 pm25 an25 cd25 ct25), sl25⟩)
    (c25 : PySem.W.codeIn K cd25 "_law_called" = true)
    (k25 : PySem.W.keepIn K (.ref f25) = true)
    (a26 : PySem.W.nsIn K mainGlobals "_law_changed" = some (some (.ref f26)))
    (l26 : K.lookup f26 = some ⟨oc26, od26, .func (PySem.W.fnOf "_law_changed" "_law_changed" (defArgs s__law_changed) (defBody s__law_changed) (defScope s__law_changed) .none kV26 dc26 pm26 an26 cd26 ct26), sl26⟩)
    (c26 : PySem.W.codeIn K cd26 "_law_changed" = true)
    (k26 : PySem.W.keepIn K (.ref f26) = true)
    (a27 : PySem.W.nsIn K mainGlobals "_law_right" = some (some (.ref f27)))
    (l27 : K.lookup f27 = some ⟨oc27, od27, .func (PySem.W.fnOf "_law_right" "_law_right" (defArgs s__law_right) (defBody s__law_right) (defScope s__law_right) .none kV27 dc27 pm27 an27 cd27 ct27), sl27⟩)
    (c27 : PySem.W.codeIn K cd27 "_law_right" = true)
    (k27 : PySem.W.keepIn K (.ref f27) = true)
    (a28 : PySem.W.nsIn K mainGlobals "_law_sorts_right" = some (some (.ref f28)))
    (l28 : K.lookup f28 = some ⟨oc28, od28, .func (PySem.W.fnOf "_law_sorts_right" "_law_sorts_right" (defArgs s__law_sorts_right) (defBody s__law_sorts_right) (defScope s__law_sorts_right) .none kV28 dc28 pm28 an28 cd28 ct28), sl28⟩)
    (c28 : PySem.W.codeIn K cd28 "_law_sorts_right" = true)
    (k28 : PySem.W.keepIn K (.ref f28) = true)
    (a29 : PySem.W.nsIn K mainGlobals "law" = some (some (.ref f29)))
    (l29 : K.lookup f29 = some ⟨oc29, od29, .func (PySem.W.fnOf "law" "law" (defArgs s_law) (defBody s_law) (defScope s_law) .none kV29 dc29 pm29 an29 cd29 ct29), sl29⟩)
    (c29 : PySem.W.codeIn K cd29 "law" = true)
    (k29 : PySem.W.keepIn K (.ref f29) = true)
    (z_abs : PySem.W.nsIn K mainGlobals "abs" = some none)
    (z_all : PySem.W.nsIn K mainGlobals "all" = some none)
    (z_int : PySem.W.nsIn K mainGlobals "int" = some none)
    (z_isinstance : PySem.W.nsIn K mainGlobals "isinstance" = some none)
    (z_len : PySem.W.nsIn K mainGlobals "len" = some none)
    (z_list : PySem.W.nsIn K mainGlobals "list" = some none)
    (z_range : PySem.W.nsIn K mainGlobals "range" = some none)
    (z_repr : PySem.W.nsIn K mainGlobals "repr" = some none)
    (z_str : PySem.W.nsIn K mainGlobals "str" = some none)
    (z_tuple : PySem.W.nsIn K mainGlobals "tuple" = some none)
    (ex_WindowError : PySem.W.subIn K (.ref C_WindowError) (.type "BaseException") = some true)
    (ty_WindowError : PySem.W.typeIn K (.ref C_WindowError) = some (.type "type"))
    (hd_WindowError : PySem.W.hasDictIn K C_WindowError = true)
    (ex_BadScheme : PySem.W.subIn K (.ref C_BadScheme) (.type "BaseException") = some true)
    (ty_BadScheme : PySem.W.typeIn K (.ref C_BadScheme) = some (.type "type"))
    (hd_BadScheme : PySem.W.hasDictIn K C_BadScheme = true)
    (xL_BadScheme : K.lookup C_BadScheme = some (excClassObj nm_BadScheme q_BadScheme C_BadScheme N_BadScheme bs_BadScheme bm_BadScheme true sn_BadScheme sub_BadScheme ab_BadScheme col_BadScheme dd_BadScheme m0_BadScheme m1_BadScheme m2_BadScheme m3_BadScheme m5_BadScheme "ValueError.__new__"))
    (bmr_BadScheme : PySem.HandSPX.refsVE bm_BadScheme = true)
    (sa_BadScheme : PySem.W.findIn K (.ref C_BadScheme) "__setattr__" = some (some (.builtin "object.__setattr__")))
    (kc_BadScheme : PySem.W.keepIn K (.ref C_BadScheme) = true)
    (ga_BadScheme : PySem.W.findIn K (.ref C_BadScheme) "__getattribute__" = some (some (.builtin "BaseException.__getattribute__")))
    (gg_BadScheme : PySem.W.findIn K (.ref C_BadScheme) "__getattr__" = some none)
    (tI_BadScheme : PySem.W.typeIn K (.ref f0) = some (.type "function"))
    (nf_BadScheme_word : PySem.W.findIn K (.ref C_BadScheme) "word" = some none)
    (ex_UnknownSort : PySem.W.subIn K (.ref C_UnknownSort) (.type "BaseException") = some true)
    (ty_UnknownSort : PySem.W.typeIn K (.ref C_UnknownSort) = some (.type "type"))
    (hd_UnknownSort : PySem.W.hasDictIn K C_UnknownSort = true)
    (xL_UnknownSort : K.lookup C_UnknownSort = some (excClassObj nm_UnknownSort q_UnknownSort C_UnknownSort N_UnknownSort bs_UnknownSort bm_UnknownSort true sn_UnknownSort sub_UnknownSort ab_UnknownSort col_UnknownSort dd_UnknownSort m0_UnknownSort m1_UnknownSort m2_UnknownSort m3_UnknownSort m5_UnknownSort "ValueError.__new__"))
    (bmr_UnknownSort : PySem.HandSPX.refsVE bm_UnknownSort = true)
    (sa_UnknownSort : PySem.W.findIn K (.ref C_UnknownSort) "__setattr__" = some (some (.builtin "object.__setattr__")))
    (kc_UnknownSort : PySem.W.keepIn K (.ref C_UnknownSort) = true)
    (ga_UnknownSort : PySem.W.findIn K (.ref C_UnknownSort) "__getattribute__" = some (some (.builtin "BaseException.__getattribute__")))
    (gg_UnknownSort : PySem.W.findIn K (.ref C_UnknownSort) "__getattr__" = some none)
    (tI_UnknownSort : PySem.W.typeIn K (.ref f1) = some (.type "function"))
    (nf_UnknownSort_name : PySem.W.findIn K (.ref C_UnknownSort) "name" = some none)
    (su_UnknownSort_UnknownSort : PySem.W.subIn K (.ref C_UnknownSort) (.ref C_UnknownSort) = some true)
    (is_UnknownSort_UnknownSort : PySem.W.isIn K (.ref C_UnknownSort) C_UnknownSort = true)
    (pg_Sort : PySem.W.plainGet K C_Sort Str.empty = true)
    (hd_Sort : PySem.W.hasDictIn K C_Sort = true)
    (po_Sort : PySem.W.plainOver K C_Sort = true)
    (sa_Sort : PySem.W.findIn K (.ref C_Sort) "__setattr__" = some (some (.builtin "object.__setattr__")))
    (mk_Sort : PySem.W.makesIn K C_Sort = true)
    (kc_Sort : PySem.W.keepIn K (.ref C_Sort) = true)
    (nf_Sort_name : PySem.W.findIn K (.ref C_Sort) "name" = some none)
    (nf_Sort_key : PySem.W.findIn K (.ref C_Sort) "key" = some none)
    (nf_Sort_part : PySem.W.findIn K (.ref C_Sort) "part" = some none)
    (nf_Sort_descending : PySem.W.findIn K (.ref C_Sort) "descending" = some none)
    (ca_Sort : PySem.W.findIn K (.ref C_Sort) "__class__" = some (some (.builtin "object.__class__")))
    (cn_Sort : PySem.W.specialIn K (.builtin "object.__class__") "__get__" = some (some (.builtin "getset_descriptor.__get__")))
    (ct_Sort : PySem.W.takesIn K (.builtin "object.__class__") = some true)
    (cm_Sort : PySem.W.mroIn K C_Sort (.type "object") = some true)
    (ne_Sort : PySem.W.findIn K (.ref C_Sort) "__ne__" = some (some (.builtin "object.__ne__")))
    (ob_Sort : PySem.W.subIn K (.ref C_Sort) (.type "object") = some true)
    (nt_Sort : PySem.W.notFirst K C_Sort (.ref C_Sort) = true)
    (nt_Sort_tuple : PySem.W.notFirst K C_Sort (.type "tuple") = true)
    (ki_Sort_tuple : PySem.W.kitOne K (.type "tuple") (.ref C_Sort) = some false)
    (pg_Scheme : PySem.W.plainGet K C_Scheme Str.empty = true)
    (hd_Scheme : PySem.W.hasDictIn K C_Scheme = true)
    (po_Scheme : PySem.W.plainOver K C_Scheme = true)
    (sa_Scheme : PySem.W.findIn K (.ref C_Scheme) "__setattr__" = some (some (.builtin "object.__setattr__")))
    (mk_Scheme : PySem.W.makesIn K C_Scheme = true)
    (kc_Scheme : PySem.W.keepIn K (.ref C_Scheme) = true)
    (nf_Scheme_sorts : PySem.W.findIn K (.ref C_Scheme) "sorts" = some none)
    (nf_Scheme_part_columns : PySem.W.findIn K (.ref C_Scheme) "part_columns" = some none)
    (nf_Scheme_value_columns : PySem.W.findIn K (.ref C_Scheme) "value_columns" = some none)
    (nf_Scheme_mark_columns : PySem.W.findIn K (.ref C_Scheme) "mark_columns" = some none)
    (ca_Scheme : PySem.W.findIn K (.ref C_Scheme) "__class__" = some (some (.builtin "object.__class__")))
    (cn_Scheme : PySem.W.specialIn K (.builtin "object.__class__") "__get__" = some (some (.builtin "getset_descriptor.__get__")))
    (ct_Scheme : PySem.W.takesIn K (.builtin "object.__class__") = some true)
    (cm_Scheme : PySem.W.mroIn K C_Scheme (.type "object") = some true)
    (ne_Scheme : PySem.W.findIn K (.ref C_Scheme) "__ne__" = some (some (.builtin "object.__ne__")))
    (ob_Scheme : PySem.W.subIn K (.ref C_Scheme) (.type "object") = some true)
    (nt_Scheme : PySem.W.notFirst K C_Scheme (.ref C_Scheme) = true)
    (nt_Scheme_list : PySem.W.notFirst K C_Scheme (.type "list") = true)
    (ki_Scheme_list : PySem.W.kitOne K (.type "list") (.ref C_Scheme) = some false)
    (nt_Scheme_Sort : PySem.W.notFirst K C_Scheme (.ref C_Sort) = true)
    (ki_Scheme_Sort : PySem.W.kitOne K (.ref C_Sort) (.ref C_Scheme) = some false)
    (lK_WORDS : K.lookup cK_WORDS = some ⟨.type "tuple", none, .seq it_WORDS nn_WORDS, sl_WORDS⟩)
    (vK_WORDS : Vals [V.str "rows", V.str "groups", V.str "keys", V.str "self", V.str "ties", V.str "group", V.str "all", V.str "none", V.str "sum", V.str "count", V.str "by", V.str "not"] it_WORDS.toList)
    : ∃ fd : FuncData, (∀ (s : Shared) (v : Value), BindsTo s fd ⟨[v], []⟩ [("_law_script", v)]) ∧ ∀ base : Heap, K.In base → base.Ns mainGlobals mg → FnG l.prog w K mg base CX0 9 fa fd ["_law_script"] (spLaw K) := by
  have e := hfa.symm.trans (PySem.W.mg_of X G a29)
  cases e
  have F0 := fun_mk (st := s_BadScheme___init__) l0 c0 k0
  have b0 := F0.binds (ps := ["self", "word"]) fun _ _ _ _ _ _ us hl => match us, hl with | [_, _], _ => rfl
  have F1 := fun_mk (st := s_UnknownSort___init__) l1 c1 k1
  have b1 := F1.binds (ps := ["self", "name"]) fun _ _ _ _ _ _ us hl => match us, hl with | [_, _], _ => rfl
  have F2 := fun_mk (st := s_is_name) l2 c2 k2
  have b2 := F2.binds (ps := ["thing"]) fun _ _ _ _ _ _ us hl => match us, hl with | [_], _ => rfl
  have F3 := fun_mk (st := s_first_double) l3 c3 k3
  have b3 := F3.binds (ps := ["words"]) fun _ _ _ _ _ _ us hl => match us, hl with | [_], _ => rfl
  have F4 := fun_mk (st := s_Sort___init__) l4 c4 k4
  have D4 : FunD K "__init__" "Sort.__init__" (defArgs s_Sort___init__) (defBody s_Sort___init__) (defScope s_Sort___init__) [] [("part", V.non), ("descending", V.bl false)] f4 _ := ⟨⟨_, _, _, _, _, _, _, _, _, _, rfl, l4, c4, .inl ⟨rfl, rfl⟩, .inr ⟨_, rfl, fun q hq => by
    simp only [List.mem_cons, List.mem_nil_iff, or_false] at hq
    rcases hq with rfl | rfl
    · exact ⟨_, kd4_part, rfl⟩
    · exact ⟨_, kd4_descending, rfl⟩⟩⟩, k4⟩
  obtain ⟨ds4, rds4, bd4⟩ := D4.binds0 (ps := ["self", "name", "key", "part", "descending"]) 3 (by simp) rfl fun D doc pm an cdv ct us ks hl hk => match us, ks, hl, hk with | [_, _, _], [_, _], _, _ => ⟨_, _, _, _, _, _, rfl, rfl, ⟨_, _, _, _, _, _, rfl, rfl, rfl⟩⟩
  obtain ⟨mv4D, kn4D⟩ := D4.kbinds0 (ps := ["self", "name", "key", "part", "descending"]) 3 ["descending"] [("part", V.non)] (fun us mv ws => us ++ mv ++ ws) (by simp) (by simp) (fun a b c => (a.append b).append c) fun D doc pm an cdv ct us mv ws h1 h2 h3 => match us, mv, ws, h1, h2, h3 with | [_, _, _], [_], [_], _, _, _ => ⟨_, _, _, _, _, _, rfl, rfl, rfl⟩
  obtain ⟨mv4P, kn4P⟩ := D4.kbinds0 (ps := ["self", "name", "key", "part", "descending"]) 3 ["part"] [("descending", V.bl false)] (fun us mv ws => us ++ ws ++ mv) (by simp) (by simp) (fun a b c => (a.append c).append b) fun D doc pm an cdv ct us mv ws h1 h2 h3 => match us, mv, ws, h1, h2, h3 with | [_, _, _], [_], [_], _, _, _ => ⟨_, _, _, _, _, _, rfl, rfl, rfl⟩
  obtain ⟨mv4DP, kn4DP⟩ := D4.kbinds0 (ps := ["self", "name", "key", "part", "descending"]) 3 ["descending", "part"] [] (fun us mv ws => us ++ ws.reverse) (by simp) (by simp) (fun a b c => a.append (vals_rev c)) fun D doc pm an cdv ct us mv ws h1 h2 h3 => match us, mv, ws, h1, h2, h3 with | [_, _, _], [], [_, _], _, _, _ => rfl
  have F5 := fun_mk (st := s_Sort___eq__) l5 c5 k5
  have b5 := F5.binds (ps := ["self", "other"]) fun _ _ _ _ _ _ us hl => match us, hl with | [_, _], _ => rfl
  have F6 := fun_mk (st := s_Scheme___init__) l6 c6 k6
  have D6 : FunD K "__init__" "Scheme.__init__" (defArgs s_Scheme___init__) (defBody s_Scheme___init__) (defScope s_Scheme___init__) [] [("parts", V.ref eD6_parts), ("values", V.ref eD6_values), ("marks", V.ref eD6_marks)] f6 _ := ⟨⟨_, _, _, _, _, _, _, _, _, _, rfl, l6, c6, .inl ⟨rfl, rfl⟩, .inr ⟨_, rfl, fun q hq => by
    simp only [List.mem_cons, List.mem_nil_iff, or_false] at hq
    rcases hq with rfl | rfl | rfl
    · exact ⟨_, kd6_parts, rfl⟩
    · exact ⟨_, kd6_values, rfl⟩
    · exact ⟨_, kd6_marks, rfl⟩⟩⟩, k6⟩
  obtain ⟨ds6, rds6, bd6⟩ := D6.binds0 (ps := ["self", "sorts", "parts", "values", "marks"]) 2 (by simp) rfl fun D doc pm an cdv ct us ks hl hk => match us, ks, hl, hk with | [_, _], [_, _, _], _, _ => ⟨_, _, _, _, _, _, rfl, rfl, ⟨_, _, _, _, _, _, rfl, rfl, ⟨_, _, _, _, _, _, rfl, rfl, rfl⟩⟩⟩
  obtain ⟨mv6VP, kn6VP⟩ := D6.kbinds0 (ps := ["self", "sorts", "parts", "values", "marks"]) 2 ["values", "parts"] [("marks", V.ref eD6_marks)] (fun us mv ws => us ++ ws.reverse ++ mv) (by simp) (by simp) (fun a b c => (a.append (vals_rev c)).append b) fun D doc pm an cdv ct us mv ws h1 h2 h3 => match us, mv, ws, h1, h2, h3 with | [_, _], [_], [_, _], _, _, _ => ⟨_, _, _, _, _, _, rfl, rfl, rfl⟩
  obtain ⟨mv6PVM, kn6PVM⟩ := D6.kbinds0 (ps := ["self", "sorts", "parts", "values", "marks"]) 2 ["parts", "values", "marks"] [] (fun us mv ws => us ++ ws) (by simp) (by simp) (fun a b c => a.append c) fun D doc pm an cdv ct us mv ws h1 h2 h3 => match us, mv, ws, h1, h2, h3 with | [_, _], [], [_, _, _], _, _, _ => rfl
  have F7 := fun_mk (st := s_Scheme_inspect) l7 c7 k7
  have b7 := F7.binds (ps := ["self"]) fun _ _ _ _ _ _ us hl => match us, hl with | [_], _ => rfl
  have F8 := fun_mk (st := s_Scheme_columns) l8 c8 k8
  have b8 := F8.binds (ps := ["self"]) fun _ _ _ _ _ _ us hl => match us, hl with | [_], _ => rfl
  have F9 := fun_mk (st := s_Scheme_sort_names) l9 c9 k9
  have b9 := F9.binds (ps := ["self"]) fun _ _ _ _ _ _ us hl => match us, hl with | [_], _ => rfl
  have F10 := fun_mk (st := s_Scheme_sort_named) l10 c10 k10
  have b10 := F10.binds (ps := ["self", "name"]) fun _ _ _ _ _ _ us hl => match us, hl with | [_, _], _ => rfl
  have F11 := fun_mk (st := s_Scheme___eq__) l11 c11 k11
  have b11 := F11.binds (ps := ["self", "other"]) fun _ _ _ _ _ _ us hl => match us, hl with | [_, _], _ => rfl
  have F12 := fun_mk (st := s__law_begin) l12 c12 k12
  have b12 := F12.binds (ps := ["_law_script"]) fun _ _ _ _ _ _ us hl => match us, hl with | [_], _ => rfl
  have F13 := fun_mk (st := s__law_draw) l13 c13 k13
  have b13 := F13.binds (ps := ["_law_draws", "_law_many"]) fun _ _ _ _ _ _ us hl => match us, hl with | [_, _], _ => rfl
  have F14 := fun_mk (st := s__law_name) l14 c14 k14
  have b14 := F14.binds (ps := ["_law_draws", "_law_taken"]) fun _ _ _ _ _ _ us hl => match us, hl with | [_, _], _ => rfl
  have F15 := fun_mk (st := s__law_names) l15 c15 k15
  have b15 := F15.binds (ps := ["_law_draws", "_law_taken", "_law_many"]) fun _ _ _ _ _ _ us hl => match us, hl with | [_, _, _], _ => rfl
  have F16 := fun_mk (st := s__law_spec) l16 c16 k16
  have b16 := F16.binds (ps := ["_law_draws", "_law_most"]) fun _ _ _ _ _ _ us hl => match us, hl with | [_, _], _ => rfl
  have F17 := fun_mk (st := s__law_sort) l17 c17 k17
  have b17 := F17.binds (ps := ["_law_one"]) fun _ _ _ _ _ _ us hl => match us, hl with | [_], _ => rfl
  have F18 := fun_mk (st := s__law_made) l18 c18 k18
  have b18 := F18.binds (ps := ["_law_spec_here"]) fun _ _ _ _ _ _ us hl => match us, hl with | [_], _ => rfl
  have F19 := fun_mk (st := s__law_told) l19 c19 k19
  have b19 := F19.binds (ps := ["_law_scheme"]) fun _ _ _ _ _ _ us hl => match us, hl with | [_], _ => rfl
  have F20 := fun_mk (st := s__law_columns) l20 c20 k20
  have b20 := F20.binds (ps := ["_law_spec_here"]) fun _ _ _ _ _ _ us hl => match us, hl with | [_], _ => rfl
  have F21 := fun_mk (st := s__law_due) l21 c21 k21
  have b21 := F21.binds (ps := ["_law_spec_here"]) fun _ _ _ _ _ _ us hl => match us, hl with | [_], _ => rfl
  have F22 := fun_mk (st := s__law_four) l22 c22 k22
  have b22 := F22.binds (ps := ["_law_found"]) fun _ _ _ _ _ _ us hl => match us, hl with | [_], _ => rfl
  have F23 := fun_mk (st := s__law_named) l23 c23 k23
  have b23 := F23.binds (ps := ["_law_scheme", "_law_name_here"]) fun _ _ _ _ _ _ us hl => match us, hl with | [_, _], _ => rfl
  have F24 := fun_mk (st := s__law_names_right) l24 c24 k24
  have b24 := F24.binds (ps := ["_law_scheme", "_law_spec_here"]) fun _ _ _ _ _ _ us hl => match us, hl with | [_, _], _ => rfl
  have F25 := fun_mk (st := s__law_called) l25 c25 k25
  have b25 := F25.binds (ps := ["_law_draws", "_law_spec_here"]) fun _ _ _ _ _ _ us hl => match us, hl with | [_, _], _ => rfl
  have F26 := fun_mk (st := s__law_changed) l26 c26 k26
  have b26 := F26.binds (ps := ["_law_draws", "_law_spec_here"]) fun _ _ _ _ _ _ us hl => match us, hl with | [_, _], _ => rfl
  have F27 := fun_mk (st := s__law_right) l27 c27 k27
  have b27 := F27.binds (ps := ["_law_scheme", "_law_spec_here"]) fun _ _ _ _ _ _ us hl => match us, hl with | [_, _], _ => rfl
  have F28 := fun_mk (st := s__law_sorts_right) l28 c28 k28
  have b28 := F28.binds (ps := ["_law_spec_here", "_law_other"]) fun _ _ _ _ _ _ us hl => match us, hl with | [_, _], _ => rfl
  have F29 := fun_mk (st := s_law) l29 c29 k29
  have b29 := F29.binds (ps := ["_law_script"]) fun _ _ _ _ _ _ us hl => match us, hl with | [_], _ => rfl
  let T : Txt K mg := {
    f_BadScheme___init__ := f0,
    d_BadScheme___init__ := _,
    F_BadScheme___init__ := F0,
    b_BadScheme___init__ := b0,
    f_UnknownSort___init__ := f1,
    d_UnknownSort___init__ := _,
    F_UnknownSort___init__ := F1,
    b_UnknownSort___init__ := b1,
    f_is_name := f2,
    d_is_name := _,
    F_is_name := F2,
    b_is_name := b2,
    g_is_name := PySem.W.mg_of X G a2,
    f_first_double := f3,
    d_first_double := _,
    F_first_double := F3,
    b_first_double := b3,
    g_first_double := PySem.W.mg_of X G a3,
    f_Sort___init__ := f4,
    d_Sort___init__ := _,
    F_Sort___init__ := F4,
    ds_Sort___init__ := ds4,
    rds_Sort___init__ := rds4,
    bd_Sort___init__ := bd4,
    mv_Sort___init___D := mv4D,
    kn_Sort___init___D := kn4D,
    mv_Sort___init___P := mv4P,
    kn_Sort___init___P := kn4P,
    mv_Sort___init___DP := mv4DP,
    kn_Sort___init___DP := kn4DP,
    f_Sort___eq__ := f5,
    d_Sort___eq__ := _,
    F_Sort___eq__ := F5,
    b_Sort___eq__ := b5,
    f_Scheme___init__ := f6,
    d_Scheme___init__ := _,
    F_Scheme___init__ := F6,
    e_Scheme___init___parts := eD6_parts,
    eq_Scheme___init___parts := fun H => sqt_const le6_parts ve6_parts (by decide),
    e_Scheme___init___values := eD6_values,
    eq_Scheme___init___values := fun H => sqt_const le6_values ve6_values (by decide),
    e_Scheme___init___marks := eD6_marks,
    eq_Scheme___init___marks := fun H => sqt_const le6_marks ve6_marks (by decide),
    ds_Scheme___init__ := ds6,
    rds_Scheme___init__ := rds6,
    bd_Scheme___init__ := bd6,
    mv_Scheme___init___VP := mv6VP,
    kn_Scheme___init___VP := kn6VP,
    mv_Scheme___init___PVM := mv6PVM,
    kn_Scheme___init___PVM := kn6PVM,
    f_Scheme_inspect := f7,
    d_Scheme_inspect := _,
    F_Scheme_inspect := F7,
    b_Scheme_inspect := b7,
    f_Scheme_columns := f8,
    d_Scheme_columns := _,
    F_Scheme_columns := F8,
    b_Scheme_columns := b8,
    f_Scheme_sort_names := f9,
    d_Scheme_sort_names := _,
    F_Scheme_sort_names := F9,
    b_Scheme_sort_names := b9,
    f_Scheme_sort_named := f10,
    d_Scheme_sort_named := _,
    F_Scheme_sort_named := F10,
    b_Scheme_sort_named := b10,
    f_Scheme___eq__ := f11,
    d_Scheme___eq__ := _,
    F_Scheme___eq__ := F11,
    b_Scheme___eq__ := b11,
    f__law_begin := f12,
    d__law_begin := _,
    F__law_begin := F12,
    b__law_begin := b12,
    g__law_begin := PySem.W.mg_of X G a12,
    f__law_draw := f13,
    d__law_draw := _,
    F__law_draw := F13,
    b__law_draw := b13,
    g__law_draw := PySem.W.mg_of X G a13,
    f__law_name := f14,
    d__law_name := _,
    F__law_name := F14,
    b__law_name := b14,
    g__law_name := PySem.W.mg_of X G a14,
    f__law_names := f15,
    d__law_names := _,
    F__law_names := F15,
    b__law_names := b15,
    g__law_names := PySem.W.mg_of X G a15,
    f__law_spec := f16,
    d__law_spec := _,
    F__law_spec := F16,
    b__law_spec := b16,
    g__law_spec := PySem.W.mg_of X G a16,
    f__law_sort := f17,
    d__law_sort := _,
    F__law_sort := F17,
    b__law_sort := b17,
    g__law_sort := PySem.W.mg_of X G a17,
    f__law_made := f18,
    d__law_made := _,
    F__law_made := F18,
    b__law_made := b18,
    g__law_made := PySem.W.mg_of X G a18,
    f__law_told := f19,
    d__law_told := _,
    F__law_told := F19,
    b__law_told := b19,
    g__law_told := PySem.W.mg_of X G a19,
    f__law_columns := f20,
    d__law_columns := _,
    F__law_columns := F20,
    b__law_columns := b20,
    g__law_columns := PySem.W.mg_of X G a20,
    f__law_due := f21,
    d__law_due := _,
    F__law_due := F21,
    b__law_due := b21,
    g__law_due := PySem.W.mg_of X G a21,
    f__law_four := f22,
    d__law_four := _,
    F__law_four := F22,
    b__law_four := b22,
    g__law_four := PySem.W.mg_of X G a22,
    f__law_named := f23,
    d__law_named := _,
    F__law_named := F23,
    b__law_named := b23,
    g__law_named := PySem.W.mg_of X G a23,
    f__law_names_right := f24,
    d__law_names_right := _,
    F__law_names_right := F24,
    b__law_names_right := b24,
    g__law_names_right := PySem.W.mg_of X G a24,
    f__law_called := f25,
    d__law_called := _,
    F__law_called := F25,
    b__law_called := b25,
    g__law_called := PySem.W.mg_of X G a25,
    f__law_changed := f26,
    d__law_changed := _,
    F__law_changed := F26,
    b__law_changed := b26,
    g__law_changed := PySem.W.mg_of X G a26,
    f__law_right := f27,
    d__law_right := _,
    F__law_right := F27,
    b__law_right := b27,
    g__law_right := PySem.W.mg_of X G a27,
    f__law_sorts_right := f28,
    d__law_sorts_right := _,
    F__law_sorts_right := F28,
    b__law_sorts_right := b28,
    g__law_sorts_right := PySem.W.mg_of X G a28,
    f_law := fa,
    d_law := _,
    F_law := F29,
    b_law := b29,
    g_law := PySem.W.mg_of X G a29,
    z_abs := PySem.W.mg_none_of X G z_abs,
    z_all := PySem.W.mg_none_of X G z_all,
    z_int := PySem.W.mg_none_of X G z_int,
    z_isinstance := PySem.W.mg_none_of X G z_isinstance,
    z_len := PySem.W.mg_none_of X G z_len,
    z_list := PySem.W.mg_none_of X G z_list,
    z_range := PySem.W.mg_none_of X G z_range,
    z_repr := PySem.W.mg_none_of X G z_repr,
    z_str := PySem.W.mg_none_of X G z_str,
    z_tuple := PySem.W.mg_none_of X G z_tuple,
    C_WindowError := C_WindowError,
    g_WindowError := PySem.W.mg_of X G aC_WindowError,
    C_BadScheme := C_BadScheme,
    g_BadScheme := PySem.W.mg_of X G aC_BadScheme,
    ox_BadScheme := ⟨⟨nm_BadScheme, q_BadScheme, N_BadScheme, bs_BadScheme, bm_BadScheme, sn_BadScheme, sub_BadScheme, ab_BadScheme, col_BadScheme, dd_BadScheme, m0_BadScheme, m1_BadScheme, m2_BadScheme, m3_BadScheme, m5_BadScheme, xL_BadScheme, bmr_BadScheme⟩, sa_BadScheme, ex_BadScheme, ty_BadScheme, kc_BadScheme⟩,
    xf_BadScheme := ⟨ga_BadScheme, gg_BadScheme, ex_BadScheme, hd_BadScheme⟩,
    iC_BadScheme := a0,
    tI_BadScheme := tI_BadScheme,
    nf_BadScheme_word := nf_BadScheme_word,
    C_UnknownSort := C_UnknownSort,
    g_UnknownSort := PySem.W.mg_of X G aC_UnknownSort,
    ox_UnknownSort := ⟨⟨nm_UnknownSort, q_UnknownSort, N_UnknownSort, bs_UnknownSort, bm_UnknownSort, sn_UnknownSort, sub_UnknownSort, ab_UnknownSort, col_UnknownSort, dd_UnknownSort, m0_UnknownSort, m1_UnknownSort, m2_UnknownSort, m3_UnknownSort, m5_UnknownSort, xL_UnknownSort, bmr_UnknownSort⟩, sa_UnknownSort, ex_UnknownSort, ty_UnknownSort, kc_UnknownSort⟩,
    xf_UnknownSort := ⟨ga_UnknownSort, gg_UnknownSort, ex_UnknownSort, hd_UnknownSort⟩,
    iC_UnknownSort := a1,
    tI_UnknownSort := tI_UnknownSort,
    nf_UnknownSort_name := nf_UnknownSort_name,
    em_UnknownSort_UnknownSort := PySem.W.exm_ref ex_UnknownSort hd_UnknownSort ty_UnknownSort su_UnknownSort_UnknownSort,
    is_UnknownSort_UnknownSort := is_UnknownSort_UnknownSort,
    C_Sort := C_Sort,
    g_Sort := PySem.W.mg_of X G aC_Sort,
    c_Sort := ⟨pg_Sort, hd_Sort, po_Sort, sa_Sort⟩,
    m_Sort := ⟨mk_Sort, a4, i4, kc_Sort⟩,
    nf_Sort_name := nf_Sort_name,
    nf_Sort_key := nf_Sort_key,
    nf_Sort_part := nf_Sort_part,
    nf_Sort_descending := nf_Sort_descending,
    mt_Sort___eq__ := ⟨a5, i5, k5⟩,
    ca_Sort := ca_Sort,
    cn_Sort := cn_Sort,
    ct_Sort := ct_Sort,
    cm_Sort := cm_Sort,
    ne_Sort := ne_Sort,
    ob_Sort := ob_Sort,
    nt_Sort := nt_Sort,
    nt_Sort_tuple := nt_Sort_tuple,
    ki_Sort_tuple := ki_Sort_tuple,
    C_Scheme := C_Scheme,
    g_Scheme := PySem.W.mg_of X G aC_Scheme,
    c_Scheme := ⟨pg_Scheme, hd_Scheme, po_Scheme, sa_Scheme⟩,
    m_Scheme := ⟨mk_Scheme, a6, i6, kc_Scheme⟩,
    nf_Scheme_sorts := nf_Scheme_sorts,
    nf_Scheme_part_columns := nf_Scheme_part_columns,
    nf_Scheme_value_columns := nf_Scheme_value_columns,
    nf_Scheme_mark_columns := nf_Scheme_mark_columns,
    mt_Scheme_inspect := ⟨a7, i7, k7⟩,
    mt_Scheme_columns := ⟨a8, i8, k8⟩,
    mt_Scheme_sort_names := ⟨a9, i9, k9⟩,
    mt_Scheme_sort_named := ⟨a10, i10, k10⟩,
    mt_Scheme___eq__ := ⟨a11, i11, k11⟩,
    ca_Scheme := ca_Scheme,
    cn_Scheme := cn_Scheme,
    ct_Scheme := ct_Scheme,
    cm_Scheme := cm_Scheme,
    ne_Scheme := ne_Scheme,
    ob_Scheme := ob_Scheme,
    nt_Scheme := nt_Scheme,
    nt_Scheme_list := nt_Scheme_list,
    ki_Scheme_list := ki_Scheme_list,
    nt_Scheme_Sort := nt_Scheme_Sort,
    ki_Scheme_Sort := ki_Scheme_Sort,
    t_LETTERS := tK_LETTERS,
    g_LETTERS := PySem.W.mg_of X G aC_LETTERS,
    a_WORDS := cK_WORDS,
    g_WORDS := PySem.W.mg_of X G aC_WORDS,
    q_WORDS := fun H => sqt_const lK_WORDS vK_WORDS (by decide),
    y_WORDS := fun H => .inr (.inl ⟨rfl, _, lK_WORDS, rfl, rfl⟩) }
  exact ⟨PySem.W.fnOf "law" "law" (defArgs s_law) (defBody s_law) (defScope s_law) .none kV29 dc29 pm29 an29 cd29 ct29, fun s v => .of_eq rfl, fun base _ _ => ok_law T⟩
end Wr
open PySem PySem.W PyProof.Rows
set_option maxRecDepth 100000 in
set_option maxHeartbeats 0 in
theorem PySem.Challenge.cw_windowrows_k41_schemes_holds : PySem.Challenge.rw_windowrows_k41_schemes.Holds := by
  w_on; o_law; k_head; (case hw => w_witness2)
  k_fill
  refine Wr.walk_ofG (l := PySem.Challenge.rw_windowrows_k41_schemes) (n := 63) (k := 9) (x := "_law_script") (sp := fun w => Wr.spLaw _) rfl (by decide) rfl ⟨rfl, by decide, by decide⟩ (fun w h Y => PySem.W.kIn_of Y) ?F (fun _ _ a ns hl _ hS => ⟨a, ns, rfl, hS, hl, fun _ => rfl⟩)
  case F =>
    intro w mg fa h KX G hmg
    refine' Wr.all_mk KX G hmg ?aC_WindowError ?aC_BadScheme ?aC_UnknownSort ?aC_Sort ?aC_Scheme ?aC_LETTERS ?aC_WORDS ?a0 ?i0 ?l0 ?c0 ?k0 ?a1 ?i1 ?l1 ?c1 ?k1 ?a2 ?l2 ?c2 ?k2 ?a3 ?l3 ?c3 ?k3 ?a4 ?i4 ?l4 ?c4 ?k4 ?kd4_part ?kd4_descending ?a5 ?i5 ?l5 ?c5 ?k5 ?a6 ?i6 ?l6 ?c6 ?k6 ?kd6_parts ?le6_parts ?ve6_parts ?kd6_values ?le6_values ?ve6_values ?kd6_marks ?le6_marks ?ve6_marks ?a7 ?i7 ?l7 ?c7 ?k7 ?a8 ?i8 ?l8 ?c8 ?k8 ?a9 ?i9 ?l9 ?c9 ?k9 ?a10 ?i10 ?l10 ?c10 ?k10 ?a11 ?i11 ?l11 ?c11 ?k11 ?a12 ?l12 ?c12 ?k12 ?a13 ?l13 ?c13 ?k13 ?a14 ?l14 ?c14 ?k14 ?a15 ?l15 ?c15 ?k15 ?a16 ?l16 ?c16 ?k16 ?a17 ?l17 ?c17 ?k17 ?a18 ?l18 ?c18 ?k18 ?a19 ?l19 ?c19 ?k19 ?a20 ?l20 ?c20 ?k20 ?a21 ?l21 ?c21 ?k21 ?a22 ?l22 ?c22 ?k22 ?a23 ?l23 ?c23 ?k23 ?a24 ?l24 ?c24 ?k24 ?a25 ?l25 ?c25 ?k25 ?a26 ?l26 ?c26 ?k26 ?a27 ?l27 ?c27 ?k27 ?a28 ?l28 ?c28 ?k28 ?a29 ?l29 ?c29 ?k29 ?z_abs ?z_all ?z_int ?z_isinstance ?z_len ?z_list ?z_range ?z_repr ?z_str ?z_tuple ?ex_WindowError ?ty_WindowError ?hd_WindowError ?ex_BadScheme ?ty_BadScheme ?hd_BadScheme ?xL_BadScheme ?bmr_BadScheme ?sa_BadScheme ?kc_BadScheme ?ga_BadScheme ?gg_BadScheme ?tI_BadScheme ?nf_BadScheme_word ?ex_UnknownSort ?ty_UnknownSort ?hd_UnknownSort ?xL_UnknownSort ?bmr_UnknownSort ?sa_UnknownSort ?kc_UnknownSort ?ga_UnknownSort ?gg_UnknownSort ?tI_UnknownSort ?nf_UnknownSort_name ?su_UnknownSort_UnknownSort ?is_UnknownSort_UnknownSort ?pg_Sort ?hd_Sort ?po_Sort ?sa_Sort ?mk_Sort ?kc_Sort ?nf_Sort_name ?nf_Sort_key ?nf_Sort_part ?nf_Sort_descending ?ca_Sort ?cn_Sort ?ct_Sort ?cm_Sort ?ne_Sort ?ob_Sort ?nt_Sort ?nt_Sort_tuple ?ki_Sort_tuple ?pg_Scheme ?hd_Scheme ?po_Scheme ?sa_Scheme ?mk_Scheme ?kc_Scheme ?nf_Scheme_sorts ?nf_Scheme_part_columns ?nf_Scheme_value_columns ?nf_Scheme_mark_columns ?ca_Scheme ?cn_Scheme ?ct_Scheme ?cm_Scheme ?ne_Scheme ?ob_Scheme ?nt_Scheme ?nt_Scheme_list ?ki_Scheme_list ?nt_Scheme_Sort ?ki_Scheme_Sort ?lK_WORDS ?vK_WORDS
    (case aC_WindowError => k_is)
    (case aC_BadScheme => k_is)
    (case aC_UnknownSort => k_is)
    (case aC_Sort => k_is)
    (case aC_Scheme => k_is)
    (case aC_LETTERS => k_is)
    (case aC_WORDS => k_is)
    (case a0 => k_is)
    (case i0 => k_is)
    (case l0 => k_is)
    (case c0 => k_is)
    (case k0 => k_is)
    (case a1 => k_is)
    (case i1 => k_is)
    (case l1 => k_is)
    (case c1 => k_is)
    (case k1 => k_is)
    (case a2 => k_is)
    (case l2 => k_is)
    (case c2 => k_is)
    (case k2 => k_is)
    (case a3 => k_is)
    (case l3 => k_is)
    (case c3 => k_is)
    (case k3 => k_is)
    (case a4 => k_is)
    (case i4 => k_is)
    (case l4 => k_is)
    (case c4 => k_is)
    (case k4 => k_is)
    (case kd4_part => k_is)
    (case kd4_descending => k_is)
    (case a5 => k_is)
    (case i5 => k_is)
    (case l5 => k_is)
    (case c5 => k_is)
    (case k5 => k_is)
    (case a6 => k_is)
    (case i6 => k_is)
    (case l6 => k_is)
    (case c6 => k_is)
    (case k6 => k_is)
    (case kd6_parts => k_is)
    (case le6_parts => k_is)
    (case ve6_parts => exact .nil)
    (case kd6_values => k_is)
    (case le6_values => k_is)
    (case ve6_values => exact .nil)
    (case kd6_marks => k_is)
    (case le6_marks => k_is)
    (case ve6_marks => exact .nil)
    (case a7 => k_is)
    (case i7 => k_is)
    (case l7 => k_is)
    (case c7 => k_is)
    (case k7 => k_is)
    (case a8 => k_is)
    (case i8 => k_is)
    (case l8 => k_is)
    (case c8 => k_is)
    (case k8 => k_is)
    (case a9 => k_is)
    (case i9 => k_is)
    (case l9 => k_is)
    (case c9 => k_is)
    (case k9 => k_is)
    (case a10 => k_is)
    (case i10 => k_is)
    (case l10 => k_is)
    (case c10 => k_is)
    (case k10 => k_is)
    (case a11 => k_is)
    (case i11 => k_is)
    (case l11 => k_is)
    (case c11 => k_is)
    (case k11 => k_is)
    (case a12 => k_is)
    (case l12 => k_is)
    (case c12 => k_is)
    (case k12 => k_is)
    (case a13 => k_is)
    (case l13 => k_is)
    (case c13 => k_is)
    (case k13 => k_is)
    (case a14 => k_is)
    (case l14 => k_is)
    (case c14 => k_is)
    (case k14 => k_is)
    (case a15 => k_is)
    (case l15 => k_is)
    (case c15 => k_is)
    (case k15 => k_is)
    (case a16 => k_is)
    (case l16 => k_is)
    (case c16 => k_is)
    (case k16 => k_is)
    (case a17 => k_is)
    (case l17 => k_is)
    (case c17 => k_is)
    (case k17 => k_is)
    (case a18 => k_is)
    (case l18 => k_is)
    (case c18 => k_is)
    (case k18 => k_is)
    (case a19 => k_is)
    (case l19 => k_is)
    (case c19 => k_is)
    (case k19 => k_is)
    (case a20 => k_is)
    (case l20 => k_is)
    (case c20 => k_is)
    (case k20 => k_is)
    (case a21 => k_is)
    (case l21 => k_is)
    (case c21 => k_is)
    (case k21 => k_is)
    (case a22 => k_is)
    (case l22 => k_is)
    (case c22 => k_is)
    (case k22 => k_is)
    (case a23 => k_is)
    (case l23 => k_is)
    (case c23 => k_is)
    (case k23 => k_is)
    (case a24 => k_is)
    (case l24 => k_is)
    (case c24 => k_is)
    (case k24 => k_is)
    (case a25 => k_is)
    (case l25 => k_is)
    (case c25 => k_is)
    (case k25 => k_is)
    (case a26 => k_is)
    (case l26 => k_is)
    (case c26 => k_is)
    (case k26 => k_is)
    (case a27 => k_is)
    (case l27 => k_is)
    (case c27 => k_is)
    (case k27 => k_is)
    (case a28 => k_is)
    (case l28 => k_is)
    (case c28 => k_is)
    (case k28 => k_is)
    (case a29 => k_is)
    (case l29 => k_is)
    (case c29 => k_is)
    (case k29 => k_is)
    (case z_abs => k_is)
    (case z_all => k_is)
    (case z_int => k_is)
    (case z_isinstance => k_is)
    (case z_len => k_is)
    (case z_list => k_is)
    (case z_range => k_is)
    (case z_repr => k_is)
    (case z_str => k_is)
    (case z_tuple => k_is)
    (case ex_WindowError => k_is)
    (case ty_WindowError => k_is)
    (case hd_WindowError => k_is)
    (case ex_BadScheme => k_is)
    (case ty_BadScheme => k_is)
    (case hd_BadScheme => k_is)
    (case xL_BadScheme => k_is)
    (case bmr_BadScheme => decide +kernel)
    (case sa_BadScheme => k_is)
    (case kc_BadScheme => k_is)
    (case ga_BadScheme => k_is)
    (case gg_BadScheme => k_is)
    (case tI_BadScheme => k_is)
    (case nf_BadScheme_word => k_is)
    (case ex_UnknownSort => k_is)
    (case ty_UnknownSort => k_is)
    (case hd_UnknownSort => k_is)
    (case xL_UnknownSort => k_is)
    (case bmr_UnknownSort => decide +kernel)
    (case sa_UnknownSort => k_is)
    (case kc_UnknownSort => k_is)
    (case ga_UnknownSort => k_is)
    (case gg_UnknownSort => k_is)
    (case tI_UnknownSort => k_is)
    (case nf_UnknownSort_name => k_is)
    (case su_UnknownSort_UnknownSort => first | rfl | k_is)
    (case is_UnknownSort_UnknownSort => first | k_is | rfl)
    (case pg_Sort => k_is)
    (case hd_Sort => k_is)
    (case po_Sort => k_is)
    (case sa_Sort => k_is)
    (case mk_Sort => k_is)
    (case kc_Sort => k_is)
    (case nf_Sort_name => k_is)
    (case nf_Sort_key => k_is)
    (case nf_Sort_part => k_is)
    (case nf_Sort_descending => k_is)
    (case ca_Sort => k_is)
    (case cn_Sort => k_is)
    (case ct_Sort => k_is)
    (case cm_Sort => k_is)
    (case ne_Sort => k_is)
    (case ob_Sort => k_is)
    (case nt_Sort => k_is)
    (case nt_Sort_tuple => k_is)
    (case ki_Sort_tuple => kit_is)
    (case pg_Scheme => k_is)
    (case hd_Scheme => k_is)
    (case po_Scheme => k_is)
    (case sa_Scheme => k_is)
    (case mk_Scheme => k_is)
    (case kc_Scheme => k_is)
    (case nf_Scheme_sorts => k_is)
    (case nf_Scheme_part_columns => k_is)
    (case nf_Scheme_value_columns => k_is)
    (case nf_Scheme_mark_columns => k_is)
    (case ca_Scheme => k_is)
    (case cn_Scheme => k_is)
    (case ct_Scheme => k_is)
    (case cm_Scheme => k_is)
    (case ne_Scheme => k_is)
    (case ob_Scheme => k_is)
    (case nt_Scheme => k_is)
    (case nt_Scheme_list => k_is)
    (case ki_Scheme_list => kit_is)
    (case nt_Scheme_Sort => k_is)
    (case ki_Scheme_Sort => kit_is)
    (case lK_WORDS => k_is)
    (case vK_WORDS => exact (.cons ⟨_, rfl⟩ (.cons ⟨_, rfl⟩ (.cons ⟨_, rfl⟩ (.cons ⟨_, rfl⟩ (.cons ⟨_, rfl⟩ (.cons ⟨_, rfl⟩ (.cons ⟨_, rfl⟩ (.cons ⟨_, rfl⟩ (.cons ⟨_, rfl⟩ (.cons ⟨_, rfl⟩ (.cons ⟨_, rfl⟩ (.cons ⟨_, rfl⟩ .nil)))))))))))))
