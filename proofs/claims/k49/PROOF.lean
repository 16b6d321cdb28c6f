import PyProof.Rows.All
import Wide.All
import OpenK.AllK
import Wide.FinOn
import HandS.ForMost
import HandS.Wide
import HandS.IsInst
import HandS.Defaults
import HandS.Codes
import PyProof.InstNe
import HandS.Style
import PyProof.ReprRoads
import PyProof.ReprLen
import HandS.ForExc
import HandS.ExcInit
import HandS.ExcField
import HandS.ExcIs
import PyProof.NeKinds
import HandS.Text
import HandS.Codes
import HandS.MakeKw
import HandS.MakeKwOnly
import HandS.Walk
import HandS.Star
import HandS.TryMany
import HandS.OwnEq
import HandS.Strs
import PyProof.StrLawsRepr
import HandS.DeepEq
import HandS.Finally
import HandS.Iter
import HandS.Conv
import HandS.SortRule
import HandS.TupLe
import HandS.DictEq
import HandS.SortInts
import HandS.Zip
import HandS.Deep
import HandS.DictComp
import KE.KDictCopyH
import HandS.DictTup
import HandS.Wide
import PySem.Challenge.RW_windowrows_k49_whole_showing
set_option Elab.async false
set_option linter.all false
set_option maxRecDepth 100000
set_option maxHeartbeats 2000000
/-! ### == and != of two tuples, both answers -/
namespace TC
open PySem PySem.SeqAt
open AutoSeq1 (wpAny_loadPart')
open MeetsSeq MeetsSeq2 MeetsSeq3 SeqRoads2
section
variable {prog : Program} {w : World} {A : Around} {R : Result → Shared → Prop}
/-- the loop of the comparison: I i as long as all were equal, N when two were not -/
theorem ne_body (l b : Addr) (items items2 : Array Value) (n n2 : Nat) (dd dd2 : Option Addr) (sl sl2 : Array (Option Value)) (I : Nat → Shared → Prop) (N : Shared → Prop)
    (turn : ∀ i (h1 : i < items.size) (h2 : i < items2.size) s, I i s → wpAny (model prog w) A.in1 (eqBool items[i] items2[i]) (fun r s' => (r = true ∧ I (i + 1) s') ∨ (r = false ∧ N s')) (fun e s' => R (.error e) s') s)
    (fin : ∀ s, I (min items.size items2.size) s → R (.ok (.ret (.bool (items.size != items2.size)))) s) (diff : ∀ s, N s → R (.ok (.ret (.bool true))) s) {s : Shared}
    (g1 : s.heap.get? l = some { cls := .type "tuple", dict := dd, data := .seq items n, slots := sl }) (g2 : s.heap.get? b = some { cls := .type "tuple", dict := dd2, data := .seq items2 n2, slots := sl2 }) (h : I 0 s) :
    wpAny (model prog w) A.in1 (Builtin.«tuple.__ne__» ⟨[.ref l, .ref b], []⟩) (GQ.FinOf prog w A R) (fun e s' => R (.error e) s') s := by
  have f2 := AutoSeq1.sub_tuple_tuple
  have hZ : (items.toList.zip items2.toList).length = min items.size items2.size := by simp
  have h0 := h
  obtain ⟨hp, g, d, tk, os⟩ := s
  wp_walk using wpAny_loadPart' g1, wpAny_loadPart' g2, wpAny_forIn_list _ (fun rest b s' => b.1 = none ∧ ∃ i, rest = (items.toList.zip items2.toList).drop i ∧ i ≤ min items.size items2.size ∧ I i s') _
  case turn =>
    rintro ⟨y, x⟩ rest b s' ⟨hb', i, hz, hi, hI⟩
    have hlt : i < (items.toList.zip items2.toList).length := Nat.lt_of_not_le fun z => by rw [List.drop_of_length_le z] at hz; cases hz
    rw [List.drop_eq_getElem_cons hlt] at hz
    have h1 : i < items.size := by omega
    have h2 : i < items2.size := by omega
    have e1 : (y, x) = (items.toList.zip items2.toList)[i] := (List.cons.inj hz).1
    have hy : y = items[i] := by simpa using congrArg Prod.fst e1
    have hx : x = items2[i] := by simpa using congrArg Prod.snd e1
    subst hy hx
    refine wpAny_bind (wpAny_mono (turn i h1 h2 s' hI) (fun r s2 q2 => ?_) fun _ _ x => x)
    rcases q2 with ⟨rfl, q2⟩ | ⟨rfl, q2⟩
    · wp_walk
      exact ⟨rfl, i + 1, (List.cons.inj hz).2, by omega, q2⟩
    · have hR := diff s2 q2
      wp_walk
      exact hR
  case fin =>
    rintro ⟨b1, b2⟩ s' ⟨hb', i, hz, hi, hI⟩
    simp only at hb'
    subst hb'
    have hge : (items.toList.zip items2.toList).length ≤ i := Nat.le_of_not_lt fun z => by rw [List.drop_eq_getElem_cons z] at hz; cases hz
    have hR := fin s' ((show i = min items.size items2.size by omega) ▸ hI)
    wp_walk
    simpa [Builtin.Tuple.tupleCompareSizes] using hR
  case h =>
    exact ⟨rfl, 0, rfl, Nat.zero_le _, h0⟩
end
section
variable {prog : Program} {w : World} {A : Around} {E : Value → Shared → Prop} {s : Shared}
theorem rc_ne {l b : Addr} {items items2 : Array Value} {Q : Value → Shared → Prop} (hu : A.units < cLine) (I : Nat → Shared → Prop) (N : Shared → Prop) (hl : s.heap.IsTuple l items) (hb : s.heap.IsTuple b items2)
    (turn : ∀ i (h1 : i < items.size) (h2 : i < items2.size) s, I i s → wpAny (model prog w) A.in1 (eqBool items[i] items2[i]) (fun r s' => (r = true ∧ I (i + 1) s') ∨ (r = false ∧ N s')) E s)
    (fin : ∀ s, I (min items.size items2.size) s → Q (.bool (items.size != items2.size)) s) (diff : ∀ s, N s → Q (.bool true) s) (h : I 0 s) : wpAny (model prog w) A (richCompare .NotEq (.ref l) (.ref b)) Q E s := by
  rcases id hl with ⟨⟨c1, d1, t1, z1⟩, y1, y2, n1, y3⟩
  rcases id hb with ⟨⟨c2, d2, t2, z2⟩, x1, x2, n2, x3⟩
  cases (show c1 = _ from y2)
  cases (show t1 = _ from y3)
  cases (show c2 = _ from x2)
  cases (show t2 = _ from x3)
  exact wpAny_richCompare_same_room (op := .NotEq) ⟨_, y1, rfl⟩ ⟨_, x1, rfl⟩ F.slot_tuple_ne (GQ.call_here F.slot_tuple_ne ⟨_, y1, rfl⟩ F.entry_tuple_ne (F.args_tuple_ne_2 _ _)
    (ne_body (R := wants (fun v s' => v ≠ .notImplemented ∧ Q v s') E) l b items items2 n1 n2 d1 d2 z1 z2 I N turn (fun s' q => ⟨(fun x => nomatch x), fin s' q⟩) (fun s' q => ⟨(fun x => nomatch x), diff s' q⟩) y1 x1 h)) hu
end
end TC
namespace TC
open PySem PySem.Spec PyProof.Rows L2
/-- two lists, item by item, by a test -/
def eqP (e : Addr → Addr → Bool) : List Addr → List Addr → Bool
  | [], [] => true
  | a :: as, b :: bs => e a b && eqP e as bs
  | _, _ => false
theorem eqP_all {e : Addr → Addr → Bool} : ∀ {as bs : List Addr}, as.length = bs.length → (∀ (i : Nat) (a b : Addr), as[i]? = some a → bs[i]? = some b → e a b = true) → eqP e as bs = true
  | [], [], _, _ => rfl
  | [], _ :: _, h, _ => by cases h
  | _ :: _, [], h, _ => by cases h
  | a :: as, b :: bs, h, hs => by
    show (e a b && eqP e as bs) = true
    rw [hs 0 a b rfl rfl, eqP_all (Nat.succ.inj h) fun i x y h1 h2 => hs (i + 1) x y h1 h2]
    rfl
theorem eqP_len {e : Addr → Addr → Bool} : ∀ {as bs : List Addr}, as.length ≠ bs.length → eqP e as bs = false
  | [], [], h => absurd rfl h
  | [], _ :: _, _ => rfl
  | _ :: _, [], _ => rfl
  | a :: as, b :: bs, h => by
    show (e a b && eqP e as bs) = false
    rw [eqP_len fun z => h (by rw [List.length_cons, List.length_cons, z]), Bool.and_false]
theorem eqP_no {e : Addr → Addr → Bool} : ∀ {as bs : List Addr} {i : Nat} {a b : Addr}, as[i]? = some a → bs[i]? = some b → e a b = false → eqP e as bs = false
  | a :: as, b :: bs, 0, _, _, h1, h2, h => by
    cases h1
    cases h2
    show (e a b && eqP e as bs) = false
    rw [h, Bool.false_and]
  | a :: as, b :: bs, i + 1, x, y, h1, h2, h => by
    show (e a b && eqP e as bs) = false
    rw [eqP_no (as := as) (bs := bs) (i := i) h1 h2 h, Bool.and_false]
  | [], _, i, _, _, h1, _, _ => by cases h1
  | _ :: _, [], i, _, _, _, h2, _ => by cases h2
/-- != of two tuples of instances of the class at C, by its own ==, which leaves the heap as it is -/
def rNeTO (K : PySem.W.Frag) (C : Addr) (sp : Sp) (E : XK) : R2 := fun x y H Q => ∃ (a b : Addr) (as bs : List Addr) (e : Addr → Addr → Bool), x = .ref a ∧ y = .ref b ∧ SqT K H a (as.map V.ref) ∧ SqT K H b (bs.map V.ref) ∧ (∀ p, e p p = true) ∧
  (∀ p ∈ as, ∀ q ∈ bs, (∃ d f, H p = some (.ins C d f)) ∧ (∃ d f, H q = some (.ins C d f)) ∧ sp [.ref p, .ref q] H (fun v H' => v = .bl (e p q) ∧ H' = H) E) ∧ Q (.bl (!eqP e as bs)) H
section
variable {X : Cx} {CX : CXT} {E : XK} {C g : Addr} {k : Nat} {fd : FuncData} {ps : List Str} {sp : Sp}
theorem own_eq {pins : List (Addr × Obj)} {σ : L2.St} {H : Hp} {s : Shared} {p q : Addr} {r : Bool} (hs : PySem.W.findIn X.K (.ref C) "__eq__" = some (some (.ref g))) (hf : PySem.W.isFn X.K (.ref g) = true) (F : FnOk X.prog X.w X.K X.mg X.base CX k g fd ps sp) (hr : Room (k + 1) X.A) (hb : Binds X.K fd ps [])
    (hx : Passes CX X E) (I : Inv X pins σ H s) (hp : ∃ d f, H p = some (.ins C d f)) (hq : ∃ d f, H q = some (.ins C d f)) (h : sp [.ref p, .ref q] H (fun v H' => v = .bl r ∧ H' = H) E) (same : p = q → r = true) :
    wpAny (model X.prog X.w) X.A.in1 (eqBool (.ref p) (.ref q)) (fun z s' => z = r ∧ Inv X pins σ H s') X.xe s := by
  by_cases e : p = q
  · subst e
    exact SeqAt.EqAt.same (A := X.A.in1) (s := s) (.ref p) X.prog X.w X.xe _ ⟨(same rfl).symm, I⟩
  refine GQ.eqBool_refG e ?_
  obtain ⟨dp, fp, hp⟩ := hp
  obtain ⟨dq, fq, hq⟩ := hq
  obtain ⟨mp, yp, _⟩ := ins_get I.hok hp
  obtain ⟨mq, yq, _⟩ := ins_get I.hok hq
  obtain ⟨op, yp, _⟩ := yp.look
  obtain ⟨oq, yq, _⟩ := yq.look
  obtain ⟨m, fr⟩ := I.fr
  refine PySem.W.cmp_K (op := .Eq) (tb := .ref C) hr.in1.units0 fr I.ok.mod.kin yp yq.type (by simp [PySem.W.notFirst]) hs hf ?_
  have two : Vals [V.ref p, V.ref q] [Value.ref p, Value.ref q] := .cons rfl (.cons rfl .nil)
  have args := hb s [.ref p, .ref q] I.kIn (by rw [List.append_nil, ← two.length]; exact F.len _ _ _ _ h)
  rw [List.append_nil] at args
  refine wpAny_call (codeAny_mono (F.run X.A.in1 X.stack s H ⟨[.ref p, .ref q], []⟩ [.ref p, .ref q] _ _ E hr.in1 I.env0.in1 args two h) fun o s' y => ?_)
  match o, y with
  | .error er, y => exact hx pins σ H s er s' I y
  | .ok (.ret z), y =>
    obtain ⟨v, H', J, rv, ev, eH⟩ := I.after y
    subst ev
    subst eH
    cases rv
    exact ⟨_, rfl, rfl, J⟩
  | .ok .next, y => exact False.elim y
  | .ok .brk, y => exact False.elim y
  | .ok .cont, y => exact False.elim y
theorem vals_refs : ∀ {as : List Addr} {us : List Value}, Vals (as.map V.ref) us → us = as.map Value.ref
  | [], _, r => by cases r; rfl
  | a :: as, _, r => by
    cases r with
    | cons h t =>
      cases (show _ = Value.ref a from h)
      rw [vals_refs t]
      rfl
theorem op_neTO (hs : PySem.W.findIn X.K (.ref C) "__eq__" = some (some (.ref g))) (hf : PySem.W.isFn X.K (.ref g) = true) (F : FnOk X.prog X.w X.K X.mg X.base CX k g fd ps sp) (hr : Room (k + 1) X.A) (hb : Binds X.K fd ps []) (hx : Passes CX X E) :
    OpR X (compareOp .NotEq) (rNeTO X.K C sp E) := by
  intro pins s σ H x y v u Q I rx ry h
  obtain ⟨a, b, as, bs, e, rfl, rfl, ha, hb', refl, each, q⟩ := h
  cases (show v = Value.ref a from rx)
  cases (show u = Value.ref b from ry)
  obtain ⟨us, ru, ta, _⟩ := I.tuple ha
  obtain ⟨ws, rw_, tb, _⟩ := I.tuple hb'
  have eu := vals_refs ru
  have ew := vals_refs rw_
  subst eu
  subst ew
  have z1 : (as.map Value.ref).toArray.size = as.length := by simp
  have z2 : (bs.map Value.ref).toArray.size = bs.length := by simp
  show wpAny _ _ (richCompare .NotEq (.ref a) (.ref b)) _ _ _
  refine rc_ne hr.units0 (fun i s' => Inv X pins σ H s' ∧ ∀ (j : Nat) (p r : Addr), j < i → as[j]? = some p → bs[j]? = some r → e p r = true) (fun s' => Inv X pins σ H s' ∧ eqP e as bs = false) ta tb (fun i h1 h2 s' J => ?_) (fun s' J => ?_) (fun s' J => ?_) ⟨I, fun j p r hj => absurd hj (Nat.not_lt_zero _)⟩
  · rw [z1] at h1
    rw [z2] at h2
    have g1 : (as.map Value.ref).toArray[i] = Value.ref as[i] := by simp
    have g2 : (bs.map Value.ref).toArray[i] = Value.ref bs[i] := by simp
    rw [g1, g2]
    obtain ⟨y1, y2, y3⟩ := each as[i] (List.getElem_mem h1) bs[i] (List.getElem_mem h2)
    refine wpAny_mono (own_eq hs hf F hr hb hx J.1 y1 y2 y3 fun z => by rw [z]; exact refl _) (fun r s2 y => ?_) fun _ _ y => y
    obtain ⟨er, J2⟩ := y
    cases hr' : e as[i] bs[i] with
    | true =>
      rw [hr'] at er
      refine .inl ⟨er, J2, fun j p r hj hp hq => ?_⟩
      rcases Nat.lt_or_ge j i with c | c
      · exact J.2 j p r c hp hq
      · have : j = i := by omega
        subst this
        rw [List.getElem?_eq_getElem h1] at hp
        rw [List.getElem?_eq_getElem h2] at hq
        cases hp
        cases hq
        exact hr'
    | false =>
      rw [hr'] at er
      exact .inr ⟨er, J2, eqP_no (List.getElem?_eq_getElem h1) (List.getElem?_eq_getElem h2) hr'⟩
  · refine ⟨.bl (!eqP e as bs), H, J.1, ?_, q⟩
    rw [z1, z2] at *
    by_cases c : as.length = bs.length
    · rw [eqP_all c fun i p r hp hq => J.2 i p r (by have := (List.getElem?_eq_some_iff.mp hp).1; omega) hp hq]
      show Value.bool _ = Value.bool _
      rw [c]
      simp
    · rw [eqP_len c]
      show Value.bool _ = Value.bool _
      simp [c]
  · rw [J.2] at q
    exact ⟨.bl true, H, J.1, rfl, q⟩
end
end TC
/-! ### == of lists of dicts, both answers; != of lists and tuples that hold dicts, where all are equal -/
namespace DQ
open PySem PySem.SeqAt
open AutoSeq1 (wpAny_loadPart')
open MeetsSeq MeetsSeq2 MeetsSeq3
section
variable {prog : Program} {w : World}
/-- list.__ne__'s loop from place i on, where all items are equal -/
theorem ne_from {l b : Addr} {its its2 : Array Value} {n n2 : Nat} {dd dd2 : Option Addr} {sl sl2 : Array (Option Value)} (hz : its.size = its2.size) {A : Around} {R : Result → Shared → Prop} {s : Shared}
    (g1 : s.heap.get? l = some { cls := .type "list", dict := dd, data := .seq its n, slots := sl }) (g2 : s.heap.get? b = some { cls := .type "list", dict := dd2, data := .seq its2 n2, slots := sl2 })
    (each : ∀ j (h1 : j < its.size) (h2 : j < its2.size), EqP prog w A.in1 s its[j] its2[j] true) (out : R (.ok (.ret (.bool false))) s) :
    ∀ (k i : Nat), its.size - i = k → wpAny (model prog w) A.in1 (Builtin.«list.__eq__.loop» ⟨[.ref l, .ref b, rawInt i, rawInt 3], []⟩) (GQ.FinOf prog w A R) (fun e s' => R (.error e) s') s
  | 0, i, hk => by
    obtain ⟨hp, g, d, tk, os⟩ := s
    have o1 : its[((i : Nat) : Int).toNat]? = none := Array.getElem?_eq_none (by omega)
    have o2 : its2[((i : Nat) : Int).toNat]? = none := Array.getElem?_eq_none (by omega)
    wp_walk using wpAny_loadPart' g1, wpAny_loadPart' g2
    rw [o1, o2]
    wp_walk using wpAny_loadPart' g1, wpAny_loadPart' g2
    show R (.ok (.ret (.bool (its.size != its2.size)))) _
    rw [hz, bne_self_eq_false]
    exact out
  | k + 1, i, hk => by
    have step := ne_from hz g1 g2 each out k (i + 1) (by omega)
    have h1 : i < its.size := by omega
    have h2 : i < its2.size := by omega
    have eq := each i h1 h2
    obtain ⟨hp, g, d, tk, os⟩ := s
    have o1 : its[((i : Nat) : Int).toNat]? = some its[i] := by rw [Int.toNat_natCast]; exact Array.getElem?_eq_getElem h1
    have o2 : its2[((i : Nat) : Int).toNat]? = some its2[i] := by rw [Int.toNat_natCast]; exact Array.getElem?_eq_getElem h2
    wp_walk using wpAny_loadPart' g1, wpAny_loadPart' g2
    rw [o1, o2]
    refine wpAny_bind (eq _ _ ?_)
    wp_walk
    rw [show ((i : Int) + 1) = ((i + 1 : Nat) : Int) from rfl]
    refine ⟨plainId_quiet plain_eq_loop _, codeAny_builtin entry_eq_loop ?_⟩
    rw [Around.under_plainId plain_eq_loop _]
    exact step
theorem ne_lists {l b : Addr} {its its2 : Array Value} {n n2 : Nat} {dd dd2 : Option Addr} {sl sl2 : Array (Option Value)} (hz : its.size = its2.size) {A : Around} {R : Result → Shared → Prop} {s : Shared}
    (g1 : s.heap.get? l = some { cls := .type "list", dict := dd, data := .seq its n, slots := sl }) (g2 : s.heap.get? b = some { cls := .type "list", dict := dd2, data := .seq its2 n2, slots := sl2 })
    (each : ∀ j (h1 : j < its.size) (h2 : j < its2.size), EqP prog w A.in1 s its[j] its2[j] true) (out : R (.ok (.ret (.bool false))) s) :
    wpAny (model prog w) A.in1 (Builtin.«list.__ne__» ⟨[.ref l, .ref b], []⟩) (GQ.FinOf prog w A R) (fun e s' => R (.error e) s') s := by
  have run := ne_from hz g1 g2 each out _ 0 rfl
  have f3 := AutoSeq1.sub_list_list
  have f4 : ¬ (its.size != its2.size) = true := by rw [hz, bne_self_eq_false]; exact Bool.false_ne_true
  obtain ⟨hp, g, d, tk, os⟩ := s
  wp_walk using wpAny_loadPart' g1, wpAny_loadPart' g2
  refine ⟨plainId_quiet plain_eq_loop _, codeAny_builtin entry_eq_loop ?_⟩
  rw [Around.under_plainId plain_eq_loop _]
  exact run
theorem rc_neL {A : Around} {s : Shared} {l b : Addr} {its its2 : Array Value} (hl : s.heap.IsList l its) (hb : s.heap.IsList b its2) (hz : its.size = its2.size) (hu : A.units < cLine)
    (each : ∀ j (h1 : j < its.size) (h2 : j < its2.size), EqP prog w A.in1 s its[j] its2[j] true) (E Q : Value → Shared → Prop) (h : Q (.bool false) s) : wpAny (model prog w) A (richCompare .NotEq (.ref l) (.ref b)) Q E s := by
  rcases id hl with ⟨⟨c1, d1, t1, z1⟩, y1, y2, n1, y3⟩
  rcases id hb with ⟨⟨c2, d2, t2, z2⟩, x1, x2, n2, x3⟩
  cases (show c1 = _ from y2)
  cases (show t1 = _ from y3)
  cases (show c2 = _ from x2)
  cases (show t2 = _ from x3)
  exact wpAny_richCompare_same_room (op := .NotEq) ⟨_, y1, rfl⟩ ⟨_, x1, rfl⟩ F.slot_list_ne (GQ.call_here F.slot_list_ne ⟨_, y1, rfl⟩ F.entry_list_ne (F.args_list_ne_2 _ _)
    (ne_lists (R := wants (fun v s' => v ≠ .notImplemented ∧ Q v s') E) hz y1 x1 each ⟨(fun x => nomatch x), h⟩)) hu
end
end DQ
namespace DQ
open PySem PySem.Spec PyProof.Rows L2
/-- the keys of a dict looked up in another one, the values compared -/
inductive Hits (F : V → V → Bool → Prop) (ls : List (Key × V)) : List (Key × V) → Bool → Prop
  | nil : Hits F ls [] true
  | miss {k : Key} {v : V} {r : List (Key × V)} : valV ls k = none → Hits F ls ((k, v) :: r) false
  | hit {k : Key} {v y : V} {r : List (Key × V)} {e b : Bool} : valV ls k = some y → F v y e → Hits F ls r b → Hits F ls ((k, v) :: r) (e && b)
/-- two lists, or two dicts, with the answer of == -/
def EqO (K : PySem.W.Frag) (H : Hp) (F : V → V → Bool → Prop) (x y : V) (b : Bool) : Prop := ∃ a c, x = .ref a ∧ y = .ref c ∧ (a = c → b = true) ∧
  ((∃ xs ys : List V, SqL K H a xs ∧ SqL K H c ys ∧ xs.length = ys.length ∧ ∃ e : Nat → Bool, (∀ (j : Nat) (u v : V), xs[j]? = some u → ys[j]? = some v → F u v (e j)) ∧ b = (List.range xs.length).all e) ∨
   (∃ xs ys : List V, SqL K H a xs ∧ SqL K H c ys ∧ xs.length ≠ ys.length ∧ b = false) ∨
   (∃ (ks ls : List (Key × V)) (r : Bool), H a = some (.dK ks) ∧ H c = some (.dK ls) ∧ (ks.length = ls.length → Hits F ls ks r) ∧ b = (ks.length == ls.length && r)))
def EqB (K : PySem.W.Frag) (H : Hp) : Nat → V → V → Bool → Prop
  | 0 => fun _ _ _ => False
  | n + 1 => fun x y b => (flatV x = true ∧ flatV y = true ∧ b = eqV x y) ∨ EqO K H (EqB K H n) x y b
section
variable {P : Program} {w : World} {A : Around} {s : Shared} {F : V → V → Bool → Prop}
theorem hits_of (ih : ∀ x y b v u, F x y b → RelV x v → RelV y u → SeqAt.EqP P w A s v u b) {ls : List (Key × V)} {vb : List (Key × Value)} (rb : KV ls vb) {ks : List (Key × V)} {r : Bool} (h : Hits F ls ks r) : ∀ {va : List (Key × Value)}, KV ks va → PySem.W.KeqHitsP P w A s vb va r := by
  induction h with
  | nil =>
    intro va ra
    cases ra
    exact .nil
  | @miss k v rest hm =>
    intro va ra
    cases ra with
    | @cons p q ps qs h t =>
      obtain ⟨key, v'⟩ := q
      cases (show k = key from h.1)
      refine .miss ?_
      have z := rb.val k
      rw [hm] at z
      cases hv : valueAt vb k with
      | none => rfl
      | some u => rw [hv] at z; exact (show False from z).elim
  | @hit k v y rest e b hm hf hr k2 =>
    intro va ra
    cases ra with
    | @cons p q ps qs h t =>
      obtain ⟨key, v'⟩ := q
      cases (show k = key from h.1)
      have z := rb.val k
      rw [hm] at z
      obtain ⟨y', hy, ry⟩ := z.some_of
      exact .hit hy (ih _ _ _ _ _ hf h.2 ry) (k2 t)
end
section
variable {X : Cx} {pins : List (Addr × Obj)} {σ : L2.St} {H : Hp} {s : Shared}
theorem vals_at : ∀ {xs : List V} {us : List Value}, Vals xs us → ∀ (j : Nat) (h : j < us.length), ∃ x, xs[j]? = some x ∧ RelV x us[j]
  | _, _, .nil, j, h => absurd h (Nat.not_lt_zero j)
  | _, _, .cons r t, 0, _ => ⟨_, rfl, r⟩
  | _, _, .cons r t, j + 1, h => vals_at t j (Nat.lt_of_succ_lt_succ h)
theorem eqO_run (I : Inv X pins σ H s) {A : Around} {F : V → V → Bool → Prop} (hu : A.units < cLine) (ih : ∀ x y b v u, F x y b → RelV x v → RelV y u → SeqAt.EqP X.prog X.w A.in1 s v u b) {x y : V} {b : Bool} {v u : Value} (h : EqO X.K H F x y b) (rx : RelV x v) (ry : RelV y u)
    (E Q : Value → Shared → Prop) (q : Q (.bool b) s) : wpAny (model X.prog X.w) A (richCompare .Eq v u) Q E s := by
  obtain ⟨a, c, rfl, rfl, _, h⟩ := h
  cases (show v = Value.ref a from rx)
  cases (show u = Value.ref c from ry)
  rcases h with ⟨xs, ys, ha, hb, hl, e, he, rfl⟩ | ⟨xs, ys, ha, hb, hl, rfl⟩ | ⟨ks, ls, r, ha, hb, hh, rfl⟩
  · obtain ⟨us, r1, p1, _⟩ := I.list ha
    obtain ⟨ws, r2, p2, _⟩ := I.list hb
    have hz : us.toArray.size = ws.toArray.size := by
      rw [List.size_toArray, List.size_toArray, ← r1.length, ← r2.length]
      exact hl
    refine SeqAt.rcP_lists (e := e) p1.isList p2.isList hz hu (fun j h1 h2 => ?_) E Q ?_
    · rw [List.size_toArray] at h1 h2
      obtain ⟨x1, e1, v1⟩ := vals_at r1 j h1
      obtain ⟨x2, e2, v2⟩ := vals_at r2 j h2
      have k := ih _ _ _ _ _ (he j x1 x2 e1 e2) v1 v2
      simpa using k
    · rw [List.size_toArray, ← r1.length]
      exact q
  · obtain ⟨us, r1, p1, _⟩ := I.list ha
    obtain ⟨ws, r2, p2, _⟩ := I.list hb
    refine SeqAt.RcAt.lists_lengths p1.isList p2.isList ?_ hu _ _ E Q q
    rw [List.size_toArray, List.size_toArray, ← r1.length, ← r2.length]
    exact bne_iff_ne.mpr hl
  · obtain ⟨_, ya, va, ra, da⟩ := (show ObjOk X.prog X.w H s.heap a (.dK ks) from I.hok a _ ha)
    obtain ⟨_, yb, vb, rb, db⟩ := (show ObjOk X.prog X.w H s.heap c (.dK ls) from I.hok c _ hb)
    have l1 : va.length = ks.length := ra.length.symm
    have l2 : vb.length = ls.length := rb.length.symm
    refine PySem.W.rcP_dicts (knd := mixKind X.prog X.w) (r := r) ya yb da db hu (fun z => hits_of ih rb (hh (by rw [← l1, ← l2]; exact z)) ra) E Q ?_
    rw [l1, l2]
    exact q
theorem eqB_run (I : Inv X pins σ H s) : ∀ (n : Nat) (A : Around), A.units + n < cLine → ∀ (x y : V) (b : Bool) (v u : Value), EqB X.K H n x y b → RelV x v → RelV y u → SeqAt.EqP X.prog X.w A s v u b
  | 0, _, _, _, _, _, _, _, h, _, _ => (show False from h).elim
  | n + 1, A, hu, x, y, b, v, u, h, rx, ry => by
    rcases h with ⟨f1, f2, rfl⟩ | h
    · exact (eqAt_V rx ry f1 f2).eqP
    · have step := eqO_run I (A := A) (by omega) (eqB_run I n A.in1 (by show A.units + 1 + n < cLine; omega)) h rx ry
      obtain ⟨a, c, rfl, rfl, hac, _⟩ := h
      cases (show v = Value.ref a from rx)
      cases (show u = Value.ref c from ry)
      by_cases e : a = c
      · cases hac e
        subst e
        exact (SeqAt.EqAt.same _).eqP
      · exact SeqAt.eqP_refs e step
end
section
variable {X : Cx}
def rEqO (K : PySem.W.Frag) : R2 := fun x y H Q => ∃ (n : Nat) (b : Bool), n ≤ 60 ∧ EqO K H (EqB K H n) x y b ∧ Q (.bl b) H
theorem op_eqB (hu : X.A.units + 64 < cLine) : OpR X (compareOp .Eq) (rEqO X.K) := by
  intro pins s σ H x y v u Q I rx ry h
  obtain ⟨n, b, hn, h, q⟩ := h
  exact eqO_run I (A := X.A) (by omega) (eqB_run I n X.A.in1 (by show X.A.units + 1 + n < cLine; omega)) h rx ry _ _ ⟨.bl b, H, I, rfl, q⟩
/-- != of two lists, or of two tuples, of equal things -/
def rNeO (K : PySem.W.Frag) : R2 := fun x y H Q => ∃ (a c : Addr) (xs ys : List V) (n : Nat), x = .ref a ∧ y = .ref c ∧ n ≤ 60 ∧ ((SqL K H a xs ∧ SqL K H c ys) ∨ (SqT K H a xs ∧ SqT K H c ys)) ∧ xs.length = ys.length ∧
  (∀ (j : Nat) (u v : V), xs[j]? = some u → ys[j]? = some v → EqB K H n u v true) ∧ Q (.bl false) H
theorem op_neB (hu : X.A.units + 64 < cLine) : OpR X (compareOp .NotEq) (rNeO X.K) := by
  intro pins s σ H x y v u Q I rx ry h
  obtain ⟨a, c, xs, ys, n, rfl, rfl, hn, hs, hl, he, q⟩ := h
  cases (show v = Value.ref a from rx)
  cases (show u = Value.ref c from ry)
  show wpAny _ _ (richCompare .NotEq (.ref a) (.ref c)) _ _ _
  have each : ∀ {us ws : List Value}, Vals xs us → Vals ys ws → ∀ {s' : Shared}, Inv X pins σ H s' → ∀ (j : Nat) (h1 : j < us.length) (h2 : j < ws.length), SeqAt.EqP X.prog X.w X.A.in1 s' us[j] ws[j] true := fun r1 r2 s' J j h1 h2 => by
    obtain ⟨x1, e1, v1⟩ := vals_at r1 j h1
    obtain ⟨x2, e2, v2⟩ := vals_at r2 j h2
    exact eqB_run J n X.A.in1 (by show X.A.units + 1 + n < cLine; omega) _ _ _ _ _ (he j x1 x2 e1 e2) v1 v2
  rcases hs with ⟨h1, h2⟩ | ⟨h1, h2⟩
  · obtain ⟨us, r1, p1, _⟩ := I.list h1
    obtain ⟨ws, r2, p2, _⟩ := I.list h2
    refine rc_neL p1.isList p2.isList (by rw [List.size_toArray, List.size_toArray, ← r1.length, ← r2.length]; exact hl) (by omega) (fun j z1 z2 => ?_) _ _ ⟨.bl false, H, I, rfl, q⟩
    rw [List.size_toArray] at z1 z2
    simpa using each r1 r2 I j z1 z2
  · obtain ⟨us, r1, t1, _⟩ := I.tuple h1
    obtain ⟨ws, r2, t2, _⟩ := I.tuple h2
    have hz : us.toArray.size = ws.toArray.size := by rw [List.size_toArray, List.size_toArray, ← r1.length, ← r2.length]; exact hl
    refine TC.rc_ne (by omega) (fun _ s' => Inv X pins σ H s') (fun _ => False) t1 t2 (fun j z1 z2 s' J => ?_) (fun s' J => ?_) (fun _ z => z.elim) I
    · rw [List.size_toArray] at z1 z2
      have k := each r1 r2 J j z1 z2
      have k : SeqAt.EqP X.prog X.w X.A.in1 s' us.toArray[j] ws.toArray[j] true := by simpa using k
      exact k _ _ (.inl ⟨rfl, J⟩)
    · rw [hz, bne_self_eq_false]
      exact ⟨.bl false, H, J, rfl, q⟩
end
end DQ
/-! ### != of lists and dicts, nested, both answers -/
namespace DQ
open PySem PySem.SeqAt
open AutoSeq1 (wpAny_loadPart')
open MeetsSeq MeetsSeq2 MeetsSeq3
section
variable {prog : Program} {w : World}
def allFrom (e : Nat → Bool) : Nat → Nat → Bool
  | 0, _ => true
  | k + 1, i => e i && allFrom e k (i + 1)
theorem allFrom_range (e : Nat → Bool) : ∀ k i, allFrom e k i = (List.range k).all fun j => e (i + j)
  | 0, _ => rfl
  | k + 1, i => by
    unfold allFrom
    rw [allFrom_range e k (i + 1), List.range_succ_eq_map, List.all_cons, List.all_map]
    congr 1
    refine congrArg (fun f => (List.range k).all f) (funext fun j => ?_)
    show e (i + 1 + j) = e (i + (j + 1))
    rw [show i + 1 + j = i + (j + 1) by omega]
theorem neB_from {l b : Addr} {its its2 : Array Value} {n n2 : Nat} {dd dd2 : Option Addr} {sl sl2 : Array (Option Value)} {e : Nat → Bool} (hz : its.size = its2.size) {A : Around} {R : Result → Shared → Prop} {s : Shared}
    (g1 : s.heap.get? l = some { cls := .type "list", dict := dd, data := .seq its n, slots := sl }) (g2 : s.heap.get? b = some { cls := .type "list", dict := dd2, data := .seq its2 n2, slots := sl2 })
    (each : ∀ j (h1 : j < its.size) (h2 : j < its2.size), EqP prog w A.in1 s its[j] its2[j] (e j)) :
    ∀ (k i : Nat), its.size - i = k → R (.ok (.ret (.bool (!allFrom e k i)))) s → wpAny (model prog w) A.in1 (Builtin.«list.__eq__.loop» ⟨[.ref l, .ref b, rawInt i, rawInt 3], []⟩) (GQ.FinOf prog w A R) (fun e s' => R (.error e) s') s
  | 0, i, hk, out => by
    obtain ⟨hp, g, d, tk, os⟩ := s
    have o1 : its[((i : Nat) : Int).toNat]? = none := Array.getElem?_eq_none (by omega)
    have o2 : its2[((i : Nat) : Int).toNat]? = none := Array.getElem?_eq_none (by omega)
    wp_walk using wpAny_loadPart' g1, wpAny_loadPart' g2
    rw [o1, o2]
    wp_walk using wpAny_loadPart' g1, wpAny_loadPart' g2
    show R (.ok (.ret (.bool (its.size != its2.size)))) _
    rw [hz, bne_self_eq_false]
    exact out
  | k + 1, i, hk, out => by
    have h1 : i < its.size := by omega
    have h2 : i < its2.size := by omega
    have eq := each i h1 h2
    have step := neB_from (R := R) hz g1 g2 each k (i + 1) (by omega)
    unfold allFrom at out
    obtain ⟨hp, g, d, tk, os⟩ := s
    have o1 : its[((i : Nat) : Int).toNat]? = some its[i] := by rw [Int.toNat_natCast]; exact Array.getElem?_eq_getElem h1
    have o2 : its2[((i : Nat) : Int).toNat]? = some its2[i] := by rw [Int.toNat_natCast]; exact Array.getElem?_eq_getElem h2
    wp_walk using wpAny_loadPart' g1, wpAny_loadPart' g2
    rw [o1, o2]
    refine wpAny_bind (eq _ _ ?_)
    cases he : e i with
    | true =>
      rw [he, Bool.true_and] at out
      have step := step out
      wp_walk
      rw [show ((i : Int) + 1) = ((i + 1 : Nat) : Int) from rfl]
      refine ⟨plainId_quiet plain_eq_loop _, codeAny_builtin entry_eq_loop ?_⟩
      rw [Around.under_plainId plain_eq_loop _]
      exact step
    | false =>
      rw [he, Bool.false_and] at out
      wp_walk using wpAny_loadPart' g1, wpAny_loadPart' g2
      rw [o1, o2]
      wp_walk using wpAny_loadPart' g1, wpAny_loadPart' g2
      exact out
theorem rc_neLB {A : Around} {s : Shared} {l b : Addr} {its its2 : Array Value} {e : Nat → Bool} (hl : s.heap.IsList l its) (hb : s.heap.IsList b its2) (hz : its.size = its2.size) (hu : A.units < cLine)
    (each : ∀ j (h1 : j < its.size) (h2 : j < its2.size), EqP prog w A.in1 s its[j] its2[j] (e j)) (E Q : Value → Shared → Prop) (h : Q (.bool (!(List.range its.size).all e)) s) : wpAny (model prog w) A (richCompare .NotEq (.ref l) (.ref b)) Q E s := by
  rcases id hl with ⟨⟨c1, d1, t1, z1⟩, y1, y2, n1, y3⟩
  rcases id hb with ⟨⟨c2, d2, t2, z2⟩, x1, x2, n2, x3⟩
  cases (show c1 = _ from y2)
  cases (show t1 = _ from y3)
  cases (show c2 = _ from x2)
  cases (show t2 = _ from x3)
  refine wpAny_richCompare_same_room (op := .NotEq) ⟨_, y1, rfl⟩ ⟨_, x1, rfl⟩ F.slot_list_ne (GQ.call_here F.slot_list_ne ⟨_, y1, rfl⟩ F.entry_list_ne (F.args_list_ne_2 _ _) ?_) hu
  have run := neB_from (R := wants (fun v s' => v ≠ .notImplemented ∧ Q v s') E) hz y1 x1 each its.size 0 rfl (by
    rw [allFrom_range]
    refine ⟨(fun x => nomatch x), ?_⟩
    rw [show (fun j => e (0 + j)) = e from funext fun j => by rw [Nat.zero_add]]
    exact h)
  have f3 := AutoSeq1.sub_list_list
  have f4 : ¬ (its.size != its2.size) = true := by rw [hz, bne_self_eq_false]; exact Bool.false_ne_true
  obtain ⟨hp, g, d, tk, os⟩ := s
  wp_walk using wpAny_loadPart' y1, wpAny_loadPart' x1
  refine ⟨plainId_quiet plain_eq_loop _, codeAny_builtin entry_eq_loop ?_⟩
  rw [Around.under_plainId plain_eq_loop _]
  exact run
end
end DQ
namespace PySem.W
open PySem PyProof.Rows
section
variable {prog : Program} {w : World} {A : Around} {s : Shared} {K : Type} [DecidableEq K] {knd : KeyKind prog w K}
theorem ne_dictsB {a b : Addr} {ka kb : List (K × Value)} {r : Bool} (ha : (a == sysModules) = false) (hb : (b == sysModules) = false)
    (da : s.heap.DictOf knd a ka) (db : s.heap.DictOf knd b kb) (hu : A.units < cLine) (hits : ka.length = kb.length → KeqHitsP prog w A.in1 s kb ka r) (E Q : Value → Shared → Prop) (h : Q (.bool (!(ka.length == kb.length && r))) s) : wpAny (model prog w) A (richCompare .NotEq (.ref a) (.ref b)) Q E s := by
  refine wpAny_richCompare_same_room (op := .NotEq) da.typeIs db.typeIs PySem.F.slot_dict_ne (wpAny_call_entry PySem.F.slot_dict_ne da.typeIs PySem.F.entry_dict_ne ?_ (PySem.F.args_dict_ne_2 _ _)) hu
  refine wpAny_bind (m := Builtin.Dict.dictSlotArgs "__ne__" ⟨[.ref a, .ref b], []⟩) ?_
  unfold Builtin.Dict.dictSlotArgs
  refine wpAny_bind (wpAny_notOrdered_dict da.typeIs (wpAny_pure ?_))
  refine wpAny_bind (wpAny_isInstance (T := "dict") db.typeIs PySem.F.sub_dict_dict ?_)
  rw [if_neg (by decide)]
  refine wpAny_bind (wpAny_pure (wpAny_bind (wpAny_pure ?_)))
  refine wpAny_bind (samePairsP ha hb da db hits ?_)
  refine wpAny_pure ⟨_, rfl, (fun x => nomatch x), ?_⟩
  cases hr : (ka.length == kb.length && r) with
  | true => rw [hr] at h; exact h
  | false => rw [hr] at h; exact h
end
end PySem.W
namespace DQ
open PySem PySem.Spec PyProof.Rows L2
section
variable {X : Cx} {pins : List (Addr × Obj)} {σ : L2.St} {H : Hp} {s : Shared}
theorem neO_run (I : Inv X pins σ H s) {A : Around} {F : V → V → Bool → Prop} (hu : A.units < cLine) (ih : ∀ x y b v u, F x y b → RelV x v → RelV y u → SeqAt.EqP X.prog X.w A.in1 s v u b) {x y : V} {b : Bool} {v u : Value} (h : EqO X.K H F x y b) (rx : RelV x v) (ry : RelV y u)
    (E Q : Value → Shared → Prop) (q : Q (.bool (!b)) s) : wpAny (model X.prog X.w) A (richCompare .NotEq v u) Q E s := by
  obtain ⟨a, c, rfl, rfl, _, h⟩ := h
  cases (show v = Value.ref a from rx)
  cases (show u = Value.ref c from ry)
  rcases h with ⟨xs, ys, ha, hb, hl, e, he, rfl⟩ | ⟨xs, ys, ha, hb, hl, rfl⟩ | ⟨ks, ls, r, ha, hb, hh, rfl⟩
  · obtain ⟨us, r1, p1, _⟩ := I.list ha
    obtain ⟨ws, r2, p2, _⟩ := I.list hb
    have hz : us.toArray.size = ws.toArray.size := by
      rw [List.size_toArray, List.size_toArray, ← r1.length, ← r2.length]
      exact hl
    refine rc_neLB (e := e) p1.isList p2.isList hz hu (fun j h1 h2 => ?_) E Q ?_
    · rw [List.size_toArray] at h1 h2
      obtain ⟨x1, e1, v1⟩ := vals_at r1 j h1
      obtain ⟨x2, e2, v2⟩ := vals_at r2 j h2
      have k := ih _ _ _ _ _ (he j x1 x2 e1 e2) v1 v2
      simpa using k
    · rw [List.size_toArray, ← r1.length]
      exact q
  · obtain ⟨us, r1, p1, _⟩ := I.list ha
    obtain ⟨ws, r2, p2, _⟩ := I.list hb
    refine SeqAt.RcNeAt.lists_lengths p1.isList p2.isList ?_ hu _ _ E Q q
    rw [List.size_toArray, List.size_toArray, ← r1.length, ← r2.length]
    exact bne_iff_ne.mpr hl
  · obtain ⟨_, ya, va, ra, da⟩ := (show ObjOk X.prog X.w H s.heap a (.dK ks) from I.hok a _ ha)
    obtain ⟨_, yb, vb, rb, db⟩ := (show ObjOk X.prog X.w H s.heap c (.dK ls) from I.hok c _ hb)
    have l1 : va.length = ks.length := ra.length.symm
    have l2 : vb.length = ls.length := rb.length.symm
    refine PySem.W.ne_dictsB (knd := mixKind X.prog X.w) (r := r) ya yb da db hu (fun z => hits_of ih rb (hh (by rw [← l1, ← l2]; exact z)) ra) E Q ?_
    rw [l1, l2]
    exact q
def rNeX (K : PySem.W.Frag) : R2 := fun x y H Q => ∃ (n : Nat) (b : Bool), n ≤ 60 ∧ EqO K H (EqB K H n) x y b ∧ Q (.bl (!b)) H
theorem op_neX (hu : X.A.units + 64 < cLine) : OpR X (compareOp .NotEq) (rNeX X.K) := by
  intro pins s σ H x y v u Q I rx ry h
  obtain ⟨n, b, hn, h, q⟩ := h
  exact neO_run I (A := X.A) (by omega) (eqB_run I n X.A.in1 (by show X.A.units + 1 + n < cLine; omega)) h rx ry _ _ ⟨.bl (!b), H, I, rfl, q⟩
end
end DQ
/-! ### rows: dicts by texts; repr of a list of rows; len of an own object -/
namespace DQ
open PySem PySem.Spec PyProof.Rows L2
def rowK (r : List (Str × V)) : List (Key × V) := r.map fun p => (Sum.inr p.1, p.2)
def flatD : V → PyData
  | .bl b => .bool b
  | .int i => .int i
  | .str x => .str x
  | _ => .none
def rowD (r : List (Str × V)) : PyData := .dict (r.map fun p => (.str p.1, flatD p.2))
theorem reads_flat {h : Heap} {v : V} {u : Value} (r : RelV v u) (f : flatV v = true) : Reads h u (flatD v) [] := by
  cases v with
  | non => cases (show u = Value.none from r); exact .none
  | bl b => cases (show u = Value.bool b from r); exact .bool b
  | int i => obtain ⟨t, rfl⟩ := (show ∃ t, u = Value.int i t from r); exact .int i t
  | str x => obtain ⟨t, rfl⟩ := (show ∃ t, u = Value.str x t from r); exact .str x t
  | byt b => cases f
  | flt b => cases f
  | ref a => cases f
  | ty n => cases f
theorem reads_row {P : Program} {w : World} {h : Heap} : ∀ {r : List (Str × V)} {vs : List (Key × Value)} {es : List DictEntry}, (∀ p ∈ r, flatV p.2 = true) → KV (rowK r) vs → Pairs (mixKind P w) es vs →
    ReadsAll h (es.map (·.key)) ((r.map fun p => (PyData.str p.1, flatD p.2)).map (·.1)) [] ∧ ReadsAll h (es.map (·.val)) ((r.map fun p => (PyData.str p.1, flatD p.2)).map (·.2)) []
  | [], _, _, _, rel, ps => by
    cases rel
    cases ps
    exact ⟨.nil, .nil⟩
  | p :: r, _, _, hf, rel, ps => by
    cases rel with
    | cons h1 t1 =>
      cases ps with
      | cons k1 v1 t2 =>
        obtain ⟨a1, a2⟩ := reads_row (h := h) (fun q hq => hf q (List.mem_cons_of_mem _ hq)) t1 t2
        obtain ⟨e1, r1⟩ := h1
        rw [← e1, mixKind_is] at k1
        rcases keyIs_shape k1 with ⟨i, t, z, _⟩ | ⟨x, t, z, ek⟩
        · cases z
        · cases z
          refine ⟨ReadsAll.cons (as := []) (bs := []) (by dsimp only; rw [ek]; exact .str _ _) a1, ReadsAll.cons (as := []) (bs := []) ?_ a2⟩
          dsimp only
          rw [v1]
          exact reads_flat r1 (hf p List.mem_cons_self)
section
variable {X : Cx} {pins : List (Addr × Obj)} {σ : L2.St} {H : Hp} {s : Shared}
theorem reads_dict (I : Inv X pins σ H s) {a : Addr} {r : List (Str × V)} (h : H a = some (.dK (rowK r))) (hf : ∀ p ∈ r, flatV p.2 = true) : Reads s.heap (.ref a) (rowD r) [a] ∧ a ≠ sysModules := by
  obtain ⟨_, ys, vs, rel, o, es, ep, g1, g2, g3, _, g4, _⟩ := dk_of I.hok h
  obtain ⟨a1, a2⟩ := reads_row (h := s.heap) hf rel g4
  exact ⟨.dict (as := []) (bs := []) g1 g2.1 g3 a1 a2, beq_eq_false_iff_ne.mp ys⟩
theorem reads_rows (I : Inv X pins σ H s) : ∀ {as : List Addr} {rs : List (List (Str × V))}, as.length = rs.length → (∀ (j : Nat) (a : Addr) (r : List (Str × V)), as[j]? = some a → rs[j]? = some r → H a = some (.dK (rowK r)) ∧ ∀ p ∈ r, flatV p.2 = true) →
    ∃ bs, ReadsAll s.heap (as.map Value.ref) (rs.map rowD) bs ∧ sysModules ∉ bs
  | [], [], _, _ => ⟨[], .nil, fun h => nomatch h⟩
  | [], _ :: _, h, _ => by cases h
  | _ :: _, [], h, _ => by cases h
  | a :: as, r :: rs, hl, hh => by
    obtain ⟨bs, h1, h2⟩ := reads_rows I (as := as) (rs := rs) (Nat.succ.inj hl) fun j x y e1 e2 => hh (j + 1) x y e1 e2
    obtain ⟨g1, g2⟩ := hh 0 a r rfl rfl
    obtain ⟨k1, k2⟩ := reads_dict I g1 g2
    refine ⟨[a] ++ bs, .cons k1 h1, fun z => ?_⟩
    rcases List.mem_append.mp z with y | y
    · exact k2 (List.mem_singleton.mp y).symm
    · exact h2 y
end
section
variable {X : Cx} {CX : CXT} {k : Nat} {g C : Addr} {fd : FuncData} {ps : List Str} {sp : Sp} {E : XK}
def rReprRows (K : PySem.W.Frag) : List V → Hp → VK → Prop := fun xs H Q => ∃ (a : Addr) (as : List Addr) (rs : List (List (Str × V))), xs = [.ref a] ∧ SqL K H a (as.map V.ref) ∧ as.length = rs.length ∧
  (∀ (j : Nat) (b : Addr) (r : List (Str × V)), as[j]? = some b → rs[j]? = some r → H b = some (.dK (rowK r)) ∧ ∀ p ∈ r, flatV p.2 = true) ∧ PyData.showableAll (rs.map rowD) = true ∧ PyData.depthAll (rs.map rowD) ≤ 1 ∧ (PyData.list (rs.map rowD)).shown.length ≤ sizeLine ∧ Q (.str (PyData.list (rs.map rowD)).shown) H
theorem call_reprRows (hG : X.A.guards = some []) (hu : X.A.units + 64 < cLine) : CallR X (.builtin "repr") (rReprRows X.K) := by
  intro pins s σ H xs us Q I r h
  obtain ⟨a, as, rs, rfl, hs, hl, hr, hsh, hdp, hz, q⟩ := h
  obtain ⟨u, rfl, ru⟩ := vals1 r
  cases (show u = Value.ref a from ru)
  obtain ⟨its, rv, pl, _⟩ := I.list hs
  have ei := TC.vals_refs rv
  subst ei
  obtain ⟨o, n, ho, hc, hd, hdat⟩ := pl
  obtain ⟨bs0, ra, ns⟩ := reads_rows I hl hr
  have hz' : (listText (PyData.shownAll (rs.map rowD))).length ≤ sizeLine := hz
  obtain ⟨bs, hb, hk⟩ := ReprAllK.of_readsAll (prog := X.prog) (w := X.w) ra hsh (fun _ => ns) fun t ht => Nat.le_trans (listText_mem_le ht) hz'
  have rl : Reads s.heap (.ref a) (.list (rs.map rowD)) (a :: bs0) := .list ho hc hdat ra
  have hna : a ∉ bs := not_mem_of_deeper rl (Nat.lt_succ_self _) hb
  refine call_repr_slot (idr := "list.__repr__") (T := "list") (by omega) ⟨o, ho, hc⟩ F.slot_list_repr.toG ?_
  have out : ∀ (h' : Heap) (u tk : Nat), (∀ b x, s.heap.get? b = some x → h'.get? b = some x) → ∃ x t, Value.str (listText (PyData.shownAll (rs.map rowD))) u = .str x t ∧ EP X pins σ Q (.str (listText (PyData.shownAll (rs.map rowD))) u) { s with heap := h', toks := tk } := fun h' u tk hk' => ⟨_, _, rfl, .str _, H, I.kept hk', ⟨u, rfl⟩, q⟩
  cases has : as with
  | nil =>
    subst has
    cases rs with
    | cons r rs => cases hl
    | nil =>
      have out := out s.heap
      exact call_list_repr_empty ⟨o, ho, hc⟩ ho hdat (out _ _ fun _ _ e => e)
  | cons b as' =>
    subst has
    exact call_list_reprK (d := PyData.depthAll (rs.map rowD)) (x := .ref b) (l := as'.map Value.ref) ho hc hdat hna (by simpa using hk.length_eq) (fun i y e => hk.item i y (by simpa using e)) hG (fun b _ => Clear.nil b) (by show X.A.units + 1 + _ < cLine; omega) (fun _ _ e => e) out hz'
/-- len(o): the class's own __len__ -/
def rLenO (C : Addr) (sp : Sp) (E : XK) : List V → Hp → VK → Prop := fun xs H Q => ∃ (a dx : Addr) (fs : List (Str × V)), xs = [.ref a] ∧ H a = some (.ins C dx fs) ∧ sp [.ref a] H (fun v H' => ∃ n : Nat, v = .int n ∧ n ≤ 1000000 ∧ Q (.int n) H') E
theorem call_lenO (hs : PySem.W.findIn X.K (.ref C) "__len__" = some (some (.ref g))) (hf : PySem.W.isFn X.K (.ref g) = true) (F : FnOk X.prog X.w X.K X.mg X.base CX k g fd ps sp) (hr : Room (k + 1) X.A) (hb : Binds X.K fd ps []) (hx : Passes CX X E) : CallR X (.builtin "len") (rLenO C sp E) := by
  intro pins s σ H xs us Q I r h
  obtain ⟨a, dx, fs, rfl, ha, q⟩ := h
  obtain ⟨u, rfl, ru⟩ := vals1 r
  cases (show u = Value.ref a from ru)
  obtain ⟨mp, yp, _⟩ := ins_get I.hok ha
  obtain ⟨op, yp, _⟩ := yp.look
  obtain ⟨m, fr⟩ := I.fr
  refine PySem.W.len_K fr I.ok.mod.kin yp hs hf ?_
  have one : Vals [V.ref a] [Value.ref a] := .cons rfl .nil
  have args := hb s [.ref a] I.kIn (by rw [List.append_nil, ← one.length]; exact F.len _ _ _ _ q)
  rw [List.append_nil] at args
  refine wpAny_call (codeAny_mono (F.run X.A.in1 X.stack s H ⟨[.ref a], []⟩ [.ref a] _ _ E hr.in1 I.env0.in1 args one q) fun o s' y => ?_)
  match o, y with
  | .error er, y => exact hx pins σ H s er s' I y
  | .ok (.ret z), y =>
    obtain ⟨v, H', J, rv, n, rfl, hn, q'⟩ := I.after y
    obtain ⟨t, rfl⟩ := (show ∃ t, z = Value.int (n : Int) t from rv)
    refine ⟨⟨by omega, by omega⟩, .int n, H', ?_, ⟨_, rfl⟩, q'⟩
    exact J.kept (t' := s'.toks + 1) fun _ _ e => e
  | .ok .next, y => exact False.elim y
  | .ok .brk, y => exact False.elim y
  | .ok .cont, y => exact False.elim y
end
end DQ
/-! ### sorted(xs), xs a list of tuples of ints of one length: lexicographic, any number of them -/
namespace SrT
open PySem PySem.Spec PyProof.Rows L2
def lexL : List Int → List Int → Bool
  | [], [] => false
  | [], _ :: _ => true
  | _ :: _, [] => false
  | x :: xs, y :: ys => if x = y then lexL xs ys else decide (x < y)
theorem lexL_asym : ∀ xs ys : List Int, lexL xs ys = true → lexL ys xs = false
  | [], [], h => rfl
  | [], _ :: _, _ => rfl
  | _ :: _, [], h => by cases h
  | x :: xs, y :: ys, h => by
    unfold lexL at h ⊢
    by_cases e : x = y
    · rw [if_pos e] at h
      rw [if_pos e.symm]
      exact lexL_asym xs ys h
    · rw [if_neg e] at h
      rw [if_neg fun z => e z.symm]
      have := of_decide_eq_true h
      exact decide_eq_false (by omega)
theorem lexL_tr : ∀ xs ys zs : List Int, lexL ys xs = false → lexL zs ys = false → lexL zs xs = false
  | [], ys, zs, h1, h2 => by cases zs <;> rfl
  | x :: xs, [], zs, h1, h2 => by cases h1
  | x :: xs, y :: ys, [], h1, h2 => by cases h2
  | x :: xs, y :: ys, z :: zs, h1, h2 => by
    unfold lexL at h1 h2 ⊢
    by_cases e1 : y = x
    · rw [if_pos e1] at h1
      by_cases e2 : z = y
      · rw [if_pos e2] at h2
        rw [if_pos (e2.trans e1)]
        exact lexL_tr xs ys zs h1 h2
      · rw [if_neg e2] at h2
        have := of_decide_eq_false h2
        rw [if_neg (by omega)]
        exact decide_eq_false (by omega)
    · rw [if_neg e1] at h1
      have a := of_decide_eq_false h1
      by_cases e2 : z = y
      · rw [if_neg (by omega)]
        exact decide_eq_false (by omega)
      · rw [if_neg e2] at h2
        have := of_decide_eq_false h2
        rw [if_neg (by omega)]
        exact decide_eq_false (by omega)
theorem swoL {α : Type} (k : α → List Int) : SrtO.Swo fun v u => lexL (k v) (k u) := ⟨fun x y h => lexL_asym _ _ h, fun x y z h1 h2 => lexL_tr _ _ _ h1 h2⟩
/-- equal in the order: equal -/
theorem lexL_eq : ∀ {xs ys : List Int}, lexL xs ys = false → lexL ys xs = false → xs = ys
  | [], [], _, _ => rfl
  | [], _ :: _, h, _ => by cases h
  | _ :: _, [], _, h => by cases h
  | x :: xs, y :: ys, h1, h2 => by
    unfold lexL at h1 h2
    by_cases e : x = y
    · rw [if_pos e] at h1
      rw [if_pos e.symm] at h2
      rw [e, lexL_eq h1 h2]
    · rw [if_neg e] at h1
      rw [if_neg fun z => e z.symm] at h2
      have := of_decide_eq_false h1
      have := of_decide_eq_false h2
      omega
section
variable {prog : Program} {w : World} {A : Around} {s : Shared}
theorem lex_go {Q : Bool → Shared → Prop} {b : Bool} {xs : List Value} {ns : List Int} (hx : IntsAre xs ns) : ∀ (i : Nat) {ys : List Value} {ms : List Int}, IntsAre ys ms → ns.length = ms.length → Q (lexL ns ms) s → PySem.W.KatLex prog w A b false Q (xs.zip ys) i s := by
  induction hx with
  | nil =>
    intro i ys ms hy hl h
    cases hy with
    | nil => exact PySem.W.kat_nil h
    | cons q u hy => cases hl
  | @cons p t xs ns hx ih =>
    intro i ys ms hy hl h
    cases hy with
    | nil => cases hl
    | @cons q u ys ms hy =>
      have hl := Nat.succ.inj hl
      refine PySem.W.kat_cons (wpAny_eqBool_int ?_)
      unfold lexL at h
      by_cases e : p = q
      · rw [if_pos e] at h
        rw [beq_iff_eq.mpr e]
        exact PySem.W.kat_yes (ih (i + 1) hy hl h)
      · rw [if_neg e] at h
        rw [beq_eq_false_iff_ne.mpr e]
        exact PySem.W.kat_no (TS.oneLt_ints _ h)
theorem first_of {h : Heap} {k : Value → List Int} : ∀ {vs : List Value}, (∀ v ∈ vs, TS.TupInts h v (k v) ∧ 1 ≤ (k v).length) → ∃ fs, PySem.W.KatTups h vs fs ∧ fs.length = vs.length ∧ ∀ f ∈ fs, ∃ n t, f = Value.int n t
  | [], _ => ⟨[], .nil, rfl, fun _ z => (nomatch z)⟩
  | v :: vs, x => by
    obtain ⟨fs, h1, h2, h3⟩ := first_of fun u hu => x u (List.mem_cons_of_mem _ hu)
    obtain ⟨⟨a, its, e, ⟨o, ho, hc, n, hd⟩, i⟩, l⟩ := x v List.mem_cons_self
    generalize k v = ns at i l
    cases hl : its.toList with
    | nil =>
      rw [hl] at i
      cases i
      cases l
    | cons y r =>
      rw [hl] at i
      cases i with
      | cons m t i =>
        refine ⟨.int m t :: fs, ?_, by rw [List.length_cons, List.length_cons, h2], fun f hf => ?_⟩
        · rw [e]
          refine .cons ho hc hd ?_ h1
          rw [← Array.getElem?_toList, hl]
          rfl
        · rcases List.mem_cons.mp hf with z | z
          · exact ⟨m, t, z⟩
          · exact h3 f z
theorem cmp_tup {vs : List Value} {k : Value → List Int} {d : Nat} (hp : ∀ v ∈ vs, TS.TupInts s.heap v (k v) ∧ (k v).length = d) : SrtO.Cmp prog w A s (tuples' true) (fun p => p.1 ∈ vs) (SrtO.lt2 fun v u => lexL (k v) (k u)) := by
  intro p q h1 h2
  obtain ⟨⟨a, xs, e, ⟨o, ho, hc, n, hd⟩, i⟩, l⟩ := hp _ h1
  obtain ⟨⟨a', ys, e', ⟨o', ho', hc', n', hd'⟩, i'⟩, l'⟩ := hp _ h2
  show wpAny (model prog w) A (keyLt' (tuples' true) p.1 q.1) (fun r s' => s' = s ∧ r = lexL (k p.1) (k q.1)) _ s
  generalize k p.1 = ns at i l ⊢
  generalize k q.1 = ms at i' l' ⊢
  rw [e, e']
  refine PySem.W.kat_lt ho hd ho' hd' ?_
  have z1 := i.length
  have z2 := i'.length
  rw [Array.length_toList] at z1 z2
  rw [decide_eq_false (show ¬ xs.size < ys.size by omega)]
  exact lex_go i 0 i' (by omega) ⟨rfl, rfl⟩
theorem sortable_tup {a : Addr} {vs : List Value} {k : Value → List Int} {d : Nat} (hd : 1 ≤ d) (h0 : 0 < vs.length) (hp : ∀ v ∈ vs, TS.TupInts s.heap v (k v) ∧ (k v).length = d) (ha : ∀ o, s.heap.get? a = some o → o.cls ≠ .type "tuple") : SrtO.SortableO prog w A s a vs fun v u => lexL (k v) (k u) := by
  intro h' kp
  have hp' : ∀ v ∈ vs, TS.TupInts h' v (k v) ∧ (k v).length = d := fun v hm => ⟨(hp v hm).1.keeps fun b o e c => kp b o (fun z => by rw [z] at e; exact ha o e c) e, (hp v hm).2⟩
  obtain ⟨fs, h1, h2, h3⟩ := first_of fun v hm => ⟨(hp' v hm).1, by rw [(hp' v hm).2]; exact hd⟩
  refine ⟨tuples' true, fun Q E hq => ?_, cmp_tup (s := { s with heap := h' }) hp'⟩
  refine PySem.W.kat_kind (T := .type "int") h1 (by omega) (fun f hm => ?_) (by rfl) ?_
  · obtain ⟨x, t, e⟩ := h3 f hm
    rw [e]
    exact PySem.W.Looks.now
  · rw [show (Value.type "int" != Value.type "tuple") = true by decide +kernel]
    exact hq
end
end SrT
namespace L2
open PySem PySem.Spec PyProof.Rows
abbrev ltT (k : V → List Int) (x y : V) : Bool := SrT.lexL (k x) (k y)
def rSortedT (K : PySem.W.Frag) : List V → Hp → VK → Prop := fun vs H Q => ∃ (a : Addr) (xs : List V) (k : V → List Int) (d : Nat), vs = [V.ref a] ∧ SqL K H a xs ∧ 1 ≤ d ∧ (∀ x ∈ xs, (k x).length = d ∧ ∃ t, x = V.ref t ∧ H t = some (.tup ((k x).map V.int))) ∧
  ∀ ys p, SrtO.Srtd (ltT k) ys → SrtO.Stb (ltT k) ys xs → H p = none → Q (.ref p) (upd H p (.lst ys))
theorem ints_are : ∀ {ns : List Int} {us : List Value}, Vals (ns.map V.int) us → IntsAre us ns
  | [], _, r => by cases r; exact .nil
  | n :: ns, _, r => by
    cases r with
    | cons h t =>
      obtain ⟨tk, e⟩ := h
      rw [e]
      exact .cons n tk (ints_are t)
section
variable {X : Cx}
theorem cr_sortedT : CallR X (.builtin "sorted") (rSortedT X.K) := by
  intro pins s σ H vs us Q I r h
  obtain ⟨a, xs, k, d, rfl, hs, hd1, hx, q⟩ := h
  obtain ⟨its, rv, hl, hz⟩ := I.list hs
  obtain ⟨u, rfl, ru⟩ := vals1 r
  obtain rfl : u = Value.ref a := ru
  obtain ⟨e1, e2⟩ := refs_back rv fun x m => by
    obtain ⟨_, t, e, _⟩ := hx x m
    exact ⟨t, e⟩
  have hp : ∀ v ∈ its, TS.TupInts s.heap v (k (backV v)) ∧ (k (backV v)).length = d := fun v hv => by
    obtain ⟨t, rfl⟩ := e2 v hv
    have hm : V.ref t ∈ xs := by rw [e1]; exact List.mem_map.mpr ⟨_, hv, rfl⟩
    obtain ⟨hk, t', e, ht⟩ := hx _ hm
    cases e
    obtain ⟨_, its2, r2, o, ho, hc, n, hd⟩ := I.hok _ _ ht
    exact ⟨⟨t, _, rfl, ⟨o, ho, hc, n, hd⟩, by show IntsAre _ (k (.ref t)); simpa using ints_are r2⟩, hk⟩
  refine SrtO.sorted_ord (SrT.swoL fun u => k (backV u)) hl.isList (by rw [← rv.length]; exact hz) (fun h2 h₁ b hb kk => ?_) fun out hs' hb => ?_
  · refine SrT.sortable_tup (s := { s with heap := h₁ }) (k := fun u => k (backV u)) hd1 (by omega) (fun v hv => ⟨(hp v hv).1.keeps fun b o e _ => (kk b o e).2, (hp v hv).2⟩) fun o e => ?_
    have e' := e.symm.trans hb
    cases e'
    exact fun c => absurd (Value.type.inj c) (by decide)
  · have h3 : ∀ u ∈ out, ∃ a, u = Value.ref a := fun u hu => e2 u (hb.perm.mem_iff.mp hu)
    obtain ⟨n, hn⟩ := sortedAll_at s.heap its out.toArray
    have hb' : SrtO.Stb (ltT k) (out.map backV) xs := by
      rw [e1]
      exact SrtO.Stb.map (SrT.swoL k) backV hb
    refine ⟨.ref (s.heap.objs.size + 1), upd H (s.heap.objs.size + 1) (.lst (out.map backV)), I.laid (t' := s.toks) (fun b o e => sortedAll_old e) (Nat.le_succ _) ⟨?_, out, n, vals_back h3, hn⟩, rfl, q _ _ (SrtO.srtd_map hs') hb' (I.hok.fresh (Nat.le_succ _))⟩
    rw [hb'.len]
    exact hz
end
end L2
namespace Wr
open PySem PySem.Spec PyProof.Rows L2
open DQ (rowK rowD flatD Hits)
/-! ### readings, one lemma a construct: what is left to be shown behind it -/
section
variable {σ : L2.St} {H : Hp} {Q : VK} {QB : Bool → Hp → Prop} {QA : List V → Hp → Prop} {D : Ends} {t u : TS} {te ta tb : TE} {tt tu : TT} {i j : Int} {v : V} {K : PySem.W.Frag}
theorem r_seq (h : t { D with nx := u D } σ H) : tSeq t u D σ H := h
theorem r_next (h : D.nx σ H) : tNext D σ H := h
theorem r_asg {g : TG} (h : te σ H fun x H1 => g x σ H1 D.nx) : tAsg te g D σ H := h
theorem r_drop (h : te σ H fun _ H1 => D.nx σ H1) : tDrop te D σ H := h
theorem r_ret (h : te σ H D.rt) : tRet te D σ H := h
theorem r_ifs (h : tt σ H fun b H1 => if b = true then t D σ H1 else u D σ H1) : tIfS tt t u D σ H := h
theorem r_gname {n : Nat} {QS : L2.St → Hp → Prop} (h : QS (σ.set n (some v)) H) : gName n v σ H QS := h
theorem r_gsub {to ti : TE} {s : TSet} {QS : L2.St → Hp → Prop} (h : to σ H fun o H1 => ti σ H1 fun i H2 => s o i v H2 fun H3 => QS σ H3) : gSub to ti s v σ H QS := h
theorem r_gtup {n : Nat} {tg : TGs} {a : Addr} {xs : List V} {QS : L2.St → Hp → Prop} (h1 : SqT K H a xs) (h2 : xs.length = n) (h : tg xs σ H QS) : gTup K n tg (.ref a) σ H QS := ⟨a, xs, rfl, h1, h2, h⟩
theorem r_gcons {g : TG} {tg : TGs} {xs : List V} {QS : L2.St → Hp → Prop} (h : g v σ H fun s' H' => tg xs s' H' QS) : gCons g tg (v :: xs) σ H QS := ⟨v, xs, rfl, h⟩
theorem r_gnil {QS : L2.St → Hp → Prop} (h : QS σ H) : gNil [] σ H QS := ⟨rfl, h⟩
theorem r_var {n : Nat} (e : σ[n]? = some (some v)) (h : Q v H) : tVar n σ H Q := ⟨v, e, h⟩
theorem r_c (h : Q v H) : tC v σ H Q := h
theorem r_op {r : R2} (h : ta σ H fun x H1 => tb σ H1 fun y H2 => r x y H2 Q) : tOp r ta tb σ H Q := h
theorem r_un {r : V → Hp → VK → Prop} (h : ta σ H fun x H1 => r x H1 Q) : tUn r ta σ H Q := h
theorem r_I {C : Int → Int → Prop} {g : Int → Int → V} (c : C i j) (h : Q (g i j) H) : rI C g (.int i) (.int j) H Q := ⟨i, j, rfl, rfl, c, h⟩
theorem r_I0 {g : Int → Int → V} (h : Q (g i j) H) : rI0 g (.int i) (.int j) H Q := ⟨i, j, rfl, rfl, h⟩
theorem r_U {g : Int → V} (h : Q (g i) H) : rU g (.int i) H Q := ⟨i, rfl, h⟩
theorem r_test (h : te σ H fun x H1 => ∃ k, x = .bl k ∧ QB k H1) : tTest te σ H QB := h
theorem r_tB (h : te σ H fun x H1 => ∃ k, x = .bl k ∧ QB k H1) : tB te σ H QB := h
theorem r_bl {b : Bool} {F : Bool → Prop} (h : F b) : ∃ k, V.bl b = .bl k ∧ F k := ⟨b, rfl, h⟩
theorem r_and (h : tt σ H fun c H1 => if c = true then tu σ H1 QB else QB false H1) : tAnd tt tu σ H QB := h
theorem r_or (h : tt σ H fun c H1 => if c = true then QB true H1 else tu σ H1 QB) : tOr tt tu σ H QB := h
theorem r_not (h : tt σ H fun c H1 => QB (!c) H1) : tNot tt σ H QB := h
theorem r_andV (h : ta σ H fun x H1 => ∃ c, x = .bl c ∧ if c = true then tb σ H1 Q else Q (.bl false) H1) : tAndV ta tb σ H Q := h
theorem r_orV (h : ta σ H fun x H1 => ∃ c, x = .bl c ∧ if c = true then Q (.bl true) H1 else tb σ H1 Q) : tOrV ta tb σ H Q := h
theorem r_notV (h : ta σ H fun x H1 => ∃ c, x = .bl c ∧ Q (.bl (!c)) H1) : tNotV ta σ H Q := h
theorem r_ife (h : tt σ H fun c H1 => if c = true then ta σ H1 Q else tb σ H1 Q) : tIf tt ta tb σ H Q := h
theorem eq_dint : decide (V.int i = V.int j) = decide (i = j) := by
  by_cases e : i = j
  · rw [e, decide_eq_true rfl, decide_eq_true rfl]
  · rw [decide_eq_false e, decide_eq_false fun z => e (V.int.inj z)]
theorem eq_dbl {a b : Bool} : decide (V.bl a = V.bl b) = (a == b) := by cases a <;> cases b <;> rfl
theorem eq_dstr {a b : Str} : decide (V.str a = V.str b) = decide (a = b) := by
  by_cases e : a = b
  · rw [e, decide_eq_true rfl, decide_eq_true rfl]
  · rw [decide_eq_false e, decide_eq_false fun z => e (V.str.inj z)]
theorem r_eqI (h : Q (.bl (decide (i = j))) H) : rEq (.int i) (.int j) H Q := ⟨rfl, by rw [eq_dint]; exact h⟩
theorem r_neI (h : Q (.bl (!decide (i = j))) H) : rNe (.int i) (.int j) H Q := ⟨rfl, by rw [eq_dint]; exact h⟩
theorem r_eqB {a b : Bool} (h : Q (.bl (a == b)) H) : rEq (.bl a) (.bl b) H Q := ⟨rfl, by rw [eq_dbl]; exact h⟩
theorem r_neB {a b : Bool} (h : Q (.bl (!(a == b))) H) : rNe (.bl a) (.bl b) H Q := ⟨rfl, by rw [eq_dbl]; exact h⟩
theorem r_eqS {a b : Str} (h : Q (.bl (decide (a = b))) H) : rEq (.str a) (.str b) H Q := ⟨rfl, by rw [eq_dstr]; exact h⟩
theorem r_neS {a b : Str} (h : Q (.bl (!decide (a = b))) H) : rNe (.str a) (.str b) H Q := ⟨rfl, by rw [eq_dstr]; exact h⟩
theorem r_ixL {p : Addr} {xs : List V} (h1 : SqL K H p xs) (h2 : atI xs i = some v) (h : Q v H) : rIxL K (.ref p) (.int i) H Q := ⟨p, xs, i, v, rfl, rfl, h1, h2, h⟩
theorem r_ixT {p : Addr} {xs : List V} (h1 : SqT K H p xs) (h2 : atI xs i = some v) (h : Q v H) : rIxT K (.ref p) (.int i) H Q := ⟨p, xs, i, v, rfl, rfl, h1, h2, h⟩
theorem r_setL {p : Addr} {xs : List V} {n : Nat} {QH : Hp → Prop} (h1 : H p = some (.lst xs)) (h2 : ixN xs.length i = some n) (h : QH (upd H p (.lst (xs.set n v)))) : rSetL (.ref p) (.int i) v H QH := ⟨p, xs, i, n, rfl, rfl, h1, h2, h⟩
theorem r_nil (h : QA [] H) : tNil σ H QA := h
theorem r_cons {tr : TA} (h : te σ H fun x H1 => tr σ H1 fun xs H2 => QA (x :: xs) H2) : tCons te tr σ H QA := h
theorem r_cb {r : List V → Hp → VK → Prop} {ts : TA} (h : ts σ H fun vs H1 => r vs H1 Q) : tCB r ts σ H Q := h
theorem r_call {sp : Sp} {dvs : List V} {E : XK} {ts : TA} (h : ts σ H fun vs H1 => sp (vs ++ dvs) H1 Q E) : tCall sp dvs E ts σ H Q := h
theorem r_lst {ts : TA} (h : ts σ H fun xs H1 => xs.length ≤ sizeLine ∧ ∀ p, H1 p = none → Q (.ref p) (upd H1 p (.lst xs))) : tLst ts σ H Q := h
theorem r_tup {ts : TA} (h : ts σ H fun xs H1 => xs.length ≤ sizeLine ∧ ∀ p, H1 p = none → Q (.ref p) (upd H1 p (.tup xs))) : tTup ts σ H Q := h
theorem r_new {n : Nat} {F : Addr → Prop} (h1 : Nat.ble n 1000 = true) (h : ∀ p, H p = none → F p) : n ≤ sizeLine ∧ ∀ p, H p = none → F p := ⟨Nat.le_of_lt (small1000 (Nat.le_of_ble_eq_true h1)), h⟩
theorem r_ite {c : Prop} [Decidable c] {A B : Prop} (h1 : c → A) (h2 : ¬ c → B) : if decide c = true then A else B := by
  by_cases e : c
  · rw [decide_eq_true e]; exact iteT (h1 e)
  · rw [decide_eq_false e]; exact iteF (h2 e)
theorem r_iten {c : Prop} [Decidable c] {A B : Prop} (h1 : ¬ c → A) (h2 : c → B) : if (!decide c) = true then A else B := by
  by_cases e : c
  · rw [decide_eq_true e]; exact iteF (h2 e)
  · rw [decide_eq_false e]; exact iteT (h1 e)
theorem r_iteb {b : Bool} {A B : Prop} (h1 : b = true → A) (h2 : b = false → B) : if b = true then A else B := by
  cases b
  · exact iteF (h2 rfl)
  · exact iteT (h1 rfl)
theorem r_itebn {b : Bool} {A B : Prop} (h1 : b = false → A) (h2 : b = true → B) : if (!b) = true then A else B := by
  cases b
  · exact iteT (h1 rfl)
  · exact iteF (h2 rfl)
theorem iteNT {A B : Prop} (h : B) : if (!true) = true then A else B := iteF h
theorem iteNF {A B : Prop} (h : A) : if (!false) = true then A else B := iteT h
/-- int(n), abs(n), len(list) by words of their own -/
def rInt1 : List V → Hp → VK → Prop := fun xs H Q => ∃ i, xs = [.int i] ∧ Q (.int i) H
def rIntB : List V → Hp → VK → Prop := fun xs H Q => ∃ k, xs = [.bl k] ∧ Q (.int (if k then 1 else 0)) H
def rAbs1 : List V → Hp → VK → Prop := fun xs H Q => ∃ i, xs = [.int i] ∧ Q (.int (if i < 0 then -i else i)) H
def rLenL (K : PySem.W.Frag) : List V → Hp → VK → Prop := fun xs H Q => ∃ p ys, xs = [.ref p] ∧ (SqL K H p ys ∨ SqT K H p ys) ∧ Q (.int ys.length) H
theorem c_int1 {X : Cx} : CallR X (.type "int") rInt1 := fun pins s σ H xs us Q I r h => call_int1 pins s σ H xs us Q I r (Or.inl h)
theorem c_intB {X : Cx} : CallR X (.type "int") rIntB := fun pins s σ H xs us Q I r h => call_int1 pins s σ H xs us Q I r (Or.inr h)
theorem c_abs {X : Cx} : CallR X (.builtin "abs") rAbs1 := call_abs
theorem c_len {X : Cx} : CallR X (.builtin "len") (rLenL X.K) := call_len_seq
theorem r_int1 (h : Q (.int i) H) : rInt1 [.int i] H Q := ⟨i, rfl, h⟩
theorem r_intB {b : Bool} (h : Q (.int (if b then 1 else 0)) H) : rIntB [.bl b] H Q := ⟨b, rfl, h⟩
theorem r_abs1 (h : Q (.int (if i < 0 then -i else i)) H) : rAbs1 [.int i] H Q := ⟨i, rfl, h⟩
theorem r_lenL {p : Addr} {xs : List V} (h1 : SqL K H p xs) (h : Q (.int xs.length) H) : rLenL K [.ref p] H Q := ⟨p, xs, rfl, .inl h1, h⟩
theorem r_lenT {p : Addr} {xs : List V} (h1 : SqT K H p xs) (h : Q (.int xs.length) H) : rLenL K [.ref p] H Q := ⟨p, xs, rfl, .inr h1, h⟩
theorem r_bm {T : String} {r : V → List V → Hp → VK → Prop} {to : TE} {ts : TA} (h : to σ H fun x H1 => tyV K T x H1 ∧ ts σ H1 fun xs H2 => r x xs H2 Q) : tBM K T r to ts σ H Q := h
theorem r_tyL {p : Addr} {xs : List V} {A : Prop} (h1 : SqL K H p xs) (h : A) : tyV K "list" (.ref p) H ∧ A := ⟨Or.inl ⟨rfl, xs, h1⟩, h⟩
theorem r_app {p : Addr} {xs : List V} (h1 : H p = some (.lst xs)) (h2 : xs.length < sizeLine) (h : Q .non (upd H p (.lst (xs ++ [v])))) : rAppend (.ref p) [v] H Q := ⟨p, xs, v, rfl, rfl, h1, h2, h⟩
theorem r_isi {x c : V} {tv uv : Value} {b : Bool} (h1 : ClsV c uv) (h2 : TyX K H x tv) (h3 : PySem.W.kitOne K tv uv = some b) (h : Q (.bl b) H) : rIsi K [x, c] H Q := ⟨x, c, tv, uv, b, rfl, h1, h2, h3, h⟩
end
theorem bit_ok {b : Bool} : -(2 ^ 64) < (if b then (1 : Int) else 0) ∧ (if b then (1 : Int) else 0) < 2 ^ 64 := by cases b <;> decide
def kAt (ns : List Int) (i : Nat) : Int := ns.getD i 0
theorem ati_n {ns : List Int} {j : Nat} (h : j < ns.length) : atI (ns.map V.int) (j : Int) = some (.int (kAt ns j)) := atI_nat (by
  rw [List.getElem?_map, List.getElem?_eq_getElem h]
  show some (V.int ns[j]) = _
  rw [kAt, List.getD_eq_getElem?_getD, List.getElem?_eq_getElem h]
  rfl)
theorem ati_int {ns : List Int} {i : Int} (h0 : 0 ≤ i) (h1 : i < ns.length) : atI (ns.map V.int) i = some (.int (kAt ns i.toNat)) := by
  have e := ati_n (ns := ns) (j := i.toNat) (by omega)
  rw [Int.toNat_of_nonneg h0] at e
  exact e
theorem ati_last {ns : List Int} (h : 0 < ns.length) : atI (ns.map V.int) (-1) = some (.int (kAt ns (ns.length - 1))) := by
  unfold atI ixN
  rw [if_neg (by decide), if_pos (by rw [List.length_map]; omega), List.length_map]
  show (ns.map V.int)[((-1 : Int) + ns.length).toNat]? = _
  rw [show ((-1 : Int) + ns.length).toNat = ns.length - 1 by omega, List.getElem?_map, List.getElem?_eq_getElem (by omega)]
  rw [kAt, List.getD_eq_getElem?_getD, List.getElem?_eq_getElem (by omega)]
  rfl
theorem ixn_in {n : Nat} {i : Int} (h0 : 0 ≤ i) (h1 : i < n) : ixN n i = some i.toNat := by
  unfold ixN
  rw [if_pos h0, if_pos h1]
theorem same_new {H : Hp} {p : Addr} {o : HO} (h : H p = none) : Same H (upd H p o) := fun b x e => by
  rw [upd_ne (ne_of_none e h)]
  exact e
theorem nox_K {CX : CXT} {P : Program} {w : World} {K : PySem.W.Frag} {mg : Str → Option Value} {base : Heap} {N : List Str} {qual : Str} {sc : Scope} {f : Addr} {cd : Value} {A : Around} {outer : List Env} {s : Shared} {H : Hp} {E : XK} : (cxOf CX P w K mg base N qual sc f cd A outer s H E).nox.K = K := rfl
theorem cx_K {CX : CXT} {P : Program} {w : World} {K : PySem.W.Frag} {mg : Str → Option Value} {base : Heap} {N : List Str} {qual : Str} {sc : Scope} {f : Addr} {cd : Value} {A : Around} {outer : List Env} {s : Shared} {H : Hp} {E : XK} : (cxOf CX P w K mg base N qual sc f cd A outer s H E).K = K := rfl
section
variable {H : Hp} {Q : VK} {i j : Int} {K : PySem.W.Frag}
/-- % and // and * that hand on a letter -/
theorem r_mod (c : 0 < j) (h : ∀ k : Int, 0 ≤ k → k < j → k = i % j → Q (.int k) H) : rI (fun _ j => 0 < j) (fun i j => .int (i % j)) (.int i) (.int j) H Q :=
  ⟨i, j, rfl, rfl, c, h _ (Int.emod_nonneg _ (by omega)) (Int.emod_lt_of_pos _ c) rfl⟩
theorem r_fdiv (c : 0 < j) (c2 : j < 2 ^ 200) (h : ∀ k : Int, (0 ≤ i → 0 ≤ k) → k = i / j → Q (.int k) H) : rI CDivW (fun i j => .int (i / j)) (.int i) (.int j) H Q :=
  ⟨i, j, rfl, rfl, wide_div (b := 201) c (by omega) (by decide) (by decide), h _ (fun z => Int.ediv_nonneg z (by omega)) rfl⟩
theorem r_mul (c : CMul i j) (h : ∀ k : Int, k = i * j → Q (.int k) H) : rI CMul (fun i j => .int (i * j)) (.int i) (.int j) H Q := ⟨i, j, rfl, rfl, c, h _ rfl⟩
theorem r_lenI {p : Addr} {ns : List Int} (h1 : H p = some (.lst (ns.map V.int))) (h : Q (.int ns.length) H) : rLenL K [.ref p] H Q := ⟨p, _, rfl, .inl (.inl (.inl h1)), by rw [List.length_map]; exact h⟩
end
theorem bl_to {a b : Bool} {Q : VK} {H : Hp} (q : Q (.bl b) H) (e : a = b) : Q (.bl a) H := e ▸ q
/-! ### comprehensions by words of their own -/
def lcGo (J : It) (g : TG) (tt : TT) (te : TE) (vs : List Nat) (σ : L2.St) (Q : VK) (H1 : Hp) : Prop :=
  ∀ D, H1 D = none → ∃ W : Nat → Nat → Hp → Prop, (∃ m, W 0 m (upd H1 D (.lst []))) ∧
    ∀ i m H, W i m H → (J.stop i H ∧ Q (.ref D) H) ∨
      (J.go i H ∧ ∃ Nx : Hp → Prop, (∀ H', Nx H' → ∃ m', m' < m ∧ W (i + 1) m' H') ∧
        ∀ x H', J.yld i H x H' → g x (wipe σ vs) H' fun σ2 H2 => wipe σ2 vs = wipe σ vs ∧ tt σ2 H2 fun b H3 =>
          if b = true then te σ2 H3 fun y H4 => ∃ acc, H4 D = some (.lst acc) ∧ acc.length < sizeLine ∧ Nx (upd H4 D (.lst (acc ++ [y]))) else Nx H3)
section
variable {σ : L2.St} {H : Hp} {Q : VK} {te tl : TE} {K : PySem.W.Frag} {a : Addr} {xs : List V}
theorem r_lc {wi : TI} {g : TG} {tt : TT} {vs : List Nat} (h : wi σ H fun J H1 => lcGo J g tt te vs σ Q H1) : tLc wi g tt te vs σ H Q := h
theorem r_il {R : It → Hp → Prop} (h : tl σ H fun x H1 => ∃ a, x = .ref a ∧ (∃ xs, SqL K H1 a xs) ∧ R (Itl K a) H1) : iList K tl σ H R := h
theorem r_it {R : It → Hp → Prop} (h : tl σ H fun x H1 => ∃ a, x = .ref a ∧ (∃ xs, SqT K H1 a xs) ∧ R (Itt K a) H1) : iTup K tl σ H R := h
theorem r_itl {F : Addr → Prop} (hS : SqL K H a xs) (h : F a) : ∃ b, V.ref a = .ref b ∧ (∃ xs, SqL K H b xs) ∧ F b := ⟨a, rfl, ⟨xs, hS⟩, h⟩
theorem r_itt {F : Addr → Prop} (hS : SqT K H a xs) (h : F a) : ∃ b, V.ref a = .ref b ∧ (∃ xs, SqT K H b xs) ∧ F b := ⟨a, rfl, ⟨xs, hS⟩, h⟩
theorem r_rng1 {ta : TA} {R : It → Hp → Prop} (h : ta σ H fun vs H1 => ∃ j : Int, vs = [.int j] ∧ -(2 ^ 62) ≤ j ∧ j < 2 ^ 62 ∧ R (Itr 0 j.toNat) H1) : iRng1 ta σ H R := h
theorem r_rng2 {ta : TA} {R : It → Hp → Prop} (h : ta σ H fun vs H1 => ∃ i j : Int, vs = [.int i, .int j] ∧ (-(2 ^ 62) ≤ i ∧ i < 2 ^ 62 ∧ -(2 ^ 62) ≤ j ∧ j < 2 ^ 62) ∧ R (Itr i (j - i).toNat) H1) : iRng2 ta σ H R := h
theorem r_upto {j : Int} {F : Int → Prop} (h1 : -1000000 ≤ j) (h2 : j ≤ 1000000) (h : F j) : ∃ k : Int, [V.int j] = [.int k] ∧ -(2 ^ 62) ≤ k ∧ k < 2 ^ 62 ∧ F k := ⟨j, rfl, by omega, by omega, h⟩
theorem r_from {i j : Int} {F : Int → Int → Prop} (h0 : -1000000 ≤ i ∧ i ≤ 1000000) (h1 : -1000000 ≤ j ∧ j ≤ 1000000) (h : F i j) : ∃ i' j' : Int, [V.int i, V.int j] = [.int i', .int j'] ∧ (-(2 ^ 62) ≤ i' ∧ i' < 2 ^ 62 ∧ -(2 ^ 62) ≤ j' ∧ j' < 2 ^ 62) ∧ F i' j' := ⟨i, j, rfl, by omega, h⟩
theorem r_for {wi : TI} {g : TG} {tb : TS} {D : Ends} (h : wi σ H fun J H1 => ∃ W : Nat → Nat → L2.St → Hp → Prop, (∃ m, W 0 m σ H1) ∧ ∀ i m σ H, W i m σ H →
      (J.stop i H ∧ D.nx σ H) ∨ (J.go i H ∧ ∃ N : L2.St → Hp → Prop, (∀ σ' H', N σ' H' → ∃ m', m' < m ∧ W (i + 1) m' σ' H') ∧
        ∀ x H', J.yld i H x H' → g x σ H' fun σ2 H2 => tb { D with nx := N, ct := N, bk := D.nx } σ2 H2)) : tFor wi g tb D σ H := h
theorem wipe1 {n : Nat} {x : V} : wipe ((wipe σ [n]).set n (some x)) [n] = wipe σ [n] := by
  show ((σ.set n none).set n (some x)).set n none = σ.set n none
  rw [List.set_set, List.set_set]
/-- [e for x in xs], e a value by a function of x, the heap only grows aside -/
theorem lc_map {n : Nat} (f : V → V) (hS : SqL K H a xs) (hz : xs.length ≤ 1000) (he : ∀ (x : V) (H' : Hp) (QQ : VK), x ∈ xs → Same H H' → QQ (f x) H' → te ((wipe σ [n]).set n (some x)) H' QQ)
    (hq : ∀ D, H D = none → Q (.ref D) (upd H D (.lst (xs.map f)))) : lcGo (Itl K a) (gName n) tYes te [n] σ Q H := by
  intro D hD
  refine lc_list (K := K) (a := a) (xs := xs) (fun i H' => H' = upd H D (.lst ((xs.take i).map f))) rfl (fun i H' _ e => by subst e; exact (same_new hD).seq hS) ?_ ?_
  · rintro i x H' hx rfl
    refine ⟨wipe1, ?_⟩
    show te _ _ _
    refine he x _ _ (List.mem_of_getElem? hx) (same_new hD) ⟨(xs.take i).map f, upd_same, ?_, ?_⟩
    · rw [List.length_map, List.length_take]
      exact small1000 (by omega)
    · rw [upd_upd, List.take_add_one, hx, List.map_append]
      rfl
  · rintro H' rfl
    rw [List.take_length]
    exact hq D hD
end
section
variable {σ : L2.St} {H : Hp} {Q : VK} {te : TE} {K : PySem.W.Frag} {QO : Option Int → Hp → Prop}
theorem r_sl {r : V → Option Int → Option Int → Hp → VK → Prop} {tl th : TO} (h : te σ H fun x H1 => tl σ H1 fun l H2 => th σ H2 fun u H3 => r x l u H3 Q) : tSl r te tl th σ H Q := h
theorem r_np (h : QO none H) : tNoPart σ H QO := h
theorem r_pt (h : te σ H fun x H1 => ∃ i, x = .int i ∧ QO (some i) H1) : tPart te σ H QO := h
theorem r_pti {i : Int} {F : Int → Prop} (h : F i) : ∃ k, V.int i = .int k ∧ F k := ⟨i, rfl, h⟩
theorem r_slL {a : Addr} {xs : List V} {lo hi : Option Int} (hS : SqL K H a xs) (h : ∀ p, H p = none → Q (.ref p) (upd H p (.lst (cutV xs lo hi)))) : rSlL K (.ref a) lo hi H Q := ⟨a, xs, rfl, hS, h⟩
end
theorem cut_none {xs : List V} {n : Nat} (h : xs.length ≤ n) : cutV xs none (some (n : Int)) = xs := by
  unfold cutV
  rw [HT.sIx_none, show HT.sIx xs.length xs.length (some (n : Int)) = min n xs.length from HT.sIx_nat xs.length xs.length n]
  rw [List.drop_zero, Nat.sub_zero, Nat.min_eq_right h, List.take_length]
/-! ### the draws of a script -/
structure Drw (H : Hp) (d c r : Addr) : Prop where
  dc : d ≠ c
  dr : d ≠ r
  cr : c ≠ r
  ex : ∃ (ns rs : List Int) (t : Int), H d = some (.lst [.ref c, .ref r, .int t]) ∧ H c = some (.lst (ns.map V.int)) ∧ H r = some (.lst (rs.map V.int)) ∧ ns.length = rs.length ∧ 0 < ns.length ∧ 0 ≤ t ∧ ∀ x ∈ rs, 0 ≤ x
def Ext (d r : Addr) (H H' : Hp) : Prop := ∀ b o, H b = some o → b ≠ d → b ≠ r → H' b = some o
theorem Ext.refl {d r : Addr} {H : Hp} : Ext d r H H := fun _ _ e _ _ => e
theorem Ext.trans {d r : Addr} {H H1 H2 : Hp} (a : Ext d r H H1) (b : Ext d r H1 H2) : Ext d r H H2 := fun x o e n1 n2 => b x o (a x o e n1 n2) n1 n2
theorem Ext.of {d r : Addr} {H H' : Hp} (s : Same H H') : Ext d r H H' := fun b o e _ _ => s b o e
theorem Drw.same {H H' : Hp} {d c r : Addr} (D : Drw H d c r) (s : Same H H') : Drw H' d c r := by
  obtain ⟨dc, dr, cr, ns, rs, t, h1, h2, h3, h⟩ := D
  exact ⟨dc, dr, cr, ns, rs, t, s _ _ h1, s _ _ h2, s _ _ h3, h⟩
theorem Drw.new {H : Hp} {d c r p : Addr} {o : HO} (D : Drw H d c r) (h : H p = none) : Drw (upd H p o) d c r := D.same (same_new h)
theorem Drw.ned {H : Hp} {d c r p : Addr} (D : Drw H d c r) (h : H p = none) : p ≠ d := by
  obtain ⟨_, _, _, _, _, _, h1, _⟩ := D
  exact (ne_of_none h1 h).symm
theorem Drw.ner {H : Hp} {d c r p : Addr} (D : Drw H d c r) (h : H p = none) : p ≠ r := by
  obtain ⟨_, _, _, _, _, _, _, _, h1, _⟩ := D
  exact (ne_of_none h1 h).symm
theorem Drw.nec {H : Hp} {d c r p : Addr} (D : Drw H d c r) (h : H p = none) : p ≠ c := by
  obtain ⟨_, _, _, _, _, _, _, h1, _⟩ := D
  exact (ne_of_none h1 h).symm
theorem getD_left {xs : List Int} {y : Int} {i : Nat} (h : i < xs.length) : (xs ++ [y]).getD i 0 = xs.getD i 0 := by
  rw [List.getD_eq_getElem?_getD, List.getD_eq_getElem?_getD, List.getElem?_append_left h]
theorem getD_end {xs : List Int} {y : Int} : (xs ++ [y]).getD xs.length 0 = y := by
  rw [List.getD_eq_getElem?_getD, List.getElem?_append_right (Nat.le_refl _), Nat.sub_self]
  rfl
theorem Drw.back {H H' : Hp} {d c r p : Addr} (D : Drw H d c r) (e : Ext d r H H') (h : H' p = none) (D' : Drw H' d c r := by assumption) : H p = none := by
  cases q : H p with
  | none => rfl
  | some o =>
    have z := e p o q (D'.ned h) (D'.ner h)
    rw [h] at z
    cases z
theorem Drw.put {H : Hp} {d c r p : Addr} {o : HO} (D : Drw H d c r) (h1 : p ≠ d) (h2 : p ≠ r) (h3 : p ≠ c) : Drw (upd H p o) d c r := by
  obtain ⟨dc, dr, cr, ns, rs, t, g1, g2, g3, h⟩ := D
  exact ⟨dc, dr, cr, ns, rs, t, (upd_ne h1.symm).trans g1, (upd_ne h3.symm).trans g2, (upd_ne h2.symm).trans g3, h⟩
def spDraw : Sp := fun vs H Q _ => ∃ (d c r : Addr) (m : Int), vs = [.ref d, .int m] ∧ Drw H d c r ∧ 0 < m ∧ m < 2 ^ 200 ∧ ∀ (k : Int) (H' : Hp), 0 ≤ k → k < m → Drw H' d c r → Ext d r H H' → Q (.int k) H'
def spBegin (K : PySem.W.Frag) : Sp := fun vs H Q _ => ∃ (a : Addr) (ns : List Int), vs = [.ref a] ∧ SqL K H a (ns.map V.int) ∧ ns.length ≤ 63 ∧
  ∀ (d c r : Addr) (H' : Hp), Drw H' d c r → Same H H' → H d = none → H c = none → H r = none → Q (.ref d) H'
def restOf (v : V) : V := match v with
  | .int x => .int ((if x < 0 then -x else x) * (if decide ((10 : Int) ^ 18 ≤ (if x < 0 then -x else x)) then 1 else 0))
  | w => w
def restI (x : Int) : Int := (if x < 0 then -x else x) * (if decide ((10 : Int) ^ 18 ≤ (if x < 0 then -x else x)) then 1 else 0)
theorem rest_map (ns : List Int) : (ns.map V.int).map restOf = (ns.map restI).map V.int := by
  rw [List.map_map, List.map_map]
  rfl
theorem rest_nn (x : Int) : 0 ≤ restI x := by
  unfold restI
  refine Int.mul_nonneg ?_ ?_
  · split <;> omega
  · split <;> omega
/-! ### calls by keywords alone -/
section
variable {X : Cx} {CX : CXT} {k : Nat} {f : Addr} {fd : FuncData} {ps ks : List Str} {sp : Sp} {E : XK} {x : Str} {p pos : Pos} {kws : List Keyword} {tk : TA} {g : List Value → List Value → List Value} {gV : List V → List V → List V}
theorem pe_callN0 (F : FnOk X.prog X.w X.K X.mg X.base CX k f fd ps sp) (hr : Room k X.A) (hg : Gl X x) (hm : X.mg x = some (.ref f)) (hk : PySem.W.keepIn X.K (.ref f) = true) (hb : KBn X.K fd ps 0 ks g gV) (hx : Passes CX X E) (hkw : PK X kws tk)
    (hall : (backToKw pos (keywordEach kws X.env)).all (fun q => q.1.isSome) = true := by rfl) (hks : (backToKw pos (keywordEach kws X.env)).filterMap (fun q => q.1) = ks := by rfl) (hdb : (x == ("__debug__" : Str)) = false := by decide)
    (hpl : ((backTo pos (starEach [] X.env)).any (fun q => q.1) || (backToKw pos (keywordEach kws X.env)).any (fun q => q.1.isNone)) = false := by rfl) :
    PE X (.Call (.Name x p) [] kws pos) (tCallN 0 ks.length sp gV E tNil tk) := by
  refine ⟨fun pins s σ H Q I h => wpAny_Call_Name_kw (ld_glob I hg hm ?_ hdb)⟩
  refine PySem.W.callWith_KW0 (h₀ := X.base) I.ok.mod.kin hk hall (thn (hkw.run pos pins s σ H _ I h) fun ws s2 hh => ?_) hpl
  obtain ⟨zs, H2, I2, rz, l1, l2, q2⟩ := hh
  refine ⟨I2.kIn, ?_⟩
  rw [hks]
  exact run_fnN (us := []) (vs := []) F hr hb hx I2 .nil rz rfl l2 q2
theorem r_callN {n m : Nat} {ts : TA} {σ : L2.St} {H : Hp} {Q : VK} (h : ts σ H fun vs H1 => tk σ H1 fun zs H2 => vs.length = n ∧ zs.length = m ∧ sp (gV vs zs) H2 Q E) : tCallN n m sp gV E ts tk σ H Q := h
end
theorem kb_mk {K : PySem.W.Frag} {x qual : Str} {st : Stmt} {f : Addr} {fd : FuncData} {ps ks : List Str} {g : List Value → List Value → List Value} {gV : List V → List V → List V} (F : Fun K x qual st f fd)
    (h : ∀ (kV doc pm : Value) (an : Option Addr) (cdv ct : Value) (ws : List Value), ws.length = ks.length → bindArgs (PySem.W.fnOf x qual (defArgs st) (defBody st) (defScope st) .none kV doc pm an cdv ct) ⟨[], ks.zip ws⟩ = pure (ps.zip (g [] ws)))
    (hrel : ∀ {vs : List V} {us : List Value} {zs : List V} {ws : List Value}, Vals vs us → Vals zs ws → Vals (gV vs zs) (g us ws)) : KBn K fd ps 0 ks g gV := by
  obtain ⟨oc, od, kV, doc, pm, an, cdv, ct, osl, rfl, lk, hcd⟩ := F.ex
  refine ⟨fun s us ws _ l1 l2 => ?_, hrel⟩
  have e : us = [] := List.length_eq_zero_iff.mp l1
  subst e
  exact .of_eq (h kV doc pm an cdv ct ws l2)
section
variable {σ : L2.St} {H : Hp} {D : Ends} {ta : TA}
theorem r_par {i j : Nat} (h : ta σ H fun vs H1 => ∃ v w, vs = [v, w] ∧ D.nx ((σ.set i (some v)).set j (some w)) H1) : tPar i j ta D σ H := h
theorem r_par3 {i j l : Nat} (h : ta σ H fun vs H1 => ∃ u v w, vs = [u, v, w] ∧ D.nx (((σ.set i (some u)).set j (some v)).set l (some w)) H1) : tPar3 i j l ta D σ H := h
theorem r_two {a b : V} {F : V → V → Prop} (h : F a b) : ∃ v w, [a, b] = [v, w] ∧ F v w := ⟨a, b, rfl, h⟩
theorem r_three {a b c : V} {F : V → V → V → Prop} (h : F a b c) : ∃ u v w, [a, b, c] = [u, v, w] ∧ F u v w := ⟨a, b, c, rfl, h⟩
end
/-- [e for x in range(..)], e draws -/
theorem lc_draws {σ : L2.St} {H : Hp} {Q : VK} {te : TE} {n m : Nat} {lo : Int} {d c r : Addr} {P : Int → Prop} (hm : m ≤ 1000) (D0 : Drw H d c r)
    (he : ∀ (i : Nat) (H' : Hp) (QQ : VK), i < m → Drw H' d c r → Ext d r H H' → (∀ (k : Int) (H'' : Hp), P k → Drw H'' d c r → Ext d r H' H'' → QQ (.int k) H'') → te ((wipe σ [n]).set n (some (.int (lo + i)))) H' QQ)
    (hq : ∀ (l : Addr) (ss : List Int) (H' : Hp), ss.length = m → (∀ x ∈ ss, P x) → H l = none → H' l = some (.lst (ss.map V.int)) → Drw H' d c r → Ext d r H H' → Q (.ref l) H') : lcGo (Itr lo m) (gName n) tYes te [n] σ Q H := by
  intro l nl
  have ld := D0.ned nl
  have lr := D0.ner nl
  have lc := D0.nec nl
  refine lc_range (fun i H' => ∃ ss : List Int, ss.length = i ∧ (∀ x ∈ ss, P x) ∧ H' l = some (.lst (ss.map V.int)) ∧ Drw H' d c r ∧ Ext d r H H') ⟨[], rfl, fun x hx => (nomatch hx), upd_same, D0.new nl, Ext.of (same_new nl)⟩ ?_ ?_
  · rintro i H' hi ⟨ss, hl, hp, hs, D1, E1⟩
    refine ⟨wipe1, ?_⟩
    show te _ _ _
    refine he i H' _ hi D1 E1 fun k H'' hk D2 E2 => ⟨ss.map V.int, E2 _ _ hs ld lr, ?_, ?_⟩
    · rw [List.length_map]
      exact small1000 (by omega)
    · refine ⟨ss ++ [k], by rw [List.length_append, hl]; rfl, fun x hx => ?_, by rw [upd_same, List.map_append]; rfl, D2.put ld lr lc, fun b o e n1 n2 => ?_⟩
      · rcases List.mem_append.mp hx with z | z
        · exact hp x z
        · rw [List.mem_singleton.mp z]; exact hk
      · rw [upd_ne (ne_of_none e nl)]
        exact E2 b o (E1 b o e n1 n2) n1 n2
  · rintro H' ⟨ss, hl, hp, hs, D1, E1⟩
    exact hq l ss H' hl hp nl hs D1 E1
section
variable {σ : L2.St} {H : Hp} {D : Ends} {te : TE} {Q : VK}
theorem r_aug {i : Nat} {ti : TIp} {x : V} (e : σ[i]? = some (some x)) (h : te σ H fun y H1 => ti x y H1 fun z H2 => D.nx (σ.set i (some z)) H2) : tAug i te ti D σ H := ⟨x, e, h⟩
theorem r_ext2 {l b : Addr} {xs zs : List V} (h1 : H l = some (.lst xs)) (h2 : H b = some (.lst zs)) (hz : xs.length + zs.length ≤ 1000) (h : Q (.ref l) (upd H l (.lst (xs ++ zs)))) : rExt2 (.ref l) (.ref b) H Q := ⟨l, b, xs, zs, rfl, rfl, h1, h2, Nat.le_of_lt (small1000 hz), h⟩
theorem r_ipI {f : Int → Int → Int} {i j : Int} (h : Q (.int (f i j)) H) : ipI f (.int i) (.int j) H Q := ⟨i, j, rfl, rfl, h⟩
end
/-! ### operators of own classes: by the class's own def -/
section
open PySem.W
variable {prog : Program} {w : World} {A : Around} {E : Value → Shared → Prop} {s : Shared} {K : PySem.W.Frag} {x C f : Addr} {ox : Obj} {od : Option Obj} {b tb : Value}
theorem check_obj {M : Model} {rest : List Value} {Q : Unit → Shared → Prop} (X : K.In s.heap) (I : InstAt s.heap x ox C od) (hob : subIn K (.ref C) (.type "object") = some true) (ha : argsOk "object.__ne__" ⟨.ref x :: rest, []⟩) (hq : Q () s) :
    wpAny M A (checkBuiltinCall "object.__ne__" ⟨.ref x :: rest, []⟩) Q E s := by
  simp only [checkBuiltinCall, F.cmpKind_ne, F.cmpSplit_ne]
  refine wpAny_bind ?_
  unfold isInstance
  refine wpAny_bind (I.type.here ((looks_subIn X hob).here ?_))
  simp only [Bool.not_true, Bool.false_eq_true, if_false]
  cases hsig : Manifest.signature? "object.__ne__" with
  | none => exact wpAny_pure hq
  | some sig =>
    simp only [argsOk, hsig] at ha
    show wpAny M A (Bind.checkArgs "object.__ne__" sig ⟨.ref x :: rest, []⟩) Q E _
    rw [show Bind.checkArgs "object.__ne__" sig ⟨.ref x :: rest, []⟩ = pure () from ha]
    exact wpAny_pure hq
theorem bound_ne {M : Model} {args : List Value} {Q : Option Value → Shared → Prop} (X : K.In s.heap) (I : InstAt s.heap x ox C od) (hs : findIn K (.ref C) "__ne__" = some (some (.builtin "object.__ne__")))
    (h : wpAny M A (call (.builtin "object.__ne__") (.ref x :: args)) (fun v => Q (some v)) E s) : wpAny M A (callSpecialIfBound? (.ref x) "__ne__" args) Q E s := by
  simp only [callSpecialIfBound?, bindSpecialIfBound?]
  have hb : bindSpecial (.builtin "object.__ne__") (.ref x) = pure (.builtin "object.__ne__", [.ref x]) := F.cmp_object.ne.bind _
  have fin : wpAny M A (call (.builtin "object.__ne__") ([.ref x] ++ args) >>= fun v => pure (some v)) Q E s := wpAny_bind (wpAny_mono h (fun v s' h' => wpAny_pure h') fun _ _ h' => h')
  refine wpAny_holding (wpAny_bind (wpAny_bind (wpAny_bind (I.type.here ((looks_findIn X hs).here ?_)))))
  refine wpAny_bind (wpAny_askSetting (wpAny_ite ?_))
  rw [hb]
  split
  · exact wpAny_bind (wpAny_pure (wpAny_pure (by exact fin)))
  · exact wpAny_tryCatch (wpAny_bind (wpAny_pure (wpAny_pure (by exact fin))))
theorem ne_own {Q : Value → Shared → Prop} (hu : A.units + 1 < cLine) (X : K.In s.heap) (I : InstAt s.heap x ox C od) (hb : Looks (model prog w) s.heap (typeOf b) tb) (hn : notFirst K C tb = true)
    (hne : findIn K (.ref C) "__ne__" = some (some (.builtin "object.__ne__"))) (hob : subIn K (.ref C) (.type "object") = some true) (hs : findIn K (.ref C) "__eq__" = some (some (.ref f))) (hf : isFn K (.ref f) = true)
    (h : wpAny (model prog w) A.in1 (call (.ref f) [.ref x, b]) (fun v s' => ∃ k, v = .bool k ∧ Q (.bool (!k)) s') E s) : wpAny (model prog w) A (richCompare .NotEq (.ref x) b) Q E s := by
  have one : wpAny (model prog w) A (tryCompare (.ref x) (cmpInfo .NotEq).2.1 b) (fun r s' => ∃ v, r = some v ∧ Q v s') E s := by
    unfold tryCompare
    refine wpAny_bind (bound_ne X I hne (wpAny_call (codeAny_call_builtin F.cmp_object.ne.plain F.cmpEntry_ne (check_obj X I hob (F.cmpArgs_ne _ _) ?_))))
    unfold Builtin.«object.__ne__»
    repeat (first
      | with_reducible refine wpAny_cRoomFor hu ?_
      | (refine wpAny_bind (m := callSpecialIfBound? (.ref x) (Str.ofString "__eq__") [b])
          (ifBound_K X I hs hf (wpAny_mono h (fun r s' hr => by
            obtain ⟨k, rfl, hq⟩ := hr
            repeat (first | exact wpAny_pure ⟨_, rfl, hq⟩ | (refine wpAny_bind (m := truthy (.bool _)) (wpAny_truthy_bool ?_)) | wp_step)) fun _ _ e => e)))
      | wp_step)
  unfold richCompare
  simp only [oneThing_ref]
  refine wpAny_holding (wpAny_bind (wpAny_cRoomFor (Nat.lt_of_succ_lt hu) ?_))
  refine wpAny_bind (I.type.here (wpAny_bind (hb.here ?_)))
  split
  · rename_i q
    have e : subIn K tb (.ref C) = some false := by
      rcases Bool.or_eq_true_iff.mp hn with e | e
      · rw [beq_iff_eq.mp e] at q; simp at q
      · exact beq_iff_eq.mp e
    refine wpAny_bind ((looks_subIn X e).here ?_)
    simp only [Bool.false_eq_true, if_false]
    refine wpAny_bind (wpAny_mono one (fun r s' z => ?_) fun _ _ e => e)
    obtain ⟨v, rfl, hq⟩ := z
    exact wpAny_pure hq
  · refine wpAny_bind (wpAny_pure ?_)
    simp only [Bool.false_eq_true, if_false]
    refine wpAny_bind (wpAny_mono one (fun r s' z => ?_) fun _ _ e => e)
    obtain ⟨v, rfl, hq⟩ := z
    exact wpAny_pure hq
theorem neg_own {M : Model} {Q : Value → Shared → Prop} (X : K.In s.heap) (I : InstAt s.heap x ox C od) (hs : findIn K (.ref C) "__neg__" = some (some (.ref f))) (hf : isFn K (.ref f) = true)
    (h : wpAny M A (call (.ref f) [.ref x]) Q E s) : wpAny M A (unaryOp .USub (.ref x)) Q E s := by
  unfold unaryOp
  refine wpAny_holding ?_
  dsimp only
  rw [if_neg (by decide)]
  exact wpAny_bind (special_fn X I hs (beq_iff_eq.mp hf) (wpAny_mono h (fun _ _ z => wpAny_pure z) fun _ _ z => z))
end
section
variable {X : Cx} {CX : CXT} {k : Nat} {g C : Addr} {fd : FuncData} {ps : List Str} {sp : Sp} {E : XK}
theorem cmpb {P : Value → Shared → Prop} {z : V} {v : Value} {s' : Shared} (r : RelV z v) (h : P v s') : PySem.W.CmpBack P v s' := by
  cases z with
  | non => cases (show v = Value.none from r); exact h
  | bl b => cases (show v = Value.bool b from r); exact h
  | int i => obtain ⟨t, rfl⟩ := (show ∃ t, v = Value.int i t from r); exact h
  | str x => obtain ⟨t, rfl⟩ := (show ∃ t, v = Value.str x t from r); exact h
  | byt b => obtain ⟨t, rfl⟩ := (show ∃ t, v = Value.bytes b t from r); exact h
  | flt b => obtain ⟨t, rfl⟩ := (show ∃ t, v = Value.float b t from r); exact h
  | ref a => cases (show v = Value.ref a from r); exact h
  | ty n => cases (show v = Value.type n from r); exact h
/-- what an own operator of the class at C asks: the left one is an instance, the right one's type is known and not below C -/
def rCmpO (K : PySem.W.Frag) (C : Addr) (sp : Sp) (E : XK) : R2 := fun x y H Q => ∃ a dx fs t, x = .ref a ∧ H a = some (.ins C dx fs) ∧ TyX K H y t ∧ PySem.W.notFirst K C t = true ∧ sp [x, y] H Q E
def rNeO (K : PySem.W.Frag) (C : Addr) (sp : Sp) (E : XK) : R2 := fun x y H Q => ∃ a dx fs t, x = .ref a ∧ H a = some (.ins C dx fs) ∧ TyX K H y t ∧ PySem.W.notFirst K C t = true ∧ sp [x, y] H (fun v H' => ∃ b, v = .bl b ∧ Q (.bl (!b)) H') E
def rAddO (C : Addr) (sp : Sp) (E : XK) : R2 := fun x y H Q => ∃ a dx fs b dy gs, x = .ref a ∧ y = .ref b ∧ H a = some (.ins C dx fs) ∧ H b = some (.ins C dy gs) ∧ sp [x, y] H Q E
def rNegO (C : Addr) (sp : Sp) (E : XK) : V → Hp → VK → Prop := fun x H Q => ∃ a dx fs, x = .ref a ∧ H a = some (.ins C dx fs) ∧ sp [x] H Q E
theorem inst_at {pins : List (Addr × Obj)} {σ : L2.St} {H : Hp} {s : Shared} {a dx : Addr} {fs : List (Str × V)} (I : Inv X pins σ H s) (h : H a = some (.ins C dx fs)) : ∃ ox od, PySem.W.InstAt s.heap a ox C od := by
  obtain ⟨mA, O, _⟩ := ins_get I.hok h
  obtain ⟨od, J, _⟩ := O.look
  exact ⟨_, _, J⟩
theorem op_cmpO {op : CmpOp} (hop : ∀ a b, compareOp op a b = richCompare op a b) (hs : PySem.W.findIn X.K (.ref C) (cmpInfo op).2.1 = some (some (.ref g))) (hf : PySem.W.isFn X.K (.ref g) = true) (F : FnOk X.prog X.w X.K X.mg X.base CX k g fd ps sp) (hr : Room k X.A) (hb : Binds X.K fd ps []) (hx : Passes CX X E) :
    OpR X (compareOp op) (rCmpO X.K C sp E) := by
  intro pins s σ H x y v u Q I rx ry h
  obtain ⟨a, dx, fs, t, rfl, ha, ty, hn, q⟩ := h
  cases (show v = Value.ref a from rx)
  obtain ⟨ox, od, J⟩ := inst_at I ha
  obtain ⟨P, Z, p, _⟩ := kit_of I ry ty
  obtain ⟨m, hF⟩ := I.fr
  rw [hop]
  refine PySem.W.cmp_K (op := op) (tb := t) hr.units0 hF I.ok.mod.kin J (Z.ty _ _ I.kIn p) hn hs hf ?_
  refine wpAny_mono (run_fn (ds := []) (dvs := []) (vs := [.ref a, y]) F hr hb .nil hx I (.cons rfl (.cons ry .nil)) (by rw [List.append_nil]; exact q)) (fun w s' z => ?_) fun _ _ e => e
  obtain ⟨z', H', I', rz, qz⟩ := z
  exact cmpb rz ⟨z', H', I', rz, qz⟩
theorem op_eqO (hs : PySem.W.findIn X.K (.ref C) "__eq__" = some (some (.ref g))) (hf : PySem.W.isFn X.K (.ref g) = true) (F : FnOk X.prog X.w X.K X.mg X.base CX k g fd ps sp) (hr : Room k X.A) (hb : Binds X.K fd ps []) (hx : Passes CX X E) :
    OpR X (compareOp .Eq) (rCmpO X.K C sp E) := op_cmpO (fun _ _ => rfl) hs hf F hr hb hx
theorem op_neO (hs : PySem.W.findIn X.K (.ref C) "__eq__" = some (some (.ref g))) (hf : PySem.W.isFn X.K (.ref g) = true) (hne : PySem.W.findIn X.K (.ref C) "__ne__" = some (some (.builtin "object.__ne__"))) (hob : PySem.W.subIn X.K (.ref C) (.type "object") = some true)
    (F : FnOk X.prog X.w X.K X.mg X.base CX k g fd ps sp) (hr : Room (k + 1) X.A) (hb : Binds X.K fd ps []) (hx : Passes CX X E) : OpR X (compareOp .NotEq) (rNeO X.K C sp E) := by
  intro pins s σ H x y v u Q I rx ry h
  obtain ⟨a, dx, fs, t, rfl, ha, ty, hn, q⟩ := h
  cases (show v = Value.ref a from rx)
  obtain ⟨ox, od, J⟩ := inst_at I ha
  obtain ⟨P, Z, p, _⟩ := kit_of I ry ty
  have hu := hr.units
  show wpAny _ _ (richCompare .NotEq _ _) _ _ _
  refine ne_own (by omega) I.kIn J (Z.ty _ _ I.kIn p) hn hne hob hs hf ?_
  have r2 : Vals [V.ref a, y] [Value.ref a, u] := .cons rfl (.cons ry .nil)
  have hl : ([Value.ref a, u] ++ []).length = ps.length := by
    rw [List.append_nil, ← r2.length]
    exact F.len _ _ _ _ q
  refine wpAny_call (codeAny_mono (F.run X.A.in1 X.stack s H ⟨[.ref a, u], []⟩ [.ref a, u] _ _ E hr.in1 I.env0.in1 (by have z := hb s [.ref a, u] I.kIn hl; rw [List.append_nil] at z; exact z) r2 q) fun r s' hq => ?_)
  cases r with
  | error e => exact hx pins σ H s e s' I hq
  | ok fl =>
    cases fl with
    | ret z =>
      obtain ⟨v', H', I', rv, b, rfl, qz⟩ := I.after hq
      cases rv
      exact ⟨b, rfl, .bl (!b), H', I', rfl, qz⟩
    | next => exact False.elim hq
    | brk => exact False.elim hq
    | cont => exact False.elim hq
theorem op_binO {op : Operator} (hc : PySem.W.selfFirst X.K C = true) (hs : PySem.W.findIn X.K (.ref C) (PySem.dunder op.info.2) = some (some (.ref g))) (hf : PySem.W.isFn X.K (.ref g) = true) (F : FnOk X.prog X.w X.K X.mg X.base CX k g fd ps sp) (hr : Room k X.A) (hb : Binds X.K fd ps []) (hx : Passes CX X E) :
    OpR X (binaryOp op) (rAddO C sp E) := by
  intro pins s σ H x y v u Q I rx ry h
  obtain ⟨a, dx, fs, b, dy, gs, rfl, rfl, ha, hb', q⟩ := h
  cases (show v = Value.ref a from rx)
  cases (show u = Value.ref b from ry)
  obtain ⟨ox, od, J⟩ := inst_at I ha
  obtain ⟨oy, oe, J'⟩ := inst_at I hb'
  obtain ⟨m, hF⟩ := I.fr
  refine PySem.W.binop_K (op := op) hF I.ok.mod.kin J J'.type hc hs hf ?_
  refine wpAny_mono (run_fn (ds := []) (dvs := []) (vs := [.ref a, .ref b]) F hr hb .nil hx I (.cons rfl (.cons rfl .nil)) (by rw [List.append_nil]; exact q)) (fun w s' z => ?_) fun _ _ e => e
  obtain ⟨z', H', I', rz, qz⟩ := z
  exact cmpb rz ⟨z', H', I', rz, qz⟩
theorem un_negO (hs : PySem.W.findIn X.K (.ref C) "__neg__" = some (some (.ref g))) (hf : PySem.W.isFn X.K (.ref g) = true) (F : FnOk X.prog X.w X.K X.mg X.base CX k g fd ps sp) (hr : Room k X.A) (hb : Binds X.K fd ps []) (hx : Passes CX X E) :
    UnR X (unaryOp .USub) (rNegO C sp E) := by
  intro pins s σ H x v Q I rx h
  obtain ⟨a, dx, fs, rfl, ha, q⟩ := h
  cases (show v = Value.ref a from rx)
  obtain ⟨ox, od, J⟩ := inst_at I ha
  exact neg_own I.kIn J hs hf (run_fn (ds := []) (dvs := []) (vs := [.ref a]) F hr hb .nil hx I (.cons rfl .nil) (by rw [List.append_nil]; exact q))
/-- v in x, x of an own class with its own __contains__, which hands back a truth -/
def rInO (C : Addr) (sp : Sp) (E : XK) : R2 := fun x y H Q => ∃ a dx fs, y = .ref a ∧ H a = some (.ins C dx fs) ∧ sp [y, x] H (fun v H' => ∃ b, v = .bl b ∧ Q (.bl b) H') E
theorem op_inO (hs : PySem.W.findIn X.K (.ref C) "__contains__" = some (some (.ref g))) (hf : PySem.W.isFn X.K (.ref g) = true) (F : FnOk X.prog X.w X.K X.mg X.base CX k g fd ps sp) (hr : Room k X.A) (hb : Binds X.K fd ps []) (hx : Passes CX X E) :
    OpR X (compareOp .In) (rInO C sp E) := by
  intro pins s σ H x y v u Q I rx ry h
  obtain ⟨a, dx, fs, rfl, ha, q⟩ := h
  cases (show u = Value.ref a from ry)
  obtain ⟨ox, od, J⟩ := inst_at I ha
  obtain ⟨m, hF⟩ := I.fr
  refine PySem.W.in_K hF I.ok.mod.kin J hs hf (wpAny_mono (run_fn (ds := []) (dvs := []) (vs := [.ref a, x]) F hr hb .nil hx I (.cons rfl (.cons rx .nil)) (by rw [List.append_nil]; exact q)) (fun w s' z => ?_) fun _ _ e => e)
  obtain ⟨z', H', I', rz, b, rfl, qz⟩ := z
  cases rz
  exact wpAny_truthy_bool ⟨.bl b, H', I', rfl, qz⟩
end
/-! ### fields, methods, new instances -/
section
variable {σ : L2.St} {H : Hp} {Q : VK} {K : PySem.W.Frag} {te ta tv : TE} {a C dx : Addr} {fs : List (Str × V)} {f : Str} {v : V} {D : Ends}
theorem r_fld (h : ta σ H fun x H1 => ∃ a C dx fs v, x = .ref a ∧ H1 a = some (.ins C dx fs) ∧ Cls K C ∧ NoAttr K C f ∧ fs.lookup f = some v ∧ Q v H1) : tFld K ta f σ H Q := h
theorem r_get {F : V → Prop} (e : H a = some (.ins C dx fs)) (c : Cls K C) (n : NoAttr K C f) (l : fs.lookup f = some v) (h : F v) : ∃ a' C dx fs v, V.ref a = .ref a' ∧ H a' = some (.ins C dx fs) ∧ Cls K C ∧ NoAttr K C f ∧ fs.lookup f = some v ∧ F v := ⟨a, C, dx, fs, v, rfl, e, c, n, l, h⟩
theorem r_sfld (h : tv σ H fun y H1 => ta σ H1 fun x H2 => ∃ a C dx fs, x = .ref a ∧ H2 a = some (.ins C dx fs) ∧ Cls K C ∧ NoAttr K C f ∧ fs.length < 1000 ∧ D.nx σ (upd H2 a (.ins C dx (putF f y fs)))) : sFld K ta tv f D σ H := h
theorem r_put {F : Hp → Prop} {y : V} (e : H a = some (.ins C dx fs)) (c : Cls K C) (n : NoAttr K C f) (l : fs.length < 1000) (h : F (upd H a (.ins C dx (putF f y fs)))) : ∃ a' C dx fs, V.ref a = .ref a' ∧ H a' = some (.ins C dx fs) ∧ Cls K C ∧ NoAttr K C f ∧ fs.length < 1000 ∧ F (upd H a' (.ins C dx (putF f y fs))) := ⟨a, C, dx, fs, rfl, e, c, n, l, h⟩
theorem r_meth {m : Str} {sp : Sp} {dvs : List V} {E : XK} {ts : TA} (h : ta σ H fun x H1 => ∃ a dx fs, x = .ref a ∧ H1 a = some (.ins C dx fs) ∧ fs.lookup m = none ∧ ts σ H1 fun vs H2 => sp (x :: (vs ++ dvs)) H2 Q E) : tMeth C m sp dvs E ta ts σ H Q := h
theorem r_who {m : Str} {A : Prop} (e : H a = some (.ins C dx fs)) (l : fs.lookup m = none) (h : A) : ∃ a' dx fs, V.ref a = .ref a' ∧ H a' = some (.ins C dx fs) ∧ fs.lookup m = none ∧ A := ⟨a, dx, fs, rfl, e, l, h⟩
theorem r_make {sp : Sp} {dvs : List V} {E : XK} {ts : TA} (h : ts σ H fun vs H1 => ∀ x dx, H1 x = none → H1 dx = none → dx ≠ x → sp (.ref x :: (vs ++ dvs)) (upd (upd H1 dx (.own x)) x (.ins C dx [])) (fun v H2 => v = .non ∧ Q (.ref x) H2) E) : tMake C sp dvs E ts σ H Q := h
end
theorem same_make {H H' : Hp} {x dx C : Addr} (nx : H x = none) (nd : H dx = none) (s : ∀ b o, (upd (upd H dx (.own x)) x (.ins C dx [])) b = some o → b ≠ x → H' b = some o) : Same H H' := fun b o e =>
  s b o (by rw [upd_ne (ne_of_none e nx), upd_ne (ne_of_none e nd)]; exact e) (ne_of_none e nx)
/-! ### defs that may ask repr of lists and tuples: called where no repr is under way -/
structure FnG (P : Program) (w : World) (K : PySem.W.Frag) (mg : Str → Option Value) (base : Heap) (CX : CXT) (k : Nat) (f : Addr) (fd : FuncData) (ps : List Str) (sp : Sp) : Prop where
  len : ∀ vs H Q E, sp vs H Q E → vs.length = ps.length
  run : ∀ (A : Around) (outer : List Env) (s : Shared) (H : Hp) (args : Args) (us : List Value) (vs : List V) (Q : VK) (E : XK), A.guards = some [] → Room k A → Env0 P w K mg base A outer s H →
    BindsTo s fd args (ps.zip us) → Vals vs us → sp vs H Q E → codeAny (model P w) A (.call (.ref f) args) (CR CX outer P w H s Q E) s
section
variable {P : Program} {w : World} {K : PySem.W.Frag} {mg : Str → Option Value} {base : Heap}
theorem okG {x qual : Str} {st : Stmt} {f : Addr} {fd : FuncData} {N ps : List Str} {k : Nat} {sp : Sp} (F : Fun K x qual st f fd) (S : FnScope N ps (defScope st)) (len : ∀ vs H Q E, sp vs H Q E → vs.length = ps.length)
    (hbody : ∀ (cdv : Value) (A : Around) (outer : List Env) (s : Shared) (H : Hp) (vs : List V) (Q : VK) (E : XK), A.guards = some [] → Room k (A.deeper (envOfC qual (defScope st) s.heap.objs.size f cdv)) → sp vs H Q E →
      ∃ t, PSs (cxOf CX0 P w K mg base N qual (defScope st) f cdv A outer s H E).nox (defBody st) t ∧ t { nx := fun _ H' => Q .non H', rt := Q } (start N vs) H) : FnG P w K mg base CX0 (k + 1) f fd ps sp := by
  obtain ⟨oc, od, kV, doc, pm, an, cdv, ct, osl, rfl, lk, hcd⟩ := F.ex
  refine ⟨len, fun A outer s H args us vs Q E hG hr e0 hb r hsp => ?_⟩
  -- the body's reading is kept for this around alone: elsewhere the promise is not asked
  have inn : K.In s.heap := e0.mod.kin.keeps fun b o e => (e0.bs b o e).1
  have nol : s.heap.NoLimit := e0.mod.nolimit.keeps fun b o e => (e0.bs b o e).1
  have par : ∀ y ∈ ps.zip us, (defScope st).names.lookup y.1 = some .local ∨ ((defScope st).names.lookup y.1 = some .cell ∧ ((cellsFrom (s.heap.objs.size + 1) (defScope st).names []).lookup y.1).isSome = true) := by
    intro y hy
    have hm : y.1 ∈ ps := (List.of_mem_zip (show (y.1, y.2) ∈ ps.zip us from hy)).1
    exact (S.par y.1 hm).imp (fun z => z) fun z => ⟨z, PySem.W.cellsFrom_some _ _ _ (.inl z)⟩
  obtain ⟨t, ht, hq⟩ := hbody cdv A outer s H vs Q E hG (hr.deeper _) hsp
  refine codeAny_call_function hr.depth (inn _ _ lk) rfl S.co S.gen rfl (PySem.W.codeRec_of inn hcd) (hb _ _ _ _ ?_)
  refine wpAny_newFunctionEnv_cells S.kind par fun env he s1 x => ?_
  subst he
  refine ⟨nol.keeps x.toInCall.keep, codeAny_func ?_⟩
  have I := inv_start (CX := CX0) (E := E) S hr.hd e0 (len _ _ _ _ hsp) r x
  refine wpAny_mono (ht.nox.run [] s1 (start N vs) H _ I hq) (fun fl s' hs => ?_) fun e s' hs => hs
  cases fl with
  | ret u =>
    obtain ⟨v, σ', H', J, rv, q⟩ := hs
    exact ⟨v, H', J.os, J.bare, J.base, J.hok, rv, q⟩
  | next =>
    obtain ⟨σ', H', J, q⟩ := hs
    exact ⟨V.non, H', J.os, J.bare, J.base, J.hok, rfl, q⟩
  | brk => exact False.elim hs.choose_spec.choose_spec.2
  | cont => exact False.elim hs.choose_spec.choose_spec.2
theorem deeper_guards {A : Around} {env : Env} (h : A.guards = some []) : (A.deeper env).guards = some [] := h
end
section
variable {X : Cx} {CX : CXT} {k : Nat} {f : Addr} {fd : FuncData} {ps : List Str} {sp : Sp} {dvs : List V} {ds : List Value} {E : XK} {x : Str} {p pos : Pos} {e : Expr} {es : List Expr} {t : TA}
theorem pe_callG (hG : X.A.guards = some []) (F : FnG X.prog X.w X.K X.mg X.base CX k f fd ps sp) (hr : Room k X.A) (hg : Gl X x) (hm : X.mg x = some (.ref f)) (hk : PySem.W.keepIn X.K (.ref f) = true) (hb : Binds X.K fd ps ds) (hd : Vals dvs ds) (hx : Passes CX X E)
    (ha : PA X (e :: es) t) (hdb : (x == ("__debug__" : Str)) = false := by decide) (he : starEach (e :: es) X.env = (false, eval e X.env) :: starEach es X.env := by rfl) (hpl : (backTo pos (starEach es X.env)).any (fun q => q.1) = false := by rfl) :
    PE X (.Call (.Name x p) (e :: es) [] pos) (tCall sp dvs E t) := by
  refine ⟨fun pins s σ H Q I h => wpAny_Call_Name_kw (ld_glob I hg hm ?_ hdb)⟩
  refine PySem.W.callWith_K (h₀ := X.base) I.ok.mod.kin hk (thn (ha.run pos pins s σ H _ I h) fun us s1 hh => ?_) he hpl
  obtain ⟨vs, H1, I1, r, q⟩ := hh
  refine ⟨I1.kIn, ?_⟩
  have r2 : Vals (vs ++ dvs) (us ++ ds) := r.append hd
  have hl : (us ++ ds).length = ps.length := by rw [← r2.length]; exact F.len _ _ _ _ q
  refine wpAny_call (codeAny_mono (F.run X.A X.stack s1 H1 ⟨us, []⟩ (us ++ ds) (vs ++ dvs) Q E hG hr I1.env0 (hb s1 us I1.kIn hl) r2 q) fun r s' hq => ?_)
  match r, hq with
  | .error e, hq => exact hx pins σ H1 s1 e s' I1 hq
  | .ok (.ret u), hq => exact I1.after hq
  | .ok .next, hq => exact False.elim hq
  | .ok .brk, hq => exact False.elim hq
  | .ok .cont, hq => exact False.elim hq
/-- repr of a list or a tuple of plain things -/
def rRepr (K : PySem.W.Frag) : List V → Hp → VK → Prop := fun xs H Q => ∃ (a : Addr) (d : PyData), xs = [.ref a] ∧ Dp K H (.ref a) d ∧ d.showable = true ∧ d.hasDict = false ∧ d.depth ≤ 20 ∧ d.shown.length ≤ sizeLine ∧ Q (.str d.shown) H
theorem call_repr (hG : X.A.guards = some []) (hu : X.A.units + 64 < cLine) : CallR X (.builtin "repr") (rRepr X.K) := by
  intro pins s σ H xs us Q I r h
  obtain ⟨a, d, rfl, hd, hs, hn, hdp, hz, q⟩ := h
  obtain ⟨u, rfl, ru⟩ := vals1 r
  cases (show u = Value.ref a from ru)
  obtain ⟨as, rd⟩ := Dp.reads I d _ _ hd rfl
  exact repr_of_reads' rd hs (fun z => by rw [hn] at z; cases z) hG (by omega) (fun _ _ z => z) (fun h' u tk hk => ⟨.str d.shown, H, I.kept hk, ⟨u, rfl⟩, q⟩) hz
end
/-! ### the law's own call, of a def of that kind -/
section
variable {P : Program} {w : World} {K : PySem.W.Frag} {mg mb : Str → Option Value} {k : Nat} {fa a : Addr} {fd : FuncData} {x : Str} {sp : Sp} {s : Shared} {vs : List Value} {ns : List Int}
/-- the script alone may be tracked: where it is, what of it is known -/
structure Alone (P : Program) (w : World) (K : PySem.W.Frag) (s : Shared) (a : Addr) (ns : List Int) (H : Hp) : Prop where
  only : Only H
  seq : SqL K H a (ns.map V.int)
  ok : HOk P w H s.heap
  at_ : ∀ b u, H b = some u → b = a
  out : ∀ u, H a = some u → K.lookup a = none
theorem alone_ex (inn : K.In s.heap) (ha : s.heap.get? a = some { cls := .type "list", data := .seq vs.toArray }) (hi : IntsAre vs ns) (hl : ns.length ≤ sizeLine) : ∃ H, Alone P w K s a ns H := by
  have rv := vals_ints hi
  cases hk : K.lookup a with
  | some o =>
    obtain rfl : o = { cls := .type "list", data := .seq vs.toArray } := Option.some.inj ((inn a o hk).symm.trans ha)
    refine ⟨fun _ => none, fun _ => .inl rfl, .inr ⟨_, vs.toArray, _, hk, rfl, rfl, rfl, ?_, ?_⟩, fun _ _ z => (by cases z), fun _ _ z => (by cases z), fun _ z => (by cases z)⟩
    · rw [List.size_toArray, hi.length]; exact hl
    · rw [List.toList_toArray]; exact rv
  | none =>
    have one : ∀ b u, (upd (fun _ => none) a (.frz { cls := .type "list", data := .seq vs.toArray } (.lst (ns.map V.int)))) b = some u → b = a := fun b u z => by
      by_cases hb : b = a
      · exact hb
      · rw [upd_ne hb] at z; cases z
    refine ⟨upd (fun _ => none) a (.frz { cls := .type "list", data := .seq vs.toArray } (.lst (ns.map V.int))), fun b => ?_, .inl (.inr ⟨_, upd_same⟩), fun b u z => ?_, one, fun _ _ => hk⟩
    · by_cases hb : b = a
      · subst hb; exact .inr ⟨_, _, upd_same⟩
      · exact .inl (upd_ne hb)
    · obtain rfl := one b u z
      rw [upd_same] at z
      cases z
      exact ⟨ha, by rw [List.length_map]; exact hl, vs, _, rv, ha⟩
theorem law_callG (inn : K.In s.heap) (hns : s.heap.Ns mainGlobals mg) (hb : s.heap.Ns builtinsNs mb) (hbb : ∀ x : Str, x ≠ "__name__" → mb x = bootBuiltins x) (hlim : s.heap.NoLimit) (hg : s.gens = #[])
    (ha : s.heap.get? a = some { cls := .type "list", data := .seq vs.toArray }) (hi : IntsAre vs ns) (hl : ns.length ≤ sizeLine) (hr : Room k callerA)
    (F : ∀ base : Heap, K.In base → base.Ns mainGlobals mg → FnG P w K mg base CX0 k fa fd [x] sp) (hbind : ∀ (s : Shared) (u : Value), BindsTo s fd ⟨[u], []⟩ [(x, u)])
    (hsp : ∀ H : Hp, Only H → SqL K H a (ns.map V.int) → sp [.ref a] H (fun v _ => v = .bl true) fun _ _ _ => False) :
    codeAny (model P w) callerA (.call (.ref fa) ⟨[.ref a], []⟩) (fun r s' => r = .ok (.ret (.bool true)) ∧ OldK s.heap s'.heap ∧ s'.os = s.os ∧ AllBare s'.gens) s := by
  obtain ⟨H, N⟩ := alone_ex (P := P) (w := w) inn ha hi hl
  -- a dict is not the script: it is not tracked
  have free : ∀ {b : Addr} {o : Obj}, s.heap.get? b = some o → (∀ its n, o.data ≠ .seq its n) → H b = none := fun {b o} e z => by
    cases q : H b with
    | none => rfl
    | some u =>
      obtain rfl := N.at_ b u q
      rw [ha] at e
      cases e
      exact absurd rfl (z _ _)
  have space : ∀ {b : Addr} {m : Str → Option Value}, s.heap.Ns b m → (hidT s.heap H).Ns b m := fun {b m} z => by
    obtain ⟨o, es, ep, e, d, r⟩ := z
    exact ⟨o, es, ep, hidT_get e (free e fun _ _ y => by rw [d] at y; cases y), d, r⟩
  have inb : K.In (hidT s.heap H) := fun b o e => hidT_get (inn b o e) (by
    cases q : H b with
    | none => rfl
    | some u =>
      obtain rfl := N.at_ b u q
      rw [N.out u q] at e
      cases e)
  have md : Mod K mg (hidT s.heap H) := by
    obtain ⟨mc, l1, l2⟩ := hlim
    exact ⟨inb, space hns, ⟨mb, space hb, hbb⟩, mc, space l1, l2⟩
  have e0 : Env0 P w K mg (hidT s.heap H) callerA [] s H := ⟨rfl, md, fun _ _ e => of_hidT e, Nat.le_of_eq (hidT_size _ _), trivial, fun _ z => (nomatch z), N.ok, .of_eq hg⟩
  refine codeAny_mono ((F _ inb (space hns)).run callerA [] s H ⟨[.ref a], []⟩ [.ref a] [.ref a] _ _ rfl hr e0 (hbind s (.ref a)) (.cons rfl .nil) (hsp H N.only N.seq)) fun r s' h => ?_
  match r, h with
  | .error e, h => exact False.elim h
  | .ok .next, h => exact False.elim h
  | .ok .brk, h => exact False.elim h
  | .ok .cont, h => exact False.elim h
  | .ok (.ret u), h =>
    obtain ⟨v, H', os, bare, un, ok', r', q⟩ := h
    obtain rfl : v = .bl true := q
    obtain rfl : u = Value.bool true := r'
    refine ⟨rfl, OldK.of_keep fun b o e => ?_, os, bare⟩
    cases q : H b with
    | none => exact un.keep b o e q (fun z => (nomatch z)) (fun z => (nomatch z))
    | some u =>
      rcases N.only b with z | ⟨ob, xs, z⟩
      · rw [q] at z; cases z
      · have e1 : s.heap.get? b = some ob := (show ObjOk P w H s.heap b (.frz ob (.lst xs)) from N.ok b _ z).1
        have e2 : s'.heap.get? b = some ob := (show ObjOk P w H' s'.heap b (.frz ob (.lst xs)) from ok' b _ (un.frzs b ob _ z)).1
        exact (Option.some.inj (e.symm.trans e1)) ▸ e2
end
theorem walk_ofG {l : PySem.W.OpenLaw} {n k : Nat} {q : Program} {loose : List Str} {XP : (Str → Option Value) → Heap → Prop} {YP : World → Heap → Prop} {d : DefRec} {K : Params → PySem.W.Frag} {sp : World → Sp} {x : Str}
    (hn : l.most = some n) (hn2 : n ≤ sizeLine) (hdf : d.params.defaults = []) (hr : Room k callerA) (hY : ∀ (w : World) (h : Heap), YP w h → (K w.params).In h)
    (F : ∀ (w : World) (mg : Str → Option Value) (fa : Addr) (h : Heap), (K w.params).In h → h.Ns mainGlobals mg → mg d.name = some (.ref fa) →
      ∃ fd : FuncData, (∀ (s : Shared) (u : Value), BindsTo s fd ⟨[u], []⟩ [(x, u)]) ∧ ∀ base : Heap, (K w.params).In base → base.Ns mainGlobals mg → FnG l.prog w (K w.params) mg base CX0 k fa fd [x] (sp w))
    (hsp : ∀ (w : World) (H : Hp) (a : Addr) (ns : List Int), ns.length ≤ n → Only H → SqL (K w.params) H a (ns.map V.int) → sp w [.ref a] H (fun v _ => v = .bl true) fun _ _ _ => False) :
    PySem.W.WalkO q loose XP YP l.row.toRowW d [] (fun f vs => PySem.call f vs) := by
  refine Att.attach_call hn hdf fun w s0 s1 mg mb fa o pm cd doc a vs ns G Y ho hd hcd hmg hobj hints hlen hg => ?_
  obtain ⟨fd, hb, hF⟩ := F w mg fa _ (hY w _ Y) G.T.g hmg
  exact law_callG (hY w _ Y) G.T.g G.T.b G.T.builtins G.T.nolimit hg hobj hints (Nat.le_trans hlen hn2) hr hF hb fun H hO hS => hsp w H a ns hlen hO hS
/-! ### new instances whose __init__ may raise, within a try: what is raised is wished for at the slots -/
section
variable {X : Cx} {CX : CXT} {k : Nat} {f C : Addr} {fd : FuncData} {ps ks : List Str} {sp : Sp} {x : Str} {p pos : Pos} {e : Expr} {es : List Expr} {kws : List Keyword} {t tk : TA} {g : List Value → List Value → List Value} {gV : List V → List V → List V}
theorem run_makeA {pins : List (Addr × Obj)} {σ : L2.St} {H : Hp} {s : Shared} {Q : VK} {E : XK} {us : List Value} {kw : List (Str × Value)} {fu : Value → List Value} {fv : V → List V} (M : Mk X.K C f) (F : FnOk X.prog X.w X.K X.mg X.base CX k f fd ps sp) (hr : Room (k + 1) X.A)
    (hb : ∀ (s' : Shared) (v : Value), X.K.In s'.heap → BindsTo s' fd ⟨v :: us, kw⟩ (ps.zip (fu v))) (rr : ∀ a : Addr, Vals (fv (.ref a)) (fu (.ref a))) (hx : PassesAt CX X σ E) (I : Inv X pins σ H s)
    (h : ∀ x dx, H x = none → H dx = none → dx ≠ x → sp (fv (.ref x)) (upd (upd H dx (.own x)) x (.ins C dx [])) (fun v H2 => v = .non ∧ Q (.ref x) H2) E) :
    wpAny (model X.prog X.w) X.A (call (.ref C) us kw) (EP X pins σ Q) X.xe s := by
  have I2 := Inv.made (C := C) I
  have hq := h (s.heap.objs.size + 1) s.heap.objs.size (I.hok.fresh (Nat.le_succ _)) (I.hok.fresh (Nat.le_refl _)) (Nat.ne_of_lt (Nat.lt_succ_self _))
  refine wpAny_call (make_map (f := f) I.kIn M.makes M.init (beq_iff_eq.mp M.fn) (codeAny_mono (F.run _ X.stack _ _ ⟨Value.ref (s.heap.objs.size + 1) :: us, kw⟩ (fu (.ref (s.heap.objs.size + 1))) (fv (.ref (s.heap.objs.size + 1))) _ E
    (hr.make C us kw) (I2.env0.make C us kw) (hb _ _ I2.kIn) (rr _) hq) fun r s' z => ?_))
  match r, z with
  | .error e, z => exact hx pins _ _ e s' I2 z
  | .ok .next, z => exact False.elim z
  | .ok .brk, z => exact False.elim z
  | .ok .cont, z => exact False.elim z
  | .ok (.ret u), z =>
    obtain ⟨v, H', I3, rv, rfl, q3⟩ := I2.after z
    exact ⟨rv, .ref (s.heap.objs.size + 1), H', I3, rfl, q3⟩
def tMakeS (C : Addr) (sp : Sp) (E : L2.St → XK) (t : TA) : TE := fun σ H Q => t σ H fun vs H1 => ∀ x dx, H1 x = none → H1 dx = none → dx ≠ x → sp (.ref x :: vs) (upd (upd H1 dx (.own x)) x (.ins C dx [])) (fun v H2 => v = .non ∧ Q (.ref x) H2) (E σ)
def tMakeKS (C : Addr) (m : Nat) (sp : Sp) (gV : List V → List V → List V) (E : L2.St → XK) (tk : TA) : TE := fun σ H Q => tk σ H fun zs H1 => zs.length = m ∧ ∀ x dx, H1 x = none → H1 dx = none → dx ≠ x → sp (gV [.ref x] zs) (upd (upd H1 dx (.own x)) x (.ins C dx [])) (fun v H2 => v = .non ∧ Q (.ref x) H2) (E σ)
theorem pe_makeS {E : L2.St → XK} (M : Mk X.K C f) (F : FnOk X.prog X.w X.K X.mg X.base CX k f fd ps sp) (hr : Room (k + 1) X.A) (hg : Gl X x) (hm : X.mg x = some (.ref C)) (hb : Binds X.K fd ps []) (hx : ∀ σ, PassesAt CX X σ (E σ)) (ha : PA X (e :: es) t)
    (hdb : (x == ("__debug__" : Str)) = false := by decide) (he : starEach (e :: es) X.env = (false, eval e X.env) :: starEach es X.env := by rfl) (hpl : (backTo pos (starEach es X.env)).any (fun q => q.1) = false := by rfl) :
    PE X (.Call (.Name x p) (e :: es) [] pos) (tMakeS C sp E t) := by
  refine ⟨fun pins s σ H Q I h => wpAny_Call_Name_kw (ld_glob I hg hm ?_ hdb)⟩
  refine PySem.W.callWith_K (h₀ := X.base) I.ok.mod.kin M.kp (thn (ha.run pos pins s σ H _ I h) fun us s1 hh => ?_) he hpl
  obtain ⟨vs, H1, I1, r, q⟩ := hh
  refine ⟨I1.kIn, ?_⟩
  have hq := q (s1.heap.objs.size + 1) s1.heap.objs.size (I1.hok.fresh (Nat.le_succ _)) (I1.hok.fresh (Nat.le_refl _)) (Nat.ne_of_lt (Nat.lt_succ_self _))
  have hl := F.len _ _ _ _ hq
  have hl2 : vs.length = us.length := r.length
  refine run_makeA (fu := fun v => v :: us) (fv := fun v => v :: vs) M F hr (fun s' v inn => ?_) (fun a => .cons rfl r) (hx σ) I1 q
  have z := hb s' (v :: us) inn (by rw [List.append_nil, List.length_cons, ← hl2]; exact hl)
  rw [List.append_nil] at z
  exact z
theorem pe_makeKS {E : L2.St → XK} (M : Mk X.K C f) (F : FnOk X.prog X.w X.K X.mg X.base CX k f fd ps sp) (hr : Room (k + 1) X.A) (hg : Gl X x) (hm : X.mg x = some (.ref C)) (hb : KBn X.K fd ps 1 ks g gV) (hx : ∀ σ, PassesAt CX X σ (E σ)) (hkw : PK X kws tk)
    (hall : (backToKw pos (keywordEach kws X.env)).all (fun q => q.1.isSome) = true := by rfl) (hks : (backToKw pos (keywordEach kws X.env)).filterMap (fun q => q.1) = ks := by rfl) (hdb : (x == ("__debug__" : Str)) = false := by decide)
    (hpl : ((backTo pos (starEach [] X.env)).any (fun q => q.1) || (backToKw pos (keywordEach kws X.env)).any (fun q => q.1.isNone)) = false := by rfl) :
    PE X (.Call (.Name x p) [] kws pos) (tMakeKS C ks.length sp gV E tk) := by
  refine ⟨fun pins s σ H Q I h => wpAny_Call_Name_kw (ld_glob I hg hm ?_ hdb)⟩
  refine PySem.W.callWith_KW0 (h₀ := X.base) I.ok.mod.kin M.kp hall (thn (hkw.run pos pins s σ H _ I h) fun ws s2 hh => ?_) hpl
  obtain ⟨zs, H2, I2, rz, l2, q2⟩ := hh
  refine ⟨I2.kIn, ?_⟩
  rw [hks]
  exact run_makeA (fu := fun v => g [v] ws) (fv := fun v => gV [v] zs) M F hr (fun s' v inn => hb.to s' [v] ws inn rfl (rz.length.symm.trans l2)) (fun a => hb.rel (.cons rfl .nil) rz) (hx σ) I2 q2
theorem kb_mk1 {K : PySem.W.Frag} {x qual : Str} {st : Stmt} {f : Addr} {fd : FuncData} {ps ks : List Str} {g : List Value → List Value → List Value} {gV : List V → List V → List V} (F : Fun K x qual st f fd)
    (h : ∀ (kV doc pm : Value) (an : Option Addr) (cdv ct : Value) (v : Value) (ws : List Value), ws.length = ks.length → bindArgs (PySem.W.fnOf x qual (defArgs st) (defBody st) (defScope st) .none kV doc pm an cdv ct) ⟨[v], ks.zip ws⟩ = pure (ps.zip (g [v] ws)))
    (hrel : ∀ {vs : List V} {us : List Value} {zs : List V} {ws : List Value}, Vals vs us → Vals zs ws → Vals (gV vs zs) (g us ws)) : KBn K fd ps 1 ks g gV := by
  obtain ⟨oc, od, kV, doc, pm, an, cdv, ct, osl, rfl, lk, hcd⟩ := F.ex
  refine ⟨fun s us ws _ l1 l2 => ?_, hrel⟩
  match us, l1 with
  | [v], _ => exact .of_eq (h kV doc pm an cdv ct v ws l2)
/-- isinstance(e, C), e the caught exception, where its class is C or below it -/
def rIsEp (K : PySem.W.Frag) (cls : Value) (a : Addr) : List V → Hp → VK → Prop := fun xs H Q => ∃ C' : Addr, xs = [.ref a, .ref C'] ∧ PySem.W.isIn K cls C' = true ∧ Q (.bl true) H
theorem call_isEp {a : Addr} {oe : Obj} {cls : Value} {d : Option Addr} {pn : List (Addr × Obj)} (hz : Zc cls d oe) : CallR (X.suite a ((a, oe) :: pn)) (.builtin "isinstance") (rIsEp X.K cls a) := by
  intro pins s σ H xs us Q I r h
  obtain ⟨C', rfl, e, q⟩ := h
  obtain ⟨u1, u2, rfl, r1, r2⟩ := vals2 r
  cases (show u1 = Value.ref a from r1)
  cases (show u2 = Value.ref C' from r2)
  obtain ⟨hget, _⟩ := I.pin (a, oe) (List.mem_append.mpr (.inl List.mem_cons_self))
  exact PySem.W.isi_call I.kIn (fun M A Q E s k q => wpAny_typeOf_ref (k _ _ hget) (by rw [hz.1]; exact q)) e (fun z => nomatch z) ⟨.bl true, H, I, rfl, q⟩
end
section
variable {σ : L2.St} {H : Hp} {Q : VK} {K : PySem.W.Frag} {C : Addr} {sp : Sp} {D : Ends}
theorem r_makeS {E : L2.St → XK} {t : TA} (h : t σ H fun vs H1 => ∀ x dx, H1 x = none → H1 dx = none → dx ≠ x → sp (.ref x :: vs) (upd (upd H1 dx (.own x)) x (.ins C dx [])) (fun v H2 => v = .non ∧ Q (.ref x) H2) (E σ)) : tMakeS C sp E t σ H Q := h
theorem r_makeKS {m : Nat} {gV : List V → List V → List V} {E : L2.St → XK} {tk : TA} (h : tk σ H fun zs H1 => zs.length = m ∧ ∀ x dx, H1 x = none → H1 dx = none → dx ≠ x → sp (gV [.ref x] zs) (upd (upd H1 dx (.own x)) x (.ins C dx [])) (fun v H2 => v = .non ∧ Q (.ref x) H2) (E σ)) : tMakeKS C m sp gV E tk σ H Q := h
theorem r_xf {a : Addr} {cls : Value} {d : Option Addr} {f : Str} {te : TE} (h : te σ H fun x H1 => x = .ref a ∧ cls = .ref C ∧ ∃ (dd : Addr) (fs : List (Str × V)) (v : V), d = some dd ∧ H1 dd = some (.xd fs) ∧ fs.lookup f = some v ∧ Q v H1) : tXf a cls d C f te σ H Q := h
theorem r_isEp {cls : Value} {a C' : Addr} (e : PySem.W.isIn K cls C' = true) (h : Q (.bl true) H) : rIsEp K cls a [.ref a, .ref C'] H Q := ⟨C', rfl, e, h⟩
/-- self.f = e in an exception's __init__: the first field, a later one -/
theorem r_ost {f : Str} {to te : TE} (h : te σ H fun y H1 => to σ H1 fun x H2 => ∃ a C : Addr, x = .ref a ∧ OexC K C ∧ PySem.W.findIn K (.ref C) f = some none ∧
  ((H2 a = some (exo a C none) ∧ ∀ dx, H2 dx = none → dx ≠ a → D.nx σ (upd (upd H2 dx (exd dx [(f, y)])) a (exo a C (some dx)))) ∨
    ∃ (dx : Addr) (fs : List (Str × V)), H2 a = some (exo a C (some dx)) ∧ H2 dx = some (exd dx fs) ∧ fs.length ≤ 900 ∧ D.nx σ (upd H2 dx (exd dx ((f, y) :: fs))))) : tOst K f to te D σ H := h
theorem r_ost1 {a : Addr} {f : Str} {F G : Addr → Addr → Prop} {Z : Addr → Addr → Prop} (T : OexC K C) (n : PySem.W.findIn K (.ref C) f = some none) (ha : H a = some (exo a C none)) (h : F a C) : ∃ a' C : Addr, V.ref a = .ref a' ∧ OexC K C ∧ PySem.W.findIn K (.ref C) f = some none ∧ ((H a' = some (exo a' C none) ∧ F a' C) ∨ G a' C) := ⟨a, C, rfl, T, n, .inl ⟨ha, h⟩⟩
end
/-! ### wrappers that name the written part: for comprehensions, try bodies, suites -/
section
variable {X : Cx} {K : PySem.W.Frag} {o e : Expr} {f : Str} {ta te : TE} {pos : Pos}
theorem pe_fldK (ha : PE X o ta) (hK : X.K = K := by rfl) (hb : attributeBase o f X.env (eval o X.env) = eval o X.env := by rfl) : PE X (.Attribute o f pos) (tFld K ta f) := by
  subst hK
  exact pe_fld ha hb
end
/-! ### a + b by an own def that may raise, within a try -/
def tBinS (C : Addr) (sp : Sp) (E : L2.St → XK) (ta tb : TE) : TE := fun σ H Q => ta σ H fun x H1 => tb σ H1 fun y H2 => ∃ a dx fs b dy gs, x = .ref a ∧ y = .ref b ∧ H2 a = some (.ins C dx fs) ∧ H2 b = some (.ins C dy gs) ∧ sp [x, y] H2 Q (E σ)
section
variable {X : Cx} {CX : CXT} {k : Nat} {g C : Addr} {fd : FuncData} {ps : List Str} {sp : Sp} {a b : Expr} {ta tb : TE} {pos : Pos} {op : Operator}
theorem pe_binS {E : L2.St → XK} (hc : PySem.W.selfFirst X.K C = true) (hs : PySem.W.findIn X.K (.ref C) (PySem.dunder op.info.2) = some (some (.ref g))) (hf : PySem.W.isFn X.K (.ref g) = true) (F : FnOk X.prog X.w X.K X.mg X.base CX k g fd ps sp) (hr : Room k X.A) (hb : Binds X.K fd ps []) (hx : ∀ σ, PassesAt CX X σ (E σ))
    (h1 : PE X a ta) (h2 : PE X b tb) : PE X (.BinOp a op b pos) (tBinS C sp E ta tb) := by
  refine ⟨fun pins s σ H Q I h => wpAny_BinOp (binT h1 h2 I h fun v u s2 x y H2 I2 rx ry q => ?_)⟩
  obtain ⟨p, dx, fs, r, dy, gs, rfl, rfl, ha, hb', q⟩ := q
  cases (show v = Value.ref p from rx)
  cases (show u = Value.ref r from ry)
  obtain ⟨ox, od, J⟩ := inst_at I2 ha
  obtain ⟨oy, oe, J'⟩ := inst_at I2 hb'
  obtain ⟨m, hF⟩ := I2.fr
  refine PySem.W.binop_K (op := op) hF I2.ok.mod.kin J J'.type hc hs hf (wpAny_mono (run_fnS (us := [.ref p, .ref r]) (vs := [.ref p, .ref r]) F hr hb (hx σ) I2 (.cons rfl (.cons rfl .nil)) q) (fun w s' z => ?_) fun _ _ e => e)
  obtain ⟨z', H', I', rz, qz⟩ := z
  exact cmpb rz ⟨z', H', I', rz, qz⟩
end
theorem r_binS {σ : L2.St} {H : Hp} {Q : VK} {C : Addr} {sp : Sp} {E : L2.St → XK} {ta tb : TE} (h : ta σ H fun x H1 => tb σ H1 fun y H2 => ∃ a dx fs b dy gs, x = .ref a ∧ y = .ref b ∧ H2 a = some (.ins C dx fs) ∧ H2 b = some (.ins C dy gs) ∧ sp [x, y] H2 Q (E σ)) : tBinS C sp E ta tb σ H Q := h
/-! ### ends: None or an int -/
def endV : Option Int → V
  | none => .non
  | some i => .int i
def endD : Option Int → PyData
  | none => .none
  | some i => .int i
/-- a small end: what repr takes -/
def EndOk (e : Option Int) : Prop := ∀ i, e = some i → -(10 ^ 60) < i ∧ i < 10 ^ 60
theorem log_ok {i : Int} (h : -(10 ^ 60) < i ∧ i < 10 ^ 60) : i.natAbs.log2 < 1920 := by
  have h1 : i.natAbs < 2 ^ 200 := by
    have : i.natAbs < 10 ^ 60 := by omega
    exact Nat.lt_trans this (by decide)
  have h2 : i.natAbs.log2 < 200 := by
    by_cases e : i.natAbs = 0
    · rw [e]; decide
    · exact (Nat.log2_lt e).mpr h1
  omega
theorem dp_end {K : PySem.W.Frag} {H : Hp} (e : Option Int) : Dp K H (endV e) (endD e) := by
  cases e with
  | none => exact .non
  | some i => exact .int i
theorem show_end {e : Option Int} (h : EndOk e) : (endD e).showable = true := by
  cases e with
  | none => rfl
  | some i => exact decide_eq_true (log_ok (h i rfl))
theorem len_end {e : Option Int} (h : EndOk e) : ((endD e).shown).length ≤ 2000 := by
  cases e with
  | none => decide +kernel
  | some i => exact Nat.le_trans (PyProof.Rows.int_text_len_1921 (log_ok (h i rfl))) (by decide)
section
variable {H : Hp} {Q : VK} {K : PySem.W.Frag} {X : Cx}
def rIsNo : R2 := fun x y H Q => y = .non ∧ Q (.bl (decide (x = .non))) H
def rNotNo : R2 := fun x y H Q => y = .non ∧ Q (.bl (!decide (x = .non))) H
theorem o_isN : OpR X (compareOp .Is) rIsNo := op_isN
theorem o_notN : OpR X (compareOp .IsNot) rNotNo := op_notN
theorem r_isNe {e : Option Int} (h : Q (.bl (!e.isSome)) H) : rIsNo (endV e) .non H Q := by
  cases e with
  | none => exact ⟨rfl, h⟩
  | some i => exact ⟨rfl, h⟩
theorem r_notNe {e : Option Int} (h : Q (.bl e.isSome) H) : rNotNo (endV e) .non H Q := by
  cases e with
  | none => exact ⟨rfl, h⟩
  | some i => exact ⟨rfl, h⟩
theorem r_isNi {i : Int} (h : Q (.bl false) H) : rIsNo (.int i) .non H Q := ⟨rfl, h⟩
theorem r_isNn (h : Q (.bl true) H) : rIsNo .non .non H Q := ⟨rfl, h⟩
theorem r_isNr {a : Addr} (h : Q (.bl false) H) : rIsNo (.ref a) .non H Q := ⟨rfl, h⟩
theorem r_notNi {i : Int} (h : Q (.bl true) H) : rNotNo (.int i) .non H Q := ⟨rfl, h⟩
theorem r_notNn (h : Q (.bl false) H) : rNotNo .non .non H Q := ⟨rfl, h⟩
theorem r_notNr {a : Addr} (h : Q (.bl true) H) : rNotNo (.ref a) .non H Q := ⟨rfl, h⟩
/-- repr of a list of two ends -/
theorem r_repr2 {a : Addr} {b c : Option Int} (h : H a = some (.lst [endV b, endV c])) (hb : EndOk b) (hc : EndOk c) (q : Q (.str (PyData.list [endD b, endD c]).shown) H) : rRepr K [.ref a] H Q := by
  refine ⟨a, .list [endD b, endD c], rfl, .lst (SqL.of h) (.cons (dp_end b) (.cons (dp_end c) .nil)), ?_, ?_, ?_, ?_, q⟩
  · show ((endD b).showable && ((endD c).showable && true)) = true
    rw [show_end hb, show_end hc]; rfl
  · cases b <;> cases c <;> rfl
  · cases b <;> cases c <;> exact Nat.le_of_ble_eq_true rfl
  · have h1 := len_end hb
    have h2 := len_end hc
    have h3 := listText_len_le (PyData.shownAll [endD b, endD c])
    have h4 : (PyData.shownAll [endD b, endD c]).length = 2 := rfl
    have h5 : ((PyData.shownAll [endD b, endD c]).map (fun t => t.length)).sum = (endD b).shown.length + ((endD c).shown.length + 0) := rfl
    show (listText (PyData.shownAll [endD b, endD c])).length ≤ sizeLine
    rw [h5, h4] at h3
    exact Nat.le_trans h3 (Nat.le_trans (show _ ≤ 5000 by omega) (by decide))
end
/-! ### stretches -/
def turnedB : Option Int → Option Int → Bool
  | some a, some b => decide (b < a)
  | _, _ => false
def loB : Option Int → Int → Bool
  | none, _ => true
  | some a, n => decide (a ≤ n)
def hiB : Option Int → Int → Bool
  | none, _ => true
  | some b, n => decide (n ≤ b)
def inB (lo hi : Option Int) (n : Int) : Bool := loB lo n && hiB hi n
def strF (lo hi : Option Int) : List (Str × V) := putF "high" (endV hi) (putF "low" (endV lo) [])
theorem n_lh : ¬ (("low" : Str) = "high") := by decide +kernel
theorem str_low (lo hi : Option Int) : (strF lo hi).lookup ("low" : Str) = some (endV lo) := by
  unfold strF
  rw [lookup_putF, if_neg n_lh, lookup_putF, if_pos rfl]
theorem str_high (lo hi : Option Int) : (strF lo hi).lookup ("high" : Str) = some (endV hi) := by
  unfold strF
  rw [lookup_putF, if_pos rfl]
theorem str_no (lo hi : Option Int) {m : Str} (h1 : ¬ m = "high") (h2 : ¬ m = "low") : (strF lo hi).lookup m = none := by
  unfold strF
  rw [lookup_putF, if_neg h1, lookup_putF, if_neg h2]
  rfl
theorem putF_len (f : Str) (v : V) : ∀ fs : List (Str × V), (putF f v fs).length ≤ fs.length + 1
  | [] => Nat.le_refl _
  | (g, x) :: r => by
    unfold putF
    split
    · show r.length + 1 ≤ r.length + 1 + 1
      omega
    · show (putF f v r).length + 1 ≤ r.length + 1 + 1
      have := putF_len f v r
      omega
def StrAt (C : Addr) (H : Hp) (p : Addr) (lo hi : Option Int) : Prop := ∃ dx, H p = some (.ins C dx (strF lo hi))
theorem StrAt.same {C : Addr} {H H' : Hp} {p : Addr} {lo hi : Option Int} (h : StrAt C H p lo hi) (s : Same H H') : StrAt C H' p lo hi := by
  obtain ⟨dx, e⟩ := h
  exact ⟨dx, s _ _ e⟩
/-- what is no list is not among the draws -/
theorem Ext.keep {d c r : Addr} {H H' : Hp} {b : Addr} {o : HO} (e : Ext d r H H') (D : Drw H d c r) (h : H b = some o) (n : ∀ xs, o ≠ .lst xs) : H' b = some o := by
  obtain ⟨_, _, _, _, _, _, h1, _, h3, _⟩ := D
  exact e b o h (ne_of h h1 (n _)) (ne_of h h3 (n _))
theorem StrAt.ext {C : Addr} {H H' : Hp} {p d c r : Addr} {lo hi : Option Int} (h : StrAt C H p lo hi) (e : Ext d r H H') (D : Drw H d c r) : StrAt C H' p lo hi := by
  obtain ⟨dx, z⟩ := h
  exact ⟨dx, e.keep D z fun _ q => nomatch q⟩
/-- the dict of a TurnedStretch -/
def turnF (lo hi : Option Int) : List (Str × V) := [("high", endV hi), ("low", endV lo)]
theorem turn_low (lo hi : Option Int) : (turnF lo hi).lookup ("low" : Str) = some (endV lo) := by
  unfold turnF
  rw [lookup_put, if_neg n_lh, lookup_put, if_pos rfl]
theorem turn_high (lo hi : Option Int) : (turnF lo hi).lookup ("high" : Str) = some (endV hi) := by
  unfold turnF
  rw [lookup_put, if_pos rfl]
def spTInit (C : Addr) : Sp := fun vs H Q _ => ∃ (a : Addr) (lo hi : Option Int), vs = [.ref a, endV lo, endV hi] ∧ H a = some (exo a C none) ∧
  ∀ (dx : Addr) (H' : Hp), H dx = none → H' a = some (exo a C (some dx)) → H' dx = some (exd dx (turnF lo hi)) → (∀ b o, H b = some o → b ≠ a → H' b = some o) → Q .non H'
def spSInit (C CT : Addr) : Sp := fun vs H Q E => ∃ (p dx : Addr) (lo hi : Option Int), vs = [.ref p, endV lo, endV hi] ∧ H p = some (.ins C dx []) ∧
  (turnedB lo hi = true → ∀ (d : Addr) (H' : Hp), H d = none → H' d = some (.xd (turnF lo hi)) → Same H H' → E (.ref CT) (some d) H') ∧
  (turnedB lo hi = false → ∀ H', StrAt C H' p lo hi → (∀ b o, H b = some o → b ≠ p → H' b = some o) → Q .non H')
def spSIn (C : Addr) : Sp := fun vs H Q _ => ∃ (p : Addr) (lo hi : Option Int) (n : Int), vs = [.ref p, .int n] ∧ StrAt C H p lo hi ∧ Q (.bl (inB lo hi n)) H
/-! ### flat data: None, truths, ints, texts, in a list or a tuple; repr and == of these -/
def vD : V → PyData
  | .non => .none
  | .bl b => .bool b
  | .int i => .int i
  | .str x => .str x
  | _ => .none
def okD : V → Prop
  | .non => True
  | .bl _ => True
  | .int i => -(10 ^ 60) < i ∧ i < 10 ^ 60
  | .str x => (reprText x).length ≤ 1000 ∧ PyData.strOk x = true
  | _ => False
/-- what may be compared: no bound on ints -/
def eqD : V → Prop
  | .non => True
  | .bl _ => True
  | .int _ => True
  | .str x => PyData.strOk x = true
  | _ => False
theorem okD.eq {v : V} (h : okD v) : eqD v := by
  cases v <;> first | exact trivial | exact h.2 | exact h.elim
theorem log_okI {i : Int} (h : -(10 ^ 60) < i ∧ i < 10 ^ 60) : i.natAbs.log2 < 1920 := by
  have h1 : i.natAbs < 2 ^ 200 := by
    have : i.natAbs < 10 ^ 60 := by omega
    exact Nat.lt_trans this (by decide)
  have h2 : i.natAbs.log2 < 200 := by
    by_cases e : i.natAbs = 0
    · rw [e]; decide
    · exact (Nat.log2_lt e).mpr h1
  omega
theorem dp_vD {K : PySem.W.Frag} {H : Hp} {v : V} (h : eqD v) : Dp K H v (vD v) := by
  cases v with
  | non => exact .non
  | bl b => exact .bl b
  | int i => exact .int i
  | str x => exact .str x
  | byt b => exact h.elim
  | flt b => exact h.elim
  | ref a => exact h.elim
  | ty n => exact h.elim
theorem dpAll_vD {K : PySem.W.Frag} {H : Hp} : ∀ {vs : List V}, (∀ v ∈ vs, eqD v) → DpAll K H vs (vs.map vD)
  | [], _ => .nil
  | v :: vs, h => .cons (dp_vD (h v List.mem_cons_self)) (dpAll_vD fun w hw => h w (List.mem_cons_of_mem _ hw))
theorem show_vD : ∀ {vs : List V}, (∀ v ∈ vs, okD v) → PyData.showableAll (vs.map vD) = true
  | [], _ => rfl
  | v :: vs, h => by
    have h1 := h v List.mem_cons_self
    have e : (vD v).showable = true := by
      cases v <;> first | rfl | exact decide_eq_true (log_okI h1)
    show ((vD v).showable && PyData.showableAll (vs.map vD)) = true
    rw [e, show_vD fun w hw => h w (List.mem_cons_of_mem _ hw)]
    rfl
theorem dict_vD : ∀ (vs : List V), PyData.hasDictAll (vs.map vD) = false
  | [] => rfl
  | v :: vs => by
    show ((vD v).hasDict || PyData.hasDictAll (vs.map vD)) = false
    rw [dict_vD vs]
    cases v <;> rfl
theorem depth_vD : ∀ (vs : List V), PyData.depthAll (vs.map vD) = 0
  | [] => rfl
  | v :: vs => by
    show max (vD v).depth (PyData.depthAll (vs.map vD)) = 0
    rw [depth_vD vs]
    cases v <;> rfl
theorem len_vD : ∀ {vs : List V}, (∀ v ∈ vs, okD v) → (PyData.shownAll (vs.map vD)).length = vs.length ∧ ((PyData.shownAll (vs.map vD)).map (fun t => t.length)).sum ≤ 2000 * vs.length
  | [], _ => ⟨rfl, Nat.le_refl _⟩
  | v :: vs, h => by
    obtain ⟨i1, i2⟩ := len_vD (vs := vs) fun w hw => h w (List.mem_cons_of_mem _ hw)
    have h1 := h v List.mem_cons_self
    have e : ((vD v).shown).length ≤ 2000 := by
      cases v with
      | non => decide +kernel
      | bl b => cases b <;> decide +kernel
      | int i => exact Nat.le_trans (PyProof.Rows.int_text_len_1921 (log_okI h1)) (by decide)
      | str x => exact Nat.le_trans h1.1 (by decide)
      | byt b => exact h1.elim
      | flt b => exact h1.elim
      | ref a => exact h1.elim
      | ty n => exact h1.elim
    refine ⟨?_, ?_⟩
    · show (PyData.shownAll (vs.map vD)).length + 1 = vs.length + 1
      rw [i1]
    · show (((vD v).shown).length :: (PyData.shownAll (vs.map vD)).map (fun t => t.length)).sum ≤ 2000 * (vs.length + 1)
      rw [List.sum_cons]
      omega
section
variable {H : Hp} {Q : VK} {K : PySem.W.Frag} {a b : Addr} {vs ws : List V}
def tupD (vs : List V) : PyData := .tuple (vs.map vD)
def lstD (vs : List V) : PyData := .list (vs.map vD)
theorem r_reprT (h : SqT K H a vs) (hv : ∀ v ∈ vs, okD v) (hl : vs.length ≤ 50) (q : Q (.str (tupD vs).shown) H) : rRepr K [.ref a] H Q := by
  refine ⟨a, tupD vs, rfl, .tup h (dpAll_vD fun v hw => (hv v hw).eq), show_vD hv, dict_vD vs, ?_, ?_, q⟩
  · show PyData.depthAll (vs.map vD) + 1 ≤ 20
    rw [depth_vD]
    decide
  · obtain ⟨i1, i2⟩ := len_vD hv
    have h3 := tupleText_len_le (PyData.shownAll (vs.map vD))
    rw [i1] at h3
    exact Nat.le_trans h3 (Nat.le_trans (show _ ≤ 200000 by omega) (by decide))
theorem r_reprL (h : SqL K H a vs) (hv : ∀ v ∈ vs, okD v) (hl : vs.length ≤ 50) (q : Q (.str (lstD vs).shown) H) : rRepr K [.ref a] H Q := by
  refine ⟨a, lstD vs, rfl, .lst h (dpAll_vD fun v hw => (hv v hw).eq), show_vD hv, dict_vD vs, ?_, ?_, q⟩
  · show PyData.depthAll (vs.map vD) + 1 ≤ 20
    rw [depth_vD]
    decide
  · obtain ⟨i1, i2⟩ := len_vD hv
    have h3 := listText_len_le (PyData.shownAll (vs.map vD))
    rw [i1] at h3
    exact Nat.le_trans h3 (Nat.le_trans (show _ ≤ 200000 by omega) (by decide))
theorem lay_vD : ∀ {vs : List V}, (∀ v ∈ vs, eqD v) → PyData.canLayAll0 (vs.map vD) = true
  | [], _ => rfl
  | v :: vs, h => by
    have h1 := h v List.mem_cons_self
    have e : (vD v).canLay0 = true := by cases v <;> first | rfl | exact h1
    show ((vD v).canLay0 && PyData.canLayAll0 (vs.map vD)) = true
    rw [e, lay_vD fun w hw => h w (List.mem_cons_of_mem _ hw)]
    rfl
theorem shaped_tup (h : ∀ v ∈ vs, eqD v) : SeqAt.shaped (tupD vs) = true := by
  unfold SeqAt.shaped
  rw [show (tupD vs).canLay0 = true from lay_vD h]
  show decide (PyData.depthAll (vs.map vD) + 1 ≤ 64) = true
  rw [depth_vD]
  rfl
theorem shaped_lst (h : ∀ v ∈ vs, eqD v) : SeqAt.shaped (lstD vs) = true := by
  unfold SeqAt.shaped
  rw [show (lstD vs).canLay0 = true from lay_vD h]
  show decide (PyData.depthAll (vs.map vD) + 1 ≤ 64) = true
  rw [depth_vD]
  rfl
/-- equality of flat data of the same kinds, place by place -/
def sameKind : V → V → Bool
  | .int _, .bl _ => false
  | .bl _, .int _ => false
  | _, _ => true
theorem eqv_vD {x y : V} (hx : eqD x) (hy : eqD y) (k : sameKind x y = true) : PyData.eqv (vD x) (vD y) = decide (x = y) := by
  cases x <;> cases y <;> first
    | exact hx.elim
    | exact hy.elim
    | (cases k; done)
    | rfl
    | (rw [decide_eq_false fun z => nomatch z]; rfl)
    | skip
  · rename_i a b
    show (a == b) = _
    rw [eq_dbl]
  · rename_i a b
    show (a == b) = _
    rw [eq_dint]
    exact (Bool.beq_eq_decide_eq a b)
  · rename_i a b
    show (a == b) = _
    rw [eq_dstr]
    exact (Bool.beq_eq_decide_eq a b)
theorem eqv_all : ∀ {vs ws : List V}, (∀ v ∈ vs, eqD v) → (∀ v ∈ ws, eqD v) → (∀ p ∈ vs.zip ws, sameKind p.1 p.2 = true) → PyData.eqvAll (vs.map vD) (ws.map vD) = decide (vs = ws)
  | [], [], _, _, _ => rfl
  | [], w :: ws, _, _, _ => by rw [decide_eq_false fun z => nomatch z]; rfl
  | v :: vs, [], _, _, _ => by rw [decide_eq_false fun z => nomatch z]; rfl
  | v :: vs, w :: ws, h1, h2, h3 => by
    show (PyData.eqv (vD v) (vD w) && PyData.eqvAll (vs.map vD) (ws.map vD)) = _
    rw [eqv_vD (h1 v List.mem_cons_self) (h2 w List.mem_cons_self) (h3 (v, w) List.mem_cons_self), eqv_all (fun x hx => h1 x (List.mem_cons_of_mem _ hx)) (fun x hx => h2 x (List.mem_cons_of_mem _ hx)) fun p hp => h3 p (List.mem_cons_of_mem _ hp), Bool.eq_iff_iff, Bool.and_eq_true, decide_eq_true_eq, decide_eq_true_eq, decide_eq_true_eq, List.cons.injEq]
theorem r_neTT (h1 : SqT K H a vs) (h2 : SqT K H b ws) (e1 : ∀ v ∈ vs, eqD v) (e2 : ∀ v ∈ ws, eqD v) (k : ∀ p ∈ vs.zip ws, sameKind p.1 p.2 = true) (q : Q (.bl (!decide (vs = ws))) H) : rNeD K (.ref a) (.ref b) H Q := by
  refine ⟨tupD vs, tupD ws, .tup h1 (dpAll_vD e1), .tup h2 (dpAll_vD e2), shaped_tup e1, shaped_tup e2, ?_⟩
  show Q (.bl (!PyData.eqvAll (vs.map vD) (ws.map vD))) H
  rw [eqv_all e1 e2 k]
  exact q
theorem r_eqTT (h1 : SqT K H a vs) (h2 : SqT K H b ws) (e1 : ∀ v ∈ vs, eqD v) (e2 : ∀ v ∈ ws, eqD v) (k : ∀ p ∈ vs.zip ws, sameKind p.1 p.2 = true) (q : Q (.bl (decide (vs = ws))) H) : rEqD K (.ref a) (.ref b) H Q := by
  refine ⟨tupD vs, tupD ws, .tup h1 (dpAll_vD e1), .tup h2 (dpAll_vD e2), shaped_tup e1, shaped_tup e2, ?_⟩
  show Q (.bl (PyData.eqvAll (vs.map vD) (ws.map vD))) H
  rw [eqv_all e1 e2 k]
  exact q
theorem r_neLL (h1 : SqL K H a vs) (h2 : SqL K H b ws) (e1 : ∀ v ∈ vs, eqD v) (e2 : ∀ v ∈ ws, eqD v) (k : ∀ p ∈ vs.zip ws, sameKind p.1 p.2 = true) (q : Q (.bl (!decide (vs = ws))) H) : rNeD K (.ref a) (.ref b) H Q := by
  refine ⟨lstD vs, lstD ws, .lst h1 (dpAll_vD e1), .lst h2 (dpAll_vD e2), shaped_lst e1, shaped_lst e2, ?_⟩
  show Q (.bl (!PyData.eqvAll (vs.map vD) (ws.map vD))) H
  rw [eqv_all e1 e2 k]
  exact q
end
/-! ### texts whose signs are signs -/
theorem sok_app {x y : Str} (hx : PyData.strOk x = true) (hy : PyData.strOk y = true) : PyData.strOk (x ++ y) = true := by
  show (x.cps ++ y.cps).all _ = true
  rw [Array.all_append]
  exact Bool.and_eq_true_iff.mpr ⟨hx, hy⟩
theorem sok_of (s : String) : PyData.strOk (Str.ofString s) = true := by
  rw [Str.ofString_eq_toList]
  show Array.all _ _ = true
  rw [List.all_toArray, List.all_map, List.all_eq_true]
  intro c _
  refine decide_eq_true ?_
  have := c.valid
  rcases this with z | z
  · exact Nat.lt_trans z (by decide)
  · exact z.2
theorem sok_join : ∀ {ts : List Str}, (∀ t ∈ ts, PyData.strOk t = true) → PyData.strOk (Str.join ", " ts) = true
  | [], _ => by decide +kernel
  | [x], h => h x List.mem_cons_self
  | x :: y :: r, h => by
    show PyData.strOk (x ++ (", " : Str) ++ Str.join ", " (y :: r)) = true
    exact sok_app (sok_app (h x List.mem_cons_self) (sok_of ", ")) (sok_join fun t ht => h t (List.mem_cons_of_mem _ ht))
theorem sok_tup {ts : List Str} (h : ∀ t ∈ ts, PyData.strOk t = true) : PyData.strOk (tupleText ts) = true := by
  unfold tupleText
  exact sok_app (sok_app (sok_of "(") (sok_join h)) (sok_of _)
theorem sok_from : ∀ {ts : List Str} {k : Nat} {acc : Str}, PyData.strOk acc = true → (∀ t ∈ ts, PyData.strOk t = true) → PyData.strOk (textFrom k acc ts) = true
  | [], _, _, ha, _ => ha
  | t :: ts, k, acc, ha, h => by
    unfold textFrom
    refine sok_from ?_ fun x hx => h x (List.mem_cons_of_mem _ hx)
    split
    · exact sok_app (sok_app ha (sok_of ", ")) (h t List.mem_cons_self)
    · exact sok_app ha (h t List.mem_cons_self)
theorem sok_lst {ts : List Str} (h : ∀ t ∈ ts, PyData.strOk t = true) : PyData.strOk (listText ts) = true := by
  unfold listText
  exact sok_app (sok_from (sok_of "[") h) (sok_of "]")
/-- a text whose repr is a text of signs (the laws' own words are) -/
def okR : V → Prop
  | .str x => PyData.strOk (reprText x) = true
  | _ => True
theorem sok_all : ∀ {vs : List V}, (∀ v ∈ vs, okR v) → ∀ t ∈ PyData.shownAll (vs.map vD), PyData.strOk t = true
  | [], _, t, ht => (nomatch ht)
  | v :: vs, h, t, ht => by
    have ht : t ∈ (vD v).shown :: PyData.shownAll (vs.map vD) := ht
    rcases List.mem_cons.mp ht with e | e
    · rw [e]
      cases v with
      | bl b => cases b <;> decide +kernel
      | int i => exact sok_of _
      | str x => exact h _ List.mem_cons_self
      | non => exact sok_of "None"
      | byt b => exact sok_of "None"
      | flt b => exact sok_of "None"
      | ref a => exact sok_of "None"
      | ty n => exact sok_of "None"
    · exact sok_all (fun w hw => h w (List.mem_cons_of_mem _ hw)) t e
theorem sok_tupD {vs : List V} (h : ∀ v ∈ vs, okR v) : PyData.strOk (tupD vs).shown = true := sok_tup (sok_all h)
theorem sok_lstD {vs : List V} (h : ∀ v ∈ vs, okR v) : PyData.strOk (lstD vs).shown = true := sok_lst (sok_all h)
/-! ### a list or a tuple, read alike; comprehensions over tuples and ranges -/
def SqA (K : PySem.W.Frag) (H : Hp) (p : Addr) (xs : List V) : Prop := SqL K H p xs ∨ SqT K H p xs
theorem same_tup {K : PySem.W.Frag} {H H' : Hp} {a : Addr} {xs : List V} (e : Same H H') (h : SqT K H a xs) : SqT K H' a xs := by
  rcases h with (h | ⟨o, h⟩) | h
  · exact .inl (.inl (e _ _ h))
  · exact .inl (.inr ⟨o, e _ _ h⟩)
  · exact .inr h
theorem SqA.same {K : PySem.W.Frag} {H H' : Hp} {a : Addr} {xs : List V} (h : SqA K H a xs) (e : Same H H') : SqA K H' a xs := h.imp (fun z => e.seq z) fun z => same_tup e z
theorem kAt_all {ns : List Int} {P : Int → Prop} (h : ∀ x ∈ ns, P x) {j : Nat} (hj : j < ns.length) : P (kAt ns j) := by
  have e : kAt ns j = ns[j] := by rw [kAt, List.getD_eq_getElem?_getD, List.getElem?_eq_getElem hj]; rfl
  rw [e]
  exact h _ (List.getElem_mem hj)
section
variable {σ : L2.St} {H : Hp} {Q : VK} {te : TE} {K : PySem.W.Frag} {a p : Addr} {xs : List V} {i : Int} {v : V}
theorem r_ixA (h : SqA K H p xs) (e : atI xs i = some v) (q : Q v H) : rIx K (.ref p) (.int i) H Q := by
  rcases h with h | h
  · exact .inl (r_ixL h e q)
  · exact .inr (.inl (r_ixT h e q))
def rTupA (K : PySem.W.Frag) : List V → Hp → VK → Prop := fun xs H Q => ∃ p ys, xs = [.ref p] ∧ ((SqL K H p ys ∧ ∀ l, H l = none → Q (.ref l) (upd H l (.tup ys))) ∨ (SqT K H p ys ∧ Q (.ref p) H))
theorem c_tupA {X : Cx} : CallR X (.type "tuple") (rTupA X.K) := call_tuple_of
theorem r_tupL (h : SqL K H p xs) (q : ∀ l, H l = none → Q (.ref l) (upd H l (.tup xs))) : rTupA K [.ref p] H Q := ⟨p, xs, rfl, .inl ⟨h, q⟩⟩
theorem r_tupA (h : SqA K H p xs) (q : ∀ l H', SqT K H' l xs → Same H H' → Q (.ref l) H') : rTupA K [.ref p] H Q := by
  rcases h with h | h
  · exact ⟨p, xs, rfl, .inl ⟨h, fun l nl => q l _ (SqT.of upd_same) (same_new nl)⟩⟩
  · exact ⟨p, xs, rfl, .inr ⟨h, q p H h (Same.refl H)⟩⟩
def rListA (K : PySem.W.Frag) : List V → Hp → VK → Prop := fun xs H Q => ∃ p ys, xs = [.ref p] ∧ (SqL K H p ys ∨ SqT K H p ys) ∧ ∀ l, H l = none → Q (.ref l) (upd H l (.lst ys))
theorem c_listA {X : Cx} : CallR X (.type "list") (rListA X.K) := call_list_of
theorem r_listA (h : SqA K H p xs) (q : ∀ l, H l = none → Q (.ref l) (upd H l (.lst xs))) : rListA K [.ref p] H Q := ⟨p, xs, rfl, h, q⟩
theorem r_catT {b : Addr} {ys : List V} (h1 : SqT K H a xs) (h2 : SqT K H b ys) (n1 : xs ≠ []) (n2 : ys ≠ []) (hz : xs.length + ys.length ≤ 1000) (q : ∀ p, H p = none → Q (.ref p) (upd H p (.tup (xs ++ ys)))) : rCatT K (.ref a) (.ref b) H Q :=
  ⟨a, b, xs, ys, rfl, rfl, h1, h2, n1, Nat.le_of_lt (small1000 hz), fun z => absurd z n2, fun _ => q⟩
theorem lc_mapT {n : Nat} (f : V → V) (hS : SqT K H a xs) (hz : xs.length ≤ 1000) (he : ∀ (x : V) (H' : Hp) (QQ : VK), x ∈ xs → Same H H' → QQ (f x) H' → te ((wipe σ [n]).set n (some x)) H' QQ)
    (hq : ∀ D, H D = none → Q (.ref D) (upd H D (.lst (xs.map f)))) : lcGo (Itt K a) (gName n) tYes te [n] σ Q H := by
  intro D hD
  refine lc_tup (K := K) (a := a) (xs := xs) (fun i H' => H' = upd H D (.lst ((xs.take i).map f))) rfl (fun i H' _ e => by subst e; exact same_tup (same_new hD) hS) ?_ ?_
  · rintro i x H' hx rfl
    refine ⟨wipe1, ?_⟩
    show te _ _ _
    refine he x _ _ (List.mem_of_getElem? hx) (same_new hD) ⟨(xs.take i).map f, upd_same, ?_, ?_⟩
    · rw [List.length_map, List.length_take]
      exact small1000 (by omega)
    · rw [upd_upd, List.take_add_one, hx, List.map_append]
      rfl
  · rintro H' rfl
    rw [List.take_length]
    exact hq D hD
theorem lc_mapR {n m : Nat} {lo : Int} (f : Nat → V) (hm : m ≤ 1000) (he : ∀ (i : Nat) (H' : Hp) (QQ : VK), i < m → Same H H' → QQ (f i) H' → te ((wipe σ [n]).set n (some (.int (lo + i)))) H' QQ)
    (hq : ∀ D, H D = none → Q (.ref D) (upd H D (.lst ((List.range m).map f)))) : lcGo (Itr lo m) (gName n) tYes te [n] σ Q H := by
  intro D hD
  refine lc_range (fun i H' => H' = upd H D (.lst ((List.range i).map f))) rfl ?_ ?_
  · rintro i H' hi rfl
    refine ⟨wipe1, ?_⟩
    show te _ _ _
    refine he i _ _ hi (same_new hD) ⟨(List.range i).map f, upd_same, ?_, ?_⟩
    · rw [List.length_map, List.length_range]
      exact small1000 (by omega)
    · rw [upd_upd, List.range_succ, List.map_append]
      rfl
  · rintro H' rfl
    exact hq D hD
end
/-! ### xs != [] of any items; comprehensions with any target -/
def rNeE (K : PySem.W.Frag) : R2 := fun x y H Q => ∃ a b xs, x = .ref a ∧ y = .ref b ∧ SqL K H a xs ∧ SqL K H b [] ∧ Q (.bl (!xs.isEmpty)) H
theorem op_neE {X : Cx} (hu : X.A.units < cLine) : OpR X (compareOp .NotEq) (rNeE X.K) := by
  intro pins s σ H x y v u Q I rx ry h
  obtain ⟨a, b, xs, rfl, rfl, h1, h2, q⟩ := h
  cases (show v = Value.ref a from rx)
  cases (show u = Value.ref b from ry)
  obtain ⟨its, r1, ⟨o1, n1, g1, c1, _, d1⟩, _⟩ := I.list h1
  obtain ⟨its2, r2, ⟨o2, n2, g2, c2, _, d2⟩, _⟩ := I.list h2
  cases r2
  show wpAny _ _ (richCompare .NotEq _ _) _ _ _
  cases r1 with
  | nil => exact SeqAt.RcNeAt.lists (e := fun _ => true) ⟨o1, g1, c1, n1, d1⟩ ⟨o2, g2, c2, n2, d2⟩ rfl hu (fun j h1 _ => absurd h1 (Nat.not_lt_zero j)) _ _ _ _ ⟨.bl false, H, I, rfl, q⟩
  | cons ra rb => exact SeqAt.RcNeAt.lists_lengths ⟨o1, g1, c1, n1, d1⟩ ⟨o2, g2, c2, n2, d2⟩ rfl hu _ _ _ _ ⟨.bl true, H, I, rfl, q⟩
section
variable {σ : L2.St} {H : Hp} {Q : VK} {te : TE} {K : PySem.W.Frag} {a b : Addr} {xs : List V}
theorem r_neE (h1 : SqL K H a xs) (h2 : SqL K H b []) (q : Q (.bl (!xs.isEmpty)) H) : rNeE K (.ref a) (.ref b) H Q := ⟨a, b, xs, rfl, rfl, h1, h2, q⟩
/-- [e for target in xs], e a value by a function of the item -/
theorem lc_mapG {g : TG} {vs : List Nat} (f : V → V) (hS : SqL K H a xs) (hz : xs.length ≤ 1000) (he : ∀ (x : V) (H' : Hp) (QQ : VK), x ∈ xs → Same H H' → QQ (f x) H' → g x (wipe σ vs) H' fun σ2 H2 => wipe σ2 vs = wipe σ vs ∧ te σ2 H2 QQ)
    (hq : ∀ D, H D = none → Q (.ref D) (upd H D (.lst (xs.map f)))) : lcGo (Itl K a) g tYes te vs σ Q H := by
  intro D hD
  refine lc_list (K := K) (a := a) (xs := xs) (fun i H' => H' = upd H D (.lst ((xs.take i).map f))) rfl (fun i H' _ e => by subst e; exact (same_new hD).seq hS) ?_ ?_
  · rintro i x H' hx rfl
    refine he x _ _ (List.mem_of_getElem? hx) (same_new hD) ⟨(xs.take i).map f, upd_same, ?_, ?_⟩
    · rw [List.length_map, List.length_take]
      exact small1000 (by omega)
    · rw [upd_upd, List.take_add_one, hx, List.map_append]
      rfl
  · rintro H' rfl
    rw [List.take_length]
    exact hq D hD
end
section
variable {σ : L2.St} {H : Hp} {Q : VK} {te : TE} {tt : TT} {K : PySem.W.Frag} {a : Addr} {xs : List V}
/-- [x for x in xs if test]: what passes the test -/
theorem lc_filt {n : Nat} (f : V → Bool) (hS : SqL K H a xs) (hz : xs.length ≤ 1000) (ht : ∀ (x : V) (H' : Hp) (QT : Bool → Hp → Prop), x ∈ xs → Same H H' → QT (f x) H' → tt ((wipe σ [n]).set n (some x)) H' QT)
    (he : ∀ (x : V) (H' : Hp) (QQ : VK), x ∈ xs → Same H H' → QQ x H' → te ((wipe σ [n]).set n (some x)) H' QQ) (hq : ∀ D, H D = none → Q (.ref D) (upd H D (.lst (xs.filter f)))) : lcGo (Itl K a) (gName n) tt te [n] σ Q H := by
  intro D hD
  refine lc_list (K := K) (a := a) (xs := xs) (fun i H' => H' = upd H D (.lst ((xs.take i).filter f))) rfl (fun i H' _ e => by subst e; exact (same_new hD).seq hS) ?_ ?_
  · rintro i x H' hx rfl
    have hx' := List.mem_of_getElem? hx
    refine ⟨wipe1, ht x _ _ hx' (same_new hD) ?_⟩
    cases hf : f x with
    | true =>
      refine he x _ _ hx' (same_new hD) ⟨(xs.take i).filter f, upd_same, ?_, ?_⟩
      · refine small1000 (Nat.le_trans (List.length_filter_le _ _) ?_)
        rw [List.length_take]
        omega
      · rw [upd_upd, List.take_add_one, hx, List.filter_append]
        show _ = upd H D (.lst (_ ++ List.filter f [x]))
        rw [List.filter_cons, if_pos hf]
        rfl
    | false =>
      show _ = _
      rw [List.take_add_one, hx, List.filter_append]
      show _ = upd H D (.lst (_ ++ List.filter f [x]))
      rw [List.filter_cons, if_neg (by rw [hf]; exact Bool.false_ne_true)]
      show _ = upd H D (.lst (_ ++ []))
      rw [List.append_nil]
  · rintro H' rfl
    rw [List.take_length]
    exact hq D hD
end
theorem sort1 {ns : List Int} {a : Int} (h : ns.Perm [a]) : ns = [a] := List.perm_singleton.mp h
theorem sort2 {ns : List Int} {a b : Int} (h : ns.Perm [a, b]) (hp : ns.Pairwise (· ≤ ·)) : ns = if b < a then [b, a] else [a, b] := by
  obtain ⟨x, y, rfl⟩ : ∃ x y, ns = [x, y] := by
    match ns, h.length_eq with
    | [x, y], _ => exact ⟨x, y, rfl⟩
  have hxy : x ≤ y := by
    have := List.rel_of_pairwise_cons hp (List.mem_singleton_self y)
    exact this
  have hx : x ∈ [a, b] := h.mem_iff.mp List.mem_cons_self
  simp only [List.mem_cons, List.mem_nil_iff, or_false] at hx
  rcases hx with rfl | rfl
  · have hy := List.perm_singleton.mp h.cons_inv
    cases hy
    rw [if_neg (by omega)]
  · have hy := List.perm_singleton.mp (h.trans (List.Perm.swap _ _ _)).cons_inv
    cases hy
    split
    · rfl
    · have : x = a := by omega
      rw [this]
section
variable {σ : L2.St} {H : Hp} {Q : VK} {te : TE} {tt : TT} {K : PySem.W.Frag} {a : Addr} {xs : List V}
/-- the same over a tuple -/
theorem lc_filtT {n : Nat} (f : V → Bool) (hS : SqT K H a xs) (hz : xs.length ≤ 1000) (ht : ∀ (x : V) (H' : Hp) (QT : Bool → Hp → Prop), x ∈ xs → Same H H' → QT (f x) H' → tt ((wipe σ [n]).set n (some x)) H' QT)
    (he : ∀ (x : V) (H' : Hp) (QQ : VK), x ∈ xs → Same H H' → QQ x H' → te ((wipe σ [n]).set n (some x)) H' QQ) (hq : ∀ D, H D = none → Q (.ref D) (upd H D (.lst (xs.filter f)))) : lcGo (Itt K a) (gName n) tt te [n] σ Q H := by
  intro D hD
  refine lc_tup (K := K) (a := a) (xs := xs) (fun i H' => H' = upd H D (.lst ((xs.take i).filter f))) rfl (fun i H' _ e => by subst e; exact same_tup (same_new hD) hS) ?_ ?_
  · rintro i x H' hx rfl
    have hx' := List.mem_of_getElem? hx
    refine ⟨wipe1, ht x _ _ hx' (same_new hD) ?_⟩
    cases hf : f x with
    | true =>
      refine he x _ _ hx' (same_new hD) ⟨(xs.take i).filter f, upd_same, ?_, ?_⟩
      · refine small1000 (Nat.le_trans (List.length_filter_le _ _) ?_)
        rw [List.length_take]
        omega
      · rw [upd_upd, List.take_add_one, hx, List.filter_append]
        show _ = upd H D (.lst (_ ++ List.filter f [x]))
        rw [List.filter_cons, if_pos hf]
        rfl
    | false =>
      show _ = _
      rw [List.take_add_one, hx, List.filter_append]
      show _ = upd H D (.lst (_ ++ List.filter f [x]))
      rw [List.filter_cons, if_neg (by rw [hf]; exact Bool.false_ne_true)]
      show _ = upd H D (.lst (_ ++ []))
      rw [List.append_nil]
  · rintro H' rfl
    rw [List.take_length]
    exact hq D hD
end
/-! ### constants of the top; binding by place and by keywords -/
theorem sqt_const {K : PySem.W.Frag} {H : Hp} {a : Addr} {od : Option Addr} {its : Array Value} {n : Nat} {sl : Array (Option Value)} {vs : List V} (h : K.lookup a = some ⟨.type "tuple", od, .seq its n, sl⟩) (r : Vals vs its.toList) (hl : vs.length ≤ 1000) : SqT K H a vs := by
  refine .inr ⟨_, its, n, h, rfl, rfl, ?_, r⟩
  have e : its.size = vs.length := (Array.length_toList (xs := its)).symm.trans r.length.symm
  rw [e]
  exact Nat.le_of_lt (small1000 hl)
theorem kb_mkN {K : PySem.W.Frag} {x qual : Str} {st : Stmt} {f : Addr} {fd : FuncData} {ps ks : List Str} {n : Nat} (F : Fun K x qual st f fd)
    (h : ∀ (kV doc pm : Value) (an : Option Addr) (cdv ct : Value) (us ws : List Value), us.length = n → ws.length = ks.length → bindArgs (PySem.W.fnOf x qual (defArgs st) (defBody st) (defScope st) .none kV doc pm an cdv ct) ⟨us, ks.zip ws⟩ = pure (ps.zip (us ++ ws))) :
    KBn K fd ps n ks (fun us ws => us ++ ws) (fun vs zs => vs ++ zs) := by
  obtain ⟨oc, od, kV, doc, pm, an, cdv, ct, osl, rfl, lk, hcd⟩ := F.ex
  exact ⟨fun s us ws _ l1 l2 => .of_eq (h kV doc pm an cdv ct us ws l1 l2), fun r1 r2 => r1.append r2⟩
theorem r_makeN {C : Addr} {n m : Nat} {sp : Sp} {gV : List V → List V → List V} {E : XK} {t tk : TA} {σ : L2.St} {H : Hp} {Q : VK} (h : t σ H fun vs H1 => tk σ H1 fun zs H2 => vs.length = n ∧ zs.length = m ∧ ∀ x dx, H2 x = none → H2 dx = none → dx ≠ x → sp (gV (.ref x :: vs) zs) (upd (upd H2 dx (.own x)) x (.ins C dx [])) (fun v H3 => v = .non ∧ Q (.ref x) H3) E) : tMakeN C n m sp gV E t tk σ H Q := h
theorem r_inT {K : PySem.W.Frag} {H : Hp} {Q : VK} {neg : Bool} {x : V} {p : Addr} {xs : List V} (h : SqT K H p xs) (h1 : flatV x = true) (h2 : xs.all flatV = true) (q : Q (.bl (if neg then !inV x xs else inV x xs)) H) : rIn K neg x (.ref p) H Q := ⟨p, xs, rfl, .inr h, h1, h2, q⟩
theorem r_inL {K : PySem.W.Frag} {H : Hp} {Q : VK} {neg : Bool} {x : V} {p : Addr} {xs : List V} (h : SqL K H p xs) (h1 : flatV x = true) (h2 : xs.all flatV = true) (q : Q (.bl (if neg then !inV x xs else inV x xs)) H) : rIn K neg x (.ref p) H Q := ⟨p, xs, rfl, .inl h, h1, h2, q⟩
/-! ### isinstance of a caught error with attributes of its own: both answers -/
section
open PySem.W PySem.Calls
variable {prog : Program} {w : World} {A : Around} {E : Value → Shared → Prop} {st : Shared} {K : PySem.W.Frag} {x D : Addr} {ob : Obj} {dob : Option Obj}
/-- e.__class__ of an error, whatever its own dict holds -/
theorem cls_of_error {Q : Option Value → Shared → Prop} (C : ExcC K D) (X : K.In st.heap) (I : PySem.W.InstAt st.heap x ob D dob) (h : Q (some (.ref D)) { st with toks := st.toks + 1 }) : wpAny (model prog w) A (getAttr? (.ref x) "__class__") Q E st := by
  have found : findObj K D dob "__class__" = some (.bind (.builtin "getset_descriptor.__get__") (.builtin "object.__class__")) := by
    obtain ⟨cd, hc, _⟩ := any_some C.hd
    unfold findObj; rw [hc, Option.bind_some, C.ha, Option.bind_some]; simp [C.hn, C.ht]
  obtain ⟨hp, g, d, t, os⟩ := st
  have T0 := I.type (M := model prog w)
  have T1 := looks_findIn (M := model prog w) X C.hg
  have T2 := looks_findIn (M := model prog w) X C.hk
  have T3 := looks_find (M := model prog w) X I found
  have isB : Looks (model prog w) hp (isInstance (.ref x) (.type "BaseException")) true := T0.andThen (looks_subIn X C.hs)
  have z2 : (Value.builtin "BaseException.__getattribute__" == Value.builtin "object.__getattribute__") = false := by decide +kernel
  have z1 : (onTheHeap (Value.ref D) && Value.builtin "BaseException.__getattribute__" == Value.builtin "object.__getattribute__") = false := by rw [z2] <;> rfl
  have z0 : (false && onTheHeap (Value.builtin "BaseException.__getattribute__")) = false := rfl
  unfold getAttr? getAttrBy?; unfold getAttrBy
  refine wpAny_bind (wpAny_mkText (wpAny_bind (wpAny_attempt (wpAny_holding (wpAny_bind (T0.at (wpAny_bind (T1.at ?_))))))))
  show wpAny _ _ (if (onTheHeap (Value.ref D) && Value.builtin "BaseException.__getattribute__" == Value.builtin "object.__getattribute__") = true then _ else _) _ _ _; rw [z1, if_neg Bool.false_ne_true]
  unfold getAttrByItsOwn; unfold hookBefore
  refine wpAny_bind ?_
  rw [if_pos (show onTheHeap (Value.ref D) = true from rfl)]; refine T2.at ?_
  refine wpAny_bind (wpAny_attempt (wpAny_holding ?_)); unfold callGetattribute
  rw [z0, if_neg Bool.false_ne_true]
  unfold boundAndCalled; rw [PySem.F.excAttr_ValueError.ga.bind (.ref x)]
  refine wpAny_bind (wpAny_pure ?_)
  show wpAny _ _ (call (.builtin "BaseException.__getattribute__") [.ref x, .str "__class__" t]) _ _ _; refine wpAny_call (codeAny_call_builtin PySem.F.excAttr_ValueError.ga.plain PySem.F.entry_bexc_ga ?_)
  refine @check_slot (model prog w) _ _ ⟨hp, g, d, t + 1, os⟩ "BaseException.__getattribute__" "BaseException" "__getattribute__" (.ref x) [.str "__class__" t] [] _ (by decide +kernel) (by decide +kernel) isB (PySem.F.args_bexc_ga (.ref x) (.str "__class__" t)) ?_
  unfold Builtin.«object.__getattribute__»; refine wpAny_bind (wpAny_of_eq (a := ((Value.ref x : Value), [Value.str "__class__" t])) (by first | rfl | (simp only [slotArgs]; rfl)) ?_)
  refine wpAny_bind (wpAny_pure (wpAny_bind (T0.at (wpAny_bind (T3.at ?_)))))
  show wpAny _ _ (holding [Value.builtin "object.__class__"] (call (.builtin "getset_descriptor.__get__") [.builtin "object.__class__", .ref x, .ref D]) >>= ret) _ _ _; refine wpAny_bind (wpAny_holding (wpAny_call (class_get (s := ⟨hp, g, d, t + 1, os⟩) (ox := ob) (od := dob) X I C.hm ?_)))
  refine wpAny_pure ?_; show wpAny _ _ (handedOut (.ref D)) _ _ _; rw [handedOut_of (v := .ref D) rfl]
  first | exact wpAny_pure (wpAny_pure h) | exact wpAny_pure h | exact wpAny_pure (wpAny_bind (wpAny_pure (wpAny_pure h)))
theorem kit_error (C : ExcC K D) : PySem.W.KitX K (.ref x) (.ref D) (fun h => PySem.W.InstAt h x ob D dob) where
  ty := fun _ _ _ I => I.type
  it := fun _ _ X _ => by
    obtain ⟨cd, hc, _⟩ := any_some C.hd
    unfold clsIn at hc
    split at hc
    · rename_i ho
      intro A' Q' E' s' k q
      unfold isType loadHead; exact wpAny_bind (wpAny_loadPart (k _ _ (X _ _ ho)) (wpAny_pure q))
    · cases hc
  ne := fun h tp dd its n sl X htp => by
    obtain ⟨cd, hc, _⟩ := any_some C.hd
    refine Bool.eq_false_iff.mpr fun q => ?_
    obtain rfl : D = tp := Value.ref.inj (beq_iff_eq.mp q)
    unfold clsIn at hc
    split at hc
    · rename_i ho; cases (X _ _ ho).symm.trans htp
    · cases hc
  ca := fun X I k => cls_of_error C X I k
end
def rIsX (K : PySem.W.Frag) (cls : Value) (d : Option Addr) (a : Addr) : List V → Hp → VK → Prop := fun xs H Q => ∃ (D dd : Addr) (fs : List (Str × V)) (c : V) (cv : Value) (b : Bool), cls = .ref D ∧ ExcC K D ∧ d = some dd ∧ H dd = some (.xd fs) ∧ xs = [.ref a, c] ∧ ClsV c cv ∧ PySem.W.kitOne K (.ref D) cv = some b ∧ Q (.bl b) H
theorem call_isX {X : Cx} {a : Addr} {oe : Obj} {cls : Value} {d : Option Addr} {pn : List (Addr × Obj)} (hz : Zc cls d oe) (hf : ∃ vs, oe.data = .fields vs) : CallR (X.suite a ((a, oe) :: pn)) (.builtin "isinstance") (rIsX X.K cls d a) := by
  intro pins s σ H xs us Q I r h
  obtain ⟨D, dd, fs, c, cv, b, rfl, C, rfl, ea, rfl, hc, e, q⟩ := h
  obtain ⟨u1, u2, rfl, r1, r2⟩ := vals2 r
  cases (show u1 = Value.ref a from r1)
  cases hc.eq r2
  obtain ⟨ha, _⟩ := I.pin (a, oe) (List.mem_append_left _ List.mem_cons_self)
  obtain ⟨vs, hv⟩ := hf
  have ho : ObjOk X.prog X.w H s.heap dd (.xd fs) := I.hok dd _ ea
  obtain ⟨mA, hns, _⟩ := ho
  obtain ⟨od, ho, _⟩ := lookIn_ns hns
  have J : PySem.W.InstAt s.heap a oe D (some od) := ⟨ha, hz.1, by unfold PySem.W.notCls; rw [hv] <;> rfl, by rw [hz.2]; exact ho⟩
  exact PySem.W.kia_one (kit_error C) I.kIn J e (fun z => nomatch z) fun tk => ⟨.bl b, H, I.kept (t' := tk) fun _ _ z => z, rfl, q⟩
theorem r_isX {K : PySem.W.Frag} {a D dd : Addr} {fs : List (Str × V)} {c : V} {cv : Value} {b : Bool} {H : Hp} {Q : VK} (C : ExcC K D) (hd : H dd = some (.xd fs)) (hc : ClsV c cv) (e : PySem.W.kitOne K (.ref D) cv = some b) (q : Q (.bl b) H) : rIsX K (.ref D) (some dd) a [.ref a, c] H Q := ⟨D, dd, fs, c, cv, b, rfl, C, rfl, hd, rfl, hc, e, q⟩
/-! ### several except clauses, each with a name -/
/-- the clauses' wishes: class, slot of the name, suite -/
def wManyA (K : PySem.W.Frag) (Wout : WX) (D : Ends) : List (Value × Nat × (Addr → Value → Option Addr → TS)) → WX
  | [] => Wout
  | (c, i, ts) :: r => fun cls d σ H => ∃ b, PySem.W.exmOne K cls c = some b ∧ (b = true → ∀ a, H a = none → ts a cls d { D with nx := fun σ' H' => D.nx (σ'.set i none) H', bk := fun σ' H' => D.bk (σ'.set i none) H', ct := fun σ' H' => D.ct (σ'.set i none) H' } (σ.set i (some (.ref a))) H) ∧ (b = false → wManyA K Wout D r cls d σ H)
inductive HdsA (X : Cx) : List ExceptHandler → List (Value × Nat × (Addr → Value → Option Addr → TS)) → Prop
  | nil : HdsA X [] []
  | cons {x n : Str} {c : Value} {i : Nat} {ts : Addr → Value → Option Addr → TS} {b₀ : Stmt} {suite : List Stmt} {np pos' : Pos} {hds : List ExceptHandler} {l : List (Value × Nat × (Addr → Value → Option Addr → TS))} (hi : X.N[i]? = some n) (hln : X.env.kindOf n = some .local) (hc : Names X x c)
      (hsu : ∀ (a : Addr) (oe : Obj) (cls : Value) (d : Option Addr) (pn : List (Addr × Obj)), Zc cls d oe → (∃ vs, oe.data = .fields vs) → PSs (X.suite a ((a, oe) :: pn)) (b₀ :: suite) (ts a cls d)) (r : HdsA X hds l) :
      HdsA X (.ExceptHandler (some (.Name x np)) (some n) (b₀ :: suite) pos' :: hds) ((c, i, ts) :: l)
theorem ps_try_manyA {X : Cx} {body : List Stmt} {h₀ : ExceptHandler} {hds : List ExceptHandler} {l : List (Value × Nat × (Addr → Value → Option Addr → TS))} {pos : Pos} {tb : WX → TS} {Wout : WX} (hs : X.stack = X.env :: X.outer) (hf : X.env.frame = some X.env.locals) (hN : X.N.Nodup) (tk : Takes X Wout)
    (hb : ∀ (W : WX) (pn : List (Addr × Obj)) (xe : Value → Shared → Prop), Takes (X.tr pn xe) W → PassesOwn (model X.prog X.w) X.A X.env xe → PSs (X.tr pn xe) body (tb W))
    (hh : HdsA X (h₀ :: hds) l) : PS X (.Try body (h₀ :: hds) [] [] pos) (fun D σ H => tb (wManyA X.K Wout D l) D σ H) := by
  refine ⟨fun pins s σ H D I h => ?_⟩
  have ok := I.ok; have hfr : X.A.frames = some (X.env :: X.outer) := by rw [ok.frames, hs]
  refine wpAny_Try_except ?_
  refine wpAny_mono ((hb (wManyA X.K Wout D l) (X.pn ++ pins) (fun e s₁ => wpAny (model X.prog X.w) X.A (noteFrame e X.env) (fun _ s₂ => wpAny (model X.prog X.w) X.A (setFlight e none) (fun _ s₃ =>
    wpAny (model X.prog X.w) X.A (handleBy e X.env (h₀ :: hds)) (SP X pins D) X.xe s₃) X.xe s₂) X.xe s₁) (fun u s' xx => ?_) PassesOwn.looking).run [] s σ H D (I.toTry _) h) (fun f s1 hsp => ?_) (fun e s1 he => he)
  · obtain ⟨a, B, sI, pins', σ', H', cls, d, rfl, J', nb, up, sky, na, os, ag, w⟩ := xx
    have J : Inv X pins σ' H' sI := J'.ofTry ok; have sky' : Sky B (X.env :: X.outer) a (Zc cls d) X.env.locals s'.heap := by rw [← hs]; exact sky
    show wpAny (model X.prog X.w) X.A (noteFrame (.ref a) X.env) _ _ _; refine Sky.land Zc.steady hfr hf sky' fun h3 fl3 up3 => ?_
    have J3 : Inv X pins σ' H' { s' with heap := h3 } := J.landed nb fl3.1 (up.trans up3) os ag; obtain ⟨oe3, vs3, he3, hz3, hd3⟩ := fl3.there
    have nfr : a ∉ frs (X.env :: X.outer) := fun hm => by
      obtain ⟨_, o', e', hnf⟩ := fl3.2.2.1.mem hm
      rw [he3] at e'; cases e'; exact hnf _ hd3
    have nL : a ≠ X.env.locals := fun z => nfr (List.mem_filterMap.mpr ⟨X.env, List.mem_cons_self, by rw [hf, z]⟩); have nF : a ∉ X.fs := fun hm => by
      obtain ⟨e, he, q⟩ := List.mem_filterMap.mp hm; exact nfr (List.mem_filterMap.mpr ⟨e, List.mem_cons_of_mem _ he, q⟩)
    have S3 := J3.suite he3 hd3 na nL nF; clear h hb; suffices go : ∀ {hds' : List ExceptHandler} {l' : List (Value × Nat × (Addr → Value → Option Addr → TS))}, HdsA X hds' l' → wManyA X.K Wout D l' cls d σ' H' →
        wpAny (model X.prog X.w) X.A (handleBy (.ref a) X.env hds') (SP X pins D) X.xe { s' with heap := h3 } from go hh w
    intro hds' l' hk
    induction hk with
    | nil =>
      intro w; refine wpAny_handleBy_nil ?_
      obtain ⟨k1, k2, k3, oe, vs, T, oT, ts', he, hz, hd, h1, hr⟩ := id fl3; unfold PySem.passOn
      refine wpAny_bind (wpAny_field he hd h1 ?_); rw [if_neg (show ¬ ((Value.ref T == Value.none) = true) from by simp)]
      have fin : wpAny (model X.prog X.w) X.A (setFlight (.ref a) X.env.frame) (fun _ s4 => wpAny (model X.prog X.w) X.A (throw (.ref a) : Sem Flow) (SP X pins D) X.xe s4) X.xe { s' with heap := h3 } := by
        rw [hf]; refine HandSPX.setFlight_upZ fl3 fun h4 hh4 up4 => wpAny_throw (tk _ _ ?_)
        exact ⟨a, B, sI, pins, σ', H', cls, d, rfl, J, nb, (up.trans up3).trans up4, .inr (.inr (by rw [hs]; exact hh4)), na, os, ag, w⟩
      first | exact wpAny_bind (wpAny_pure (wpAny_bind fin)) | exact wpAny_bind fin
    | @cons x n c i ts b₀ suite np pos' hds2 l2 hi hln hc hsu r ih =>
      intro w; obtain ⟨b, hb1, hyes, hno⟩ := w
      refine wpAny_handleBy_cons (codeAny_handlers_test ?_) (by intro q; cases q); have LT : PySem.W.Looks (model X.prog X.w) h3 (typeOf (.ref a)) cls := fun A Q E s k q => wpAny_typeOf_ref (k _ _ he3) (by rw [hz3.1]; exact q)
      have LM := PySem.W.exm_one (M := model X.prog X.w) (J3.kIn) LT hb1; have test : ∀ {Q : Value → Shared → Prop} {E : Value → Shared → Prop}, Q c { s' with heap := h3 } → wpAny (model X.prog X.w) (X.A.mark (some (.ref a))) (eval (.Name x np) X.env) Q E { s' with heap := h3 } := fun {Q E} q => by
        obtain ⟨hg, hdbg, hm | ⟨hm, hv, hnn⟩⟩ := hc
        · exact ld_glob (X := X.suite a ((a, oe3) :: (X.pn ++ pins))) S3 hg hm q hdbg
        · exact ld_blt (X := X.suite a ((a, oe3) :: (X.pn ++ pins))) S3 hg hm hv q hnn hdbg
      refine test (LM.here ?_)
      cases b with
      | false => exact ih (hno rfl)
      | true =>
        refine codeAny_handlers_suite_as ?_; refine HandSPX.lands_againZ fl3 fun h4 fl4 up4 => ?_
        have J4 : Inv X pins σ' H' { s' with heap := h4 } := J.landed nb fl4.1 ((up.trans up3).trans up4) os ag; obtain ⟨oe4, vs4, he4, hz4, hd4⟩ := fl4.there
        have S4 := J4.suite he4 hd4 na nL nF
        have hloc : Loc X.env.scope n := .inl hln; refine store_ok (X := X.suite a ((a, oe4) :: (X.pn ++ pins))) (v := .ref a) S4 hN hi hloc rfl (fun s5 S5 => ?_) (.inr hln)
        refine wpAny_mono ((hsu a oe4 cls d (X.pn ++ pins) hz4 ⟨_, hd4⟩).run [] s5 _ H' _ S5 (hyes rfl a na)) (fun f s6 hsp => ?_) (fun _ _ z => False.elim z)
        have end_ : ∀ {σ6 : L2.St} {H6 : Hp} {Q : Shared → Prop}, Inv (X.suite a ((a, oe4) :: (X.pn ++ pins))) [] σ6 H6 s6 → (∀ s7, Inv X pins (σ6.set i none) H6 s7 → Q s7) →
            wpAny (model X.prog X.w) X.A (do bindName X.env n .none; unbindBehindTheSuite X.env n pos') (fun _ s7 => Q s7) X.xe s6 := fun {σ6 H6 Q} S6 hq => gone_ok (S6.unsuite ok) hN hi hln hq
        cases f with
        | next => obtain ⟨σ6, H6, S6, q6⟩ := hsp; exact end_ S6 fun s7 J7 => ⟨_, _, J7, q6⟩
        | brk => obtain ⟨σ6, H6, S6, q6⟩ := hsp; exact end_ S6 fun s7 J7 => ⟨_, _, J7, q6⟩
        | cont => obtain ⟨σ6, H6, S6, q6⟩ := hsp; exact end_ S6 fun s7 J7 => ⟨_, _, J7, q6⟩
        | ret u => obtain ⟨v6, σ6, H6, S6, r6, q6⟩ := hsp; exact end_ S6 fun s7 J7 => ⟨_, _, _, J7, r6, q6⟩
  · cases f with
    | next => obtain ⟨σ', H', J', q⟩ := hsp; exact wpAny_execs_nil ⟨σ', H', J'.ofTry ok, q⟩
    | brk => obtain ⟨σ', H', J', q⟩ := hsp; exact ⟨σ', H', J'.ofTry ok, q⟩
    | cont => obtain ⟨σ', H', J', q⟩ := hsp; exact ⟨σ', H', J'.ofTry ok, q⟩
    | ret u => obtain ⟨v, σ', H', J', r, q⟩ := hsp; exact ⟨v, σ', H', J'.ofTry ok, r, q⟩
/-! ### C(e, .., k = v, ..) within a try, where __init__ may raise -/
def tMakeNS (C : Addr) (n m : Nat) (sp : Sp) (gV : List V → List V → List V) (E : L2.St → XK) (t tk : TA) : TE := fun σ H Q => t σ H fun vs H1 => tk σ H1 fun zs H2 => vs.length = n ∧ zs.length = m ∧ ∀ x dx, H2 x = none → H2 dx = none → dx ≠ x → sp (gV (.ref x :: vs) zs) (upd (upd H2 dx (.own x)) x (.ins C dx [])) (fun v H3 => v = .non ∧ Q (.ref x) H3) (E σ)
theorem pe_makeNS {X : Cx} {CX : CXT} {k n : Nat} {f C : Addr} {fd : FuncData} {ps ks : List Str} {sp : Sp} {x : Str} {p pos : Pos} {e : Expr} {es : List Expr} {kws : List Keyword} {t tk : TA} {g : List Value → List Value → List Value} {gV : List V → List V → List V} {E : L2.St → XK}
    (M : Mk X.K C f) (F : FnOk X.prog X.w X.K X.mg X.base CX k f fd ps sp) (hr : Room (k + 1) X.A) (hg : Gl X x) (hm : X.mg x = some (.ref C)) (hb : KBn X.K fd ps (n + 1) ks g gV) (hx : ∀ σ, PassesAt CX X σ (E σ)) (ha : PA X (e :: es) t) (hkw : PK X kws tk)
    (hall : (backToKw pos (keywordEach kws X.env)).all (fun q => q.1.isSome) = true := by rfl) (hks : (backToKw pos (keywordEach kws X.env)).filterMap (fun q => q.1) = ks := by rfl) (hdb : (x == ("__debug__" : Str)) = false := by decide)
    (he : starEach (e :: es) X.env = (false, eval e X.env) :: starEach es X.env := by rfl) (hpl : ((backTo pos (starEach (e :: es) X.env)).any (fun q => q.1) || (backToKw pos (keywordEach kws X.env)).any (fun q => q.1.isNone)) = false := by rfl) :
    PE X (.Call (.Name x p) (e :: es) kws pos) (tMakeNS C n ks.length sp gV E t tk) := by
  refine ⟨fun pins s σ H Q I h => wpAny_Call_Name_kw (ld_glob I hg hm ?_ hdb)⟩
  refine PySem.W.callWith_KW (h₀ := X.base) I.ok.mod.kin M.kp hall (thn (ha.run pos pins s σ H _ I h) fun us s1 hh => ?_) hpl he
  obtain ⟨vs, H1, I1, r, q⟩ := hh
  refine thn (hkw.run pos pins s1 σ H1 _ I1 q) fun ws s2 hw => ?_
  obtain ⟨zs, H2, I2, rz, l1, l2, q2⟩ := hw
  refine ⟨I2.kIn, ?_⟩
  rw [hks]
  exact run_makeA (fu := fun v => g (v :: us) ws) (fv := fun v => gV (v :: vs) zs) M F hr (fun s' v inn => hb.to s' (v :: us) ws inn (congrArg Nat.succ (r.length.symm.trans l1)) (rz.length.symm.trans l2)) (fun a => hb.rel (.cons rfl r) rz) (hx σ) I2 q2
theorem r_makeNS {C : Addr} {n m : Nat} {sp : Sp} {gV : List V → List V → List V} {E : L2.St → XK} {t tk : TA} {σ : L2.St} {H : Hp} {Q : VK} (h : t σ H fun vs H1 => tk σ H1 fun zs H2 => vs.length = n ∧ zs.length = m ∧ ∀ x dx, H2 x = none → H2 dx = none → dx ≠ x → sp (gV (.ref x :: vs) zs) (upd (upd H2 dx (.own x)) x (.ins C dx [])) (fun v H3 => v = .non ∧ Q (.ref x) H3) (E σ)) : tMakeNS C n m sp gV E t tk σ H Q := h
/-! ### short texts of signs -/
def Wd (z : Str) : Prop := PyData.strOk z = true ∧ z.length ≤ 30
theorem at_strs {ws : List Str} {k : Int} (h0 : 0 ≤ k) (h1 : k < ws.length) : ∃ z, atI (ws.map V.str) k = some (.str z) ∧ z ∈ ws := by
  have hk : k.toNat < ws.length := by omega
  have e : atI (ws.map V.str) (k.toNat : Int) = some (.str ws[k.toNat]) := atI_nat (by rw [List.getElem?_map, List.getElem?_eq_getElem hk]; rfl)
  rw [Int.toNat_of_nonneg h0] at e
  exact ⟨_, e, List.getElem_mem hk⟩
theorem r_lenS {H : Hp} {Q : VK} {K : PySem.W.Frag} {p : Addr} {ws : List Str} (h1 : H p = some (.lst (ws.map V.str))) (h : Q (.int ws.length) H) : rLenL K [.ref p] H Q := ⟨p, _, rfl, .inl (.inl (.inl h1)), by rw [List.length_map]; exact h⟩
theorem len_app (x y : Str) : (x ++ y).length = x.length + y.length := by
  show (x.cps ++ y.cps).size = _
  rw [Array.size_append]
  rfl
theorem cut_sok {z : Str} {lo hi : Option Int} (h : PyData.strOk z = true) : PyData.strOk (cutS z lo hi) = true := by
  show Array.all _ _ = true
  have h : z.cps.all (fun c => decide (c < 0x110000)) = true := h
  rw [← Array.all_toList] at h ⊢
  rw [List.all_eq_true] at h ⊢
  intro x hx
  exact h x (List.mem_of_mem_drop (List.mem_of_mem_take (by simpa [cutS] using hx)))
theorem cut_lenS {z : Str} {lo hi : Option Int} : (cutS z lo hi).length ≤ z.length := by
  show (List.toArray _).size ≤ z.cps.size
  rw [List.size_toArray, List.length_take, List.length_drop, Array.length_toList]
  omega
theorem join_ok : ∀ {ys : List Str}, (∀ y ∈ ys, PyData.strOk y = true ∧ y.length = 1) → PyData.strOk (Str.join "" ys) = true ∧ (Str.join "" ys).length = ys.length
  | [], _ => by decide +kernel
  | [x], h => h x List.mem_cons_self
  | x :: y :: r, h => by
    obtain ⟨i1, i2⟩ := join_ok (ys := y :: r) fun z hz => h z (List.mem_cons_of_mem _ hz)
    obtain ⟨h1, h2⟩ := h x List.mem_cons_self
    show PyData.strOk (x ++ ("" : Str) ++ Str.join "" (y :: r)) = true ∧ (x ++ ("" : Str) ++ Str.join "" (y :: r)).length = _
    refine ⟨sok_app (sok_app h1 (sok_of "")) i1, ?_⟩
    rw [len_app, len_app, i2, h2]
    show 1 + 0 + (r.length + 1) = r.length + 1 + 1
    omega
/-- [e for x in range(..)], e draws: items of any kind -/
theorem lc_drawsG {σ : L2.St} {H : Hp} {Q : VK} {te : TE} {n m : Nat} {lo : Int} {d c r : Addr} {P : V → Prop} (hm : m ≤ 1000) (D0 : Drw H d c r)
    (he : ∀ (i : Nat) (H' : Hp) (QQ : VK), i < m → Drw H' d c r → Ext d r H H' → (∀ (v : V) (H'' : Hp), P v → Drw H'' d c r → Ext d r H' H'' → QQ v H'') → te ((wipe σ [n]).set n (some (.int (lo + i)))) H' QQ)
    (hq : ∀ (l : Addr) (ss : List V) (H' : Hp), ss.length = m → (∀ x ∈ ss, P x) → H l = none → H' l = some (.lst ss) → Drw H' d c r → Ext d r H H' → Q (.ref l) H') : lcGo (Itr lo m) (gName n) tYes te [n] σ Q H := by
  intro l nl
  have ld := D0.ned nl
  have lr := D0.ner nl
  have lc := D0.nec nl
  refine lc_range (fun i H' => ∃ ss : List V, ss.length = i ∧ (∀ x ∈ ss, P x) ∧ H' l = some (.lst ss) ∧ Drw H' d c r ∧ Ext d r H H') ⟨[], rfl, fun x hx => (nomatch hx), upd_same, D0.new nl, Ext.of (same_new nl)⟩ ?_ ?_
  · rintro i H' hi ⟨ss, hl, hp, hs, D1, E1⟩
    refine ⟨wipe1, ?_⟩
    show te _ _ _
    refine he i H' _ hi D1 E1 fun k H'' hk D2 E2 => ⟨ss, E2 _ _ hs ld lr, small1000 (by omega), ?_⟩
    refine ⟨ss ++ [k], by rw [List.length_append, hl]; rfl, fun x hx => ?_, upd_same, D2.put ld lr lc, fun b o e n1 n2 => ?_⟩
    · rcases List.mem_append.mp hx with z | z
      · exact hp x z
      · rw [List.mem_singleton.mp z]; exact hk
    · rw [upd_ne (ne_of_none e nl)]
      exact E2 b o (E1 b o e n1 n2) n1 n2
  · rintro H' ⟨ss, hl, hp, hs, D1, E1⟩
    exact hq l ss H' hl hp nl hs D1 E1
theorem strs_of : ∀ {ss : List V}, (∀ x ∈ ss, ∃ z : Str, x = .str z ∧ PyData.strOk z = true ∧ z.length = 1) → ∃ ys : List Str, ss = ys.map V.str ∧ ∀ y ∈ ys, PyData.strOk y = true ∧ y.length = 1
  | [], _ => ⟨[], rfl, fun _ h => nomatch h⟩
  | x :: ss, h => by
    obtain ⟨ys, e, hy⟩ := strs_of (ss := ss) fun z hz => h z (List.mem_cons_of_mem _ hz)
    obtain ⟨z, rfl, hz⟩ := h x List.mem_cons_self
    refine ⟨z :: ys, by rw [e]; rfl, fun y hm => ?_⟩
    rcases List.mem_cons.mp hm with rfl | hm
    · exact hz
    · exact hy y hm
theorem sum_ones : ∀ {ys : List Str}, (∀ y ∈ ys, y.length = 1) → (ys.map (fun y => y.length)).sum = ys.length
  | [], _ => rfl
  | y :: ys, h => by
    rw [List.map_cons, List.sum_cons, sum_ones fun z hz => h z (List.mem_cons_of_mem _ hz), h y List.mem_cons_self, List.length_cons]
    omega
theorem cut_two (z : Str) {k : Int} (h0 : 0 ≤ k) (h1 : k < z.length) : (cutS z none (some k)).length + (cutS z (some (k + 1)) none).length + 1 = z.length := by
  have e1 : HT.sIx z.length z.length (some k) = k.toNat := by
    have := HT.sIx_nat z.length z.length k.toNat
    rw [Int.toNat_of_nonneg h0] at this
    rw [this]; omega
  have e2 : HT.sIx z.length 0 (some (k + 1)) = k.toNat + 1 := by
    have := HT.sIx_nat z.length 0 (k.toNat + 1)
    rw [show ((k.toNat + 1 : Nat) : Int) = k + 1 by omega] at this
    rw [this]; omega
  show (List.toArray _).size + (List.toArray _).size + 1 = _
  rw [List.size_toArray, List.size_toArray, List.length_take, List.length_take, List.length_drop, List.length_drop, Array.length_toList, e1, e2, HT.sIx_none, HT.sIx_none]
  show min (k.toNat - 0) (z.length - 0) + min (z.length - (k.toNat + 1)) (z.length - (k.toNat + 1)) + 1 = z.length
  omega
theorem cut_two0 (z : Str) {k : Int} (h0 : 0 ≤ k) (h1 : k < z.length) : (cutS z none (some k)).length + (cutS z (some k) none).length = z.length := by
  have e1 : HT.sIx z.length z.length (some k) = k.toNat := by
    have := HT.sIx_nat z.length z.length k.toNat
    rw [Int.toNat_of_nonneg h0] at this
    rw [this]; omega
  have e2 : HT.sIx z.length 0 (some k) = k.toNat := by
    have := HT.sIx_nat z.length 0 k.toNat
    rw [Int.toNat_of_nonneg h0] at this
    rw [this]; omega
  show (List.toArray _).size + (List.toArray _).size = _
  rw [List.size_toArray, List.size_toArray, List.length_take, List.length_take, List.length_drop, List.length_drop, Array.length_toList, e1, e2, HT.sIx_none, HT.sIx_none]
  show min (k.toNat - 0) (z.length - 0) + min (z.length - k.toNat) (z.length - k.toNat) = z.length
  omega
/-! ### names: words of letters -/
def wordsS : List Str := ["rows", "groups", "keys", "self", "ties", "group", "all", "none", "sum", "count", "by", "not"]
def lettersT : Str := "abcdefghijklmnopqrstuvwxyz"
def letB (c : Nat) : Bool := decide (c ∈ lettersT.cps.toList)
theorem letB_iff {c : Nat} : letB c = true ↔ 97 ≤ c ∧ c ≤ 122 := by
  have e : lettersT.cps.toList = (List.range 26).map (97 + ·) := by decide +kernel
  unfold letB
  rw [decide_eq_true_iff, e, List.mem_map]
  constructor
  · rintro ⟨k, hk, rfl⟩
    have := List.mem_range.mp hk
    omega
  · intro h
    exact ⟨c - 97, List.mem_range.mpr (by omega), by omega⟩
def isNameB (z : Str) : Bool := decide (1 ≤ z.length ∧ z.length ≤ 8) && (!inV (.str z) (wordsS.map V.str) && z.cps.toList.all letB)
theorem inV_strs {z : Str} {ws : List Str} : inV (.str z) (ws.map V.str) = decide (z ∈ ws) := by
  unfold inV
  rw [List.any_map, Bool.eq_iff_iff, List.any_eq_true, decide_eq_true_iff]
  constructor
  · rintro ⟨x, hx, e⟩
    have e : (x == z) = true := e
    rw [← eq_of_beq e]
    exact hx
  · intro h
    exact ⟨z, h, show (z == z) = true from beq_self_eq_true z⟩
theorem flat_strsV (ws : List Str) : (ws.map V.str).all flatV = true := by
  rw [List.all_map]
  exact List.all_eq_true.mpr fun _ _ => rfl
theorem nodup_len {α : Type} [DecidableEq α] : ∀ {l m : List α}, l.Nodup → (∀ x ∈ l, x ∈ m) → l.length ≤ m.length
  | [], _, _, _ => Nat.zero_le _
  | x :: l, m, hn, h => by
    obtain ⟨h1, h2⟩ := List.nodup_cons.mp hn
    have hx := h x List.mem_cons_self
    have i := nodup_len (l := l) (m := m.erase x) h2 fun y hy => (List.mem_erase_of_ne (show y ≠ x from fun z => h1 (by rw [← z]; exact hy))).mpr (h y (List.mem_cons_of_mem _ hy))
    rw [List.length_erase_of_mem hx] at i
    have := List.length_pos_of_mem hx
    show l.length + 1 ≤ m.length
    omega
/-- what the law tries, letter by letter -/
def cand (pre : List Nat) (last : Int) (j : Nat) : Str := SX.S (pre ++ [97 + ((last + j) % 26).toNat])
theorem cand_inj {pre : List Nat} {last : Int} {i j : Nat} (hi : i < 26) (hj : j < 26) (h : cand pre last i = cand pre last j) : i = j := by
  have h := List.append_cancel_left (SX.S_inj h)
  injection h with h
  omega
theorem cands_nodup (pre : List Nat) (last : Int) : ((List.range 26).map (cand pre last)).Nodup := by
  rw [List.nodup_iff_pairwise_ne, List.pairwise_map]
  refine List.Pairwise.imp_of_mem ?_ (List.nodup_iff_pairwise_ne.mp List.nodup_range)
  intro i j hi hj hne e
  exact hne (cand_inj (List.mem_range.mp hi) (List.mem_range.mp hj) e)
theorem words_pre : ∀ a ∈ wordsS, ∀ b ∈ wordsS, a.cps.toList.dropLast = b.cps.toList.dropLast → a = b := by decide +kernel
theorem cand_words {pre : List Nat} {last : Int} {i j : Nat} (hi : i < 26) (hj : j < 26) (h1 : cand pre last i ∈ wordsS) (h2 : cand pre last j ∈ wordsS) : i = j := by
  refine cand_inj hi hj (words_pre _ h1 _ h2 ?_)
  show (pre ++ [97 + ((last + i) % 26).toNat]).dropLast = (pre ++ [97 + ((last + j) % 26).toNat]).dropLast
  rw [List.dropLast_concat, List.dropLast_concat]
/-- at most one of the words can be met -/
theorem cand_free {pre : List Nat} {last : Int} {ts : List Str} (hl : ts.length ≤ 20) (h : ∀ j, j < 26 → cand pre last j ∈ wordsS ∨ cand pre last j ∈ ts) : False := by
  obtain ⟨m, lm, hm⟩ : ∃ m : List Str, m.length ≤ ts.length + 1 ∧ ∀ j, j < 26 → cand pre last j ∈ m := by
    by_cases c : ∃ j, j < 26 ∧ cand pre last j ∈ wordsS
    · obtain ⟨j, hj, hw⟩ := c
      refine ⟨cand pre last j :: ts, Nat.le_refl _, fun k hk => ?_⟩
      rcases h k hk with z | z
      · rw [cand_words hk hj z hw]; exact List.mem_cons_self
      · exact List.mem_cons_of_mem _ z
    · exact ⟨ts, Nat.le_succ _, fun k hk => (h k hk).resolve_left fun z => c ⟨k, hk, z⟩⟩
  have i := nodup_len (cands_nodup pre last) (m := m) fun x hx => by
    obtain ⟨j, hj, rfl⟩ := List.mem_map.mp hx
    exact hm j (List.mem_range.mp hj)
  rw [List.length_map, List.length_range] at i
  omega
theorem cand_name {pre : List Nat} {last : Int} {j : Nat} (hp : ∀ c ∈ pre, letB c = true) (hl : pre.length ≤ 7) (hw : ¬ cand pre last j ∈ wordsS) : isNameB (cand pre last j) = true := by
  unfold isNameB
  have h1 : (cand pre last j).length = pre.length + 1 := by
    unfold cand
    rw [SX.S_len, List.length_append]
    rfl
  rw [inV_strs, decide_eq_false hw, decide_eq_true ⟨by omega, by omega⟩]
  show (pre ++ [97 + ((last + j) % 26).toNat]).all letB = true
  rw [List.all_append, List.all_eq_true.mpr hp]
  show (letB _ && true) = true
  rw [letB_iff.mpr (by omega)]
  rfl
theorem isName_len {z : Str} (h : isNameB z = true) : z.length ≤ 8 ∧ 1 ≤ z.length := by
  unfold isNameB at h
  have := of_decide_eq_true (Bool.and_eq_true_iff.mp h).1
  omega
theorem isName_sok {z : Str} (h : isNameB z = true) : PyData.strOk z = true := by
  unfold isNameB at h
  have h := (Bool.and_eq_true_iff.mp (Bool.and_eq_true_iff.mp h).2).2
  show z.cps.all _ = true
  rw [← Array.all_toList, List.all_eq_true]
  intro c hc
  have := letB_iff.mp (List.all_eq_true.mp h c hc)
  exact decide_eq_true (by omega)
/-- the first word that stands for the second time -/
def dblFrom : List Str → List Str → Option Str
  | _, [] => none
  | seen, w :: r => if w ∈ seen then some w else dblFrom (seen ++ [w]) r
theorem dbl_cons (seen : List Str) (w : Str) (r : List Str) : dblFrom seen (w :: r) = if w ∈ seen then some w else dblFrom (seen ++ [w]) r := rfl
theorem dbl_none : ∀ {seen ws : List Str}, (seen ++ ws).Nodup → dblFrom seen ws = none
  | _, [], _ => rfl
  | seen, w :: r, h => by
    unfold dblFrom
    have hn : ¬ w ∈ seen := fun z => (List.nodup_append.mp h).2.2 w z w List.mem_cons_self rfl
    rw [if_neg hn]
    refine dbl_none ?_
    rw [List.append_assoc]
    exact h
theorem join_ones : ∀ (cs : List Nat), Str.join "" (cs.map fun c => SX.S [c]) = SX.S cs
  | [] => by decide +kernel
  | [x] => rfl
  | x :: y :: r => by
    have i := join_ones (y :: r)
    show SX.S [x] ++ ("" : Str) ++ Str.join "" ((y :: r).map fun c => SX.S [c]) = _
    rw [i, show ("" : Str) = SX.S [] by decide +kernel, SX.S_cat, SX.S_cat]
    rfl
/-! ### two lists, place by place -/
structure All2 {α β : Type} (P : α → β → Prop) (as : List α) (bs : List β) : Prop where
  len : as.length = bs.length
  at_ : ∀ (j : Nat) (a : α) (b : β), as[j]? = some a → bs[j]? = some b → P a b
theorem All2.nil {α β : Type} {P : α → β → Prop} : All2 P ([] : List α) ([] : List β) := ⟨rfl, fun j a b h => by cases h⟩
theorem All2.imp {α β : Type} {P Q : α → β → Prop} {as : List α} {bs : List β} (h : All2 P as bs) (f : ∀ a b, P a b → Q a b) : All2 Q as bs := ⟨h.len, fun j a b h1 h2 => f a b (h.at_ j a b h1 h2)⟩
theorem All2.snoc {α β : Type} {P : α → β → Prop} {as : List α} {bs : List β} {a : α} {b : β} (h : All2 P as bs) (p : P a b) : All2 P (as ++ [a]) (bs ++ [b]) := by
  refine ⟨by rw [List.length_append, List.length_append, h.len]; rfl, fun j x y h1 h2 => ?_⟩
  rcases Nat.lt_or_ge j as.length with hj | hj
  · rw [List.getElem?_append_left hj] at h1
    rw [List.getElem?_append_left (by rw [← h.len]; exact hj)] at h2
    exact h.at_ j x y h1 h2
  · rw [List.getElem?_append_right hj] at h1
    rw [List.getElem?_append_right (by rw [← h.len]; exact hj), ← h.len] at h2
    cases hz : j - as.length with
    | zero =>
      rw [hz] at h1 h2
      cases h1
      cases h2
      exact p
    | succ n => rw [hz] at h1; cases h1
theorem All2.get {α β : Type} {P : α → β → Prop} {as : List α} {bs : List β} (h : All2 P as bs) {j : Nat} {a : α} (ha : as[j]? = some a) : ∃ b, bs[j]? = some b ∧ P a b := by
  have hj : j < bs.length := by rw [← h.len]; exact (List.getElem?_eq_some_iff.mp ha).1
  exact ⟨bs[j], List.getElem?_eq_getElem hj, h.at_ j a _ ha (List.getElem?_eq_getElem hj)⟩
theorem All2.map {α β : Type} {γ : Type} {P : α → β → Prop} {as : List α} {bs : List β} {f : α → γ} {k : β → γ} (h : All2 P as bs) (e : ∀ a b, P a b → f a = k b) : as.map f = bs.map k := by
  apply List.ext_getElem?
  intro j
  rw [List.getElem?_map, List.getElem?_map]
  cases ha : as[j]? with
  | none =>
    have : bs[j]? = none := by
      rw [List.getElem?_eq_none_iff] at ha ⊢
      rw [← h.len]
      exact ha
    rw [this]
    rfl
  | some a =>
    obtain ⟨b, hb, p⟩ := h.get ha
    rw [hb]
    exact congrArg some (e a b p)
/-- a field of the instance at an address -/
def fldV (H : Hp) (f : Str) : V → V
  | .ref u => match H u with
    | some (.ins _ _ fs) => (fs.lookup f).getD .non
    | _ => .non
  | _ => .non
theorem fld_at {H : Hp} {f : Str} {u C dx : Addr} {fs : List (Str × V)} {v : V} (h : H u = some (.ins C dx fs)) (l : fs.lookup f = some v) : fldV H f (.ref u) = v := by
  simp only [fldV, h]
  rw [l]
  rfl
section
variable {σ : L2.St} {H : Hp} {Q : VK} {K : PySem.W.Frag} {tr : TA} {te : TE} {QA : List V → Hp → Prop}
theorem r_star (h : te σ H fun x H1 => ∃ p xs, x = V.ref p ∧ (SqT K H1 p xs ∨ SqL K H1 p xs) ∧ tr σ H1 fun ys H2 => QA (xs ++ ys) H2) : StX.tStar K te tr σ H QA := h
theorem r_stT {a : Addr} {xs : List V} {F : List V → Prop} (h1 : SqT K H a xs) (h : F xs) : ∃ p xs, V.ref a = .ref p ∧ (SqT K H p xs ∨ SqL K H p xs) ∧ F xs := ⟨a, xs, rfl, .inl h1, h⟩
theorem r_stL {a : Addr} {xs : List V} {F : List V → Prop} (h1 : SqL K H a xs) (h : F xs) : ∃ p xs, V.ref a = .ref p ∧ (SqT K H p xs ∨ SqL K H p xs) ∧ F xs := ⟨a, xs, rfl, .inr h1, h⟩
end
/-! ### dicts, chains, texts sign by sign: readings -/
section
variable {σ : L2.St} {H : Hp} {Q : VK} {K : PySem.W.Frag} {ta tb tc te td ty tv : TE} {D : Ends}
theorem r_dnew (h : ∀ p, H p = none → Q (.ref p) (upd H p (.dK []))) : tDNewK σ H Q := h
theorem r_din (h : ty σ H fun y H1 => td σ H1 fun x H2 => ∃ a o, x = .ref a ∧ DGet H2 a y o ∧ Q (.bl o.isSome) H2) : tDIn ty td σ H Q := h
theorem r_dput (h : tv σ H fun v H1 => td σ H1 fun x H2 => ty σ H2 fun y H3 => ∃ a H4, x = .ref a ∧ DPut H3 a y v H4 ∧ D.nx σ H4) : sDPut td ty tv D σ H := h
theorem r_dinS {d : Addr} {kvs : List (Key × V)} {w : Str} {F : Option V → Prop} (e : H d = some (.dK kvs)) (h : F (valV kvs (Sum.inr w))) : ∃ a o, V.ref d = .ref a ∧ DGet H a (.str w) o ∧ F o := ⟨d, _, rfl, DGet.k (k := Sum.inr w) e, h⟩
theorem r_dputS {d : Addr} {kvs : List (Key × V)} {w : Str} {v : V} {F : Hp → Prop} (e : H d = some (.dK kvs)) (hl : kvs.length ≤ 1000) (h : F (upd H d (.dK (putK kvs (Sum.inr w) v)))) : ∃ a H4, V.ref d = .ref a ∧ DPut H a (.str w) v H4 ∧ F H4 := ⟨d, _, rfl, DPut.k (k := Sum.inr w) e (small1000 hl), h⟩
theorem r_chain {r r' : R2} (h : ta σ H fun x H1 => tb σ H1 fun y H2 => r x y H2 fun z H3 => ∃ k, z = .bl k ∧ (if k = true then tc σ H3 fun w' H4 => r' y w' H4 Q else Q (.bl false) H3)) : tChain r r' ta tb tc σ H Q := h
theorem r_is {R : It → Hp → Prop} (h : te σ H fun v H1 => ∃ x, v = .str x ∧ R (Its x) H1) : iStr te σ H R := h
theorem r_iss {z : Str} {F : Str → Prop} (h : F z) : ∃ x, V.str z = .str x ∧ F x := ⟨z, rfl, h⟩
theorem putK_len {kvs : List (Key × V)} {k : Key} {v : V} : (putK kvs k v).length ≤ kvs.length + 1 := by
  unfold putK
  split
  · rw [List.length_map]; omega
  · rw [List.length_append]; exact Nat.le_refl _
/-- [e for c in s], e by the sign -/
theorem lc_strM {n : Nat} {z : Str} (f : Nat → V) (hz : z.length ≤ 1000) (he : ∀ (c : Nat) (H' : Hp) (QQ : VK), Same H H' → QQ (f c) H' → te ((wipe σ [n]).set n (some (.str ⟨#[c]⟩))) H' QQ)
    (hq : ∀ D, H D = none → Q (.ref D) (upd H D (.lst (z.cps.toList.map f)))) : lcGo (Its z) (gName n) tYes te [n] σ Q H := by
  intro D hD
  have hz : z.cps.toList.length ≤ 1000 := by rw [Array.length_toList]; exact hz
  refine lc_it walk_str (fun i H' => H' = upd H D (.lst ((z.cps.toList.take i).map f))) rfl (fun _ _ _ _ => trivial) ?_ ?_
  · rintro i x H1 H2 hi rfl ⟨rfl, c, hc, rfl⟩
    refine ⟨wipe1, ?_⟩
    show te _ _ _
    refine he c _ _ (same_new hD) ⟨_, upd_same, ?_, ?_⟩
    · rw [List.length_map, List.length_take]
      exact small1000 (by omega)
    · have hc : z.cps.toList[i]? = some c := by rw [Array.getElem?_toList]; exact hc
      rw [upd_upd, List.take_add_one, hc, List.map_append]
      rfl
  · rintro H' rfl
    rw [show z.cps.size = z.cps.toList.length from (Array.length_toList).symm, List.take_length]
    exact hq D hD
end
theorem r_mko {C : Addr} {sp : Sp} {dvs : List V} {t : TA} {σ : L2.St} {H : Hp} {Q : XK} (h : t σ H fun vs H1 => vs.length ≤ 1000 ∧ ∀ a, H1 a = none → sp (.ref a :: (vs ++ dvs)) (upd H1 a (exo a C none)) (fun v H2 => v = .non ∧ ∃ (d : Addr) (fs : List (Str × V)), H2 a = some (exo a C (some d)) ∧ H2 d = some (exd d fs) ∧ H1 d = none ∧ Q (.ref C) (some d) (upd (del H2 a) d (.xd fs))) (fun _ _ _ => False)) : tMkO C sp dvs t σ H Q := h
theorem r_m0 {r : V → List V → Hp → VK → Prop} {to : TE} {σ : L2.St} {H : Hp} {Q : VK} (h : to σ H fun x H1 => (∃ a, x = .str a) ∧ r x [] H1 Q) : tM0 r to σ H Q := h
/-! ### o.m(e, ..) of an own method that may raise, within a try -/
def tMethT (C : Addr) (m : Str) (sp : Sp) (E : L2.St → XK) (ta : TE) (t : TA) : TE := fun σ H Q => ta σ H fun x H1 => ∃ a dx fs, x = .ref a ∧ H1 a = some (.ins C dx fs) ∧ fs.lookup m = none ∧ t σ H1 fun vs H2 => sp (x :: vs) H2 Q (E σ)
section
variable {X : Cx} {CX : CXT} {k : Nat} {f C : Addr} {fd : FuncData} {ps : List Str} {sp : Sp} {m : Str} {pos apos : Pos} {e o : Expr} {es : List Expr} {ta : TE} {t : TA}
theorem pe_methT {E : L2.St → XK} {pl : Sem Bool} (he : PE X o ta) (c : Cls X.K C) (hm : Meth X.K C m f) (F : FnOk X.prog X.w X.K X.mg X.base CX k f fd ps sp) (hr : Room k X.A) (hb : Binds X.K fd ps []) (hx : ∀ σ, PassesAt CX X σ (E σ)) (ha : PA X (e :: es) t)
    (hst : starEach (e :: es) X.env = (false, eval e X.env) :: starEach es X.env := by rfl) (hpl : (backTo pos (starEach es X.env)).any (fun q => q.1) = false := by rfl)
    (ht : eval (.Call (.Attribute o m apos) (e :: es) [] pos) X.env = (eval o X.env >>= fun ov => standAt apos.atName >>= fun _ => holding [ov] (getMethod ov m pl) >>= fun q => callWith pos q.1 q.2 (backTo pos (starEach (e :: es) X.env)) (backToKw pos (keywordEach [] X.env))) := by rfl) :
    PE X (.Call (.Attribute o m apos) (e :: es) [] pos) (tMethT C m sp E ta t) := by
  refine ⟨fun pins s σ H Q I h => PySem.W.methodCall_KW (pl := pl) (thn (he.run pins s σ H _ I h) fun u s1 w1 => ?_) ht⟩
  obtain ⟨x, H1, I1, rx, a, dx, fs, rfl, ea, l, q⟩ := w1
  cases (show u = Value.ref a from rx)
  refine getmeth_ok I1 ea c hm l (PySem.W.callWith_K (first := [.ref a]) (h₀ := X.base) I.ok.mod.kin hm.kp (thn (ha.run pos pins s1 σ H1 _ I1 q) fun us s2 w2 => ?_) hst hpl)
  obtain ⟨vs, H2, I2, r, q2⟩ := w2
  have two : Vals (V.ref a :: vs) (Value.ref a :: us) := .cons rfl r
  exact ⟨I2.kIn, run_fnS F hr hb (hx σ) I2 two q2⟩
end
theorem r_methT {σ : L2.St} {H : Hp} {Q : VK} {C : Addr} {m : Str} {sp : Sp} {E : L2.St → XK} {ta : TE} {t : TA} (h : ta σ H fun x H1 => ∃ a dx fs, x = .ref a ∧ H1 a = some (.ins C dx fs) ∧ fs.lookup m = none ∧ t σ H1 fun vs H2 => sp (x :: vs) H2 Q (E σ)) : tMethT C m sp E ta t σ H Q := h
theorem vals_rev : ∀ {vs : List V} {us : List Value}, Vals vs us → Vals vs.reverse us.reverse
  | [], _, r => by cases r; exact .nil
  | v :: vs, _, r => by
    cases r with
    | cons h t =>
      rw [List.reverse_cons, List.reverse_cons]
      exact (vals_rev t).append (.cons h .nil)
theorem r_dget {σ : L2.St} {H : Hp} {Q : VK} {td ty : TE} (h : td σ H fun x H1 => ty σ H1 fun y H2 => ∃ a v, x = .ref a ∧ DGet H2 a y (some v) ∧ Q v H2) : tDGet td ty σ H Q := h
theorem r_dnin {σ : L2.St} {H : Hp} {Q : VK} {td ty : TE} (h : ty σ H fun y H1 => td σ H1 fun x H2 => ∃ a o, x = .ref a ∧ DGet H2 a y o ∧ Q (.bl (!o.isSome)) H2) : tDNotIn ty td σ H Q := h
theorem r_enum {σ : L2.St} {H : Hp} {K : PySem.W.Frag} {ta : TA} {R : It → Hp → Prop} (h : ta σ H fun vs H1 => ∃ a xs, vs = [.ref a] ∧ SqL K H1 a xs ∧ R (Ite K a) H1) : iEnum K ta σ H R := h
theorem r_iks {σ : L2.St} {H : Hp} {td : TE} {R : It → Hp → Prop} (h : td σ H fun x H1 => ∃ d o, x = .ref d ∧ ((∃ kvs, H1 d = some (.frz o (.dK kvs)) ∧ R (Itk d o kvs) H1) ∨ ∃ kvs, H1 d = some (.frz o (.dT kvs)) ∧ R (Itkt d o kvs) H1)) : iKeys td σ H R := h
theorem r_revL {σ : L2.St} {H : Hp} {Q : VK} {K : PySem.W.Frag} {te : TE} (h : te σ H fun x H1 => ∃ a xs, x = .ref a ∧ SqL K H1 a xs ∧ ∀ p, H1 p = none → Q (.ref p) (upd H1 p (.lst xs.reverse))) : tRevL K te σ H Q := h
theorem r_bm0 {σ : L2.St} {H : Hp} {Q : VK} {K : PySem.W.Frag} {T : String} {r : V → List V → Hp → VK → Prop} {to : TE} (h : to σ H fun x H1 => tyV K T x H1 ∧ r x [] H1 Q) : tBM0 K T r to σ H Q := h
theorem kit_self {K : PySem.W.Frag} {v : Value} : PySem.W.kitOne K v v = some true := by
  unfold PySem.W.kitOne
  rw [if_pos (beq_self_eq_true v)]
def top (i : Nat) : Stmt := PySem.Challenge.pw_windowrows_k49_whole_showing.main.body.getD i (.Pass ⟨0, 0, 0, 0⟩)
abbrev s_BadOffset___init__ : Stmt := inClass (top 3) 0
theorem sc_BadOffset___init__ : FnScope ["self", "rows", "groups", "distance"] ["self", "rows", "groups", "distance"] (defScope s_BadOffset___init__) := ⟨rfl, rfl, rfl, by decide +kernel, rfl, by decide +kernel, by decide +kernel⟩
abbrev s_BadScheme___init__ : Stmt := inClass (top 4) 0
theorem sc_BadScheme___init__ : FnScope ["self", "word"] ["self", "word"] (defScope s_BadScheme___init__) := ⟨rfl, rfl, rfl, by decide +kernel, rfl, by decide +kernel, by decide +kernel⟩
abbrev s_UnknownSort___init__ : Stmt := inClass (top 5) 0
theorem sc_UnknownSort___init__ : FnScope ["self", "name"] ["self", "name"] (defScope s_UnknownSort___init__) := ⟨rfl, rfl, rfl, by decide +kernel, rfl, by decide +kernel, by decide +kernel⟩
abbrev s_BadRow___init__ : Stmt := inClass (top 6) 0
theorem sc_BadRow___init__ : FnScope ["self", "number", "column"] ["self", "number", "column"] (defScope s_BadRow___init__) := ⟨rfl, rfl, rfl, by decide +kernel, rfl, by decide +kernel, by decide +kernel⟩
abbrev s_BadNumber___init__ : Stmt := inClass (top 7) 0
theorem sc_BadNumber___init__ : FnScope ["self", "number"] ["self", "number"] (defScope s_BadNumber___init__) := ⟨rfl, rfl, rfl, by decide +kernel, rfl, by decide +kernel, by decide +kernel⟩
abbrev s_BadLay___init__ : Stmt := inClass (top 8) 0
theorem sc_BadLay___init__ : FnScope ["self", "name"] ["self", "name"] (defScope s_BadLay___init__) := ⟨rfl, rfl, rfl, by decide +kernel, rfl, by decide +kernel, by decide +kernel⟩
abbrev s_possible : Stmt := top 10
theorem sc_possible : FnScope ["rows", "groups", "distance"] ["rows", "groups", "distance"] (defScope s_possible) := ⟨rfl, rfl, rfl, by decide +kernel, rfl, by decide +kernel, by decide +kernel⟩
abbrev s_zone_of : Stmt := top 11
theorem sc_zone_of : FnScope ["rows", "groups"] ["rows", "groups"] (defScope s_zone_of) := ⟨rfl, rfl, rfl, by decide +kernel, rfl, by decide +kernel, by decide +kernel⟩
abbrev s_Offset___init__ : Stmt := inClass (top 12) 0
theorem sc_Offset___init__ : FnScope ["self", "rows", "groups", "distance"] ["self", "rows", "groups", "distance"] (defScope s_Offset___init__) := ⟨rfl, rfl, rfl, by decide +kernel, rfl, by decide +kernel, by decide +kernel⟩
abbrev s_Offset___neg__ : Stmt := inClass (top 12) 2
theorem sc_Offset___neg__ : FnScope ["self"] ["self"] (defScope s_Offset___neg__) := ⟨rfl, rfl, rfl, by decide +kernel, rfl, by decide +kernel, by decide +kernel⟩
abbrev s_Offset___eq__ : Stmt := inClass (top 12) 4
theorem sc_Offset___eq__ : FnScope ["self", "other"] ["self", "other"] (defScope s_Offset___eq__) := ⟨rfl, rfl, rfl, by decide +kernel, rfl, by decide +kernel, by decide +kernel⟩
abbrev s_is_integer : Stmt := top 15
theorem sc_is_integer : FnScope ["thing"] ["thing"] (defScope s_is_integer) := ⟨rfl, rfl, rfl, by decide +kernel, rfl, by decide +kernel, by decide +kernel⟩
abbrev s_bad_column : Stmt := top 16
theorem sc_bad_column : FnScope ["scheme", "row", "columns", "column", "others", "key"] ["scheme", "row"] (defScope s_bad_column) := ⟨rfl, rfl, rfl, by decide +kernel, rfl, by decide +kernel, by decide +kernel⟩
abbrev s_Table___init__ : Stmt := inClass (top 17) 0
theorem sc_Table___init__ : FnScope ["self", "scheme", "rows", "number", "row", "column"] ["self", "scheme", "rows"] (defScope s_Table___init__) := ⟨rfl, rfl, rfl, by decide +kernel, rfl, by decide +kernel, by decide +kernel⟩
abbrev s_Table___len__ : Stmt := inClass (top 17) 1
theorem sc_Table___len__ : FnScope ["self"] ["self"] (defScope s_Table___len__) := ⟨rfl, rfl, rfl, by decide +kernel, rfl, by decide +kernel, by decide +kernel⟩
abbrev s_Table_record : Stmt := inClass (top 17) 2
theorem sc_Table_record : FnScope ["self", "number"] ["self", "number"] (defScope s_Table_record) := ⟨rfl, rfl, rfl, by decide +kernel, rfl, by decide +kernel, by decide +kernel⟩
abbrev s_Table___eq__ : Stmt := inClass (top 17) 3
theorem sc_Table___eq__ : FnScope ["self", "other"] ["self", "other"] (defScope s_Table___eq__) := ⟨rfl, rfl, rfl, by decide +kernel, rfl, by decide +kernel, by decide +kernel⟩
abbrev s_seat_of : Stmt := top 19
theorem sc_seat_of : FnScope ["sort", "row", "part"] ["sort", "row"] (defScope s_seat_of) := ⟨rfl, rfl, rfl, by decide +kernel, rfl, by decide +kernel, by decide +kernel⟩
abbrev s_seats_of : Stmt := top 20
theorem sc_seats_of : FnScope ["table", "sort", "number"] ["table", "sort"] (defScope s_seats_of) := ⟨rfl, rfl, rfl, by decide +kernel, rfl, by decide +kernel, by decide +kernel⟩
abbrev s_is_numbering : Stmt := top 21
theorem sc_is_numbering : FnScope ["order", "many", "known", "number"] ["order", "many"] (defScope s_is_numbering) := ⟨rfl, rfl, rfl, by decide +kernel, rfl, by decide +kernel, by decide +kernel⟩
abbrev s_is_sorted : Stmt := top 22
theorem sc_is_sorted : FnScope ["order", "seats", "one", "two"] ["order", "seats"] (defScope s_is_sorted) := ⟨rfl, rfl, rfl, by decide +kernel, rfl, by decide +kernel, by decide +kernel⟩
abbrev s_ranks_of : Stmt := top 23
theorem sc_ranks_of : FnScope ["order", "seats", "ranks", "rank", "place", "number"] ["order", "seats"] (defScope s_ranks_of) := ⟨rfl, rfl, rfl, by decide +kernel, rfl, by decide +kernel, by decide +kernel⟩
abbrev s_Lay___init__ : Stmt := inClass (top 24) 0
theorem sc_Lay___init__ : FnScope ["self", "table", "orders", "name", "seats", "order", "number"] ["self", "table", "orders"] (defScope s_Lay___init__) := ⟨rfl, rfl, rfl, by decide +kernel, rfl, by decide +kernel, by decide +kernel⟩
abbrev s_Lay_order : Stmt := inClass (top 24) 1
theorem sc_Lay_order : FnScope ["self", "sort"] ["self", "sort"] (defScope s_Lay_order) := ⟨rfl, rfl, rfl, by decide +kernel, rfl, by decide +kernel, by decide +kernel⟩
abbrev s_Lay_inspect_rows : Stmt := inClass (top 24) 2
theorem sc_Lay_inspect_rows : FnScope ["self", "row", "other", "number"] ["self", "row", "other"] (defScope s_Lay_inspect_rows) := ⟨rfl, rfl, rfl, by decide +kernel, rfl, by decide +kernel, by decide +kernel⟩
abbrev s_Lay_offset : Stmt := inClass (top 24) 3
theorem sc_Lay_offset : FnScope ["self", "sort", "row", "other", "seats", "spots", "ranks"] ["self", "sort", "row", "other"] (defScope s_Lay_offset) := ⟨rfl, rfl, rfl, by decide +kernel, rfl, by decide +kernel, by decide +kernel⟩
abbrev s_Lay___eq__ : Stmt := inClass (top 24) 6
theorem sc_Lay___eq__ : FnScope ["self", "other"] ["self", "other"] (defScope s_Lay___eq__) := ⟨rfl, rfl, rfl, by decide +kernel, rfl, by decide +kernel, by decide +kernel⟩
abbrev s_groups_of : Stmt := top 25
theorem sc_groups_of : FnScope ["table", "name", "seats", "groups", "number", "seat"] ["table", "name"] (defScope s_groups_of) := ⟨rfl, rfl, rfl, by decide +kernel, rfl, by decide +kernel, by decide +kernel⟩
abbrev s_factorial : Stmt := top 26
theorem sc_factorial : FnScope ["many", "product", "factor"] ["many"] (defScope s_factorial) := ⟨rfl, rfl, rfl, by decide +kernel, rfl, by decide +kernel, by decide +kernel⟩
abbrev s_all_groups : Stmt := top 27
theorem sc_all_groups : FnScope ["table", "name", "group"] ["table"] (defScope s_all_groups) := ⟨rfl, rfl, rfl, by decide +kernel, rfl, by decide +kernel, by decide +kernel⟩
abbrev s_first_lay : Stmt := top 28
theorem sc_first_lay : FnScope ["table"] ["table"] (defScope s_first_lay) := ⟨rfl, rfl, rfl, by decide +kernel, rfl, by decide +kernel, by decide +kernel⟩
abbrev s_lay_count : Stmt := top 29
theorem sc_lay_count : FnScope ["table", "product", "name", "group"] ["table"] (defScope s_lay_count) := ⟨rfl, rfl, rfl, by decide +kernel, rfl, by decide +kernel, by decide +kernel⟩
abbrev s_order_at : Stmt := top 30
theorem sc_order_at : FnScope ["group", "number", "left", "found", "each"] ["group", "number"] (defScope s_order_at) := ⟨rfl, rfl, rfl, by decide +kernel, rfl, by decide +kernel, by decide +kernel⟩
abbrev s_lay_at : Stmt := top 31
theorem sc_lay_at : FnScope ["table", "number", "orders", "name", "group", "many"] ["table", "number"] (defScope s_lay_at) := ⟨rfl, rfl, rfl, by decide +kernel, rfl, by decide +kernel, by decide +kernel⟩
abbrev s_plain_row : Stmt := top 33
theorem sc_plain_row : FnScope ["scheme", "column"] ["scheme"] (defScope s_plain_row) := ⟨rfl, rfl, rfl, by decide +kernel, rfl, by decide +kernel, by decide +kernel⟩
abbrev s_rising_rows : Stmt := top 34
theorem sc_rising_rows : FnScope ["scheme", "sort", "offset", "found", "flat", "place", "rank", "along", "row"] ["scheme", "sort", "offset"] (defScope s_rising_rows) := ⟨rfl, rfl, rfl, by decide +kernel, rfl, by decide +kernel, by decide +kernel⟩
abbrev s_showing : Stmt := top 35
theorem sc_showing : FnScope ["scheme", "sort", "offset", "found", "rows"] ["scheme", "sort", "offset"] (defScope s_showing) := ⟨rfl, rfl, rfl, by decide +kernel, rfl, by decide +kernel, by decide +kernel⟩
abbrev s_is_name : Stmt := top 39
theorem sc_is_name : FnScope ["thing", "letter"] ["thing"] (defScope s_is_name) := ⟨rfl, rfl, rfl, by decide +kernel, rfl, by decide +kernel, by decide +kernel⟩
abbrev s_first_double : Stmt := top 40
theorem sc_first_double : FnScope ["words", "known", "word"] ["words"] (defScope s_first_double) := ⟨rfl, rfl, rfl, by decide +kernel, rfl, by decide +kernel, by decide +kernel⟩
abbrev s_Sort___init__ : Stmt := inClass (top 41) 0
theorem sc_Sort___init__ : FnScope ["self", "name", "key", "part", "descending"] ["self", "name", "key", "part", "descending"] (defScope s_Sort___init__) := ⟨rfl, rfl, rfl, by decide +kernel, rfl, by decide +kernel, by decide +kernel⟩
abbrev s_Sort___eq__ : Stmt := inClass (top 41) 1
theorem sc_Sort___eq__ : FnScope ["self", "other"] ["self", "other"] (defScope s_Sort___eq__) := ⟨rfl, rfl, rfl, by decide +kernel, rfl, by decide +kernel, by decide +kernel⟩
abbrev s_Scheme___init__ : Stmt := inClass (top 42) 0
theorem sc_Scheme___init__ : FnScope ["self", "sorts", "parts", "values", "marks"] ["self", "sorts", "parts", "values", "marks"] (defScope s_Scheme___init__) := ⟨rfl, rfl, rfl, by decide +kernel, rfl, by decide +kernel, by decide +kernel⟩
abbrev s_Scheme_inspect : Stmt := inClass (top 42) 1
theorem sc_Scheme_inspect : FnScope ["self", "names", "columns", "word", "words", "one"] ["self"] (defScope s_Scheme_inspect) := ⟨rfl, rfl, rfl, by decide +kernel, rfl, by decide +kernel, by decide +kernel⟩
abbrev s_Scheme_columns : Stmt := inClass (top 42) 2
theorem sc_Scheme_columns : FnScope ["self", "keys", "one"] ["self"] (defScope s_Scheme_columns) := ⟨rfl, rfl, rfl, by decide +kernel, rfl, by decide +kernel, by decide +kernel⟩
abbrev s_Scheme_sort_names : Stmt := inClass (top 42) 3
theorem sc_Scheme_sort_names : FnScope ["self", "one"] ["self"] (defScope s_Scheme_sort_names) := ⟨rfl, rfl, rfl, by decide +kernel, rfl, by decide +kernel, by decide +kernel⟩
abbrev s_Scheme_sort_named : Stmt := inClass (top 42) 4
theorem sc_Scheme_sort_named : FnScope ["self", "name", "one"] ["self", "name"] (defScope s_Scheme_sort_named) := ⟨rfl, rfl, rfl, by decide +kernel, rfl, by decide +kernel, by decide +kernel⟩
abbrev s_Scheme___eq__ : Stmt := inClass (top 42) 5
theorem sc_Scheme___eq__ : FnScope ["self", "other"] ["self", "other"] (defScope s_Scheme___eq__) := ⟨rfl, rfl, rfl, by decide +kernel, rfl, by decide +kernel, by decide +kernel⟩
abbrev s__law_begin : Stmt := top 44
theorem sc__law_begin : FnScope ["_law_script", "_law_cells", "_law_rests", "_law_cell"] ["_law_script"] (defScope s__law_begin) := ⟨rfl, rfl, rfl, by decide +kernel, rfl, by decide +kernel, by decide +kernel⟩
abbrev s__law_draw : Stmt := top 45
theorem sc__law_draw : FnScope ["_law_draws", "_law_many", "_law_cells", "_law_rests", "_law_turn", "_law_at", "_law_got", "_law_first", "_law_salt", "_law_second", "_law_mixed", "_law_third"] ["_law_draws", "_law_many"] (defScope s__law_draw) := ⟨rfl, rfl, rfl, by decide +kernel, rfl, by decide +kernel, by decide +kernel⟩
abbrev s__law_name : Stmt := top 46
theorem sc__law_name : FnScope ["_law_draws", "_law_taken", "_law_letters", "_law_words", "_law_spots", "_law_step", "_law_last", "_law_word", "_law_k", "_law_spot"] ["_law_draws", "_law_taken"] (defScope s__law_name) := ⟨rfl, rfl, rfl, by decide +kernel, rfl, by decide +kernel, by decide +kernel⟩
abbrev s__law_names : Stmt := top 47
theorem sc__law_names : FnScope ["_law_draws", "_law_taken", "_law_many", "_law_found", "_law_k", "_law_word"] ["_law_draws", "_law_taken", "_law_many"] (defScope s__law_names) := ⟨rfl, rfl, rfl, by decide +kernel, rfl, by decide +kernel, by decide +kernel⟩
abbrev s__law_spec : Stmt := top 48
theorem sc__law_spec : FnScope ["_law_draws", "_law_most", "_law_taken", "_law_called", "_law_sorts", "_law_halls", "_law_worths", "_law_flags", "_law_k", "_law_falling", "_law_hall_here", "_law_same", "_law_key_here"] ["_law_draws", "_law_most"] (defScope s__law_spec) := ⟨rfl, rfl, rfl, by decide +kernel, rfl, by decide +kernel, by decide +kernel⟩
abbrev s__law_scheme : Stmt := top 49
theorem sc__law_scheme : FnScope ["_law_spec_here", "_law_sorts", "_law_one"] ["_law_spec_here"] (defScope s__law_scheme) := ⟨rfl, rfl, rfl, by decide +kernel, rfl, by decide +kernel, by decide +kernel⟩
abbrev s__law_key : Stmt := top 50
theorem sc__law_key : FnScope ["_law_one", "_law_row"] ["_law_one", "_law_row"] (defScope s__law_key) := ⟨rfl, rfl, rfl, by decide +kernel, rfl, by decide +kernel, by decide +kernel⟩
abbrev s__law_hall : Stmt := top 51
theorem sc__law_hall : FnScope ["_law_one", "_law_row"] ["_law_one", "_law_row"] (defScope s__law_hall) := ⟨rfl, rfl, rfl, by decide +kernel, rfl, by decide +kernel, by decide +kernel⟩
abbrev s__law_whole : Stmt := top 52
theorem sc__law_whole : FnScope ["_law_x"] ["_law_x"] (defScope s__law_whole) := ⟨rfl, rfl, rfl, by decide +kernel, rfl, by decide +kernel, by decide +kernel⟩
abbrev s__law_triple : Stmt := top 53
theorem sc__law_triple : FnScope ["_law_draws", "_law_way", "_law_d", "_law_g", "_law_k"] ["_law_draws"] (defScope s__law_triple) := ⟨rfl, rfl, rfl, by decide +kernel, rfl, by decide +kernel, by decide +kernel⟩
abbrev s__law_seat_list : Stmt := top 54
theorem sc__law_seat_list : FnScope ["_law_one", "_law_rows", "_law_order", "_law_who"] ["_law_one", "_law_rows", "_law_order"] (defScope s__law_seat_list) := ⟨rfl, rfl, rfl, by decide +kernel, rfl, by decide +kernel, by decide +kernel⟩
abbrev s__law_fits : Stmt := top 55
theorem sc__law_fits : FnScope ["_law_one", "_law_rows", "_law_order", "_law_along"] ["_law_one", "_law_rows", "_law_order"] (defScope s__law_fits) := ⟨rfl, rfl, rfl, by decide +kernel, rfl, by decide +kernel, by decide +kernel⟩
abbrev s__law_seen : Stmt := top 56
theorem sc__law_seen : FnScope ["_law_one", "_law_rows", "_law_order", "_law_r", "_law_j", "_law_along", "_law_ranks", "_law_k", "_law_p", "_law_q"] ["_law_one", "_law_rows", "_law_order", "_law_r", "_law_j"] (defScope s__law_seen) := ⟨rfl, rfl, rfl, by decide +kernel, rfl, by decide +kernel, by decide +kernel⟩
abbrev s__law_right : Stmt := top 57
theorem sc__law_right : FnScope ["_law_spec_here", "_law_one", "_law_triple_here", "_law_scheme_here", "_law_offset", "_law_found", "_law_again", "_law_lay", "_law_r", "_law_j", "_law_many", "_law_rows", "_law_other", "_law_k"] ["_law_spec_here", "_law_one", "_law_triple_here"] (defScope s__law_right) := ⟨rfl, rfl, rfl, by decide +kernel, rfl, by decide +kernel, by decide +kernel⟩
abbrev s__law_refused : Stmt := top 58
theorem sc__law_refused : FnScope ["_law_spec_here", "e"] ["_law_spec_here"] (defScope s__law_refused) := ⟨rfl, rfl, rfl, by decide +kernel, rfl, by decide +kernel, by decide +kernel⟩
abbrev s_law : Stmt := top 59
theorem sc_law : FnScope ["_law_script", "_law_draws", "_law_turn", "_law_spec_here", "_law_one", "_law_triple_here"] ["_law_script"] (defScope s_law) := ⟨rfl, rfl, rfl, by decide +kernel, rfl, by decide +kernel, by decide +kernel⟩
structure Txt (K : PySem.W.Frag) (mg : Str → Option Value) where
  f_BadOffset___init__ : Addr
  d_BadOffset___init__ : FuncData
  F_BadOffset___init__ : Fun K "__init__" "BadOffset.__init__" s_BadOffset___init__ f_BadOffset___init__ d_BadOffset___init__
  b_BadOffset___init__ : Binds K d_BadOffset___init__ ["self", "rows", "groups", "distance"] []
  f_BadScheme___init__ : Addr
  d_BadScheme___init__ : FuncData
  F_BadScheme___init__ : Fun K "__init__" "BadScheme.__init__" s_BadScheme___init__ f_BadScheme___init__ d_BadScheme___init__
  b_BadScheme___init__ : Binds K d_BadScheme___init__ ["self", "word"] []
  f_UnknownSort___init__ : Addr
  d_UnknownSort___init__ : FuncData
  F_UnknownSort___init__ : Fun K "__init__" "UnknownSort.__init__" s_UnknownSort___init__ f_UnknownSort___init__ d_UnknownSort___init__
  b_UnknownSort___init__ : Binds K d_UnknownSort___init__ ["self", "name"] []
  f_BadRow___init__ : Addr
  d_BadRow___init__ : FuncData
  F_BadRow___init__ : Fun K "__init__" "BadRow.__init__" s_BadRow___init__ f_BadRow___init__ d_BadRow___init__
  b_BadRow___init__ : Binds K d_BadRow___init__ ["self", "number", "column"] []
  f_BadNumber___init__ : Addr
  d_BadNumber___init__ : FuncData
  F_BadNumber___init__ : Fun K "__init__" "BadNumber.__init__" s_BadNumber___init__ f_BadNumber___init__ d_BadNumber___init__
  b_BadNumber___init__ : Binds K d_BadNumber___init__ ["self", "number"] []
  f_BadLay___init__ : Addr
  d_BadLay___init__ : FuncData
  F_BadLay___init__ : Fun K "__init__" "BadLay.__init__" s_BadLay___init__ f_BadLay___init__ d_BadLay___init__
  b_BadLay___init__ : Binds K d_BadLay___init__ ["self", "name"] []
  f_possible : Addr
  d_possible : FuncData
  F_possible : Fun K "possible" "possible" s_possible f_possible d_possible
  b_possible : Binds K d_possible ["rows", "groups", "distance"] []
  g_possible : mg "possible" = some (.ref f_possible)
  f_zone_of : Addr
  d_zone_of : FuncData
  F_zone_of : Fun K "zone_of" "zone_of" s_zone_of f_zone_of d_zone_of
  b_zone_of : Binds K d_zone_of ["rows", "groups"] []
  g_zone_of : mg "zone_of" = some (.ref f_zone_of)
  f_Offset___init__ : Addr
  d_Offset___init__ : FuncData
  F_Offset___init__ : Fun K "__init__" "Offset.__init__" s_Offset___init__ f_Offset___init__ d_Offset___init__
  b_Offset___init__ : Binds K d_Offset___init__ ["self", "rows", "groups", "distance"] []
  f_Offset___neg__ : Addr
  d_Offset___neg__ : FuncData
  F_Offset___neg__ : Fun K "__neg__" "Offset.__neg__" s_Offset___neg__ f_Offset___neg__ d_Offset___neg__
  b_Offset___neg__ : Binds K d_Offset___neg__ ["self"] []
  f_Offset___eq__ : Addr
  d_Offset___eq__ : FuncData
  F_Offset___eq__ : Fun K "__eq__" "Offset.__eq__" s_Offset___eq__ f_Offset___eq__ d_Offset___eq__
  b_Offset___eq__ : Binds K d_Offset___eq__ ["self", "other"] []
  f_is_integer : Addr
  d_is_integer : FuncData
  F_is_integer : Fun K "is_integer" "is_integer" s_is_integer f_is_integer d_is_integer
  b_is_integer : Binds K d_is_integer ["thing"] []
  g_is_integer : mg "is_integer" = some (.ref f_is_integer)
  f_bad_column : Addr
  d_bad_column : FuncData
  F_bad_column : Fun K "bad_column" "bad_column" s_bad_column f_bad_column d_bad_column
  b_bad_column : Binds K d_bad_column ["scheme", "row"] []
  g_bad_column : mg "bad_column" = some (.ref f_bad_column)
  f_Table___init__ : Addr
  d_Table___init__ : FuncData
  F_Table___init__ : Fun K "__init__" "Table.__init__" s_Table___init__ f_Table___init__ d_Table___init__
  b_Table___init__ : Binds K d_Table___init__ ["self", "scheme", "rows"] []
  f_Table___len__ : Addr
  d_Table___len__ : FuncData
  F_Table___len__ : Fun K "__len__" "Table.__len__" s_Table___len__ f_Table___len__ d_Table___len__
  b_Table___len__ : Binds K d_Table___len__ ["self"] []
  f_Table_record : Addr
  d_Table_record : FuncData
  F_Table_record : Fun K "record" "Table.record" s_Table_record f_Table_record d_Table_record
  b_Table_record : Binds K d_Table_record ["self", "number"] []
  f_Table___eq__ : Addr
  d_Table___eq__ : FuncData
  F_Table___eq__ : Fun K "__eq__" "Table.__eq__" s_Table___eq__ f_Table___eq__ d_Table___eq__
  b_Table___eq__ : Binds K d_Table___eq__ ["self", "other"] []
  f_seat_of : Addr
  d_seat_of : FuncData
  F_seat_of : Fun K "seat_of" "seat_of" s_seat_of f_seat_of d_seat_of
  b_seat_of : Binds K d_seat_of ["sort", "row"] []
  g_seat_of : mg "seat_of" = some (.ref f_seat_of)
  f_seats_of : Addr
  d_seats_of : FuncData
  F_seats_of : Fun K "seats_of" "seats_of" s_seats_of f_seats_of d_seats_of
  b_seats_of : Binds K d_seats_of ["table", "sort"] []
  g_seats_of : mg "seats_of" = some (.ref f_seats_of)
  f_is_numbering : Addr
  d_is_numbering : FuncData
  F_is_numbering : Fun K "is_numbering" "is_numbering" s_is_numbering f_is_numbering d_is_numbering
  b_is_numbering : Binds K d_is_numbering ["order", "many"] []
  g_is_numbering : mg "is_numbering" = some (.ref f_is_numbering)
  f_is_sorted : Addr
  d_is_sorted : FuncData
  F_is_sorted : Fun K "is_sorted" "is_sorted" s_is_sorted f_is_sorted d_is_sorted
  b_is_sorted : Binds K d_is_sorted ["order", "seats"] []
  g_is_sorted : mg "is_sorted" = some (.ref f_is_sorted)
  f_ranks_of : Addr
  d_ranks_of : FuncData
  F_ranks_of : Fun K "ranks_of" "ranks_of" s_ranks_of f_ranks_of d_ranks_of
  b_ranks_of : Binds K d_ranks_of ["order", "seats"] []
  g_ranks_of : mg "ranks_of" = some (.ref f_ranks_of)
  f_Lay___init__ : Addr
  d_Lay___init__ : FuncData
  F_Lay___init__ : Fun K "__init__" "Lay.__init__" s_Lay___init__ f_Lay___init__ d_Lay___init__
  b_Lay___init__ : Binds K d_Lay___init__ ["self", "table", "orders"] []
  f_Lay_order : Addr
  d_Lay_order : FuncData
  F_Lay_order : Fun K "order" "Lay.order" s_Lay_order f_Lay_order d_Lay_order
  b_Lay_order : Binds K d_Lay_order ["self", "sort"] []
  f_Lay_inspect_rows : Addr
  d_Lay_inspect_rows : FuncData
  F_Lay_inspect_rows : Fun K "inspect_rows" "Lay.inspect_rows" s_Lay_inspect_rows f_Lay_inspect_rows d_Lay_inspect_rows
  b_Lay_inspect_rows : Binds K d_Lay_inspect_rows ["self", "row", "other"] []
  f_Lay_offset : Addr
  d_Lay_offset : FuncData
  F_Lay_offset : Fun K "offset" "Lay.offset" s_Lay_offset f_Lay_offset d_Lay_offset
  b_Lay_offset : Binds K d_Lay_offset ["self", "sort", "row", "other"] []
  f_Lay___eq__ : Addr
  d_Lay___eq__ : FuncData
  F_Lay___eq__ : Fun K "__eq__" "Lay.__eq__" s_Lay___eq__ f_Lay___eq__ d_Lay___eq__
  b_Lay___eq__ : Binds K d_Lay___eq__ ["self", "other"] []
  f_groups_of : Addr
  d_groups_of : FuncData
  F_groups_of : Fun K "groups_of" "groups_of" s_groups_of f_groups_of d_groups_of
  b_groups_of : Binds K d_groups_of ["table", "name"] []
  g_groups_of : mg "groups_of" = some (.ref f_groups_of)
  f_factorial : Addr
  d_factorial : FuncData
  F_factorial : Fun K "factorial" "factorial" s_factorial f_factorial d_factorial
  b_factorial : Binds K d_factorial ["many"] []
  g_factorial : mg "factorial" = some (.ref f_factorial)
  f_all_groups : Addr
  d_all_groups : FuncData
  F_all_groups : Fun K "all_groups" "all_groups" s_all_groups f_all_groups d_all_groups
  b_all_groups : Binds K d_all_groups ["table"] []
  g_all_groups : mg "all_groups" = some (.ref f_all_groups)
  f_first_lay : Addr
  d_first_lay : FuncData
  F_first_lay : Fun K "first_lay" "first_lay" s_first_lay f_first_lay d_first_lay
  b_first_lay : Binds K d_first_lay ["table"] []
  g_first_lay : mg "first_lay" = some (.ref f_first_lay)
  f_lay_count : Addr
  d_lay_count : FuncData
  F_lay_count : Fun K "lay_count" "lay_count" s_lay_count f_lay_count d_lay_count
  b_lay_count : Binds K d_lay_count ["table"] []
  g_lay_count : mg "lay_count" = some (.ref f_lay_count)
  f_order_at : Addr
  d_order_at : FuncData
  F_order_at : Fun K "order_at" "order_at" s_order_at f_order_at d_order_at
  b_order_at : Binds K d_order_at ["group", "number"] []
  g_order_at : mg "order_at" = some (.ref f_order_at)
  f_lay_at : Addr
  d_lay_at : FuncData
  F_lay_at : Fun K "lay_at" "lay_at" s_lay_at f_lay_at d_lay_at
  b_lay_at : Binds K d_lay_at ["table", "number"] []
  g_lay_at : mg "lay_at" = some (.ref f_lay_at)
  f_plain_row : Addr
  d_plain_row : FuncData
  F_plain_row : Fun K "plain_row" "plain_row" s_plain_row f_plain_row d_plain_row
  b_plain_row : Binds K d_plain_row ["scheme"] []
  g_plain_row : mg "plain_row" = some (.ref f_plain_row)
  f_rising_rows : Addr
  d_rising_rows : FuncData
  F_rising_rows : Fun K "rising_rows" "rising_rows" s_rising_rows f_rising_rows d_rising_rows
  b_rising_rows : Binds K d_rising_rows ["scheme", "sort", "offset"] []
  g_rising_rows : mg "rising_rows" = some (.ref f_rising_rows)
  f_showing : Addr
  d_showing : FuncData
  F_showing : Fun K "showing" "showing" s_showing f_showing d_showing
  b_showing : Binds K d_showing ["scheme", "sort", "offset"] []
  g_showing : mg "showing" = some (.ref f_showing)
  f_is_name : Addr
  d_is_name : FuncData
  F_is_name : Fun K "is_name" "is_name" s_is_name f_is_name d_is_name
  b_is_name : Binds K d_is_name ["thing"] []
  g_is_name : mg "is_name" = some (.ref f_is_name)
  f_first_double : Addr
  d_first_double : FuncData
  F_first_double : Fun K "first_double" "first_double" s_first_double f_first_double d_first_double
  b_first_double : Binds K d_first_double ["words"] []
  g_first_double : mg "first_double" = some (.ref f_first_double)
  f_Sort___init__ : Addr
  d_Sort___init__ : FuncData
  F_Sort___init__ : Fun K "__init__" "Sort.__init__" s_Sort___init__ f_Sort___init__ d_Sort___init__
  kn_Sort___init__ : KBn K d_Sort___init__ ["self", "name", "key", "part", "descending"] 3 ["part", "descending"] (fun us ws => us ++ ws) (fun vs zs => vs ++ zs)
  f_Sort___eq__ : Addr
  d_Sort___eq__ : FuncData
  F_Sort___eq__ : Fun K "__eq__" "Sort.__eq__" s_Sort___eq__ f_Sort___eq__ d_Sort___eq__
  b_Sort___eq__ : Binds K d_Sort___eq__ ["self", "other"] []
  f_Scheme___init__ : Addr
  d_Scheme___init__ : FuncData
  F_Scheme___init__ : Fun K "__init__" "Scheme.__init__" s_Scheme___init__ f_Scheme___init__ d_Scheme___init__
  kn_Scheme___init__ : KBn K d_Scheme___init__ ["self", "sorts", "parts", "values", "marks"] 2 ["parts", "values", "marks"] (fun us ws => us ++ ws) (fun vs zs => vs ++ zs)
  f_Scheme_inspect : Addr
  d_Scheme_inspect : FuncData
  F_Scheme_inspect : Fun K "inspect" "Scheme.inspect" s_Scheme_inspect f_Scheme_inspect d_Scheme_inspect
  b_Scheme_inspect : Binds K d_Scheme_inspect ["self"] []
  f_Scheme_columns : Addr
  d_Scheme_columns : FuncData
  F_Scheme_columns : Fun K "columns" "Scheme.columns" s_Scheme_columns f_Scheme_columns d_Scheme_columns
  b_Scheme_columns : Binds K d_Scheme_columns ["self"] []
  f_Scheme_sort_names : Addr
  d_Scheme_sort_names : FuncData
  F_Scheme_sort_names : Fun K "sort_names" "Scheme.sort_names" s_Scheme_sort_names f_Scheme_sort_names d_Scheme_sort_names
  b_Scheme_sort_names : Binds K d_Scheme_sort_names ["self"] []
  f_Scheme_sort_named : Addr
  d_Scheme_sort_named : FuncData
  F_Scheme_sort_named : Fun K "sort_named" "Scheme.sort_named" s_Scheme_sort_named f_Scheme_sort_named d_Scheme_sort_named
  b_Scheme_sort_named : Binds K d_Scheme_sort_named ["self", "name"] []
  f_Scheme___eq__ : Addr
  d_Scheme___eq__ : FuncData
  F_Scheme___eq__ : Fun K "__eq__" "Scheme.__eq__" s_Scheme___eq__ f_Scheme___eq__ d_Scheme___eq__
  b_Scheme___eq__ : Binds K d_Scheme___eq__ ["self", "other"] []
  f__law_begin : Addr
  d__law_begin : FuncData
  F__law_begin : Fun K "_law_begin" "_law_begin" s__law_begin f__law_begin d__law_begin
  b__law_begin : Binds K d__law_begin ["_law_script"] []
  g__law_begin : mg "_law_begin" = some (.ref f__law_begin)
  f__law_draw : Addr
  d__law_draw : FuncData
  F__law_draw : Fun K "_law_draw" "_law_draw" s__law_draw f__law_draw d__law_draw
  b__law_draw : Binds K d__law_draw ["_law_draws", "_law_many"] []
  g__law_draw : mg "_law_draw" = some (.ref f__law_draw)
  f__law_name : Addr
  d__law_name : FuncData
  F__law_name : Fun K "_law_name" "_law_name" s__law_name f__law_name d__law_name
  b__law_name : Binds K d__law_name ["_law_draws", "_law_taken"] []
  g__law_name : mg "_law_name" = some (.ref f__law_name)
  f__law_names : Addr
  d__law_names : FuncData
  F__law_names : Fun K "_law_names" "_law_names" s__law_names f__law_names d__law_names
  b__law_names : Binds K d__law_names ["_law_draws", "_law_taken", "_law_many"] []
  g__law_names : mg "_law_names" = some (.ref f__law_names)
  f__law_spec : Addr
  d__law_spec : FuncData
  F__law_spec : Fun K "_law_spec" "_law_spec" s__law_spec f__law_spec d__law_spec
  b__law_spec : Binds K d__law_spec ["_law_draws", "_law_most"] []
  g__law_spec : mg "_law_spec" = some (.ref f__law_spec)
  f__law_scheme : Addr
  d__law_scheme : FuncData
  F__law_scheme : Fun K "_law_scheme" "_law_scheme" s__law_scheme f__law_scheme d__law_scheme
  b__law_scheme : Binds K d__law_scheme ["_law_spec_here"] []
  g__law_scheme : mg "_law_scheme" = some (.ref f__law_scheme)
  f__law_key : Addr
  d__law_key : FuncData
  F__law_key : Fun K "_law_key" "_law_key" s__law_key f__law_key d__law_key
  b__law_key : Binds K d__law_key ["_law_one", "_law_row"] []
  g__law_key : mg "_law_key" = some (.ref f__law_key)
  f__law_hall : Addr
  d__law_hall : FuncData
  F__law_hall : Fun K "_law_hall" "_law_hall" s__law_hall f__law_hall d__law_hall
  b__law_hall : Binds K d__law_hall ["_law_one", "_law_row"] []
  g__law_hall : mg "_law_hall" = some (.ref f__law_hall)
  f__law_whole : Addr
  d__law_whole : FuncData
  F__law_whole : Fun K "_law_whole" "_law_whole" s__law_whole f__law_whole d__law_whole
  b__law_whole : Binds K d__law_whole ["_law_x"] []
  g__law_whole : mg "_law_whole" = some (.ref f__law_whole)
  f__law_triple : Addr
  d__law_triple : FuncData
  F__law_triple : Fun K "_law_triple" "_law_triple" s__law_triple f__law_triple d__law_triple
  b__law_triple : Binds K d__law_triple ["_law_draws"] []
  g__law_triple : mg "_law_triple" = some (.ref f__law_triple)
  f__law_seat_list : Addr
  d__law_seat_list : FuncData
  F__law_seat_list : Fun K "_law_seat_list" "_law_seat_list" s__law_seat_list f__law_seat_list d__law_seat_list
  b__law_seat_list : Binds K d__law_seat_list ["_law_one", "_law_rows", "_law_order"] []
  g__law_seat_list : mg "_law_seat_list" = some (.ref f__law_seat_list)
  f__law_fits : Addr
  d__law_fits : FuncData
  F__law_fits : Fun K "_law_fits" "_law_fits" s__law_fits f__law_fits d__law_fits
  b__law_fits : Binds K d__law_fits ["_law_one", "_law_rows", "_law_order"] []
  g__law_fits : mg "_law_fits" = some (.ref f__law_fits)
  f__law_seen : Addr
  d__law_seen : FuncData
  F__law_seen : Fun K "_law_seen" "_law_seen" s__law_seen f__law_seen d__law_seen
  b__law_seen : Binds K d__law_seen ["_law_one", "_law_rows", "_law_order", "_law_r", "_law_j"] []
  g__law_seen : mg "_law_seen" = some (.ref f__law_seen)
  f__law_right : Addr
  d__law_right : FuncData
  F__law_right : Fun K "_law_right" "_law_right" s__law_right f__law_right d__law_right
  b__law_right : Binds K d__law_right ["_law_spec_here", "_law_one", "_law_triple_here"] []
  g__law_right : mg "_law_right" = some (.ref f__law_right)
  f__law_refused : Addr
  d__law_refused : FuncData
  F__law_refused : Fun K "_law_refused" "_law_refused" s__law_refused f__law_refused d__law_refused
  b__law_refused : Binds K d__law_refused ["_law_spec_here"] []
  g__law_refused : mg "_law_refused" = some (.ref f__law_refused)
  f_law : Addr
  d_law : FuncData
  F_law : Fun K "law" "law" s_law f_law d_law
  b_law : Binds K d_law ["_law_script"] []
  g_law : mg "law" = some (.ref f_law)
  z_abs : mg "abs" = none
  z_all : mg "all" = none
  z_bool : mg "bool" = none
  z_dict : mg "dict" = none
  z_enumerate : mg "enumerate" = none
  z_int : mg "int" = none
  z_isinstance : mg "isinstance" = none
  z_len : mg "len" = none
  z_list : mg "list" = none
  z_max : mg "max" = none
  z_range : mg "range" = none
  z_reversed : mg "reversed" = none
  z_sorted : mg "sorted" = none
  z_str : mg "str" = none
  z_tuple : mg "tuple" = none
  z_zip : mg "zip" = none
  C_WindowError : Addr
  C_BadScheme : Addr
  C_BadRow : Addr
  C_BadNumber : Addr
  C_UnknownSort : Addr
  C_BadLay : Addr
  C_Sort : Addr
  C_Scheme : Addr
  C_Table : Addr
  C_Lay : Addr
  C_BadOffset : Addr
  C_Offset : Addr
  g_WindowError : mg "WindowError" = some (.ref C_WindowError)
  g_BadScheme : mg "BadScheme" = some (.ref C_BadScheme)
  ox_BadScheme : OexC K C_BadScheme
  xf_BadScheme : XfC K C_BadScheme
  iC_BadScheme : PySem.W.findIn K (.ref C_BadScheme) "__init__" = some (some (.ref f_BadScheme___init__))
  tI_BadScheme : PySem.W.typeIn K (.ref f_BadScheme___init__) = some (.type "function")
  nf_BadScheme_word : PySem.W.findIn K (.ref C_BadScheme) "word" = some none
  g_BadRow : mg "BadRow" = some (.ref C_BadRow)
  ox_BadRow : OexC K C_BadRow
  xf_BadRow : XfC K C_BadRow
  iC_BadRow : PySem.W.findIn K (.ref C_BadRow) "__init__" = some (some (.ref f_BadRow___init__))
  tI_BadRow : PySem.W.typeIn K (.ref f_BadRow___init__) = some (.type "function")
  nf_BadRow_number : PySem.W.findIn K (.ref C_BadRow) "number" = some none
  nf_BadRow_column : PySem.W.findIn K (.ref C_BadRow) "column" = some none
  ec_BadRow : ExcC K C_BadRow
  ke_BadRow_WindowError : PySem.W.kitOne K (.ref C_BadRow) (.ref C_WindowError) = some true
  em_BadRow_BadRow : PySem.W.exmOne K (.ref C_BadRow) (.ref C_BadRow) = some true
  is_BadRow_BadRow : PySem.W.isIn K (.ref C_BadRow) C_BadRow = true
  em_BadRow_WindowError : PySem.W.exmOne K (.ref C_BadRow) (.ref C_WindowError) = some true
  is_BadRow_WindowError : PySem.W.isIn K (.ref C_BadRow) C_WindowError = true
  g_BadNumber : mg "BadNumber" = some (.ref C_BadNumber)
  ox_BadNumber : OexC K C_BadNumber
  xf_BadNumber : XfC K C_BadNumber
  iC_BadNumber : PySem.W.findIn K (.ref C_BadNumber) "__init__" = some (some (.ref f_BadNumber___init__))
  tI_BadNumber : PySem.W.typeIn K (.ref f_BadNumber___init__) = some (.type "function")
  nf_BadNumber_number : PySem.W.findIn K (.ref C_BadNumber) "number" = some none
  ec_BadNumber : ExcC K C_BadNumber
  ke_BadNumber_WindowError : PySem.W.kitOne K (.ref C_BadNumber) (.ref C_WindowError) = some true
  em_BadNumber_UnknownSort : PySem.W.exmOne K (.ref C_BadNumber) (.ref C_UnknownSort) = some false
  em_BadNumber_BadNumber : PySem.W.exmOne K (.ref C_BadNumber) (.ref C_BadNumber) = some true
  is_BadNumber_BadNumber : PySem.W.isIn K (.ref C_BadNumber) C_BadNumber = true
  em_BadNumber_WindowError : PySem.W.exmOne K (.ref C_BadNumber) (.ref C_WindowError) = some true
  is_BadNumber_WindowError : PySem.W.isIn K (.ref C_BadNumber) C_WindowError = true
  g_UnknownSort : mg "UnknownSort" = some (.ref C_UnknownSort)
  ox_UnknownSort : OexC K C_UnknownSort
  xf_UnknownSort : XfC K C_UnknownSort
  iC_UnknownSort : PySem.W.findIn K (.ref C_UnknownSort) "__init__" = some (some (.ref f_UnknownSort___init__))
  tI_UnknownSort : PySem.W.typeIn K (.ref f_UnknownSort___init__) = some (.type "function")
  nf_UnknownSort_name : PySem.W.findIn K (.ref C_UnknownSort) "name" = some none
  ec_UnknownSort : ExcC K C_UnknownSort
  ke_UnknownSort_WindowError : PySem.W.kitOne K (.ref C_UnknownSort) (.ref C_WindowError) = some true
  em_UnknownSort_UnknownSort : PySem.W.exmOne K (.ref C_UnknownSort) (.ref C_UnknownSort) = some true
  is_UnknownSort_UnknownSort : PySem.W.isIn K (.ref C_UnknownSort) C_UnknownSort = true
  em_UnknownSort_WindowError : PySem.W.exmOne K (.ref C_UnknownSort) (.ref C_WindowError) = some true
  is_UnknownSort_WindowError : PySem.W.isIn K (.ref C_UnknownSort) C_WindowError = true
  g_BadLay : mg "BadLay" = some (.ref C_BadLay)
  ox_BadLay : OexC K C_BadLay
  xf_BadLay : XfC K C_BadLay
  iC_BadLay : PySem.W.findIn K (.ref C_BadLay) "__init__" = some (some (.ref f_BadLay___init__))
  tI_BadLay : PySem.W.typeIn K (.ref f_BadLay___init__) = some (.type "function")
  nf_BadLay_name : PySem.W.findIn K (.ref C_BadLay) "name" = some none
  ec_BadLay : ExcC K C_BadLay
  ke_BadLay_WindowError : PySem.W.kitOne K (.ref C_BadLay) (.ref C_WindowError) = some true
  em_BadLay_BadLay : PySem.W.exmOne K (.ref C_BadLay) (.ref C_BadLay) = some true
  is_BadLay_BadLay : PySem.W.isIn K (.ref C_BadLay) C_BadLay = true
  em_BadLay_WindowError : PySem.W.exmOne K (.ref C_BadLay) (.ref C_WindowError) = some true
  is_BadLay_WindowError : PySem.W.isIn K (.ref C_BadLay) C_WindowError = true
  g_Sort : mg "Sort" = some (.ref C_Sort)
  c_Sort : Cls K C_Sort
  m_Sort : Mk K C_Sort f_Sort___init__
  nf_Sort_name : NoAttr K C_Sort "name"
  nf_Sort_key : NoAttr K C_Sort "key"
  nf_Sort_part : NoAttr K C_Sort "part"
  nf_Sort_descending : NoAttr K C_Sort "descending"
  mt_Sort___eq__ : Meth K C_Sort "__eq__" f_Sort___eq__
  ca_Sort : PySem.W.findIn K (.ref C_Sort) "__class__" = some (some (.builtin "object.__class__"))
  cn_Sort : PySem.W.specialIn K (.builtin "object.__class__") "__get__" = some (some (.builtin "getset_descriptor.__get__"))
  ct_Sort : PySem.W.takesIn K (.builtin "object.__class__") = some true
  cm_Sort : PySem.W.mroIn K C_Sort (.type "object") = some true
  nt_Sort : PySem.W.notFirst K C_Sort (.ref C_Sort) = true
  g_Scheme : mg "Scheme" = some (.ref C_Scheme)
  c_Scheme : Cls K C_Scheme
  m_Scheme : Mk K C_Scheme f_Scheme___init__
  nf_Scheme_sorts : NoAttr K C_Scheme "sorts"
  nf_Scheme_part_columns : NoAttr K C_Scheme "part_columns"
  nf_Scheme_value_columns : NoAttr K C_Scheme "value_columns"
  nf_Scheme_mark_columns : NoAttr K C_Scheme "mark_columns"
  mt_Scheme_inspect : Meth K C_Scheme "inspect" f_Scheme_inspect
  mt_Scheme_columns : Meth K C_Scheme "columns" f_Scheme_columns
  mt_Scheme_sort_names : Meth K C_Scheme "sort_names" f_Scheme_sort_names
  mt_Scheme_sort_named : Meth K C_Scheme "sort_named" f_Scheme_sort_named
  mt_Scheme___eq__ : Meth K C_Scheme "__eq__" f_Scheme___eq__
  ca_Scheme : PySem.W.findIn K (.ref C_Scheme) "__class__" = some (some (.builtin "object.__class__"))
  cn_Scheme : PySem.W.specialIn K (.builtin "object.__class__") "__get__" = some (some (.builtin "getset_descriptor.__get__"))
  ct_Scheme : PySem.W.takesIn K (.builtin "object.__class__") = some true
  cm_Scheme : PySem.W.mroIn K C_Scheme (.type "object") = some true
  ne_Scheme : PySem.W.findIn K (.ref C_Scheme) "__ne__" = some (some (.builtin "object.__ne__"))
  ob_Scheme : PySem.W.subIn K (.ref C_Scheme) (.type "object") = some true
  nt_Scheme : PySem.W.notFirst K C_Scheme (.ref C_Scheme) = true
  g_Table : mg "Table" = some (.ref C_Table)
  c_Table : Cls K C_Table
  m_Table : Mk K C_Table f_Table___init__
  nf_Table_scheme : NoAttr K C_Table "scheme"
  nf_Table_records : NoAttr K C_Table "records"
  mt_Table___len__ : Meth K C_Table "__len__" f_Table___len__
  mt_Table_record : Meth K C_Table "record" f_Table_record
  mt_Table___eq__ : Meth K C_Table "__eq__" f_Table___eq__
  ca_Table : PySem.W.findIn K (.ref C_Table) "__class__" = some (some (.builtin "object.__class__"))
  cn_Table : PySem.W.specialIn K (.builtin "object.__class__") "__get__" = some (some (.builtin "getset_descriptor.__get__"))
  ct_Table : PySem.W.takesIn K (.builtin "object.__class__") = some true
  cm_Table : PySem.W.mroIn K C_Table (.type "object") = some true
  ne_Table : PySem.W.findIn K (.ref C_Table) "__ne__" = some (some (.builtin "object.__ne__"))
  ob_Table : PySem.W.subIn K (.ref C_Table) (.type "object") = some true
  nt_Table : PySem.W.notFirst K C_Table (.ref C_Table) = true
  g_Lay : mg "Lay" = some (.ref C_Lay)
  c_Lay : Cls K C_Lay
  m_Lay : Mk K C_Lay f_Lay___init__
  nf_Lay_table : NoAttr K C_Lay "table"
  nf_Lay_orders : NoAttr K C_Lay "orders"
  nf_Lay_seats : NoAttr K C_Lay "seats"
  nf_Lay_spots : NoAttr K C_Lay "spots"
  nf_Lay_ranks : NoAttr K C_Lay "ranks"
  mt_Lay_order : Meth K C_Lay "order" f_Lay_order
  mt_Lay_inspect_rows : Meth K C_Lay "inspect_rows" f_Lay_inspect_rows
  mt_Lay_offset : Meth K C_Lay "offset" f_Lay_offset
  mt_Lay___eq__ : Meth K C_Lay "__eq__" f_Lay___eq__
  ca_Lay : PySem.W.findIn K (.ref C_Lay) "__class__" = some (some (.builtin "object.__class__"))
  cn_Lay : PySem.W.specialIn K (.builtin "object.__class__") "__get__" = some (some (.builtin "getset_descriptor.__get__"))
  ct_Lay : PySem.W.takesIn K (.builtin "object.__class__") = some true
  cm_Lay : PySem.W.mroIn K C_Lay (.type "object") = some true
  ne_Lay : PySem.W.findIn K (.ref C_Lay) "__ne__" = some (some (.builtin "object.__ne__"))
  ob_Lay : PySem.W.subIn K (.ref C_Lay) (.type "object") = some true
  nt_Lay : PySem.W.notFirst K C_Lay (.ref C_Lay) = true
  nt_Lay_dict : PySem.W.notFirst K C_Lay (.type "dict") = true
  ki_Lay_dict : PySem.W.kitOne K (.type "dict") (.ref C_Lay) = some false
  g_BadOffset : mg "BadOffset" = some (.ref C_BadOffset)
  ox_BadOffset : OexC K C_BadOffset
  xf_BadOffset : XfC K C_BadOffset
  iC_BadOffset : PySem.W.findIn K (.ref C_BadOffset) "__init__" = some (some (.ref f_BadOffset___init__))
  tI_BadOffset : PySem.W.typeIn K (.ref f_BadOffset___init__) = some (.type "function")
  nf_BadOffset_rows : PySem.W.findIn K (.ref C_BadOffset) "rows" = some none
  nf_BadOffset_groups : PySem.W.findIn K (.ref C_BadOffset) "groups" = some none
  nf_BadOffset_distance : PySem.W.findIn K (.ref C_BadOffset) "distance" = some none
  em_BadOffset_BadOffset : PySem.W.exmOne K (.ref C_BadOffset) (.ref C_BadOffset) = some true
  is_BadOffset_BadOffset : PySem.W.isIn K (.ref C_BadOffset) C_BadOffset = true
  g_Offset : mg "Offset" = some (.ref C_Offset)
  c_Offset : Cls K C_Offset
  m_Offset : Mk K C_Offset f_Offset___init__
  nf_Offset_rows : NoAttr K C_Offset "rows"
  nf_Offset_groups : NoAttr K C_Offset "groups"
  nf_Offset_distance : NoAttr K C_Offset "distance"
  nf_Offset_zone : NoAttr K C_Offset "zone"
  mt_Offset___neg__ : Meth K C_Offset "__neg__" f_Offset___neg__
  mt_Offset___eq__ : Meth K C_Offset "__eq__" f_Offset___eq__
  ca_Offset : PySem.W.findIn K (.ref C_Offset) "__class__" = some (some (.builtin "object.__class__"))
  cn_Offset : PySem.W.specialIn K (.builtin "object.__class__") "__get__" = some (some (.builtin "getset_descriptor.__get__"))
  ct_Offset : PySem.W.takesIn K (.builtin "object.__class__") = some true
  cm_Offset : PySem.W.mroIn K C_Offset (.type "object") = some true
  ne_Offset : PySem.W.findIn K (.ref C_Offset) "__ne__" = some (some (.builtin "object.__ne__"))
  ob_Offset : PySem.W.subIn K (.ref C_Offset) (.type "object") = some true
  nt_Offset : PySem.W.notFirst K C_Offset (.ref C_Offset) = true
  t_LETTERS : Tok
  g_LETTERS : mg "LETTERS" = some (.str "abcdefghijklmnopqrstuvwxyz" t_LETTERS)
  a_WORDS : Addr
  g_WORDS : mg "WORDS" = some (.ref a_WORDS)
  q_WORDS : ∀ H, SqT K H a_WORDS [V.str "rows", V.str "groups", V.str "keys", V.str "self", V.str "ties", V.str "group", V.str "all", V.str "none", V.str "sum", V.str "count", V.str "by", V.str "not"]
  y_WORDS : ∀ H, tyV K "tuple" (.ref a_WORDS) H
  t_MOST : Tok
  g_MOST : mg "MOST" = some (.int 1000000000000 t_MOST)
  kt_bool_int : PySem.W.kitOne K (.type "bool") (.type "int") = some true
  kt_int_bool : PySem.W.kitOne K (.type "int") (.type "bool") = some false
  kt_NoneType_int : PySem.W.kitOne K (.type "NoneType") (.type "int") = some false
  kt_str_int : PySem.W.kitOne K (.type "str") (.type "int") = some false

def partV : Option Str → V
  | none => .non
  | some z => .str z
structure Srt where
  nm : Str
  ky : Str
  pt : Option Str
  ds : Bool
structure Sch where
  ss : List Srt
  ps : List Str
  vs : List Str
  ms : List Str
def srtF (s : Srt) : List (Str × V) := putF "descending" (.bl s.ds) (putF "part" (partV s.pt) (putF "key" (.str s.ky) (putF "name" (.str s.nm) [])))
theorem srt_name (s : Srt) : (srtF s).lookup ("name" : Str) = some (.str s.nm) := by
  unfold srtF
  rw [lookup_putF, if_neg (by decide +kernel), lookup_putF, if_neg (by decide +kernel), lookup_putF, if_neg (by decide +kernel), lookup_putF, if_pos rfl]
theorem srt_key (s : Srt) : (srtF s).lookup ("key" : Str) = some (.str s.ky) := by
  unfold srtF
  rw [lookup_putF, if_neg (by decide +kernel), lookup_putF, if_neg (by decide +kernel), lookup_putF, if_pos rfl]
theorem srt_part (s : Srt) : (srtF s).lookup ("part" : Str) = some (partV s.pt) := by
  unfold srtF
  rw [lookup_putF, if_neg (by decide +kernel), lookup_putF, if_pos rfl]
theorem srt_desc (s : Srt) : (srtF s).lookup ("descending" : Str) = some (.bl s.ds) := by
  unfold srtF
  rw [lookup_putF, if_pos rfl]
def SortAt (C : Addr) (H : Hp) (p : Addr) (s : Srt) : Prop := ∃ dx, H p = some (.ins C dx (srtF s))
theorem SortAt.same {C : Addr} {H H' : Hp} {p : Addr} {s : Srt} (h : SortAt C H p s) (e : Same H H') : SortAt C H' p s := by
  obtain ⟨dx, z⟩ := h
  exact ⟨dx, e _ _ z⟩
theorem SortAt.put {C : Addr} {H : Hp} {p D : Addr} {s : Srt} {o o' : HO} (h : SortAt C H p s) (hD : H D = some o) (n : ∀ C dx fs, o ≠ .ins C dx fs) : SortAt C (upd H D o') p s := by
  obtain ⟨dx, e⟩ := h
  exact ⟨dx, (upd_ne (ne_of e hD fun z => n _ _ _ z.symm)).trans e⟩
def schF (tS tP tV tM : Addr) : List (Str × V) := putF "mark_columns" (.ref tM) (putF "value_columns" (.ref tV) (putF "part_columns" (.ref tP) (putF "sorts" (.ref tS) [])))
theorem sch_sorts (a b c d : Addr) : (schF a b c d).lookup ("sorts" : Str) = some (.ref a) := by
  unfold schF
  rw [lookup_putF, if_neg (by decide +kernel), lookup_putF, if_neg (by decide +kernel), lookup_putF, if_neg (by decide +kernel), lookup_putF, if_pos rfl]
theorem sch_parts (a b c d : Addr) : (schF a b c d).lookup ("part_columns" : Str) = some (.ref b) := by
  unfold schF
  rw [lookup_putF, if_neg (by decide +kernel), lookup_putF, if_neg (by decide +kernel), lookup_putF, if_pos rfl]
theorem sch_values (a b c d : Addr) : (schF a b c d).lookup ("value_columns" : Str) = some (.ref c) := by
  unfold schF
  rw [lookup_putF, if_neg (by decide +kernel), lookup_putF, if_pos rfl]
theorem sch_marks (a b c d : Addr) : (schF a b c d).lookup ("mark_columns" : Str) = some (.ref d) := by
  unfold schF
  rw [lookup_putF, if_pos rfl]
theorem sch_no (a b c d : Addr) {m : Str} (h1 : ¬ m = "mark_columns") (h2 : ¬ m = "value_columns") (h3 : ¬ m = "part_columns") (h4 : ¬ m = "sorts") : (schF a b c d).lookup m = none := by
  unfold schF
  rw [lookup_putF, if_neg h1, lookup_putF, if_neg h2, lookup_putF, if_neg h3, lookup_putF, if_neg h4]
  rfl
/-- a Scheme stands at p -/
structure SchAt (K : PySem.W.Frag) (CC CS : Addr) (H : Hp) (p : Addr) (s : Sch) : Prop where
  ex : ∃ dx tS tP tV tM as, H p = some (.ins CC dx (schF tS tP tV tM)) ∧ SqT K H tS (as.map V.ref) ∧ All2 (SortAt CS H) as s.ss ∧ SqT K H tP (s.ps.map V.str) ∧ SqT K H tV (s.vs.map V.str) ∧ SqT K H tM (s.ms.map V.str)
theorem SchAt.same {K : PySem.W.Frag} {CC CS : Addr} {H H' : Hp} {p : Addr} {s : Sch} (h : SchAt K CC CS H p s) (e : Same H H') : SchAt K CC CS H' p s := by
  obtain ⟨dx, tS, tP, tV, tM, as, h0, h1, h2, h3, h4, h5⟩ := h
  exact ⟨dx, tS, tP, tV, tM, as, e _ _ h0, same_tup e h1, h2.imp fun _ _ z => z.same e, same_tup e h3, same_tup e h4, same_tup e h5⟩
def Sch.names (s : Sch) : List Str := s.ss.map Srt.nm
def Sch.cols (s : Sch) : List Str := s.ps ++ (s.ss.map Srt.ky ++ (s.vs ++ s.ms))
def badWord (ws : List Str) : Option Str := ws.find? fun w => !isNameB w
def partBad (ps : List Str) (s : Srt) : Bool := match s.pt with
  | none => false
  | some z => !decide (z ∈ ps)
def badPart (ps : List Str) (ss : List Srt) : Option Str := (ss.find? (partBad ps)).bind Srt.pt
def orO : Option Str → Option Str → Option Str
  | some w, _ => some w
  | none, y => y
def Sch.bad (s : Sch) : Option Str := orO (badWord (s.names ++ s.cols)) (orO (dblFrom [] s.names) (orO (dblFrom [] s.cols) (badPart s.ps s.ss)))
structure Sch.small (s : Sch) : Prop where
  l1 : s.ss.length ≤ 20
  l2 : s.ps.length ≤ 20
  l3 : s.vs.length ≤ 20
  l4 : s.ms.length ≤ 20
  w : ∀ z ∈ s.names ++ s.cols, z.length ≤ 1000
theorem find_take {α : Type} {f : α → Bool} {l : List α} {i : Nat} {x : α} (h : ∀ y ∈ l.take i, f y = false) (hx : l[i]? = some x) (hf : f x = true) : l.find? f = some x := by
  have hi := (List.getElem?_eq_some_iff.mp hx).1
  have e : l = l.take i ++ (x :: l.drop (i + 1)) := by
    rw [← (List.getElem?_eq_some_iff.mp hx).2, List.getElem_cons_drop, List.take_append_drop]
  rw [e, List.find?_append, List.find?_eq_none.mpr fun y hy => by rw [h y hy]; exact Bool.false_ne_true, List.find?_cons, hf]
  rfl
theorem take_snoc {α : Type} {l : List α} {i : Nat} {x y : α} (hx : l[i]? = some x) (hy : y ∈ l.take (i + 1)) : y ∈ l.take i ∨ y = x := by
  rw [List.take_add_one, hx] at hy
  rcases List.mem_append.mp hy with z | z
  · exact .inl z
  · exact .inr (List.mem_singleton.mp z)
def spIsName : Sp := fun vs H Q _ => ∃ z : Str, vs = [.str z] ∧ z.length ≤ 1000 ∧ ∀ H', Same H H' → Q (.bl (isNameB z)) H'
def spFirstD : Sp := fun vs H Q _ => ∃ (p : Addr) (ws : List Str), vs = [.ref p] ∧ H p = some (.lst (ws.map V.str)) ∧ ws.length ≤ 200 ∧ ∀ H', Same H H' → Q (partV (dblFrom [] ws)) H'
def spBSInit (C : Addr) : Sp := fun vs H Q _ => ∃ (a : Addr) (z : Str), vs = [.ref a, .str z] ∧ H a = some (exo a C none) ∧
  ∀ (dx : Addr) (H' : Hp), H dx = none → H' a = some (exo a C (some dx)) → H' dx = some (exd dx [("word", .str z)]) → (∀ b o, H b = some o → b ≠ a → H' b = some o) → Q .non H'
def spSortInit (C : Addr) : Sp := fun vs H Q _ => ∃ (p dx : Addr) (s : Srt), vs = [.ref p, .str s.nm, .str s.ky, partV s.pt, .bl s.ds] ∧ H p = some (.ins C dx []) ∧
  ∀ H', SortAt C H' p s → (∀ b o, H b = some o → b ≠ p → H' b = some o) → Q .non H'
def spNamesOf (K : PySem.W.Frag) (CC CS : Addr) : Sp := fun vs H Q _ => ∃ (p : Addr) (s : Sch), vs = [.ref p] ∧ SchAt K CC CS H p s ∧ s.small ∧ ∀ l H', H l = none → Same H H' → H' l = some (.lst (s.names.map V.str)) → Q (.ref l) H'
def spColsOf (K : PySem.W.Frag) (CC CS : Addr) : Sp := fun vs H Q _ => ∃ (p : Addr) (s : Sch), vs = [.ref p] ∧ SchAt K CC CS H p s ∧ s.small ∧ ∀ l H', H l = none → Same H H' → H' l = some (.lst (s.cols.map V.str)) → Q (.ref l) H'
def spInspect (K : PySem.W.Frag) (CC CS CB : Addr) : Sp := fun vs H Q E => ∃ (p : Addr) (s : Sch), vs = [.ref p] ∧ SchAt K CC CS H p s ∧ s.small ∧
  (∀ w, s.bad = some w → ∀ (d : Addr) (H' : Hp), H d = none → H' d = some (.xd [("word", .str w)]) → Same H H' → E (.ref CB) (some d) H') ∧ (s.bad = none → ∀ H', Same H H' → Q .non H')
/-- Scheme(sorts, parts = .., values = .., marks = ..): lists or tuples -/
def spSchInit (K : PySem.W.Frag) (CC CS CB : Addr) : Sp := fun vs H Q E => ∃ (p dx aS aP aV aM : Addr) (s : Sch) (as : List Addr), vs = [.ref p, .ref aS, .ref aP, .ref aV, .ref aM] ∧ H p = some (.ins CC dx []) ∧ SqA K H aS (as.map V.ref) ∧ All2 (SortAt CS H) as s.ss ∧ SqA K H aP (s.ps.map V.str) ∧ SqA K H aV (s.vs.map V.str) ∧ SqA K H aM (s.ms.map V.str) ∧ s.small ∧
  (∀ w, s.bad = some w → ∀ (d : Addr) (H' : Hp), H d = none → H' d = some (.xd [("word", .str w)]) → (∀ b o, H b = some o → b ≠ p → H' b = some o) → E (.ref CB) (some d) H') ∧
  (s.bad = none → ∀ H', SchAt K CC CS H' p s → (∀ b o, H b = some o → b ≠ p → H' b = some o) → Q .non H')
local macro_rules | `(tactic| wtm_at "rd1") => `(tactic| with_reducible first
  | refine r_seq ?_ | refine r_next ?_ | refine r_asg ?_ | refine r_drop ?_ | refine r_ret ?_ | refine r_ifs ?_ | refine r_gname ?_ | refine r_gsub ?_ | refine r_gcons ?_ | refine r_gnil ?_
  | refine r_var rfl ?_ | refine r_c ?_ | refine r_op ?_ | refine r_un ?_ | refine r_I0 ?_ | refine r_U ?_ | refine r_test ?_ | refine r_tB ?_ | refine r_bl ?_
  | refine r_and ?_ | refine r_or ?_ | refine r_not ?_ | refine r_andV ?_ | refine r_orV ?_ | refine r_notV ?_ | refine r_ife ?_
  | refine r_eqI ?_ | refine r_neI ?_ | refine r_eqB ?_ | refine r_neB ?_ | refine r_eqS ?_ | refine r_neS ?_
  | refine r_nil ?_ | refine r_cons ?_ | refine r_cb ?_ | refine r_call ?_ | refine r_lst ?_ | refine r_tup ?_ | refine r_int1 ?_ | refine r_intB ?_ | refine r_abs1 ?_ | refine r_bm ?_ | refine r_sl ?_ | refine r_np ?_ | refine r_pt ?_ | refine r_pti ?_ | refine r_lc ?_ | refine r_il ?_ | refine r_it ?_ | refine r_rng1 ?_ | refine r_rng2 ?_ | refine r_callN ?_ | refine r_fld ?_ | refine r_sfld ?_ | refine r_meth ?_ | refine r_make ?_ | refine r_aug rfl ?_ | refine r_ipI ?_ | refine r_par ?_ | refine r_par3 ?_ | refine r_two ?_ | refine r_three ?_)
local macro_rules | `(tactic| wtm_at "ixs") => `(tactic| first
  | ((with_reducible show rIxL _ (V.ref _) (V.int _) _ _); refine r_ixL (.inl (.inl (by assumption))) (by first | rfl | exact ati_n (by omega) | exact ati_int (by omega) (by omega)) ?_)
  | ((with_reducible show rIxT _ (V.ref _) (V.int _) _ _); refine r_ixT (.inl (.inl (by assumption))) (by first | rfl | exact ati_n (by omega) | exact ati_int (by omega) (by omega)) ?_))
local macro_rules | `(tactic| wtm_at "rd") => `(tactic| repeat first | wtm_at "rd1" | wtm_at "ixs")
local macro_rules | `(tactic| wtm_at "rdi") => `(tactic| repeat' (first | wtm_at "rd1" | wtm_at "ixs" | with_reducible refine iteT ?_ | with_reducible refine iteF ?_ | with_reducible refine iteNT ?_ | with_reducible refine iteNF ?_ | with_reducible refine r_ite (fun _ => ?_) (fun _ => ?_) | with_reducible refine r_iten (fun _ => ?_) (fun _ => ?_)))
local macro_rules | `(tactic| wtm_at "rd1") => `(tactic| with_reducible first
  | refine r_binS ?_ | refine r_makeS ?_ | refine r_makeKS ?_ | refine r_xf ?_ | refine r_ost ?_ | refine r_isNi ?_ | refine r_isNn ?_ | refine r_isNr ?_ | refine r_notNi ?_ | refine r_notNn ?_ | refine r_notNr ?_ | refine r_isNe ?_ | refine r_notNe ?_)
local macro_rules | `(tactic| wtm_at "rd1") => `(tactic| with_reducible refine r_makeN ?_)
local macro_rules | `(tactic| wtm_at "rd1") => `(tactic| with_reducible refine r_makeNS ?_)
local macro_rules | `(tactic| wtm_at "rd1") => `(tactic| with_reducible refine r_star ?_)
local macro_rules | `(tactic| wtm_at "rd1") => `(tactic| with_reducible first | refine r_din ?_ | refine r_dput ?_ | refine r_chain ?_ | refine r_is ?_ | refine r_iss ?_)
local macro_rules | `(tactic| wtm_at "rd1") => `(tactic| with_reducible refine r_methT ?_)
local macro_rules | `(tactic| wtm_at "rd1") => `(tactic| with_reducible first | refine r_revL ?_ | refine r_bm0 ?_ | refine r_dget ?_ | refine r_dnin ?_ | refine r_iks ?_ | refine r_enum ?_)
section
variable {P : Program} {w : World} {K : PySem.W.Frag} {mg : Str → Option Value} {base : Heap}
theorem ok__law_draw (T : Txt K mg) : FnOk P w K mg base CX0 1 T.f__law_draw T.d__law_draw ["_law_draws", "_law_many"] spDraw := by
  refine T.F__law_draw.ok sc__law_draw (fun vs H Q E h => ?_) (fun cdv A outer s H vs Q E hr h => ?_)
  · obtain ⟨d, c, r, m, rfl, _⟩ := h
    rfl
  · obtain ⟨d, c, r, m, rfl, D, m0, m1, q⟩ := h
    obtain ⟨dc, dr, cr, ns, rs, t, h1, h2, h3, hl, hp, ht, hn⟩ := D
    refine ⟨_, (pss_cons (ps_set (i := 2) sc__law_draw.nd rfl (by first | exact Or.inl rfl | exact Or.inr rfl) (pe_ix (r := rIxL K) ix_list (pv 0) pe_int (fun _ _ => rfl)))
      (pss_cons (ps_set (i := 3) sc__law_draw.nd rfl (by first | exact Or.inl rfl | exact Or.inr rfl) (pe_ix (r := rIxL K) ix_list (pv 0) pe_int (fun _ _ => rfl)))
      (pss_cons (ps_set (i := 4) sc__law_draw.nd rfl (by first | exact Or.inl rfl | exact Or.inr rfl) (pe_ix (r := rIxL K) ix_list (pv 0) pe_int (fun _ _ => rfl)))
      (pss_cons (ps_asg (pe_op op_add (pv 4) pe_int) (pg_sub (pv 0) pe_int set_list))
      (pss_cons (ps_set (i := 5) sc__law_draw.nd rfl (by first | exact Or.inl rfl | exact Or.inr rfl) (pe_op op_mod (pe_callTy c_int1 (by rfl) T.z_int (by decide +kernel) (pa_cons (pv 4) pa_nil)) (pe_callB (r := rLenL K) (id := "len") c_len (by rfl) T.z_len (by decide +kernel) (pa_cons (pv 2) pa_nil))))
      (pss_cons (ps_if (pt_cmpR op_gt (pe_ix (r := rIxL K) ix_list (pv 3) (pv 5) (fun _ _ => rfl)) pe_int (nomark _)) (pss_cons (ps_set (i := 6) sc__law_draw.nd rfl (by first | exact Or.inl rfl | exact Or.inr rfl) (pe_op op_mod (pe_callTy c_int1 (by rfl) T.z_int (by decide +kernel) (pa_cons (pe_ix (r := rIxL K) ix_list (pv 3) (pv 5) (fun _ _ => rfl)) pa_nil)) (pv 1)))
      (pss_cons (ps_asg (pe_op op_fdivW (pe_ix (r := rIxL K) ix_list (pv 3) (pv 5) (fun _ _ => rfl)) (pv 1)) (pg_sub (pv 3) (pv 5) set_list))
      (pss_one (ps_ret (pv 6))))) pss_nil)
      (pss_cons (ps_set (i := 7) sc__law_draw.nd rfl (by first | exact Or.inl rfl | exact Or.inr rfl) (pe_op op_mod (pe_callTy c_int1 (by rfl) T.z_int (by decide +kernel) (pa_cons (pe_op op_mul (pe_op op_add (pe_op op_mod (pe_callTy c_int1 (by rfl) T.z_int (by decide +kernel) (pa_cons (pe_ix (r := rIxL K) ix_list (pv 2) (pv 5) (fun _ _ => rfl)) pa_nil)) pe_int) pe_int) (pe_op op_add (pv 4) pe_int)) pa_nil)) pe_int))
      (pss_cons (ps_set (i := 8) sc__law_draw.nd rfl (by first | exact Or.inl rfl | exact Or.inr rfl) (pe_op op_add (pe_op op_mod (pe_callTy c_int1 (by rfl) T.z_int (by decide +kernel) (pa_cons (pe_ix (r := rIxL K) ix_list (pv 2) (pv 5) (fun _ _ => rfl)) pa_nil)) pe_int) (pe_op op_mul pe_int (pv 4))))
      (pss_cons (ps_set (i := 9) sc__law_draw.nd rfl (by first | exact Or.inl rfl | exact Or.inr rfl) (pe_op op_mod (pe_callTy c_int1 (by rfl) T.z_int (by decide +kernel) (pa_cons (pe_op op_add (pe_op op_add (pe_op op_mul (pv 7) (pv 7)) (pe_op op_mul pe_int (pv 7))) (pv 8)) pa_nil)) pe_int))
      (pss_cons (ps_set (i := 10) sc__law_draw.nd rfl (by first | exact Or.inl rfl | exact Or.inr rfl) (pe_op op_add (pe_op op_mul (pe_op op_mod (pe_callTy c_int1 (by rfl) T.z_int (by decide +kernel) (pa_cons (pv 9) pa_nil)) pe_int) pe_int) (pe_op op_mul (pe_op op_fdivW (pv 9) pe_int) pe_int)))
      (pss_cons (ps_set (i := 11) sc__law_draw.nd rfl (by first | exact Or.inl rfl | exact Or.inr rfl) (pe_op op_mod (pe_callTy c_int1 (by rfl) T.z_int (by decide +kernel) (pa_cons (pe_op op_add (pv 10) (pv 7)) pa_nil)) pe_int))
      (pss_cons (ps_if (pt_cmpR op_le (pv 1) pe_int (nomark _)) (pss_one (ps_ret (pe_op op_mod (pe_callTy c_int1 (by rfl) T.z_int (by decide +kernel) (pa_cons (pv 11) pa_nil)) (pv 1)))) pss_nil)
      (pss_one (ps_ret (pe_op op_mod (pe_callTy c_int1 (by rfl) T.z_int (by decide +kernel) (pa_cons (pe_op op_add (pe_op op_mul (pv 11) pe_int) (pv 9)) pa_nil)) (pv 1)))))))))))))))), ?_⟩
    try simp only [nox_K, cx_K]
    wtm_at "rd"
    refine r_setL (n := 2) h1 rfl ?_
    have g1 : (upd H d (.lst ([.ref c, .ref r, .int t].set 2 (.int (t + 1))))) d = some (.lst [.ref c, .ref r, .int (t + 1)]) := upd_same
    have g2 : (upd H d (.lst ([.ref c, .ref r, .int t].set 2 (.int (t + 1))))) c = some (.lst (ns.map V.int)) := (upd_ne dc.symm).trans h2
    have g3 : (upd H d (.lst ([.ref c, .ref r, .int t].set 2 (.int (t + 1))))) r = some (.lst (rs.map V.int)) := (upd_ne dr.symm).trans h3
    have e1 : Ext d r H (upd H d (.lst ([.ref c, .ref r, .int t].set 2 (.int (t + 1))))) := fun b o e n1 n2 => (upd_ne n1).trans e
    revert g1 g2 g3 e1
    generalize (upd H d (.lst ([.ref c, .ref r, .int t].set 2 (.int (t + 1))))) = H1
    intro g1 g2 g3 e1
    wtm_at "rd"
    refine r_lenI g2 ?_
    refine r_mod (by omega) fun at_ a0 a1 _ => ?_
    wtm_at "rd"
    refine r_ite (fun c1 => ?_) (fun c1 => ?_)
    · wtm_at "rd"
      refine r_mod m0 fun k k0 k1 _ => ?_
      wtm_at "rd"
      refine r_fdiv m0 m1 fun z z0 _ => ?_
      wtm_at "rd"
      refine r_setL g3 (ixn_in a0 (by rw [List.length_map]; omega)) ?_
      wtm_at "rd"
      refine q k _ k0 k1 ⟨dc, dr, cr, ns, rs.set at_.toNat z, t + 1, (upd_ne dr).trans g1, (upd_ne cr).trans g2, ?_, ?_, hp, by omega, ?_⟩ (fun b o e n1 n2 => (upd_ne n2).trans (e1 b o e n1 n2))
      · rw [upd_same, List.map_set]
      · rw [List.length_set]; exact hl
      · intro x hx
        rcases List.mem_or_eq_of_mem_set hx with e | e
        · exact hn x e
        · rw [e]; exact z0 (by omega)
    · wtm_at "rd"
      refine r_mod (by decide) fun x1 l1 u1 _ => ?_
      wtm_at "rd"
      refine r_mul (.inl ⟨by omega, by omega⟩) fun x2 _ => ?_
      wtm_at "rd"
      refine r_mod (by decide) fun first f0 f1 _ => ?_
      wtm_at "rd"
      refine r_mod (by decide) fun x3 l3 u3 _ => ?_
      wtm_at "rd"
      refine r_mul (.inl ⟨by omega, by omega⟩) fun x4 _ => ?_
      wtm_at "rd"
      refine r_mul (.inl ⟨by omega, by omega⟩) fun x5 _ => ?_
      wtm_at "rd"
      refine r_mul (.inl ⟨by omega, by omega⟩) fun x6 _ => ?_
      wtm_at "rd"
      refine r_mod (by decide) fun second s0 s1 _ => ?_
      wtm_at "rd"
      refine r_mod (by decide) fun x7 l7 u7 _ => ?_
      wtm_at "rd"
      refine r_mul (.inl ⟨by omega, by omega⟩) fun x8 _ => ?_
      wtm_at "rd"
      refine r_fdiv (by decide) (by decide) fun x9 _ _ => ?_
      wtm_at "rd"
      refine r_mul (.inr ⟨by omega, by omega⟩) fun x10 _ => ?_
      wtm_at "rd"
      refine r_mod (by decide) fun third t0 t1 _ => ?_
      wtm_at "rd"
      refine r_ite (fun c2 => ?_) (fun c2 => ?_)
      · wtm_at "rd"
        refine r_mod m0 fun k k0 k1 _ => ?_
        exact q k _ k0 k1 ⟨dc, dr, cr, ns, rs, t + 1, g1, g2, g3, hl, hp, by omega, hn⟩ e1
      · wtm_at "rd"
        refine r_mul (.inl ⟨by omega, by omega⟩) fun x11 _ => ?_
        wtm_at "rd"
        refine r_mod m0 fun k k0 k1 _ => ?_
        exact q k _ k0 k1 ⟨dc, dr, cr, ns, rs, t + 1, g1, g2, g3, hl, hp, by omega, hn⟩ e1
theorem ok__law_begin (T : Txt K mg) : FnOk P w K mg base CX0 1 T.f__law_begin T.d__law_begin ["_law_script"] (spBegin K) := by
  refine T.F__law_begin.ok sc__law_begin (fun vs H Q E h => ?_) (fun cdv A outer s H vs Q E hr h => ?_)
  · obtain ⟨a, ns, rfl, _⟩ := h
    rfl
  obtain ⟨a, ns, rfl, hS, hlen, q⟩ := h
  refine ⟨_, (pss_cons (ps_setLc (i := 1) (own := [("_law_cell", 3)]) (g := gName 3) (tt := tYes) rfl sc__law_begin.nd rfl rfl (sw_true rfl rfl rfl (by decide +kernel)) (pi_list (pe_slice sl_list (pv 0) po_none (po_some pe_int))) (blkOk_by (N := ["_law_script", "_law_cells", "_law_rests", "_law_cell"]) (sc := defScope s__law_begin) (by decide +kernel)) (fun _ _ _ _ _ => pg_name (i := 3) sc__law_begin.nd rfl (by first | exact Or.inl rfl | exact Or.inr rfl)) (fun _ _ _ _ _ => pts_nil) (fun _ _ _ _ _ => (pe_callTy c_int1 (by rfl) T.z_int (by decide +kernel) (pa_cons (pv 3) pa_nil))))
      (C8.pss_cut (ps_if (pt_cmpR op_eq (pe_callB (r := rLenL K) (id := "len") c_len (by rfl) T.z_len (by decide +kernel) (pa_cons (pv 1) pa_nil)) pe_int (nomark _)) (pss_one (ps_set (i := 1) sc__law_begin.nd rfl (by first | exact Or.inl rfl | exact Or.inr rfl) (pe_lst (pa_cons pe_int pa_nil)))) pss_nil)
      (pss_cons (ps_setLc (i := 2) (own := [("_law_cell", 3)]) (g := gName 3) (tt := tYes) rfl sc__law_begin.nd rfl rfl (sw_true rfl rfl rfl (by decide +kernel)) (pi_list (pv 1)) (blkOk_by (N := ["_law_script", "_law_cells", "_law_rests", "_law_cell"]) (sc := defScope s__law_begin) (by decide +kernel)) (fun _ _ _ _ _ => pg_name (i := 3) sc__law_begin.nd rfl (by first | exact Or.inl rfl | exact Or.inr rfl)) (fun _ _ _ _ _ => pts_nil) (fun _ _ _ _ _ => (pe_op op_mul (pe_callB c_abs (by rfl) T.z_abs (by decide +kernel) (pa_cons (pv 3) pa_nil)) (pe_callTy c_intB (by rfl) T.z_int (by decide +kernel) (pa_cons (pe_cmpR op_ge (pe_callB c_abs (by rfl) T.z_abs (by decide +kernel) (pa_cons (pv 3) pa_nil)) (pe_op op_pow pe_int pe_int) (nomark _)) pa_nil)))))
      (pss_one (ps_ret (pe_lst (pa_cons (pv 1) (pa_cons (pv 2) (pa_cons pe_int pa_nil))))))))), ?_⟩
  try simp only [nox_K, cx_K]
  wtm_at "rd"
  refine r_slL hS fun p np => ?_
  have s1 : Same H (upd H p (.lst (cutV (ns.map V.int) none (some 63)))) := same_new np
  have e0 : cutV (ns.map V.int) none (some 63) = ns.map V.int := cut_none (n := 63) (by rw [List.length_map]; exact hlen)
  rw [e0] at s1 ⊢
  have hp : (upd H p (.lst (ns.map V.int))) p = some (.lst (ns.map V.int)) := upd_same
  refine r_itl (SqL.of hp) ?_
  refine lc_map (fun x => x) (SqL.of hp) (by rw [List.length_map]; omega) (fun x H' QQ hx s' hQ => ?_) (fun c nc => ?_)
  · obtain ⟨y, _, rfl⟩ := List.mem_map.mp hx
    wtm_at "rd"
    exact hQ
  have s2 := s1.trans (same_new (o := .lst ((ns.map V.int).map fun x => x)) nc)
  have hc : (upd (upd H p (.lst (ns.map V.int))) c (.lst ((ns.map V.int).map fun x => x))) c = some (.lst (ns.map V.int)) := by rw [upd_same, List.map_id']
  revert s2 hc
  generalize (upd (upd H p (.lst (ns.map V.int))) c (.lst ((ns.map V.int).map fun x => x))) = H2
  intro s2 hc
  wtm_at "rd"
  refine ⟨fun σ H1 => ∃ (c : Addr) (ms : List Int) (x3 : Option V), σ = [some (.ref a), some (.ref c), none, x3] ∧ H1 c = some (.lst (ms.map V.int)) ∧ 0 < ms.length ∧ ms.length ≤ 63 ∧ Same H H1 ∧ H c = none, ?_, ?_⟩
  · wtm_at "rd"
    refine r_lenI hc ?_
    wtm_at "rd"
    refine r_ite (fun e => ?_) (fun e => ?_)
    · wtm_at "rd"
      refine r_new rfl fun c2 nc2 => ?_
      wtm_at "rd"
      exact ⟨c2, [0], _, rfl, upd_same, by decide, by decide, s2.trans (same_new nc2), s2.free nc2⟩
    · wtm_at "rd"
      exact ⟨c, ns, _, rfl, hc, by omega, hlen, s2, s1.free nc⟩
  rintro σ H1 ⟨c, ms, x3, rfl, hc, h0, h63, s1, nc⟩
  wtm_at "rd"
  refine r_itl (SqL.of hc) ?_
  refine lc_map restOf (SqL.of hc) (by rw [List.length_map]; omega) (fun x H' QQ hx s' hQ => ?_) (fun r nr => ?_)
  · obtain ⟨y, _, rfl⟩ := List.mem_map.mp hx
    wtm_at "rd"
    refine r_I ⟨by decide, by decide, by decide⟩ ?_
    wtm_at "rd"
    exact r_I (.inr bit_ok) hQ
  have s2 : Same H1 (upd H1 r (.lst ((ms.map V.int).map restOf))) := same_new nr
  wtm_at "rd"
  refine r_new rfl fun d nd => ?_
  have hd : H d = none := (s1.trans s2).free nd
  have hcr : c ≠ r := ne_of_none hc nr
  have hdc : d ≠ c := (ne_of_none (s2 _ _ hc) nd).symm
  have hdr : d ≠ r := (ne_of_none (upd_same (H := H1) (a := r)) nd).symm
  refine q d c r _ ⟨hdc, hdr, hcr, ms, ms.map restI, 0, upd_same, ?_, ?_, ?_, h0, by decide, ?_⟩ ((s1.trans s2).trans (same_new nd)) hd nc (s1.free nr)
  · rw [upd_ne hdc.symm]; exact s2 _ _ hc
  · rw [upd_ne hdr.symm, upd_same, rest_map]
  · rw [List.length_map]
  · intro x hx
    obtain ⟨y, _, rfl⟩ := List.mem_map.mp hx
    exact rest_nn y
end
section
variable {P : Program} {w : World} {K : PySem.W.Frag} {mg : Str → Option Value} {base : Heap}

theorem raise_word {C : Addr} {z : Str} {H : Hp} {Q : XK} (h : ∀ (d : Addr) (H' : Hp), H d = none → H' d = some (.xd [("word", .str z)]) → Same H H' → Q (.ref C) (some d) H') :
    ∀ a, H a = none → spBSInit C (.ref a :: ([V.str z] ++ [])) (upd H a (exo a C none)) (fun v H2 => v = .non ∧ ∃ (d : Addr) (fs : List (Str × V)), H2 a = some (exo a C (some d)) ∧ H2 d = some (exd d fs) ∧ H d = none ∧ Q (.ref C) (some d) (upd (del H2 a) d (.xd fs))) (fun _ _ _ => False) := by
  intro a na
  refine ⟨a, z, rfl, upd_same, fun dx H' nd ha hd hk => ⟨rfl, dx, _, ha, hd, (same_new na).free nd, ?_⟩⟩
  refine h dx _ ((same_new na).free nd) upd_same fun b o e => ?_
  have nb : b ≠ a := ne_of_none e na
  rw [upd_ne (ne_of_none e ((same_new na).free nd)), del_ne nb]
  exact hk b o (by rw [upd_ne nb]; exact e) nb
theorem ok_BadScheme___init__ (T : Txt K mg) : FnOk P w K mg base CX0 1 T.f_BadScheme___init__ T.d_BadScheme___init__ ["self", "word"] (spBSInit T.C_BadScheme) := by
  refine T.F_BadScheme___init__.ok sc_BadScheme___init__ (fun vs H Q E h => ?_) (fun cdv A outer s H vs Q E hr h => ?_)
  · obtain ⟨a, z, rfl, _⟩ := h
    rfl
  obtain ⟨a, z, rfl, ha, q⟩ := h
  refine ⟨_, (pss_one (ps_ost (pv 0) (pv 1))), ?_⟩
  try simp only [nox_K, cx_K]
  wtm_at "rd"
  refine ⟨a, _, rfl, T.ox_BadScheme, T.nf_BadScheme_word, .inl ⟨ha, fun dx nd ne => ?_⟩⟩
  wtm_at "rd"
  refine q dx _ nd upd_same ?_ fun b o e nb => ?_
  · rw [upd_ne ne, upd_same]
  · rw [upd_ne nb, upd_ne (ne_of_none e nd)]
    exact e
theorem ok_is_name (T : Txt K mg) : FnOk P w K mg base CX0 1 T.f_is_name T.d_is_name ["thing"] spIsName := by
  refine T.F_is_name.ok sc_is_name (fun vs H Q E h => ?_) (fun cdv A outer s H vs Q E hr h => ?_)
  · obtain ⟨z, rfl, _⟩ := h
    rfl
  obtain ⟨z, rfl, hz, q⟩ := h
  refine ⟨_, (pss_cons (ps_if (PW.pt (pw_or (pt_not (pt_val (pe_callB call_isi (by rfl) T.z_isinstance (by decide +kernel) (pa_cons (pv 0) (pa_cons (pe_bltn (v := .ty "str") (u := .type "str") (by rfl) T.z_str (by decide +kernel) rfl) pa_nil))))) (pw_or (pt_not (pt_chain op_le op_le pe_int (pe_callB call_len_str (by rfl) T.z_len (by decide +kernel) (pa_cons (pv 0) pa_nil)) pe_int)) (pw_or1 (pt_cmpR op_in_seq (pv 0) (pe_glob (v := .ref T.a_WORDS) rfl T.g_WORDS rfl) (by rfl)))))) (pss_one (ps_ret pe_bl)) pss_nil)
      (pss_one (ps_ret (pe_callB (cr_all rfl) (by rfl) T.z_all (by decide +kernel) (pa_cons (pe_lc (own := [("letter", 1)]) (g := gName 1) (tt := tYes) rfl sc_is_name.nd (pi_str (pv 0)) (blkOk_by (N := ["thing", "letter"]) (sc := defScope s_is_name) (by decide +kernel)) (fun _ _ _ _ _ => pg_name (i := 1) sc_is_name.nd rfl (by first | exact Or.inl rfl | exact Or.inr rfl)) (fun _ _ _ _ _ => pts_nil) (fun _ _ _ _ _ => (pe_cmpR op_in_sign (pv 1) (pe_glob (v := .str "abcdefghijklmnopqrstuvwxyz") rfl T.g_LETTERS ⟨_, rfl⟩) (by rfl)))) pa_nil))))), ?_⟩
  try simp only [nox_K, cx_K]
  have zl : z.length ≤ sizeLine := Nat.le_of_lt (small1000 hz)
  wtm_at "rd"
  refine r_isi (.ty "str") (.base (.str _)) kit_self ?_
  wtm_at "rdi"
  · refine ⟨z, rfl, zl, ?_⟩
    wtm_at "rd"
    refine r_ite (fun e1 => ?_) (fun e1 => ?_)
    · wtm_at "rd"
      refine r_iten (fun e2 => ?_) (fun e2 => ?_)
      · wtm_at "rdi"
        refine bl_to (q _ (Same.refl _)) ?_
        rw [isNameB, decide_eq_false (by omega), Bool.false_and]
      · wtm_at "rd"
        refine r_inT (T.q_WORDS _) rfl rfl ?_
        show ∃ k, V.bl (inV (.str z) (wordsS.map V.str)) = .bl k ∧ _
        wtm_at "rd"
        refine r_iteb (fun e3 => ?_) (fun e3 => ?_)
        · wtm_at "rd"
          refine bl_to (q _ (Same.refl _)) ?_
          rw [isNameB, e3, decide_eq_true (by omega)]
          rfl
        · wtm_at "rd"
          refine lc_strM (fun c => .bl (letB c)) hz (fun c H' QQ s' hQ => ?_) fun D nD => ?_
          · wtm_at "rd"
            exact ⟨c, _, rfl, rfl, hQ⟩
          · wtm_at "rd"
            refine ⟨D, z.cps.toList.map letB, rfl, SqL.of (by rw [upd_same, List.map_map]; rfl), ?_⟩
            refine bl_to (q _ (same_new nD)) ?_
            rw [isNameB, e3, decide_eq_true (by omega), List.all_map]
            rfl
    · refine ⟨false, rfl, ?_⟩
      wtm_at "rdi"
      refine bl_to (q _ (Same.refl _)) ?_
      rw [isNameB, decide_eq_false (by omega), Bool.false_and]
theorem ok_Sort___init__ (T : Txt K mg) : FnOk P w K mg base CX0 1 T.f_Sort___init__ T.d_Sort___init__ ["self", "name", "key", "part", "descending"] (spSortInit T.C_Sort) := by
  refine T.F_Sort___init__.ok sc_Sort___init__ (fun vs H Q E h => ?_) (fun cdv A outer s H vs Q E hr h => ?_)
  · obtain ⟨p, dx, sr, rfl, _⟩ := h
    rfl
  obtain ⟨p, dx, sr, rfl, hp, q⟩ := h
  refine ⟨_, (pss_cons (ps_fld (pv 0) (pv 1) rfl)
      (pss_cons (ps_fld (pv 0) (pv 2) rfl)
      (pss_cons (ps_fld (pv 0) (pv 3) rfl)
      (pss_one (ps_fld (pv 0) (pv 4) rfl))))), ?_⟩
  try simp only [nox_K, cx_K]
  wtm_at "rd"
  refine r_put hp T.c_Sort T.nf_Sort_name (by decide) ?_
  wtm_at "rd"
  refine r_put upd_same T.c_Sort T.nf_Sort_key (Nat.lt_of_le_of_lt (putF_len _ _ _) (by decide)) ?_
  wtm_at "rd"
  refine r_put upd_same T.c_Sort T.nf_Sort_part (Nat.lt_of_le_of_lt (putF_len _ _ _) (Nat.lt_of_le_of_lt (Nat.succ_le_succ (putF_len _ _ _)) (by decide))) ?_
  wtm_at "rd"
  refine r_put upd_same T.c_Sort T.nf_Sort_descending (Nat.lt_of_le_of_lt (putF_len _ _ _) (Nat.lt_of_le_of_lt (Nat.succ_le_succ (putF_len _ _ _)) (Nat.lt_of_le_of_lt (Nat.succ_le_succ (Nat.succ_le_succ (putF_len _ _ _))) (by decide)))) ?_
  wtm_at "rd"
  refine q _ ⟨dx, upd_same⟩ fun b o e nb => ?_
  rw [upd_ne nb, upd_ne nb, upd_ne nb, upd_ne nb]
  exact e
theorem ok_first_double (T : Txt K mg) : FnOk P w K mg base CX0 1 T.f_first_double T.d_first_double ["words"] spFirstD := by
  refine T.F_first_double.ok sc_first_double (fun vs H Q E h => ?_) (fun cdv A outer s H vs Q E hr h => ?_)
  · obtain ⟨p, ws, rfl, _⟩ := h
    rfl
  obtain ⟨p, ws, rfl, hp, hl, q⟩ := h
  refine ⟨_, (pss_cons (ps_set (i := 1) sc_first_double.nd rfl (by first | exact Or.inl rfl | exact Or.inr rfl) pe_dnewK)
      (pss_cons (ps_for PassesOwn.never rfl (pi_list (pv 0)) (pg_name (i := 2) sc_first_double.nd rfl (by first | exact Or.inl rfl | exact Or.inr rfl)) (pss_cons (ps_if (pt_cmp (pc_din (hu_of hr) (pv 2) (pv 1))) (pss_one (ps_ret (pv 2))) pss_nil)
      (pss_one (ps_dput (hu_of hr) (pv 1) (pv 2) pe_bl rfl))))
      (pss_one (ps_ret pe_non)))), ?_⟩
  try simp only [nox_K, cx_K]
  wtm_at "rd"
  refine r_dnew fun d nd => ?_
  wtm_at "rd"
  refine r_for (r_il ?_)
  wtm_at "rd"
  refine r_itl (SqL.of ((same_new nd) _ _ hp)) ?_
  refine for_list (K := K) (a := p) (xs := ws.map V.str) (fun i σ H' => ∃ (y2 : Option V) (kvs : List (Key × V)), σ = [some (.ref p), some (.ref d), y2] ∧ H' d = some (.dK kvs) ∧ (∀ w, (valV kvs (Sum.inr w)).isSome = decide (w ∈ ws.take i)) ∧ kvs.length ≤ i ∧ Same H H' ∧ dblFrom [] ws = dblFrom (ws.take i) (ws.drop i)) ⟨_, [], rfl, upd_same, fun w => (by rw [List.take_zero]; rfl), Nat.le_refl _, same_new nd, rfl⟩ (fun i σ H' _ ⟨_, _, _, _, _, _, s, _⟩ => SqL.of (s _ _ hp)) ?_ ?_
  · rintro i v σ H1 hv ⟨y2, kvs, rfl, hd, hval, hkl, s1, hdb⟩
    have hi : i < ws.length := by
      have := (List.getElem?_eq_some_iff.mp hv).1
      rw [List.length_map] at this
      exact this
    have hw : ws[i]? = some ws[i] := List.getElem?_eq_getElem hi
    rw [List.getElem?_map, hw] at hv
    cases hv
    rw [List.drop_eq_getElem_cons hi] at hdb
    rw [dbl_cons] at hdb
    wtm_at "rd"
    refine r_dinS hd ?_
    wtm_at "rd"
    rw [hval]
    refine r_ite (fun e1 => ?_) (fun e1 => ?_)
    · rw [if_pos e1] at hdb
      wtm_at "rd"
      have z := q _ s1
      rw [hdb] at z
      exact z
    · rw [if_neg e1] at hdb
      wtm_at "rd"
      refine r_dputS hd (by omega) ?_
      refine ⟨_, _, rfl, upd_same, fun w => ?_, Nat.le_trans putK_len (by omega), fun b o e => (upd_ne (ne_of_none e nd)).trans (s1 _ _ e), ?_⟩
      · rw [valV_put, List.take_add_one, hw]
        by_cases c : w = ws[i]
        · rw [c, if_pos rfl]
          exact (decide_eq_true (List.mem_append.mpr (.inr List.mem_cons_self))).symm
        · rw [if_neg fun z => c (Sum.inr.inj z), hval, decide_eq_decide, List.mem_append]
          exact ⟨.inl, fun z => z.elim id fun y => absurd (List.mem_singleton.mp y) c⟩
      · rw [hdb, List.take_add_one, hw]
        rfl
  · rintro σ H1 ⟨y2, kvs, rfl, hd, hval, hkl, s1, hdb⟩
    rw [List.length_map, List.drop_length] at hdb
    wtm_at "rd"
    have z := q _ s1
    rw [show dblFrom [] ws = none from hdb] at z
    exact z
section
variable {H : Hp} {p : Addr} {sr : Srt} {F : V → Prop}
theorem r_sname (T : Txt K mg) (o : SortAt T.C_Sort H p sr) (h : F (.str sr.nm)) : ∃ a C dx fs v, V.ref p = .ref a ∧ H a = some (.ins C dx fs) ∧ Cls K C ∧ NoAttr K C "name" ∧ fs.lookup ("name" : Str) = some v ∧ F v := by
  obtain ⟨dx, e⟩ := o
  exact r_get e T.c_Sort T.nf_Sort_name (srt_name sr) h
theorem r_skey (T : Txt K mg) (o : SortAt T.C_Sort H p sr) (h : F (.str sr.ky)) : ∃ a C dx fs v, V.ref p = .ref a ∧ H a = some (.ins C dx fs) ∧ Cls K C ∧ NoAttr K C "key" ∧ fs.lookup ("key" : Str) = some v ∧ F v := by
  obtain ⟨dx, e⟩ := o
  exact r_get e T.c_Sort T.nf_Sort_key (srt_key sr) h
theorem r_spart (T : Txt K mg) (o : SortAt T.C_Sort H p sr) (h : F (partV sr.pt)) : ∃ a C dx fs v, V.ref p = .ref a ∧ H a = some (.ins C dx fs) ∧ Cls K C ∧ NoAttr K C "part" ∧ fs.lookup ("part" : Str) = some v ∧ F v := by
  obtain ⟨dx, e⟩ := o
  exact r_get e T.c_Sort T.nf_Sort_part (srt_part sr) h
end
theorem ok_Scheme_sort_names (T : Txt K mg) : FnOk P w K mg base CX0 1 T.f_Scheme_sort_names T.d_Scheme_sort_names ["self"] (spNamesOf K T.C_Scheme T.C_Sort) := by
  refine T.F_Scheme_sort_names.ok sc_Scheme_sort_names (fun vs H Q E h => ?_) (fun cdv A outer s H vs Q E hr h => ?_)
  · obtain ⟨p, sc, rfl, _⟩ := h
    rfl
  obtain ⟨p, sc, rfl, o, sm, q⟩ := h
  refine ⟨_, (pss_one (ps_ret (pe_lc (own := [("one", 1)]) (g := gName 1) (tt := tYes) rfl sc_Scheme_sort_names.nd (pi_tup (pe_fldK (K := K) (pv 0))) (blkOk_by (N := ["self", "one"]) (sc := defScope s_Scheme_sort_names) (by decide +kernel)) (fun _ _ _ _ _ => pg_name (i := 1) sc_Scheme_sort_names.nd rfl (by first | exact Or.inl rfl | exact Or.inr rfl)) (fun _ _ _ _ _ => pts_nil) (fun _ _ _ _ _ => (pe_fldK (K := K) (pv 1)))))), ?_⟩
  try simp only [nox_K, cx_K]
  obtain ⟨dx, tS, tP, tV, tM, as, e, hS, hA, hP, hV, hM⟩ := o
  have hl : (as.map V.ref).length ≤ 1000 := by rw [List.length_map, hA.len]; exact Nat.le_trans sm.l1 (by decide)
  wtm_at "rd"
  refine r_get e T.c_Scheme T.nf_Scheme_sorts (sch_sorts _ _ _ _) ?_
  refine r_itt hS ?_
  refine lc_mapT (fldV H "name") hS hl (fun v H' QQ hv s' hQ => ?_) fun l nl => ?_
  · obtain ⟨a, ha, rfl⟩ := List.mem_map.mp hv
    obtain ⟨j, hj⟩ := List.getElem?_of_mem ha
    obtain ⟨b, _, hb⟩ := hA.get hj
    have ev : fldV H "name" (.ref a) = .str b.nm := by
      obtain ⟨dx', e'⟩ := hb
      exact fld_at e' (srt_name b)
    rw [ev] at hQ
    wtm_at "rd"
    exact r_sname T (hb.same s') hQ
  · refine q l _ nl (same_new nl) ?_
    rw [upd_same, List.map_map]
    congr 2
    show _ = (sc.ss.map Srt.nm).map V.str
    rw [List.map_map]
    refine hA.map fun a b hb => ?_
    obtain ⟨dx', e'⟩ := hb
    exact fld_at e' (srt_name b)
theorem ok_Scheme_columns (T : Txt K mg) : FnOk P w K mg base CX0 1 T.f_Scheme_columns T.d_Scheme_columns ["self"] (spColsOf K T.C_Scheme T.C_Sort) := by
  refine T.F_Scheme_columns.ok sc_Scheme_columns (fun vs H Q E h => ?_) (fun cdv A outer s H vs Q E hr h => ?_)
  · obtain ⟨p, sc, rfl, _⟩ := h
    rfl
  obtain ⟨p, sc, rfl, o, sm, q⟩ := h
  refine ⟨_, (pss_cons (ps_setLc (i := 1) (own := [("one", 2)]) (g := gName 2) (tt := tYes) rfl sc_Scheme_columns.nd rfl rfl (sw_true rfl rfl rfl (by decide +kernel)) (pi_tup (pe_fldK (K := K) (pv 0))) (blkOk_by (N := ["self", "keys", "one"]) (sc := defScope s_Scheme_columns) (by decide +kernel)) (fun _ _ _ _ _ => pg_name (i := 2) sc_Scheme_columns.nd rfl (by first | exact Or.inl rfl | exact Or.inr rfl)) (fun _ _ _ _ _ => pts_nil) (fun _ _ _ _ _ => (pe_fldK (K := K) (pv 2))))
      (pss_one (ps_ret (pe_lst (StX.pa_star (pe_fldK (K := K) (pv 0)) (StX.pa_star (pv 1) (StX.pa_star (pe_fldK (K := K) (pv 0)) (StX.pa_star (pe_fldK (K := K) (pv 0)) pa_nil)))))))), ?_⟩
  try simp only [nox_K, cx_K]
  obtain ⟨dx, tS, tP, tV, tM, as, e, hS, hA, hP, hV, hM⟩ := o
  have hl : (as.map V.ref).length ≤ 1000 := by rw [List.length_map, hA.len]; exact Nat.le_trans sm.l1 (by decide)
  wtm_at "rd"
  refine r_get e T.c_Scheme T.nf_Scheme_sorts (sch_sorts _ _ _ _) ?_
  refine r_itt hS ?_
  refine lc_mapT (fldV H "key") hS hl (fun v H' QQ hv s' hQ => ?_) fun l nl => ?_
  · obtain ⟨a, ha, rfl⟩ := List.mem_map.mp hv
    obtain ⟨j, hj⟩ := List.getElem?_of_mem ha
    obtain ⟨b, _, hb⟩ := hA.get hj
    have ev : fldV H "key" (.ref a) = .str b.ky := by
      obtain ⟨dx', e'⟩ := hb
      exact fld_at e' (srt_key b)
    rw [ev] at hQ
    wtm_at "rd"
    exact r_skey T (hb.same s') hQ
  have ek : (as.map V.ref).map (fldV H "key") = (sc.ss.map Srt.ky).map V.str := by
    rw [List.map_map, List.map_map]
    refine hA.map fun a b hb => ?_
    obtain ⟨dx', e'⟩ := hb
    exact fld_at e' (srt_key b)
  rw [ek]
  have s1 := same_new (H := H) (o := .lst ((sc.ss.map Srt.ky).map V.str)) nl
  have e := s1 _ _ e
  wtm_at "rd"
  refine r_get e T.c_Scheme T.nf_Scheme_part_columns (sch_parts _ _ _ _) ?_
  refine r_stT (same_tup s1 hP) ?_
  wtm_at "rd"
  refine r_stL (SqL.of upd_same) ?_
  wtm_at "rd"
  refine r_get e T.c_Scheme T.nf_Scheme_value_columns (sch_values _ _ _ _) ?_
  refine r_stT (same_tup s1 hV) ?_
  wtm_at "rd"
  refine r_get e T.c_Scheme T.nf_Scheme_mark_columns (sch_marks _ _ _ _) ?_
  refine r_stT (same_tup s1 hM) ?_
  wtm_at "rd"
  have h1 := sm.l1
  have h2 := sm.l2
  have h3 := sm.l3
  have h4 := sm.l4
  refine ⟨Nat.le_of_lt (small1000 ?_), fun l2 nl2 => ?_⟩
  · simp only [List.length_append, List.length_map, List.length_nil]
    omega
  · refine q l2 _ (s1.free nl2) (s1.trans (same_new nl2)) ?_
    rw [upd_same]
    congr 2
    simp only [Sch.cols, List.map_append, List.append_nil]
theorem sch_who {CC CS : Addr} {H : Hp} {p : Addr} {sc : Sch} {m : Str} {A : Prop} (o : SchAt K CC CS H p sc) (h1 : ¬ m = "mark_columns") (h2 : ¬ m = "value_columns") (h3 : ¬ m = "part_columns") (h4 : ¬ m = "sorts") (h : A) : ∃ a' dx fs, V.ref p = .ref a' ∧ H a' = some (.ins CC dx fs) ∧ fs.lookup m = none ∧ A := by
  obtain ⟨dx, tS, tP, tV, tM, as, e, _⟩ := o
  exact r_who e (sch_no _ _ _ _ h1 h2 h3 h4) h
theorem ok_Scheme_inspect (T : Txt K mg) : FnOk P w K mg base (L2.CX P w) 3 T.f_Scheme_inspect T.d_Scheme_inspect ["self"] (spInspect K T.C_Scheme T.C_Sort T.C_BadScheme) := by
  refine T.F_Scheme_inspect.okX sc_Scheme_inspect (fun vs H Q E h => ?_) (fun cdv A outer s H vs Q E hr h => ?_)
  · obtain ⟨p, sc, rfl, _⟩ := h
    rfl
  obtain ⟨p, sc, rfl, o, sm, qE, q⟩ := h
  refine ⟨_, (pss_cons (ps_set (i := 1) sc_Scheme_inspect.nd rfl (by first | exact Or.inl rfl | exact Or.inr rfl) (pe_meth0 (pv 0) T.c_Scheme T.mt_Scheme_sort_names (ok_Scheme_sort_names T) (hr.mono (by decide)) T.b_Scheme_sort_names .nil pass0))
      (pss_cons (ps_set (i := 2) sc_Scheme_inspect.nd rfl (by first | exact Or.inl rfl | exact Or.inr rfl) (pe_meth0 (pv 0) T.c_Scheme T.mt_Scheme_columns (ok_Scheme_columns T) (hr.mono (by decide)) T.b_Scheme_columns .nil pass0))
      (pss_cons (ps_for (passes_of rfl) rfl (pi_list (pe_op op_cat (pv 1) (pv 2))) (pg_name (i := 3) sc_Scheme_inspect.nd rfl (by first | exact Or.inl rfl | exact Or.inr rfl)) (pss_one (ps_if (pt_not (pt_val (pe_call (ok_is_name T) (hr.mono (by decide)) (by rfl) T.g_is_name T.F_is_name.kp T.b_is_name .nil pass0 (pa_cons (pv 3) pa_nil)))) (pss_one (ps_raise rfl (takes_of rfl rfl rfl rfl) (pmk_oex T.ox_BadScheme T.iC_BadScheme T.tI_BadScheme (ok_BadScheme___init__ T) (hr.mono (by decide)) T.b_BadScheme___init__ .nil pass0 (by rfl) T.g_BadScheme (pa_cons (pv 3) pa_nil)))) pss_nil)))
      (pss_cons (ps_for (passes_of rfl) rfl (pi_tup (pe_tup (pa_cons (pv 1) (pa_cons (pv 2) pa_nil)))) (pg_name (i := 4) sc_Scheme_inspect.nd rfl (by first | exact Or.inl rfl | exact Or.inr rfl)) (pss_cons (ps_set (i := 3) sc_Scheme_inspect.nd rfl (by first | exact Or.inl rfl | exact Or.inr rfl) (pe_call (ok_first_double T) (hr.mono (by decide)) (by rfl) T.g_first_double T.F_first_double.kp T.b_first_double .nil pass0 (pa_cons (pv 4) pa_nil)))
      (pss_one (ps_if (pt_cmpR o_notN (pv 3) pe_non (nomark _)) (pss_one (ps_raise rfl (takes_of rfl rfl rfl rfl) (pmk_oex T.ox_BadScheme T.iC_BadScheme T.tI_BadScheme (ok_BadScheme___init__ T) (hr.mono (by decide)) T.b_BadScheme___init__ .nil pass0 (by rfl) T.g_BadScheme (pa_cons (pv 3) pa_nil)))) pss_nil))))
      (pss_one (ps_for (passes_of rfl) rfl (pi_tup (pe_fldK (K := K) (pv 0))) (pg_name (i := 5) sc_Scheme_inspect.nd rfl (by first | exact Or.inl rfl | exact Or.inr rfl)) (pss_one (ps_if (PW.pt (pw_and (pt_cmpR o_notN (pe_fldK (K := K) (pv 5)) pe_non (nomark _)) (pw_and1 (pt_cmpR op_notIn_seq (pe_fldK (K := K) (pv 5)) (pe_fldK (K := K) (pv 0)) (by rfl))))) (pss_one (ps_raise rfl (takes_of rfl rfl rfl rfl) (pmk_oex T.ox_BadScheme T.iC_BadScheme T.tI_BadScheme (ok_BadScheme___init__ T) (hr.mono (by decide)) T.b_BadScheme___init__ .nil pass0 (by rfl) T.g_BadScheme (pa_cons (pe_fldK (K := K) (pv 5)) pa_nil)))) pss_nil)))))))), ?_⟩
  try simp only [nox_K, cx_K]
  wtm_at "rd"
  refine sch_who o (by decide +kernel) (by decide +kernel) (by decide +kernel) (by decide +kernel) ?_
  wtm_at "rd"
  refine ⟨p, sc, rfl, o, sm, fun ln H1 n1 s1 hn1 => ?_⟩
  have o := o.same s1
  wtm_at "rd"
  refine sch_who o (by decide +kernel) (by decide +kernel) (by decide +kernel) (by decide +kernel) ?_
  wtm_at "rd"
  refine ⟨p, sc, rfl, o, sm, fun lc H2 n2 s2 hc2 => ?_⟩
  have o := o.same s2
  have hn2 := s2 _ _ hn1
  have s2 := s1.trans s2
  have h1 := sm.l1
  have h2 := sm.l2
  have h3 := sm.l3
  have h4 := sm.l4
  have ln' : sc.names.length ≤ 20 := by rw [Sch.names, List.length_map]; exact h1
  have lc' : sc.cols.length ≤ 80 := by
    simp only [Sch.cols, List.length_append, List.length_map]
    omega
  wtm_at "rd"
  refine r_for (r_il ?_)
  wtm_at "rd"
  refine ⟨ln, lc, _, _, rfl, rfl, hn2, hc2, Nat.le_of_lt (small1000 (by rw [List.length_map, List.length_map]; omega)), fun l3 n_l3 => ?_⟩
  rw [← List.map_append]
  generalize eq_l3 : upd _ l3 _ = H3
  have s_l3 : Same _ H3 := eq_l3 ▸ same_new n_l3
  have h_l3 : H3 l3 = some _ := eq_l3 ▸ upd_same
  clear eq_l3
  have o := o.same s_l3
  have hn2 := s_l3 _ _ hn2
  have hc2 := s_l3 _ _ hc2
  have s2 := s2.trans s_l3
  refine r_itl (SqL.of h_l3) ?_
  refine for_list (K := K) (a := l3) (xs := (sc.names ++ sc.cols).map V.str) (fun i σ H' => ∃ (y3 y4 y5 : Option V), σ = [some (.ref p), some (.ref ln), some (.ref lc), y3, y4, y5] ∧ Same H3 H' ∧ ∀ w ∈ (sc.names ++ sc.cols).take i, isNameB w = true) ⟨_, _, _, rfl, Same.refl _, fun w z => (by rw [List.take_zero] at z; cases z)⟩ (fun i σ H' _ ⟨_, _, _, _, s, _⟩ => SqL.of (s _ _ h_l3)) ?_ ?_
  · rintro i v σ H4 hv ⟨y3, y4, y5, rfl, s4, hall⟩
    rw [List.getElem?_map] at hv
    obtain ⟨w, hw, rfl⟩ := Option.map_eq_some_iff.mp hv
    wtm_at "rd"
    refine ⟨w, rfl, sm.w w (List.mem_of_getElem? hw), fun H5 s5 => ?_⟩
    wtm_at "rd"
    refine r_itebn (fun e1 => ?_) (fun e1 => ?_)
    · refine ⟨.str w, rfl, Nat.le_of_ble_eq_true rfl, raise_word fun d H' nd hd s => ?_⟩
      have s6 := ((s2.trans s4).trans s5)
      refine qE w ?_ d H' (s6.free nd) hd (s6.trans s)
      unfold Sch.bad badWord
      rw [find_take (f := fun w => !isNameB w) (fun y hy => by rw [hall y hy]; rfl) hw (by rw [e1]; rfl)]
      rfl
    · wtm_at "rd"
      refine ⟨_, _, _, rfl, s4.trans s5, fun y hy => ?_⟩
      rcases take_snoc hw hy with z | z
      · exact hall y z
      · rw [z]; exact e1
  rintro σ H4 ⟨y3, y4, y5, rfl, s4, hall⟩
  rw [List.length_map, List.take_length] at hall
  have b1 : badWord (sc.names ++ sc.cols) = none := List.find?_eq_none.mpr fun y hy => by rw [hall y hy]; exact Bool.false_ne_true
  have o := o.same s4
  have hn4 := s4 _ _ hn2
  have hc4 := s4 _ _ hc2
  have s4 := s2.trans s4
  wtm_at "rd"
  refine r_for (r_it ?_)
  wtm_at "rd"
  refine r_new rfl fun tt n_tt => ?_
  generalize eq_tt : upd _ tt _ = H5
  have s_tt : Same _ H5 := eq_tt ▸ same_new n_tt
  have h_tt : H5 tt = some _ := eq_tt ▸ upd_same
  clear eq_tt
  have o := o.same s_tt
  have hn4 := s_tt _ _ hn4
  have hc4 := s_tt _ _ hc4
  have s4 := s4.trans s_tt
  refine r_itt (SqT.of h_tt) ?_
  refine for_tup (K := K) (a := tt) (xs := [.ref ln, .ref lc]) (fun i σ H' => ∃ (y3 y4 y5 : Option V), σ = [some (.ref p), some (.ref ln), some (.ref lc), y3, y4, y5] ∧ Same H5 H' ∧ (1 ≤ i → dblFrom [] sc.names = none) ∧ (2 ≤ i → dblFrom [] sc.cols = none)) ⟨_, _, _, rfl, Same.refl _, fun z => absurd z (by decide), fun z => absurd z (by decide)⟩ (fun i σ H' _ ⟨_, _, _, _, s, _⟩ => SqT.of (s _ _ h_tt)) ?_ ?_
  · rintro i v σ H6 hv ⟨y3, y4, y5, rfl, s6, hd1, hd2⟩
    have hi : i < 2 := (List.getElem?_eq_some_iff.mp hv).1
    obtain e | e : i = 0 ∨ i = 1 := by omega
    · subst e
      cases hv
      wtm_at "rd"
      refine ⟨ln, sc.names, rfl, s6 _ _ hn4, by omega, fun H7 s7 => ?_⟩
      cases hdb : dblFrom [] sc.names with
      | none =>
        simp only [partV]
        wtm_at "rdi"
        exact ⟨_, _, _, rfl, s6.trans s7, fun _ => trivial, fun z => absurd z (by decide)⟩
      | some w =>
        simp only [partV]
        wtm_at "rd"
        refine ⟨rfl, ?_⟩
        rw [decide_eq_false (fun z => nomatch z)]
        wtm_at "rdi"
        refine ⟨.str w, rfl, Nat.le_of_ble_eq_true rfl, raise_word fun d H' nd hd s => ?_⟩
        have s8 := ((s4.trans s6).trans s7)
        refine qE w ?_ d H' (s8.free nd) hd (s8.trans s)
        unfold Sch.bad
        rw [b1, hdb]
        rfl
    · subst e
      cases hv
      have hd1 := hd1 (Nat.le_refl 1)
      wtm_at "rd"
      refine ⟨lc, sc.cols, rfl, s6 _ _ hc4, by omega, fun H7 s7 => ?_⟩
      cases hdb : dblFrom [] sc.cols with
      | none =>
        simp only [partV]
        wtm_at "rdi"
        exact ⟨_, _, _, rfl, s6.trans s7, fun _ => hd1, fun _ => trivial⟩
      | some w =>
        simp only [partV]
        wtm_at "rd"
        refine ⟨rfl, ?_⟩
        rw [decide_eq_false (fun z => nomatch z)]
        wtm_at "rdi"
        refine ⟨.str w, rfl, Nat.le_of_ble_eq_true rfl, raise_word fun d H' nd hd s => ?_⟩
        have s8 := ((s4.trans s6).trans s7)
        refine qE w ?_ d H' (s8.free nd) hd (s8.trans s)
        unfold Sch.bad
        rw [b1, hd1, hdb]
        rfl
  rintro σ H6 ⟨y3, y4, y5, rfl, s6, hd1, hd2⟩
  have hd1 := hd1 (Nat.le_of_ble_eq_true rfl)
  have hd2 := hd2 (Nat.le_of_ble_eq_true rfl)
  have o := o.same s6
  have s6 := s4.trans s6
  obtain ⟨dx, tS, tP, tV, tM, as, e, hS, hA, hP, hV, hM⟩ := o
  dsimp only
  refine r_for (r_it ?_)
  wtm_at "rd"
  refine r_get e T.c_Scheme T.nf_Scheme_sorts (sch_sorts _ _ _ _) ?_
  refine r_itt hS ?_
  refine for_tup (K := K) (a := tS) (xs := as.map V.ref) (fun i σ H' => ∃ (y3 y4 y5 : Option V), σ = [some (.ref p), some (.ref ln), some (.ref lc), y3, y4, y5] ∧ H' = H6 ∧ ∀ sr ∈ sc.ss.take i, partBad sc.ps sr = false) ⟨_, _, _, rfl, rfl, fun w z => (by rw [List.take_zero] at z; cases z)⟩ (fun i σ H' _ ⟨_, _, _, _, z, _⟩ => by subst z; exact hS) ?_ ?_
  · rintro i v σ H7 hv ⟨y3, y4, y5, rfl, rfl, hall⟩
    rw [List.getElem?_map] at hv
    obtain ⟨a, ha, rfl⟩ := Option.map_eq_some_iff.mp hv
    obtain ⟨sr, hsr, oa⟩ := hA.get ha
    have next : partBad sc.ps sr = false → ∀ y ∈ sc.ss.take (i + 1), partBad sc.ps y = false := fun z y hy => by
      rcases take_snoc hsr hy with c | c
      · exact hall y c
      · rw [c]; exact z
    wtm_at "rd"
    refine r_spart T oa ?_
    cases hpt : sr.pt with
    | none =>
      simp only [partV]
      wtm_at "rdi"
      exact ⟨_, _, _, rfl, rfl, next (by unfold partBad; rw [hpt])⟩
    | some z =>
      simp only [partV]
      wtm_at "rd"
      refine ⟨rfl, ?_⟩
      rw [decide_eq_false (fun z => nomatch z)]
      wtm_at "rdi"
      refine r_spart T oa ?_
      rw [hpt]
      wtm_at "rd"
      refine r_get e T.c_Scheme T.nf_Scheme_part_columns (sch_parts _ _ _ _) ?_
      refine r_inT hP rfl (flat_strsV _) ?_
      show ∃ k, V.bl (!inV (.str z) (sc.ps.map V.str)) = .bl k ∧ _
      rw [inV_strs]
      wtm_at "rd"
      refine r_iten (fun e1 => ?_) (fun e1 => ?_)
      · refine r_mko ?_
        wtm_at "rd"
        refine r_spart T oa ?_
        rw [hpt]
        wtm_at "rd"
        refine ⟨Nat.le_of_ble_eq_true rfl, raise_word (z := z) fun d H' nd hd s => ?_⟩
        refine qE z ?_ d H' (s6.free nd) hd (s6.trans s)
        unfold Sch.bad badPart
        rw [b1, hd1, hd2, find_take hall hsr (by unfold partBad; rw [hpt]; show (!decide (z ∈ sc.ps)) = true; rw [decide_eq_false e1]; rfl)]
        exact hpt
      · wtm_at "rd"
        exact ⟨_, _, _, rfl, rfl, next (by unfold partBad; rw [hpt]; show (!decide (z ∈ sc.ps)) = false; rw [decide_eq_true e1]; rfl)⟩
  · rintro σ H7 ⟨y3, y4, y5, rfl, rfl, hall⟩
    rw [List.length_map, hA.len, List.take_length] at hall
    wtm_at "rd"
    refine q ?_ _ s6
    unfold Sch.bad badPart
    rw [b1, hd1, hd2, List.find?_eq_none.mpr fun y hy => by rw [hall y hy]; exact Bool.false_ne_true]
    rfl
theorem sqt_put {H : Hp} {a p C dx : Addr} {fs : List (Str × V)} {xs : List V} {o : HO} (e : H p = some (.ins C dx fs)) (h : SqT K H a xs) : SqT K (upd H p o) a xs := by
  rcases h with (h | ⟨u, h⟩) | h
  · exact .inl (.inl ((upd_ne (ne_of h e fun z => nomatch z)).trans h))
  · exact .inl (.inr ⟨u, (upd_ne (ne_of h e fun z => nomatch z)).trans h⟩)
  · exact .inr h
theorem sqa_put {H : Hp} {a p C dx : Addr} {fs : List (Str × V)} {xs : List V} {o : HO} (e : H p = some (.ins C dx fs)) (h : SqA K H a xs) : SqA K (upd H p o) a xs := by
  rcases h with ((h | ⟨u, h⟩) | h) | h
  · exact .inl (.inl (.inl ((upd_ne (ne_of h e fun z => nomatch z)).trans h)))
  · exact .inl (.inl (.inr ⟨u, (upd_ne (ne_of h e fun z => nomatch z)).trans h⟩))
  · exact .inl (.inr h)
  · exact .inr (sqt_put e h)
theorem sort_put {H : Hp} {C CS p dx a : Addr} {sr : Srt} {fs fs' : List (Str × V)} (e : H p = some (.ins C dx fs)) (n : a ≠ p) (h : SortAt CS H a sr) : SortAt CS (upd H p (.ins C dx fs')) a sr := by
  obtain ⟨dy, z⟩ := h
  exact ⟨dy, (upd_ne n).trans z⟩
theorem ok_Scheme___init__ (T : Txt K mg) : FnOk P w K mg base (L2.CX P w) 5 T.f_Scheme___init__ T.d_Scheme___init__ ["self", "sorts", "parts", "values", "marks"] (spSchInit K T.C_Scheme T.C_Sort T.C_BadScheme) := by
  refine T.F_Scheme___init__.okX sc_Scheme___init__ (fun vs H Q E h => ?_) (fun cdv A outer s H vs Q E hr h => ?_)
  · obtain ⟨p, dx, aS, aP, aV, aM, sc, as, rfl, _⟩ := h
    rfl
  obtain ⟨p, dx, aS, aP, aV, aM, sc, as, rfl, hp, hS, hA, hP, hV, hM, sm, qE, q⟩ := h
  refine ⟨_, (pss_cons (ps_fld (pv 0) (pe_callTy c_tupA (by rfl) T.z_tuple (by decide +kernel) (pa_cons (pv 1) pa_nil)) rfl)
      (pss_cons (ps_fld (pv 0) (pe_callTy c_tupA (by rfl) T.z_tuple (by decide +kernel) (pa_cons (pv 2) pa_nil)) rfl)
      (pss_cons (ps_fld (pv 0) (pe_callTy c_tupA (by rfl) T.z_tuple (by decide +kernel) (pa_cons (pv 3) pa_nil)) rfl)
      (pss_cons (ps_fld (pv 0) (pe_callTy c_tupA (by rfl) T.z_tuple (by decide +kernel) (pa_cons (pv 4) pa_nil)) rfl)
      (pss_one (ps_expr (pe_meth0 (pv 0) T.c_Scheme T.mt_Scheme_inspect (ok_Scheme_inspect T) (hr.mono (by decide)) T.b_Scheme_inspect .nil (passes_call (takes_of rfl rfl rfl rfl) fun _ _ _ _ h => h)))))))), ?_⟩
  try simp only [nox_K, cx_K]
  have hA : All2 (fun a sr => a ≠ p ∧ SortAt T.C_Sort H a sr) as sc.ss := hA.imp fun a sr h => ⟨fun z => by
    subst z
    obtain ⟨dy, h⟩ := h
    rw [hp] at h
    have h := congrArg (fun o => match o with | some (HO.ins _ _ fs) => fs.length | _ => 0) h
    have e : (srtF sr).length = 4 := rfl
    exact Nat.noConfusion (show (0 : Nat) = 4 from h.trans e), h⟩
  wtm_at "rd"
  refine r_tupA hS fun tS H1 hS1 s1 => ?_
  have hp := s1 _ _ hp
  have hP := hP.same s1
  have hV := hV.same s1
  have hM := hM.same s1
  have hA : All2 (fun a sr => a ≠ p ∧ SortAt T.C_Sort H1 a sr) as sc.ss := hA.imp fun a sr h => ⟨h.1, h.2.same s1⟩
  wtm_at "rd"
  refine r_put hp T.c_Scheme T.nf_Scheme_sorts (by decide) ?_
  have hS1 := sqt_put (o := .ins T.C_Scheme dx (putF "sorts" (.ref tS) [])) hp hS1
  have hP := sqa_put (o := .ins T.C_Scheme dx (putF "sorts" (.ref tS) [])) hp hP
  have hV := sqa_put (o := .ins T.C_Scheme dx (putF "sorts" (.ref tS) [])) hp hV
  have hM := sqa_put (o := .ins T.C_Scheme dx (putF "sorts" (.ref tS) [])) hp hM
  have hA : All2 (fun a sr => a ≠ p ∧ SortAt T.C_Sort (upd H1 p (.ins T.C_Scheme dx (putF "sorts" (.ref tS) []))) a sr) as sc.ss := hA.imp fun a sr h => ⟨h.1, sort_put hp h.1 h.2⟩
  have k1 : ∀ b o, H b = some o → b ≠ p → (upd H1 p (.ins T.C_Scheme dx (putF "sorts" (.ref tS) []))) b = some o := fun b o e nb => (upd_ne nb).trans (s1 _ _ e)
  have hp1 : (upd H1 p (.ins T.C_Scheme dx (putF "sorts" (.ref tS) []))) p = some (.ins T.C_Scheme dx (putF "sorts" (.ref tS) [])) := upd_same
  clear hp
  revert hS1 hP hV hM hA k1 hp1
  generalize upd H1 p (.ins T.C_Scheme dx (putF "sorts" (.ref tS) [])) = H1'
  intro hS1 hP hV hM hA k1 hp
  wtm_at "rd"
  refine r_tupA hP fun tP H2 hP s2 => ?_
  have hp := s2 _ _ hp
  have hS1 := same_tup s2 hS1
  have hV := hV.same s2
  have hM := hM.same s2
  have hA : All2 (fun a sr => a ≠ p ∧ SortAt T.C_Sort H2 a sr) as sc.ss := hA.imp fun a sr h => ⟨h.1, h.2.same s2⟩
  wtm_at "rd"
  refine r_put hp T.c_Scheme T.nf_Scheme_part_columns (Nat.lt_of_le_of_lt (putF_len _ _ _) (by decide)) ?_
  generalize hz : putF "part_columns" (V.ref tP) (putF "sorts" (.ref tS) []) = fz
  have hS1 := sqt_put (o := .ins T.C_Scheme dx fz) hp hS1
  have hP := sqt_put (o := .ins T.C_Scheme dx fz) hp hP
  have hV := sqa_put (o := .ins T.C_Scheme dx fz) hp hV
  have hM := sqa_put (o := .ins T.C_Scheme dx fz) hp hM
  have hA : All2 (fun a sr => a ≠ p ∧ SortAt T.C_Sort (upd H2 p (.ins T.C_Scheme dx fz)) a sr) as sc.ss := hA.imp fun a sr h => ⟨h.1, sort_put hp h.1 h.2⟩
  have k2 : ∀ b o, H b = some o → b ≠ p → (upd H2 p (.ins T.C_Scheme dx fz)) b = some o := fun b o e nb => (upd_ne nb).trans (s2 _ _ (k1 _ _ e nb))
  have hp2 : (upd H2 p (.ins T.C_Scheme dx fz)) p = some (.ins T.C_Scheme dx fz) := upd_same
  clear hp
  revert hS1 hP hV hM hA k2 hp2
  generalize upd H2 p (.ins T.C_Scheme dx fz) = H2'
  intro hS1 hP hV hM hA k2 hp
  wtm_at "rd"
  refine r_tupA hV fun tV H3 hV s3 => ?_
  have hp := s3 _ _ hp
  have hS1 := same_tup s3 hS1
  have hP := same_tup s3 hP
  have hM := hM.same s3
  have hA : All2 (fun a sr => a ≠ p ∧ SortAt T.C_Sort H3 a sr) as sc.ss := hA.imp fun a sr h => ⟨h.1, h.2.same s3⟩
  wtm_at "rd"
  refine r_put hp T.c_Scheme T.nf_Scheme_value_columns (by rw [← hz]; exact Nat.lt_of_le_of_lt (putF_len _ _ _) (Nat.lt_of_le_of_lt (Nat.succ_le_succ (putF_len _ _ _)) (by decide))) ?_
  generalize hy : putF "value_columns" (V.ref tV) fz = fy
  have hS1 := sqt_put (o := .ins T.C_Scheme dx fy) hp hS1
  have hP := sqt_put (o := .ins T.C_Scheme dx fy) hp hP
  have hV := sqt_put (o := .ins T.C_Scheme dx fy) hp hV
  have hM := sqa_put (o := .ins T.C_Scheme dx fy) hp hM
  have hA : All2 (fun a sr => a ≠ p ∧ SortAt T.C_Sort (upd H3 p (.ins T.C_Scheme dx fy)) a sr) as sc.ss := hA.imp fun a sr h => ⟨h.1, sort_put hp h.1 h.2⟩
  have k3 : ∀ b o, H b = some o → b ≠ p → (upd H3 p (.ins T.C_Scheme dx fy)) b = some o := fun b o e nb => (upd_ne nb).trans (s3 _ _ (k2 _ _ e nb))
  have hp3 : (upd H3 p (.ins T.C_Scheme dx fy)) p = some (.ins T.C_Scheme dx fy) := upd_same
  clear hp
  revert hS1 hP hV hM hA k3 hp3
  generalize upd H3 p (.ins T.C_Scheme dx fy) = H3'
  intro hS1 hP hV hM hA k3 hp
  wtm_at "rd"
  refine r_tupA hM fun tM H4 hM s4 => ?_
  have hp := s4 _ _ hp
  have hS1 := same_tup s4 hS1
  have hP := same_tup s4 hP
  have hV := same_tup s4 hV
  have hA : All2 (fun a sr => a ≠ p ∧ SortAt T.C_Sort H4 a sr) as sc.ss := hA.imp fun a sr h => ⟨h.1, h.2.same s4⟩
  wtm_at "rd"
  refine r_put hp T.c_Scheme T.nf_Scheme_mark_columns (by rw [← hy, ← hz]; exact Nat.lt_of_le_of_lt (putF_len _ _ _) (Nat.lt_of_le_of_lt (Nat.succ_le_succ (putF_len _ _ _)) (Nat.lt_of_le_of_lt (Nat.succ_le_succ (Nat.succ_le_succ (putF_len _ _ _))) (by decide)))) ?_
  have hx : putF "mark_columns" (V.ref tM) fy = schF tS tP tV tM := by rw [← hy, ← hz]; rfl
  rw [hx]
  have hS1 := sqt_put (o := .ins T.C_Scheme dx (schF tS tP tV tM)) hp hS1
  have hP := sqt_put (o := .ins T.C_Scheme dx (schF tS tP tV tM)) hp hP
  have hV := sqt_put (o := .ins T.C_Scheme dx (schF tS tP tV tM)) hp hV
  have hM := sqt_put (o := .ins T.C_Scheme dx (schF tS tP tV tM)) hp hM
  have hA : All2 (SortAt T.C_Sort (upd H4 p (.ins T.C_Scheme dx (schF tS tP tV tM)))) as sc.ss := hA.imp fun a sr h => sort_put hp h.1 h.2
  have k4 : ∀ b o, H b = some o → b ≠ p → (upd H4 p (.ins T.C_Scheme dx (schF tS tP tV tM))) b = some o := fun b o e nb => (upd_ne nb).trans (s4 _ _ (k3 _ _ e nb))
  have o : SchAt K T.C_Scheme T.C_Sort (upd H4 p (.ins T.C_Scheme dx (schF tS tP tV tM))) p sc := ⟨dx, tS, tP, tV, tM, as, upd_same, hS1, hA, hP, hV, hM⟩
  have free : ∀ d, (upd H4 p (.ins T.C_Scheme dx (schF tS tP tV tM))) d = none → H d = none := fun d hd => by
    cases hh : H d with
    | none => rfl
    | some x =>
      by_cases c : d = p
      · subst c
        rw [upd_same] at hd
        cases hd
      · rw [k4 d x hh c] at hd
        cases hd
  revert o k4 free
  generalize upd H4 p (.ins T.C_Scheme dx (schF tS tP tV tM)) = H5
  intro k4 o free
  wtm_at "rd"
  refine sch_who o (by decide +kernel) (by decide +kernel) (by decide +kernel) (by decide +kernel) ?_
  wtm_at "rd"
  refine ⟨p, sc, rfl, o, sm, fun w hw d H' nd hd s' => ?_, fun hb H' s' => ?_⟩
  · exact qE w hw d H' (free d nd) hd fun b o e nb => s' _ _ (k4 b o e nb)
  · wtm_at "rd"
    exact q hb H' (o.same s') fun b o e nb => s' _ _ (k4 b o e nb)
end

theorem strs_dr {H : Hp} {d c r a : Addr} {ws : List Str} (D : Drw H d c r) (h : H a = some (.lst (ws.map V.str))) : a ≠ d ∧ a ≠ r := by
  obtain ⟨_, _, _, ns, rs, t, h1, h2, h3, hl, hp, _⟩ := D
  refine ⟨ne_of h h1 fun z => ?_, ne_of h h3 fun z => ?_⟩
  · have z := HO.lst.inj z
    cases ws with
    | nil => cases z
    | cons w ws => cases z
  · have z := HO.lst.inj z
    cases ws with
    | nil =>
      cases rs with
      | nil => rw [hl] at hp; exact absurd hp (Nat.lt_irrefl 0)
      | cons x rs => cases z
    | cons w ws =>
      cases rs with
      | nil => cases z
      | cons x rs => cases z
def spName : Sp := fun vs H Q _ => ∃ (d c r tk : Addr) (ts : List Str), vs = [.ref d, .ref tk] ∧ Drw H d c r ∧ H tk = some (.lst (ts.map V.str)) ∧ ts.length ≤ 20 ∧
  ∀ (w : Str) (H' : Hp), isNameB w = true → ¬ w ∈ ts → Drw H' d c r → Ext d r H H' → Q (.str w) H'
/-- all but the draws and one list stay -/
def ExtT (d r t : Addr) (H H' : Hp) : Prop := ∀ b o, H b = some o → b ≠ d → b ≠ r → b ≠ t → H' b = some o
def spNames : Sp := fun vs H Q _ => ∃ (d c r tk : Addr) (ts : List Str) (n : Nat), vs = [.ref d, .ref tk, .int n] ∧ Drw H d c r ∧ H tk = some (.lst (ts.map V.str)) ∧ ts.length + n ≤ 13 ∧ tk ≠ c ∧
  ∀ (l : Addr) (ws : List Str) (H' : Hp), H l = none → ws.length = n → (∀ w ∈ ws, isNameB w = true) → (ts.Nodup → (ts ++ ws).Nodup) → H' l = some (.lst (ws.map V.str)) → H' tk = some (.lst ((ts ++ ws).map V.str)) → Drw H' d c r → ExtT d r tk H H' → Q (.ref l) H'
theorem letters_at {k : Int} (h0 : 0 ≤ k) (h1 : k < 26) : atI lettersT.cps.toList k = some (97 + k.toNat) := by
  have e : lettersT.cps.toList = (List.range 26).map (97 + ·) := by decide +kernel
  have z : atI lettersT.cps.toList (k.toNat : Int) = some (97 + k.toNat) := atI_nat (by rw [e, List.getElem?_map, List.getElem?_range (by omega)]; rfl)
  rw [Int.toNat_of_nonneg h0] at z
  exact z
theorem cut_butlast {xs : List V} : cutV xs none (some (-1)) = xs.dropLast := by
  unfold cutV
  rw [HT.sIx_none, List.drop_zero, Nat.sub_zero]
  have e : HT.sIx xs.length xs.length (some (-1)) = xs.length - 1 := by
    show (if ((-1 : Int)) < 0 then ((-1 : Int) + (xs.length : Int)).toNat else min (-1 : Int).toNat xs.length) = _
    rw [if_pos (by decide)]
    omega
  rw [e, List.dropLast_eq_take]
def letCode (v : V) : V := match v with
  | .int k => .str (SX.S [97 + k.toNat])
  | w => w
section
variable {P : Program} {w : World} {K : PySem.W.Frag} {mg : Str → Option Value} {base : Heap}

theorem ok__law_name (T : Txt K mg) : FnOk P w K mg base CX0 2 T.f__law_name T.d__law_name ["_law_draws", "_law_taken"] spName := by
  refine T.F__law_name.ok sc__law_name (fun vs H Q E h => ?_) (fun cdv A outer s H vs Q E hr h => ?_)
  · obtain ⟨d, c, r, tk, tS, rfl, _⟩ := h
    rfl
  obtain ⟨d, c, r, tk, tS, rfl, D, htk, hl, q⟩ := h
  refine ⟨_, (pss_cons (ps_set (i := 2) sc__law_name.nd rfl (by first | exact Or.inl rfl | exact Or.inr rfl) pe_str)
      (pss_cons (ps_set (i := 3) sc__law_name.nd rfl (by first | exact Or.inl rfl | exact Or.inr rfl) (pe_lst (pa_cons pe_str (pa_cons pe_str (pa_cons pe_str (pa_cons pe_str (pa_cons pe_str (pa_cons pe_str (pa_cons pe_str (pa_cons pe_str (pa_cons pe_str (pa_cons pe_str (pa_cons pe_str (pa_cons pe_str pa_nil))))))))))))))
      (pss_cons (ps_setLc (i := 4) (own := [("_law_k", 8)]) (g := gName 8) (tt := tYes) rfl sc__law_name.nd rfl rfl (sw_true rfl rfl rfl (by decide +kernel)) (pi_range1 (by rfl) T.z_range (pa_cons (pe_op op_add pe_int (pe_call (ok__law_draw T) (hr.mono (by decide)) (by rfl) T.g__law_draw T.F__law_draw.kp T.b__law_draw .nil pass0 (pa_cons (pv 0) (pa_cons pe_int pa_nil)))) pa_nil)) (blkOk_by (N := ["_law_draws", "_law_taken", "_law_letters", "_law_words", "_law_spots", "_law_step", "_law_last", "_law_word", "_law_k", "_law_spot"]) (sc := defScope s__law_name) (by decide +kernel)) (fun _ _ _ _ _ => pg_name (i := 8) sc__law_name.nd rfl (by first | exact Or.inl rfl | exact Or.inr rfl)) (fun _ _ _ _ _ => pts_nil) (fun _ _ _ _ _ => (pe_call (ok__law_draw T) (hr.mono (by decide)) (by rfl) T.g__law_draw T.F__law_draw.kp T.b__law_draw .nil pass0 (pa_cons (pv 0) (pa_cons pe_int pa_nil)))))
      (pss_cons (ps_for PassesOwn.never rfl (pi_range1 (by rfl) T.z_range (pa_cons pe_int pa_nil)) (pg_name (i := 5) sc__law_name.nd rfl (by first | exact Or.inl rfl | exact Or.inr rfl)) (pss_cons (ps_set (i := 6) sc__law_name.nd rfl (by first | exact Or.inl rfl | exact Or.inr rfl) (pe_ix ix_str (pv 2) (pe_op op_mod (pe_callTy c_int1 (by rfl) T.z_int (by decide +kernel) (pa_cons (pe_op op_add (pe_ix (r := rIxL K) ix_list (pv 4) (pe_un un_neg pe_int) (fun _ _ => rfl)) (pv 5)) pa_nil)) pe_int) (fun _ _ => rfl)))
      (pss_cons (ps_set (i := 7) sc__law_name.nd rfl (by first | exact Or.inl rfl | exact Or.inr rfl) (pe_join pe_str (pe_op op_cat (pe_lc (own := [("_law_spot", 9)]) (g := gName 9) (tt := tYes) rfl sc__law_name.nd (pi_list (pe_slice sl_list (pv 4) po_none (po_some (pe_un un_neg pe_int)))) (blkOk_by (N := ["_law_draws", "_law_taken", "_law_letters", "_law_words", "_law_spots", "_law_step", "_law_last", "_law_word", "_law_k", "_law_spot"]) (sc := defScope s__law_name) (by decide +kernel)) (fun _ _ _ _ _ => pg_name (i := 9) sc__law_name.nd rfl (by first | exact Or.inl rfl | exact Or.inr rfl)) (fun _ _ _ _ _ => pts_nil) (fun _ _ _ _ _ => (pe_ix ix_str (pv 2) (pv 9) (fun _ _ => rfl)))) (pe_lst (pa_cons (pv 6) pa_nil)))))
      (pss_one (ps_if (PW.pt (pw_and (pt_cmpR op_notIn_seq (pv 7) (pv 3) (by rfl)) (pw_and1 (pt_cmpR op_notIn_seq (pv 7) (pv 1) (by rfl))))) (pss_one (ps_ret (pv 7))) pss_nil)))))
      (pss_one (ps_ret pe_str)))))), ?_⟩
  try simp only [nox_K, cx_K]
  have nd := strs_dr D htk
  wtm_at "rd"
  refine r_new rfl fun wl n_wl => ?_
  generalize eq_wl : upd _ wl _ = H1
  have s_wl : Same _ H1 := eq_wl ▸ same_new n_wl
  have h_wl : H1 wl = some _ := eq_wl ▸ upd_same
  clear eq_wl
  have D := D.same s_wl
  have htk := s_wl _ _ htk
  have E0 := Ext.of (d := d) (r := r) s_wl
  have h_wl : H1 wl = some (.lst (wordsS.map V.str)) := h_wl
  wtm_at "rd"
  refine ⟨d, c, r, 8, rfl, D, by decide, by decide, fun k H2 k0 k1 D2 E2 => ?_⟩
  have htk := E2 _ _ htk nd.1 nd.2
  have h_wl := E2 _ _ h_wl (strs_dr D h_wl).1 (strs_dr D h_wl).2
  have E2 := E0.trans E2
  wtm_at "rd"
  refine r_upto (by omega) (by omega) ?_
  refine lc_draws (P := fun x => 0 ≤ x ∧ x < 26) (by omega) D2 (fun i H3 QQ hi D3 E3 hQ => ?_) fun sp ss H3 ls hss nsp hsp D3 E3 => ?_
  · wtm_at "rd"
    exact ⟨d, c, r, 26, rfl, D3, by decide, by decide, fun k3 H4 l4 u4 D4 E4 => hQ _ _ ⟨l4, u4⟩ D4 E4⟩
  have htk := E3 _ _ htk nd.1 nd.2
  have h_wl := E3 _ _ h_wl (strs_dr D2 h_wl).1 (strs_dr D2 h_wl).2
  have E3 := E2.trans E3
  have hpos : 0 < ss.length := by omega
  have hlast := kAt_all hss (j := ss.length - 1) (by omega)
  have hpre : ∀ x ∈ (ss.dropLast.map fun k : Int => 97 + k.toNat), letB x = true := fun x hx => by
    obtain ⟨y, hy, rfl⟩ := List.mem_map.mp hx
    have := hss y (List.mem_of_mem_take (by rw [← List.dropLast_eq_take]; exact hy))
    exact letB_iff.mpr (by omega)
  have hprel : (ss.dropLast.map fun k : Int => 97 + k.toNat).length ≤ 7 := by
    rw [List.length_map, List.length_dropLast]
    omega
  wtm_at "rd"
  refine r_for (r_rng1 ?_)
  wtm_at "rd"
  refine r_upto (by decide) (by decide) ?_
  refine for_range (fun i σ H' => ∃ (y5 y6 y7 y8 y9 : Option V), σ = [some (.ref d), some (.ref tk), some (.str lettersT), some (.ref wl), some (.ref sp), y5, y6, y7, y8, y9] ∧ Same H3 H' ∧ ∀ j, j < i → cand (ss.dropLast.map fun k : Int => 97 + k.toNat) (kAt ss (ss.length - 1)) j ∈ wordsS ∨ cand (ss.dropLast.map fun k : Int => 97 + k.toNat) (kAt ss (ss.length - 1)) j ∈ tS) ⟨_, _, _, _, _, rfl, Same.refl _, fun j z => absurd z (Nat.not_lt_zero j)⟩ ?_ ?_
  · rintro i σ H4 hi ⟨y5, y6, y7, y8, y9, rfl, s4, hall⟩
    have hi : i < 26 := hi
    have hsp4 := s4 _ _ hsp
    have hwl4 := s4 _ _ h_wl
    have htk4 := s4 _ _ htk
    wtm_at "rd"
    refine r_ixL (SqL.of hsp4) (ati_last hpos) ?_
    wtm_at "rd"
    refine r_mod (by decide) fun m m0 m1 em => ?_
    wtm_at "rd"
    refine ⟨lettersT, m, _, rfl, rfl, Nat.le_of_lt (small1000 (by decide +kernel)), letters_at m0 m1, ?_⟩
    wtm_at "rd"
    refine ⟨⟨_, rfl⟩, ?_⟩
    wtm_at "rd"
    refine r_slL (SqL.of hsp4) fun b1 n_b1 => ?_
    rw [cut_butlast, ← List.map_dropLast]
    generalize eq_b1 : upd _ b1 _ = H5
    have s_b1 : Same _ H5 := eq_b1 ▸ same_new n_b1
    have h_b1 : H5 b1 = some _ := eq_b1 ▸ upd_same
    clear eq_b1
    have hwl4 := s_b1 _ _ hwl4
    have htk4 := s_b1 _ _ htk4
    have s4 := s4.trans s_b1
    refine r_itl (SqL.of h_b1) ?_
    refine lc_map letCode (SqL.of h_b1) (by rw [List.length_map, List.length_dropLast]; omega) (fun v H' QQ hv _ hQ => ?_) fun b2 n_b2 => ?_
    · obtain ⟨y, hy, rfl⟩ := List.mem_map.mp hv
      have hy := hss y (List.mem_of_mem_take (by rw [← List.dropLast_eq_take]; exact hy))
      wtm_at "rd"
      exact ⟨lettersT, y, _, rfl, rfl, Nat.le_of_lt (small1000 (by decide +kernel)), letters_at hy.1 hy.2, hQ⟩
    have em2 : (ss.dropLast.map V.int).map letCode = ((ss.dropLast.map fun k : Int => 97 + k.toNat).map fun c => SX.S [c]).map V.str := by
      rw [List.map_map, List.map_map, List.map_map]
      rfl
    rw [em2]
    generalize eq_b2 : upd _ b2 _ = H6
    have s_b2 : Same _ H6 := eq_b2 ▸ same_new n_b2
    have h_b2 : H6 b2 = some _ := eq_b2 ▸ upd_same
    clear eq_b2
    have hwl4 := s_b2 _ _ hwl4
    have htk4 := s_b2 _ _ htk4
    have s4 := s4.trans s_b2
    wtm_at "rd"
    refine r_new rfl fun b3 n_b3 => ?_
    generalize eq_b3 : upd _ b3 _ = H7
    have s_b3 : Same _ H7 := eq_b3 ▸ same_new n_b3
    have h_b3 : H7 b3 = some _ := eq_b3 ▸ upd_same
    clear eq_b3
    have hwl4 := s_b3 _ _ hwl4
    have htk4 := s_b3 _ _ htk4
    have h_b2 := s_b3 _ _ h_b2
    have s4 := s4.trans s_b3
    refine ⟨b2, b3, _, _, rfl, rfl, h_b2, h_b3, Nat.le_of_lt (small1000 (by rw [List.length_map, List.length_map]; show _ + 1 ≤ 1000; omega)), fun b4 n_b4 => ?_⟩
    generalize eq_b4 : upd _ b4 _ = H8
    have s_b4 : Same _ H8 := eq_b4 ▸ same_new n_b4
    have h_b4 : H8 b4 = some _ := eq_b4 ▸ upd_same
    clear eq_b4
    have hwl4 := s_b4 _ _ hwl4
    have htk4 := s_b4 _ _ htk4
    have s4 := s4.trans s_b4
    have h_b4 : H8 b4 = some (.lst ((((ss.dropLast.map fun k : Int => 97 + k.toNat) ++ [97 + m.toNat]).map fun c => SX.S [c]).map V.str)) := by
      rw [h_b4, List.map_append, List.map_append]
      rfl
    refine ⟨_, b4, _, rfl, rfl, .inl (SqL.of h_b4), ?_, ?_⟩
    · rw [sum_ones (ys := ((ss.dropLast.map fun k : Int => 97 + k.toNat) ++ [97 + m.toNat]).map fun c => SX.S [c]) fun y hy => by obtain ⟨x, _, rfl⟩ := List.mem_map.mp hy; rfl]
      rw [List.length_map, List.length_append]
      show _ + 1 + (_ + 1) * 0 ≤ 16777216
      omega
    rw [TL.join_eq, join_ones, show (SX.S ((ss.dropLast.map fun k : Int => 97 + k.toNat) ++ [97 + m.toNat])) = cand (ss.dropLast.map fun k : Int => 97 + k.toNat) (kAt ss (ss.length - 1)) i by rw [cand, em, Int.zero_add]]
    wtm_at "rd"
    refine r_inL (SqL.of hwl4) rfl (flat_strsV _) ?_
    show ∃ k, V.bl (!inV _ (wordsS.map V.str)) = .bl k ∧ _
    rw [inV_strs]
    wtm_at "rd"
    refine r_iten (fun e1 => ?_) (fun e1 => ?_)
    · wtm_at "rd"
      refine r_inL (SqL.of htk4) rfl (flat_strsV _) ?_
      show ∃ k, V.bl (!inV _ (tS.map V.str)) = .bl k ∧ _
      rw [inV_strs]
      wtm_at "rd"
      refine r_iten (fun e2 => ?_) (fun e2 => ?_)
      · wtm_at "rd"
        exact q _ _ (cand_name hpre hprel e1) e2 (D3.same s4) (E3.trans (Ext.of s4))
      · wtm_at "rd"
        refine ⟨_, _, _, _, _, rfl, s4, fun j hj => ?_⟩
        obtain z | z : j < i ∨ j = i := by omega
        · exact hall j z
        · rw [z]; exact .inr e2
    · wtm_at "rdi"
      refine ⟨_, _, _, _, _, rfl, s4, fun j hj => ?_⟩
      obtain z | z : j < i ∨ j = i := by omega
      · exact hall j z
      · rw [z]; exact .inl e1
  · rintro σ H4 ⟨y5, y6, y7, y8, y9, rfl, s4, hall⟩
    exact (cand_free hl hall).elim

theorem ok__law_names (T : Txt K mg) : FnOk P w K mg base CX0 3 T.f__law_names T.d__law_names ["_law_draws", "_law_taken", "_law_many"] spNames := by
  refine T.F__law_names.ok sc__law_names (fun vs H Q E h => ?_) (fun cdv A outer s H vs Q E hr h => ?_)
  · obtain ⟨d, c, r, tk, tS, n, rfl, _⟩ := h
    rfl
  obtain ⟨d, c, r, tk, tS, n, rfl, D, htk, hl, tkc, q⟩ := h
  refine ⟨_, (pss_cons (ps_set (i := 3) sc__law_names.nd rfl (by first | exact Or.inl rfl | exact Or.inr rfl) (pe_lst pa_nil))
      (pss_cons (ps_for PassesOwn.never rfl (pi_range1 (by rfl) T.z_range (pa_cons (pv 2) pa_nil)) (pg_name (i := 4) sc__law_names.nd rfl (by first | exact Or.inl rfl | exact Or.inr rfl)) (pss_cons (ps_set (i := 5) sc__law_names.nd rfl (by first | exact Or.inl rfl | exact Or.inr rfl) (pe_call (ok__law_name T) (hr.mono (by decide)) (by rfl) T.g__law_name T.F__law_name.kp T.b__law_name .nil pass0 (pa_cons (pv 0) (pa_cons (pv 1) pa_nil))))
      (pss_cons (ps_expr (pe_bm PySem.F.plainAttrs_list PySem.F.slot_list_append PySem.F.type_list_append mt_append (pv 1) (pa_cons (pv 5) pa_nil)))
      (pss_one (ps_expr (pe_bm PySem.F.plainAttrs_list PySem.F.slot_list_append PySem.F.type_list_append mt_append (pv 3) (pa_cons (pv 5) pa_nil)))))))
      (pss_one (ps_ret (pv 3))))), ?_⟩
  try simp only [nox_K, cx_K]
  have nd := strs_dr D htk
  wtm_at "rd"
  refine r_new rfl fun l nl => ?_
  have ld := D.ned nl
  have lr := D.ner nl
  have lc := D.nec nl
  have lt : l ≠ tk := (ne_of_none htk nl).symm
  wtm_at "rd"
  refine r_for (r_rng1 ?_)
  wtm_at "rd"
  refine r_upto (by omega) (by omega) ?_
  refine for_range (fun i σ H' => ∃ (y4 y5 : Option V) (ws : List Str), σ = [some (.ref d), some (.ref tk), some (.int n), some (.ref l), y4, y5] ∧ Drw H' d c r ∧ H' l = some (.lst (ws.map V.str)) ∧ H' tk = some (.lst ((tS ++ ws).map V.str)) ∧ ws.length = i ∧ (∀ w ∈ ws, isNameB w = true) ∧ (tS.Nodup → (tS ++ ws).Nodup) ∧ ExtT d r tk H H') ⟨_, _, [], rfl, D.new nl, upd_same, by rw [List.append_nil]; exact (same_new nl) _ _ htk, rfl, fun w z => (nomatch z), fun z => (by rw [List.append_nil]; exact z), fun b o e _ _ _ => (same_new nl) _ _ e⟩ ?_ ?_
  · rintro i σ H1 hi ⟨y4, y5, ws, rfl, D1, hl1, ht1, lw, hw, hnd, E1⟩
    have hi : i < n := by omega
    wtm_at "rd"
    refine ⟨d, c, r, tk, tS ++ ws, rfl, D1, ht1, by rw [List.length_append]; omega, fun w H2 hw2 hn2 D2 E2 => ?_⟩
    have hl2 := E2 _ _ hl1 ld lr
    have ht2 := E2 _ _ ht1 nd.1 nd.2
    wtm_at "rd"
    refine r_tyL (SqL.of ht2) ?_
    wtm_at "rd"
    refine r_app ht2 (small1000 (by rw [List.length_map, List.length_append]; omega)) ?_
    wtm_at "rd"
    have hl3 := (upd_ne (o := .lst ((tS ++ ws).map V.str ++ [V.str w])) lt).trans hl2
    refine r_tyL (SqL.of hl3) ?_
    wtm_at "rd"
    refine r_app hl3 (small1000 (by rw [List.length_map]; omega)) ?_
    wtm_at "rd"
    refine ⟨_, _, ws ++ [w], rfl, (D2.put nd.1 nd.2 tkc).put ld lr lc, by rw [upd_same, List.map_append]; rfl, ?_, by rw [List.length_append, lw]; rfl, fun y hy => ?_, fun z => ?_, fun b o e n1 n2 n3 => ?_⟩
    · rw [upd_ne lt.symm, upd_same, ← List.append_assoc, List.map_append (l₂ := [w])]
      rfl
    · rcases List.mem_append.mp hy with c | c
      · exact hw y c
      · rw [List.mem_singleton.mp c]; exact hw2
    · rw [← List.append_assoc]
      refine List.nodup_append.mpr ⟨hnd z, (by simp), fun a ha b hb => ?_⟩
      rw [List.mem_singleton.mp hb]
      intro e
      exact hn2 (e ▸ ha)
    · rw [upd_ne (ne_of_none e nl), upd_ne n3]
      exact E2 b o (E1 b o e n1 n2 n3) n1 n2
  · rintro σ H1 ⟨y4, y5, ws, rfl, D1, hl1, ht1, lw, hw, hnd, E1⟩
    wtm_at "rd"
    exact q l ws H1 nl (by omega) hw hnd hl1 ht1 D1 E1
end

def srtV (s : Srt) : List V := [.str s.nm, .str s.ky, partV s.pt, .bl s.ds]
structure SpecAt (H : Hp) (p : Addr) (sc : Sch) : Prop where
  ex : ∃ aS aP aV aM ts, H p = some (.lst [.ref aS, .ref aP, .ref aV, .ref aM]) ∧ H aS = some (.lst (ts.map V.ref)) ∧ All2 (fun t s => H t = some (.tup (srtV s))) ts sc.ss ∧ H aP = some (.lst (sc.ps.map V.str)) ∧ H aV = some (.lst (sc.vs.map V.str)) ∧ H aM = some (.lst (sc.ms.map V.str))
structure Sch.good (s : Sch) : Prop where
  w : ∀ z ∈ s.names ++ s.cols, isNameB z = true
  n1 : s.names.Nodup
  n2 : s.cols.Nodup
  pt : ∀ x ∈ s.ss, ∀ z, x.pt = some z → z ∈ s.ps
  l0 : 1 ≤ s.ss.length
  l1 : s.ss.length ≤ 3
  l2 : s.ps.length ≤ 2
  l3 : s.vs.length ≤ 3
  l4 : s.ms.length ≤ 3
theorem Sch.good.not_bad {s : Sch} (h : s.good) : s.bad = none := by
  have b1 : badWord (s.names ++ s.cols) = none := List.find?_eq_none.mpr fun y hy => by rw [h.w y hy]; exact Bool.false_ne_true
  have b2 : dblFrom [] s.names = none := dbl_none h.n1
  have b3 : dblFrom [] s.cols = none := dbl_none h.n2
  have b4 : badPart s.ps s.ss = none := by
    unfold badPart
    rw [List.find?_eq_none.mpr fun y hy => by
      unfold partBad
      cases hp : y.pt with
      | none => exact Bool.false_ne_true
      | some z =>
        show ¬ (!decide (z ∈ s.ps)) = true
        rw [decide_eq_true (h.pt y hy z hp)]
        exact Bool.false_ne_true]
    rfl
  unfold Sch.bad
  rw [b1, b2, b3, b4]
  rfl
theorem Sch.good.small {s : Sch} (h : s.good) : s.small := ⟨Nat.le_trans h.l1 (by decide), Nat.le_trans h.l2 (by decide), Nat.le_trans h.l3 (by decide), Nat.le_trans h.l4 (by decide), fun z hz => Nat.le_trans (isName_len (h.w z hz)).1 (by decide)⟩
def spSpec : Sp := fun vs H Q _ => ∃ (d c r : Addr) (m : Int), vs = [.ref d, .int m] ∧ Drw H d c r ∧ 1 ≤ m ∧ m ≤ 3 ∧ ∀ (p : Addr) (sc : Sch) (H' : Hp), sc.good → SpecAt H' p sc → Drw H' d c r → Ext d r H H' → Q (.ref p) H'
theorem at_lastS {ws : List Str} {w : Str} : atI ((ws ++ [w]).map V.str) (-1) = some (.str w) := by
  unfold atI ixN
  rw [if_neg (by decide), if_pos (by rw [List.length_map, List.length_append, List.length_singleton]; omega)]
  show ((ws ++ [w]).map V.str)[((-1 : Int) + (((ws ++ [w]).map V.str).length : Nat)).toNat]? = _
  rw [List.length_map, List.length_append, show ((-1 : Int) + ((ws.length + [w].length : Nat) : Int)).toNat = ws.length by show ((-1 : Int) + ((ws.length + 1 : Nat) : Int)).toNat = _; omega, List.getElem?_map, List.getElem?_append_right (Nat.le_refl _), Nat.sub_self]
  rfl
theorem at_hall {ps : List Str} {k : Int} (h0 : 0 ≤ k) (h1 : k < ps.length + 1) : ∃ pt : Option Str, atI (V.non :: ps.map V.str) k = some (partV pt) ∧ ∀ z, pt = some z → z ∈ ps := by
  by_cases c : k = 0
  · subst c
    exact ⟨none, atI_nat (j := 0) rfl, fun z h => nomatch h⟩
  · have hk : k.toNat - 1 < ps.length := by omega
    have e : atI (V.non :: ps.map V.str) ((k.toNat - 1 + 1 : Nat) : Int) = some (.str ps[k.toNat - 1]) := atI_nat (by rw [List.getElem?_cons_succ, List.getElem?_map, List.getElem?_eq_getElem hk]; rfl)
    rw [show ((k.toNat - 1 + 1 : Nat) : Int) = k by omega] at e
    exact ⟨some ps[k.toNat - 1], e, fun z h => by cases h; exact List.getElem_mem hk⟩
theorem tup_dr {H : Hp} {d c r a : Addr} {xs : List V} (D : Drw H d c r) (h : H a = some (.tup xs)) : a ≠ d ∧ a ≠ r := by
  obtain ⟨_, _, _, ns, rs, t, h1, h2, h3, _⟩ := D
  exact ⟨ne_of h h1 (fun z => nomatch z), ne_of h h3 (fun z => nomatch z)⟩
theorem ext_T {d r t : Addr} {H H1 H2 : Hp} (E : Ext d r H H1) (F : ExtT d r t H1 H2) (n : H t = none) : Ext d r H H2 := fun b o e n1 n2 => F b o (E b o e n1 n2) n1 n2 (ne_of_none e n)
theorem ext_put {d r t : Addr} {H H1 : Hp} {o' : HO} (E : Ext d r H H1) (n : H t = none) : Ext d r H (upd H1 t o') := fun b o e n1 n2 => (upd_ne (ne_of_none e n)).trans (E b o e n1 n2)
section
variable {P : Program} {w : World} {K : PySem.W.Frag} {mg : Str → Option Value} {base : Heap}

theorem ok__law_spec (T : Txt K mg) : FnOk P w K mg base CX0 4 T.f__law_spec T.d__law_spec ["_law_draws", "_law_most"] spSpec := by
  refine T.F__law_spec.ok sc__law_spec (fun vs H Q E h => ?_) (fun cdv A outer s H vs Q E hr h => ?_)
  · obtain ⟨d, c, r, mm, rfl, _⟩ := h
    rfl
  obtain ⟨d, c, r, mm, rfl, D, m1, m3, q⟩ := h
  refine ⟨_, (pss_cons (ps_set (i := 2) sc__law_spec.nd rfl (by first | exact Or.inl rfl | exact Or.inr rfl) (pe_lst pa_nil))
      (pss_cons (ps_set (i := 3) sc__law_spec.nd rfl (by first | exact Or.inl rfl | exact Or.inr rfl) (pe_lst pa_nil))
      (pss_cons (ps_set (i := 4) sc__law_spec.nd rfl (by first | exact Or.inl rfl | exact Or.inr rfl) (pe_lst pa_nil))
      (pss_cons (ps_set (i := 5) sc__law_spec.nd rfl (by first | exact Or.inl rfl | exact Or.inr rfl) (pe_call (ok__law_names T) (hr.mono (by decide)) (by rfl) T.g__law_names T.F__law_names.kp T.b__law_names .nil pass0 (pa_cons (pv 0) (pa_cons (pv 2) (pa_cons (pe_call (ok__law_draw T) (hr.mono (by decide)) (by rfl) T.g__law_draw T.F__law_draw.kp T.b__law_draw .nil pass0 (pa_cons (pv 0) (pa_cons pe_int pa_nil))) pa_nil)))))
      (pss_cons (ps_set (i := 6) sc__law_spec.nd rfl (by first | exact Or.inl rfl | exact Or.inr rfl) (pe_call (ok__law_names T) (hr.mono (by decide)) (by rfl) T.g__law_names T.F__law_names.kp T.b__law_names .nil pass0 (pa_cons (pv 0) (pa_cons (pv 2) (pa_cons (pe_call (ok__law_draw T) (hr.mono (by decide)) (by rfl) T.g__law_draw T.F__law_draw.kp T.b__law_draw .nil pass0 (pa_cons (pv 0) (pa_cons pe_int pa_nil))) pa_nil)))))
      (pss_cons (ps_set (i := 7) sc__law_spec.nd rfl (by first | exact Or.inl rfl | exact Or.inr rfl) (pe_call (ok__law_names T) (hr.mono (by decide)) (by rfl) T.g__law_names T.F__law_names.kp T.b__law_names .nil pass0 (pa_cons (pv 0) (pa_cons (pv 2) (pa_cons (pe_call (ok__law_draw T) (hr.mono (by decide)) (by rfl) T.g__law_draw T.F__law_draw.kp T.b__law_draw .nil pass0 (pa_cons (pv 0) (pa_cons pe_int pa_nil))) pa_nil)))))
      (pss_cons (ps_for PassesOwn.never rfl (pi_range1 (by rfl) T.z_range (pa_cons (pe_op op_add pe_int (pe_call (ok__law_draw T) (hr.mono (by decide)) (by rfl) T.g__law_draw T.F__law_draw.kp T.b__law_draw .nil pass0 (pa_cons (pv 0) (pa_cons (pv 1) pa_nil)))) pa_nil)) (pg_name (i := 8) sc__law_spec.nd rfl (by first | exact Or.inl rfl | exact Or.inr rfl)) (pss_cons (ps_set (i := 9) sc__law_spec.nd rfl (by first | exact Or.inl rfl | exact Or.inr rfl) (pe_cmpR op_eq (pe_call (ok__law_draw T) (hr.mono (by decide)) (by rfl) T.g__law_draw T.F__law_draw.kp T.b__law_draw .nil pass0 (pa_cons (pv 0) (pa_cons pe_int pa_nil))) pe_int (nomark _)))
      (pss_cons (ps_set (i := 10) sc__law_spec.nd rfl (by first | exact Or.inl rfl | exact Or.inr rfl) (pe_ix (r := rIxL K) ix_list (pe_op op_cat (pe_lst (pa_cons pe_non pa_nil)) (pv 5)) (pe_call (ok__law_draw T) (hr.mono (by decide)) (by rfl) T.g__law_draw T.F__law_draw.kp T.b__law_draw .nil pass0 (pa_cons (pv 0) (pa_cons (pe_op op_add (pe_callB (r := rLenL K) (id := "len") c_len (by rfl) T.z_len (by decide +kernel) (pa_cons (pv 5) pa_nil)) pe_int) pa_nil))) (fun _ _ => rfl)))
      (pss_cons (ps_set (i := 11) sc__law_spec.nd rfl (by first | exact Or.inl rfl | exact Or.inr rfl) (pe_cmpR op_eq (pe_call (ok__law_draw T) (hr.mono (by decide)) (by rfl) T.g__law_draw T.F__law_draw.kp T.b__law_draw .nil pass0 (pa_cons (pv 0) (pa_cons pe_int pa_nil))) pe_int (nomark _)))
      (pss_cons (ps_set (i := 12) sc__law_spec.nd rfl (by first | exact Or.inl rfl | exact Or.inr rfl) (pe_ix (r := rIxL K) ix_list (pe_call (ok__law_names T) (hr.mono (by decide)) (by rfl) T.g__law_names T.F__law_names.kp T.b__law_names .nil pass0 (pa_cons (pv 0) (pa_cons (pv 2) (pa_cons pe_int pa_nil)))) pe_int (fun _ _ => rfl)))
      (C8.pss_cut (ps_if (PW.pt (pw_and (pt_val (pv 11)) (pw_and1 (pt_cmpR op_notIn_seq (pv 12) (pv 3) (by rfl))))) (pss_one (ps_expr (pe_bm PySem.F.plainAttrs_list PySem.F.slot_list_append PySem.F.type_list_append mt_append (pv 3) (pa_cons (pv 12) pa_nil)))) (pss_one (ps_expr (pe_call (ok__law_names T) (hr.mono (by decide)) (by rfl) T.g__law_names T.F__law_names.kp T.b__law_names .nil pass0 (pa_cons (pv 0) (pa_cons (pv 3) (pa_cons pe_int pa_nil)))))))
      (pss_one (ps_expr (pe_bm PySem.F.plainAttrs_list PySem.F.slot_list_append PySem.F.type_list_append mt_append (pv 4) (pa_cons (pe_tup (pa_cons (pe_ix (r := rIxL K) ix_list (pv 3) (pe_un un_neg pe_int) (fun _ _ => rfl)) (pa_cons (pv 12) (pa_cons (pv 10) (pa_cons (pv 9) pa_nil))))) pa_nil))))))))))
      (pss_one (ps_ret (pe_lst (pa_cons (pv 4) (pa_cons (pv 5) (pa_cons (pv 6) (pa_cons (pv 7) pa_nil)))))))))))))), ?_⟩
  try simp only [nox_K, cx_K]
  wtm_at "rd"
  refine r_new rfl fun tk n_tk => ?_
  have tkd := D.ned n_tk
  have tkr := D.ner n_tk
  have tkc := D.nec n_tk
  have n_tk0 := n_tk
  generalize eq_tk : upd _ tk _ = H1
  have s_tk : Same _ H1 := eq_tk ▸ same_new n_tk
  have h_tk : H1 tk = some _ := eq_tk ▸ upd_same
  clear eq_tk
  have D := D.same s_tk
  have E1 : Ext d r H H1 := Ext.of s_tk
  wtm_at "rd"
  refine r_new rfl fun ca n_ca => ?_
  have cad := D.ned n_ca
  have car := D.ner n_ca
  have cac := D.nec n_ca
  have tc : tk ≠ ca := ne_of_none h_tk n_ca
  generalize eq_ca : upd _ ca _ = H2
  have s_ca : Same _ H2 := eq_ca ▸ same_new n_ca
  have h_ca : H2 ca = some _ := eq_ca ▸ upd_same
  clear eq_ca
  have D := D.same s_ca
  have h_tk := s_ca _ _ h_tk
  have E1 := E1.trans (Ext.of s_ca)
  wtm_at "rd"
  refine r_new rfl fun so n_so => ?_
  have sod := D.ned n_so
  have sor := D.ner n_so
  have soc := D.nec n_so
  have ts_ : tk ≠ so := ne_of_none h_tk n_so
  have cs_ : ca ≠ so := ne_of_none h_ca n_so
  generalize eq_so : upd _ so _ = H3
  have s_so : Same _ H3 := eq_so ▸ same_new n_so
  have h_so : H3 so = some _ := eq_so ▸ upd_same
  clear eq_so
  have D := D.same s_so
  have h_tk := s_so _ _ h_tk
  have h_ca := s_so _ _ h_ca
  have E1 := E1.trans (Ext.of s_so)
  wtm_at "rd"
  refine ⟨d, c, r, 3, rfl, D, by decide, by decide, fun k1 H4 k10 k11 D4 E4 => ?_⟩
  have n_ca0 : H ca = none := s_tk.free n_ca
  have n_so0 : H so = none := s_tk.free (s_ca.free n_so)
  have h_tk := E4 _ _ h_tk tkd tkr
  have h_ca := E4 _ _ h_ca cad car
  have h_so := E4 _ _ h_so sod sor
  have E4 := E1.trans E4
  wtm_at "rd"
  refine ⟨d, c, r, tk, [], k1.toNat, by rw [Int.toNat_of_nonneg k10]; rfl, D4, h_tk, by show 0 + k1.toNat ≤ 13; omega, tkc, fun ha ps H5 n_ha lps wps nps h_ha h_tk5 D5 E5 => ?_⟩
  have ht := (ne_of_none h_tk n_ha).symm
  have hc := (ne_of_none h_ca n_ha).symm
  have hs := (ne_of_none h_so n_ha).symm
  have h_ca := E5 _ _ h_ca cad car tc.symm
  have h_so := E5 _ _ h_so sod sor ts_.symm
  have nps := nps List.nodup_nil
  rw [List.nil_append] at h_tk5 nps
  have h_tk := h_tk5
  have E5 := ext_T E4 E5 n_tk0
  wtm_at "rd"
  refine ⟨d, c, r, 4, rfl, D5, by decide, by decide, fun k2 H6 k20 k21 D6 E6 => ?_⟩
  have h_tk := E6 _ _ h_tk tkd tkr
  have h_ca := E6 _ _ h_ca cad car
  have h_so := E6 _ _ h_so sod sor
  have h_ha := E6 _ _ h_ha (strs_dr D5 h_ha).1 (strs_dr D5 h_ha).2
  have E6 := E5.trans E6
  wtm_at "rd"
  refine ⟨d, c, r, tk, ps, k2.toNat, by rw [Int.toNat_of_nonneg k20]; rfl, D6, h_tk, by omega, tkc, fun wo vs H7 n_wo lvs wvs nvs h_wo h_tk7 D7 E7 => ?_⟩
  have wt := (ne_of_none h_tk n_wo).symm
  have wc := (ne_of_none h_ca n_wo).symm
  have ws_ := (ne_of_none h_so n_wo).symm
  have h_ca := E7 _ _ h_ca cad car tc.symm
  have h_so := E7 _ _ h_so sod sor ts_.symm
  have h_ha := E7 _ _ h_ha (strs_dr D6 h_ha).1 (strs_dr D6 h_ha).2 ht
  have nvs := nvs nps
  have h_tk := h_tk7
  have E7 := ext_T E6 E7 n_tk0
  wtm_at "rd"
  refine ⟨d, c, r, 4, rfl, D7, by decide, by decide, fun k3 H8 k30 k31 D8 E8 => ?_⟩
  have h_tk := E8 _ _ h_tk tkd tkr
  have h_ca := E8 _ _ h_ca cad car
  have h_so := E8 _ _ h_so sod sor
  have h_ha := E8 _ _ h_ha (strs_dr D7 h_ha).1 (strs_dr D7 h_ha).2
  have h_wo := E8 _ _ h_wo (strs_dr D7 h_wo).1 (strs_dr D7 h_wo).2
  have E8 := E7.trans E8
  wtm_at "rd"
  refine ⟨d, c, r, tk, ps ++ vs, k3.toNat, by rw [Int.toNat_of_nonneg k30]; rfl, D8, h_tk, by rw [List.length_append]; omega, tkc, fun fl ms H9 n_fl lms wms nms h_fl h_tk9 D9 E9 => ?_⟩
  have ft := (ne_of_none h_tk n_fl).symm
  have fc := (ne_of_none h_ca n_fl).symm
  have fs_ := (ne_of_none h_so n_fl).symm
  have h_ca := E9 _ _ h_ca cad car tc.symm
  have h_so := E9 _ _ h_so sod sor ts_.symm
  have h_ha := E9 _ _ h_ha (strs_dr D8 h_ha).1 (strs_dr D8 h_ha).2 ht
  have h_wo := E9 _ _ h_wo (strs_dr D8 h_wo).1 (strs_dr D8 h_wo).2 wt
  have nms := nms nvs
  have h_tk := h_tk9
  have E9 := ext_T E8 E9 n_tk0
  wtm_at "rd"
  refine r_for (r_rng1 ?_)
  wtm_at "rd"
  refine ⟨d, c, r, mm, rfl, D9, by omega, by omega, fun k4 H10 k40 k41 D10 E10 => ?_⟩
  have h_tk := E10 _ _ h_tk tkd tkr
  have h_ca := E10 _ _ h_ca cad car
  have h_so := E10 _ _ h_so sod sor
  have h_ha := E10 _ _ h_ha (strs_dr D9 h_ha).1 (strs_dr D9 h_ha).2
  have h_wo := E10 _ _ h_wo (strs_dr D9 h_wo).1 (strs_dr D9 h_wo).2
  have h_fl := E10 _ _ h_fl (strs_dr D9 h_fl).1 (strs_dr D9 h_fl).2
  have E10 := E9.trans E10
  wtm_at "rd"
  refine r_upto (by omega) (by omega) ?_
  refine for_range (fun i σ H' => ∃ (y8 y9 y10 y11 y12 : Option V) (ts : List Addr) (ss : List Srt), σ = [some (.ref d), some (.int mm), some (.ref tk), some (.ref ca), some (.ref so), some (.ref ha), some (.ref wo), some (.ref fl), y8, y9, y10, y11, y12] ∧ Drw H' d c r ∧ Ext d r H H' ∧
      H' tk = some (.lst ((ps ++ vs ++ ms ++ ss.map Srt.ky).map V.str)) ∧ H' ca = some (.lst ((ss.map Srt.nm).map V.str)) ∧ H' so = some (.lst (ts.map V.ref)) ∧ All2 (fun t s => H' t = some (.tup (srtV s))) ts ss ∧ H' ha = some (.lst (ps.map V.str)) ∧ H' wo = some (.lst (vs.map V.str)) ∧ H' fl = some (.lst (ms.map V.str)) ∧
      ss.length = i ∧ (∀ s ∈ ss, isNameB s.nm = true ∧ isNameB s.ky = true) ∧ (ps ++ vs ++ ms ++ ss.map Srt.ky).Nodup ∧ (ss.map Srt.nm).Nodup ∧ ∀ x ∈ ss, ∀ z, x.pt = some z → z ∈ ps)
    ⟨_, _, _, _, _, [], [], rfl, D10, E10, by show _ = some (HO.lst ((ps ++ vs ++ ms ++ []).map V.str)); rw [List.append_nil]; exact h_tk, h_ca, h_so, All2.nil, h_ha, h_wo, h_fl, rfl, fun _ z => (nomatch z), by show (ps ++ vs ++ ms ++ []).Nodup; rw [List.append_nil]; exact nms, List.nodup_nil, fun _ z => (nomatch z)⟩ ?_ ?_
  · rintro i σ H11 hi ⟨y8, y9, y10, y11, y12, ts, ss, rfl, D11, E11, h_tk, h_ca, h_so, hA, h_ha, h_wo, h_fl, li, hw, hn1, hn2, hpt⟩
    have hi : i < 4 := by omega
    have la : ts.length = i := hA.len.trans li
    wtm_at "rd"
    refine ⟨d, c, r, 2, rfl, D11, by decide, by decide, fun kf H12 kf0 kf1 D12 E12 => ?_⟩
    have h_tk := E12 _ _ h_tk tkd tkr
    have h_ca := E12 _ _ h_ca cad car
    have h_so := E12 _ _ h_so sod sor
    have hA := hA.imp fun t s z => E12.keep D11 z fun _ y => nomatch y
    have h_ha := E12 _ _ h_ha (strs_dr D11 h_ha).1 (strs_dr D11 h_ha).2
    have h_wo := E12 _ _ h_wo (strs_dr D11 h_wo).1 (strs_dr D11 h_wo).2
    have h_fl := E12 _ _ h_fl (strs_dr D11 h_fl).1 (strs_dr D11 h_fl).2
    have E12 := E11.trans E12
    wtm_at "rd"
    refine r_new rfl fun b1 n_b1 => ?_
    generalize eq_b1 : upd _ b1 _ = H13
    have s_b1 : Same _ H13 := eq_b1 ▸ same_new n_b1
    have h_b1 : H13 b1 = some _ := eq_b1 ▸ upd_same
    clear eq_b1
    have D12 := D12.same s_b1
    have E12 := E12.trans (Ext.of s_b1)
    have h_tk := s_b1 _ _ h_tk
    have h_ca := s_b1 _ _ h_ca
    have h_so := s_b1 _ _ h_so
    have h_ha := s_b1 _ _ h_ha
    have h_wo := s_b1 _ _ h_wo
    have h_fl := s_b1 _ _ h_fl
    have hA := hA.imp fun t s z => s_b1 _ _ z
    wtm_at "rd"
    refine ⟨b1, ha, _, _, rfl, rfl, h_b1, h_ha, Nat.le_of_lt (small1000 (by rw [List.length_map]; show 1 + ps.length ≤ 1000; omega)), fun b2 n_b2 => ?_⟩
    have b2d := D12.ned n_b2
    have b2r := D12.ner n_b2
    generalize eq_b2 : upd _ b2 _ = H14
    have s_b2 : Same _ H14 := eq_b2 ▸ same_new n_b2
    have h_b2 : H14 b2 = some _ := eq_b2 ▸ upd_same
    clear eq_b2
    have D12 := D12.same s_b2
    have E12 := E12.trans (Ext.of s_b2)
    have h_tk := s_b2 _ _ h_tk
    have h_ca := s_b2 _ _ h_ca
    have h_so := s_b2 _ _ h_so
    have h_ha := s_b2 _ _ h_ha
    have h_wo := s_b2 _ _ h_wo
    have h_fl := s_b2 _ _ h_fl
    have hA := hA.imp fun t s z => s_b2 _ _ z
    wtm_at "rd"
    refine r_lenS h_ha ?_
    wtm_at "rd"
    refine ⟨d, c, r, _, rfl, D12, by omega, by omega, fun kh H15 kh0 kh1 D15 E15 => ?_⟩
    have h_b2 := E15 _ _ h_b2 b2d b2r
    obtain ⟨pt, hpt1, hpt2⟩ := at_hall kh0 kh1
    refine r_ixL (SqL.of h_b2) hpt1 ?_
    have h_tk := E15 _ _ h_tk tkd tkr
    have h_ca := E15 _ _ h_ca cad car
    have h_so := E15 _ _ h_so sod sor
    have hA := hA.imp fun t s z => E15.keep D12 z fun _ y => nomatch y
    have h_ha := E15 _ _ h_ha (strs_dr D12 h_ha).1 (strs_dr D12 h_ha).2
    have h_wo := E15 _ _ h_wo (strs_dr D12 h_wo).1 (strs_dr D12 h_wo).2
    have h_fl := E15 _ _ h_fl (strs_dr D12 h_fl).1 (strs_dr D12 h_fl).2
    have E15 := E12.trans E15
    wtm_at "rd"
    refine ⟨d, c, r, 3, rfl, D15, by decide, by decide, fun ks H16 ks0 ks1 D16 E16 => ?_⟩
    have h_tk := E16 _ _ h_tk tkd tkr
    have h_ca := E16 _ _ h_ca cad car
    have h_so := E16 _ _ h_so sod sor
    have hA := hA.imp fun t s z => E16.keep D15 z fun _ y => nomatch y
    have h_ha := E16 _ _ h_ha (strs_dr D15 h_ha).1 (strs_dr D15 h_ha).2
    have h_wo := E16 _ _ h_wo (strs_dr D15 h_wo).1 (strs_dr D15 h_wo).2
    have h_fl := E16 _ _ h_fl (strs_dr D15 h_fl).1 (strs_dr D15 h_fl).2
    have E16 := E15.trans E16
    wtm_at "rd"
    refine ⟨d, c, r, tk, _, 1, rfl, D16, h_tk, by simp only [List.length_append, List.length_map]; omega, tkc, fun kl kw H17 n_kl lkw wkw nkw h_kl h_tk17 D17 E17 => ?_⟩
    obtain ⟨ky, rfl⟩ : ∃ ky, kw = [ky] := List.length_eq_one_iff.mp lkw
    have h_ca := E17 _ _ h_ca cad car tc.symm
    have h_so := E17 _ _ h_so sod sor ts_.symm
    have hA := hA.imp fun t s z => E17 _ _ z (tup_dr D16 z).1 (tup_dr D16 z).2 (ne_of z h_tk fun y => nomatch y)
    have h_ha := E17 _ _ h_ha (strs_dr D16 h_ha).1 (strs_dr D16 h_ha).2 ht
    have h_wo := E17 _ _ h_wo (strs_dr D16 h_wo).1 (strs_dr D16 h_wo).2 wt
    have h_fl := E17 _ _ h_fl (strs_dr D16 h_fl).1 (strs_dr D16 h_fl).2 ft
    have nkw := nkw hn1
    have h_tk := h_tk17
    have E17 := ext_T E16 E17 n_tk0
    have h_kl : H17 kl = some (.lst [V.str ky]) := h_kl
    wtm_at "rd"
    refine ⟨fun σ H' => ∃ (nm : Str), σ = [some (.ref d), some (.int mm), some (.ref tk), some (.ref ca), some (.ref so), some (.ref ha), some (.ref wo), some (.ref fl), some (.int (0 + i)), some (.bl (decide (kf = 1))), some (partV pt), some (.bl (decide (ks = 0))), some (.str ky)] ∧ Drw H' d c r ∧ Ext d r H H' ∧
      H' tk = some (.lst ((ps ++ vs ++ ms ++ ss.map Srt.ky ++ [ky]).map V.str)) ∧ H' ca = some (.lst ((ss.map Srt.nm ++ [nm]).map V.str)) ∧ H' so = some (.lst (ts.map V.ref)) ∧ All2 (fun t s => H' t = some (.tup (srtV s))) ts ss ∧ H' ha = some (.lst (ps.map V.str)) ∧ H' wo = some (.lst (vs.map V.str)) ∧ H' fl = some (.lst (ms.map V.str)) ∧ isNameB nm = true ∧ (ss.map Srt.nm ++ [nm]).Nodup, ?_, ?_⟩
    · have lkc : (ss.map Srt.nm).length ≤ 4 := by rw [List.length_map]; omega
      have other : ∀ {Hx : Hp}, Hx = H17 → spNames [.ref d, .ref ca, .int 1] Hx (fun _ H' => ∃ (nm : Str), [some (V.ref d), some (.int mm), some (.ref tk), some (.ref ca), some (.ref so), some (.ref ha), some (.ref wo), some (.ref fl), some (.int (0 + i)), some (.bl (decide (kf = 1))), some (partV pt), some (.bl (decide (ks = 0))), some (.str ky)] = [some (.ref d), some (.int mm), some (.ref tk), some (.ref ca), some (.ref so), some (.ref ha), some (.ref wo), some (.ref fl), some (.int (0 + i)), some (.bl (decide (kf = 1))), some (partV pt), some (.bl (decide (ks = 0))), some (.str ky)] ∧ Drw H' d c r ∧ Ext d r H H' ∧
        H' tk = some (.lst ((ps ++ vs ++ ms ++ ss.map Srt.ky ++ [ky]).map V.str)) ∧ H' ca = some (.lst ((ss.map Srt.nm ++ [nm]).map V.str)) ∧ H' so = some (.lst (ts.map V.ref)) ∧ All2 (fun t s => H' t = some (.tup (srtV s))) ts ss ∧ H' ha = some (.lst (ps.map V.str)) ∧ H' wo = some (.lst (vs.map V.str)) ∧ H' fl = some (.lst (ms.map V.str)) ∧ isNameB nm = true ∧ (ss.map Srt.nm ++ [nm]).Nodup) E0 := by
        rintro _ rfl
        refine ⟨d, c, r, ca, _, 1, rfl, D17, h_ca, by omega, cac, fun nl nw H18 _ lnw wnw nnw _ h_ca18 D18 E18 => ?_⟩
        obtain ⟨nm, rfl⟩ : ∃ nm, nw = [nm] := List.length_eq_one_iff.mp lnw
        refine ⟨nm, rfl, D18, ext_T E17 E18 n_ca0, E18 _ _ h_tk tkd tkr tc, h_ca18, E18 _ _ h_so sod sor cs_.symm, hA.imp fun t s z => E18 _ _ z (tup_dr D17 z).1 (tup_dr D17 z).2 (ne_of z h_ca fun y => nomatch y), E18 _ _ h_ha (strs_dr D17 h_ha).1 (strs_dr D17 h_ha).2 hc, E18 _ _ h_wo (strs_dr D17 h_wo).1 (strs_dr D17 h_wo).2 wc, E18 _ _ h_fl (strs_dr D17 h_fl).1 (strs_dr D17 h_fl).2 fc, wnw nm List.mem_cons_self, nnw hn2⟩
      wtm_at "rd"
      refine r_ite (fun e1 => ?_) (fun e1 => ?_)
      · wtm_at "rd"
        refine r_inL (SqL.of h_ca) rfl (flat_strsV _) ?_
        show ∃ k, V.bl (!inV _ ((ss.map Srt.nm).map V.str)) = .bl k ∧ _
        rw [inV_strs]
        wtm_at "rd"
        refine r_iten (fun e2 => ?_) (fun e2 => ?_)
        · wtm_at "rd"
          refine r_tyL (SqL.of h_ca) ?_
          wtm_at "rd"
          refine r_app h_ca (small1000 (by rw [List.length_map]; omega)) ?_
          wtm_at "rd"
          refine ⟨ky, rfl, D17.put cad car cac, ext_put E17 n_ca0, (upd_ne tc).trans h_tk, by rw [upd_same, List.map_append (l₂ := [ky])]; rfl, (upd_ne cs_.symm).trans h_so, hA.imp fun t s z => (upd_ne (ne_of z h_ca fun y => nomatch y)).trans z, (upd_ne hc).trans h_ha, (upd_ne wc).trans h_wo, (upd_ne fc).trans h_fl, wkw ky List.mem_cons_self, ?_⟩
          refine List.nodup_append.mpr ⟨hn2, by simp, fun a ha b hb => ?_⟩
          rw [List.mem_singleton.mp hb]
          intro e
          exact e2 (e ▸ ha)
        · wtm_at "rd"
          exact other rfl
      · wtm_at "rdi"
        exact other rfl
    rintro σ H' ⟨nm, rfl, D17, E17, h_tk, h_ca, h_so, hA, h_ha, h_wo, h_fl, wnm, nnm⟩
    wtm_at "rd"
    refine r_tyL (SqL.of h_so) ?_
    wtm_at "rd"
    refine r_ixL (SqL.of h_ca) at_lastS ?_
    wtm_at "rd"
    refine r_new rfl fun tt n_tt => ?_
    generalize eq_tt : upd _ tt _ = H19
    have s_tt : Same _ H19 := eq_tt ▸ same_new n_tt
    have h_tt : H19 tt = some _ := eq_tt ▸ upd_same
    clear eq_tt
    have D17 := D17.same s_tt
    have E17 := E17.trans (Ext.of s_tt)
    have h_tk := s_tt _ _ h_tk
    have h_ca := s_tt _ _ h_ca
    have h_so := s_tt _ _ h_so
    have h_ha := s_tt _ _ h_ha
    have h_wo := s_tt _ _ h_wo
    have h_fl := s_tt _ _ h_fl
    have hA := hA.imp fun t s z => s_tt _ _ z
    have h_tt : H19 tt = some (.tup (srtV ⟨nm, ky, pt, decide (kf = 1)⟩)) := h_tt
    wtm_at "rd"
    refine r_app h_so (small1000 (by rw [List.length_map]; omega)) ?_
    wtm_at "rd"
    have em : ∀ (f : Srt → Str), (ss ++ [(⟨nm, ky, pt, decide (kf = 1)⟩ : Srt)]).map f = ss.map f ++ [f ⟨nm, ky, pt, decide (kf = 1)⟩] := fun f => List.map_append
    refine ⟨_, _, _, _, _, ts ++ [tt], ss ++ [⟨nm, ky, pt, decide (kf = 1)⟩], rfl, D17.put sod sor soc, ext_put E17 n_so0, ?_, ?_, by rw [upd_same, List.map_append]; rfl, All2.snoc (hA.imp fun t s z => (upd_ne (ne_of z h_so fun y => nomatch y)).trans z) ((upd_ne (ne_of h_tt h_so fun y => nomatch y)).trans h_tt), (upd_ne hs).trans h_ha, (upd_ne ws_).trans h_wo, (upd_ne fs_).trans h_fl, by rw [List.length_append, li]; rfl, fun s hs' => ?_, ?_, ?_, fun x hx z hz => ?_⟩
    · rw [em, ← List.append_assoc]
      exact (upd_ne ts_).trans h_tk
    · rw [em]
      exact (upd_ne cs_).trans h_ca
    · rcases List.mem_append.mp hs' with y | y
      · exact hw s y
      · rw [List.mem_singleton.mp y]
        exact ⟨wnm, wkw ky List.mem_cons_self⟩
    · rw [em, ← List.append_assoc]
      exact nkw
    · rw [em]
      exact nnm
    · rcases List.mem_append.mp hx with y | y
      · exact hpt x y z hz
      · rw [List.mem_singleton.mp y] at hz
        exact hpt2 z hz
  · rintro σ H11 ⟨y8, y9, y10, y11, y12, ts, ss, rfl, D11, E11, h_tk, h_ca, h_so, hA, h_ha, h_wo, h_fl, li, hw, hn1, hn2, hpt⟩
    wtm_at "rd"
    refine r_new rfl fun p n_p => ?_
    generalize eq_p : upd _ p _ = H12
    have s_p : Same _ H12 := eq_p ▸ same_new n_p
    have h_p : H12 p = some _ := eq_p ▸ upd_same
    clear eq_p
    have D11 := D11.same s_p
    have E11 := E11.trans (Ext.of s_p)
    have h_so := s_p _ _ h_so
    have h_ha := s_p _ _ h_ha
    have h_wo := s_p _ _ h_wo
    have h_fl := s_p _ _ h_fl
    have hA := hA.imp fun t s z => s_p _ _ z
    refine q p ⟨ss, ps, vs, ms⟩ _ ?_ ⟨so, ha, wo, fl, ts, h_p, h_so, hA, h_ha, h_wo, h_fl⟩ D11 E11
    have pm : (ps ++ (ss.map Srt.ky ++ (vs ++ ms))).Perm (ps ++ vs ++ ms ++ ss.map Srt.ky) := by
      rw [List.append_assoc, List.append_assoc, ← List.append_assoc vs]
      exact List.Perm.append_left _ List.perm_append_comm
    refine ⟨fun z hz => ?_, hn2, pm.nodup_iff.mpr hn1, hpt, by show 1 ≤ ss.length; omega, by show ss.length ≤ 3; omega, by show ps.length ≤ 2; omega, by show vs.length ≤ 3; omega, by show ms.length ≤ 3; omega⟩
    rcases List.mem_append.mp hz with y | y
    · obtain ⟨x, hx, rfl⟩ := List.mem_map.mp y
      exact (hw x hx).1
    · rcases List.mem_append.mp y with y | y
      · exact wps z y
      · rcases List.mem_append.mp y with y | y
        · obtain ⟨x, hx, rfl⟩ := List.mem_map.mp y
          exact (hw x hx).2
        · rcases List.mem_append.mp y with y | y
          · exact wvs z y
          · exact wms z y
end

/-- plain texts of at most n signs -/
def Wn (n : Nat) (z : Str) : Prop := (∀ c ∈ z.cps.toList, c < 128) ∧ z.length ≤ n
theorem Wn.up {n m : Nat} {z : Str} (h : Wn n z) (hm : n ≤ m) : Wn m z := ⟨h.1, Nat.le_trans h.2 hm⟩
theorem Wn.sok {n : Nat} {z : Str} (h : Wn n z) : PyData.strOk z = true := by
  show z.cps.all _ = true
  rw [← Array.all_toList, List.all_eq_true]
  intro c hc
  have := h.1 c hc
  exact decide_eq_true (by omega)
theorem Wn.line {n : Nat} {z : Str} (h : Wn n z) (hn : n ≤ 1000) : z.length ≤ sizeLine := Nat.le_of_lt (small1000 (Nat.le_trans h.2 hn))
theorem Wn.cut {n : Nat} {z : Str} {lo hi : Option Int} (h : Wn n z) : Wn n (cutS z lo hi) := ⟨fun c hc => h.1 c (List.mem_of_mem_drop (List.mem_of_mem_take (by simpa [cutS] using hc))), Nat.le_trans cut_lenS h.2⟩
theorem Wn.app {n m : Nat} {x y : Str} (hx : Wn n x) (hy : Wn m y) : Wn (n + m) (x ++ y) := by
  refine ⟨fun c hc => ?_, by rw [len_app]; exact Nat.add_le_add hx.2 hy.2⟩
  have e : (x ++ y).cps.toList = x.cps.toList ++ y.cps.toList := by
    show (x.cps ++ y.cps).toList = _
    rw [Array.toList_append]
  rw [e] at hc
  rcases List.mem_append.mp hc with z | z
  · exact hx.1 c z
  · exact hy.1 c z
theorem name_Wn {z : Str} (h : isNameB z = true) : Wn 8 z := by
  refine ⟨fun c hc => ?_, (isName_len h).1⟩
  unfold isNameB at h
  have h := (Bool.and_eq_true_iff.mp (Bool.and_eq_true_iff.mp h).2).2
  have := letB_iff.mp (List.all_eq_true.mp h c hc)
  omega
theorem wordsWn : ∀ z ∈ wordsS, (∀ c ∈ z.cps.toList, c < 128) ∧ z.length ≤ 8 := by decide +kernel
theorem upper_Wn {n : Nat} {z : Str} (h : Wn n z) : Wn n (Txt.upper z) := by
  have e := SX.upper_S (a := z.cps.toList) (List.all_eq_true.mpr fun c hc => decide_eq_true (h.1 c hc))
  rw [SX.S_tl] at e
  rw [e]
  refine ⟨fun c hc => ?_, ?_⟩
  · obtain ⟨x, hx, rfl⟩ := List.mem_map.mp hc
    have := h.1 x hx
    unfold PyProof.Rows.up1
    split <;> omega
  · rw [SX.S_len, List.length_map]
    exact h.2
def signsT : Str := " !\"#$&'()*+,-./0123456789:;<=>?@ABCDEFGHIJKLMNOPQRSTUVWXYZ[\\]^_`{|}~"
theorem signsWn : (∀ c ∈ signsT.cps.toList, c < 128) ∧ signsT.length ≤ 80 ∧ 0 < signsT.length := by decide +kernel
theorem at_str {z : Str} {k : Int} (h0 : 0 ≤ k) (h1 : k < z.length) : ∃ c, atI z.cps.toList k = some c ∧ c ∈ z.cps.toList := by
  have hk : k.toNat < z.cps.toList.length := by rw [Array.length_toList]; show k.toNat < z.length; omega
  have e : atI z.cps.toList (k.toNat : Int) = some z.cps.toList[k.toNat] := atI_nat (List.getElem?_eq_getElem hk)
  rw [Int.toNat_of_nonneg h0] at e
  exact ⟨_, e, List.getElem_mem hk⟩
theorem one_Wn {c : Nat} (h : c < 128) : Wn 1 (SX.S [c]) := ⟨fun x hx => by rw [List.mem_singleton.mp hx]; exact h, Nat.le_refl _⟩
def spOdd : Sp := fun vs H Q _ => ∃ (d c r : Addr) (z : Str) (n : Nat), vs = [.ref d, .str z] ∧ Drw H d c r ∧ Wn n z ∧ 9 ≤ n ∧ n ≤ 100 ∧ 0 < z.length ∧ ∀ (w : Str) (H' : Hp), Wn (n + 1) w → Drw H' d c r → Ext d r H H' → Q (.str w) H'
def spNewWord : Sp := fun vs H Q _ => ∃ (d c r a : Addr) (z : Str) (ws : List Str) (n : Nat), vs = [.ref d, .str z, .ref a] ∧ Drw H d c r ∧ H a = some (.lst (ws.map V.str)) ∧ Wn n z ∧ (∀ w ∈ ws, Wn n w) ∧ 0 < ws.length ∧ ws.length ≤ 100 ∧ 9 ≤ n ∧ n ≤ 100 ∧ ∀ (w : Str) (H' : Hp), Wn (n + 1) w → Drw H' d c r → Ext d r H H' → Q (.str w) H'
def spGoodW : Sp := fun vs H Q _ => ∃ (z : Str), vs = [.str z] ∧ z.length ≤ 1000 ∧ ∀ H', Same H H' → Q (.bl (isNameB z)) H'

theorem r_lenR {H : Hp} {Q : VK} {K : PySem.W.Frag} {p : Addr} {as : List Addr} (h1 : H p = some (.lst (as.map V.ref))) (h : Q (.int as.length) H) : rLenL K [.ref p] H Q := ⟨p, _, rfl, .inl (.inl (.inl h1)), by rw [List.length_map]; exact h⟩
theorem at_refs {gs : List Addr} {k : Int} (h0 : 0 ≤ k) (h1 : k < gs.length) : ∃ a, gs[k.toNat]? = some a ∧ atI (gs.map V.ref) k = some (.ref a) := by
  have hk : k.toNat < gs.length := by omega
  have e : atI (gs.map V.ref) (k.toNat : Int) = some (.ref gs[k.toNat]) := atI_nat (by rw [List.getElem?_map, List.getElem?_eq_getElem hk]; rfl)
  rw [Int.toNat_of_nonneg h0] at e
  exact ⟨_, List.getElem?_eq_getElem hk, e⟩
/-- the item of the list at an address -/
def idxV (H : Hp) (j : Nat) : V → V
  | .ref u => match H u with
    | some (.lst xs) => xs.getD j .non
    | _ => .non
  | _ => .non
theorem idx_at {H : Hp} {j : Nat} {u : Addr} {xs : List V} {v : V} (h : H u = some (.lst xs)) (e : xs[j]? = some v) : idxV H j (.ref u) = v := by
  simp only [idxV, h]
  rw [List.getD_eq_getElem?_getD, e]
  rfl
structure SpAt (H : Hp) (aS aK : Addr) (sc : Sch) : Prop where
  ex : ∃ ts aP aV aM, H aS = some (.lst (ts.map V.ref)) ∧ All2 (fun t s => H t = some (.lst (srtV s))) ts sc.ss ∧ H aK = some (.lst [.ref aP, .ref aV, .ref aM]) ∧ H aP = some (.lst (sc.ps.map V.str)) ∧ H aV = some (.lst (sc.vs.map V.str)) ∧ H aM = some (.lst (sc.ms.map V.str))
theorem SpAt.same {H H' : Hp} {aS aK : Addr} {sc : Sch} (h : SpAt H aS aK sc) (s : Same H H') : SpAt H' aS aK sc := by
  obtain ⟨ts, aP, aV, aM, h1, h2, h3, h4, h5, h6⟩ := h
  exact ⟨ts, aP, aV, aM, s _ _ h1, h2.imp fun _ _ z => s _ _ z, s _ _ h3, s _ _ h4, s _ _ h5, s _ _ h6⟩
structure Sch.wd (s : Sch) (n : Nat) : Prop where
  w : ∀ z ∈ s.names ++ s.cols, Wn n z
  p : ∀ x ∈ s.ss, ∀ z, x.pt = some z → Wn n z
  l0 : 1 ≤ s.ss.length
  l1 : s.ss.length ≤ 3
  l2 : s.ps.length ≤ 2
  l3 : s.vs.length ≤ 3
  l4 : s.ms.length ≤ 3
theorem Sch.wd.up {s : Sch} {n m : Nat} (h : s.wd n) (hm : n ≤ m) : s.wd m := ⟨fun z hz => (h.w z hz).up hm, fun x hx z hz => (h.p x hx z hz).up hm, h.l0, h.l1, h.l2, h.l3, h.l4⟩
theorem Sch.wd.small {s : Sch} {n : Nat} (h : s.wd n) (hn : n ≤ 1000) : s.small := ⟨Nat.le_trans h.l1 (by decide), Nat.le_trans h.l2 (by decide), Nat.le_trans h.l3 (by decide), Nat.le_trans h.l4 (by decide), fun z hz => Nat.le_trans (h.w z hz).2 hn⟩
theorem Sch.wd.lens {s : Sch} {n : Nat} (h : s.wd n) : 1 ≤ s.cols.length ∧ s.cols.length ≤ 11 ∧ s.names.length ≤ 3 ∧ 1 ≤ s.names.length := by
  have h0 := h.l0
  have h1 := h.l1
  have h2 := h.l2
  have h3 := h.l3
  have h4 := h.l4
  simp only [Sch.cols, Sch.names, List.length_append, List.length_map]
  omega
theorem good_wd {s : Sch} (h : s.good) : s.wd 20 := ⟨fun z hz => (name_Wn (h.w z hz)).up (by decide), fun x hx z hz => (name_Wn (h.w z (List.mem_append.mpr (.inr (List.mem_append.mpr (.inl (h.pt x hx z hz))))))).up (by decide), h.l0, h.l1, h.l2, h.l3, h.l4⟩
def spColsL : Sp := fun vs H Q _ => ∃ (aS aK : Addr) (sc : Sch) (n : Nat), vs = [.ref aS, .ref aK] ∧ SpAt H aS aK sc ∧ sc.wd n ∧ ∀ l H', H l = none → Same H H' → H' l = some (.lst (sc.cols.map V.str)) → Q (.ref l) H'
def MadeAt (H : Hp) (t : Addr) (sc : Sch) : Prop := match sc.bad with
  | some w => H t = some (.tup [.str "bad", .str w, .bl true])
  | none => ∃ l, H t = some (.tup [.str "made", .ref l]) ∧ H l = some (.lst (sc.cols.map V.str))
theorem made_bad {H : Hp} {t : Addr} {sc : Sch} {w : Str} (e : sc.bad = some w) (h : H t = some (.tup [.str "bad", .str w, .bl true])) : MadeAt H t sc := by
  unfold MadeAt
  rw [e]
  exact h
theorem made_ok {H : Hp} {t l : Addr} {sc : Sch} (e : sc.bad = none) (h : H t = some (.tup [.str "made", .ref l])) (hl : H l = some (.lst (sc.cols.map V.str))) : MadeAt H t sc := by
  unfold MadeAt
  rw [e]
  exact ⟨l, h, hl⟩
def spDueL : Sp := fun vs H Q _ => ∃ (aS aK : Addr) (sc : Sch) (n : Nat), vs = [.ref aS, .ref aK] ∧ SpAt H aS aK sc ∧ sc.wd n ∧ n ≤ 1000 ∧ ∀ t H', Same H H' → MadeAt H' t sc → Q (.ref t) H'
theorem cut_take {ws : List Str} {k : Nat} (h : k ≤ ws.length) : cutV (ws.map V.str) none (some (k : Int)) = (ws.take k).map V.str := by
  unfold cutV
  rw [HT.sIx_none, HT.sIx_nat, List.drop_zero, Nat.sub_zero, List.length_map, Nat.min_eq_left h, List.map_take]
theorem at_nth {ws : List Str} {k : Nat} {w : Str} (h : ws[k]? = some w) : atI (ws.map V.str) (0 + (k : Int)) = some (.str w) := by
  rw [Int.zero_add]
  exact atI_nat (by rw [List.getElem?_map, h]; rfl)

theorem same_two {H : Hp} {x dx C : Addr} (nx : H x = none) (nd : H dx = none) : Same H (upd (upd H dx (.own x)) x (.ins C dx [])) := fun b o e => (upd_ne (ne_of_none e nx)).trans ((upd_ne (ne_of_none e nd)).trans e)
theorem make_sort {C : Addr} {H : Hp} {F : Addr → Hp → Prop} {E : XK} {sr : Srt} (h : ∀ x H', H x = none → Same H H' → SortAt C H' x sr → F x H') :
    ∀ x dx, H x = none → H dx = none → dx ≠ x → spSortInit C ([.ref x, .str sr.nm, .str sr.ky] ++ [partV sr.pt, .bl sr.ds]) (upd (upd H dx (.own x)) x (.ins C dx [])) (fun v H2 => v = .non ∧ F x H2) E :=
  fun x dx nx nd _ => ⟨x, dx, sr, rfl, upd_same, fun H' ho hk => ⟨rfl, h x H' nx (same_make nx nd hk) ho⟩⟩
theorem r_yes {σ : L2.St} {H : Hp} {QT : Bool → Hp → Prop} (h : QT true H) : tYes σ H QT := h
/-- the state of the spoilt lists: nothing of it stood in H0 -/
structure SpB (H0 H : Hp) (d c r aS aK : Addr) (sc : Sch) : Prop where
  ex : ∃ ts aP aV aM, H aS = some (.lst (ts.map V.ref)) ∧ All2 (fun t s => H t = some (.lst (srtV s))) ts sc.ss ∧ H aK = some (.lst [.ref aP, .ref aV, .ref aM]) ∧ H aP = some (.lst (sc.ps.map V.str)) ∧ H aV = some (.lst (sc.vs.map V.str)) ∧ H aM = some (.lst (sc.ms.map V.str)) ∧
    ts.Nodup ∧ aP ≠ aV ∧ aP ≠ aM ∧ aV ≠ aM ∧ (∀ t ∈ ts, H0 t = none) ∧ H0 aP = none ∧ H0 aV = none ∧ H0 aM = none
  drw : Drw H d c r
  keep : Ext d r H0 H
theorem SpB.at_ {H0 H : Hp} {d c r aS aK : Addr} {sc : Sch} (h : SpB H0 H d c r aS aK sc) : SpAt H aS aK sc := by
  obtain ⟨ts, aP, aV, aM, h1, h2, h3, h4, h5, h6, _⟩ := h.ex
  exact ⟨ts, aP, aV, aM, h1, h2, h3, h4, h5, h6⟩
theorem SpB.same {H0 H H' : Hp} {d c r aS aK : Addr} {sc : Sch} (h : SpB H0 H d c r aS aK sc) (s : Same H H') : SpB H0 H' d c r aS aK sc := by
  obtain ⟨⟨ts, aP, aV, aM, h1, h2, h3, h4, h5, h6, h7⟩, D, E⟩ := h
  exact ⟨⟨ts, aP, aV, aM, s _ _ h1, h2.imp fun _ _ z => s _ _ z, s _ _ h3, s _ _ h4, s _ _ h5, s _ _ h6, h7⟩, D.same s, E.trans (Ext.of s)⟩
/-- no list of refs, of texts, of a sort is one of the draws' own -/
theorem refs_drc {H : Hp} {d c r a : Addr} {ts : List Addr} (D : Drw H d c r) (h : H a = some (.lst (ts.map V.ref))) : a ≠ d ∧ a ≠ r ∧ a ≠ c := by
  obtain ⟨_, _, _, ns, rs, t, h1, h2, h3, hl, hp, _⟩ := D
  have key : ∀ {b : Addr} {ms : List Int}, H b = some (.lst (ms.map V.int)) → 0 < ms.length → a ≠ b := fun {b ms} hb hm => ne_of h hb fun z => by
    have z := HO.lst.inj z
    cases ms with
    | nil => exact absurd hm (Nat.lt_irrefl 0)
    | cons x ms =>
      cases ts with
      | nil => cases z
      | cons y ts => cases z
  refine ⟨ne_of h h1 fun z => ?_, key h3 (by omega), key h2 hp⟩
  have z := HO.lst.inj z
  rcases ts with _ | ⟨x, _ | ⟨y, _ | ⟨w, ts⟩⟩⟩ <;> cases z
theorem strs_drc {H : Hp} {d c r a : Addr} {ws : List Str} (D : Drw H d c r) (h : H a = some (.lst (ws.map V.str))) : a ≠ d ∧ a ≠ r ∧ a ≠ c := by
  have z := strs_dr D h
  obtain ⟨_, _, _, ns, rs, t, h1, h2, h3, hl, hp, _⟩ := D
  refine ⟨z.1, z.2, ne_of h h2 fun z => ?_⟩
  have z := HO.lst.inj z
  cases ns with
  | nil => exact absurd hp (Nat.lt_irrefl 0)
  | cons x ms =>
    cases ws with
    | nil => cases z
    | cons y ts => cases z
theorem srt_drc {H : Hp} {d c r a : Addr} {s : Srt} (D : Drw H d c r) (h : H a = some (.lst (srtV s))) : a ≠ d ∧ a ≠ r ∧ a ≠ c := by
  obtain ⟨_, _, _, ns, rs, t, h1, h2, h3, hl, hp, _⟩ := D
  have key : ∀ {b : Addr} {ms : List Int}, H b = some (.lst (ms.map V.int)) → 0 < ms.length → a ≠ b := fun {b ms} hb hm => ne_of h hb fun z => by
    have z := HO.lst.inj z
    cases ms with
    | nil => exact absurd hm (Nat.lt_irrefl 0)
    | cons x ms => cases z
  exact ⟨ne_of h h1 (fun z => nomatch z), key h3 (by omega), key h2 hp⟩
theorem SpB.ext {H0 H H' : Hp} {d c r aS aK : Addr} {sc : Sch} (h : SpB H0 H d c r aS aK sc) (e : Ext d r H H') (D' : Drw H' d c r) : SpB H0 H' d c r aS aK sc := by
  obtain ⟨⟨ts, aP, aV, aM, h1, h2, h3, h4, h5, h6, h7⟩, D, E⟩ := h
  have k3 : H aK = some (.lst ([aP, aV, aM].map V.ref)) := h3
  exact ⟨⟨ts, aP, aV, aM, e _ _ h1 (refs_drc D h1).1 (refs_drc D h1).2.1, h2.imp fun _ _ z => e _ _ z (srt_drc D z).1 (srt_drc D z).2.1, e _ _ h3 (refs_drc D k3).1 (refs_drc D k3).2.1, e _ _ h4 (strs_drc D h4).1 (strs_drc D h4).2.1, e _ _ h5 (strs_drc D h5).1 (strs_drc D h5).2.1, e _ _ h6 (strs_drc D h6).1 (strs_drc D h6).2.1, h7⟩, D', E.trans e⟩
theorem All2.set {α β : Type} {P : α → β → Prop} {as : List α} {bs : List β} {j : Nat} {a : α} {b : β} (h : All2 P as bs) (ha : as[j]? = some a) (p : P a b) : All2 P as (bs.set j b) := by
  refine ⟨by rw [List.length_set]; exact h.len, fun i x y h1 h2 => ?_⟩
  by_cases c : j = i
  · subst c
    rw [ha] at h1
    cases h1
    have hj : j < bs.length := by rw [← h.len]; exact (List.getElem?_eq_some_iff.mp ha).1
    rw [List.getElem?_set_self hj] at h2
    cases h2
    exact p
  · rw [List.getElem?_set_ne c] at h2
    exact h.at_ i x y h1 h2
theorem srt_ne_strs (s : Srt) (ws : List Str) : ¬ srtV s = ws.map V.str := by
  intro z
  have z3 := congrArg (fun l : List V => l[3]?) z
  have e : (srtV s)[3]? = some (.bl s.ds) := rfl
  have e2 : (ws.map V.str)[3]? = ws[3]?.map V.str := List.getElem?_map
  have z4 : some (V.bl s.ds) = ws[3]?.map V.str := e.symm.trans (z3.trans e2)
  cases h : ws[3]? with
  | none => rw [h] at z4; cases z4
  | some x => rw [h] at z4; cases z4
/-- one sort's list is written anew -/
theorem SpB.setS {H0 H : Hp} {d c r aS aK : Addr} {sc : Sch} (h : SpB H0 H d c r aS aK sc) {k : Int} (k0 : 0 ≤ k) (k1 : k < sc.ss.length) : ∃ (ts : List Addr) (t : Addr) (s : Srt), H aS = some (.lst (ts.map V.ref)) ∧ atI (ts.map V.ref) k = some (.ref t) ∧ sc.ss[k.toNat]? = some s ∧ H t = some (.lst (srtV s)) ∧
    ∀ s' : Srt, SpB H0 (upd H t (.lst (srtV s'))) d c r aS aK ⟨sc.ss.set k.toNat s', sc.ps, sc.vs, sc.ms⟩ := by
  obtain ⟨⟨ts, aP, aV, aM, h1, h2, h3, h4, h5, h6, nd, n1, n2, n3, f1, f2, f3, f4⟩, D, E⟩ := h
  obtain ⟨t, ht, hat⟩ := at_refs k0 (by rw [h2.len]; exact k1)
  obtain ⟨s, hs, hts⟩ := h2.get ht
  have key : ∀ {b : Addr} {ws : List Str}, H b = some (.lst (ws.map V.str)) → b ≠ t := fun {b ws} hb => ne_of hb hts fun z => by
    exact srt_ne_strs s ws (HO.lst.inj z).symm
  have keyr : ∀ {b : Addr} {as : List Addr}, H b = some (.lst (as.map V.ref)) → b ≠ t := fun {b as} hb => ne_of hb hts fun z => by
    have z := HO.lst.inj z
    cases as with
    | nil => cases z
    | cons x as => cases z
  have k3 : H aK = some (.lst ([aP, aV, aM].map V.ref)) := h3
  refine ⟨ts, t, s, h1, hat, hs, hts, fun s' => ⟨⟨ts, aP, aV, aM, (upd_ne (keyr h1)).trans h1, ?_, (upd_ne (keyr k3)).trans h3, (upd_ne (key h4)).trans h4, (upd_ne (key h5)).trans h5, (upd_ne (key h6)).trans h6, nd, n1, n2, n3, f1, f2, f3, f4⟩, D.put (srt_drc D hts).1 (srt_drc D hts).2.1 (srt_drc D hts).2.2, fun b o e m1 m2 => (upd_ne (ne_of_none e (f1 t (List.mem_of_getElem? ht)))).trans (E b o e m1 m2)⟩⟩
  refine ⟨by rw [List.length_set]; exact h2.len, fun i x y e1 e2 => ?_⟩
  by_cases cc : k.toNat = i
  · subst cc
    rw [ht] at e1
    cases e1
    have hj : k.toNat < sc.ss.length := by omega
    rw [List.getElem?_set_self hj] at e2
    cases e2
    exact upd_same
  · rw [List.getElem?_set_ne cc] at e2
    have hx := h2.at_ i x y e1 e2
    have hne : x ≠ t := fun z => by
      subst z
      have hi := (List.getElem?_eq_some_iff.mp e1)
      have hk := (List.getElem?_eq_some_iff.mp ht)
      exact cc ((List.getElem_inj (h₀ := hk.1) (h₁ := hi.1) nd).mp (hk.2.trans hi.2.symm))
    exact (upd_ne hne).trans hx
def kindOf (sc : Sch) : Nat → List Str
  | 0 => sc.ps
  | 1 => sc.vs
  | _ => sc.ms
def setKind (sc : Sch) (ws : List Str) : Nat → Sch
  | 0 => ⟨sc.ss, ws, sc.vs, sc.ms⟩
  | 1 => ⟨sc.ss, sc.ps, ws, sc.ms⟩
  | _ => ⟨sc.ss, sc.ps, sc.vs, ws⟩
theorem SpB.setK {H0 H : Hp} {d c r aS aK : Addr} {sc : Sch} (h : SpB H0 H d c r aS aK sc) (l0 : 0 < sc.ss.length) {k : Int} (k0 : 0 ≤ k) (k1 : k < 3) : ∃ (as : List V) (a : Addr), H aK = some (.lst as) ∧ atI as k = some (.ref a) ∧ H a = some (.lst ((kindOf sc k.toNat).map V.str)) ∧
    ∀ ws : List Str, SpB H0 (upd H a (.lst (ws.map V.str))) d c r aS aK (setKind sc ws k.toNat) := by
  obtain ⟨⟨ts, aP, aV, aM, h1, h2, h3, h4, h5, h6, nd, n1, n2, n3, f1, f2, f3, f4⟩, D, E⟩ := h
  have k3 : H aK = some (.lst ([aP, aV, aM].map V.ref)) := h3
  have key : ∀ {a : Addr} {xs : List Str}, H a = some (.lst (xs.map V.str)) → (∀ {t : Addr} {s : Srt}, H t = some (.lst (srtV s)) → t ≠ a) := fun {a xs} hb {t s} hts => ne_of hts hb fun z => by
    exact srt_ne_strs s xs (HO.lst.inj z)
  have k1' : ts.length = sc.ss.length := h2.len
  have keyr : ∀ {a : Addr} {xs : List Str} {b : Addr} {as : List Addr}, H a = some (.lst (xs.map V.str)) → H b = some (.lst (as.map V.ref)) → 0 < as.length → b ≠ a := fun {a xs b as} hb hr hl => ne_of hr hb fun z => by
    have z := HO.lst.inj z
    cases as with
    | nil => exact absurd hl (Nat.lt_irrefl 0)
    | cons x as =>
      cases xs with
      | nil => cases z
      | cons y xs => cases z
  have k3' : 0 < [aP, aV, aM].length := Nat.le_of_ble_eq_true rfl
  have hA : ∀ {a : Addr} {xs : List Str} {o : HO}, H a = some (.lst (xs.map V.str)) → All2 (fun t s => (upd H a o) t = some (.lst (srtV s))) ts sc.ss := fun {a xs o} ha => h2.imp fun t s z => (upd_ne (key ha z)).trans z
  have aSne : ∀ {a : Addr} {xs : List Str}, H a = some (.lst (xs.map V.str)) → aS ≠ a := fun {a xs} ha => keyr ha h1 (by rw [k1']; exact l0)
  have aKne : ∀ {a : Addr} {xs : List Str}, H a = some (.lst (xs.map V.str)) → aK ≠ a := fun {a xs} ha => keyr ha k3 k3'
  have Dp : ∀ {a : Addr} {xs : List Str} {o : HO}, H a = some (.lst (xs.map V.str)) → Drw (upd H a o) d c r := fun {a xs o} ha => D.put (strs_drc D ha).1 (strs_drc D ha).2.1 (strs_drc D ha).2.2
  have Ep : ∀ {a : Addr} {o : HO}, H0 a = none → Ext d r H0 (upd H a o) := fun {a o} ha b o' e m1 m2 => (upd_ne (ne_of_none e ha)).trans (E b o' e m1 m2)
  obtain rfl | rfl | rfl : k = 0 ∨ k = 1 ∨ k = 2 := by omega
  · exact ⟨_, aP, h3, rfl, h4, fun ws => ⟨⟨ts, aP, aV, aM, (upd_ne (aSne h4)).trans h1, hA h4, (upd_ne (aKne h4)).trans h3, upd_same, (upd_ne n1.symm).trans h5, (upd_ne n2.symm).trans h6, nd, n1, n2, n3, f1, f2, f3, f4⟩, Dp h4, Ep f2⟩⟩
  · exact ⟨_, aV, h3, rfl, h5, fun ws => ⟨⟨ts, aP, aV, aM, (upd_ne (aSne h5)).trans h1, hA h5, (upd_ne (aKne h5)).trans h3, (upd_ne n1).trans h4, upd_same, (upd_ne n3.symm).trans h6, nd, n1, n2, n3, f1, f2, f3, f4⟩, Dp h5, Ep f3⟩⟩
  · exact ⟨_, aM, h3, rfl, h6, fun ws => ⟨⟨ts, aP, aV, aM, (upd_ne (aSne h6)).trans h1, hA h6, (upd_ne (aKne h6)).trans h3, (upd_ne n2).trans h4, (upd_ne n3).trans h5, upd_same, nd, n1, n2, n3, f1, f2, f3, f4⟩, Dp h6, Ep f4⟩⟩

theorem SpB.more {H0 H H' : Hp} {d c r aS aK l : Addr} {sc : Sch} {o : HO} (h : SpB H0 H d c r aS aK sc) (n : H l = none) (s : Same H H') (hl : H' l = some o) : SpB (upd H0 l o) H' d c r aS aK sc := by
  obtain ⟨⟨ts, aP, aV, aM, h1, h2, h3, h4, h5, h6, nd, n1, n2, n3, f1, f2, f3, f4⟩, D, E⟩ := h.same s
  obtain ⟨⟨ts0, aP0, aV0, aM0, g1, g2, g3, g4, g5, g6, _⟩, _, _⟩ := h
  have e1 : ts0 = ts := by
    have z := (s _ _ g1).symm.trans h1
    injection z with z
    have z := HO.lst.inj z
    exact List.map_inj_right (fun a b e => V.ref.inj e) |>.mp z
  have e3 := (s _ _ g3).symm.trans h3
  cases e3
  subst e1
  refine ⟨⟨ts0, aP, aV, aM, h1, h2, h3, h4, h5, h6, nd, n1, n2, n3, fun t ht => ?_, ?_, ?_, ?_⟩, D, fun b x e m1 m2 => ?_⟩
  · obtain ⟨j, hj⟩ := List.getElem?_of_mem ht
    obtain ⟨b, _, hb⟩ := g2.get hj
    rw [upd_ne (ne_of_none hb n)]
    exact f1 t ht
  · rw [upd_ne (ne_of_none g4 n)]; exact f2
  · rw [upd_ne (ne_of_none g5 n)]; exact f3
  · rw [upd_ne (ne_of_none g6 n)]; exact f4
  · by_cases q : b = l
    · subst q
      rw [upd_same] at e
      cases e
      exact hl
    · rw [upd_ne q] at e
      exact E b x e m1 m2
theorem SpB.less {H0 H : Hp} {d c r aS aK l : Addr} {sc : Sch} {o : HO} (h : SpB (upd H0 l o) H d c r aS aK sc) (n : H0 l = none) : SpB H0 H d c r aS aK sc := by
  obtain ⟨⟨ts, aP, aV, aM, h1, h2, h3, h4, h5, h6, nd, n1, n2, n3, f1, f2, f3, f4⟩, D, E⟩ := h
  have key : ∀ t, (upd H0 l o) t = none → H0 t = none := fun t z => by
    by_cases q : t = l
    · subst q; rw [upd_same] at z; cases z
    · rw [upd_ne q] at z; exact z
  exact ⟨⟨ts, aP, aV, aM, h1, h2, h3, h4, h5, h6, nd, n1, n2, n3, fun t ht => key t (f1 t ht), key _ f2, key _ f3, key _ f4⟩, D, fun b x e m1 m2 => E b x ((upd_ne (ne_of_none e n)).trans e) m1 m2⟩
theorem SpB.kdr {H0 H : Hp} {d c r aS aK : Addr} {sc : Sch} (h : SpB H0 H d c r aS aK sc) : aK ≠ d ∧ aK ≠ r := by
  obtain ⟨ts, aP, aV, aM, h1, h2, h3, _⟩ := h.ex
  have k3 : H aK = some (.lst ([aP, aV, aM].map V.ref)) := h3
  exact ⟨(refs_drc h.drw k3).1, (refs_drc h.drw k3).2.1⟩
theorem wd_setS {sc : Sch} {n m j : Nat} {s' : Srt} (h : sc.wd n) (hm : n ≤ m) (h1 : Wn m s'.nm) (h2 : Wn m s'.ky) (h3 : ∀ z, s'.pt = some z → Wn m z) : (⟨sc.ss.set j s', sc.ps, sc.vs, sc.ms⟩ : Sch).wd m := by
  have w := (h.up hm).w
  refine ⟨fun z hz => ?_, fun x hx z hz => ?_, by rw [List.length_set]; exact h.l0, by rw [List.length_set]; exact h.l1, h.l2, h.l3, h.l4⟩
  · rcases List.mem_append.mp hz with y | y
    · obtain ⟨x, hx, rfl⟩ := List.mem_map.mp y
      rcases List.mem_or_eq_of_mem_set hx with e | e
      · exact w _ (List.mem_append.mpr (.inl (List.mem_map.mpr ⟨x, e, rfl⟩)))
      · rw [e]; exact h1
    · rcases List.mem_append.mp y with y | y
      · exact w _ (List.mem_append.mpr (.inr (List.mem_append.mpr (.inl y))))
      · rcases List.mem_append.mp y with y | y
        · obtain ⟨x, hx, rfl⟩ := List.mem_map.mp y
          rcases List.mem_or_eq_of_mem_set hx with e | e
          · exact w _ (List.mem_append.mpr (.inr (List.mem_append.mpr (.inr (List.mem_append.mpr (.inl (List.mem_map.mpr ⟨x, e, rfl⟩)))))))
          · rw [e]; exact h2
        · exact w _ (List.mem_append.mpr (.inr (List.mem_append.mpr (.inr (List.mem_append.mpr (.inr y))))))
  · rcases List.mem_or_eq_of_mem_set hx with e | e
    · exact (h.up hm).p x e z hz
    · rw [e] at hz; exact h3 z hz
theorem wd_setK {sc : Sch} {n m k : Nat} {ws : List Str} (h : sc.wd n) (hm : n ≤ m) (hl : ws.length = (kindOf sc k).length) (hw : ∀ z ∈ ws, Wn m z) : (setKind sc ws k).wd m := by
  have w := (h.up hm).w
  have p := (h.up hm).p
  have names : ∀ z ∈ sc.names, Wn m z := fun z hz => w z (List.mem_append.mpr (.inl hz))
  have cps : ∀ z ∈ sc.ps, Wn m z := fun z hz => w z (List.mem_append.mpr (.inr (List.mem_append.mpr (.inl hz))))
  have cks : ∀ z ∈ sc.ss.map Srt.ky, Wn m z := fun z hz => w z (List.mem_append.mpr (.inr (List.mem_append.mpr (.inr (List.mem_append.mpr (.inl hz))))))
  have cvs : ∀ z ∈ sc.vs, Wn m z := fun z hz => w z (List.mem_append.mpr (.inr (List.mem_append.mpr (.inr (List.mem_append.mpr (.inr (List.mem_append.mpr (.inl hz))))))))
  have cms : ∀ z ∈ sc.ms, Wn m z := fun z hz => w z (List.mem_append.mpr (.inr (List.mem_append.mpr (.inr (List.mem_append.mpr (.inr (List.mem_append.mpr (.inr hz))))))))
  have mk : ∀ (ps vs ms : List Str), (∀ z ∈ ps, Wn m z) → (∀ z ∈ vs, Wn m z) → (∀ z ∈ ms, Wn m z) → ps.length ≤ 2 → vs.length ≤ 3 → ms.length ≤ 3 → (⟨sc.ss, ps, vs, ms⟩ : Sch).wd m := fun ps vs ms a b c l2 l3 l4 => ⟨fun z hz => by
    rcases List.mem_append.mp hz with y | y
    · exact names z y
    · rcases List.mem_append.mp y with y | y
      · exact a z y
      · rcases List.mem_append.mp y with y | y
        · exact cks z y
        · rcases List.mem_append.mp y with y | y
          · exact b z y
          · exact c z y, p, h.l0, h.l1, l2, l3, l4⟩
  match k, hl with
  | 0, hl => exact mk _ _ _ hw cvs cms (by rw [hl]; exact h.l2) h.l3 h.l4
  | 1, hl => exact mk _ _ _ cps hw cms h.l2 (by rw [hl]; exact h.l3) h.l4
  | k + 2, hl => exact mk _ _ _ cps cvs hw h.l2 h.l3 (by rw [hl]; exact h.l4)
theorem kind_wn {sc : Sch} {n k : Nat} (h : sc.wd n) : ∀ z ∈ kindOf sc k, Wn n z := by
  have w := h.w
  match k with
  | 0 => exact fun z hz => w z (List.mem_append.mpr (.inr (List.mem_append.mpr (.inl hz))))
  | 1 => exact fun z hz => w z (List.mem_append.mpr (.inr (List.mem_append.mpr (.inr (List.mem_append.mpr (.inr (List.mem_append.mpr (.inl hz))))))))
  | k + 2 => exact fun z hz => w z (List.mem_append.mpr (.inr (List.mem_append.mpr (.inr (List.mem_append.mpr (.inr (List.mem_append.mpr (.inr hz))))))))
theorem kind_len {sc : Sch} {n k : Nat} (h : sc.wd n) : (kindOf sc k).length ≤ 3 := by
  match k with
  | 0 => exact Nat.le_trans h.l2 (by decide)
  | 1 => exact h.l3
  | k + 2 => exact h.l4
theorem setKind_ss {sc : Sch} {ws : List Str} {k : Nat} : (setKind sc ws k).ss = sc.ss := by
  match k with
  | 0 => rfl
  | 1 => rfl
  | k + 2 => rfl
def spSpoil : Sp := fun vs H Q _ => ∃ (H0 : Hp) (d c r aS aK : Addr) (sc : Sch) (n : Nat), vs = [.ref d, .ref aS, .ref aK] ∧ SpB H0 H d c r aS aK sc ∧ sc.wd n ∧ 9 ≤ n ∧ n ≤ 90 ∧ ∀ (sc' : Sch) (H' : Hp), SpB H0 H' d c r aS aK sc' → sc'.wd (n + 4) → Q .non H'
theorem qq_Wn : ∀ z ∈ (["qq", "rows", ""] : List Str), (∀ c ∈ z.cps.toList, c < 128) ∧ z.length ≤ 9 := by decide +kernel

theorem lc_lsts {σ : L2.St} {H : Hp} {Q : VK} {te : TE} {K : PySem.W.Frag} {a : Addr} {xs : List V} {n : Nat} (f : V → List V) (hS : SqL K H a xs) (hz : xs.length ≤ 1000)
    (he : ∀ (x : V) (H' : Hp) (QQ : VK), x ∈ xs → Same H H' → (∀ u, H' u = none → QQ (.ref u) (upd H' u (.lst (f x)))) → te ((wipe σ [n]).set n (some x)) H' QQ)
    (hq : ∀ D (us : List Addr) H', H D = none → us.length = xs.length → us.Nodup → (∀ u ∈ us, H u = none ∧ u ≠ D) → H' D = some (.lst (us.map V.ref)) → (∀ (j : Nat) (u : Addr) (x : V), us[j]? = some u → xs[j]? = some x → H' u = some (.lst (f x))) → Same H H' → Q (.ref D) H') : lcGo (Itl K a) (gName n) tYes te [n] σ Q H := by
  intro D nD
  refine lc_list (K := K) (a := a) (xs := xs) (fun i H' => ∃ us : List Addr, us.length = i ∧ us.Nodup ∧ (∀ u ∈ us, H u = none ∧ u ≠ D) ∧ H' D = some (.lst (us.map V.ref)) ∧ (∀ (j : Nat) (u : Addr) (x : V), us[j]? = some u → xs[j]? = some x → H' u = some (.lst (f x))) ∧ Same H H') ⟨[], rfl, List.nodup_nil, fun u h => (by cases h), upd_same, fun j u x h => (by cases h), same_new nD⟩ (fun i H' _ ⟨_, _, _, _, _, _, s⟩ => s.seq hS) ?_ ?_
  · rintro i x H4 hx ⟨us, hl, hnd, hf, hD4, hu, s4⟩
    refine ⟨wipe1, ?_⟩
    show te _ _ _
    refine he x H4 _ (List.mem_of_getElem? hx) s4 fun u nu => ?_
    have uD : D ≠ u := ne_of_none hD4 nu
    have hD5 : (upd H4 u (.lst (f x))) D = some (.lst (us.map V.ref)) := (upd_ne uD).trans hD4
    have hi : i < xs.length := (List.getElem?_eq_some_iff.mp hx).1
    have nin : u ∉ us := fun hm => by
      obtain ⟨j, hj⟩ := List.getElem?_of_mem hm
      have hj' : j < us.length := (List.getElem?_eq_some_iff.mp hj).1
      have z := hu j u _ hj (List.getElem?_eq_getElem (show j < xs.length by omega))
      rw [nu] at z
      cases z
    refine ⟨_, hD5, small1000 (by rw [List.length_map, hl]; omega), us ++ [u], by rw [List.length_append, hl]; rfl, ?_, ?_, by rw [upd_same, List.map_append]; rfl, fun j v y h1 h2 => ?_, fun b o e => (upd_ne (ne_of_none e nD)).trans ((upd_ne (ne_of_none (s4 _ _ e) nu)).trans (s4 _ _ e))⟩
    · rw [List.nodup_append]
      exact ⟨hnd, (List.nodup_cons.mpr ⟨List.not_mem_nil, List.nodup_nil⟩), fun b hb c hc e => nin (by rw [← List.mem_singleton.mp hc, ← e]; exact hb)⟩
    · intro v hv
      rcases List.mem_append.mp hv with z | z
      · exact hf v z
      · rw [List.mem_singleton.mp z]
        exact ⟨s4.free nu, uD.symm⟩
    rcases Nat.lt_or_ge j us.length with hj | hj
    · rw [List.getElem?_append_left hj] at h1
      have z := hu j v y h1 h2
      have vm := List.mem_of_getElem? h1
      rw [upd_ne (hf v vm).2, upd_ne (ne_of_none z nu)]
      exact z
    · rw [List.getElem?_append_right hj] at h1
      cases hk : j - us.length with
      | zero =>
        rw [hk] at h1
        cases h1
        have : j = i := by omega
        rw [this, hx] at h2
        cases h2
        rw [upd_ne uD.symm]
        exact upd_same
      | succ m => rw [hk] at h1; cases h1
  · rintro H4 ⟨us, hl, hnd, hf, hD4, hu, s4⟩
    exact hq D us H4 nD hl hnd hf hD4 hu s4
/-- the items of the list or tuple at an address -/
def itemsOf (H : Hp) : V → List V
  | .ref u => match H u with
    | some (.lst xs) => xs
    | some (.tup xs) => xs
    | _ => []
  | _ => []
theorem items_tup {H : Hp} {u : Addr} {xs : List V} (h : H u = some (.tup xs)) : itemsOf H (.ref u) = xs := by simp only [itemsOf, h]
theorem items_lst {H : Hp} {u : Addr} {xs : List V} (h : H u = some (.lst xs)) : itemsOf H (.ref u) = xs := by simp only [itemsOf, h]
theorem MadeAt.same {H H' : Hp} {t : Addr} {sc : Sch} (h : MadeAt H t sc) (s : Same H H') : MadeAt H' t sc := by
  unfold MadeAt at *
  split at h
  · exact s _ _ h
  · obtain ⟨l, h1, h2⟩ := h
    exact ⟨l, s _ _ h1, s _ _ h2⟩
theorem dbl_mem : ∀ {seen ws : List Str} {w : Str}, dblFrom seen ws = some w → w ∈ ws
  | _, [], _, h => by cases h
  | seen, x :: r, w, h => by
    rw [dbl_cons] at h
    split at h
    · cases h; exact List.mem_cons_self
    · exact List.mem_cons_of_mem _ (dbl_mem h)
theorem bad_Wn {sc : Sch} {n : Nat} {w : Str} (h : sc.wd n) (e : sc.bad = some w) : Wn n w := by
  unfold Sch.bad at e
  cases e1 : badWord (sc.names ++ sc.cols) with
  | some z =>
    rw [e1] at e
    cases e
    exact h.w _ (List.mem_of_find?_eq_some e1)
  | none =>
    rw [e1] at e
    cases e2 : dblFrom [] sc.names with
    | some z =>
      rw [e2] at e
      cases e
      exact h.w _ (List.mem_append.mpr (.inl (dbl_mem e2)))
    | none =>
      rw [e2] at e
      cases e3 : dblFrom [] sc.cols with
      | some z =>
        rw [e3] at e
        cases e
        exact h.w _ (List.mem_append.mpr (.inr (dbl_mem e3)))
      | none =>
        rw [e3] at e
        have e : badPart sc.ps sc.ss = some w := e
        unfold badPart at e
        obtain ⟨x, hx, hp⟩ := Option.bind_eq_some_iff.mp e
        exact h.p x (List.mem_of_find?_eq_some hx) w hp
def madeD (ws : List Str) : PyData := .tuple [.str "made", .list ((ws.map V.str).map vD)]
theorem lay_made {ws : List Str} (h : ∀ w ∈ ws, PyData.strOk w = true) : (madeD ws).canLay0 = true := by
  show (PyData.strOk "made" && (PyData.canLayAll0 ((ws.map V.str).map vD) && true)) = true
  rw [lay_vD fun v hv => (by obtain ⟨w, hw, rfl⟩ := List.mem_map.mp hv; exact h w hw), show PyData.strOk ("made" : Str) = true by decide +kernel]
  rfl
theorem shaped_made {ws : List Str} (h : ∀ w ∈ ws, PyData.strOk w = true) : SeqAt.shaped (madeD ws) = true := by
  unfold SeqAt.shaped
  rw [lay_made h]
  show decide (max 0 (max (PyData.depthAll ((ws.map V.str).map vD) + 1) 0) + 1 ≤ 64) = true
  rw [depth_vD]
  rfl
theorem r_neM {K : PySem.W.Frag} {H : Hp} {Q : VK} {t t' : Addr} {sc : Sch} {n : Nat} (hw : sc.wd n) (h1 : MadeAt H t sc) (h2 : MadeAt H t' sc) (q : Q (.bl false) H) : rNeD K (.ref t) (.ref t') H Q := by
  unfold MadeAt at h1 h2
  cases e : sc.bad with
  | some w =>
    rw [e] at h1 h2
    have hs := (bad_Wn hw e).sok
    have ok : ∀ v ∈ [V.str "bad", .str w, .bl true], eqD v := fun v hv => by
      simp only [List.mem_cons, List.mem_nil_iff, or_false] at hv
      rcases hv with rfl | rfl | rfl
      · exact show PyData.strOk ("bad" : Str) = true by decide +kernel
      · exact hs
      · trivial
    refine ⟨tupD [.str "bad", .str w, .bl true], tupD [.str "bad", .str w, .bl true], .tup (SqT.of h1) (dpAll_vD ok), .tup (SqT.of h2) (dpAll_vD ok), shaped_tup ok, shaped_tup ok, ?_⟩
    rw [SeqAt.eqv_refl _ (show (tupD _).canLay0 = true from lay_vD ok)]
    exact q
  | none =>
    rw [e] at h1 h2
    obtain ⟨l, h1, hl⟩ := h1
    obtain ⟨l', h2, hl'⟩ := h2
    have hs : ∀ w ∈ sc.cols, PyData.strOk w = true := fun w z => (hw.w w (List.mem_append.mpr (.inr z))).sok
    have ok : ∀ v ∈ sc.cols.map V.str, eqD v := fun v hv => by obtain ⟨w, hw, rfl⟩ := List.mem_map.mp hv; exact hs w hw
    refine ⟨madeD sc.cols, madeD sc.cols, .tup (SqT.of h1) (.cons (.str _) (.cons (.lst (SqL.of hl) (dpAll_vD ok)) .nil)), .tup (SqT.of h2) (.cons (.str _) (.cons (.lst (SqL.of hl') (dpAll_vD ok)) .nil)), shaped_made hs, shaped_made hs, ?_⟩
    rw [SeqAt.eqv_refl _ (lay_made hs)]
    exact q
theorem three_of {α : Type} {us : List α} (h : us.length = 3) : ∃ a b c, us = [a, b, c] := by
  match us, h with
  | [a, b, c], _ => exact ⟨a, b, c, rfl⟩
theorem cut1_3 {a b c d : V} : cutV [a, b, c, d] (some 1) none = [b, c, d] := rfl
def spLaw (K : PySem.W.Frag) : Sp := fun vs H Q _ => ∃ (a : Addr) (ns : List Int), vs = [.ref a] ∧ SqL K H a (ns.map V.int) ∧ ns.length ≤ 63 ∧ ∀ H', Q (.bl true) H'

instance decSrt : DecidableEq Srt := fun a b => if h : a.nm = b.nm ∧ a.ky = b.ky ∧ a.pt = b.pt ∧ a.ds = b.ds then isTrue (by cases a; cases b; obtain ⟨h1, h2, h3, h4⟩ := h; cases h1; cases h2; cases h3; cases h4; rfl) else isFalse fun e => h (by rw [e]; exact ⟨rfl, rfl, rfl, rfl⟩)
instance decSch : DecidableEq Sch := fun a b => if h : a.ss = b.ss ∧ a.ps = b.ps ∧ a.vs = b.vs ∧ a.ms = b.ms then isTrue (by cases a; cases b; obtain ⟨h1, h2, h3, h4⟩ := h; cases h1; cases h2; cases h3; cases h4; rfl) else isFalse fun e => h (by rw [e]; exact ⟨rfl, rfl, rfl, rfl⟩)
theorem eqPt (a b : Option Str) : decide (partV a = partV b) = decide (a = b) := by
  rw [decide_eq_decide]
  cases a <;> cases b <;> simp [partV]
theorem scalPt (a b : Option Str) : scal (partV a) (partV b) = true := by cases a <;> cases b <;> rfl
theorem partV_inj {a b : Option Str} (h : partV a = partV b) : a = b := by
  cases a <;> cases b <;> first | rfl | (cases h; done) | (injection h with h; rw [h])
theorem srtF_inj {s t : Srt} (h : srtF s = srtF t) : s = t := by
  have h1 := (srt_name s).symm.trans ((congrArg _ h).trans (srt_name t))
  have h2 := (srt_key s).symm.trans ((congrArg _ h).trans (srt_key t))
  have h3 := (srt_part s).symm.trans ((congrArg _ h).trans (srt_part t))
  have h4 := (srt_desc s).symm.trans ((congrArg _ h).trans (srt_desc t))
  cases s
  cases t
  simp only [Option.some.injEq, V.str.injEq, V.bl.injEq] at h1 h2 h3 h4
  rw [h1, h2, partV_inj h3, h4]
theorem srt_ext {s t : Srt} (h1 : s.nm = t.nm) (h2 : s.ky = t.ky) (h3 : s.pt = t.pt) (h4 : s.ds = t.ds) : s = t := by
  cases s
  cases t
  cases h1
  cases h2
  cases h3
  cases h4
  rfl
theorem SortAt.fn {C : Addr} {H : Hp} {p : Addr} {s t : Srt} (h : SortAt C H p s) (k : SortAt C H p t) : s = t := by
  obtain ⟨dx, h⟩ := h
  obtain ⟨dy, k⟩ := k
  rw [h] at k
  injection k with k
  injection k with _ _ k
  exact srtF_inj k
open Classical in
noncomputable def eqAd (C : Addr) (H : Hp) (p q : Addr) : Bool := decide (∀ s t, SortAt C H p s → SortAt C H q t → s = t)
open Classical in
theorem eqAd_self (C : Addr) (H : Hp) (p : Addr) : eqAd C H p p = true := decide_eq_true fun _ _ h k => h.fn k
open Classical in
theorem eqAd_at {C : Addr} {H : Hp} {p q : Addr} {s t : Srt} (h : SortAt C H p s) (k : SortAt C H q t) : eqAd C H p q = decide (s = t) := by
  unfold eqAd
  rw [Bool.eq_iff_iff, decide_eq_true_eq, decide_eq_true_eq]
  exact ⟨fun z => z s t h k, fun z s' t' h' k' => (h'.fn h).trans (z.trans (k.fn k'))⟩
theorem All2.uncons {α β : Type} {P : α → β → Prop} {a : α} {b : β} {as : List α} {bs : List β} (h : All2 P (a :: as) (b :: bs)) : P a b ∧ All2 P as bs := ⟨h.at_ 0 a b rfl rfl, Nat.succ.inj h.len, fun j x y h1 h2 => h.at_ (j + 1) x y h1 h2⟩
theorem eqP_dec {C : Addr} {H : Hp} : ∀ {as bs : List Addr} {ss ts : List Srt}, All2 (SortAt C H) as ss → All2 (SortAt C H) bs ts → TC.eqP (eqAd C H) as bs = decide (ss = ts)
  | [], [], [], [], _, _ => rfl
  | [], b :: bs, [], t :: ts, _, _ => by rw [decide_eq_false fun z => nomatch z]; rfl
  | a :: as, [], s :: ss, [], _, _ => by rw [decide_eq_false fun z => nomatch z]; rfl
  | a :: as, b :: bs, s :: ss, t :: ts, h, k => by
    show (eqAd C H a b && TC.eqP (eqAd C H) as bs) = _
    rw [eqAd_at h.uncons.1 k.uncons.1, eqP_dec h.uncons.2 k.uncons.2, Bool.eq_iff_iff, Bool.and_eq_true, decide_eq_true_eq, decide_eq_true_eq, decide_eq_true_eq, List.cons.injEq]
  | [], _, _ :: _, _, h, _ => by cases h.len
  | _ :: _, _, [], _, h, _ => by cases h.len
  | _, [], _, _ :: _, _, k => by cases k.len
  | _, _ :: _, _, [], _, k => by cases k.len
def spSortEq (K : PySem.W.Frag) (C : Addr) : Sp := fun vs H Q _ => ∃ (p : Addr) (s : Srt) (v : V), vs = [.ref p, v] ∧ SortAt C H p s ∧
  ((∃ (q : Addr) (s' : Srt), v = .ref q ∧ SortAt C H q s' ∧ Q (.bl (decide (s = s'))) H) ∨ (∃ t, TyX K H v t ∧ PySem.W.kitOne K t (.ref C) = some false ∧ Q (.bl false) H))
def spSchEq (K : PySem.W.Frag) (CC CS : Addr) : Sp := fun vs H Q _ => ∃ (p : Addr) (s : Sch) (v : V), vs = [.ref p, v] ∧ SchAt K CC CS H p s ∧ s.good ∧
  ((∃ (q : Addr) (s' : Sch), v = .ref q ∧ SchAt K CC CS H q s' ∧ s'.good ∧ Q (.bl (decide (s = s'))) H) ∨ (∃ t, TyX K H v t ∧ PySem.W.kitOne K t (.ref CC) = some false ∧ Q (.bl false) H))
def spUSInit (C : Addr) : Sp := fun vs H Q _ => ∃ (a : Addr) (z : Str), vs = [.ref a, .str z] ∧ H a = some (exo a C none) ∧
  ∀ (dx : Addr) (H' : Hp), H dx = none → H' a = some (exo a C (some dx)) → H' dx = some (exd dx [("name", .str z)]) → (∀ b o, H b = some o → b ≠ a → H' b = some o) → Q .non H'
def findS (sc : Sch) (w : Str) : Option Srt := sc.ss.find? fun s => decide (s.nm = w)
def spNamed (K : PySem.W.Frag) (CC CS CU : Addr) : Sp := fun vs H Q E => ∃ (p : Addr) (s : Sch) (w : Str), vs = [.ref p, .str w] ∧ SchAt K CC CS H p s ∧
  (findS s w = none → ∀ (d : Addr) (H' : Hp), H d = none → H' d = some (.xd [("name", .str w)]) → Same H H' → E (.ref CU) (some d) H') ∧ (∀ x, findS s w = some x → ∀ q, SortAt CS H q x → Q (.ref q) H)
def spSortL (CS : Addr) : Sp := fun vs H Q _ => ∃ (t : Addr) (s : Srt), vs = [.ref t] ∧ H t = some (.tup (srtV s)) ∧ ∀ q H', H q = none → Same H H' → SortAt CS H' q s → Q (.ref q) H'
theorem strs_eqD {ws : List Str} (h : ∀ w ∈ ws, isNameB w = true) : ∀ v ∈ ws.map V.str, eqD v := fun v hv => by
  obtain ⟨w, hw, rfl⟩ := List.mem_map.mp hv
  exact isName_sok (h w hw)
theorem strs_kind {ws zs : List Str} : ∀ p ∈ (ws.map V.str).zip (zs.map V.str), sameKind p.1 p.2 = true := fun p hp => by
  obtain ⟨h1, h2⟩ := List.of_mem_zip (show (p.1, p.2) ∈ _ from hp)
  obtain ⟨w, _, e1⟩ := List.mem_map.mp h1
  obtain ⟨z, _, e2⟩ := List.mem_map.mp h2
  rw [← e1, ← e2]
  rfl
theorem strs_inj {ws zs : List Str} : (ws.map V.str = zs.map V.str) ↔ ws = zs := List.map_inj_right fun a b e => V.str.inj e
theorem Sch.good.wps {s : Sch} (h : s.good) : ∀ w ∈ s.ps, isNameB w = true := fun w z => h.w w (List.mem_append.mpr (.inr (List.mem_append.mpr (.inl z))))
theorem Sch.good.wks {s : Sch} (h : s.good) : ∀ x ∈ s.ss, isNameB x.ky = true := fun x z => h.w _ (List.mem_append.mpr (.inr (List.mem_append.mpr (.inr (List.mem_append.mpr (.inl (List.mem_map.mpr ⟨x, z, rfl⟩)))))))
theorem Sch.good.wns {s : Sch} (h : s.good) : ∀ x ∈ s.ss, isNameB x.nm = true := fun x z => h.w _ (List.mem_append.mpr (.inl (List.mem_map.mpr ⟨x, z, rfl⟩)))
theorem Sch.good.wvs {s : Sch} (h : s.good) : ∀ w ∈ s.vs, isNameB w = true := fun w z => h.w w (List.mem_append.mpr (.inr (List.mem_append.mpr (.inr (List.mem_append.mpr (.inr (List.mem_append.mpr (.inl z))))))))
theorem Sch.good.wms {s : Sch} (h : s.good) : ∀ w ∈ s.ms, isNameB w = true := fun w z => h.w w (List.mem_append.mpr (.inr (List.mem_append.mpr (.inr (List.mem_append.mpr (.inr (List.mem_append.mpr (.inr z))))))))
theorem Sch.good.wcs {s : Sch} (h : s.good) : ∀ w ∈ s.cols, isNameB w = true := fun w z => h.w w (List.mem_append.mpr (.inr z))
theorem Sch.good.wnm {s : Sch} (h : s.good) : ∀ w ∈ s.names, isNameB w = true := fun w z => h.w w (List.mem_append.mpr (.inl z))
theorem SpecAt.same {H H' : Hp} {p : Addr} {sc : Sch} (h : SpecAt H p sc) (s : Same H H') : SpecAt H' p sc := by
  obtain ⟨aS, aP, aV, aM, ts, h0, h1, h2, h3, h4, h5⟩ := h
  exact ⟨aS, aP, aV, aM, ts, s _ _ h0, s _ _ h1, h2.imp fun _ _ z => s _ _ z, s _ _ h3, s _ _ h4, s _ _ h5⟩
theorem SpecAt.ext {H H' : Hp} {p d c r : Addr} {sc : Sch} (h : SpecAt H p sc) (D : Drw H d c r) (e : Ext d r H H') : SpecAt H' p sc := by
  obtain ⟨aS, aP, aV, aM, ts, h0, h1, h2, h3, h4, h5⟩ := h
  have h0' : H p = some (.lst ([aS, aP, aV, aM].map V.ref)) := h0
  exact ⟨aS, aP, aV, aM, ts, e _ _ h0 (refs_drc D h0').1 (refs_drc D h0').2.1, e _ _ h1 (refs_drc D h1).1 (refs_drc D h1).2.1, h2.imp fun _ _ z => e _ _ z (tup_dr D z).1 (tup_dr D z).2, e _ _ h3 (strs_dr D h3).1 (strs_dr D h3).2, e _ _ h4 (strs_dr D h4).1 (strs_dr D h4).2, e _ _ h5 (strs_dr D h5).1 (strs_dr D h5).2⟩
def spColsS : Sp := fun vs H Q _ => ∃ (p : Addr) (sc : Sch), vs = [.ref p] ∧ SpecAt H p sc ∧ sc.good ∧ ∀ l H', H l = none → Same H H' → H' l = some (.lst (sc.cols.map V.str)) → Q (.ref l) H'
/-- the item of the tuple at an address -/
def idxT (H : Hp) (j : Nat) : V → V
  | .ref u => match H u with
    | some (.tup xs) => xs.getD j .non
    | _ => .non
  | _ => .non
theorem idxT_at {H : Hp} {j : Nat} {u : Addr} {xs : List V} {v : V} (h : H u = some (.tup xs)) (e : xs[j]? = some v) : idxT H j (.ref u) = v := by
  simp only [idxT, h]
  rw [List.getD_eq_getElem?_getD, e]
  rfl
theorem make_sortD {C : Addr} {H : Hp} {F : Addr → Hp → Prop} {E : XK} {sr : Srt} (h : ∀ x H', H x = none → Same H H' → SortAt C H' x sr → F x H') :
    ∀ x dx, H x = none → H dx = none → dx ≠ x → spSortInit C [.ref x, .str sr.nm, .str sr.ky, partV sr.pt, .bl sr.ds] (upd (upd H dx (.own x)) x (.ins C dx [])) (fun v H2 => v = .non ∧ F x H2) E :=
  fun x dx nx nd _ => ⟨x, dx, sr, rfl, upd_same, fun H' ho hk => ⟨rfl, h x H' nx (same_make nx nd hk) ho⟩⟩
section
variable {P : Program} {w : World} {K : PySem.W.Frag} {mg : Str → Option Value} {base : Heap}

theorem r_sdesc {H : Hp} {p : Addr} {sr : Srt} {F : V → Prop} (T : Txt K mg) (o : SortAt T.C_Sort H p sr) (h : F (.bl sr.ds)) : ∃ a C dx fs v, V.ref p = .ref a ∧ H a = some (.ins C dx fs) ∧ Cls K C ∧ NoAttr K C "descending" ∧ fs.lookup ("descending" : Str) = some v ∧ F v := by
  obtain ⟨dx, e⟩ := o
  exact r_get e T.c_Sort T.nf_Sort_descending (srt_desc sr) h
theorem sort_ty (T : Txt K mg) {H : Hp} {p : Addr} {sr : Srt} (h : SortAt T.C_Sort H p sr) : TyX K H (.ref p) (.ref T.C_Sort) := by
  obtain ⟨dx, e⟩ := h
  exact .base (.ins e T.c_Sort T.ca_Sort T.cn_Sort T.ct_Sort T.cm_Sort)
theorem sch_ty (T : Txt K mg) {H : Hp} {p : Addr} {sc : Sch} (h : SchAt K T.C_Scheme T.C_Sort H p sc) : TyX K H (.ref p) (.ref T.C_Scheme) := by
  obtain ⟨dx, tS, tP, tV, tM, as, e, _⟩ := h
  exact .base (.ins e T.c_Scheme T.ca_Scheme T.cn_Scheme T.ct_Scheme T.cm_Scheme)
theorem ok_Sort___eq__ (T : Txt K mg) : FnOk P w K mg base CX0 1 T.f_Sort___eq__ T.d_Sort___eq__ ["self", "other"] (spSortEq K T.C_Sort) := by
  refine T.F_Sort___eq__.ok sc_Sort___eq__ (fun vs H Q E h => ?_) (fun cdv A outer s H vs Q E hr h => ?_)
  · obtain ⟨p, sr, v, rfl, _⟩ := h
    rfl
  obtain ⟨p, sr, v, rfl, o, q⟩ := h
  refine ⟨_, (pss_cons (ps_if (PW.pt (pw_or (pt_not (pt_val (pe_callB call_isi (by rfl) T.z_isinstance (by decide +kernel) (pa_cons (pv 1) (pa_cons (pe_glob (v := .ref T.C_Sort) rfl T.g_Sort rfl) pa_nil))))) (pw_or (pt_cmpR op_ne (pe_fldK (K := K) (pv 0)) (pe_fldK (K := K) (pv 1)) (nomark _)) (pw_or1 (pt_cmpR op_ne (pe_fldK (K := K) (pv 0)) (pe_fldK (K := K) (pv 1)) (nomark _)))))) (pss_one (ps_ret pe_bl)) pss_nil)
      (pss_one (ps_ret (pe_and (pe_cmpR op_eq (pe_fldK (K := K) (pv 0)) (pe_fldK (K := K) (pv 1)) (nomark _)) (pe_one (pe_cmpR op_eq (pe_fldK (K := K) (pv 0)) (pe_fldK (K := K) (pv 1)) (nomark _))))))), ?_⟩
  try simp only [nox_K, cx_K]
  rcases q with ⟨p2, sr', rfl, o2, q⟩ | ⟨t, ty, hk, q⟩
  · wtm_at "rd"
    refine r_isi (.own _) (sort_ty T o2) kit_self ?_
    wtm_at "rdi"
    refine r_sname T o ?_
    wtm_at "rd"
    refine r_sname T o2 ?_
    wtm_at "rd"
    refine r_iten (fun e1 => ?_) (fun e1 => ?_)
    · wtm_at "rdi"
      exact bl_to q (by rw [decide_eq_false fun z => e1 (congrArg Srt.nm z)])
    wtm_at "rd"
    refine r_skey T o ?_
    wtm_at "rd"
    refine r_skey T o2 ?_
    wtm_at "rd"
    refine r_iten (fun e2 => ?_) (fun e2 => ?_)
    · wtm_at "rdi"
      exact bl_to q (by rw [decide_eq_false fun z => e2 (congrArg Srt.ky z)])
    wtm_at "rd"
    refine r_spart T o ?_
    wtm_at "rd"
    refine r_spart T o2 ?_
    wtm_at "rd"
    refine ⟨scalPt _ _, ?_⟩
    rw [eqPt]
    wtm_at "rd"
    refine r_ite (fun e3 => ?_) (fun e3 => ?_)
    · wtm_at "rd"
      refine r_sdesc T o ?_
      wtm_at "rd"
      refine r_sdesc T o2 ?_
      wtm_at "rd"
      refine bl_to q ?_
      rw [Bool.eq_iff_iff, beq_iff_eq, decide_eq_true_eq]
      exact ⟨fun z => srt_ext e1 e2 e3 z, fun z => congrArg Srt.ds z⟩
    · exact bl_to q (by rw [decide_eq_false fun z => e3 (congrArg Srt.pt z)])
  · wtm_at "rd"
    refine r_isi (.own _) ty hk ?_
    wtm_at "rdi"
    exact q

theorem raise_name {C : Addr} {z : Str} {H : Hp} {Q : XK} (h : ∀ (d : Addr) (H' : Hp), H d = none → H' d = some (.xd [("name", .str z)]) → Same H H' → Q (.ref C) (some d) H') :
    ∀ a, H a = none → spUSInit C (.ref a :: ([V.str z] ++ [])) (upd H a (exo a C none)) (fun v H2 => v = .non ∧ ∃ (d : Addr) (fs : List (Str × V)), H2 a = some (exo a C (some d)) ∧ H2 d = some (exd d fs) ∧ H d = none ∧ Q (.ref C) (some d) (upd (del H2 a) d (.xd fs))) (fun _ _ _ => False) := by
  intro a na
  refine ⟨a, z, rfl, upd_same, fun dx H' nd ha hd hk => ⟨rfl, dx, _, ha, hd, (same_new na).free nd, ?_⟩⟩
  refine h dx _ ((same_new na).free nd) upd_same fun b o e => ?_
  have nb : b ≠ a := ne_of_none e na
  rw [upd_ne (ne_of_none e ((same_new na).free nd)), del_ne nb]
  exact hk b o (by rw [upd_ne nb]; exact e) nb
theorem ok_UnknownSort___init__ (T : Txt K mg) : FnOk P w K mg base CX0 1 T.f_UnknownSort___init__ T.d_UnknownSort___init__ ["self", "name"] (spUSInit T.C_UnknownSort) := by
  refine T.F_UnknownSort___init__.ok sc_UnknownSort___init__ (fun vs H Q E h => ?_) (fun cdv A outer s H vs Q E hr h => ?_)
  · obtain ⟨a, z, rfl, _⟩ := h
    rfl
  obtain ⟨a, z, rfl, ha, q⟩ := h
  refine ⟨_, (pss_one (ps_ost (pv 0) (pv 1))), ?_⟩
  try simp only [nox_K, cx_K]
  wtm_at "rd"
  refine ⟨a, _, rfl, T.ox_UnknownSort, T.nf_UnknownSort_name, .inl ⟨ha, fun dx nd ne => ?_⟩⟩
  wtm_at "rd"
  refine q dx _ nd upd_same ?_ fun b o e nb => ?_
  · rw [upd_ne ne, upd_same]
  · rw [upd_ne nb, upd_ne (ne_of_none e nd)]
    exact e
theorem ok_Scheme_sort_named (T : Txt K mg) : FnOk P w K mg base (L2.CX P w) 3 T.f_Scheme_sort_named T.d_Scheme_sort_named ["self", "name"] (spNamed K T.C_Scheme T.C_Sort T.C_UnknownSort) := by
  refine T.F_Scheme_sort_named.okX sc_Scheme_sort_named (fun vs H Q E h => ?_) (fun cdv A outer s H vs Q E hr h => ?_)
  · obtain ⟨p, sc, w, rfl, _⟩ := h
    rfl
  obtain ⟨p, sc, w, rfl, o, qE, q⟩ := h
  refine ⟨_, (pss_cons (ps_for (passes_of rfl) rfl (pi_tup (pe_fldK (K := K) (pv 0))) (pg_name (i := 2) sc_Scheme_sort_named.nd rfl (by first | exact Or.inl rfl | exact Or.inr rfl)) (pss_one (ps_if (pt_cmpR op_eq (pe_fldK (K := K) (pv 2)) (pv 1) (nomark _)) (pss_one (ps_ret (pv 2))) pss_nil)))
      (pss_one (ps_raise rfl (takes_of rfl rfl rfl rfl) (pmk_oex T.ox_UnknownSort T.iC_UnknownSort T.tI_UnknownSort (ok_UnknownSort___init__ T) (hr.mono (by decide)) T.b_UnknownSort___init__ .nil pass0 (by rfl) T.g_UnknownSort (pa_cons (pv 1) pa_nil))))), ?_⟩
  try simp only [nox_K, cx_K]
  obtain ⟨dx, tS, tP, tV, tM, as, e, hS, hA, hP, hV, hM⟩ := o
  wtm_at "rd"
  refine r_for (r_it ?_)
  wtm_at "rd"
  refine r_get e T.c_Scheme T.nf_Scheme_sorts (sch_sorts _ _ _ _) ?_
  refine r_itt hS ?_
  refine for_tup (K := K) (a := tS) (xs := as.map V.ref) (fun i σ H' => ∃ (y2 : Option V), σ = [some (.ref p), some (.str w), y2] ∧ H' = H ∧ ∀ sr ∈ sc.ss.take i, decide (sr.nm = w) = false) ⟨_, rfl, rfl, fun w z => (by rw [List.take_zero] at z; cases z)⟩ (fun i σ H' _ ⟨_, _, z, _⟩ => by subst z; exact hS) ?_ ?_
  · rintro i v σ H7 hv ⟨y2, rfl, rfl, hall⟩
    rw [List.getElem?_map] at hv
    obtain ⟨a, ha, rfl⟩ := Option.map_eq_some_iff.mp hv
    obtain ⟨sr, hsr, oa⟩ := hA.get ha
    wtm_at "rd"
    refine r_sname T oa ?_
    wtm_at "rd"
    refine r_ite (fun e1 => ?_) (fun e1 => ?_)
    · wtm_at "rd"
      exact q sr (find_take hall hsr (decide_eq_true e1)) a oa
    · wtm_at "rd"
      refine ⟨_, rfl, rfl, fun y hy => ?_⟩
      rcases take_snoc hsr hy with c | c
      · exact hall y c
      · rw [c]; exact decide_eq_false e1
  · rintro σ H7 ⟨y2, rfl, rfl, hall⟩
    rw [List.length_map, hA.len, List.take_length] at hall
    wtm_at "rd"
    refine ⟨.str w, rfl, Nat.le_of_ble_eq_true rfl, raise_name fun d H' nd hd s => ?_⟩
    exact qE (List.find?_eq_none.mpr fun y hy => by rw [hall y hy]; exact Bool.false_ne_true) d H' nd hd s
theorem ok_Scheme___eq__ (T : Txt K mg) : FnOk P w K mg base CX0 3 T.f_Scheme___eq__ T.d_Scheme___eq__ ["self", "other"] (spSchEq K T.C_Scheme T.C_Sort) := by
  refine T.F_Scheme___eq__.ok sc_Scheme___eq__ (fun vs H Q E h => ?_) (fun cdv A outer s H vs Q E hr h => ?_)
  · obtain ⟨p, sc, v, rfl, _⟩ := h
    rfl
  obtain ⟨p, sc, v, rfl, o, hg, q⟩ := h
  refine ⟨_, (pss_cons (ps_if (PW.pt (pw_or (pt_not (pt_val (pe_callB call_isi (by rfl) T.z_isinstance (by decide +kernel) (pa_cons (pv 1) (pa_cons (pe_glob (v := .ref T.C_Scheme) rfl T.g_Scheme rfl) pa_nil))))) (pw_or1 (pt_cmpR (TC.op_neTO T.mt_Sort___eq__.at_ T.mt_Sort___eq__.fn (ok_Sort___eq__ T) (hr.mono (by decide)) T.b_Sort___eq__ pass0) (pe_fldK (K := K) (pv 0)) (pe_fldK (K := K) (pv 1)) (nomark _))))) (pss_one (ps_ret pe_bl)) pss_nil)
      (pss_cons (ps_if (PW.pt (pw_or (pt_cmpR (op_neD hr.units) (pe_fldK (K := K) (pv 0)) (pe_fldK (K := K) (pv 1)) (nomark _)) (pw_or1 (pt_cmpR (op_neD hr.units) (pe_fldK (K := K) (pv 0)) (pe_fldK (K := K) (pv 1)) (nomark _))))) (pss_one (ps_ret pe_bl)) pss_nil)
      (pss_one (ps_ret (pe_cmpR (op_eqD hr.units) (pe_fldK (K := K) (pv 0)) (pe_fldK (K := K) (pv 1)) (nomark _)))))), ?_⟩
  try simp only [nox_K, cx_K]
  rcases q with ⟨p2, sd, rfl, o2, hg2, q⟩ | ⟨t, ty, hk, q⟩
  · wtm_at "rd"
    refine r_isi (.own _) (sch_ty T o2) kit_self ?_
    obtain ⟨dx, tS, tP, tV, tM, as, e, hS, hA, hP, hV, hM⟩ := o
    obtain ⟨dx2, tS2, tP2, tV2, tM2, as2, e2, hS2, hA2, hP2, hV2, hM2⟩ := o2
    wtm_at "rdi"
    refine r_get e T.c_Scheme T.nf_Scheme_sorts (sch_sorts _ _ _ _) ?_
    wtm_at "rd"
    refine r_get e2 T.c_Scheme T.nf_Scheme_sorts (sch_sorts _ _ _ _) ?_
    wtm_at "rd"
    refine ⟨tS, tS2, as, as2, eqAd T.C_Sort H, rfl, rfl, hS, hS2, eqAd_self _ _, fun x hx y hy => ?_, ?_⟩
    · obtain ⟨j, hj⟩ := List.getElem?_of_mem hx
      obtain ⟨i, hi⟩ := List.getElem?_of_mem hy
      obtain ⟨s1, _, o1⟩ := hA.get hj
      obtain ⟨s2, _, o2⟩ := hA2.get hi
      obtain ⟨d1, z1⟩ := id o1
      obtain ⟨d2, z2⟩ := id o2
      exact ⟨⟨_, _, z1⟩, ⟨_, _, z2⟩, x, s1, .ref y, rfl, o1, .inl ⟨y, s2, rfl, o2, by rw [eqAd_at o1 o2], rfl⟩⟩
    rw [eqP_dec hA hA2]
    wtm_at "rd"
    refine r_iten (fun e3 => ?_) (fun e3 => ?_)
    · wtm_at "rdi"
      exact bl_to q (by rw [decide_eq_false fun z => e3 (congrArg Sch.ss z)])
    wtm_at "rd"
    refine r_get e T.c_Scheme T.nf_Scheme_part_columns (sch_parts _ _ _ _) ?_
    wtm_at "rd"
    refine r_get e2 T.c_Scheme T.nf_Scheme_part_columns (sch_parts _ _ _ _) ?_
    refine r_neTT hP hP2 (strs_eqD hg.wps) (strs_eqD hg2.wps) strs_kind ?_
    wtm_at "rd"
    refine r_iten (fun e4 => ?_) (fun e4 => ?_)
    · wtm_at "rdi"
      exact bl_to q (by rw [decide_eq_false fun z => e4 (strs_inj.mpr (congrArg Sch.ps z))])
    wtm_at "rd"
    refine r_get e T.c_Scheme T.nf_Scheme_value_columns (sch_values _ _ _ _) ?_
    wtm_at "rd"
    refine r_get e2 T.c_Scheme T.nf_Scheme_value_columns (sch_values _ _ _ _) ?_
    refine r_neTT hV hV2 (strs_eqD hg.wvs) (strs_eqD hg2.wvs) strs_kind ?_
    wtm_at "rd"
    refine r_iten (fun e5 => ?_) (fun e5 => ?_)
    · wtm_at "rdi"
      exact bl_to q (by rw [decide_eq_false fun z => e5 (strs_inj.mpr (congrArg Sch.vs z))])
    wtm_at "rd"
    refine r_get e T.c_Scheme T.nf_Scheme_mark_columns (sch_marks _ _ _ _) ?_
    wtm_at "rd"
    refine r_get e2 T.c_Scheme T.nf_Scheme_mark_columns (sch_marks _ _ _ _) ?_
    refine r_eqTT hM hM2 (strs_eqD hg.wms) (strs_eqD hg2.wms) strs_kind ?_
    refine bl_to q ?_
    rw [decide_eq_decide]
    refine ⟨fun z => ?_, fun z => strs_inj.mpr (congrArg Sch.ms z)⟩
    cases sc
    cases sd
    cases e3
    cases strs_inj.mp e4
    cases strs_inj.mp e5
    cases strs_inj.mp z
    rfl
  · wtm_at "rd"
    refine r_isi (.own _) ty hk ?_
    wtm_at "rdi"
    exact q
end

theorem make_sch {K : PySem.W.Frag} {CC CS CB : Addr} {H : Hp} {F : Addr → Hp → Prop} {E : XK} {sc : Sch} {D aP aV aM : Addr} {gs : List Addr} (hg : sc.good) (hD : H D = some (.lst (gs.map V.ref))) (hA : All2 (SortAt CS H) gs sc.ss) (hP : SqA K H aP (sc.ps.map V.str)) (hV : SqA K H aV (sc.vs.map V.str)) (hM : SqA K H aM (sc.ms.map V.str))
    (h : ∀ x H', Same H H' → SchAt K CC CS H' x sc → F x H') : ∀ x dx, H x = none → H dx = none → dx ≠ x → spSchInit K CC CS CB [.ref x, .ref D, .ref aP, .ref aV, .ref aM] (upd (upd H dx (.own x)) x (.ins CC dx [])) (fun v H2 => v = .non ∧ F x H2) E := fun x dx nx nd nxd => by
  have s0 : Same H (upd (upd H dx (.own x)) x (.ins CC dx [])) := same_two nx nd
  exact ⟨x, dx, D, aP, aV, aM, sc, gs, rfl, upd_same, .inl (SqL.of (s0 _ _ hD)), hA.imp fun _ _ z => z.same s0, hP.same s0, hV.same s0, hM.same s0, hg.small, fun w hb => (by rw [hg.not_bad] at hb; cases hb), fun hb H8 o8 hk => ⟨rfl, h x H8 (same_make nx nd hk) o8⟩⟩
def spSchemeL (K : PySem.W.Frag) (CC CS : Addr) : Sp := fun vs H Q _ => ∃ (a : Addr) (sc : Sch), vs = [.ref a] ∧ SpecAt H a sc ∧ sc.good ∧ ∀ p H', Same H H' → SchAt K CC CS H' p sc → Q (.ref p) H'
section
variable {P : Program} {w : World} {K : PySem.W.Frag} {mg : Str → Option Value} {base : Heap}

theorem ok__law_scheme (T : Txt K mg) : FnOk P w K mg base CX0 7 T.f__law_scheme T.d__law_scheme ["_law_spec_here"] (spSchemeL K T.C_Scheme T.C_Sort) := by
  refine T.F__law_scheme.ok sc__law_scheme (fun vs H Q E h => ?_) (fun cdv A outer s H vs Q E hr h => ?_)
  · obtain ⟨p, sc, rfl, _⟩ := h
    rfl
  obtain ⟨p, sc, rfl, so, hg, q⟩ := h
  refine ⟨_, (pss_cons (ps_setLc (i := 1) (own := [("_law_one", 2)]) (g := gName 2) (tt := tYes) rfl sc__law_scheme.nd rfl rfl (sw_true rfl rfl rfl (by decide +kernel)) (pi_list (pe_ix (r := rIxL K) ix_list (pv 0) pe_int (fun _ _ => rfl))) (blkOk_by (N := ["_law_spec_here", "_law_sorts", "_law_one"]) (sc := defScope s__law_scheme) (by decide +kernel)) (fun _ _ _ _ _ => pg_name (i := 2) sc__law_scheme.nd rfl (by first | exact Or.inl rfl | exact Or.inr rfl)) (fun _ _ _ _ _ => pts_nil) (fun _ _ _ _ _ => (pe_makeN T.m_Sort (ok_Sort___init__ T) (hr.mono (by decide)) (by rfl) T.g_Sort T.kn_Sort___init__ pass0 (pa_cons (pe_ix (r := rIxT K) ix_tup (pv 2) pe_int (fun _ _ => rfl)) (pa_cons (pe_ix (r := rIxT K) ix_tup (pv 2) pe_int (fun _ _ => rfl)) pa_nil)) (pk_cons (pe_ix (r := rIxT K) ix_tup (pv 2) pe_int (fun _ _ => rfl)) (pk_cons (pe_ix (r := rIxT K) ix_tup (pv 2) pe_int (fun _ _ => rfl)) pk_nil)))))
      (pss_one (ps_ret (pe_makeN T.m_Scheme (ok_Scheme___init__ T) (hr.mono (by decide)) (by rfl) T.g_Scheme T.kn_Scheme___init__ passL (pa_cons (pv 1) pa_nil) (pk_cons (pe_callTy c_listA (by rfl) T.z_list (by decide +kernel) (pa_cons (pe_ix (r := rIxL K) ix_list (pv 0) pe_int (fun _ _ => rfl)) pa_nil)) (pk_cons (pe_callTy c_listA (by rfl) T.z_list (by decide +kernel) (pa_cons (pe_ix (r := rIxL K) ix_list (pv 0) pe_int (fun _ _ => rfl)) pa_nil)) (pk_cons (pe_callTy c_listA (by rfl) T.z_list (by decide +kernel) (pa_cons (pe_ix (r := rIxL K) ix_list (pv 0) pe_int (fun _ _ => rfl)) pa_nil)) pk_nil))))))), ?_⟩
  try simp only [nox_K, cx_K]
  obtain ⟨aS, aP, aV, aM, ts, h0, h1, h2, h4, h5, h6⟩ := id so
  have l1 := hg.l1
  wtm_at "rd"
  refine r_itl (SqL.of h1) ?_
  intro D nD
  refine lc_list (K := K) (a := aS) (xs := ts.map V.ref) (fun i H' => ∃ gs : List Addr, H' D = some (.lst (gs.map V.ref)) ∧ All2 (SortAt T.C_Sort H') gs (sc.ss.take i) ∧ Same H H') ⟨[], upd_same, by rw [List.take_zero]; exact All2.nil, same_new nD⟩ (fun i H' _ ⟨_, _, _, s⟩ => SqL.of (s _ _ h1)) ?_ ?_
  · rintro i v H4 hv ⟨gs, hD4, G4, s4⟩
    rw [List.getElem?_map] at hv
    obtain ⟨b, hb, rfl⟩ := Option.map_eq_some_iff.mp hv
    obtain ⟨sr, hsr, hbf⟩ := h2.get hb
    have hb4 : H4 b = some (.tup [.str sr.nm, .str sr.ky, partV sr.pt, .bl sr.ds]) := s4 _ _ hbf
    refine ⟨wipe1, r_yes (iteT ?_)⟩
    wtm_at "rd"
    refine ⟨rfl, rfl, make_sort fun x H5 nx s5 o5 => ?_⟩
    have hD5 := s5 _ _ hD4
    have gl : gs.length ≤ 3 := by rw [G4.len, List.length_take]; omega
    refine ⟨_, hD5, small1000 (by rw [List.length_map]; omega), gs ++ [x], by rw [upd_same, List.map_append]; rfl, ?_, fun b o e => (upd_ne (ne_of_none e nD)).trans (s5 _ _ (s4 _ _ e))⟩
    rw [List.take_add_one, hsr]
    exact All2.snoc (G4.imp fun _ _ z => (z.same s5).put hD5 fun _ _ _ y => nomatch y) (o5.put hD5 fun _ _ _ y => nomatch y)
  rintro H4 ⟨gs, hD4, G4, s4⟩
  rw [List.length_map, h2.len, List.take_length] at G4
  have h0 := s4 _ _ h0
  have h4 := s4 _ _ h4
  have h5 := s4 _ _ h5
  have h6 := s4 _ _ h6
  wtm_at "rd"
  refine r_listA (.inl (SqL.of h4)) fun bP n_bP => ?_
  generalize eq_bP : upd _ bP _ = H5
  have s_bP : Same _ H5 := eq_bP ▸ same_new n_bP
  have h_bP : H5 bP = some _ := eq_bP ▸ upd_same
  clear eq_bP
  have h0 := s_bP _ _ h0
  have h5 := s_bP _ _ h5
  have h6 := s_bP _ _ h6
  have hD4 := s_bP _ _ hD4
  have s4 := s4.trans s_bP
  have G4 := G4.imp fun _ _ z => z.same s_bP
  wtm_at "rd"
  refine r_listA (.inl (SqL.of h5)) fun bV n_bV => ?_
  generalize eq_bV : upd _ bV _ = H6
  have s_bV : Same _ H6 := eq_bV ▸ same_new n_bV
  have h_bV : H6 bV = some _ := eq_bV ▸ upd_same
  clear eq_bV
  have h0 := s_bV _ _ h0
  have h6 := s_bV _ _ h6
  have hD4 := s_bV _ _ hD4
  have h_bP := s_bV _ _ h_bP
  have s4 := s4.trans s_bV
  have G4 := G4.imp fun _ _ z => z.same s_bV
  wtm_at "rd"
  refine r_listA (.inl (SqL.of h6)) fun bM n_bM => ?_
  generalize eq_bM : upd _ bM _ = H7
  have s_bM : Same _ H7 := eq_bM ▸ same_new n_bM
  have h_bM : H7 bM = some _ := eq_bM ▸ upd_same
  clear eq_bM
  have h0 := s_bM _ _ h0
  have hD4 := s_bM _ _ hD4
  have h_bP := s_bM _ _ h_bP
  have h_bV := s_bM _ _ h_bV
  have s4 := s4.trans s_bM
  have G4 := G4.imp fun _ _ z => z.same s_bM
  wtm_at "rd"
  exact ⟨rfl, rfl, make_sch hg hD4 G4 (.inl (SqL.of h_bP)) (.inl (SqL.of h_bV)) (.inl (SqL.of h_bM)) fun x H8 s8 o8 => q x _ (s4.trans s8) o8⟩
end

theorem Sch.good.lcols {s : Sch} (h : s.good) : s.cols.length ≤ 11 := by
  have h1 := h.l1
  have h2 := h.l2
  have h3 := h.l3
  have h4 := h.l4
  simp only [Sch.cols, List.length_append, List.length_map]
  omega
theorem Sch.good.lnames {s : Sch} (h : s.good) : s.names.length ≤ 3 := by
  rw [Sch.names, List.length_map]
  exact h.l1
def getR (r : List (Str × V)) (w : Str) : Option V := (r.find? fun p => decide (p.1 = w)).map (·.2)
def keysR (r : List (Str × V)) : List Str := r.map (·.1)
theorem val_row (w : Str) : ∀ r : List (Str × V), valV (rowK r) (Sum.inr w) = getR r w
  | [] => rfl
  | p :: r => by
    unfold getR rowK
    rw [List.map_cons, List.find?_cons]
    by_cases e : p.1 = w
    · rw [valV_pos (show ((Sum.inr p.1 : Key), p.2).1 = Sum.inr w by rw [e]), decide_eq_true e]
      rfl
    · rw [valV_neg (show ¬ ((Sum.inr p.1 : Key), p.2).1 = Sum.inr w from fun z => e (Sum.inr.inj z)), decide_eq_false e]
      exact val_row w r
section
variable {σ : L2.St} {H : Hp} {Q : VK} {K : PySem.W.Frag} {d : Addr} {r : List (Str × V)} {w : Str} {v : V}
theorem r_getR {F : V → Prop} (h : H d = some (.dK (rowK r))) (e : getR r w = some v) (q : F v) : ∃ a v, V.ref d = .ref a ∧ DGet H a (.str w) (some v) ∧ F v := ⟨d, v, rfl, by rw [← e, ← val_row]; exact DGet.k (k := Sum.inr w) h, q⟩
theorem r_inR {F : Option V → Prop} (h : H d = some (.dK (rowK r))) (q : F (getR r w)) : ∃ a o, V.ref d = .ref a ∧ DGet H a (.str w) o ∧ F o := ⟨d, _, rfl, DGet.k (k := Sum.inr w) h, by rw [val_row]; exact q⟩
/-- the keys of a locked row that pass a test -/
theorem lc_keysF {n : Nat} {od : Obj} {tt : TT} {te : TE} (f : Str → Bool) (hd : H d = some (.frz od (.dK (rowK r)))) (hz : r.length ≤ 1000) (ht : ∀ (x : Str) (H' : Hp) (QT : Bool → Hp → Prop), x ∈ keysR r → Same H H' → QT (f x) H' → tt ((wipe σ [n]).set n (some (.str x))) H' QT)
    (he : ∀ (x : Str) (H' : Hp) (QQ : VK), x ∈ keysR r → Same H H' → QQ (.str x) H' → te ((wipe σ [n]).set n (some (.str x))) H' QQ) (hq : ∀ D, H D = none → Q (.ref D) (upd H D (.lst (((keysR r).filter f).map V.str)))) : lcGo (Itk d od (rowK r)) (gName n) tt te [n] σ Q H := by
  intro D hD
  refine lc_it walk_keys (fun i H' => H' = upd H D (.lst ((((keysR r).take i).filter f).map V.str))) rfl (fun i H' _ e => by subst e; exact (same_new hD) _ _ hd) ?_ ?_
  · rintro i x H1 H2 hi rfl ⟨rfl, k, v, hk, rfl⟩
    unfold rowK at hk
    rw [List.getElem?_map] at hk
    obtain ⟨p, hp, e⟩ := Option.map_eq_some_iff.mp hk
    cases e
    have hx : (keysR r)[i]? = some p.1 := by rw [keysR, List.getElem?_map, hp]; rfl
    have hx' := List.mem_of_getElem? hx
    refine ⟨wipe1, ht p.1 _ _ hx' (same_new hD) ?_⟩
    have lz : (keysR r).length ≤ 1000 := by rw [keysR, List.length_map]; exact hz
    cases hf : f p.1 with
    | true =>
      refine he p.1 _ _ hx' (same_new hD) ⟨_, upd_same, ?_, ?_⟩
      · rw [List.length_map]
        refine small1000 (Nat.le_trans (List.length_filter_le _ _) ?_)
        rw [List.length_take]
        omega
      · rw [upd_upd, List.take_add_one, hx, List.filter_append, List.map_append]
        show _ = upd H D (.lst (_ ++ (List.filter f [p.1]).map V.str))
        rw [List.filter_cons, if_pos hf]
        rfl
    | false =>
      show _ = _
      rw [List.take_add_one, hx, List.filter_append, List.map_append]
      show _ = upd H D (.lst (_ ++ (List.filter f [p.1]).map V.str))
      rw [List.filter_cons, if_neg (by rw [hf]; exact Bool.false_ne_true)]
      show _ = upd H D (.lst (_ ++ []))
      rw [List.append_nil]
  · rintro H' rfl
    rw [show (rowK r).length = (keysR r).length by rw [rowK, keysR, List.length_map, List.length_map], List.take_length]
    exact hq D hD
theorem unlock {D : Addr} {u f o : HO} (hd : H d = some u) (n : D ≠ d) : upd (upd (upd H d f) D o) d u = upd H D o := by
  funext b
  by_cases e : b = d
  · subst e
    rw [upd_same, upd_ne n.symm, hd]
  · rw [upd_ne e]
    by_cases e2 : b = D
    · subst e2
      rw [upd_same, upd_same]
    · rw [upd_ne e2, upd_ne e2, upd_ne e]
end
/-! the least of some texts -/
theorem rising_le : ∀ {p : Str} {l : List Str}, risingS p l = true → ∀ x ∈ l, ¬ x.cps.toList < p.cps.toList
  | _, [], _, x, hx => by cases hx
  | p, y :: l, h, x, hx => by
    obtain ⟨h1, h2⟩ := Bool.and_eq_true_iff.mp (show (!ltCps y.cps.toList p.cps.toList && risingS y l) = true from h)
    have h1 : ¬ y.cps.toList < p.cps.toList := fun z => by rw [ltCps_eq, decide_eq_true z] at h1; cases h1
    rcases List.mem_cons.mp hx with e | e
    · rw [e]; exact h1
    · have h3 := rising_le h2 x e
      rw [List.not_lt] at h1 h3 ⊢
      exact List.le_trans h1 h3
def leastS (xs : List Str) : Option Str := xs.find? fun x => xs.all fun y => !ltCps y.cps.toList x.cps.toList
theorem least_of {xs ys : List Str} (hp : ys.Perm xs) (hs : sortedS ys = true) : ys.head? = leastS xs := by
  cases ys with
  | nil =>
    cases hp.nil_eq
    rfl
  | cons y ys =>
    have hy : y ∈ xs := hp.mem_iff.mp List.mem_cons_self
    have hm : ∀ x ∈ xs, ¬ x.cps.toList < y.cps.toList := fun x hx => by
      rcases List.mem_cons.mp (hp.mem_iff.mpr hx) with e | e
      · rw [e]; exact List.lt_irrefl _
      · exact rising_le hs x e
    show some y = leastS xs
    unfold leastS
    cases hf : xs.find? (fun x => xs.all fun y => !ltCps y.cps.toList x.cps.toList) with
    | none =>
      have z := List.find?_eq_none.mp hf y hy
      exact absurd (List.all_eq_true.mpr fun x hx => by rw [ltCps_eq, decide_eq_false (hm x hx)]; rfl) z
    | some z =>
      have z1 := List.find?_some hf
      have z2 := List.mem_of_find?_eq_some hf
      have z3 := List.all_eq_true.mp z1 y hy
      have z3 : ¬ y.cps.toList < z.cps.toList := fun e => by rw [ltCps_eq, decide_eq_true e] at z3; cases z3
      have z4 := hm z z2
      rw [List.not_lt] at z3 z4
      have e := List.le_antisymm z4 z3
      have e : y.cps = z.cps := Array.toList_inj.mp e
      cases y
      cases z
      cases e
      rfl
/-! which column of a row is bad -/
def isIntV : V → Bool
  | .int _ => true
  | _ => false
def colOk (ms : List Str) (r : List (Str × V)) (w : Str) : Bool := match getR r w with
  | some (.int i) => if w ∈ ms then decide (i = 0 ∨ i = 1) else decide ((if i < 0 then -i else i) ≤ 1000000000000)
  | _ => false
def othersR (sc : Sch) (r : List (Str × V)) : List Str := (keysR r).filter fun k => !decide (k ∈ sc.cols)
def badCol (sc : Sch) (r : List (Str × V)) : Option Str := match sc.cols.find? (fun w => !colOk sc.ms r w) with
  | some w => some w
  | none => leastS (othersR sc r)
theorem int_of {v : V} (h : isIntV v = true) : ∃ j, v = .int j := by
  cases v <;> first | exact ⟨_, rfl⟩ | cases h
theorem colOk_no {ms : List Str} {r : List (Str × V)} {w : Str} {v : V} (h : getR r w = some v) (e : isIntV v = false) : colOk ms r w = false := by
  unfold colOk
  rw [h]
  cases v <;> first | rfl | cases e
structure RowF (r : List (Str × V)) : Prop where
  fl : ∀ p ∈ r, flatV p.2 = true
  l : r.length ≤ 40
theorem RowF.get {r : List (Str × V)} (h : RowF r) {w : Str} {v : V} (e : getR r w = some v) : flatV v = true := by
  unfold getR at e
  obtain ⟨p, hp, rfl⟩ := Option.map_eq_some_iff.mp e
  exact h.fl p (List.mem_of_find?_eq_some hp)
def spIsInt : Sp := fun vs H Q _ => ∃ v : V, vs = [v] ∧ flatV v = true ∧ Q (.bl (isIntV v)) H
def spBadCol (K : PySem.W.Frag) (CC CS : Addr) : Sp := fun vs H Q _ => ∃ (p a : Addr) (sc : Sch) (r : List (Str × V)), vs = [.ref p, .ref a] ∧ SchAt K CC CS H p sc ∧ sc.good ∧ H a = some (.dK (rowK r)) ∧ RowF r ∧ ∀ H', Same H H' → Q (partV (badCol sc r)) H'
theorem in01 (i : Int) : inV (.int i) [.int 0, .int 1] = decide (i = 0 ∨ i = 1) := by
  show ((0 : Int) == i || ((1 : Int) == i || false)) = _
  rw [Bool.or_false, Bool.eq_iff_iff, Bool.or_eq_true, beq_iff_eq, beq_iff_eq, decide_eq_true_eq]
  exact ⟨fun z => z.imp Eq.symm Eq.symm, fun z => z.imp Eq.symm Eq.symm⟩
section
variable {P : Program} {w : World} {K : PySem.W.Frag} {mg : Str → Option Value} {base : Heap}

theorem ok_is_integer (T : Txt K mg) : FnOk P w K mg base CX0 1 T.f_is_integer T.d_is_integer ["thing"] spIsInt := by
  refine T.F_is_integer.ok sc_is_integer (fun vs H Q E h => ?_) (fun cdv A outer s H vs Q E hr h => ?_)
  · obtain ⟨v, rfl, _⟩ := h
    rfl
  obtain ⟨v, rfl, hv, q⟩ := h
  refine ⟨_, (pss_one (ps_ret (pe_and (pe_callB call_isi (by rfl) T.z_isinstance (by decide +kernel) (pa_cons (pv 0) (pa_cons (pe_bltn (v := .ty "int") (u := .type "int") (by rfl) T.z_int (by decide +kernel) rfl) pa_nil))) (pe_one (pe_not (pe_callB call_isi (by rfl) T.z_isinstance (by decide +kernel) (pa_cons (pv 0) (pa_cons (pe_bltn (v := .ty "bool") (u := .type "bool") (by rfl) T.z_bool (by decide +kernel) rfl) pa_nil)))))))), ?_⟩
  try simp only [nox_K, cx_K]
  cases v with
  | non =>
    wtm_at "rd"
    refine r_isi (.ty "int") (.base .non) T.kt_NoneType_int ?_
    wtm_at "rdi"
    exact q
  | bl b =>
    wtm_at "rd"
    refine r_isi (.ty "int") (.base (.bl _)) T.kt_bool_int ?_
    wtm_at "rdi"
    refine r_isi (.ty "bool") (.base (.bl _)) kit_self ?_
    wtm_at "rdi"
    exact q
  | int i =>
    wtm_at "rd"
    refine r_isi (.ty "int") (.base (.int _)) kit_self ?_
    wtm_at "rdi"
    refine r_isi (.ty "bool") (.base (.int _)) T.kt_int_bool ?_
    wtm_at "rdi"
    exact q
  | str x =>
    wtm_at "rd"
    refine r_isi (.ty "int") (.base (.str _)) T.kt_str_int ?_
    wtm_at "rdi"
    exact q
  | byt b => cases hv
  | flt b => cases hv
  | ref a => cases hv
  | ty n => cases hv
theorem ok_bad_column (T : Txt K mg) : FnOk P w K mg base CX0 2 T.f_bad_column T.d_bad_column ["scheme", "row"] (spBadCol K T.C_Scheme T.C_Sort) := by
  refine T.F_bad_column.ok sc_bad_column (fun vs H Q E h => ?_) (fun cdv A outer s H vs Q E hr h => ?_)
  · obtain ⟨p, a, sc, r, rfl, _⟩ := h
    rfl
  obtain ⟨p, a, sc, r, rfl, o, hg, ha, hf, q⟩ := h
  refine ⟨_, (pss_cons (ps_set (i := 2) sc_bad_column.nd rfl (by first | exact Or.inl rfl | exact Or.inr rfl) (pe_meth0 (pv 0) T.c_Scheme T.mt_Scheme_columns (ok_Scheme_columns T) (hr.mono (by decide)) T.b_Scheme_columns .nil pass0))
      (pss_cons (ps_for PassesOwn.never rfl (pi_list (pv 2)) (pg_name (i := 3) sc_bad_column.nd rfl (by first | exact Or.inl rfl | exact Or.inr rfl)) (pss_cons (ps_if (PW.pt (pw_or (pt_cmp (pc_dnotin (hu_of hr) (pv 3) (pv 1))) (pw_or1 (pt_not (pt_val (pe_call (ok_is_integer T) (hr.mono (by decide)) (by rfl) T.g_is_integer T.F_is_integer.kp T.b_is_integer .nil pass0 (pa_cons (pe_dget (hu_of hr) (pv 1) (pv 3) (fun _ _ => rfl)) pa_nil))))))) (pss_one (ps_ret (pv 3))) pss_nil)
      (pss_one (ps_if (pt_cmpR op_in_seq (pv 3) (pe_fldK (K := K) (pv 0)) (by rfl)) (pss_one (ps_if (pt_cmpR op_notIn_seq (pe_dget (hu_of hr) (pv 1) (pv 3) (fun _ _ => rfl)) (pe_tup (pa_cons pe_int (pa_cons pe_int pa_nil))) (by rfl)) (pss_one (ps_ret (pv 3))) pss_nil)) (pss_one (ps_if (pt_cmpR op_gt (pe_callB c_abs (by rfl) T.z_abs (by decide +kernel) (pa_cons (pe_dget (hu_of hr) (pv 1) (pv 3) (fun _ _ => rfl)) pa_nil)) (pe_glob (v := .int 1000000000000) rfl T.g_MOST ⟨_, rfl⟩) (nomark _)) (pss_one (ps_ret (pv 3))) pss_nil))))))
      (pss_cons (ps_set (i := 4) sc_bad_column.nd rfl (by first | exact Or.inl rfl | exact Or.inr rfl) (pe_callB cr_sortedS (by rfl) T.z_sorted (by decide +kernel) (pa_cons (pe_lock (pe_lc (own := [("key", 5)]) (g := gName 5) rfl sc_bad_column.nd (pi_keys (pv 1)) (blkOk_by (N := ["scheme", "row", "columns", "column", "others", "key"]) (sc := defScope s_bad_column) (by decide +kernel)) (fun _ _ _ _ _ => pg_name (i := 5) sc_bad_column.nd rfl (by first | exact Or.inl rfl | exact Or.inr rfl)) (fun _ _ _ _ _ => (pts_one (pt_cmpR (r := rIn K true) op_notIn_seq (pv 5) (pv 2) (by rfl)))) (fun _ _ _ _ _ => (pv 5)))) pa_nil)))
      (pss_one (ps_ret (pe_ifExp (pt_cmpR op_gt (pe_callB (r := rLenL K) (id := "len") c_len (by rfl) T.z_len (by decide +kernel) (pa_cons (pv 4) pa_nil)) pe_int (nomark _)) (pe_ix (r := rIxL K) ix_list (pv 4) pe_int (fun _ _ => rfl)) pe_non)))))), ?_⟩
  try simp only [nox_K, cx_K]
  have sm := hg.small
  have lc' := hg.lcols
  have lr := hf.l
  wtm_at "rd"
  refine sch_who o (by decide +kernel) (by decide +kernel) (by decide +kernel) (by decide +kernel) ?_
  wtm_at "rd"
  refine ⟨p, sc, rfl, o, sm, fun lc H1 n1 s1 hc1 => ?_⟩
  have la : lc ≠ a := (ne_of_none ha n1).symm
  have ha1 := s1 _ _ ha
  have o := o.same s1
  obtain ⟨dx, tS, tP, tV, tM, as, e, hS, hA, hP, hV, hM⟩ := id o
  wtm_at "rd"
  refine r_for (r_il ?_)
  wtm_at "rd"
  refine r_itl (SqL.of hc1) ?_
  refine for_list (K := K) (a := lc) (xs := sc.cols.map V.str) (fun i σ H' => ∃ (y3 y4 y5 : Option V), σ = [some (.ref p), some (.ref a), some (.ref lc), y3, y4, y5] ∧ Same H1 H' ∧ ∀ w ∈ sc.cols.take i, (!colOk sc.ms r w) = false) ⟨_, _, _, rfl, Same.refl _, fun w z => (by rw [List.take_zero] at z; cases z)⟩ (fun i σ H' _ ⟨_, _, _, _, s, _⟩ => SqL.of (s _ _ hc1)) ?_ ?_
  · rintro i v σ H2 hv ⟨y3, y4, y5, rfl, s2, hall⟩
    rw [List.getElem?_map] at hv
    obtain ⟨w, hw, rfl⟩ := Option.map_eq_some_iff.mp hv
    have ha2 := s2 _ _ ha1
    have s12 := s1.trans s2
    have bad : ∀ {H' : Hp}, Same H H' → colOk sc.ms r w = false → Q (.str w) H' := fun {H'} s z => by
      have e : badCol sc r = some w := by
        unfold badCol
        rw [find_take (f := fun w => !colOk sc.ms r w) hall hw (by rw [z]; rfl)]
      have qq := q H' s
      rw [e] at qq
      exact qq
    have next : colOk sc.ms r w = true → ∀ y ∈ sc.cols.take (i + 1), (!colOk sc.ms r y) = false := fun z y hy => by
      rcases take_snoc hw hy with c | c
      · exact hall y c
      · rw [c, z]; rfl
    wtm_at "rd"
    refine r_inR ha2 ?_
    wtm_at "rd"
    refine r_itebn (fun e1 => ?_) (fun e1 => ?_)
    · have hgw : getR r w = none := by
        cases h : getR r w with
        | none => rfl
        | some v => rw [h] at e1; cases e1
      wtm_at "rdi"
      exact bad s12 (by unfold colOk; rw [hgw])
    obtain ⟨v, hgw⟩ := Option.isSome_iff_exists.mp e1
    have hvf := hf.get hgw
    wtm_at "rd"
    refine r_getR ha2 hgw ?_
    wtm_at "rd"
    refine ⟨v, rfl, hvf, ?_⟩
    wtm_at "rd"
    refine r_itebn (fun e2 => ?_) (fun e2 => ?_)
    · wtm_at "rd"
      exact bad s12 (colOk_no hgw e2)
    obtain ⟨j, rfl⟩ := int_of e2
    wtm_at "rd"
    refine r_get (s2 _ _ e) T.c_Scheme T.nf_Scheme_mark_columns (sch_marks _ _ _ _) ?_
    refine r_inT (same_tup s2 hM) rfl (flat_strsV _) ?_
    show ∃ k, V.bl (inV (.str w) (sc.ms.map V.str)) = .bl k ∧ _
    rw [inV_strs]
    wtm_at "rd"
    refine r_ite (fun c1 => ?_) (fun c1 => ?_)
    · wtm_at "rd"
      refine r_getR ha2 hgw ?_
      wtm_at "rd"
      refine r_new rfl fun t2 n_t2 => ?_
      generalize eq_t2 : upd _ t2 _ = H3
      have s_t2 : Same _ H3 := eq_t2 ▸ same_new n_t2
      have h_t2 : H3 t2 = some _ := eq_t2 ▸ upd_same
      clear eq_t2
      have s2 := s2.trans s_t2
      refine r_inT (SqT.of h_t2) rfl rfl ?_
      show ∃ k, V.bl (!inV (.int j) [.int 0, .int 1]) = .bl k ∧ _
      rw [in01]
      wtm_at "rd"
      refine r_iten (fun c2 => ?_) (fun c2 => ?_)
      · wtm_at "rd"
        exact bad (s12.trans s_t2) (by unfold colOk; rw [hgw]; show (if w ∈ sc.ms then _ else _) = false; rw [if_pos c1, decide_eq_false c2])
      · wtm_at "rd"
        exact ⟨_, _, _, rfl, s2, next (by unfold colOk; rw [hgw]; show (if w ∈ sc.ms then _ else _) = true; rw [if_pos c1, decide_eq_true c2])⟩
    · wtm_at "rd"
      refine r_getR ha2 hgw ?_
      wtm_at "rd"
      refine r_ite (fun c2 => ?_) (fun c2 => ?_)
      · wtm_at "rd"
        exact bad s12 (by unfold colOk; rw [hgw]; show (if w ∈ sc.ms then _ else _) = false; rw [if_neg c1, decide_eq_false (by omega)])
      · wtm_at "rd"
        exact ⟨_, _, _, rfl, s2, next (by unfold colOk; rw [hgw]; show (if w ∈ sc.ms then _ else _) = true; rw [if_neg c1, decide_eq_true (by omega)])⟩
  · rintro σ H2 ⟨y3, y4, y5, rfl, s2, hall⟩
    rw [List.length_map, List.take_length] at hall
    have ha2 := s2 _ _ ha1
    have hc2 := s2 _ _ hc1
    have s12 := s1.trans s2
    have eb : badCol sc r = leastS (othersR sc r) := by
      unfold badCol
      rw [List.find?_eq_none.mpr fun y hy => by rw [hall y hy]; exact Bool.false_ne_true]
    wtm_at "rd"
    refine ⟨a, _, ha2, trivial, fun od => ?_⟩
    have hc3 : (upd H2 a (.frz od (.dK (rowK r)))) lc = some (.lst (sc.cols.map V.str)) := (upd_ne la).trans hc2
    wtm_at "rd"
    refine ⟨a, od, rfl, .inl ⟨_, upd_same, ?_⟩⟩
    refine lc_keysF (fun k => !decide (k ∈ sc.cols)) upd_same (by omega) (fun x H' QT hx s' hQ => ?_) (fun x H' QQ hx s' hQ => ?_) fun D nD => ?_
    · wtm_at "rd"
      refine r_inL (SqL.of (s' _ _ hc3)) rfl (flat_strsV _) ?_
      show ∃ k, V.bl (!inV (.str x) (sc.cols.map V.str)) = .bl k ∧ _
      rw [inV_strs]
      exact ⟨_, rfl, hQ⟩
    · wtm_at "rd"
      exact hQ
    have nDa : D ≠ a := (ne_of_none upd_same nD).symm
    have nD2 : H2 D = none := by rw [upd_ne nDa] at nD; exact nD
    refine ⟨by rw [upd_ne nDa.symm]; exact upd_same, ?_⟩
    rw [unlock ha2 nDa]
    rw [show (keysR r).filter (fun k => !decide (k ∈ sc.cols)) = othersR sc r from rfl]
    have lo : (othersR sc r).length ≤ 40 := Nat.le_trans (List.length_filter_le _ _) (by rw [keysR, List.length_map]; exact lr)
    rename_i n_l
    have n_D := nD2
    generalize eq_D : upd _ D _ = H3
    have s_D : Same _ H3 := eq_D ▸ same_new n_D
    have h_D : H3 D = some _ := eq_D ▸ upd_same
    clear eq_D
    have s12 := s12.trans s_D
    wtm_at "rd"
    refine ⟨D, _, rfl, SqL.of h_D, by omega, fun ys l2 hp hs n_l2 => ?_⟩
    generalize eq_l2 : upd _ l2 _ = H4
    have s_l2 : Same _ H4 := eq_l2 ▸ same_new n_l2
    have h_l2 : H4 l2 = some _ := eq_l2 ▸ upd_same
    clear eq_l2
    have s12 := s12.trans s_l2
    have hl := least_of hp hs
    wtm_at "rd"
    refine r_lenS h_l2 ?_
    cases ys with
    | nil =>
      wtm_at "rd"
      refine r_ite (fun c => absurd c (by decide)) (fun c => ?_)
      wtm_at "rd"
      have qq := q _ s12
      rw [eb, ← hl] at qq
      exact qq
    | cons y ys =>
      have h_l2 : H4 l2 = some (.lst (.str y :: ys.map V.str)) := h_l2
      wtm_at "rd"
      refine r_ite (fun c => ?_) (fun c => absurd (by show (0 : Int) < ((ys.length + 1 : Nat) : Int); omega) c)
      wtm_at "rd"
      refine r_ixL (SqL.of h_l2) (v := .str y) (atI_nat (j := 0) rfl) ?_
      have qq := q _ s12
      rw [eb, ← hl] at qq
      exact qq
end

abbrev Row := List (Str × V)
def RowsIn (H : Hp) (as : List Addr) (rs : List Row) : Prop := All2 (fun a r => H a = some (.dK (rowK r))) as rs
theorem RowsIn.same {H H' : Hp} {as : List Addr} {rs : List Row} (h : RowsIn H as rs) (s : Same H H') : RowsIn H' as rs := All2.imp h fun _ _ z => s _ _ z
def tblF (p al : Addr) : List (Str × V) := putF "records" (.ref al) (putF "scheme" (.ref p) [])
theorem tbl_scheme (p al : Addr) : (tblF p al).lookup ("scheme" : Str) = some (.ref p) := by
  unfold tblF
  rw [lookup_putF, if_neg (by decide +kernel), lookup_putF, if_pos rfl]
theorem tbl_records (p al : Addr) : (tblF p al).lookup ("records" : Str) = some (.ref al) := by
  unfold tblF
  rw [lookup_putF, if_pos rfl]
theorem tbl_no (p al : Addr) {m : Str} (h1 : ¬ m = "records") (h2 : ¬ m = "scheme") : (tblF p al).lookup m = none := by
  unfold tblF
  rw [lookup_putF, if_neg h1, lookup_putF, if_neg h2]
  rfl
structure TblAt (K : PySem.W.Frag) (CT CC CS : Addr) (H : Hp) (t : Addr) (sc : Sch) (rs : List Row) (p al : Addr) (as : List Addr) : Prop where
  ins : ∃ dx, H t = some (.ins CT dx (tblF p al))
  sch : SchAt K CC CS H p sc
  lst : H al = some (.lst (as.map V.ref))
  row : RowsIn H as rs
theorem TblAt.same {K : PySem.W.Frag} {CT CC CS : Addr} {H H' : Hp} {t : Addr} {sc : Sch} {rs : List Row} {p al : Addr} {as : List Addr} (h : TblAt K CT CC CS H t sc rs p al as) (s : Same H H') : TblAt K CT CC CS H' t sc rs p al as := by
  obtain ⟨⟨dx, e⟩, h1, h2, h3⟩ := h
  exact ⟨⟨dx, s _ _ e⟩, h1.same s, s _ _ h2, h3.same s⟩
theorem SchAt.but {K : PySem.W.Frag} {CC CS CT : Addr} {H H' : Hp} {p t dx : Addr} {s : Sch} {fs : List (Str × V)} (h : SchAt K CC CS H p s) (ht : H t = some (.ins CT dx fs)) (hl : fs.length ≠ 4) (k : ∀ b o, H b = some o → b ≠ t → H' b = some o) : SchAt K CC CS H' p s := by
  obtain ⟨dy, tS, tP, tV, tM, as, h0, h1, h2, h3, h4, h5⟩ := h
  have nine : ∀ {b C d : Addr} {gs : List (Str × V)}, H b = some (.ins C d gs) → gs.length = 4 → b ≠ t := fun {b C d gs} e l z => by
    subst z
    rw [e] at ht
    injection ht with ht
    injection ht with _ _ ht
    rw [ht] at l
    exact hl l
  have tup : ∀ {a : Addr} {xs : List V}, SqT K H a xs → SqT K H' a xs := fun {a xs} z => by
    rcases z with (z | ⟨u, z⟩) | z
    · exact .inl (.inl (k _ _ z (ne_of z ht fun y => nomatch y)))
    · exact .inl (.inr ⟨u, k _ _ z (ne_of z ht fun y => nomatch y)⟩)
    · exact .inr z
  exact ⟨dy, tS, tP, tV, tM, as, k _ _ h0 (nine h0 rfl), tup h1, h2.imp fun a s ⟨dz, z⟩ => ⟨dz, k _ _ z (nine z rfl)⟩, tup h3, tup h4, tup h5⟩
def badFrom (sc : Sch) : Nat → List Row → Option (Nat × Str)
  | _, [] => none
  | i, r :: rs => match badCol sc r with
    | some w => some (i, w)
    | none => badFrom sc (i + 1) rs
theorem bad_cut {sc : Sch} : ∀ {rs : List Row} {j i : Nat} {r : Row}, (∀ x ∈ rs.take i, badCol sc x = none) → rs[i]? = some r → ∀ {w : Str}, badCol sc r = some w → badFrom sc j rs = some (j + i, w)
  | r' :: rs, j, 0, r, _, hr, w, hb => by
    cases hr
    unfold badFrom
    rw [hb]
    rfl
  | r' :: rs, j, i + 1, r, h, hr, w, hb => by
    unfold badFrom
    rw [h r' List.mem_cons_self]
    show badFrom sc (j + 1) rs = _
    rw [bad_cut (rs := rs) (i := i) (fun x hx => h x (List.mem_cons_of_mem _ hx)) hr hb, show j + 1 + i = j + (i + 1) by omega]
  | [], _, _, _, _, hr, _, _ => by cases hr
theorem bad_none {sc : Sch} : ∀ {rs : List Row} {j : Nat}, (∀ x ∈ rs, badCol sc x = none) → badFrom sc j rs = none
  | [], _, _ => rfl
  | r :: rs, j, h => by
    unfold badFrom
    rw [h r List.mem_cons_self]
    exact bad_none fun x hx => h x (List.mem_cons_of_mem _ hx)
/-! equal rows -/
def rowEq (r q : Row) : Bool := r.length == q.length && r.all fun p => match getR q p.1 with
  | some v => eqV p.2 v
  | none => false
def rowsEq : List Row → List Row → Bool
  | [], [] => true
  | r :: rs, q :: qs => rowEq r q && rowsEq rs qs
  | _, _ => false
theorem hits_row {K : PySem.W.Frag} {H : Hp} {q : Row} (hq : ∀ p ∈ q, flatV p.2 = true) : ∀ {r : Row}, (∀ p ∈ r, flatV p.2 = true) → Hits (DQ.EqB K H 1) (rowK q) (rowK r) (r.all fun p => match getR q p.1 with | some v => eqV p.2 v | none => false)
  | [], _ => .nil
  | p :: r, h => by
    have ih := hits_row (K := K) (H := H) hq (r := r) fun x hx => h x (List.mem_cons_of_mem _ hx)
    rw [List.all_cons]
    cases e : getR q p.1 with
    | none =>
      rw [Bool.false_and]
      exact .miss (by rw [val_row]; exact e)
    | some v =>
      refine .hit (y := v) (by rw [val_row]; exact e) (.inl ⟨h p List.mem_cons_self, ?_, rfl⟩) ih
      unfold getR at e
      obtain ⟨x, hx, rfl⟩ := Option.map_eq_some_iff.mp e
      exact hq x (List.mem_of_find?_eq_some hx)
theorem eqV_self {v : V} (h : flatV v = true) : eqV v v = true := by
  cases v with
  | non => rfl
  | bl b => exact beq_self_eq_true b
  | int i => exact beq_self_eq_true i
  | str x => exact beq_self_eq_true x
  | byt b => cases h
  | flt b => cases h
  | ref a => cases h
  | ty n => cases h
theorem getR_mem {r : Row} (hn : (keysR r).Nodup) {p : Str × V} (h : p ∈ r) : getR r p.1 = some p.2 := by
  induction r with
  | nil => cases h
  | cons x r ih =>
    obtain ⟨n1, n2⟩ := List.nodup_cons.mp (show (x.1 :: keysR r).Nodup from hn)
    unfold getR
    rw [List.find?_cons]
    by_cases e : x.1 = p.1
    · rw [decide_eq_true e]
      rcases List.mem_cons.mp h with z | z
      · rw [z]; rfl
      · exact absurd (List.mem_map.mpr ⟨p, z, e.symm⟩) n1
    · rw [decide_eq_false e]
      rcases List.mem_cons.mp h with z | z
      · exact absurd (by rw [z]) e
      · exact ih n2 z
theorem rowEq_self {r : Row} (hn : (keysR r).Nodup) (h : ∀ p ∈ r, flatV p.2 = true) : rowEq r r = true := by
  unfold rowEq
  rw [beq_self_eq_true, Bool.true_and, List.all_eq_true]
  intro p hp
  rw [getR_mem hn hp]
  exact eqV_self (h p hp)
structure RowN (r : Row) : Prop extends RowF r where
  nd : (keysR r).Nodup
theorem eq_row {K : PySem.W.Frag} {H : Hp} {a b : Addr} {r q : Row} (ha : H a = some (.dK (rowK r))) (hb : H b = some (.dK (rowK q))) (hr : RowN r) (hq : RowN q) : DQ.EqB K H 2 (.ref a) (.ref b) (rowEq r q) := by
  refine .inr ⟨a, b, rfl, rfl, fun e => ?_, .inr (.inr ⟨rowK r, rowK q, _, ha, hb, fun _ => hits_row hq.fl hr.fl, ?_⟩)⟩
  · subst e
    rw [ha] at hb
    injection hb with hb
    injection hb with hb
    have e : r = q := by
      have inj : ∀ x y : Str × V, ((Sum.inr x.1 : Key), x.2) = ((Sum.inr y.1 : Key), y.2) → x = y := fun x y z => by
        injection z with z1 z2
        cases x
        cases y
        cases Sum.inr.inj z1
        cases z2
        rfl
      exact (List.map_inj_right inj).mp hb
    rw [← e]
    exact rowEq_self hr.nd hr.fl
  · unfold rowEq rowK
    rw [List.length_map, List.length_map]
theorem rowsEq_all : ∀ {rs qs : List Row}, rs.length = qs.length → rowsEq rs qs = (List.range rs.length).all fun j => rowEq (rs.getD j []) (qs.getD j [])
  | [], [], _ => rfl
  | r :: rs, q :: qs, h => by
    show (rowEq r q && rowsEq rs qs) = _
    rw [rowsEq_all (Nat.succ.inj h), List.length_cons, List.range_succ_eq_map, List.all_cons, List.all_map]
    rfl
  | [], _ :: _, h => by cases h
  | _ :: _, [], h => by cases h
theorem rowsEq_len : ∀ {rs qs : List Row}, rs.length ≠ qs.length → rowsEq rs qs = false
  | [], [], h => absurd rfl h
  | [], _ :: _, _ => rfl
  | _ :: _, [], _ => rfl
  | r :: rs, q :: qs, h => by
    show (rowEq r q && rowsEq rs qs) = false
    rw [rowsEq_len fun z => h (by rw [List.length_cons, List.length_cons, z]), Bool.and_false]
theorem rowsEq_self : ∀ {rs : List Row}, (∀ r ∈ rs, RowN r) → rowsEq rs rs = true
  | [], _ => rfl
  | r :: rs, h => by
    show (rowEq r r && rowsEq rs rs) = true
    rw [rowEq_self (h r List.mem_cons_self).nd (h r List.mem_cons_self).fl, rowsEq_self fun x hx => h x (List.mem_cons_of_mem _ hx)]
    rfl
theorem row_inj {r q : Row} (h : rowK r = rowK q) : r = q := by
  have inj : ∀ x y : Str × V, ((Sum.inr x.1 : Key), x.2) = ((Sum.inr y.1 : Key), y.2) → x = y := fun x y z => by
    injection z with z1 z2
    cases x
    cases y
    cases Sum.inr.inj z1
    cases z2
    rfl
  exact (List.map_inj_right inj).mp h
theorem rowsIn_fn {H : Hp} : ∀ {as : List Addr} {rs qs : List Row}, RowsIn H as rs → RowsIn H as qs → rs = qs
  | [], [], [], _, _ => rfl
  | a :: as, r :: rs, q :: qs, h, k => by
    have h1 := h.uncons
    have k1 := k.uncons
    have e := h1.1.symm.trans k1.1
    injection e with e
    injection e with e
    rw [row_inj e, rowsIn_fn h1.2 k1.2]
  | [], _ :: _, _, h, _ => by cases h.len
  | [], _, _ :: _, _, k => by cases k.len
  | _ :: _, [], _, h, _ => by cases h.len
  | _ :: _, _, [], _, k => by cases k.len
/-- the answer of == of two lists of rows -/
theorem eq_rows {K : PySem.W.Frag} {H : Hp} {a b : Addr} {as bs : List Addr} {rs qs : List Row} (ha : H a = some (.lst (as.map V.ref))) (hb : H b = some (.lst (bs.map V.ref))) (h1 : RowsIn H as rs) (h2 : RowsIn H bs qs) (n1 : ∀ r ∈ rs, RowN r) (n2 : ∀ r ∈ qs, RowN r) : DQ.EqO K H (DQ.EqB K H 2) (.ref a) (.ref b) (rowsEq rs qs) := by
  have l1 := h1.len
  have l2 := h2.len
  refine ⟨a, b, rfl, rfl, fun e => ?_, ?_⟩
  · subst e
    rw [ha] at hb
    injection hb with hb
    have e := (List.map_inj_right (fun x y z => V.ref.inj z)).mp (HO.lst.inj hb)
    subst e
    rw [rowsIn_fn h1 h2]
    exact rowsEq_self n2
  by_cases c : rs.length = qs.length
  · refine .inl ⟨_, _, SqL.of ha, SqL.of hb, by rw [List.length_map, List.length_map]; omega, fun j => rowEq (rs.getD j []) (qs.getD j []), fun j u v e1 e2 => ?_, by rw [List.length_map, l1]; exact rowsEq_all c⟩
    rw [List.getElem?_map] at e1 e2
    obtain ⟨x, hx, rfl⟩ := Option.map_eq_some_iff.mp e1
    obtain ⟨y, hy, rfl⟩ := Option.map_eq_some_iff.mp e2
    obtain ⟨r, hr, gx⟩ := h1.get hx
    obtain ⟨q, hq, gy⟩ := h2.get hy
    dsimp only
    rw [List.getD_eq_getElem?_getD, List.getD_eq_getElem?_getD, hr, hq]
    exact eq_row gx gy (n1 r (List.mem_of_getElem? hr)) (n2 q (List.mem_of_getElem? hq))
  · refine .inr (.inl ⟨_, _, SqL.of ha, SqL.of hb, by rw [List.length_map, List.length_map]; omega, rowsEq_len c⟩)
def spBRInit (C : Addr) : Sp := fun vs H Q _ => ∃ (a : Addr) (i : Int) (z : Str), vs = [.ref a, .int i, .str z] ∧ H a = some (exo a C none) ∧
  ∀ (dx : Addr) (H' : Hp), H dx = none → H' a = some (exo a C (some dx)) → H' dx = some (exd dx [("column", .str z), ("number", .int i)]) → (∀ b o, H b = some o → b ≠ a → H' b = some o) → Q .non H'
def spBNInit (C : Addr) : Sp := fun vs H Q _ => ∃ (a : Addr) (i : Int), vs = [.ref a, .int i] ∧ H a = some (exo a C none) ∧
  ∀ (dx : Addr) (H' : Hp), H dx = none → H' a = some (exo a C (some dx)) → H' dx = some (exd dx [("number", .int i)]) → (∀ b o, H b = some o → b ≠ a → H' b = some o) → Q .non H'
def spTabInit (K : PySem.W.Frag) (CT CC CS CB : Addr) : Sp := fun vs H Q E => ∃ (t dx p a : Addr) (sc : Sch) (bs : List Addr) (rs : List Row), vs = [.ref t, .ref p, .ref a] ∧ H t = some (.ins CT dx []) ∧ SchAt K CC CS H p sc ∧ sc.good ∧ H a = some (.lst (bs.map V.ref)) ∧ RowsIn H bs rs ∧ (∀ r ∈ rs, RowF r) ∧ rs.length ≤ 100 ∧
  (∀ i w, badFrom sc 0 rs = some (i, w) → ∀ (d : Addr) (H' : Hp), H d = none → H' d = some (.xd [("column", .str w), ("number", .int (i : Nat))]) → (∀ b o, H b = some o → b ≠ t → H' b = some o) → E (.ref CB) (some d) H') ∧
  (badFrom sc 0 rs = none → ∀ al as H', H al = none → (∀ x ∈ as, H x = none) → TblAt K CT CC CS H' t sc rs p al as → (∀ b o, H b = some o → b ≠ t → H' b = some o) → Q .non H')
def spTLen (K : PySem.W.Frag) (CT CC CS : Addr) : Sp := fun vs H Q _ => ∃ (t : Addr) (sc : Sch) (rs : List Row) (p al : Addr) (as : List Addr), vs = [.ref t] ∧ TblAt K CT CC CS H t sc rs p al as ∧ Q (.int rs.length) H
def spTRec (K : PySem.W.Frag) (CT CC CS CN : Addr) : Sp := fun vs H Q E => ∃ (t : Addr) (sc : Sch) (rs : List Row) (p al : Addr) (as : List Addr) (i : Int), vs = [.ref t, .int i] ∧ TblAt K CT CC CS H t sc rs p al as ∧ rs.length ≤ 1000 ∧
  ((i < 0 ∨ rs.length ≤ i) → ∀ (d : Addr) (H' : Hp), H d = none → H' d = some (.xd [("number", .int i)]) → Same H H' → E (.ref CN) (some d) H') ∧ (∀ r, 0 ≤ i → rs[i.toNat]? = some r → ∀ d H', H d = none → H' d = some (.dK (rowK r)) → Same H H' → Q (.ref d) H')
def spTEq (K : PySem.W.Frag) (CT CC CS : Addr) : Sp := fun vs H Q _ => ∃ (t : Addr) (sc : Sch) (rs : List Row) (p al : Addr) (as : List Addr) (v : V), vs = [.ref t, v] ∧ TblAt K CT CC CS H t sc rs p al as ∧ sc.good ∧ (∀ r ∈ rs, RowN r) ∧
  ((∃ (t2 : Addr) (sd : Sch) (qs : List Row) (p2 al2 : Addr) (as2 : List Addr), v = .ref t2 ∧ TblAt K CT CC CS H t2 sd qs p2 al2 as2 ∧ sd.good ∧ (∀ r ∈ qs, RowN r) ∧ Q (.bl (decide (sc = sd) && rowsEq rs qs)) H) ∨ (∃ u, TyX K H v u ∧ PySem.W.kitOne K u (.ref CT) = some false ∧ Q (.bl false) H))
section
variable {P : Program} {w : World} {K : PySem.W.Frag} {mg : Str → Option Value} {base : Heap}

theorem ok_BadRow___init__ (T : Txt K mg) : FnOk P w K mg base CX0 1 T.f_BadRow___init__ T.d_BadRow___init__ ["self", "number", "column"] (spBRInit T.C_BadRow) := by
  refine T.F_BadRow___init__.ok sc_BadRow___init__ (fun vs H Q E h => ?_) (fun cdv A outer s H vs Q E hr h => ?_)
  · obtain ⟨a, i, z, rfl, _⟩ := h
    rfl
  obtain ⟨a, i, z, rfl, ha, q⟩ := h
  refine ⟨_, (pss_cons (ps_ost (pv 0) (pv 1))
      (pss_one (ps_ost (pv 0) (pv 2)))), ?_⟩
  try simp only [nox_K, cx_K]
  wtm_at "rd"
  refine ⟨a, _, rfl, T.ox_BadRow, T.nf_BadRow_number, .inl ⟨ha, fun dx nd ne => ?_⟩⟩
  wtm_at "rd"
  refine ⟨a, _, rfl, T.ox_BadRow, T.nf_BadRow_column, .inr ⟨dx, [("number", .int i)], upd_same, ?_, Nat.le_of_ble_eq_true rfl, ?_⟩⟩
  · rw [upd_ne ne, upd_same]
  wtm_at "rd"
  refine q dx _ nd ?_ upd_same fun b o e nb => ?_
  · rw [upd_ne ne.symm, upd_same]
  · rw [upd_ne (ne_of_none e nd), upd_ne nb, upd_ne (ne_of_none e nd)]
    exact e
theorem ok_BadNumber___init__ (T : Txt K mg) : FnOk P w K mg base CX0 1 T.f_BadNumber___init__ T.d_BadNumber___init__ ["self", "number"] (spBNInit T.C_BadNumber) := by
  refine T.F_BadNumber___init__.ok sc_BadNumber___init__ (fun vs H Q E h => ?_) (fun cdv A outer s H vs Q E hr h => ?_)
  · obtain ⟨a, i, rfl, _⟩ := h
    rfl
  obtain ⟨a, i, rfl, ha, q⟩ := h
  refine ⟨_, (pss_one (ps_ost (pv 0) (pv 1))), ?_⟩
  try simp only [nox_K, cx_K]
  wtm_at "rd"
  refine ⟨a, _, rfl, T.ox_BadNumber, T.nf_BadNumber_number, .inl ⟨ha, fun dx nd ne => ?_⟩⟩
  wtm_at "rd"
  refine q dx _ nd upd_same ?_ fun b o e nb => ?_
  · rw [upd_ne ne, upd_same]
  · rw [upd_ne nb, upd_ne (ne_of_none e nd)]
    exact e
theorem raise_row {C : Addr} {i : Int} {z : Str} {H : Hp} {Q : XK} (h : ∀ (d : Addr) (H' : Hp), H d = none → H' d = some (.xd [("column", .str z), ("number", .int i)]) → Same H H' → Q (.ref C) (some d) H') :
    ∀ a, H a = none → spBRInit C (.ref a :: ([V.int i, V.str z] ++ [])) (upd H a (exo a C none)) (fun v H2 => v = .non ∧ ∃ (d : Addr) (fs : List (Str × V)), H2 a = some (exo a C (some d)) ∧ H2 d = some (exd d fs) ∧ H d = none ∧ Q (.ref C) (some d) (upd (del H2 a) d (.xd fs))) (fun _ _ _ => False) := by
  intro a na
  refine ⟨a, i, z, rfl, upd_same, fun dx H' nd ha hd hk => ⟨rfl, dx, _, ha, hd, (same_new na).free nd, ?_⟩⟩
  refine h dx _ ((same_new na).free nd) upd_same fun b o e => ?_
  have nb : b ≠ a := ne_of_none e na
  rw [upd_ne (ne_of_none e ((same_new na).free nd)), del_ne nb]
  exact hk b o (by rw [upd_ne nb]; exact e) nb
theorem raise_num {C : Addr} {i : Int} {H : Hp} {Q : XK} (h : ∀ (d : Addr) (H' : Hp), H d = none → H' d = some (.xd [("number", .int i)]) → Same H H' → Q (.ref C) (some d) H') :
    ∀ a, H a = none → spBNInit C (.ref a :: ([V.int i] ++ [])) (upd H a (exo a C none)) (fun v H2 => v = .non ∧ ∃ (d : Addr) (fs : List (Str × V)), H2 a = some (exo a C (some d)) ∧ H2 d = some (exd d fs) ∧ H d = none ∧ Q (.ref C) (some d) (upd (del H2 a) d (.xd fs))) (fun _ _ _ => False) := by
  intro a na
  refine ⟨a, i, rfl, upd_same, fun dx H' nd ha hd hk => ⟨rfl, dx, _, ha, hd, (same_new na).free nd, ?_⟩⟩
  refine h dx _ ((same_new na).free nd) upd_same fun b o e => ?_
  have nb : b ≠ a := ne_of_none e na
  rw [upd_ne (ne_of_none e ((same_new na).free nd)), del_ne nb]
  exact hk b o (by rw [upd_ne nb]; exact e) nb
theorem tbl_who {CT CC CS : Addr} {H : Hp} {t : Addr} {sc : Sch} {rs : List Row} {p al : Addr} {as : List Addr} {m : Str} {A : Prop} (o : TblAt K CT CC CS H t sc rs p al as) (h1 : ¬ m = "records") (h2 : ¬ m = "scheme") (h : A) : ∃ a' dx fs, V.ref t = .ref a' ∧ H a' = some (.ins CT dx fs) ∧ fs.lookup m = none ∧ A := by
  obtain ⟨dx, e⟩ := o.ins
  exact ⟨t, dx, _, rfl, e, tbl_no _ _ h1 h2, h⟩
theorem tbl_ty (T : Txt K mg) {H : Hp} {t : Addr} {sc : Sch} {rs : List Row} {p al : Addr} {as : List Addr} (o : TblAt K T.C_Table T.C_Scheme T.C_Sort H t sc rs p al as) : TyX K H (.ref t) (.ref T.C_Table) := by
  obtain ⟨dx, e⟩ := o.ins
  exact .base (.ins e T.c_Table T.ca_Table T.cn_Table T.ct_Table T.cm_Table)
theorem ok_Table___len__ (T : Txt K mg) : FnOk P w K mg base CX0 1 T.f_Table___len__ T.d_Table___len__ ["self"] (spTLen K T.C_Table T.C_Scheme T.C_Sort) := by
  refine T.F_Table___len__.ok sc_Table___len__ (fun vs H Q E h => ?_) (fun cdv A outer s H vs Q E hr h => ?_)
  · obtain ⟨t, sc, rs, p, al, as, rfl, _⟩ := h
    rfl
  obtain ⟨t, sc, rs, p, al, as, rfl, o, q⟩ := h
  refine ⟨_, (pss_one (ps_ret (pe_callB (r := rLenL K) (id := "len") c_len (by rfl) T.z_len (by decide +kernel) (pa_cons (pe_fldK (K := K) (pv 0)) pa_nil)))), ?_⟩
  try simp only [nox_K, cx_K]
  obtain ⟨dx, e⟩ := o.ins
  wtm_at "rd"
  refine r_get e T.c_Table T.nf_Table_records (tbl_records _ _) ?_
  refine r_lenR o.lst ?_
  rw [o.row.len]
  exact q
theorem ok_Table_record (T : Txt K mg) : FnOk P w K mg base (L2.CX P w) 3 T.f_Table_record T.d_Table_record ["self", "number"] (spTRec K T.C_Table T.C_Scheme T.C_Sort T.C_BadNumber) := by
  refine T.F_Table_record.okX sc_Table_record (fun vs H Q E h => ?_) (fun cdv A outer s H vs Q E hr h => ?_)
  · obtain ⟨t, sc, rs, p, al, as, i, rfl, _⟩ := h
    rfl
  obtain ⟨t, sc, rs, p, al, as, i, rfl, o, hl, qE, q⟩ := h
  refine ⟨_, (pss_cons (ps_if (pt_not (pt_chain op_le op_lt pe_int (pv 1) (pe_callB (r := rLenL K) (id := "len") c_len (by rfl) T.z_len (by decide +kernel) (pa_cons (pe_fldK (K := K) (pv 0)) pa_nil)))) (pss_one (ps_raise rfl (takes_of rfl rfl rfl rfl) (pmk_oex T.ox_BadNumber T.iC_BadNumber T.tI_BadNumber (ok_BadNumber___init__ T) (hr.mono (by decide)) T.b_BadNumber___init__ .nil pass0 (by rfl) T.g_BadNumber (pa_cons (pv 1) pa_nil)))) pss_nil)
      (pss_one (ps_ret (pe_callTy call_dictD (by rfl) T.z_dict (by decide +kernel) (pa_cons (pe_ix (r := rIxL K) ix_list (pe_fldK (K := K) (pv 0)) (pv 1) (fun _ _ => rfl)) pa_nil))))), ?_⟩
  try simp only [nox_K, cx_K]
  obtain ⟨dx, e⟩ := o.ins
  have la := o.row.len
  wtm_at "rd"
  refine r_ite (fun c1 => ?_) (fun c1 => ?_)
  · wtm_at "rd"
    refine r_get e T.c_Table T.nf_Table_records (tbl_records _ _) ?_
    wtm_at "rd"
    refine r_lenR o.lst ?_
    wtm_at "rd"
    refine r_iten (fun c2 => ?_) (fun c2 => ?_)
    · wtm_at "rd"
      exact ⟨.int i, rfl, Nat.le_of_ble_eq_true rfl, raise_num fun d H' nd hd s => qE (.inr (by omega)) d H' nd hd s⟩
    · wtm_at "rd"
      refine r_get e T.c_Table T.nf_Table_records (tbl_records _ _) ?_
      obtain ⟨b, hb, hat⟩ := at_refs c1 c2
      wtm_at "rd"
      refine r_ixL (SqL.of o.lst) hat ?_
      obtain ⟨r, hr, gb⟩ := o.row.get hb
      wtm_at "rd"
      refine ⟨b, _, rfl, .inl gb, fun d nd => ?_⟩
      exact q r c1 hr d _ nd upd_same (same_new nd)
  · wtm_at "rdi"
    exact ⟨.int i, rfl, Nat.le_of_ble_eq_true rfl, raise_num fun d H' nd hd s => qE (.inl (by omega)) d H' nd hd s⟩
theorem ok_Table___eq__ (T : Txt K mg) : FnOk P w K mg base CX0 4 T.f_Table___eq__ T.d_Table___eq__ ["self", "other"] (spTEq K T.C_Table T.C_Scheme T.C_Sort) := by
  refine T.F_Table___eq__.ok sc_Table___eq__ (fun vs H Q E h => ?_) (fun cdv A outer s H vs Q E hr h => ?_)
  · obtain ⟨t, sc, rs, p, al, as, v, rfl, _⟩ := h
    rfl
  obtain ⟨t, sc, rs, p, al, as, v, rfl, o, hg, hn, q⟩ := h
  refine ⟨_, (pss_one (ps_ret (pe_and (pe_callB call_isi (by rfl) T.z_isinstance (by decide +kernel) (pa_cons (pv 1) (pa_cons (pe_glob (v := .ref T.C_Table) rfl T.g_Table rfl) pa_nil))) (pe_and (pe_cmpR (op_eqO T.mt_Scheme___eq__.at_ T.mt_Scheme___eq__.fn (ok_Scheme___eq__ T) (hr.mono (by decide)) T.b_Scheme___eq__ pass0) (pe_fldK (K := K) (pv 0)) (pe_fldK (K := K) (pv 1)) (nomark _)) (pe_one (pe_cmpR (r := DQ.rEqO K) (DQ.op_eqB hr.units) (pe_fldK (K := K) (pv 0)) (pe_fldK (K := K) (pv 1)) (nomark _))))))), ?_⟩
  try simp only [nox_K, cx_K]
  rcases q with ⟨t2, sd, qs, p2, al2, as2, rfl, o2, hk, hn2, q⟩ | ⟨u, ty, hk, q⟩
  · wtm_at "rd"
    refine r_isi (.own _) (tbl_ty T o2) kit_self ?_
    obtain ⟨dx, e⟩ := o.ins
    obtain ⟨dx2, e2⟩ := o2.ins
    wtm_at "rdi"
    refine r_get e T.c_Table T.nf_Table_scheme (tbl_scheme _ _) ?_
    wtm_at "rd"
    refine r_get e2 T.c_Table T.nf_Table_scheme (tbl_scheme _ _) ?_
    wtm_at "rd"
    obtain ⟨dp, _, _, _, _, _, ep, _⟩ := id o.sch
    refine ⟨p, _, _, _, rfl, ep, sch_ty T o2.sch, T.nt_Scheme, p, sc, _, rfl, o.sch, hg, .inl ⟨p2, sd, rfl, o2.sch, hk, ?_⟩⟩
    wtm_at "rd"
    refine r_ite (fun c1 => ?_) (fun c1 => ?_)
    · wtm_at "rd"
      refine r_get e T.c_Table T.nf_Table_records (tbl_records _ _) ?_
      wtm_at "rd"
      refine r_get e2 T.c_Table T.nf_Table_records (tbl_records _ _) ?_
      refine ⟨2, _, by decide, eq_rows o.lst o2.lst o.row o2.row hn hn2, ?_⟩
      exact bl_to q (by rw [decide_eq_true c1, Bool.true_and])
    · exact bl_to q (by rw [decide_eq_false c1, Bool.false_and])
  · wtm_at "rd"
    refine r_isi (.own _) ty hk ?_
    wtm_at "rdi"
    exact q

theorem ok_Table___init__ (T : Txt K mg) : FnOk P w K mg base (L2.CX P w) 3 T.f_Table___init__ T.d_Table___init__ ["self", "scheme", "rows"] (spTabInit K T.C_Table T.C_Scheme T.C_Sort T.C_BadRow) := by
  refine T.F_Table___init__.okX sc_Table___init__ (fun vs H Q E h => ?_) (fun cdv A outer s H vs Q E hr h => ?_)
  · obtain ⟨t, dx, p, a, sc, bs, rs, rfl, _⟩ := h
    rfl
  obtain ⟨t, dx, p, a, sc, bs, rs, rfl, ht, o, hg, ha, hr0, hf, hl, qE, q⟩ := h
  refine ⟨_, (pss_cons (ps_fld (pv 0) (pv 1) rfl)
      (pss_cons (ps_fld (pv 0) (pe_lst pa_nil) rfl)
      (pss_one (ps_for (passes_of rfl) rfl (pi_enum (by rfl) T.z_enumerate (pa_cons (pv 2) pa_nil)) (pg_tup (by rfl) (pgs_cons (pg_name (i := 3) sc_Table___init__.nd rfl (by first | exact Or.inl rfl | exact Or.inr rfl)) (pgs_cons (pg_name (i := 4) sc_Table___init__.nd rfl (by first | exact Or.inl rfl | exact Or.inr rfl)) pgs_nil))) (pss_cons (ps_set (i := 5) sc_Table___init__.nd rfl (by first | exact Or.inl rfl | exact Or.inr rfl) (pe_call (ok_bad_column T) (hr.mono (by decide)) (by rfl) T.g_bad_column T.F_bad_column.kp T.b_bad_column .nil pass0 (pa_cons (pv 1) (pa_cons (pv 4) pa_nil))))
      (pss_cons (ps_if (pt_cmpR o_notN (pv 5) pe_non (nomark _)) (pss_one (ps_raise rfl (takes_of rfl rfl rfl rfl) (pmk_oex T.ox_BadRow T.iC_BadRow T.tI_BadRow (ok_BadRow___init__ T) (hr.mono (by decide)) T.b_BadRow___init__ .nil pass0 (by rfl) T.g_BadRow (pa_cons (pv 3) (pa_cons (pv 5) pa_nil))))) pss_nil)
      (pss_one (ps_expr (pe_bm PySem.F.plainAttrs_list PySem.F.slot_list_append PySem.F.type_list_append mt_append (pe_fldK (K := K) (pv 0)) (pa_cons (pe_callTy call_dictD (by rfl) T.z_dict (by decide +kernel) (pa_cons (pv 4) pa_nil)) pa_nil)))))))))), ?_⟩
  try simp only [nox_K, cx_K]
  have la := hr0.len
  wtm_at "rd"
  refine r_put ht T.c_Table T.nf_Table_scheme (by decide) ?_
  have k1 : ∀ b o, H b = some o → b ≠ t → (upd H t (.ins T.C_Table dx (putF "scheme" (.ref p) []))) b = some o := fun b o e nb => (upd_ne nb).trans e
  wtm_at "rd"
  refine r_new rfl fun al n_al => ?_
  have al_t : al ≠ t := (ne_of_none upd_same n_al).symm
  have n_al0 : H al = none := by rw [upd_ne al_t] at n_al; exact n_al
  have ht1 : (upd (upd H t (.ins T.C_Table dx (putF "scheme" (.ref p) []))) al (.lst [])) t = some (.ins T.C_Table dx (putF "scheme" (.ref p) [])) := (upd_ne al_t.symm).trans upd_same
  wtm_at "rd"
  refine r_put ht1 T.c_Table T.nf_Table_records (Nat.lt_of_le_of_lt (putF_len _ _ _) (by decide)) ?_
  have k2 : ∀ b o, H b = some o → b ≠ t → (upd (upd (upd H t (.ins T.C_Table dx (putF "scheme" (.ref p) []))) al (.lst [])) t (.ins T.C_Table dx (tblF p al))) b = some o := fun b o e nb => (upd_ne nb).trans ((upd_ne (ne_of_none e n_al0)).trans (k1 b o e nb))
  have hal : (upd (upd (upd H t (.ins T.C_Table dx (putF "scheme" (.ref p) []))) al (.lst [])) t (.ins T.C_Table dx (tblF p al))) al = some (.lst []) := (upd_ne al_t).trans upd_same
  have ht2 : (upd (upd (upd H t (.ins T.C_Table dx (putF "scheme" (.ref p) []))) al (.lst [])) t (.ins T.C_Table dx (tblF p al))) t = some (.ins T.C_Table dx (tblF p al)) := upd_same
  rw [show putF "records" (V.ref al) (putF "scheme" (.ref p) []) = tblF p al from rfl]
  revert k2 hal ht2
  generalize upd (upd (upd H t (.ins T.C_Table dx (putF "scheme" (.ref p) []))) al (.lst [])) t (.ins T.C_Table dx (tblF p al)) = H1
  intro k2 hal ht2
  have bt : ∀ {b : Addr} {o : HO}, H b = some o → (∀ C d f, o ≠ .ins C d f) → H1 b = some o := fun {b o} e n => k2 b o e (ne_of e ht (n _ _ _))
  have ha1 : H1 a = some (.lst (bs.map V.ref)) := bt ha fun _ _ _ z => nomatch z
  have hr1 : RowsIn H1 bs rs := All2.imp hr0 fun _ _ z => bt z fun _ _ _ y => nomatch y
  have a_al : a ≠ al := ne_of_none ha n_al0
  have b_al : ∀ {b : Addr} {x : List (Key × V)}, H b = some (.dK x) → b ≠ al := fun {b x} e => ne_of_none e n_al0
  have nt : ∀ {x : Addr}, H x = none → x ≠ t := fun {x} e z => by rw [z, ht] at e; cases e
  dsimp only
  refine r_for (r_enum ?_)
  wtm_at "rd"
  refine ⟨a, _, rfl, SqL.of ha1, ?_⟩
  refine for_it (walk_enum (K := K) (a := a) (xs := bs.map V.ref)) (fun i σ H' => ∃ (y3 y4 y5 : Option V) (as : List Addr), σ = [some (.ref t), some (.ref p), some (.ref a), y3, y4, y5] ∧ (∀ b o, H b = some o → b ≠ t → H' b = some o) ∧ H' t = some (.ins T.C_Table dx (tblF p al)) ∧ H' al = some (.lst (as.map V.ref)) ∧ RowsIn H' as (rs.take i) ∧ (∀ x ∈ as, H x = none ∧ x ≠ al) ∧ ∀ r ∈ rs.take i, badCol sc r = none) ⟨_, _, _, [], rfl, k2, ht2, hal, by rw [List.take_zero]; exact All2.nil, fun x h => (nomatch h), fun r z => (by rw [List.take_zero] at z; cases z)⟩ (fun i σ H' _ ⟨_, _, _, _, _, k, _⟩ => SqL.of (k _ _ ha (ne_of ha ht fun z => nomatch z))) ?_ ?_
  · rintro i v σ H2 H3 hi ⟨y3, y4, y5, as, rfl, k, ht3, hal3, hrs, hfr, hall⟩ ⟨T0, x, y, rfl, nT, rfl, hx, hy⟩
    cases hx
    rw [List.length_map] at hi
    dsimp only at hy
    rw [List.getElem?_map] at hy
    obtain ⟨b, hb, rfl⟩ := Option.map_eq_some_iff.mp hy
    obtain ⟨r, hr, gb⟩ := hr0.get hb
    refine r_gtup (SqT.of upd_same) rfl ?_
    have sT := same_new (o := .tup [.int (i : Nat), .ref b]) nT
    have k3 : ∀ b' o, H b' = some o → b' ≠ t → (upd H2 T0 (.tup [.int (i : Nat), .ref b])) b' = some o := fun b' o e nb => sT _ _ (k b' o e nb)
    have ht3 := sT _ _ ht3
    have hal3 := sT _ _ hal3
    have hrs := RowsIn.same hrs sT
    have fr3 : ∀ {x : Addr}, (upd H2 T0 (.tup [.int (i : Nat), .ref b])) x = none → H x = none := fun {x} e => by
      cases hh : H x with
      | none => rfl
      | some o =>
        by_cases z : x = t
        · rw [z, ht3] at e; cases e
        · rw [k3 x o hh z] at e; cases e
    revert k3 ht3 hal3 hrs fr3
    generalize upd H2 T0 (.tup [.int (i : Nat), .ref b]) = H3
    intro k3 ht3 hal3 hrs fr3
    wtm_at "rd"
    have gb3 := k3 _ _ gb (ne_of gb ht fun z => nomatch z)
    have hrm := List.mem_of_getElem? hr
    refine ⟨p, b, sc, r, rfl, SchAt.but o ht (by decide) k3, hg, gb3, hf r hrm, fun H4 s4 => ?_⟩
    have k4 : ∀ b' o, H b' = some o → b' ≠ t → H4 b' = some o := fun b' o e nb => s4 _ _ (k3 b' o e nb)
    cases hbc : badCol sc r with
    | some w =>
      simp only [partV]
      wtm_at "rd"
      refine ⟨rfl, ?_⟩
      rw [decide_eq_false (fun z => nomatch z)]
      wtm_at "rdi"
      refine r_mko ?_
      wtm_at "rd"
      refine ⟨Nat.le_of_ble_eq_true rfl, raise_row (i := (i : Nat)) (z := w) fun d H' nd hd s => ?_⟩
      have e := bad_cut (j := 0) hall hr hbc
      rw [Nat.zero_add] at e
      exact qE i w e d H' (fr3 (s4.free nd)) hd fun b' o e nb => s _ _ (k4 b' o e nb)
    | none =>
      simp only [partV]
      wtm_at "rdi"
      have ht4 := s4 _ _ ht3
      have hal4 := s4 _ _ hal3
      have hrs4 := RowsIn.same hrs s4
      refine r_get ht4 T.c_Table T.nf_Table_records (tbl_records _ _) ?_
      wtm_at "rd"
      refine r_tyL (SqL.of hal4) ?_
      wtm_at "rd"
      refine ⟨b, _, rfl, .inl (s4 _ _ gb3), fun c n_c => ?_⟩
      have fc : H c = none := fr3 (s4.free n_c)
      have c_al : c ≠ al := (ne_of_none hal4 n_c).symm
      have c_t : c ≠ t := nt fc
      have lz : as.length = i := by rw [hrs4.len, List.length_take]; omega
      wtm_at "rd"
      have hal5 : (upd H4 c (.dK (rowK r))) al = some (.lst (as.map V.ref)) := (upd_ne c_al.symm).trans hal4
      refine r_app hal5 (small1000 (by rw [List.length_map]; omega)) ?_
      wtm_at "rd"
      refine ⟨_, _, _, as ++ [c], rfl, fun b' o e nb => (upd_ne (ne_of_none e n_al0)).trans ((upd_ne (ne_of_none e fc)).trans (k4 b' o e nb)), (upd_ne al_t.symm).trans ((upd_ne c_t.symm).trans ht4), by rw [upd_same, List.map_append]; rfl, ?_, fun x hx => ?_, fun x hx => ?_⟩
      · rw [List.take_add_one, hr]
        refine All2.snoc ⟨hrs4.len, fun j x y e1 e2 => ?_⟩ ((upd_ne c_al).trans upd_same)
        have xm := List.mem_of_getElem? e1
        have gx := hrs4.at_ j x y e1 e2
        exact (upd_ne (hfr x xm).2).trans ((upd_ne (ne_of_none gx n_c)).trans gx)
      · rcases List.mem_append.mp hx with z | z
        · exact hfr x z
        · rw [List.mem_singleton.mp z]; exact ⟨fc, c_al⟩
      · rcases take_snoc hr hx with z | z
        · exact hall x z
        · rw [z]; exact hbc
  · rintro σ H2 ⟨y3, y4, y5, as, rfl, k, ht3, hal3, hrs, hfr, hall⟩
    rw [List.length_map, la, List.take_length] at hrs hall
    wtm_at "rd"
    exact q (bad_none hall) al as H2 n_al0 (fun x hx => (hfr x hx).1) ⟨⟨dx, ht3⟩, SchAt.but o ht (by decide) k, hal3, hrs⟩ k
end
/-! ### comprehensions that make a new tuple for each item -/
theorem lc_tups {σ : L2.St} {H : Hp} {Q : VK} {te : TE} {K : PySem.W.Frag} {a : Addr} {xs : List V} {n : Nat} (f : V → List V) (hS : SqL K H a xs) (hz : xs.length ≤ 1000)
    (he : ∀ (x : V) (H' : Hp) (QQ : VK), x ∈ xs → Same H H' → (∀ u H'', H' u = none → H'' u = some (.tup (f x)) → Same H' H'' → QQ (.ref u) H'') → te ((wipe σ [n]).set n (some x)) H' QQ)
    (hq : ∀ D (us : List Addr) H', H D = none → us.length = xs.length → H' D = some (.lst (us.map V.ref)) → (∀ (j : Nat) (u : Addr) (x : V), us[j]? = some u → xs[j]? = some x → H' u = some (.tup (f x))) → Same H H' → Q (.ref D) H') : lcGo (Itl K a) (gName n) tYes te [n] σ Q H := by
  intro D nD
  refine lc_list (K := K) (a := a) (xs := xs) (fun i H' => ∃ us : List Addr, us.length = i ∧ H' D = some (.lst (us.map V.ref)) ∧ (∀ (j : Nat) (u : Addr) (x : V), us[j]? = some u → xs[j]? = some x → H' u = some (.tup (f x))) ∧ Same H H') ⟨[], rfl, upd_same, fun j u x h => (by cases h), same_new nD⟩ (fun i H' _ ⟨_, _, _, _, s⟩ => s.seq hS) ?_ ?_
  · rintro i x H4 hx ⟨us, hl, hD4, hu, s4⟩
    refine ⟨wipe1, ?_⟩
    show te _ _ _
    refine he x H4 _ (List.mem_of_getElem? hx) s4 fun u H5 nu hu5 s5 => ?_
    have hD5 := s5 _ _ hD4
    have hi : i < xs.length := (List.getElem?_eq_some_iff.mp hx).1
    refine ⟨_, hD5, small1000 (by rw [List.length_map, hl]; omega), us ++ [u], by rw [List.length_append, hl]; rfl, by rw [upd_same, List.map_append]; rfl, fun j v y h1 h2 => ?_, fun b o e => (upd_ne (ne_of_none e nD)).trans (s5 _ _ (s4 _ _ e))⟩
    rcases Nat.lt_or_ge j us.length with hj | hj
    · rw [List.getElem?_append_left hj] at h1
      have z := s5 _ _ (hu j v y h1 h2)
      exact (upd_ne (ne_of z hD5 fun q => nomatch q)).trans z
    · rw [List.getElem?_append_right hj] at h1
      cases hk : j - us.length with
      | zero =>
        rw [hk] at h1
        cases h1
        have : j = i := by omega
        rw [this, hx] at h2
        cases h2
        exact (upd_ne (ne_of hu5 hD5 fun q => nomatch q)).trans hu5
      | succ m => rw [hk] at h1; cases h1
  · rintro H4 ⟨us, hl, hD4, hu, s4⟩
    exact hq D us H4 nD hl hD4 hu s4

theorem r_p10 {H : Hp} {Q : VK} {k n : Int} (h0 : 0 ≤ k) (h1 : k ≤ 1000) (e : (10 : Int) ^ k.toNat = n) (h : Q (.int n) H) : rI CPow (fun i j => V.int (i ^ j.toNat)) (.int 10) (.int k) H Q := ⟨10, k, rfl, rfl, ⟨h0, by omega, by decide⟩, by show Q (.int (10 ^ k.toNat)) H; rw [e]; exact h⟩
def putR (r : Row) (w : Str) (v : V) : Row := if w ∈ keysR r then r.map fun p => if p.1 = w then (p.1, v) else p else r ++ [(w, v)]
theorem any_row (w : Str) (r : Row) : ((rowK r).any fun kv => decide (kv.1 = Sum.inr w)) = decide (w ∈ keysR r) := by
  rw [Bool.eq_iff_iff, List.any_eq_true, decide_eq_true_eq]
  constructor
  · rintro ⟨x, hx, e⟩
    obtain ⟨p, hp, rfl⟩ := List.mem_map.mp hx
    exact List.mem_map.mpr ⟨p, hp, Sum.inr.inj (of_decide_eq_true e)⟩
  · intro h
    obtain ⟨p, hp, e⟩ := List.mem_map.mp h
    exact ⟨_, List.mem_map.mpr ⟨p, hp, rfl⟩, decide_eq_true (by rw [e])⟩
theorem put_row (w : Str) (v : V) (r : Row) : putK (rowK r) (Sum.inr w) v = rowK (putR r w v) := by
  unfold putK putR
  rw [any_row]
  by_cases c : w ∈ keysR r
  · rw [decide_eq_true c, if_pos rfl, if_pos c]
    unfold rowK
    rw [List.map_map, List.map_map]
    refine List.map_congr_left fun p _ => ?_
    show (if (Sum.inr p.1 : Key) = Sum.inr w then _ else _) = _
    by_cases e : p.1 = w
    · rw [if_pos (by rw [e])]
      show _ = ((Sum.inr (if p.1 = w then (p.1, v) else p).1 : Key), (if p.1 = w then (p.1, v) else p).2)
      rw [if_pos e]
    · rw [if_neg fun z => e (Sum.inr.inj z)]
      show _ = ((Sum.inr (if p.1 = w then (p.1, v) else p).1 : Key), (if p.1 = w then (p.1, v) else p).2)
      rw [if_neg e]
  · rw [decide_eq_false c, if_neg Bool.false_ne_true, if_neg c]
    unfold rowK
    rw [List.map_append]
    rfl
theorem put_new {r : Row} {w : Str} {v : V} (h : ¬ w ∈ keysR r) : putR r w v = r ++ [(w, v)] := if_neg h
theorem keys_put {r : Row} {w : Str} {v : V} (h : w ∈ keysR r) : keysR (putR r w v) = keysR r := by
  have e : putR r w v = r.map fun p => if p.1 = w then (p.1, v) else p := if_pos h
  rw [e]
  unfold keysR
  rw [List.map_map]
  refine List.map_congr_left fun p _ => ?_
  show (if p.1 = w then (p.1, v) else p).1 = p.1
  split <;> rfl
theorem mem_put {r : Row} {w : Str} {v : V} {p : Str × V} (h : p ∈ putR r w v) : p ∈ r ∨ p = (w, v) := by
  unfold putR at h
  split at h
  · obtain ⟨x, hx, e⟩ := List.mem_map.mp h
    split at e
    · rename_i e1
      rw [e1] at e
      exact .inr e.symm
    · rw [← e]; exact .inl hx
  · rcases List.mem_append.mp h with z | z
    · exact .inl z
    · exact .inr (List.mem_singleton.mp z)
theorem len_put {r : Row} {w : Str} {v : V} : (putR r w v).length ≤ r.length + 1 := by
  unfold putR
  split
  · rw [List.length_map]; omega
  · rw [List.length_append]; exact Nat.le_refl _
theorem r_putR {H : Hp} {d : Addr} {r : Row} {w : Str} {v : V} {F : Hp → Prop} (h : H d = some (.dK (rowK r))) (hl : r.length ≤ 1000) (q : F (upd H d (.dK (rowK (putR r w v))))) : ∃ a H4, V.ref d = .ref a ∧ DPut H a (.str w) v H4 ∧ F H4 := by
  refine ⟨d, _, rfl, DPut.k (k := Sum.inr w) h (small1000 (by rw [rowK, List.length_map]; exact hl)), ?_⟩
  rw [put_row]
  exact q
/-- a value that a column may hold -/
def cellOk (sc : Sch) (w : Str) (v : V) : Prop := ∃ i : Int, v = .int i ∧ -1000000000000 ≤ i ∧ i ≤ 1000000000000 ∧ (w ∈ sc.ms → i = 0 ∨ i = 1)
def keyOk (sc : Sch) (w : Str) (v : V) : Prop := ∀ i : Int, v = .int i → w ∈ sc.ps ++ sc.ss.map Srt.ky → -10000000000 ≤ i ∧ i ≤ 10000000000
def cellK (sc : Sch) (w : Str) (v : V) : Prop := cellOk sc w v ∧ keyOk sc w v
structure GRow (sc : Sch) (r : Row) : Prop where
  ks : (keysR r).Perm sc.cols
  ok : ∀ p ∈ r, cellOk sc p.1 p.2
structure GKRow (sc : Sch) (r : Row) : Prop extends GRow sc r where
  kb : ∀ p ∈ r, keyOk sc p.1 p.2
theorem GRow.rn {sc : Sch} {r : Row} (h : GRow sc r) (hg : sc.good) : RowN r := by
  refine ⟨⟨fun p hp => ?_, ?_⟩, h.ks.nodup_iff.mpr hg.n2⟩
  · obtain ⟨i, e, _⟩ := h.ok p hp
    rw [e]
    rfl
  · have l := h.ks.length_eq
    rw [keysR, List.length_map] at l
    rw [l]
    exact Nat.le_trans hg.lcols (by decide)
theorem GRow.get {sc : Sch} {r : Row} (h : GRow sc r) (hg : sc.good) {w : Str} (hw : w ∈ sc.cols) : ∃ v, getR r w = some v ∧ cellOk sc w v := by
  obtain ⟨p, hp, rfl⟩ := List.mem_map.mp (h.ks.mem_iff.mpr hw)
  exact ⟨p.2, getR_mem (h.rn hg).nd hp, h.ok p hp⟩
theorem GRow.bad {sc : Sch} {r : Row} (h : GRow sc r) (hg : sc.good) : badCol sc r = none := by
  unfold badCol
  have e : sc.cols.find? (fun w => !colOk sc.ms r w) = none := List.find?_eq_none.mpr fun w hw => by
    obtain ⟨v, e1, i, rfl, h1, h2, h3⟩ := h.get hg hw
    unfold colOk
    rw [e1]
    show ¬ (!(if w ∈ sc.ms then decide (i = 0 ∨ i = 1) else decide ((if i < 0 then -i else i) ≤ 1000000000000))) = true
    by_cases c : w ∈ sc.ms
    · rw [if_pos c, decide_eq_true (h3 c)]
      exact Bool.false_ne_true
    · rw [if_neg c, decide_eq_true (by split <;> omega)]
      exact Bool.false_ne_true
  rw [e]
  have e2 : othersR sc r = [] := List.filter_eq_nil_iff.mpr fun k hk => by
    rw [decide_eq_true (h.ks.mem_iff.mp hk)]
    exact Bool.false_ne_true
  show leastS (othersR sc r) = none
  rw [e2]
  rfl
theorem GRow.put {sc : Sch} {r : Row} {w : Str} {v : V} (h : GRow sc r) (hw : w ∈ sc.cols) (hv : cellOk sc w v) : GRow sc (putR r w v) := by
  refine ⟨by rw [keys_put (h.ks.mem_iff.mpr hw)]; exact h.ks, fun p hp => ?_⟩
  rcases mem_put hp with z | z
  · exact h.ok p z
  · rw [z]; exact hv
def spContent : Sp := fun vs H Q _ => ∃ (d c r : Addr), vs = [.ref d] ∧ Drw H d c r ∧ ∀ (i : Int) (H' : Hp), -1000000000000 ≤ i → i ≤ 1000000000000 → Drw H' d c r → Ext d r H H' → Q (.int i) H'
def spRowL : Sp := fun vs H Q _ => ∃ (d c r p : Addr) (sc : Sch) (s g : Int), vs = [.ref d, .ref p, .int s, .int g] ∧ Drw H d c r ∧ SpecAt H p sc ∧ sc.good ∧ 1 ≤ s ∧ s ≤ 6 ∧ 1 ≤ g ∧ g ≤ 1000000000 ∧ ∀ (a : Addr) (rw : Row) (H' : Hp), H a = none → H' a = some (.dK (rowK rw)) → GKRow sc rw → Drw H' d c r → Ext d r H H' → Q (.ref a) H'
def spRowsL : Sp := fun vs H Q _ => ∃ (d c r p : Addr) (sc : Sch) (n : Nat), vs = [.ref d, .ref p, .int n] ∧ Drw H d c r ∧ SpecAt H p sc ∧ sc.good ∧ n ≤ 60 ∧ ∀ (l : Addr) (as : List Addr) (rs : List Row) (H' : Hp), H l = none → (∀ x ∈ as, H x = none) → as.Nodup → H' l = some (.lst (as.map V.ref)) → RowsIn H' as rs → rs.length = n → (∀ x ∈ rs, GKRow sc x) → Drw H' d c r → Ext d r H H' → Q (.ref l) H'
def spTurned : Sp := fun vs H Q _ => ∃ (a : Addr) (r : Row), vs = [.ref a] ∧ H a = some (.dK (rowK r)) ∧ RowN r ∧ ∀ (b : Addr) (H' : Hp), H b = none → H' b = some (.dK (rowK r.reverse)) → Same H H' → Q (.ref b) H'
structure SpecX (H : Hp) (p aS aP aV aM : Addr) (ts : List Addr) (sc : Sch) : Prop where
  e0 : H p = some (.lst [.ref aS, .ref aP, .ref aV, .ref aM])
  e1 : H aS = some (.lst (ts.map V.ref))
  e2 : All2 (fun t s => H t = some (.tup (srtV s))) ts sc.ss
  e3 : H aP = some (.lst (sc.ps.map V.str))
  e4 : H aV = some (.lst (sc.vs.map V.str))
  e5 : H aM = some (.lst (sc.ms.map V.str))
theorem SpecAt.x {H : Hp} {p : Addr} {sc : Sch} (h : SpecAt H p sc) : ∃ aS aP aV aM ts, SpecX H p aS aP aV aM ts sc := by
  obtain ⟨aS, aP, aV, aM, ts, h0, h1, h2, h4, h5, h6⟩ := h
  exact ⟨aS, aP, aV, aM, ts, h0, h1, h2, h4, h5, h6⟩
section
variable {H H' : Hp} {p aS aP aV aM a d c r : Addr} {ts : List Addr} {sc : Sch}
theorem SpecX.at_ (h : SpecX H p aS aP aV aM ts sc) : SpecAt H p sc := ⟨aS, aP, aV, aM, ts, h.e0, h.e1, h.e2, h.e3, h.e4, h.e5⟩
theorem SpecX.same (h : SpecX H p aS aP aV aM ts sc) (s : Same H H') : SpecX H' p aS aP aV aM ts sc := ⟨s _ _ h.e0, s _ _ h.e1, h.e2.imp fun _ _ z => s _ _ z, s _ _ h.e3, s _ _ h.e4, s _ _ h.e5⟩
theorem SpecX.ext (h : SpecX H p aS aP aV aM ts sc) (D : Drw H d c r) (e : Ext d r H H') : SpecX H' p aS aP aV aM ts sc := by
  have h0' : H p = some (.lst ([aS, aP, aV, aM].map V.ref)) := h.e0
  exact ⟨e _ _ h.e0 (refs_drc D h0').1 (refs_drc D h0').2.1, e _ _ h.e1 (refs_drc D h.e1).1 (refs_drc D h.e1).2.1, h.e2.imp fun _ _ z => e _ _ z (tup_dr D z).1 (tup_dr D z).2, e _ _ h.e3 (strs_dr D h.e3).1 (strs_dr D h.e3).2, e _ _ h.e4 (strs_dr D h.e4).1 (strs_dr D h.e4).2, e _ _ h.e5 (strs_dr D h.e5).1 (strs_dr D h.e5).2⟩
theorem SpecX.put {k : List (Key × V)} {o : HO} (h : SpecX H p aS aP aV aM ts sc) (hk : H a = some (.dK k)) : SpecX (upd H a o) p aS aP aV aM ts sc := by
  have L : ∀ {b : Addr} {xs : List V}, H b = some (.lst xs) → (upd H a o) b = some (.lst xs) := fun {b xs} e => (upd_ne (ne_of e hk fun z => nomatch z)).trans e
  exact ⟨L h.e0, L h.e1, h.e2.imp fun _ _ z => (upd_ne (ne_of z hk fun y => nomatch y)).trans z, L h.e3, L h.e4, L h.e5⟩
end
theorem first_new {ks pre post : List Str} {i : Nat} {w : Str} (hn : (pre ++ (ks ++ post)).Nodup) (hw : ks[i]? = some w) : ¬ w ∈ pre ++ ks.take i := fun hm => by
  have hi := List.getElem?_eq_some_iff.mp hw
  have e : ks = ks.take i ++ (w :: ks.drop (i + 1)) := by rw [← hi.2, List.getElem_cons_drop, List.take_append_drop]
  rw [e, List.append_assoc, ← List.append_assoc] at hn
  exact (List.nodup_append.mp hn).2.2 w hm w (by show w ∈ w :: _; exact List.mem_cons_self) rfl
theorem row_add {rr : Row} {pre ks : List Str} {i : Nat} {w : Str} {v : V} (hk : keysR rr = pre ++ ks.take i) (hw : ks[i]? = some w) (hn : ¬ w ∈ keysR rr) : keysR (putR rr w v) = pre ++ ks.take (i + 1) := by
  rw [put_new hn, keysR, List.map_append, List.take_add_one, hw]
  show keysR rr ++ [w] = _
  rw [hk, List.append_assoc]
  rfl
theorem cells_add {sc : Sch} {rr : Row} {w : Str} {v : V} (h : ∀ x ∈ rr, cellK sc x.1 x.2) (hv : cellK sc w v) : ∀ x ∈ putR rr w v, cellK sc x.1 x.2 := fun x hx => by
  rcases mem_put hx with z | z
  · exact h x z
  · rw [z]; exact hv
theorem ext_dict {H H' : Hp} {d r a : Addr} {o : HO} (E : Ext d r H H') (na : H a = none) : Ext d r H (upd H' a o) := fun b x e n1 n2 => (upd_ne (ne_of_none e na)).trans (E b x e n1 n2)
theorem dict_dr {H : Hp} {d c r a : Addr} {k : List (Key × V)} (D : Drw H d c r) (h : H a = some (.dK k)) : a ≠ d ∧ a ≠ r ∧ a ≠ c := by
  obtain ⟨_, _, _, ns, rs, t, h1, h2, h3, _⟩ := D
  exact ⟨ne_of h h1 (fun z => nomatch z), ne_of h h3 (fun z => nomatch z), ne_of h h2 (fun z => nomatch z)⟩
section
variable {P : Program} {w : World} {K : PySem.W.Frag} {mg : Str → Option Value} {base : Heap}
end

theorem RowsIn.set {H : Hp} {as : List Addr} {rs : List Row} {j : Nat} {a : Addr} {r' : Row} (h : RowsIn H as rs) (nd : as.Nodup) (hj : as[j]? = some a) : RowsIn (upd H a (.dK (rowK r'))) as (rs.set j r') := by
  refine ⟨by rw [List.length_set]; exact h.len, fun i x y e1 e2 => ?_⟩
  have hjl := List.getElem?_eq_some_iff.mp hj
  by_cases c : j = i
  · subst c
    rw [hj] at e1
    cases e1
    rw [List.getElem?_set_self (by rw [← h.len]; exact hjl.1)] at e2
    cases e2
    exact upd_same
  · rw [List.getElem?_set_ne c] at e2
    have hx := h.at_ i x y e1 e2
    have hi := List.getElem?_eq_some_iff.mp e1
    refine (upd_ne fun z => ?_).trans hx
    subst z
    exact c ((List.getElem_inj (h₀ := hjl.1) (h₁ := hi.1) nd).mp (hjl.2.trans hi.2.symm))
theorem RowsIn.ext {H H' : Hp} {as : List Addr} {rs : List Row} {d c r : Addr} (h : RowsIn H as rs) (D : Drw H d c r) (e : Ext d r H H') : RowsIn H' as rs := All2.imp h fun _ _ z => e _ _ z (dict_dr D z).1 (dict_dr D z).2.1
def KeepX (d r : Addr) (as : List Addr) (H H' : Hp) : Prop := ∀ b o, H b = some o → ¬ b ∈ as → b ≠ d → b ≠ r → H' b = some o
def spWiden : Sp := fun vs H Q _ => ∃ (d c r p l : Addr) (sc : Sch) (as : List Addr) (rs : List Row), vs = [.ref d, .ref p, .ref l] ∧ Drw H d c r ∧ SpecAt H p sc ∧ sc.good ∧ H l = some (.lst (as.map V.ref)) ∧ RowsIn H as rs ∧ as.Nodup ∧ (∀ x ∈ rs, GRow sc x) ∧ rs.length ≤ 8 ∧
  ∀ (rs' : List Row) (H' : Hp), RowsIn H' as rs' → rs'.length = rs.length → (∀ x ∈ rs', GRow sc x) → H' l = some (.lst (as.map V.ref)) → SpecAt H' p sc → Drw H' d c r → KeepX d r as H H' → Q (.ref l) H'
theorem rev_keys {r : Row} : keysR r.reverse = (keysR r).reverse := List.map_reverse
theorem merge_new : ∀ {more acc : Row}, (keysR (acc ++ more)).Nodup → mergeK (rowK acc) (rowK more) = rowK (acc ++ more)
  | [], acc, _ => by rw [List.append_nil]; rfl
  | p :: more, acc, h => by
    show mergeK (putK (rowK acc) (Sum.inr p.1) p.2) (rowK more) = _
    have hn : ¬ p.1 ∈ keysR acc := fun z => by
      rw [keysR, List.map_append] at h
      exact (List.nodup_append.mp h).2.2 p.1 z p.1 (by show p.1 ∈ p.1 :: _; exact List.mem_cons_self) rfl
    rw [put_row, put_new hn, merge_new (acc := acc ++ [(p.1, p.2)]) (by rw [List.append_assoc]; exact h), List.append_assoc]
    rfl
/-- the pair of a key and its value -/
def pairV (r : Row) : V → List V
  | .str w => [.str w, (getR r w).getD .non]
  | _ => []

theorem KeepX.refl {d r : Addr} {as : List Addr} {H : Hp} : KeepX d r as H H := fun _ _ e _ _ _ => e
structure WInv (d c r p l aS aP aV aM : Addr) (ts : List Addr) (sc : Sch) (as : List Addr) (n : Nat) (H H' : Hp) (rs : List Row) : Prop where
  D : Drw H' d c r
  X : SpecX H' p aS aP aV aM ts sc
  hl : H' l = some (.lst (as.map V.ref))
  row : RowsIn H' as rs
  len : rs.length = n
  g : ∀ x ∈ rs, GRow sc x
  k : KeepX d r as H H'
section
variable {d c r p l aS aP aV aM a : Addr} {ts : List Addr} {sc : Sch} {as : List Addr} {n : Nat} {H H1 H2 : Hp} {rs : List Row}
theorem WInv.ext (W : WInv d c r p l aS aP aV aM ts sc as n H H1 rs) (D2 : Drw H2 d c r) (E : Ext d r H1 H2) : WInv d c r p l aS aP aV aM ts sc as n H H2 rs :=
  ⟨D2, W.X.ext W.D E, E _ _ W.hl (refs_drc W.D W.hl).1 (refs_drc W.D W.hl).2.1, W.row.ext W.D E, W.len, W.g, fun b o e n1 n2 n3 => E b o (W.k b o e n1 n2 n3) n2 n3⟩
theorem WInv.same (W : WInv d c r p l aS aP aV aM ts sc as n H H1 rs) (s : Same H1 H2) : WInv d c r p l aS aP aV aM ts sc as n H H2 rs := W.ext (W.D.same s) (Ext.of s)
theorem WInv.put (W : WInv d c r p l aS aP aV aM ts sc as n H H1 rs) (nd : as.Nodup) {i : Nat} {r1 r2 : Row} (ha : as[i]? = some a) (hr : rs[i]? = some r1) (g : GRow sc r2) : WInv d c r p l aS aP aV aM ts sc as n H (upd H1 a (.dK (rowK r2))) (rs.set i r2) := by
  have ga := W.row.at_ i a r1 ha hr
  obtain ⟨x1, x2, x3⟩ := dict_dr W.D ga
  refine ⟨W.D.put x1 x2 x3, W.X.put ga, (upd_ne (ne_of W.hl ga fun z => nomatch z)).trans W.hl, W.row.set nd ha, by rw [List.length_set]; exact W.len, fun x hx => ?_, fun b o e n1 n2 n3 => (upd_ne fun z => n1 (by rw [z]; exact List.mem_of_getElem? ha)).trans (W.k b o e n1 n2 n3)⟩
  rcases List.mem_or_eq_of_mem_set hx with z | z
  · exact W.g x z
  · rw [z]; exact g
end
theorem paired_of {H : Hp} {K : PySem.W.Frag} : ∀ {us : List Addr} {kvs : List (Key × V)}, us.length = kvs.length → (∀ (j : Nat) (u : Addr) (kv : Key × V), us[j]? = some u → kvs[j]? = some kv → SqT K H u [kV kv.1, kv.2]) → Paired (fun p kv => SqT K H p [kV kv.1, kv.2]) us kvs
  | [], [], _, _ => .nil
  | u :: us, kv :: kvs, h, f => .cons (f 0 u kv rfl rfl) (paired_of (Nat.succ.inj h) fun j u' kv' e1 e2 => f (j + 1) u' kv' e1 e2)
  | [], _ :: _, h, _ => by cases h
  | _ :: _, [], h, _ => by cases h
theorem Sch.keyed {sc : Sch} (hg : sc.good) {w : Str} (h : w ∈ sc.ps ++ sc.ss.map Srt.ky) : w ∈ sc.cols ∧ ¬ w ∈ sc.ms := by
  have e : sc.cols = (sc.ps ++ sc.ss.map Srt.ky) ++ (sc.vs ++ sc.ms) := by unfold Sch.cols; rw [List.append_assoc]
  have n := hg.n2
  rw [e] at n ⊢
  exact ⟨List.mem_append.mpr (.inl h), fun z => (List.nodup_append.mp n).2.2 w h w (List.mem_append.mpr (.inr z)) rfl⟩

def spRecL (K : PySem.W.Frag) (CT CC CS : Addr) : Sp := fun vs H Q _ => ∃ (t : Addr) (sc : Sch) (rs : List Row) (p al : Addr) (as : List Addr) (i : Int), vs = [.ref t, .int i] ∧ TblAt K CT CC CS H t sc rs p al as ∧ rs.length ≤ 1000 ∧
  ((i < 0 ∨ rs.length ≤ i) → ∀ u H', H' u = some (.tup [.str "bad", .int i, .bl true]) → Same H H' → Q (.ref u) H') ∧ (∀ r, 0 ≤ i → rs[i.toNat]? = some r → ∀ u d H', H' u = some (.tup [.str "row", .bl true, .ref d]) → H' d = some (.dK (rowK r)) → Same H H' → Q (.ref u) H')
def spRecsR (K : PySem.W.Frag) (CT CC CS : Addr) : Sp := fun vs H Q _ => ∃ (t l : Addr) (sc : Sch) (rs : List Row) (p al : Addr) (as bs : List Addr), vs = [.ref t, .ref l] ∧ TblAt K CT CC CS H t sc rs p al as ∧ H l = some (.lst (bs.map V.ref)) ∧ RowsIn H bs rs ∧ (∀ r ∈ rs, RowN r) ∧ rs.length ≤ 100 ∧ ∀ H', Same H H' → Q (.bl true) H'
theorem clear_same {H H' : Hp} {a : Addr} {o : HO} (s : Same H H') (na : H a = none) : Same H (upd H' a o) := fun b x e => (upd_ne (ne_of_none e na)).trans (s b x e)
theorem eqB_flat {K : PySem.W.Frag} {H : Hp} {n : Nat} {v : V} (h : flatV v = true) : DQ.EqB K H (n + 1) v v true := .inl ⟨h, h, (eqV_self h).symm⟩
/-- (text, truth, row) of equal rows -/
theorem eq_told {K : PySem.W.Frag} {H : Hp} {x y z : V} {a b : Addr} {r : Row} (hx : flatV x = true) (hy : flatV y = true) (ha : H a = some (.dK (rowK r))) (hb : H b = some (.dK (rowK r))) (hr : RowN r) : ∀ (j : Nat) (u v : V), [x, y, .ref a][j]? = some u → [x, y, .ref b][j]? = some v → DQ.EqB K H 2 u v true
  | 0, _, _, e1, e2 => by cases e1; cases e2; exact eqB_flat hx
  | 1, _, _, e1, e2 => by cases e1; cases e2; exact eqB_flat hy
  | 2, _, _, e1, e2 => by
    cases e1
    cases e2
    have z := eq_row (K := K) ha hb hr hr
    rw [rowEq_self hr.nd hr.fl] at z
    exact z
  | j + 3, _, _, e1, _ => by cases e1
theorem eq_flat3 {K : PySem.W.Frag} {H : Hp} {x y z : V} (hx : flatV x = true) (hy : flatV y = true) (hz : flatV z = true) : ∀ (j : Nat) (u v : V), [x, y, z][j]? = some u → [x, y, z][j]? = some v → DQ.EqB K H 2 u v true
  | 0, _, _, e1, e2 => by cases e1; cases e2; exact eqB_flat hx
  | 1, _, _, e1, e2 => by cases e1; cases e2; exact eqB_flat hy
  | 2, _, _, e1, e2 => by cases e1; cases e2; exact eqB_flat hz
  | j + 3, _, _, e1, _ => by cases e1
theorem r_tyD {K : PySem.W.Frag} {H : Hp} {p : Addr} {k : List (Key × V)} {A : Prop} (h1 : H p = some (.dK k)) (h : A) : tyV K "dict" (.ref p) H ∧ A := ⟨Or.inr (Or.inr (Or.inl ⟨rfl, .inl ⟨_, h1⟩⟩)), h⟩

section
variable {σ : L2.St} {H : Hp} {Q : VK} {te : TE} {K : PySem.W.Frag} {a : Addr} {as : List Addr} {rs : List Row}
/-- [e for row in rows], e a new row by the row -/
theorem lc_rows {n : Nat} (f : Row → Row) (hS : H a = some (.lst (as.map V.ref))) (hr : RowsIn H as rs) (hz : rs.length ≤ 100)
    (he : ∀ (b : Addr) (r : Row) (H' : Hp) (QQ : VK), r ∈ rs → Same H H' → H' b = some (.dK (rowK r)) → (∀ u H'', H' u = none → H'' u = some (.dK (rowK (f r))) → Same H' H'' → QQ (.ref u) H'') → te ((wipe σ [n]).set n (some (.ref b))) H' QQ)
    (hq : ∀ D us H', H D = none → (∀ u ∈ us, H u = none) → us.Nodup → H' D = some (.lst (us.map V.ref)) → RowsIn H' us (rs.map f) → Same H H' → Q (.ref D) H') : lcGo (Itl K a) (gName n) tYes te [n] σ Q H := by
  intro D nD
  refine lc_list (K := K) (a := a) (xs := as.map V.ref) (fun i H' => ∃ us : List Addr, H' D = some (.lst (us.map V.ref)) ∧ RowsIn H' us ((rs.take i).map f) ∧ us.Nodup ∧ (∀ u ∈ us, H u = none) ∧ Same H H') ⟨[], upd_same, by rw [List.take_zero]; exact All2.nil, List.nodup_nil, fun _ h => (nomatch h), same_new nD⟩ (fun i H' _ ⟨_, _, _, _, _, s⟩ => SqL.of (s _ _ hS)) ?_ ?_
  · rintro i v H4 hv ⟨us, hD4, hu, nd, fr, s4⟩
    rw [List.getElem?_map] at hv
    obtain ⟨b, hb, rfl⟩ := Option.map_eq_some_iff.mp hv
    obtain ⟨r, hr', gb⟩ := All2.get hr hb
    refine ⟨wipe1, ?_⟩
    show te _ _ _
    refine he b r H4 _ (List.mem_of_getElem? hr') s4 (s4 _ _ gb) fun u H5 nu hu5 s5 => ?_
    have hD5 := s5 _ _ hD4
    have ll : us.length ≤ 100 := by rw [All2.len hu, List.length_map, List.length_take]; omega
    refine ⟨_, hD5, small1000 (by rw [List.length_map]; omega), us ++ [u], by rw [upd_same, List.map_append]; rfl, ?_, ?_, fun x hx => ?_, fun b o e => (upd_ne (ne_of_none e nD)).trans (s5 _ _ (s4 _ _ e))⟩
    · rw [List.take_add_one, hr', List.map_append]
      exact All2.snoc (All2.imp hu fun _ _ z => (upd_ne (ne_of (s5 _ _ z) hD5 fun q => nomatch q)).trans (s5 _ _ z)) ((upd_ne (ne_of hu5 hD5 fun q => nomatch q)).trans hu5)
    · refine List.nodup_append.mpr ⟨nd, List.nodup_cons.mpr ⟨List.not_mem_nil, List.nodup_nil⟩, fun x hx y hy e => ?_⟩
      rw [List.mem_singleton.mp hy] at e
      subst e
      obtain ⟨j, hj⟩ := List.getElem?_of_mem hx
      obtain ⟨_, _, z⟩ := All2.get hu hj
      rw [nu] at z
      cases z
    · rcases List.mem_append.mp hx with z | z
      · exact fr x z
      · rw [List.mem_singleton.mp z]; exact s4.free nu
  · rintro H4 ⟨us, hD4, hu, nd, fr, s4⟩
    rw [List.length_map, All2.len hr, List.take_length] at hu
    exact hq D us H4 nD fr nd hD4 hu s4
end
theorem make_tbl {K : PySem.W.Frag} {CT CC CS CB : Addr} {H : Hp} {F : Addr → Hp → Prop} {E : XK} {sc : Sch} {p a : Addr} {bs : List Addr} {rs : List Row} (hg : sc.good) (o : SchAt K CC CS H p sc) (ha : H a = some (.lst (bs.map V.ref))) (hr : RowsIn H bs rs) (hG : ∀ r ∈ rs, GRow sc r) (hl : rs.length ≤ 100)
    (h : ∀ t al as H', H t = none → H al = none → (∀ x ∈ as, H x = none) → Same H H' → TblAt K CT CC CS H' t sc rs p al as → F t H') : ∀ t dx, H t = none → H dx = none → dx ≠ t → spTabInit K CT CC CS CB [.ref t, .ref p, .ref a] (upd (upd H dx (.own t)) t (.ins CT dx [])) (fun v H2 => v = .non ∧ F t H2) E := fun t dx nt nd ntd => by
  have s0 : Same H (upd (upd H dx (.own t)) t (.ins CT dx [])) := same_two nt nd
  have bn : badFrom sc 0 rs = none := bad_none fun r hr => (hG r hr).bad hg
  exact ⟨t, dx, p, a, sc, bs, rs, rfl, upd_same, o.same s0, hg, s0 _ _ ha, hr.same s0, fun r hr => ((hG r hr).rn hg).toRowF, hl, fun i w z => (by rw [bn] at z; cases z), fun _ al as H' n1 n2 ot hk => ⟨rfl, h t al as H' nt (s0.free n1) (fun x hx => s0.free (n2 x hx)) (same_make nt nd hk) ot⟩⟩
theorem SchAt.nod {K : PySem.W.Frag} {CC CS : Addr} {H H' : Hp} {p : Addr} {s : Sch} (h : SchAt K CC CS H p s) (k : ∀ b o, H b = some o → (∀ z, o ≠ .dK z) → (∀ z, o ≠ .lst z) → H' b = some o) : SchAt K CC CS H' p s := by
  obtain ⟨dy, tS, tP, tV, tM, as, h0, h1, h2, h3, h4, h5⟩ := h
  have tup : ∀ {a : Addr} {xs : List V}, SqT K H a xs → SqT K H' a xs := fun {a xs} z => by
    rcases z with (z | ⟨u, z⟩) | z
    · exact .inl (.inl (k _ _ z (fun _ y => nomatch y) fun _ y => nomatch y))
    · exact .inl (.inr ⟨u, k _ _ z (fun _ y => nomatch y) fun _ y => nomatch y⟩)
    · exact .inr z
  exact ⟨dy, tS, tP, tV, tM, as, k _ _ h0 (fun _ y => nomatch y) (fun _ y => nomatch y), tup h1, h2.imp fun a s ⟨dz, z⟩ => ⟨dz, k _ _ z (fun _ y => nomatch y) fun _ y => nomatch y⟩, tup h3, tup h4, tup h5⟩
theorem GRow.rev {sc : Sch} {r : Row} (h : GRow sc r) : GRow sc r.reverse := ⟨by rw [rev_keys]; exact (List.reverse_perm _).trans h.ks, fun p hp => h.ok p (List.mem_reverse.mp hp)⟩
theorem getR_perm {r q : Row} (hp : r.Perm q) (hn : (keysR r).Nodup) {p : Str × V} (h : p ∈ r) : getR q p.1 = some p.2 := getR_mem ((hp.map Prod.fst).nodup_iff.mp hn) (hp.mem_iff.mp h)
theorem rowEq_perm {r q : Row} (hp : r.Perm q) (hn : (keysR r).Nodup) (h : ∀ p ∈ r, flatV p.2 = true) : rowEq r q = true := by
  unfold rowEq
  rw [hp.length_eq, beq_self_eq_true, Bool.true_and, List.all_eq_true]
  intro p hp'
  rw [getR_perm hp hn hp']
  exact eqV_self (h p hp')
theorem rowsEq_rev : ∀ {rs : List Row}, (∀ r ∈ rs, RowN r) → rowsEq rs (rs.map List.reverse) = true
  | [], _ => rfl
  | r :: rs, h => by
    show (rowEq r r.reverse && rowsEq rs (rs.map List.reverse)) = true
    rw [rowEq_perm (List.reverse_perm r).symm (h r List.mem_cons_self).nd (h r List.mem_cons_self).fl, rowsEq_rev fun x hx => h x (List.mem_cons_of_mem _ hx)]
    rfl
theorem getR_put {r : Row} {w : Str} {v : V} (hw : w ∈ keysR r) : getR (putR r w v) w = some v := by
  have e : putR r w v = r.map fun p => if p.1 = w then (p.1, v) else p := if_pos hw
  rw [e]
  clear e
  induction r with
  | nil => cases hw
  | cons p r ih =>
    unfold getR
    rw [List.map_cons, List.find?_cons]
    by_cases c : p.1 = w
    · rw [if_pos c]
      show Option.map _ (match decide (p.1 = w) with | true => _ | false => _) = _
      rw [decide_eq_true c]
      rfl
    · rw [if_neg c]
      show Option.map _ (match decide (p.1 = w) with | true => _ | false => _) = _
      rw [decide_eq_false c]
      exact ih (by rcases List.mem_cons.mp hw with z | z; exact absurd z.symm c; exact z)
theorem rowEq_bent {r : Row} {w : Str} {x y : Int} (hg : getR r w = some (.int x)) (hne : x ≠ y) : rowEq r (putR r w (.int y)) = false := by
  obtain ⟨p, hp, ep⟩ := Option.map_eq_some_iff.mp (show (r.find? fun p => decide (p.1 = w)).map (·.2) = _ from hg)
  have hm := List.mem_of_find?_eq_some hp
  have hk : p.1 = w := of_decide_eq_true (List.find?_some (p := fun p : Str × V => decide (p.1 = w)) hp)
  have hw : w ∈ keysR r := List.mem_map.mpr ⟨p, hm, hk⟩
  cases h : rowEq r (putR r w (.int y)) with
  | false => rfl
  | true =>
    unfold rowEq at h
    have z := List.all_eq_true.mp (Bool.and_eq_true_iff.mp h).2 p hm
    rw [hk, getR_put hw, ep] at z
    exact absurd (beq_iff_eq.mp (show (x == y) = true from z)) hne
theorem rowsEq_set : ∀ {rs : List Row} {j : Nat} {r q : Row}, rs[j]? = some r → rowEq r q = false → rowsEq rs (rs.set j q) = false
  | x :: rs, 0, r, q, h, e => by
    cases h
    show (rowEq x q && _) = false
    rw [e, Bool.false_and]
  | x :: rs, j + 1, r, q, h, e => by
    show (rowEq x x && rowsEq rs (rs.set j q)) = false
    rw [rowsEq_set (rs := rs) (j := j) h e, Bool.and_false]
  | [], _, _, _, h, _ => by cases h
theorem All2.drop {α β : Type} {P : α → β → Prop} {as : List α} {bs : List β} (h : All2 P as bs) (n : Nat) : All2 P (as.drop n) (bs.drop n) := ⟨by rw [List.length_drop, List.length_drop, h.len], fun j a b e1 e2 => h.at_ (n + j) a b (by rw [List.getElem?_drop] at e1; exact e1) (by rw [List.getElem?_drop] at e2; exact e2)⟩
theorem All2.take {α β : Type} {P : α → β → Prop} {as : List α} {bs : List β} (h : All2 P as bs) (n : Nat) : All2 P (as.take n) (bs.take n) := ⟨by rw [List.length_take, List.length_take, h.len], fun j a b e1 e2 => by
  rw [List.getElem?_take] at e1 e2
  by_cases c : j < n
  · rw [if_pos c] at e1 e2
    exact h.at_ j a b e1 e2
  · rw [if_neg c] at e1
    cases e1⟩
theorem All2.append {α β : Type} {P : α → β → Prop} {as as' : List α} {bs bs' : List β} (h : All2 P as bs) (k : All2 P as' bs') : All2 P (as ++ as') (bs ++ bs') := ⟨by rw [List.length_append, List.length_append, h.len, k.len], fun j a b e1 e2 => by
  by_cases c : j < as.length
  · rw [List.getElem?_append_left c] at e1
    rw [List.getElem?_append_left (by rw [← h.len]; exact c)] at e2
    exact h.at_ j a b e1 e2
  · rw [List.getElem?_append_right (by omega)] at e1
    rw [List.getElem?_append_right (by rw [← h.len]; omega), ← h.len] at e2
    exact k.at_ _ a b e1 e2⟩
theorem eq_same_rows {K : PySem.W.Frag} {H : Hp} {as bs : List Addr} {rs : List Row} (h1 : RowsIn H as rs) (h2 : RowsIn H bs rs) (hn : ∀ r ∈ rs, RowN r) : ∀ (j : Nat) (u v : V), (as.map V.ref)[j]? = some u → (bs.map V.ref)[j]? = some v → DQ.EqB K H 2 u v true := fun j u v e1 e2 => by
  rw [List.getElem?_map] at e1 e2
  obtain ⟨x, hx, rfl⟩ := Option.map_eq_some_iff.mp e1
  obtain ⟨y, hy, rfl⟩ := Option.map_eq_some_iff.mp e2
  obtain ⟨r, hr, gx⟩ := All2.get h1 hx
  have gy := All2.at_ h2 j y r hy hr
  have rn := hn r (List.mem_of_getElem? hr)
  have z := eq_row (K := K) gx gy rn rn
  rw [rowEq_self rn.nd rn.fl] at z
  exact z
/-- the first sort turned about -/
def flipS (s : Srt) : Srt := ⟨s.nm, s.ky, s.pt, !s.ds⟩
def flipC (sc : Sch) : Sch := ⟨(sc.ss.take 1).map flipS ++ sc.ss.drop 1, sc.ps, sc.vs, sc.ms⟩
theorem flip_map {α : Type} (f : Srt → α) (hf : ∀ s, f (flipS s) = f s) (ss : List Srt) : ((ss.take 1).map flipS ++ ss.drop 1).map f = ss.map f := by
  cases ss with
  | nil => rfl
  | cons s ss =>
    show f (flipS s) :: ss.map f = f s :: ss.map f
    rw [hf]
theorem flip_good {sc : Sch} (hg : sc.good) : (flipC sc).good := by
  have e1 : (flipC sc).names = sc.names := flip_map Srt.nm (fun _ => rfl) sc.ss
  have e2 : (flipC sc).cols = sc.cols := by
    show sc.ps ++ (((sc.ss.take 1).map flipS ++ sc.ss.drop 1).map Srt.ky ++ (sc.vs ++ sc.ms)) = _
    rw [flip_map Srt.ky (fun _ => rfl) sc.ss]
    rfl
  have el : (flipC sc).ss.length = sc.ss.length := by
    have := congrArg List.length e1
    rw [Sch.names, Sch.names, List.length_map, List.length_map] at this
    exact this
  refine ⟨by rw [e1, e2]; exact hg.w, by rw [e1]; exact hg.n1, by rw [e2]; exact hg.n2, fun x hx z hz => ?_, by rw [el]; exact hg.l0, by rw [el]; exact hg.l1, hg.l2, hg.l3, hg.l4⟩
  rcases List.mem_append.mp hx with y | y
  · obtain ⟨s, hs, rfl⟩ := List.mem_map.mp y
    exact hg.pt s (List.mem_of_mem_take hs) z hz
  · exact hg.pt x (List.mem_of_mem_drop y) z hz
theorem flip_ne {sc : Sch} (hg : sc.good) : sc ≠ flipC sc := fun e => by
  have l0 := hg.l0
  cases hs : sc.ss with
  | nil => rw [hs] at l0; cases l0
  | cons s ss =>
    have e1 : sc.ss = (flipC sc).ss := by rw [← e]
    rw [hs] at e1
    have e2 : (flipC sc).ss = flipS s :: ss := by unfold flipC; rw [hs]; rfl
    rw [e2] at e1
    injection e1 with e1 _
    have e3 : s.ds = !s.ds := congrArg Srt.ds e1
    cases h : s.ds <;> rw [h] at e3 <;> cases e3
theorem flip_rows {sc : Sch} {r : Row} (h : GRow sc r) : GRow (flipC sc) r := by
  have e2 : (flipC sc).cols = sc.cols := by
    show sc.ps ++ (((sc.ss.take 1).map flipS ++ sc.ss.drop 1).map Srt.ky ++ (sc.vs ++ sc.ms)) = _
    rw [flip_map Srt.ky (fun _ => rfl) sc.ss]
    rfl
  exact ⟨by rw [e2]; exact h.ks, h.ok⟩
theorem SchAt.good_eq {sc : Sch} : decide (sc = sc) = true := decide_eq_true rfl
theorem cutV_take {xs : List V} {k : Nat} (h : k ≤ xs.length) : cutV xs none (some (k : Int)) = xs.take k := by
  unfold cutV
  rw [HT.sIx_none, HT.sIx_nat, List.drop_zero, Nat.sub_zero, Nat.min_eq_left h]
theorem cutV_drop {xs : List V} {k : Nat} (h : k ≤ xs.length) : cutV xs (some (k : Int)) none = xs.drop k := by
  unfold cutV
  rw [HT.sIx_none, HT.sIx_nat, Nat.min_eq_left h, List.take_of_length_le (by rw [List.length_drop]; exact Nat.le_refl _)]
theorem atI_at {xs : List V} {k : Int} {v : V} (k0 : 0 ≤ k) (h : xs[k.toNat]? = some v) : atI xs k = some v := by
  have e := atI_nat h
  rw [Int.toNat_of_nonneg k0] at e
  exact e
section
variable {K : PySem.W.Frag} {CT CC CS : Addr} {H H' : Hp} {t : Addr} {sc : Sch} {rs : List Row} {p al : Addr} {as : List Addr} {d c r b : Addr}
theorem TblAt.ext (h : TblAt K CT CC CS H t sc rs p al as) (D : Drw H d c r) (E : Ext d r H H') : TblAt K CT CC CS H' t sc rs p al as := by
  obtain ⟨⟨dx, e⟩, h1, h2, h3⟩ := h
  have nl : ∀ b o, H b = some o → (∀ z, o ≠ .lst z) → H' b = some o := fun b o e n => by
    obtain ⟨_, _, _, ns, rs, tt, g1, g2, g3, _⟩ := D
    exact E b o e (fun z => by subst z; rw [g1] at e; exact n _ (Option.some.inj e).symm) (fun z => by subst z; rw [g3] at e; exact n _ (Option.some.inj e).symm)
  exact ⟨⟨dx, nl _ _ e fun _ z => nomatch z⟩, h1.nod (fun b o e _ n => nl b o e n), E _ _ h2 (refs_drc D h2).1 (refs_drc D h2).2.1, RowsIn.ext h3 D E⟩
theorem TblAt.putD {k : List (Key × V)} {o : HO} (h : TblAt K CT CC CS H t sc rs p al as) (hb : H b = some (.dK k)) (n : ∀ x ∈ as, x ≠ b) : TblAt K CT CC CS (upd H b o) t sc rs p al as := by
  obtain ⟨⟨dx, e⟩, h1, h2, h3⟩ := h
  have nd : ∀ b' o', H b' = some o' → (∀ z, o' ≠ .dK z) → (upd H b o) b' = some o' := fun b' o' e n => (upd_ne (ne_of e hb (n _))).trans e
  exact ⟨⟨dx, nd _ _ e fun _ z => nomatch z⟩, h1.nod (fun b o e n _ => nd b o e n), nd _ _ h2 (fun _ z => nomatch z), ⟨All2.len h3, fun j x y e1 e2 => (upd_ne (n x (List.mem_of_getElem? e1))).trans (All2.at_ h3 j x y e1 e2)⟩⟩
end
def spTblR : Sp := fun vs H Q _ => ∃ (d c r p l : Addr) (sc : Sch) (as : List Addr) (rs : List Row), vs = [.ref d, .ref p, .ref l] ∧ Drw H d c r ∧ SpecAt H p sc ∧ sc.good ∧ H l = some (.lst (as.map V.ref)) ∧ RowsIn H as rs ∧ (∀ x ∈ rs, GRow sc x) ∧ rs.length ≤ 8 ∧ 0 < rs.length ∧ ∀ H', Drw H' d c r → Ext d r H H' → Q (.bl true) H'
section
variable {P : Program} {w : World} {K : PySem.W.Frag} {mg : Str → Option Value} {base : Heap}

section
variable {H : Hp} {t : Addr} {sc : Sch} {rs : List Row} {p al : Addr} {as : List Addr}
theorem r_tscheme (T : Txt K mg) {F : V → Prop} (o : TblAt K T.C_Table T.C_Scheme T.C_Sort H t sc rs p al as) (h : F (.ref p)) : ∃ a C dx fs v, V.ref t = .ref a ∧ H a = some (.ins C dx fs) ∧ Cls K C ∧ NoAttr K C "scheme" ∧ fs.lookup ("scheme" : Str) = some v ∧ F v := by
  obtain ⟨dx, e⟩ := o.ins
  exact r_get e T.c_Table T.nf_Table_scheme (tbl_scheme _ _) h
theorem r_eqT (T : Txt K mg) {Q : VK} {E : XK} {t2 : Addr} {sd : Sch} {qs : List Row} {p2 al2 : Addr} {as2 : List Addr} (o : TblAt K T.C_Table T.C_Scheme T.C_Sort H t sc rs p al as) (o2 : TblAt K T.C_Table T.C_Scheme T.C_Sort H t2 sd qs p2 al2 as2) (hg : sc.good) (hg2 : sd.good) (h1 : ∀ r ∈ rs, RowN r) (h2 : ∀ r ∈ qs, RowN r) (q : Q (.bl (decide (sc = sd) && rowsEq rs qs)) H) : rCmpO K T.C_Table (spTEq K T.C_Table T.C_Scheme T.C_Sort) E (.ref t) (.ref t2) H Q := by
  obtain ⟨dx, e⟩ := o.ins
  exact ⟨t, _, _, _, rfl, e, tbl_ty T o2, T.nt_Table, t, sc, rs, p, al, as, _, rfl, o, hg, h1, .inl ⟨t2, sd, qs, p2, al2, as2, rfl, o2, hg2, h2, q⟩⟩
theorem r_neT (T : Txt K mg) {Q : VK} {E : XK} {t2 : Addr} {sd : Sch} {qs : List Row} {p2 al2 : Addr} {as2 : List Addr} (o : TblAt K T.C_Table T.C_Scheme T.C_Sort H t sc rs p al as) (o2 : TblAt K T.C_Table T.C_Scheme T.C_Sort H t2 sd qs p2 al2 as2) (hg : sc.good) (hg2 : sd.good) (h1 : ∀ r ∈ rs, RowN r) (h2 : ∀ r ∈ qs, RowN r) (q : Q (.bl (!(decide (sc = sd) && rowsEq rs qs))) H) : rNeO K T.C_Table (spTEq K T.C_Table T.C_Scheme T.C_Sort) E (.ref t) (.ref t2) H Q := by
  obtain ⟨dx, e⟩ := o.ins
  exact ⟨t, _, _, _, rfl, e, tbl_ty T o2, T.nt_Table, t, sc, rs, p, al, as, _, rfl, o, hg, h1, .inl ⟨t2, sd, qs, p2, al2, as2, rfl, o2, hg2, h2, _, rfl, q⟩⟩
end
end

def getI (r : Row) (w : Str) : Int := match getR r w with
  | some (.int i) => i
  | _ => 0
def hallI (s : Srt) (r : Row) : Int := match s.pt with
  | none => 0
  | some z => getI r z
def keyI (s : Srt) (r : Row) : Int := if s.ds then -getI r s.ky else getI r s.ky
def seatL (s : Srt) (r : Row) : List Int := [hallI s r, keyI s r]
theorem GRow.int {sc : Sch} {r : Row} (h : GRow sc r) (hg : sc.good) {w : Str} (hw : w ∈ sc.cols) : getR r w = some (.int (getI r w)) := by
  obtain ⟨v, e, i, rfl, _⟩ := h.get hg hw
  unfold getI
  rw [e]
theorem Sch.key_in {sc : Sch} {s : Srt} (h : s ∈ sc.ss) : s.ky ∈ sc.cols := List.mem_append.mpr (.inr (List.mem_append.mpr (.inl (List.mem_map.mpr ⟨s, h, rfl⟩))))
theorem Sch.part_in {sc : Sch} (hg : sc.good) {s : Srt} (h : s ∈ sc.ss) {z : Str} (e : s.pt = some z) : z ∈ sc.cols := List.mem_append.mpr (.inl (hg.pt s h z e))
def spSeat (CS : Addr) : Sp := fun vs H Q _ => ∃ (p a : Addr) (sc : Sch) (s : Srt) (r : Row), vs = [.ref p, .ref a] ∧ SortAt CS H p s ∧ H a = some (.dK (rowK r)) ∧ sc.good ∧ s ∈ sc.ss ∧ GRow sc r ∧ ∀ u H', H u = none → H' u = some (.tup ((seatL s r).map V.int)) → Same H H' → Q (.ref u) H'
def SeatsAt (H : Hp) (a : Addr) (ss : List (List Int)) : Prop := ∃ us : List Addr, H a = some (.lst (us.map V.ref)) ∧ All2 (fun u n => H u = some (.tup (n.map V.int))) us ss
def spSeats (K : PySem.W.Frag) (CT CC CS : Addr) : Sp := fun vs H Q _ => ∃ (t p : Addr) (sc : Sch) (s : Srt) (rs : List Row) (q al : Addr) (as : List Addr), vs = [.ref t, .ref p] ∧ TblAt K CT CC CS H t sc rs q al as ∧ SortAt CS H p s ∧ sc.good ∧ s ∈ sc.ss ∧ (∀ r ∈ rs, GRow sc r) ∧ rs.length ≤ 100 ∧
  ∀ a H', H a = none → SeatsAt H' a (rs.map (seatL s)) → Same H H' → Q (.ref a) H'
def isNumB (ns : List Int) (n : Nat) : Bool := decide (ns.length = n ∧ (∀ x ∈ ns, 0 ≤ x ∧ x < n) ∧ ns.Nodup)
def spNumb : Sp := fun vs H Q _ => ∃ (a : Addr) (ns : List Int) (n : Nat), vs = [.ref a, .int n] ∧ H a = some (.lst (ns.map V.int)) ∧ ns.length ≤ 200 ∧ ∀ H', Same H H' → Q (.bl (isNumB ns n)) H'
def leL (a b : List Int) : Bool := !SrT.lexL b a
def sortB : List (List Int) → Bool
  | a :: b :: r => leL a b && sortB (b :: r)
  | _ => true
def alongL (ss : List (List Int)) (ns : List Int) : List (List Int) := ns.map fun i => ss.getD i.toNat []
def spSorted : Sp := fun vs H Q _ => ∃ (a b : Addr) (ns : List Int) (ss : List (List Int)), vs = [.ref a, .ref b] ∧ H a = some (.lst (ns.map V.int)) ∧ SeatsAt H b ss ∧ (∀ x ∈ ns, 0 ≤ x ∧ x < ss.length) ∧ (∀ x ∈ ss, x.length = 2) ∧ ns.length ≤ 200 ∧ ∀ H', Same H H' → Q (.bl (sortB (alongL ss ns))) H'
/-- the number of steps up to a place at which the seat changes -/
def rankAt (al : List (List Int)) : Nat → Int
  | 0 => 0
  | j + 1 => rankAt al j + if al[j + 1]? = al[j]? then 0 else 1
structure RkOk (ns : List Int) (al : List (List Int)) (rk : List Int) : Prop where
  l : rk.length = ns.length
  at_ : ∀ (j : Nat) (x : Int), ns[j]? = some x → rk[x.toNat]? = some (rankAt al j)
def spRanks : Sp := fun vs H Q _ => ∃ (a b : Addr) (ns : List Int) (ss : List (List Int)), vs = [.ref a, .ref b] ∧ H a = some (.lst (ns.map V.int)) ∧ SeatsAt H b ss ∧ isNumB ns ss.length = true ∧ (∀ x ∈ ss, x.length = 2) ∧ ns.length ≤ 100 ∧ ∀ u rk H', H u = none → H' u = some (.lst (rk.map V.int)) → RkOk ns (alongL ss ns) rk → Same H H' → Q (.ref u) H'
section
variable {σ : L2.St} {H : Hp} {Q : VK} {te : TE} {K : PySem.W.Frag} {a b : Addr} {xs ys : List V}
/-- [e for x in range(..)], e a new tuple by the number -/
theorem lc_tupsR {n m : Nat} {lo : Int} (f : Nat → List V) (hm : m ≤ 1000) (he : ∀ (i : Nat) (H' : Hp) (QQ : VK), i < m → Same H H' → (∀ u H'', H' u = none → H'' u = some (.tup (f i)) → Same H' H'' → QQ (.ref u) H'') → te ((wipe σ [n]).set n (some (.int (lo + i)))) H' QQ)
    (hq : ∀ D (us : List Addr) H', H D = none → us.length = m → H' D = some (.lst (us.map V.ref)) → (∀ (j : Nat) (u : Addr), us[j]? = some u → H' u = some (.tup (f j))) → Same H H' → Q (.ref D) H') : lcGo (Itr lo m) (gName n) tYes te [n] σ Q H := by
  intro D nD
  refine lc_range (fun i H' => ∃ us : List Addr, us.length = i ∧ H' D = some (.lst (us.map V.ref)) ∧ (∀ (j : Nat) (u : Addr), us[j]? = some u → H' u = some (.tup (f j))) ∧ Same H H') ⟨[], rfl, upd_same, fun j u h => (by cases h), same_new nD⟩ ?_ ?_
  · rintro i H4 hi ⟨us, hl, hD4, hu, s4⟩
    refine ⟨wipe1, ?_⟩
    show te _ _ _
    refine he i H4 _ hi s4 fun u H5 nu hu5 s5 => ?_
    have hD5 := s5 _ _ hD4
    refine ⟨_, hD5, small1000 (by rw [List.length_map, hl]; omega), us ++ [u], by rw [List.length_append, hl]; rfl, by rw [upd_same, List.map_append]; rfl, fun j v h1 => ?_, fun b o e => (upd_ne (ne_of_none e nD)).trans (s5 _ _ (s4 _ _ e))⟩
    rcases Nat.lt_or_ge j us.length with hj | hj
    · rw [List.getElem?_append_left hj] at h1
      have z := s5 _ _ (hu j v h1)
      exact (upd_ne (ne_of z hD5 fun q => nomatch q)).trans z
    · rw [List.getElem?_append_right hj] at h1
      cases hk : j - us.length with
      | zero =>
        rw [hk] at h1
        cases h1
        rw [show j = i by omega]
        exact (upd_ne (ne_of hu5 hD5 fun q => nomatch q)).trans hu5
      | succ m => rw [hk] at h1; cases h1
  · rintro H4 ⟨us, hl, hD4, hu, s4⟩
    exact hq D us H4 nD hl hD4 hu s4
/-- [e for x, y in zip(xs, ys)], e a value by the place -/
theorem lc_zip {n m : Nat} (f : Nat → V) (ha : SqL K H a xs) (hb : SqL K H b ys) (hz : xs.length ≤ 1000) (hw : ∀ x y : V, wipe (((wipe σ [n, m]).set n (some x)).set m (some y)) [n, m] = wipe σ [n, m])
    (he : ∀ (i : Nat) (x y : V) (H' : Hp) (QQ : VK), xs[i]? = some x → ys[i]? = some y → Same H H' → QQ (f i) H' → te (((wipe σ [n, m]).set n (some x)).set m (some y)) H' QQ)
    (hq : ∀ D H', H D = none → H' D = some (.lst ((List.range (min xs.length ys.length)).map f)) → Same H H' → Q (.ref D) H') : lcGo (Itz K a b) (gTup K 2 (gCons (gName n) (gCons (gName m) gNil))) tYes te [n, m] σ Q H := by
  intro D nD
  refine lc_it (walk_zip (K := K) (a := a) (b := b) (xs := xs) (ys := ys) rfl) (fun i H' => H' D = some (.lst ((List.range i).map f)) ∧ Same H H') ⟨upd_same, same_new nD⟩ (fun i H' _ e => ⟨e.2.seq ha, e.2.seq hb⟩) ?_ ?_
  · rintro i v H1 H2 hi ⟨hD, s1⟩ ⟨T, x, y, rfl, nT, rfl, hx, hy⟩
    have sT := same_new (o := .tup [x, y]) nT
    refine r_gtup (SqT.of upd_same) rfl ?_
    refine ⟨x, [y], rfl, y, [], rfl, rfl, hw x y, ?_⟩
    show te _ _ _
    refine he i x y _ _ hx hy (s1.trans sT) ⟨_, sT _ _ hD, small1000 (by rw [List.length_map, List.length_range]; omega), ?_, fun b o e => (upd_ne (ne_of_none e nD)).trans (sT _ _ (s1 _ _ e))⟩
    rw [upd_same, List.range_succ, List.map_append]
    rfl
  · rintro H' ⟨hD, s1⟩
    exact hq D H' nD hD s1
end
theorem r_zip {σ : L2.St} {H : Hp} {K : PySem.W.Frag} {ta : TA} {R : It → Hp → Prop} (h : ta σ H fun vs H1 => ∃ a b xs ys, vs = [.ref a, .ref b] ∧ SqL K H1 a xs ∧ SqL K H1 b ys ∧ R (Itz K a b) H1) : iZip K ta σ H R := h
theorem le2 (a b c d : Int) : Ob.lexAt (fun j => decide (([a, b] : List Int).getD j 0 = ([c, d] : List Int).getD j 0)) (fun j => decide (([a, b] : List Int).getD j 0 ≤ ([c, d] : List Int).getD j 0)) (decide (([a, b] : List Int).length ≤ ([c, d] : List Int).length)) 0 (min ([a, b] : List Int).length ([c, d] : List Int).length) = leL [a, b] [c, d] := by
  show (if decide (a = c) = true then (if decide (b = d) = true then true else decide (b ≤ d)) else decide (a ≤ c)) = !(if c = a then (if d = b then false else decide (d < b)) else decide (c < a))
  by_cases e1 : a = c
  · rw [if_pos (decide_eq_true e1), if_pos e1.symm]
    by_cases e2 : b = d
    · rw [if_pos (decide_eq_true e2), if_pos e2.symm]
      rfl
    · rw [if_neg (by rw [decide_eq_false e2]; exact Bool.false_ne_true), if_neg fun z => e2 z.symm, Bool.eq_iff_iff]
      simp only [decide_eq_true_eq, Bool.not_eq_true', decide_eq_false_iff_not]
      omega
  · rw [if_neg (by rw [decide_eq_false e1]; exact Bool.false_ne_true), if_neg fun z => e1 z.symm, Bool.eq_iff_iff]
    simp only [decide_eq_true_eq, Bool.not_eq_true', decide_eq_false_iff_not]
    omega
theorem ints_eqD {ns : List Int} : ∀ v ∈ ns.map V.int, eqD v := fun v hv => by
  obtain ⟨n, _, rfl⟩ := List.mem_map.mp hv
  exact trivial
theorem ints_kind {ns ms : List Int} : ∀ p ∈ (ns.map V.int).zip (ms.map V.int), sameKind p.1 p.2 = true := fun p hp => by
  obtain ⟨h1, h2⟩ := List.of_mem_zip (show (p.1, p.2) ∈ _ from hp)
  obtain ⟨n, _, e1⟩ := List.mem_map.mp h1
  obtain ⟨m, _, e2⟩ := List.mem_map.mp h2
  rw [← e1, ← e2]
  rfl
theorem two_of {x : List Int} (h : x.length = 2) : ∃ a b, x = [a, b] := by
  match x, h with
  | [a, b], _ => exact ⟨a, b, rfl⟩
theorem sortB_all : ∀ l : List (List Int), ((List.range (min l.length (l.length - 1))).all fun i => leL (l.getD i []) (l.getD (i + 1) [])) = sortB l
  | [] => rfl
  | [a] => rfl
  | a :: b :: r => by
    have ih := sortB_all (b :: r)
    show _ = (leL a b && sortB (b :: r))
    rw [← ih]
    have e : min (a :: b :: r).length ((a :: b :: r).length - 1) = min (b :: r).length ((b :: r).length - 1) + 1 := by
      simp only [List.length_cons]
      omega
    rw [e, List.range_succ_eq_map, List.all_cons, List.all_map]
    rfl
theorem SeatsAt.same {H H' : Hp} {a : Addr} {ss : List (List Int)} (h : SeatsAt H a ss) (s : Same H H') : SeatsAt H' a ss := by
  obtain ⟨us, h1, h2⟩ := h
  exact ⟨us, s _ _ h1, h2.imp fun _ _ z => s _ _ z⟩
theorem SeatsAt.at_ {H : Hp} {a : Addr} {ss : List (List Int)} (h : SeatsAt H a ss) {i : Int} (h0 : 0 ≤ i) (h1 : i < ss.length) : ∃ us u, H a = some (.lst us) ∧ atI us i = some (.ref u) ∧ H u = some (.tup ((ss.getD i.toNat []).map V.int)) := by
  obtain ⟨us, e1, e2⟩ := h
  have hi : i.toNat < ss.length := by omega
  have hu : us[i.toNat]? = some (us[i.toNat]'(by rw [e2.len]; exact hi)) := List.getElem?_eq_getElem _
  refine ⟨_, _, e1, atI_at h0 (by rw [List.getElem?_map, hu]; rfl), ?_⟩
  have z := e2.at_ i.toNat _ _ hu (List.getElem?_eq_getElem hi)
  rw [z, List.getD_eq_getElem?_getD, List.getElem?_eq_getElem hi]
  rfl
theorem getD_mem {α : Type} {l : List α} {i : Nat} {d : α} (h : i < l.length) : l.getD i d ∈ l := by
  rw [List.getD_eq_getElem?_getD, List.getElem?_eq_getElem h]
  exact List.getElem_mem h
section
variable {P : Program} {w : World} {K : PySem.W.Frag} {mg : Str → Option Value} {base : Heap}

theorem ok_seat_of (T : Txt K mg) : FnOk P w K mg base CX0 1 T.f_seat_of T.d_seat_of ["sort", "row"] (spSeat T.C_Sort) := by
  refine T.F_seat_of.ok sc_seat_of (fun vs H Q E h => ?_) (fun cdv A outer s H vs Q E hr h => ?_)
  · obtain ⟨p, a, sc, sr, r, rfl, _⟩ := h
    rfl
  obtain ⟨p, a, sc, sr, r, rfl, o, ha, hg, hs, gr, q⟩ := h
  refine ⟨_, (C8.pss_cut (ps_set (i := 2) sc_seat_of.nd rfl (by first | exact Or.inl rfl | exact Or.inr rfl) (pe_ifExp (pt_cmpR o_isN (pe_fldK (K := K) (pv 0)) pe_non (nomark _)) pe_int (pe_dget (hu_of hr) (pv 1) (pe_fldK (K := K) (pv 0)) (fun _ _ => rfl))))
      (pss_one (ps_ret (pe_tup (pa_cons (pv 2) (pa_cons (pe_ifExp (pt_val (pe_fldK (K := K) (pv 0))) (pe_un un_neg (pe_dget (hu_of hr) (pv 1) (pe_fldK (K := K) (pv 0)) (fun _ _ => rfl))) (pe_dget (hu_of hr) (pv 1) (pe_fldK (K := K) (pv 0)) (fun _ _ => rfl))) pa_nil)))))), ?_⟩
  try simp only [nox_K, cx_K]
  have ek := gr.int hg (Sch.key_in hs)
  wtm_at "rd"
  refine ⟨fun σ' H' => σ' = [some (.ref p), some (.ref a), some (.int (hallI sr r))] ∧ H' = H, ?_, ?_⟩
  · wtm_at "rd"
    refine r_spart T o ?_
    cases hp : sr.pt with
    | none =>
      have e : hallI sr r = 0 := by unfold hallI; rw [hp]
      simp only [partV]
      wtm_at "rdi"
      rw [e]
      exact ⟨rfl, rfl⟩
    | some z =>
      have e : hallI sr r = getI r z := by unfold hallI; rw [hp]
      simp only [partV]
      wtm_at "rd"
      refine ⟨rfl, ?_⟩
      rw [decide_eq_false (fun z => nomatch z)]
      wtm_at "rdi"
      refine r_spart T o ?_
      rw [hp]
      simp only [partV]
      refine r_getR ha (gr.int hg (Sch.part_in hg hs hp)) ?_
      wtm_at "rd"
      rw [e]
      exact ⟨rfl, rfl⟩
  rintro σ' H' ⟨rfl, rfl⟩
  wtm_at "rd"
  refine r_sdesc T o ?_
  cases hd : sr.ds with
  | true =>
    have e : keyI sr r = -getI r sr.ky := by unfold keyI; rw [hd]; rfl
    wtm_at "rdi"
    refine r_skey T o ?_
    refine r_getR ha ek ?_
    wtm_at "rd"
    refine r_new rfl fun u nu => ?_
    refine q u _ nu ?_ (same_new nu)
    rw [upd_same]
    show _ = some (HO.tup [.int (hallI sr r), .int (keyI sr r)])
    rw [e]
  | false =>
    have e : keyI sr r = getI r sr.ky := by unfold keyI; rw [hd]; rfl
    wtm_at "rdi"
    refine r_skey T o ?_
    refine r_getR ha ek ?_
    wtm_at "rd"
    refine r_new rfl fun u nu => ?_
    refine q u _ nu ?_ (same_new nu)
    rw [upd_same]
    show _ = some (HO.tup [.int (hallI sr r), .int (keyI sr r)])
    rw [e]
theorem ok_seats_of (T : Txt K mg) : FnOk P w K mg base CX0 4 T.f_seats_of T.d_seats_of ["table", "sort"] (spSeats K T.C_Table T.C_Scheme T.C_Sort) := by
  refine T.F_seats_of.ok sc_seats_of (fun vs H Q E h => ?_) (fun cdv A outer s H vs Q E hr h => ?_)
  · obtain ⟨t, p, sc, sr, rs, q0, al, as, rfl, _⟩ := h
    rfl
  obtain ⟨t, p, sc, sr, rs, q0, al, as, rfl, o, os, hg, hs, hG, lz, q⟩ := h
  refine ⟨_, (pss_one (ps_ret (pe_lc (own := [("number", 2)]) (g := gName 2) (tt := tYes) rfl sc_seats_of.nd (pi_range1 (by rfl) T.z_range (pa_cons (pe_callB (DQ.call_lenO T.mt_Table___len__.at_ T.mt_Table___len__.fn (ok_Table___len__ T) (hr.mono (by decide)) T.b_Table___len__ pass0) (by rfl) T.z_len (by decide +kernel) (pa_cons (pv 0) pa_nil)) pa_nil)) (blkOk_by (N := ["table", "sort", "number"]) (sc := defScope s_seats_of) (by decide +kernel)) (fun _ _ _ _ _ => pg_name (i := 2) sc_seats_of.nd rfl (by first | exact Or.inl rfl | exact Or.inr rfl)) (fun _ _ _ _ _ => pts_nil) (fun _ _ _ _ _ => (pe_call (ok_seat_of T) (hr.mono (by decide)) (by rfl) T.g_seat_of T.F_seat_of.kp T.b_seat_of .nil pass0 (pa_cons (pv 1) (pa_cons (pe_meth (pv 0) T.c_Table T.mt_Table_record (ok_Table_record T) (hr.mono (by decide)) T.b_Table_record .nil passL (pa_cons (pv 2) pa_nil)) pa_nil))))))), ?_⟩
  try simp only [nox_K, cx_K]
  wtm_at "rd"
  obtain ⟨dx, e⟩ := o.ins
  refine ⟨t, _, _, rfl, e, t, sc, rs, q0, al, as, rfl, o, rs.length, rfl, by omega, ?_⟩
  wtm_at "rd"
  refine r_upto (by omega) (by omega) ?_
  rw [show ((rs.length : Nat) : Int).toNat = rs.length by omega]
  refine lc_tupsR (fun i => (seatL sr (rs.getD i [])).map V.int) (by omega) (fun i H' QQ hi s' hQ => ?_) fun D us H' nD lu hD hu s' => ?_
  · have hri : rs[i]? = some rs[i] := List.getElem?_eq_getElem hi
    have eg : rs.getD i [] = rs[i] := by rw [List.getD_eq_getElem?_getD, hri]; rfl
    wtm_at "rd"
    refine tbl_who (o.same s') (by decide +kernel) (by decide +kernel) ?_
    wtm_at "rd"
    refine ⟨t, sc, rs, q0, al, as, _, rfl, o.same s', by omega, fun z => (by omega), fun r2 i0 hr2 d H2 nd hd s2 => ?_⟩
    rw [show ((0 : Int) + (i : Nat)).toNat = i by omega, hri] at hr2
    cases hr2
    refine ⟨p, d, sc, sr, rs[i], rfl, os.same (s'.trans s2), hd, hg, hs, hG _ (List.getElem_mem hi), fun u H3 nu hu s3 => ?_⟩
    exact hQ u H3 (s2.free nu) (by rw [hu, eg]) (s2.trans s3)
  · refine q D H' nD ⟨us, hD, ⟨by rw [lu, List.length_map], fun j u n h1 h2 => ?_⟩⟩ s'
    rw [hu j u h1]
    rw [List.getElem?_map] at h2
    obtain ⟨r, hr, rfl⟩ := Option.map_eq_some_iff.mp h2
    rw [List.getD_eq_getElem?_getD, hr]
    rfl
theorem ok_is_numbering (T : Txt K mg) : FnOk P w K mg base CX0 2 T.f_is_numbering T.d_is_numbering ["order", "many"] spNumb := by
  refine T.F_is_numbering.ok sc_is_numbering (fun vs H Q E h => ?_) (fun cdv A outer s H vs Q E hr h => ?_)
  · obtain ⟨a, ns, n, rfl, _⟩ := h
    rfl
  obtain ⟨a, ns, n, rfl, ha, lz, q⟩ := h
  refine ⟨_, (pss_cons (ps_if (PW.pt (pw_or (pt_not (pt_val (pe_callB call_isi (by rfl) T.z_isinstance (by decide +kernel) (pa_cons (pv 0) (pa_cons (pe_bltn (v := .ty "list") (u := .type "list") (by rfl) T.z_list (by decide +kernel) rfl) pa_nil))))) (pw_or1 (pt_cmpR op_ne (pe_callB (r := rLenL K) (id := "len") c_len (by rfl) T.z_len (by decide +kernel) (pa_cons (pv 0) pa_nil)) (pv 1) (nomark _))))) (pss_one (ps_ret pe_bl)) pss_nil)
      (pss_cons (ps_set (i := 2) sc_is_numbering.nd rfl (by first | exact Or.inl rfl | exact Or.inr rfl) pe_dnewK)
      (pss_cons (ps_for PassesOwn.never rfl (pi_list (pv 0)) (pg_name (i := 3) sc_is_numbering.nd rfl (by first | exact Or.inl rfl | exact Or.inr rfl)) (pss_cons (ps_if (PW.pt (pw_or (pt_not (pt_val (pe_call (ok_is_integer T) (hr.mono (by decide)) (by rfl) T.g_is_integer T.F_is_integer.kp T.b_is_integer .nil pass0 (pa_cons (pv 3) pa_nil)))) (pw_or (pt_not (pt_chain op_le op_lt pe_int (pv 3) (pv 1))) (pw_or1 (pt_cmp (pc_din (hu_of hr) (pv 3) (pv 2))))))) (pss_one (ps_ret pe_bl)) pss_nil)
      (pss_one (ps_dput (hu_of hr) (pv 2) (pv 3) pe_bl rfl))))
      (pss_one (ps_ret pe_bl))))), ?_⟩
  try simp only [nox_K, cx_K]
  wtm_at "rd"
  refine r_isi (.ty "list") (.base (.lst ha)) kit_self ?_
  wtm_at "rdi"
  refine r_lenI ha ?_
  wtm_at "rd"
  refine r_iten (fun c1 => ?_) (fun c1 => ?_)
  · wtm_at "rd"
    refine bl_to (q _ (Same.refl _)) ?_
    exact (decide_eq_false fun z => c1 (by rw [z.1])).symm
  have c1 : ns.length = n := by omega
  wtm_at "rd"
  refine r_dnew fun d n_d => ?_
  generalize eq_d : upd _ d _ = H1
  have s_d : Same _ H1 := eq_d ▸ same_new n_d
  have h_d : H1 d = some _ := eq_d ▸ upd_same
  clear eq_d
  have ha := s_d _ _ ha
  wtm_at "rd"
  refine r_for (r_il ?_)
  wtm_at "rd"
  refine r_itl (SqL.of ha) ?_
  refine for_list (K := K) (a := a) (xs := ns.map V.int) (fun i σ H' => ∃ (y3 : Option V) (kvs : List (Key × V)), σ = [some (.ref a), some (.int n), some (.ref d), y3] ∧ H' d = some (.dK kvs) ∧ (∀ w, (valV kvs (Sum.inl w)).isSome = decide (w ∈ ns.take i)) ∧ kvs.length ≤ i ∧ Same H H' ∧ (∀ x ∈ ns.take i, 0 ≤ x ∧ x < n) ∧ (ns.take i).Nodup) ⟨_, [], rfl, h_d, fun w => (by rw [List.take_zero]; rfl), Nat.le_refl _, s_d, fun x z => (by rw [List.take_zero] at z; cases z), by rw [List.take_zero]; exact List.nodup_nil⟩ (fun i σ H' _ ⟨_, _, _, _, _, _, s, _⟩ => SqL.of (s _ _ (by assumption))) ?_ ?_
  · rintro i v σ H2 hv ⟨y3, kvs, rfl, hd, hval, hkl, s2, hin, hnd⟩
    rw [List.getElem?_map] at hv
    obtain ⟨x, hx, rfl⟩ := Option.map_eq_some_iff.mp hv
    have hi := (List.getElem?_eq_some_iff.mp hx).1
    have bad : (¬ (0 ≤ x ∧ x < n) ∨ x ∈ ns.take i) → isNumB ns n = false := fun z => decide_eq_false fun ⟨_, h2, h3⟩ => by
      rcases z with z | z
      · exact z (h2 x (List.mem_of_getElem? hx))
      · have e : ns = ns.take i ++ (x :: ns.drop (i + 1)) := by rw [← (List.getElem?_eq_some_iff.mp hx).2, List.getElem_cons_drop, List.take_append_drop]
        rw [e] at h3
        exact (List.nodup_append.mp h3).2.2 x z x List.mem_cons_self rfl
    wtm_at "rd"
    refine ⟨.int x, rfl, rfl, ?_⟩
    wtm_at "rd"
    refine r_itebn (fun e => nomatch e) (fun _ => ?_)
    wtm_at "rd"
    refine r_ite (fun c2 => ?_) (fun c2 => ?_)
    · wtm_at "rd"
      refine r_iten (fun c3 => ?_) (fun c3 => ?_)
      · wtm_at "rdi"
        refine bl_to (q _ s2) ?_
        exact (bad (.inl fun z => c3 z.2)).symm
      · wtm_at "rd"
        refine ⟨d, _, rfl, DGet.k (k := Sum.inl x) hd, ?_⟩
        wtm_at "rd"
        rw [hval]
        refine r_ite (fun c4 => ?_) (fun c4 => ?_)
        · wtm_at "rd"
          refine bl_to (q _ s2) ?_
          exact (bad (.inr c4)).symm
        · wtm_at "rd"
          refine ⟨d, _, rfl, DPut.k (k := Sum.inl x) hd (small1000 (by omega)), ?_⟩
          have et : ns.take (i + 1) = ns.take i ++ [x] := by rw [List.take_add_one, hx]; rfl
          refine ⟨_, _, rfl, upd_same, fun w => ?_, Nat.le_trans putK_len (by omega), fun b o e => (upd_ne (ne_of_none e n_d)).trans (s2 _ _ e), fun y hy => ?_, ?_⟩
          · rw [valV_put, et]
            by_cases c : w = x
            · rw [c, if_pos rfl]
              exact (decide_eq_true (List.mem_append.mpr (.inr List.mem_cons_self))).symm
            · rw [if_neg fun z => c (Sum.inl.inj z), hval, decide_eq_decide, List.mem_append]
              exact ⟨.inl, fun z => z.elim id fun y => absurd (List.mem_singleton.mp y) c⟩
          · rw [et] at hy
            rcases List.mem_append.mp hy with z | z
            · exact hin y z
            · rw [List.mem_singleton.mp z]
              exact ⟨c2, c3⟩
          · rw [et]
            refine List.nodup_append.mpr ⟨hnd, List.nodup_cons.mpr ⟨List.not_mem_nil, List.nodup_nil⟩, fun y hy z hz e => ?_⟩
            rw [List.mem_singleton.mp hz] at e
            exact c4 (e ▸ hy)
    · wtm_at "rdi"
      refine bl_to (q _ s2) ?_
      exact (bad (.inl fun z => c2 z.1)).symm
  · rintro σ H2 ⟨y3, kvs, rfl, hd, hval, hkl, s2, hin, hnd⟩
    rw [List.length_map, List.take_length] at hin hnd
    wtm_at "rd"
    refine bl_to (q _ s2) ?_
    exact (decide_eq_true ⟨c1, hin, hnd⟩).symm
theorem ok_is_sorted (T : Txt K mg) : FnOk P w K mg base CX0 1 T.f_is_sorted T.d_is_sorted ["order", "seats"] spSorted := by
  refine T.F_is_sorted.ok sc_is_sorted (fun vs H Q E h => ?_) (fun cdv A outer s H vs Q E hr h => ?_)
  · obtain ⟨a, b, ns, ss, rfl, _⟩ := h
    rfl
  obtain ⟨a, b, ns, ss, rfl, ha, hb, hin, h2, lz, q⟩ := h
  refine ⟨_, (pss_one (ps_ret (pe_callB (cr_all rfl) (by rfl) T.z_all (by decide +kernel) (pa_cons (pe_lc (own := [("one", 2), ("two", 3)]) (g := gTup K 2 (gCons (gName 2) (gCons (gName 3) gNil))) (tt := tYes) rfl sc_is_sorted.nd (pi_zip (by rfl) T.z_zip (pa_cons (pv 0) (pa_cons (pe_slice sl_list (pv 0) (po_some pe_int) po_none) pa_nil))) (blkOk_by (N := ["order", "seats", "one", "two"]) (sc := defScope s_is_sorted) (by decide +kernel)) (fun _ _ _ _ _ => pg_tup (by rfl) (pgs_cons (pg_name (i := 2) sc_is_sorted.nd rfl (by first | exact Or.inl rfl | exact Or.inr rfl)) (pgs_cons (pg_name (i := 3) sc_is_sorted.nd rfl (by first | exact Or.inl rfl | exact Or.inr rfl)) pgs_nil))) (fun _ _ _ _ _ => pts_nil) (fun _ _ _ _ _ => (pe_cmpR (r := rLeT K) (op_leT hr.units0) (pe_ix (r := rIxL K) ix_list (pv 1) (pv 2) (fun _ _ => rfl)) (pe_ix (r := rIxL K) ix_list (pv 1) (pv 3) (fun _ _ => rfl)) (nomark _)))) pa_nil)))), ?_⟩
  try simp only [nox_K, cx_K]
  wtm_at "rd"
  refine r_zip ?_
  wtm_at "rd"
  refine r_slL (SqL.of ha) fun c n_c => ?_
  have ec : ∀ h : 1 ≤ ns.length, cutV (ns.map V.int) (some 1) none = (ns.drop 1).map V.int := fun h => by
    rw [show cutV (ns.map V.int) (some 1) none = (ns.map V.int).drop 1 from cutV_drop (k := 1) (by rw [List.length_map]; exact h), List.map_drop]
  have ec : cutV (ns.map V.int) (some 1) none = (ns.drop 1).map V.int := by
    by_cases h : 1 ≤ ns.length
    · exact ec h
    · have : ns = [] := List.length_eq_zero_iff.mp (by omega)
      rw [this]
      rfl
  rw [ec]
  generalize eq_c : upd _ c _ = H1
  have s_c : Same _ H1 := eq_c ▸ same_new n_c
  have h_c : H1 c = some _ := eq_c ▸ upd_same
  clear eq_c
  have ha := s_c _ _ ha
  have hb := hb.same s_c
  refine ⟨a, c, _, _, rfl, SqL.of ha, SqL.of h_c, ?_⟩
  refine lc_zip (fun i => .bl (leL ((alongL ss ns).getD i []) ((alongL ss ns).getD (i + 1) []))) (SqL.of ha) (SqL.of h_c) (by rw [List.length_map]; omega) (fun _ _ => rfl) (fun i x y H' QQ hx hy s' hQ => ?_) fun D H' nD hD s' => ?_
  · rw [List.getElem?_map] at hx hy
    obtain ⟨x, hx1, rfl⟩ := Option.map_eq_some_iff.mp hx
    obtain ⟨y, hy1, rfl⟩ := Option.map_eq_some_iff.mp hy
    rw [List.getElem?_drop, Nat.add_comm] at hy1
    have ex : (alongL ss ns).getD i [] = ss.getD x.toNat [] := by rw [alongL, List.getD_eq_getElem?_getD, List.getElem?_map, hx1]; rfl
    have ey : (alongL ss ns).getD (i + 1) [] = ss.getD y.toNat [] := by rw [alongL, List.getD_eq_getElem?_getD, List.getElem?_map, hy1]; rfl
    rw [ex, ey] at hQ
    have bx := hin x (List.mem_of_getElem? hx1)
    have bY := hin y (List.mem_of_getElem? hy1)
    obtain ⟨us, u1, e1, e2, e3⟩ := (hb.same s').at_ bx.1 bx.2
    obtain ⟨us', u2, e1', e2', e3'⟩ := (hb.same s').at_ bY.1 bY.2
    obtain ⟨p1, p2, ep⟩ := two_of (h2 _ (getD_mem (d := []) (show x.toNat < ss.length by omega)))
    obtain ⟨q1, q2, eq⟩ := two_of (h2 _ (getD_mem (d := []) (show y.toNat < ss.length by omega)))
    wtm_at "rd"
    refine r_ixL (SqL.of e1) e2 ?_
    wtm_at "rd"
    refine r_ixL (SqL.of e1') e2' ?_
    refine ⟨u1, u2, _, _, rfl, rfl, SqT.of e3, SqT.of e3', ?_⟩
    rw [ep, eq] at hQ ⊢
    rw [le2]
    exact hQ
  · refine ⟨D, _, rfl, SqL.of (by rw [hD]; exact congrArg (fun z => some (HO.lst z)) (List.map_map (f := fun i => leL ((alongL ss ns).getD i []) ((alongL ss ns).getD (i + 1) [])) (g := V.bl)).symm), ?_⟩
    refine bl_to (q _ (s_c.trans s')) ?_
    rw [List.all_map, List.length_map, List.length_map, List.length_drop, ← sortB_all]
    have el : (alongL ss ns).length = ns.length := by rw [alongL, List.length_map]
    rw [el]
    rfl
theorem ok_ranks_of (T : Txt K mg) : FnOk P w K mg base CX0 1 T.f_ranks_of T.d_ranks_of ["order", "seats"] spRanks := by
  refine T.F_ranks_of.ok sc_ranks_of (fun vs H Q E h => ?_) (fun cdv A outer s H vs Q E hr h => ?_)
  · obtain ⟨a, b, ns, ss, rfl, _⟩ := h
    rfl
  obtain ⟨a, b, ns, ss, rfl, ha, hb, hnum, h2, lz, q⟩ := h
  refine ⟨_, (pss_cons (ps_set (i := 2) sc_ranks_of.nd rfl (by first | exact Or.inl rfl | exact Or.inr rfl) (pe_op op_rep (pe_lst (pa_cons pe_int pa_nil)) (pe_callB (r := rLenL K) (id := "len") c_len (by rfl) T.z_len (by decide +kernel) (pa_cons (pv 0) pa_nil))))
      (pss_cons (ps_set (i := 3) sc_ranks_of.nd rfl (by first | exact Or.inl rfl | exact Or.inr rfl) pe_int)
      (pss_cons (ps_for PassesOwn.never rfl (pi_enum (by rfl) T.z_enumerate (pa_cons (pv 0) pa_nil)) (pg_tup (by rfl) (pgs_cons (pg_name (i := 4) sc_ranks_of.nd rfl (by first | exact Or.inl rfl | exact Or.inr rfl)) (pgs_cons (pg_name (i := 5) sc_ranks_of.nd rfl (by first | exact Or.inl rfl | exact Or.inr rfl)) pgs_nil))) (pss_cons (ps_if (PW.pt (pw_and (pt_cmpR op_gt (pv 4) pe_int (nomark _)) (pw_and1 (pt_cmpR (r := rNeD K) (op_neD hr.units) (pe_ix (r := rIxL K) ix_list (pv 1) (pv 5) (fun _ _ => rfl)) (pe_ix (r := rIxL K) ix_list (pv 1) (pe_ix (r := rIxL K) ix_list (pv 0) (pe_op op_sub (pv 4) pe_int) (fun _ _ => rfl)) (fun _ _ => rfl)) (nomark _))))) (pss_one (ps_aug (i := 3) sc_ranks_of.nd rfl (by first | exact Or.inl rfl | exact Or.inr rfl) pe_int ip_add)) pss_nil)
      (pss_one (ps_asg (pv 3) (pg_sub (pv 2) (pv 5) set_list)))))
      (pss_one (ps_ret (pv 2)))))), ?_⟩
  try simp only [nox_K, cx_K]
  obtain ⟨n1, n2, n3⟩ := of_decide_eq_true hnum
  have ha0 := ha
  have hb0 := hb
  wtm_at "rd"
  refine r_new rfl fun z1 n_z1 => ?_
  generalize eq_z1 : upd _ z1 _ = H1
  have s_z1 : Same _ H1 := eq_z1 ▸ same_new n_z1
  have h_z1 : H1 z1 = some _ := eq_z1 ▸ upd_same
  clear eq_z1
  have ha := s_z1 _ _ ha
  have hb := hb.same s_z1
  wtm_at "rd"
  refine r_lenI ha ?_
  refine ⟨z1, _, _, rfl, rfl, h_z1, by omega, by omega, ?_, fun rl n_rl => ?_⟩
  · rw [Int.toNat_natCast, List.length_singleton, Nat.one_mul]
    exact Nat.le_of_lt (small1000 (by omega))
  have er : (List.replicate ((ns.length : Nat) : Int).toNat [V.int 0]).flatten = (List.replicate ns.length (0 : Int)).map V.int := by
    rw [Int.toNat_natCast, List.map_replicate]
    generalize ns.length = k
    induction k with
    | zero => rfl
    | succ k ih => rw [List.replicate_succ, List.flatten_cons, ih, List.replicate_succ]; rfl
  rw [er]
  have n_rl0 := s_z1.free n_rl
  generalize eq_rl : upd _ rl _ = H2
  have s_rl : Same _ H2 := eq_rl ▸ same_new n_rl
  have h_rl : H2 rl = some _ := eq_rl ▸ upd_same
  clear eq_rl
  have ha := s_rl _ _ ha
  have hb := hb.same s_rl
  have s_z1 := s_z1.trans s_rl
  wtm_at "rd"
  refine r_for (r_enum ?_)
  wtm_at "rd"
  refine ⟨a, _, rfl, SqL.of ha, ?_⟩
  have la : (alongL ss ns).length = ns.length := by rw [alongL, List.length_map]
  refine for_it (walk_enum (K := K) (a := a) (xs := ns.map V.int)) (fun i σ H' => ∃ (y4 y5 : Option V) (rk : List Int), σ = [some (.ref a), some (.ref b), some (.ref rl), some (.int (rankAt (alongL ss ns) (i - 1))), y4, y5] ∧ H' rl = some (.lst (rk.map V.int)) ∧ rk.length = ns.length ∧ (∀ (j : Nat) (x : Int), j < i → ns[j]? = some x → rk[x.toNat]? = some (rankAt (alongL ss ns) j)) ∧ ∀ b o, H b = some o → H' b = some o) ⟨_, _, _, rfl, h_rl, List.length_replicate, fun j x h => absurd h (Nat.not_lt_zero _), s_z1⟩ (fun i σ H' _ ⟨_, _, _, _, _, _, _, k⟩ => SqL.of (k _ _ (by assumption))) ?_ ?_
  · rintro i v σ H3 H4 hi ⟨y4, y5, rk, rfl, hrl, lrk, hrk, k3⟩ ⟨T0, x, y, rfl, nT, rfl, hx, hy⟩
    cases hx
    dsimp only at hy
    rw [List.length_map] at hi
    rw [List.getElem?_map] at hy
    obtain ⟨x, hx, rfl⟩ := Option.map_eq_some_iff.mp hy
    have sT := same_new (o := .tup [.int (i : Nat), .int x]) nT
    have bx := n2 x (List.mem_of_getElem? hx)
    refine r_gtup (SqT.of upd_same) rfl ?_
    have hrl4 := sT _ _ hrl
    have k4 : Same H (upd H3 T0 (.tup [.int (i : Nat), .int x])) := fun b o e => sT _ _ (k3 b o e)
    generalize upd H3 T0 (.tup [.int (i : Nat), .int x]) = H4 at hrl4 k4 ⊢
    clear sT
    wtm_at "rd"
    have step : ∀ {H5 : Hp}, Same H H5 → H5 rl = some (.lst (rk.map V.int)) → ∃ (y4 y5 : Option V) (rk' : List Int), [some (V.ref a), some (.ref b), some (.ref rl), some (.int (rankAt (alongL ss ns) i)), some (.int (i : Nat)), some (.int x)] = [some (V.ref a), some (.ref b), some (.ref rl), some (.int (rankAt (alongL ss ns) (i + 1 - 1))), y4, y5] ∧ (upd H5 rl (.lst ((rk.map V.int).set x.toNat (.int (rankAt (alongL ss ns) i))))) rl = some (.lst (rk'.map V.int)) ∧ rk'.length = ns.length ∧ (∀ (j : Nat) (x : Int), j < i + 1 → ns[j]? = some x → rk'[x.toNat]? = some (rankAt (alongL ss ns) j)) ∧ ∀ b o, H b = some o → (upd H5 rl (.lst ((rk.map V.int).set x.toNat (.int (rankAt (alongL ss ns) i))))) b = some o := fun {H5} s5 h5 => by
      refine ⟨_, _, rk.set x.toNat (rankAt (alongL ss ns) i), rfl, by rw [upd_same, List.map_set], by rw [List.length_set]; exact lrk, fun j y hj hy9 => ?_, fun b o e => (upd_ne (ne_of_none e n_rl0)).trans (s5 b o e)⟩
      by_cases c : j = i
      · subst c
        obtain rfl : x = y := Option.some.inj (hx.symm.trans hy9)
        exact List.getElem?_set_self (by omega)
      · have by_ := n2 y (List.mem_of_getElem? hy9)
        have hne : x.toNat ≠ y.toNat := fun z => c (by
          have hxy : x = y := by omega
          subst hxy
          have h1 := List.getElem?_eq_some_iff.mp hx
          have h2 := List.getElem?_eq_some_iff.mp hy9
          exact (List.getElem_inj (h₀ := h2.1) (h₁ := h1.1) n3).mp (h2.2.trans h1.2.symm))
        rw [List.getElem?_set_ne hne]
        exact hrk j y (by omega) hy9
    have lx : (rk.map V.int).length = ns.length := by rw [List.length_map]; exact lrk
    refine r_ite (fun c1 => ?_) (fun c1 => ?_)
    · have i1 : 0 < i := by omega
      obtain ⟨p, hp⟩ : ∃ p, ns[i - 1]? = some p := ⟨ns[i - 1]'(by omega), List.getElem?_eq_getElem (by omega)⟩
      have bp := n2 p (List.mem_of_getElem? hp)
      obtain ⟨us, u1, e1, e2, e3⟩ := (hb0.same k4).at_ bx.1 (by omega)
      obtain ⟨us', u2, e1', e2', e3'⟩ := (hb0.same k4).at_ bp.1 (by omega)
      have ax : (alongL ss ns)[i]? = some (ss.getD x.toNat []) := by rw [alongL, List.getElem?_map, hx]; rfl
      have ap : (alongL ss ns)[i - 1]? = some (ss.getD p.toNat []) := by rw [alongL, List.getElem?_map, hp]; rfl
      have rki : rankAt (alongL ss ns) i = rankAt (alongL ss ns) (i - 1) + if ss.getD x.toNat [] = ss.getD p.toNat [] then 0 else 1 := by
        obtain ⟨k, rfl⟩ : ∃ k, i = k + 1 := ⟨i - 1, by omega⟩
        show rankAt (alongL ss ns) k + (if (alongL ss ns)[k + 1]? = (alongL ss ns)[k]? then 0 else 1) = _
        rw [ax, show (alongL ss ns)[k]? = some (ss.getD p.toNat []) from ap]
        show rankAt (alongL ss ns) k + _ = rankAt (alongL ss ns) k + _
        congr 1
        by_cases e : ss.getD x.toNat [] = ss.getD p.toNat []
        · rw [if_pos e, if_pos (by rw [e])]
        · rw [if_neg e, if_neg fun z => e (Option.some.inj z)]
      wtm_at "rd"
      refine r_ixL (SqL.of e1) e2 ?_
      wtm_at "rd"
      refine r_ixL (SqL.of (k4 _ _ ha0)) (v := .int p) (by rw [show ((i : Nat) : Int) - 1 = ((i - 1 : Nat) : Int) by omega]; exact atI_nat (by rw [List.getElem?_map, hp]; rfl)) ?_
      refine r_ixL (SqL.of e1') e2' ?_
      refine r_neTT (SqT.of e3) (SqT.of e3') ints_eqD ints_eqD ints_kind ?_
      wtm_at "rd"
      refine r_iten (fun c2 => ?_) (fun c2 => ?_)
      · wtm_at "rd"
        refine r_setL hrl4 (ixn_in bx.1 (by omega)) ?_
        wtm_at "rd"
        have e : rankAt (alongL ss ns) (i - 1) + 1 = rankAt (alongL ss ns) i := by rw [rki, if_neg fun z => c2 (by rw [z])]
        rw [e]
        exact step k4 hrl4
      · wtm_at "rd"
        refine r_setL hrl4 (ixn_in bx.1 (by omega)) ?_
        wtm_at "rd"
        have e : rankAt (alongL ss ns) (i - 1) = rankAt (alongL ss ns) i := by rw [rki, if_pos ((List.map_inj_right fun _ _ z => V.int.inj z).mp c2), Int.add_zero]
        rw [e]
        exact step k4 hrl4
    · have i0 : i = 0 := by omega
      wtm_at "rdi"
      refine r_setL hrl4 (ixn_in bx.1 (by omega)) ?_
      wtm_at "rd"
      have e : rankAt (alongL ss ns) (i - 1) = rankAt (alongL ss ns) i := by rw [i0]
      rw [e]
      exact step k4 hrl4
  · rintro σ H3 ⟨y4, y5, rk, rfl, hrl, lrk, hrk, k3⟩
    wtm_at "rd"
    exact q rl rk H3 n_rl0 hrl ⟨lrk, fun j x h => hrk j x (by rw [List.length_map]; exact (List.getElem?_eq_some_iff.mp h).1) h⟩ k3
end

theorem pe_indexK {X : Cx} {K : PySem.W.Frag} {o e : Expr} {es : List Expr} {to : TE} {t : TA} {apos cpos : Pos} (hK : X.K = K) (ho : PE X o to) (ha : PA X (e :: es) t) (h1 : attributeBase o "index" X.env (eval o X.env) = eval o X.env := by rfl)
    (h2 : ((backTo cpos (starEach (e :: es) X.env)).all (fun x => !x.1) && (backToKw cpos (keywordEach [] X.env)).all (fun x => x.1.isSome) && decide ((e :: es).length + ([] : List Keyword).length + (if ([] : List Keyword).isEmpty then 0 else 1) < 30)) = true := by rfl)
    (h3 : (apos.endLine == cpos.line) = true := by rfl) (h4 : starEach (e :: es) X.env = (false, eval e X.env) :: starEach es X.env := by rfl) (h5 : (backTo cpos (starEach es X.env)).any (·.1) = false := by rfl) : PE X (.Call (.Attribute o "index" apos) (e :: es) [] cpos) (tBM K "list" (rIndex K) to t) := by
  subst hK
  exact pe_bm PySem.F.plainAttrs_list PySem.F.slot_list_index PySem.F.type_list_index mt_index ho ha h1 h2 h3 h4 h5
/-! dicts from texts to lists -/
def zipR (ks : List Str) (as : List Addr) : Row := List.zipWith (fun k a => (k, V.ref a)) ks as
theorem zip_keys : ∀ {ks : List Str} {as : List Addr}, as.length = ks.length → keysR (zipR ks as) = ks
  | [], [], _ => rfl
  | k :: ks, a :: as, h => by
    show k :: keysR (zipR ks as) = _
    rw [zip_keys (Nat.succ.inj h)]
  | [], _ :: _, h => by cases h
  | _ :: _, [], h => by cases h
theorem zip_snoc : ∀ {ks : List Str} {as : List Addr} {k : Str} {a : Addr}, as.length = ks.length → zipR (ks ++ [k]) (as ++ [a]) = zipR ks as ++ [(k, .ref a)]
  | [], [], _, _, _ => rfl
  | k :: ks, a :: as, k', a', h => by
    show (k, V.ref a) :: zipR (ks ++ [k']) (as ++ [a']) = _
    rw [zip_snoc (Nat.succ.inj h)]
    rfl
  | [], _ :: _, _, _, h => by cases h
  | _ :: _, [], _, _, h => by cases h
theorem zip_get : ∀ {ks : List Str} {as : List Addr} {j : Nat} {k : Str} {a : Addr}, as.length = ks.length → ks.Nodup → ks[j]? = some k → as[j]? = some a → getR (zipR ks as) k = some (.ref a)
  | k :: ks, a :: as, 0, _, _, _, _, e1, e2 => by
    cases e1
    cases e2
    show Option.map _ (match decide (k = k) with | true => _ | false => _) = _
    rw [decide_eq_true rfl]
    rfl
  | k :: ks, a :: as, j + 1, k', a', h, n, e1, e2 => by
    have e1 : ks[j]? = some k' := e1
    have n2 := List.nodup_cons.mp n
    have ne : ¬ k = k' := fun z => n2.1 (z ▸ List.mem_of_getElem? e1)
    show Option.map _ (match decide (k = k') with | true => _ | false => _) = _
    rw [decide_eq_false ne]
    exact zip_get (Nat.succ.inj h) n2.2 e1 e2
  | [], _, _, _, _, _, _, e, _ => by cases e
  | _ :: _, [], _, _, _, h, _, _, _ => by cases h
structure DL {α : Type} (P : Hp → Addr → α → Prop) (H : Hp) (d : Addr) (ks : List Str) (as : List Addr) (xs : List α) : Prop where
  d : H d = some (.dK (rowK (zipR ks as)))
  l : as.length = ks.length
  at_ : All2 (P H) as xs
structure Frm {α : Type} (P : Hp → Addr → α → Prop) : Prop where
  same : ∀ {H H' : Hp} {a : Addr} {x : α}, P H a x → Same H H' → P H' a x
  putD : ∀ {H : Hp} {d a : Addr} {x : α} {k : List (Key × V)} {o : HO}, P H a x → H d = some (.dK k) → P (upd H d o) a x
def PI (H : Hp) (a : Addr) (n : List Int) : Prop := H a = some (.lst (n.map V.int))
def PS (H : Hp) (a : Addr) (ss : List (List Int)) : Prop := SeatsAt H a ss
theorem frI : Frm PI := ⟨fun h s => s _ _ h, fun h hd => (upd_ne (ne_of h hd fun z => nomatch z)).trans h⟩
theorem frS : Frm PS := ⟨fun h s => SeatsAt.same h s, fun {H d a x k o} h hd => by
  obtain ⟨us, h1, h2⟩ := h
  exact ⟨us, (upd_ne (ne_of h1 hd fun z => nomatch z)).trans h1, h2.imp fun _ _ z => (upd_ne (ne_of z hd fun y => nomatch y)).trans z⟩⟩
section
variable {α : Type} {P : Hp → Addr → α → Prop} {H H' : Hp} {d a : Addr} {ks : List Str} {as : List Addr} {xs : List α}
theorem DL.same (h : DL P H d ks as xs) (F : Frm P) (s : Same H H') : DL P H' d ks as xs := ⟨s _ _ h.d, h.l, h.at_.imp fun _ _ z => F.same z s⟩
theorem DL.putD {e : Addr} {k : List (Key × V)} {o : HO} (h : DL P H d ks as xs) (F : Frm P) (he : H e = some (.dK k)) (n : d ≠ e) : DL P (upd H e o) d ks as xs := ⟨(upd_ne n).trans h.d, h.l, h.at_.imp fun _ _ z => F.putD z he⟩
theorem DL.snoc {k : Str} {x : α} (h : DL P H d ks as xs) (F : Frm P) (hk : ¬ k ∈ ks) (p : P H a x) : DL P (upd H d (.dK (rowK (putR (zipR ks as) k (.ref a))))) d (ks ++ [k]) (as ++ [a]) (xs ++ [x]) := by
  refine ⟨?_, by rw [List.length_append, List.length_append, h.l]; rfl, All2.snoc (h.at_.imp fun _ _ z => F.putD z h.d) (F.putD p h.d)⟩
  rw [upd_same, put_new (by rw [zip_keys h.l]; exact hk), zip_snoc h.l]
theorem DL.get (h : DL P H d ks as xs) (hn : ks.Nodup) {j : Nat} {k : Str} {x : α} (hk : ks[j]? = some k) (hx : xs[j]? = some x) : ∃ a, getR (zipR ks as) k = some (.ref a) ∧ as[j]? = some a ∧ P H a x := by
  have hj : j < as.length := by rw [h.at_.len]; exact (List.getElem?_eq_some_iff.mp hx).1
  have ha : as[j]? = some as[j] := List.getElem?_eq_getElem hj
  exact ⟨as[j], zip_get h.l hn hk ha, ha, h.at_.at_ j _ x ha hx⟩
end
/-! orders as they are handed in -/
def findO (os : List (Str × List Int)) (w : Str) : Option (List Int) := (os.find? fun p => decide (p.1 = w)).map (·.2)
def ordR (os : List (Str × List Int)) (as : List Addr) : Row := List.zipWith (fun p a => (p.1, V.ref a)) os as
structure OrdAt (H : Hp) (o : Addr) (os : List (Str × List Int)) (as : List Addr) : Prop where
  d : H o = some (.dK (rowK (ordR os as)))
  l : All2 (fun a p => H a = some (.lst (p.2.map V.int))) as os
theorem OrdAt.same {H H' : Hp} {o : Addr} {os : List (Str × List Int)} {as : List Addr} (h : OrdAt H o os as) (s : Same H H') : OrdAt H' o os as := ⟨s _ _ h.d, h.l.imp fun _ _ z => s _ _ z⟩
theorem ord_get {H : Hp} {w : Str} : ∀ {os : List (Str × List Int)} {as : List Addr}, All2 (fun a p => H a = some (.lst (p.2.map V.int))) as os → (findO os w = none ∧ getR (ordR os as) w = none) ∨ ∃ ns a, findO os w = some ns ∧ getR (ordR os as) w = some (.ref a) ∧ a ∈ as ∧ H a = some (.lst (ns.map V.int))
  | [], [], _ => .inl ⟨rfl, rfl⟩
  | p :: os, a :: as, h => by
    have h1 := h.uncons
    by_cases e : p.1 = w
    · refine .inr ⟨p.2, a, ?_, ?_, List.mem_cons_self, h1.1⟩
      · unfold findO
        rw [List.find?_cons, decide_eq_true e]
        rfl
      · show Option.map _ (match decide (p.1 = w) with | true => _ | false => _) = _
        rw [decide_eq_true e]
        rfl
    · have f1 : findO (p :: os) w = findO os w := by unfold findO; rw [List.find?_cons, decide_eq_false e]
      have f2 : getR (ordR (p :: os) (a :: as)) w = getR (ordR os as) w := by
        show Option.map _ (match decide (p.1 = w) with | true => _ | false => _) = _
        rw [decide_eq_false e]
        rfl
      rw [f1, f2]
      rcases ord_get h1.2 with z | ⟨ns, b, z1, z2, z3, z4⟩
      · exact .inl z
      · exact .inr ⟨ns, b, z1, z2, List.mem_cons_of_mem _ z3, z4⟩
  | [], _ :: _, h => by cases h.len
  | _ :: _, [], h => by cases h.len
def fitB (rs : List Row) (s : Srt) (l : List Int) : Bool := isNumB l rs.length && sortB (alongL (rs.map (seatL s)) l)
def fitsO (rs : List Row) (os : List (Str × List Int)) (s : Srt) : Bool := match findO os s.nm with
  | none => false
  | some l => fitB rs s l
def badLay (sc : Sch) (rs : List Row) (os : List (Str × List Int)) : Option Str := (sc.ss.find? fun s => !fitsO rs os s).map Srt.nm
def lsOf (ss : List Srt) (os : List (Str × List Int)) : List (List Int) := ss.map fun s => (findO os s.nm).getD []
/-! places and ranks -/
theorem num_surj {ns : List Int} {n : Nat} (h : isNumB ns n = true) {i : Nat} (hi : i < n) : (i : Int) ∈ ns := by
  obtain ⟨n1, n2, n3⟩ := of_decide_eq_true h
  refine Decidable.byContradiction fun c => ?_
  have le := nodup_len (m := ((List.range n).map fun (k : Nat) => (k : Int)).erase (i : Int)) n3 fun x hx => by
    obtain ⟨x0, x1⟩ := n2 x hx
    refine (List.mem_erase_of_ne fun z => c (by rw [← z]; exact hx)).mpr (List.mem_map.mpr ⟨x.toNat, List.mem_range.mpr (by omega), by omega⟩)
  rw [List.length_erase_of_mem (List.mem_map.mpr ⟨i, List.mem_range.mpr hi, rfl⟩), List.length_map, List.length_range] at le
  omega
def spotL (ns : List Int) : List Int := (List.range ns.length).map fun (i : Nat) => ((ns.idxOf (i : Int) : Nat) : Int)
theorem place_at {ns : List Int} (hn : ns.Nodup) {j : Nat} {x : Int} (h : ns[j]? = some x) : ns.idxOf x = j := by
  have hj := List.getElem?_eq_some_iff.mp h
  have hm := List.mem_of_getElem? h
  have hl := List.idxOf_lt_length_of_mem hm
  have he : ns[ns.idxOf x] = x := List.getElem_idxOf hl
  exact (List.getElem_inj (h₀ := hl) (h₁ := hj.1) hn).mp (he.trans hj.2.symm)
theorem spot_at {ns : List Int} {n : Nat} (h : isNumB ns n = true) {j : Nat} {x : Int} (hx : ns[j]? = some x) : (spotL ns)[x.toNat]? = some (j : Int) := by
  obtain ⟨n1, n2, n3⟩ := of_decide_eq_true h
  have bx := n2 x (List.mem_of_getElem? hx)
  unfold spotL
  rw [List.getElem?_map, List.getElem?_range (by omega)]
  show some (((ns.idxOf ((x.toNat : Nat) : Int) : Nat) : Int)) = _
  rw [Int.toNat_of_nonneg bx.1, place_at n3 hx]
/-! the lay -/
def layF (t o se sp ra : Addr) : List (Str × V) := putF "ranks" (.ref ra) (putF "spots" (.ref sp) (putF "seats" (.ref se) (putF "orders" (.ref o) (putF "table" (.ref t) []))))
section
variable (t o se sp ra : Addr)
theorem lay_table : (layF t o se sp ra).lookup ("table" : Str) = some (.ref t) := by
  unfold layF
  rw [lookup_putF, if_neg (by decide +kernel), lookup_putF, if_neg (by decide +kernel), lookup_putF, if_neg (by decide +kernel), lookup_putF, if_neg (by decide +kernel), lookup_putF, if_pos rfl]
theorem lay_orders : (layF t o se sp ra).lookup ("orders" : Str) = some (.ref o) := by
  unfold layF
  rw [lookup_putF, if_neg (by decide +kernel), lookup_putF, if_neg (by decide +kernel), lookup_putF, if_neg (by decide +kernel), lookup_putF, if_pos rfl]
theorem lay_seats : (layF t o se sp ra).lookup ("seats" : Str) = some (.ref se) := by
  unfold layF
  rw [lookup_putF, if_neg (by decide +kernel), lookup_putF, if_neg (by decide +kernel), lookup_putF, if_pos rfl]
theorem lay_spots : (layF t o se sp ra).lookup ("spots" : Str) = some (.ref sp) := by
  unfold layF
  rw [lookup_putF, if_neg (by decide +kernel), lookup_putF, if_pos rfl]
theorem lay_ranks : (layF t o se sp ra).lookup ("ranks" : Str) = some (.ref ra) := by
  unfold layF
  rw [lookup_putF, if_pos rfl]
theorem lay_no {m : Str} (h1 : ¬ m = "ranks") (h2 : ¬ m = "spots") (h3 : ¬ m = "seats") (h4 : ¬ m = "orders") (h5 : ¬ m = "table") : (layF t o se sp ra).lookup m = none := by
  unfold layF
  rw [lookup_putF, if_neg h1, lookup_putF, if_neg h2, lookup_putF, if_neg h3, lookup_putF, if_neg h4, lookup_putF, if_neg h5]
  rfl
end
/-- ranks of all sorts -/
def RksOk (rs : List Row) (ss : List Srt) (os rks : List (List Int)) : Prop := rks.length = ss.length ∧ ∀ (j : Nat) (s : Srt) (l k : List Int), ss[j]? = some s → os[j]? = some l → rks[j]? = some k → RkOk l (alongL (rs.map (seatL s)) l) k
structure LayX (K : PySem.W.Frag) (CL CT CC CS : Addr) (H : Hp) (y : Addr) (sc : Sch) (rs : List Row) (ls : List (List Int)) (t o se sp ra p al : Addr) (as oa sea spa raa : List Addr) (rks : List (List Int)) : Prop where
  ins : ∃ dx, H y = some (.ins CL dx (layF t o se sp ra))
  tbl : TblAt K CT CC CS H t sc rs p al as
  od : DL PI H o sc.names oa ls
  sd : DL PS H se sc.names sea (sc.ss.map fun s => rs.map (seatL s))
  pd : DL PI H sp sc.names spa (ls.map spotL)
  rd : DL PI H ra sc.names raa rks
  rk : RksOk rs sc.ss ls rks
  fit : ∀ (j : Nat) (s : Srt) (l : List Int), sc.ss[j]? = some s → ls[j]? = some l → fitB rs s l = true
structure LayAt (K : PySem.W.Frag) (CL CT CC CS : Addr) (H : Hp) (y : Addr) (sc : Sch) (rs : List Row) (ls : List (List Int)) (ow : List Addr) : Prop where
  ex : ∃ t o se sp ra p al as oa sea spa raa rks, LayX K CL CT CC CS H y sc rs ls t o se sp ra p al as oa sea spa raa rks ∧ ∀ x, (x = al ∨ x ∈ as ∨ x = o ∨ x ∈ oa ∨ x = se ∨ x ∈ sea ∨ x = sp ∨ x ∈ spa ∨ x = ra ∨ x ∈ raa) → x ∈ ow
/-- what is kept: all but lists and dicts, and the lists and dicts that are owned -/
def KeepM (ow : List Addr) (H H' : Hp) : Prop := ∀ b o, H b = some o → (b ∈ ow ∨ ((∀ z, o ≠ .dK z) ∧ ∀ z, o ≠ .lst z)) → H' b = some o
theorem KeepM.of {ow : List Addr} {H H' : Hp} (s : Same H H') : KeepM ow H H' := fun b o e _ => s b o e
theorem KeepM.trans {ow : List Addr} {H H1 H2 : Hp} (a : KeepM ow H H1) (b : KeepM ow H1 H2) : KeepM ow H H2 := fun x o e z => b x o (a x o e z) z
theorem KeepM.put {ow : List Addr} {H : Hp} {a : Addr} {o o' : HO} (ha : H a = some o) (hm : (∃ z, o = .dK z) ∨ ∃ z, o = .lst z) (n : ¬ a ∈ ow) : KeepM ow H (upd H a o') := fun b x e z => by
  refine (upd_ne fun q => ?_).trans e
  subst q
  rw [ha] at e
  cases e
  rcases z with z | ⟨z1, z2⟩
  · exact n z
  · rcases hm with ⟨k, e⟩ | ⟨k, e⟩
    · exact z1 k e
    · exact z2 k e
theorem KeepM.ext {ow : List Addr} {H H' : Hp} {d c r : Addr} (D : Drw H d c r) (E : Ext d r H H') (nd : ¬ d ∈ ow) (nr : ¬ r ∈ ow) : KeepM ow H H' := fun b o e z => by
  obtain ⟨_, _, _, ns, rs, t, g1, g2, g3, _⟩ := D
  refine E b o e (fun q => ?_) fun q => ?_
  · subst q
    rcases z with z | ⟨z1, z2⟩
    · exact nd z
    · rw [g1] at e; exact z2 _ (Option.some.inj e).symm
  · subst q
    rcases z with z | ⟨z1, z2⟩
    · exact nr z
    · rw [g3] at e; exact z2 _ (Option.some.inj e).symm
theorem LayAt.keep {K : PySem.W.Frag} {CL CT CC CS : Addr} {H H' : Hp} {y : Addr} {sc : Sch} {rs : List Row} {ls : List (List Int)} {ow : List Addr} (h : LayAt K CL CT CC CS H y sc rs ls ow) (k : KeepM ow H H') : LayAt K CL CT CC CS H' y sc rs ls ow := by
  obtain ⟨t, o, se, sp, ra, p, al, as, oa, sea, spa, raa, rks, X, hw⟩ := h
  have nm : ∀ b o, H b = some o → (∀ z, o ≠ .dK z) → (∀ z, o ≠ .lst z) → H' b = some o := fun b o e z1 z2 => k b o e (.inr ⟨z1, z2⟩)
  have ownd : ∀ {b : Addr} {o : HO}, b ∈ ow → H b = some o → H' b = some o := fun {b o} z e => k b o e (.inl z)
  have di : ∀ {d : Addr} {ks : List Str} {bs : List Addr} {xs : List (List Int)}, d ∈ ow → (∀ x ∈ bs, x ∈ ow) → DL PI H d ks bs xs → DL PI H' d ks bs xs := fun {d ks bs xs} h1 h2 z => ⟨ownd h1 z.d, z.l, ⟨z.at_.len, fun j x y e1 e2 => ownd (h2 x (List.mem_of_getElem? e1)) (z.at_.at_ j x y e1 e2)⟩⟩
  refine ⟨t, o, se, sp, ra, p, al, as, oa, sea, spa, raa, rks, ⟨?_, ?_, di (hw _ (by simp)) (fun x hx => hw x (by simp [hx])) X.od, ?_, di (hw _ (by simp)) (fun x hx => hw x (by simp [hx])) X.pd, di (hw _ (by simp)) (fun x hx => hw x (by simp [hx])) X.rd, X.rk, X.fit⟩, hw⟩
  · obtain ⟨dx, e⟩ := X.ins
    exact ⟨dx, nm _ _ e (fun _ z => nomatch z) fun _ z => nomatch z⟩
  · obtain ⟨⟨dx, e⟩, h1, h2, h3⟩ := X.tbl
    exact ⟨⟨dx, nm _ _ e (fun _ z => nomatch z) fun _ z => nomatch z⟩, h1.nod nm, ownd (hw _ (by simp)) h2, ⟨All2.len h3, fun j x y e1 e2 => ownd (hw x (by simp [List.mem_of_getElem? e1])) (All2.at_ h3 j x y e1 e2)⟩⟩
  · refine ⟨ownd (hw _ (by simp)) X.sd.d, X.sd.l, ⟨X.sd.at_.len, fun j x y e1 e2 => ?_⟩⟩
    obtain ⟨us, z1, z2⟩ := X.sd.at_.at_ j x y e1 e2
    exact ⟨us, ownd (hw x (by simp [List.mem_of_getElem? e1])) z1, z2.imp fun _ _ z => nm _ _ z (fun _ y => nomatch y) fun _ y => nomatch y⟩
theorem LayAt.same {K : PySem.W.Frag} {CL CT CC CS : Addr} {H H' : Hp} {y : Addr} {sc : Sch} {rs : List Row} {ls : List (List Int)} {ow : List Addr} (h : LayAt K CL CT CC CS H y sc rs ls ow) (s : Same H H') : LayAt K CL CT CC CS H' y sc rs ls ow := h.keep (KeepM.of s)
def spLayInit (K : PySem.W.Frag) (CL CT CC CS CB : Addr) : Sp := fun vs H Q E => ∃ (y dx t od p al : Addr) (sc : Sch) (rs : List Row) (as : List Addr) (os : List (Str × List Int)) (bs : List Addr), vs = [.ref y, .ref t, .ref od] ∧ H y = some (.ins CL dx []) ∧ TblAt K CT CC CS H t sc rs p al as ∧ sc.good ∧ (∀ r ∈ rs, GRow sc r) ∧ rs.length ≤ 100 ∧ OrdAt H od os bs ∧ (∀ q ∈ os, q.2.length ≤ 100) ∧
  (∀ w, badLay sc rs os = some w → ∀ (d : Addr) (H' : Hp), H d = none → H' d = some (.xd [("name", .str w)]) → (∀ b o, H b = some o → b ≠ y → H' b = some o) → E (.ref CB) (some d) H') ∧
  (badLay sc rs os = none → ∀ ow H', (∀ b ∈ ow, H b = none ∨ b = al ∨ b ∈ as) → LayAt K CL CT CC CS H' y sc rs (lsOf sc.ss os) ow → (∀ b o, H b = some o → b ≠ y → H' b = some o) → Q .non H')
def spOrder (K : PySem.W.Frag) (CL CT CC CS CU : Addr) : Sp := fun vs H Q E => ∃ (y : Addr) (w : Str) (sc : Sch) (rs : List Row) (ls : List (List Int)) (ow : List Addr), vs = [.ref y, .str w] ∧ LayAt K CL CT CC CS H y sc rs ls ow ∧ sc.good ∧
  (findS sc w = none → ∀ (d : Addr) (H' : Hp), H d = none → H' d = some (.xd [("name", .str w)]) → Same H H' → E (.ref CU) (some d) H') ∧ (∀ (j : Nat) (s : Srt) (l : List Int), sc.ss[j]? = some s → s.nm = w → ls[j]? = some l → ∀ u, H u = none → Q (.ref u) (upd H u (.lst (l.map V.int))))
def spLayEq (K : PySem.W.Frag) (CL CT CC CS : Addr) : Sp := fun vs H Q _ => ∃ (y : Addr) (v : V) (sc : Sch) (rs : List Row) (ls : List (List Int)) (ow : List Addr), vs = [.ref y, v] ∧ LayAt K CL CT CC CS H y sc rs ls ow ∧ sc.good ∧ (∀ r ∈ rs, RowN r) ∧
  ((∃ (y2 : Addr) (sd : Sch) (qs : List Row) (ms : List (List Int)) (ox : List Addr), v = .ref y2 ∧ LayAt K CL CT CC CS H y2 sd qs ms ox ∧ sd.good ∧ (∀ r ∈ qs, RowN r) ∧ Q (.bl (decide (sc = sd) && rowsEq rs qs && decide (ls = ms))) H) ∨ (∃ u, TyX K H v u ∧ PySem.W.kitOne K u (.ref CL) = some false ∧ Q (.bl false) H))
theorem find_name {sc : Sch} (hg : sc.good) {j : Nat} {s : Srt} (h : sc.ss[j]? = some s) : findS sc s.nm = some s := by
  unfold findS
  refine find_take (i := j) (fun y hy => decide_eq_false fun e => ?_) h (decide_eq_true rfl)
  obtain ⟨i, hi⟩ := List.getElem?_of_mem hy
  rw [List.getElem?_take] at hi
  by_cases c : i < j
  · rw [if_pos c] at hi
    have n1 : sc.names[i]? = some s.nm := by rw [Sch.names, List.getElem?_map, hi]; exact congrArg some e
    have n2 : sc.names[j]? = some s.nm := by rw [Sch.names, List.getElem?_map, h]; rfl
    have h1 := List.getElem?_eq_some_iff.mp n1
    have h2 := List.getElem?_eq_some_iff.mp n2
    have := (List.getElem_inj (h₀ := h1.1) (h₁ := h2.1) hg.n1).mp (h1.2.trans h2.2.symm)
    omega
  · rw [if_neg c] at hi
    cases hi
theorem intsEq_all : ∀ {n m : List Int}, n.length = m.length → decide (n = m) = (List.range n.length).all fun j => eqV ((n.map V.int).getD j .non) ((m.map V.int).getD j .non)
  | [], [], _ => rfl
  | x :: n, y :: m, h => by
    rw [List.length_cons, List.range_succ_eq_map, List.all_cons, List.all_map]
    show _ = ((x == y) && _)
    have ih := intsEq_all (n := n) (m := m) (Nat.succ.inj h)
    rw [show (List.all (List.range n.length) ((fun j => eqV (((x :: n).map V.int).getD j .non) (((y :: m).map V.int).getD j .non)) ∘ Nat.succ)) = decide (n = m) from ih.symm, Bool.eq_iff_iff, Bool.and_eq_true, decide_eq_true_eq, decide_eq_true_eq, beq_iff_eq, List.cons.injEq]
  | [], _ :: _, h => by cases h
  | _ :: _, [], h => by cases h
theorem eq_ints {K : PySem.W.Frag} {H : Hp} {a b : Addr} {n m : List Int} (ha : H a = some (.lst (n.map V.int))) (hb : H b = some (.lst (m.map V.int))) : DQ.EqB K H 2 (.ref a) (.ref b) (decide (n = m)) := by
  refine .inr ⟨a, b, rfl, rfl, fun e => ?_, ?_⟩
  · subst e
    rw [ha] at hb
    injection hb with hb
    exact decide_eq_true ((List.map_inj_right fun _ _ z => V.int.inj z).mp (HO.lst.inj hb))
  by_cases c : n.length = m.length
  · refine .inl ⟨_, _, SqL.of ha, SqL.of hb, by rw [List.length_map, List.length_map]; exact c, _, fun j u v e1 e2 => ?_, by rw [List.length_map]; exact intsEq_all c⟩
    dsimp only
    rw [List.getD_eq_getElem?_getD, List.getD_eq_getElem?_getD, e1, e2]
    refine .inl ⟨?_, ?_, rfl⟩
    · obtain ⟨x, _, rfl⟩ := List.mem_map.mp (List.mem_of_getElem? e1)
      rfl
    · obtain ⟨x, _, rfl⟩ := List.mem_map.mp (List.mem_of_getElem? e2)
      rfl
  · exact .inr (.inl ⟨_, _, SqL.of ha, SqL.of hb, by rw [List.length_map, List.length_map]; exact c, decide_eq_false fun z => c (by rw [z])⟩)
/-- two dicts of lists of ints with the same keys -/
theorem hits_dl {K : PySem.W.Frag} {H : Hp} {kq : List Str} {bq : List Addr} {xq : List (List Int)} (hn : kq.Nodup) (hq : All2 (PI H) bq xq) (lq : bq.length = kq.length) : ∀ {ks : List Str} {as : List Addr} {xs ys : List (List Int)}, (∀ (j : Nat) (k : Str) (y : List Int), ks[j]? = some k → ys[j]? = some y → ∃ i : Nat, kq[i]? = some k ∧ xq[i]? = some y) → as.length = ks.length → ys.length = ks.length → All2 (PI H) as xs → Hits (DQ.EqB K H 2) (rowK (zipR kq bq)) (rowK (zipR ks as)) (decide (xs = ys))
  | [], [], [], [], _, _, _, _ => .nil
  | k :: ks, a :: as, x :: xs, y :: ys, hh, l1, l2, h => by
    have h1 := h.uncons
    have ih := hits_dl (K := K) hn hq lq (ks := ks) (as := as) (xs := xs) (ys := ys) (fun j k' y' e1 e2 => hh (j + 1) k' y' e1 e2) (Nat.succ.inj l1) (Nat.succ.inj l2) h1.2
    obtain ⟨i, e1, e2⟩ := hh 0 k y rfl rfl
    have hi : i < bq.length := by rw [lq]; exact (List.getElem?_eq_some_iff.mp e1).1
    have hb : bq[i]? = some bq[i] := List.getElem?_eq_getElem hi
    have e : decide (x :: xs = y :: ys) = (decide (x = y) && decide (xs = ys)) := by rw [Bool.eq_iff_iff, Bool.and_eq_true, decide_eq_true_eq, decide_eq_true_eq, decide_eq_true_eq, List.cons.injEq]
    rw [e]
    exact .hit (y := .ref bq[i]) (by rw [val_row]; exact zip_get lq hn e1 hb) (eq_ints h1.1 (hq.at_ i _ y hb e2)) ih
  | [], _ :: _, _, _, _, l, _, _ => by cases l
  | _ :: _, [], _, _, _, l, _, _ => by cases l
  | [], [], _ :: _, _, _, _, _, h => by cases h.len
  | [], [], [], _ :: _, _, _, l, _ => by cases l
  | _ :: _, _ :: _, [], _, _, _, _, h => by cases h.len
  | _ :: _, _ :: _, _ :: _, [], _, _, l, _ => by cases l
theorem eq_dl {K : PySem.W.Frag} {H : Hp} {d e : Addr} {ks : List Str} {as bs : List Addr} {xs ys : List (List Int)} (hn : ks.Nodup) (h1 : DL PI H d ks as xs) (h2 : DL PI H e ks bs ys) : DQ.EqO K H (DQ.EqB K H 2) (.ref d) (.ref e) (decide (xs = ys)) := by
  have lx : xs.length = ks.length := h1.at_.len.symm.trans h1.l
  have ly : ys.length = ks.length := h2.at_.len.symm.trans h2.l
  refine ⟨d, e, rfl, rfl, fun z => ?_, .inr (.inr ⟨_, _, decide (xs = ys), h1.d, h2.d, fun _ => hits_dl hn h2.at_ h2.l (fun j k y e1 e2 => ⟨j, e1, e2⟩) h1.l ly h1.at_, ?_⟩)⟩
  · subst z
    have e := h1.d.symm.trans h2.d
    injection e with e
    injection e with e
    have e := row_inj e
    refine decide_eq_true (List.ext_getElem? fun j => ?_)
    cases hk : ks[j]? with
    | none =>
      have hj := List.getElem?_eq_none_iff.mp hk
      rw [List.getElem?_eq_none (by omega), List.getElem?_eq_none (by omega)]
    | some k =>
      have hj := (List.getElem?_eq_some_iff.mp hk).1
      have hx : xs[j]? = some (xs[j]'(by omega)) := List.getElem?_eq_getElem _
      have hy : ys[j]? = some (ys[j]'(by omega)) := List.getElem?_eq_getElem _
      obtain ⟨a, ga, _, pa⟩ := h1.get hn hk hx
      obtain ⟨b, gb, _, pb⟩ := h2.get hn hk hy
      rw [e, gb] at ga
      cases ga
      have z := pa.symm.trans pb
      injection z with z
      rw [hx, hy, (List.map_inj_right fun _ _ z => V.int.inj z).mp (HO.lst.inj z)]
  · rw [show (rowK (zipR ks as)).length = (rowK (zipR ks bs)).length by rw [rowK, rowK, List.length_map, List.length_map, zipR, zipR, List.length_zipWith, List.length_zipWith, h1.l, h2.l], beq_self_eq_true, Bool.true_and]
section
variable {P : Program} {w : World} {K : PySem.W.Frag} {mg : Str → Option Value} {base : Heap}

section
variable {H : Hp} {y : Addr} {sc : Sch} {rs : List Row} {ls : List (List Int)} {ow : List Addr}
theorem lay_who {CL CT CC CS : Addr} {m : Str} {A : Prop} (o : LayAt K CL CT CC CS H y sc rs ls ow) (h1 : ¬ m = "ranks") (h2 : ¬ m = "spots") (h3 : ¬ m = "seats") (h4 : ¬ m = "orders") (h5 : ¬ m = "table") (h : A) : ∃ a' dx fs, V.ref y = .ref a' ∧ H a' = some (.ins CL dx fs) ∧ fs.lookup m = none ∧ A := by
  obtain ⟨t, od, se, sp, ra, p, al, as, oa, sea, spa, raa, rks, X, _⟩ := o
  obtain ⟨dx, e⟩ := X.ins
  exact ⟨y, dx, _, rfl, e, lay_no _ _ _ _ _ h1 h2 h3 h4 h5, h⟩
theorem lay_ty (T : Txt K mg) (o : LayAt K T.C_Lay T.C_Table T.C_Scheme T.C_Sort H y sc rs ls ow) : TyX K H (.ref y) (.ref T.C_Lay) := by
  obtain ⟨t, od, se, sp, ra, p, al, as, oa, sea, spa, raa, rks, X, _⟩ := o
  obtain ⟨dx, e⟩ := X.ins
  exact .base (.ins e T.c_Lay T.ca_Lay T.cn_Lay T.ct_Lay T.cm_Lay)
end
theorem ok_BadLay___init__ (T : Txt K mg) : FnOk P w K mg base CX0 1 T.f_BadLay___init__ T.d_BadLay___init__ ["self", "name"] (spUSInit T.C_BadLay) := by
  refine T.F_BadLay___init__.ok sc_BadLay___init__ (fun vs H Q E h => ?_) (fun cdv A outer s H vs Q E hr h => ?_)
  · obtain ⟨a, z, rfl, _⟩ := h
    rfl
  obtain ⟨a, z, rfl, ha, q⟩ := h
  refine ⟨_, (pss_one (ps_ost (pv 0) (pv 1))), ?_⟩
  try simp only [nox_K, cx_K]
  wtm_at "rd"
  refine ⟨a, _, rfl, T.ox_BadLay, T.nf_BadLay_name, .inl ⟨ha, fun dx nd ne => ?_⟩⟩
  wtm_at "rd"
  refine q dx _ nd upd_same ?_ fun b o e nb => ?_
  · rw [upd_ne ne, upd_same]
  · rw [upd_ne nb, upd_ne (ne_of_none e nd)]
    exact e
theorem ok_Lay_order (T : Txt K mg) : FnOk P w K mg base (L2.CX P w) 4 T.f_Lay_order T.d_Lay_order ["self", "sort"] (spOrder K T.C_Lay T.C_Table T.C_Scheme T.C_Sort T.C_UnknownSort) := by
  refine T.F_Lay_order.okX sc_Lay_order (fun vs H Q E h => ?_) (fun cdv A outer s H vs Q E hr h => ?_)
  · obtain ⟨y, w, sc, rs, ls, ow, rfl, _⟩ := h
    rfl
  obtain ⟨y, w, sc, rs, ls, ow, rfl, o, hg, qE, q⟩ := h
  refine ⟨_, (pss_cons (ps_expr (pe_meth (pe_fldK (K := K) (pe_fldK (K := K) (pv 0))) T.c_Scheme T.mt_Scheme_sort_named (ok_Scheme_sort_named T) (hr.mono (by decide)) T.b_Scheme_sort_named .nil (passes_call (takes_of rfl rfl rfl rfl) fun _ _ _ _ h => h) (pa_cons (pv 1) pa_nil)))
      (pss_one (ps_ret (pe_callTy c_listA (by rfl) T.z_list (by decide +kernel) (pa_cons (pe_dget (hu_of hr) (pe_fldK (K := K) (pv 0)) (pv 1) (fun _ _ => rfl)) pa_nil))))), ?_⟩
  try simp only [nox_K, cx_K]
  obtain ⟨t, od, se, sp, ra, p, al, as, oa, sea, spa, raa, rks, X, _⟩ := o
  obtain ⟨dx, e⟩ := X.ins
  obtain ⟨dt, et⟩ := X.tbl.ins
  wtm_at "rd"
  refine r_get e T.c_Lay T.nf_Lay_table (lay_table _ _ _ _ _) ?_
  wtm_at "rd"
  refine r_get et T.c_Table T.nf_Table_scheme (tbl_scheme _ _) ?_
  refine sch_who X.tbl.sch (by decide +kernel) (by decide +kernel) (by decide +kernel) (by decide +kernel) ?_
  wtm_at "rd"
  refine ⟨p, sc, w, rfl, X.tbl.sch, fun hn d H1 nd hd s1 => qE hn d H1 nd hd s1, fun x hx a ha => ?_⟩
  wtm_at "rd"
  refine r_get e T.c_Lay T.nf_Lay_orders (lay_orders _ _ _ _ _) ?_
  wtm_at "rd"
  have hm := List.mem_of_find?_eq_some (show sc.ss.find? (fun s => decide (s.nm = w)) = some x from hx)
  have hw : x.nm = w := of_decide_eq_true (List.find?_some (p := fun s : Srt => decide (s.nm = w)) (show sc.ss.find? (fun s => decide (s.nm = w)) = some x from hx))
  obtain ⟨j, hj⟩ := List.getElem?_of_mem hm
  have hk : sc.names[j]? = some w := by rw [Sch.names, List.getElem?_map, hj, ← hw]; rfl
  have hl : ls[j]? = some (ls[j]'(by rw [← X.od.at_.len, X.od.l]; exact (List.getElem?_eq_some_iff.mp hk).1)) := List.getElem?_eq_getElem _
  obtain ⟨b, gb, _, pb⟩ := X.od.get hg.n1 hk hl
  refine r_getR X.od.d gb ?_
  refine r_listA (.inl (SqL.of pb)) fun u nu => ?_
  exact q j x _ hj hw hl u nu
theorem ok_Lay___eq__ (T : Txt K mg) : FnOk P w K mg base CX0 5 T.f_Lay___eq__ T.d_Lay___eq__ ["self", "other"] (spLayEq K T.C_Lay T.C_Table T.C_Scheme T.C_Sort) := by
  refine T.F_Lay___eq__.ok sc_Lay___eq__ (fun vs H Q E h => ?_) (fun cdv A outer s H vs Q E hr h => ?_)
  · obtain ⟨y, v, sc, rs, ls, ow, rfl, _⟩ := h
    rfl
  obtain ⟨y, v, sc, rs, ls, ow, rfl, o, hg, hn, q⟩ := h
  refine ⟨_, (pss_one (ps_ret (pe_and (pe_callB call_isi (by rfl) T.z_isinstance (by decide +kernel) (pa_cons (pv 1) (pa_cons (pe_glob (v := .ref T.C_Lay) rfl T.g_Lay rfl) pa_nil))) (pe_and (pe_cmpR (op_eqO T.mt_Table___eq__.at_ T.mt_Table___eq__.fn (ok_Table___eq__ T) (hr.mono (by decide)) T.b_Table___eq__ pass0) (pe_fldK (K := K) (pv 0)) (pe_fldK (K := K) (pv 1)) (nomark _)) (pe_one (pe_cmpR (r := DQ.rEqO K) (DQ.op_eqB hr.units) (pe_fldK (K := K) (pv 0)) (pe_fldK (K := K) (pv 1)) (nomark _))))))), ?_⟩
  try simp only [nox_K, cx_K]
  rcases q with ⟨y2, sd, qs, ms, ox, rfl, o2, hk, hn2, q⟩ | ⟨u, ty, hk, q⟩
  · wtm_at "rd"
    refine r_isi (.own _) (lay_ty T o2) kit_self ?_
    obtain ⟨t, od, se, sp, ra, p, al, as, oa, sea, spa, raa, rks, X, _⟩ := o
    obtain ⟨t2, od2, se2, sp2, ra2, p2, al2, as2, oa2, sea2, spa2, raa2, rks2, X2, _⟩ := o2
    obtain ⟨dx, e⟩ := X.ins
    obtain ⟨dx2, e2⟩ := X2.ins
    wtm_at "rdi"
    refine r_get e T.c_Lay T.nf_Lay_table (lay_table _ _ _ _ _) ?_
    wtm_at "rd"
    refine r_get e2 T.c_Lay T.nf_Lay_table (lay_table _ _ _ _ _) ?_
    refine r_eqT T X.tbl X2.tbl hg hk hn hn2 ?_
    wtm_at "rd"
    refine r_iteb (fun c1 => ?_) (fun c1 => ?_)
    · obtain ⟨c2, c3⟩ := Bool.and_eq_true_iff.mp c1
      have es := of_decide_eq_true c2
      subst es
      wtm_at "rd"
      refine r_get e T.c_Lay T.nf_Lay_orders (lay_orders _ _ _ _ _) ?_
      wtm_at "rd"
      refine r_get e2 T.c_Lay T.nf_Lay_orders (lay_orders _ _ _ _ _) ?_
      refine ⟨2, _, by decide, eq_dl hg.n1 X.od X2.od, ?_⟩
      exact bl_to q (by rw [c1, Bool.true_and])
    · exact bl_to q (by rw [c1, Bool.false_and])
  · wtm_at "rd"
    refine r_isi (.own _) ty hk ?_
    wtm_at "rdi"
    exact q
end

theorem back_y {H Hi : Hp} {y x : Addr} {oy : HO} (k : ∀ b o, H b = some o → b ≠ y → Hi b = some o) (yi : Hi y = some oy) (e : Hi x = none) : H x = none := by
  cases h : H x with
  | none => rfl
  | some o =>
    by_cases c : x = y
    · rw [c, yi] at e; cases e
    · rw [k x o h c] at e; cases e
theorem TblAt.but {K : PySem.W.Frag} {CT CC CS CL : Addr} {H H' : Hp} {t y dx : Addr} {sc : Sch} {rs : List Row} {p al : Addr} {as : List Addr} (h : TblAt K CT CC CS H t sc rs p al as) (hy : H y = some (.ins CL dx [])) (k : ∀ b o, H b = some o → b ≠ y → H' b = some o) : TblAt K CT CC CS H' t sc rs p al as := by
  obtain ⟨⟨dt, e⟩, h1, h2, h3⟩ := h
  refine ⟨⟨dt, k _ _ e (ne_of e hy fun z => ?_)⟩, h1.but hy (by decide) k, k _ _ h2 (ne_of h2 hy fun z => nomatch z), All2.imp h3 fun _ _ z => k _ _ z (ne_of z hy fun q => nomatch q)⟩
  injection z with _ _ z
  have e2 := tbl_scheme p al
  rw [z] at e2
  cases e2
structure LInv (CL : Addr) (H H' : Hp) (y dx t o se sp ra nl : Addr) (sc : Sch) (rs : List Row) (os : List (Str × List Int)) (ss : List Srt) (oa sea spa raa : List Addr) (rks : List (List Int)) : Prop where
  k : ∀ b x, H b = some x → b ≠ y → H' b = some x
  ins : H' y = some (.ins CL dx (layF t o se sp ra))
  nl : H' nl = some (.lst (sc.names.map V.str))
  od : DL PI H' o (ss.map Srt.nm) oa (lsOf ss os)
  sd : DL PS H' se (ss.map Srt.nm) sea (ss.map fun s => rs.map (seatL s))
  pd : DL PI H' sp (ss.map Srt.nm) spa ((lsOf ss os).map spotL)
  rd : DL PI H' ra (ss.map Srt.nm) raa rks
  rk : RksOk rs ss (lsOf ss os) rks
  ft : ∀ s ∈ ss, fitsO rs os s = true
  fr : ∀ x, (x ∈ oa ∨ x ∈ sea ∨ x ∈ spa ∨ x ∈ raa) → H x = none
theorem LInv.same {CL : Addr} {H H' H2 : Hp} {y dx t o se sp ra nl : Addr} {sc : Sch} {rs : List Row} {os : List (Str × List Int)} {ss : List Srt} {oa sea spa raa : List Addr} {rks : List (List Int)} (W : LInv CL H H' y dx t o se sp ra nl sc rs os ss oa sea spa raa rks) (s : Same H' H2) : LInv CL H H2 y dx t o se sp ra nl sc rs os ss oa sea spa raa rks :=
  ⟨fun b x e n => s _ _ (W.k b x e n), s _ _ W.ins, s _ _ W.nl, W.od.same frI s, W.sd.same frS s, W.pd.same frI s, W.rd.same frI s, W.rk, W.ft, W.fr⟩
theorem fits_some {rs : List Row} {os : List (Str × List Int)} {s : Srt} {l : List Int} (h : findO os s.nm = some l) : fitsO rs os s = fitB rs s l := by
  unfold fitsO
  rw [h]
theorem fits_none {rs : List Row} {os : List (Str × List Int)} {s : Srt} (h : findO os s.nm = none) : fitsO rs os s = false := by
  unfold fitsO
  rw [h]
theorem bad_lay {sc : Sch} {rs : List Row} {os : List (Str × List Int)} {i : Nat} {s : Srt} (h : ∀ x ∈ sc.ss.take i, fitsO rs os x = true) (hs : sc.ss[i]? = some s) (hb : fitsO rs os s = false) : badLay sc rs os = some s.nm := by
  unfold badLay
  rw [find_take (f := fun s => !fitsO rs os s) (fun y hy => by rw [h y hy]; rfl) hs (by rw [hb]; rfl)]
  rfl
theorem RksOk.snoc {rs : List Row} {ss : List Srt} {os rks : List (List Int)} {s : Srt} {l k : List Int} (h : RksOk rs ss os rks) (lo : os.length = ss.length) (hk : RkOk l (alongL (rs.map (seatL s)) l) k) : RksOk rs (ss ++ [s]) (os ++ [l]) (rks ++ [k]) := by
  refine ⟨by rw [List.length_append, List.length_append, h.1]; rfl, fun j s' l' k' e1 e2 e3 => ?_⟩
  by_cases c : j < ss.length
  · rw [List.getElem?_append_left c] at e1
    rw [List.getElem?_append_left (by omega)] at e2
    rw [List.getElem?_append_left (by rw [h.1]; exact c)] at e3
    exact h.2 j s' l' k' e1 e2 e3
  · rw [List.getElem?_append_right (by omega)] at e1
    rw [List.getElem?_append_right (by omega), lo] at e2
    rw [List.getElem?_append_right (by rw [h.1]; omega), h.1] at e3
    cases hz : j - ss.length with
    | zero =>
      rw [hz] at e1 e2 e3
      cases e1
      cases e2
      cases e3
      exact hk
    | succ n => rw [hz] at e1; cases e1
theorem spot_v (ns : List Int) : (List.range ns.length).map (fun (i : Nat) => V.int ((ns.idxOf (i : Int) : Nat) : Int)) = (spotL ns).map V.int := by
  unfold spotL
  rw [List.map_map]
  rfl
section
variable {P : Program} {w : World} {K : PySem.W.Frag} {mg : Str → Option Value} {base : Heap}

theorem ok_Lay___init__ (T : Txt K mg) : FnOk P w K mg base (L2.CX P w) 5 T.f_Lay___init__ T.d_Lay___init__ ["self", "table", "orders"] (spLayInit K T.C_Lay T.C_Table T.C_Scheme T.C_Sort T.C_BadLay) := by
  refine T.F_Lay___init__.okX sc_Lay___init__ (fun vs H Q E h => ?_) (fun cdv A outer s H vs Q E hr h => ?_)
  · obtain ⟨y, dx, t, od, p, al, sc, rs, as, os, bs, rfl, _⟩ := h
    rfl
  obtain ⟨y, dx, t, od, p, al, sc, rs, as, os, bs, rfl, hy, o, hg, hG, lz, ho, hol, qE, q⟩ := h
  refine ⟨_, (pss_cons (ps_fld (pv 0) (pv 1) rfl)
      (pss_cons (ps_fld (pv 0) pe_dnewK rfl)
      (pss_cons (ps_fld (pv 0) pe_dnewK rfl)
      (pss_cons (ps_fld (pv 0) pe_dnewK rfl)
      (pss_cons (ps_fld (pv 0) pe_dnewK rfl)
      (pss_one (ps_for (passes_of rfl) rfl (pi_list (pe_meth0 (pe_fldK (K := K) (pv 1)) T.c_Scheme T.mt_Scheme_sort_names (ok_Scheme_sort_names T) (hr.mono (by decide)) T.b_Scheme_sort_names .nil pass0)) (pg_name (i := 3) sc_Lay___init__.nd rfl (by first | exact Or.inl rfl | exact Or.inr rfl)) (pss_cons (ps_set (i := 4) sc_Lay___init__.nd rfl (by first | exact Or.inl rfl | exact Or.inr rfl) (pe_call (ok_seats_of T) (hr.mono (by decide)) (by rfl) T.g_seats_of T.F_seats_of.kp T.b_seats_of .nil pass0 (pa_cons (pv 1) (pa_cons (pe_meth (pe_fldK (K := K) (pv 1)) T.c_Scheme T.mt_Scheme_sort_named (ok_Scheme_sort_named T) (hr.mono (by decide)) T.b_Scheme_sort_named .nil (passes_call (takes_of rfl rfl rfl rfl) fun _ _ _ _ h => h) (pa_cons (pv 3) pa_nil)) pa_nil))))
      (pss_cons (ps_if (PW.pt (pw_or (pt_cmp (pc_dnotin (hu_of hr) (pv 3) (pv 2))) (pw_or1 (pt_not (pt_val (pe_call (ok_is_numbering T) (hr.mono (by decide)) (by rfl) T.g_is_numbering T.F_is_numbering.kp T.b_is_numbering .nil pass0 (pa_cons (pe_dget (hu_of hr) (pv 2) (pv 3) (fun _ _ => rfl)) (pa_cons (pe_callB (DQ.call_lenO T.mt_Table___len__.at_ T.mt_Table___len__.fn (ok_Table___len__ T) (hr.mono (by decide)) T.b_Table___len__ pass0) (by rfl) T.z_len (by decide +kernel) (pa_cons (pv 1) pa_nil)) pa_nil)))))))) (pss_one (ps_raise rfl (takes_of rfl rfl rfl rfl) (pmk_oex T.ox_BadLay T.iC_BadLay T.tI_BadLay (ok_BadLay___init__ T) (hr.mono (by decide)) T.b_BadLay___init__ .nil pass0 (by rfl) T.g_BadLay (pa_cons (pv 3) pa_nil)))) pss_nil)
      (pss_cons (ps_set (i := 5) sc_Lay___init__.nd rfl (by first | exact Or.inl rfl | exact Or.inr rfl) (pe_callTy c_listA (by rfl) T.z_list (by decide +kernel) (pa_cons (pe_dget (hu_of hr) (pv 2) (pv 3) (fun _ _ => rfl)) pa_nil)))
      (pss_cons (ps_if (pt_not (pt_val (pe_call (ok_is_sorted T) (hr.mono (by decide)) (by rfl) T.g_is_sorted T.F_is_sorted.kp T.b_is_sorted .nil pass0 (pa_cons (pv 5) (pa_cons (pv 4) pa_nil))))) (pss_one (ps_raise rfl (takes_of rfl rfl rfl rfl) (pmk_oex T.ox_BadLay T.iC_BadLay T.tI_BadLay (ok_BadLay___init__ T) (hr.mono (by decide)) T.b_BadLay___init__ .nil pass0 (by rfl) T.g_BadLay (pa_cons (pv 3) pa_nil)))) pss_nil)
      (pss_cons (ps_dput (hu_of hr) (pe_fldK (K := K) (pv 0)) (pv 3) (pv 5) rfl)
      (pss_cons (ps_dput (hu_of hr) (pe_fldK (K := K) (pv 0)) (pv 3) (pv 4) rfl)
      (pss_cons (ps_dput (hu_of hr) (pe_fldK (K := K) (pv 0)) (pv 3) (pe_lc (own := [("number", 6)]) (g := gName 6) (tt := tYes) rfl sc_Lay___init__.nd (pi_range1 (by rfl) T.z_range (pa_cons (pe_callB (r := rLenL K) (id := "len") c_len (by rfl) T.z_len (by decide +kernel) (pa_cons (pv 5) pa_nil)) pa_nil)) (blkOk_by (N := ["self", "table", "orders", "name", "seats", "order", "number"]) (sc := defScope s_Lay___init__) (by decide +kernel)) (fun _ _ _ _ _ => pg_name (i := 6) sc_Lay___init__.nd rfl (by first | exact Or.inl rfl | exact Or.inr rfl)) (fun _ _ _ _ _ => pts_nil) (fun _ _ _ _ _ => (pe_indexK (K := K) rfl (pv 5) (pa_cons (pv 6) pa_nil)))) rfl)
      (pss_one (ps_dput (hu_of hr) (pe_fldK (K := K) (pv 0)) (pv 3) (pe_call (ok_ranks_of T) (hr.mono (by decide)) (by rfl) T.g_ranks_of T.F_ranks_of.kp T.b_ranks_of .nil pass0 (pa_cons (pv 5) (pa_cons (pv 4) pa_nil))) rfl)))))))))))))))), ?_⟩
  try simp only [nox_K, cx_K]
  have l1 := hg.l1
  wtm_at "rd"
  refine r_put hy T.c_Lay T.nf_Lay_table (by decide) ?_
  have y0 : (upd H y (.ins T.C_Lay dx (putF "table" (.ref t) []))) y = some (.ins T.C_Lay dx (putF "table" (.ref t) [])) := upd_same
  have k0 : ∀ b o, H b = some o → b ≠ y → (upd H y (.ins T.C_Lay dx (putF "table" (.ref t) []))) b = some o := fun b o e nb => (upd_ne nb).trans e
  generalize upd H y (.ins T.C_Lay dx (putF "table" (.ref t) [])) = A0 at y0 k0 ⊢
  wtm_at "rd"
  refine r_dnew fun o1 n_o1 => ?_
  have b_o1 : H o1 = none := back_y k0 y0 n_o1
  have y_o1 : y ≠ o1 := ne_of_none y0 n_o1
  have yy : (upd A0 o1 (.dK [])) y = some (.ins T.C_Lay dx (putF "table" (.ref t) [])) := (upd_ne y_o1).trans y0
  have kk : ∀ b o, H b = some o → b ≠ y → (upd A0 o1 (.dK [])) b = some o := fun b o e nb => (upd_ne (ne_of_none e b_o1)).trans (k0 b o e nb)
  have dd : (upd A0 o1 (.dK [])) o1 = some (.dK []) := upd_same
  generalize upd A0 o1 (.dK []) = B0 at yy kk dd ⊢
  wtm_at "rd"
  refine r_put yy T.c_Lay T.nf_Lay_orders (Nat.le_of_ble_eq_true rfl) ?_
  have y1 : (upd B0 y (.ins T.C_Lay dx (putF "orders" (.ref o1) (putF "table" (.ref t) [])))) y = some (.ins T.C_Lay dx (putF "orders" (.ref o1) (putF "table" (.ref t) []))) := upd_same
  have k1 : ∀ b o, H b = some o → b ≠ y → (upd B0 y (.ins T.C_Lay dx (putF "orders" (.ref o1) (putF "table" (.ref t) [])))) b = some o := fun b o e nb => (upd_ne nb).trans (kk b o e nb)
  have d_o1 : (upd B0 y (.ins T.C_Lay dx (putF "orders" (.ref o1) (putF "table" (.ref t) [])))) o1 = some (.dK []) := (upd_ne y_o1.symm).trans dd
  generalize upd B0 y (.ins T.C_Lay dx (putF "orders" (.ref o1) (putF "table" (.ref t) []))) = A1 at y1 k1 d_o1 ⊢
  wtm_at "rd"
  refine r_dnew fun o2 n_o2 => ?_
  have b_o2 : H o2 = none := back_y k1 y1 n_o2
  have y_o2 : y ≠ o2 := ne_of_none y1 n_o2
  have n_o1_o2 : o1 ≠ o2 := ne_of_none d_o1 n_o2
  have yy : (upd A1 o2 (.dK [])) y = some (.ins T.C_Lay dx (putF "orders" (.ref o1) (putF "table" (.ref t) []))) := (upd_ne y_o2).trans y1
  have kk : ∀ b o, H b = some o → b ≠ y → (upd A1 o2 (.dK [])) b = some o := fun b o e nb => (upd_ne (ne_of_none e b_o2)).trans (k1 b o e nb)
  have dd : (upd A1 o2 (.dK [])) o2 = some (.dK []) := upd_same
  have d_o1 : (upd A1 o2 (.dK [])) o1 = some (.dK []) := (upd_ne n_o1_o2).trans d_o1
  generalize upd A1 o2 (.dK []) = B1 at yy kk dd d_o1 ⊢
  wtm_at "rd"
  refine r_put yy T.c_Lay T.nf_Lay_seats (Nat.le_of_ble_eq_true rfl) ?_
  have y2 : (upd B1 y (.ins T.C_Lay dx (putF "seats" (.ref o2) (putF "orders" (.ref o1) (putF "table" (.ref t) []))))) y = some (.ins T.C_Lay dx (putF "seats" (.ref o2) (putF "orders" (.ref o1) (putF "table" (.ref t) [])))) := upd_same
  have k2 : ∀ b o, H b = some o → b ≠ y → (upd B1 y (.ins T.C_Lay dx (putF "seats" (.ref o2) (putF "orders" (.ref o1) (putF "table" (.ref t) []))))) b = some o := fun b o e nb => (upd_ne nb).trans (kk b o e nb)
  have d_o2 : (upd B1 y (.ins T.C_Lay dx (putF "seats" (.ref o2) (putF "orders" (.ref o1) (putF "table" (.ref t) []))))) o2 = some (.dK []) := (upd_ne y_o2.symm).trans dd
  have d_o1 : (upd B1 y (.ins T.C_Lay dx (putF "seats" (.ref o2) (putF "orders" (.ref o1) (putF "table" (.ref t) []))))) o1 = some (.dK []) := (upd_ne y_o1.symm).trans d_o1
  generalize upd B1 y (.ins T.C_Lay dx (putF "seats" (.ref o2) (putF "orders" (.ref o1) (putF "table" (.ref t) [])))) = A2 at y2 k2 d_o2 d_o1 ⊢
  wtm_at "rd"
  refine r_dnew fun o3 n_o3 => ?_
  have b_o3 : H o3 = none := back_y k2 y2 n_o3
  have y_o3 : y ≠ o3 := ne_of_none y2 n_o3
  have n_o1_o3 : o1 ≠ o3 := ne_of_none d_o1 n_o3
  have n_o2_o3 : o2 ≠ o3 := ne_of_none d_o2 n_o3
  have yy : (upd A2 o3 (.dK [])) y = some (.ins T.C_Lay dx (putF "seats" (.ref o2) (putF "orders" (.ref o1) (putF "table" (.ref t) [])))) := (upd_ne y_o3).trans y2
  have kk : ∀ b o, H b = some o → b ≠ y → (upd A2 o3 (.dK [])) b = some o := fun b o e nb => (upd_ne (ne_of_none e b_o3)).trans (k2 b o e nb)
  have dd : (upd A2 o3 (.dK [])) o3 = some (.dK []) := upd_same
  have d_o1 : (upd A2 o3 (.dK [])) o1 = some (.dK []) := (upd_ne n_o1_o3).trans d_o1
  have d_o2 : (upd A2 o3 (.dK [])) o2 = some (.dK []) := (upd_ne n_o2_o3).trans d_o2
  generalize upd A2 o3 (.dK []) = B2 at yy kk dd d_o1 d_o2 ⊢
  wtm_at "rd"
  refine r_put yy T.c_Lay T.nf_Lay_spots (Nat.le_of_ble_eq_true rfl) ?_
  have y3 : (upd B2 y (.ins T.C_Lay dx (putF "spots" (.ref o3) (putF "seats" (.ref o2) (putF "orders" (.ref o1) (putF "table" (.ref t) [])))))) y = some (.ins T.C_Lay dx (putF "spots" (.ref o3) (putF "seats" (.ref o2) (putF "orders" (.ref o1) (putF "table" (.ref t) []))))) := upd_same
  have k3 : ∀ b o, H b = some o → b ≠ y → (upd B2 y (.ins T.C_Lay dx (putF "spots" (.ref o3) (putF "seats" (.ref o2) (putF "orders" (.ref o1) (putF "table" (.ref t) [])))))) b = some o := fun b o e nb => (upd_ne nb).trans (kk b o e nb)
  have d_o3 : (upd B2 y (.ins T.C_Lay dx (putF "spots" (.ref o3) (putF "seats" (.ref o2) (putF "orders" (.ref o1) (putF "table" (.ref t) [])))))) o3 = some (.dK []) := (upd_ne y_o3.symm).trans dd
  have d_o1 : (upd B2 y (.ins T.C_Lay dx (putF "spots" (.ref o3) (putF "seats" (.ref o2) (putF "orders" (.ref o1) (putF "table" (.ref t) [])))))) o1 = some (.dK []) := (upd_ne y_o1.symm).trans d_o1
  have d_o2 : (upd B2 y (.ins T.C_Lay dx (putF "spots" (.ref o3) (putF "seats" (.ref o2) (putF "orders" (.ref o1) (putF "table" (.ref t) [])))))) o2 = some (.dK []) := (upd_ne y_o2.symm).trans d_o2
  generalize upd B2 y (.ins T.C_Lay dx (putF "spots" (.ref o3) (putF "seats" (.ref o2) (putF "orders" (.ref o1) (putF "table" (.ref t) []))))) = A3 at y3 k3 d_o3 d_o1 d_o2 ⊢
  wtm_at "rd"
  refine r_dnew fun o4 n_o4 => ?_
  have b_o4 : H o4 = none := back_y k3 y3 n_o4
  have y_o4 : y ≠ o4 := ne_of_none y3 n_o4
  have n_o1_o4 : o1 ≠ o4 := ne_of_none d_o1 n_o4
  have n_o2_o4 : o2 ≠ o4 := ne_of_none d_o2 n_o4
  have n_o3_o4 : o3 ≠ o4 := ne_of_none d_o3 n_o4
  have yy : (upd A3 o4 (.dK [])) y = some (.ins T.C_Lay dx (putF "spots" (.ref o3) (putF "seats" (.ref o2) (putF "orders" (.ref o1) (putF "table" (.ref t) []))))) := (upd_ne y_o4).trans y3
  have kk : ∀ b o, H b = some o → b ≠ y → (upd A3 o4 (.dK [])) b = some o := fun b o e nb => (upd_ne (ne_of_none e b_o4)).trans (k3 b o e nb)
  have dd : (upd A3 o4 (.dK [])) o4 = some (.dK []) := upd_same
  have d_o1 : (upd A3 o4 (.dK [])) o1 = some (.dK []) := (upd_ne n_o1_o4).trans d_o1
  have d_o2 : (upd A3 o4 (.dK [])) o2 = some (.dK []) := (upd_ne n_o2_o4).trans d_o2
  have d_o3 : (upd A3 o4 (.dK [])) o3 = some (.dK []) := (upd_ne n_o3_o4).trans d_o3
  generalize upd A3 o4 (.dK []) = B3 at yy kk dd d_o1 d_o2 d_o3 ⊢
  wtm_at "rd"
  refine r_put yy T.c_Lay T.nf_Lay_ranks (Nat.le_of_ble_eq_true rfl) ?_
  have y4 : (upd B3 y (.ins T.C_Lay dx (putF "ranks" (.ref o4) (putF "spots" (.ref o3) (putF "seats" (.ref o2) (putF "orders" (.ref o1) (putF "table" (.ref t) []))))))) y = some (.ins T.C_Lay dx (putF "ranks" (.ref o4) (putF "spots" (.ref o3) (putF "seats" (.ref o2) (putF "orders" (.ref o1) (putF "table" (.ref t) [])))))) := upd_same
  have k4 : ∀ b o, H b = some o → b ≠ y → (upd B3 y (.ins T.C_Lay dx (putF "ranks" (.ref o4) (putF "spots" (.ref o3) (putF "seats" (.ref o2) (putF "orders" (.ref o1) (putF "table" (.ref t) []))))))) b = some o := fun b o e nb => (upd_ne nb).trans (kk b o e nb)
  have d_o4 : (upd B3 y (.ins T.C_Lay dx (putF "ranks" (.ref o4) (putF "spots" (.ref o3) (putF "seats" (.ref o2) (putF "orders" (.ref o1) (putF "table" (.ref t) []))))))) o4 = some (.dK []) := (upd_ne y_o4.symm).trans dd
  have d_o1 : (upd B3 y (.ins T.C_Lay dx (putF "ranks" (.ref o4) (putF "spots" (.ref o3) (putF "seats" (.ref o2) (putF "orders" (.ref o1) (putF "table" (.ref t) []))))))) o1 = some (.dK []) := (upd_ne y_o1.symm).trans d_o1
  have d_o2 : (upd B3 y (.ins T.C_Lay dx (putF "ranks" (.ref o4) (putF "spots" (.ref o3) (putF "seats" (.ref o2) (putF "orders" (.ref o1) (putF "table" (.ref t) []))))))) o2 = some (.dK []) := (upd_ne y_o2.symm).trans d_o2
  have d_o3 : (upd B3 y (.ins T.C_Lay dx (putF "ranks" (.ref o4) (putF "spots" (.ref o3) (putF "seats" (.ref o2) (putF "orders" (.ref o1) (putF "table" (.ref t) []))))))) o3 = some (.dK []) := (upd_ne y_o3.symm).trans d_o3
  generalize upd B3 y (.ins T.C_Lay dx (putF "ranks" (.ref o4) (putF "spots" (.ref o3) (putF "seats" (.ref o2) (putF "orders" (.ref o1) (putF "table" (.ref t) [])))))) = A4 at y4 k4 d_o4 d_o1 d_o2 d_o3 ⊢

  have yl : A4 y = some (.ins T.C_Lay dx (layF t o1 o2 o3 o4)) := y4
  clear yy kk dd y0 y1 y2 y3 y4 k0 k1 k2 k3
  have ty : ∀ {H' : Hp}, (∀ b o, H b = some o → b ≠ y → H' b = some o) → TblAt K T.C_Table T.C_Scheme T.C_Sort H' t sc rs p al as := fun {H'} k => o.but hy k
  have oy : ∀ {H' : Hp}, (∀ b o, H b = some o → b ≠ y → H' b = some o) → OrdAt H' od os bs := fun {H'} k => ⟨k _ _ ho.d (ne_of ho.d hy fun z => nomatch z), ho.l.imp fun _ _ z => k _ _ z (ne_of z hy fun q => nomatch q)⟩
  wtm_at "rd"
  dsimp only
  refine r_for (r_il ?_)
  wtm_at "rd"
  refine r_tscheme T (ty k4) ?_
  refine sch_who (ty k4).sch (by decide +kernel) (by decide +kernel) (by decide +kernel) (by decide +kernel) ?_
  refine ⟨p, sc, rfl, (ty k4).sch, hg.small, fun nl H1 n_nl s1 hnl => ?_⟩
  refine r_itl (SqL.of hnl) ?_
  refine for_list (K := K) (a := nl) (xs := sc.names.map V.str) (fun i σ H' => ∃ (x3 x4 x5 x6 : Option V) (oa sea spa raa : List Addr) (rks : List (List Int)), σ = [some (.ref y), some (.ref t), some (.ref od), x3, x4, x5, x6] ∧ LInv T.C_Lay H H' y dx t o1 o2 o3 o4 nl sc rs os (sc.ss.take i) oa sea spa raa rks) ⟨_, _, _, _, [], [], [], [], [], rfl, ⟨fun b x e n => s1 _ _ (k4 b x e n), s1 _ _ yl, hnl, ⟨s1 _ _ d_o1, rfl, All2.nil⟩, ⟨s1 _ _ d_o2, rfl, All2.nil⟩, ⟨s1 _ _ d_o3, rfl, All2.nil⟩, ⟨s1 _ _ d_o4, rfl, All2.nil⟩, ⟨rfl, fun j s l k e => (nomatch e)⟩, fun s h => (nomatch h), fun x h => (by simp at h)⟩⟩ (fun i σ H' _ ⟨_, _, _, _, _, _, _, _, _, _, W⟩ => SqL.of W.nl) ?_ ?_
  · rintro i v σ H2 hv ⟨x3, x4, x5, x6, oa, sea, spa, raa, rks, rfl, W⟩
    rw [List.getElem?_map, Sch.names, List.getElem?_map, Option.map_map] at hv
    obtain ⟨sr, hs, rfl⟩ := Option.map_eq_some_iff.mp hv
    have hs : sc.ss[i]? = some sr := hs
    have hm := List.mem_of_getElem? hs
    have hi := (List.getElem?_eq_some_iff.mp hs).1
    have lt : (sc.ss.take i).length = i := by rw [List.length_take]; omega
    have hfit := W.ft
    have nk : ¬ sr.nm ∈ (sc.ss.take i).map Srt.nm := fun z => by
      have e : sc.names = (sc.ss.take i).map Srt.nm ++ (sr.nm :: (sc.ss.drop (i + 1)).map Srt.nm) := by
        have e0 : sc.ss = sc.ss.take i ++ (sr :: sc.ss.drop (i + 1)) := by rw [← (List.getElem?_eq_some_iff.mp hs).2, List.getElem_cons_drop, List.take_append_drop]
        rw [Sch.names]
        conv => lhs; rw [e0]
        rw [List.map_append]
        rfl
      have n := hg.n1
      rw [e] at n
      exact (List.nodup_append.mp n).2.2 _ z _ List.mem_cons_self rfl
    have er : ∀ {d : Addr} {H' : Hp}, fitsO rs os sr = false → H' d = some (.xd [("name", .str sr.nm)]) → H d = none → (∀ b x, H b = some x → b ≠ y → H' b = some x) → E (.ref T.C_BadLay) (some d) H' := fun {d H'} hb hd nd k => qE sr.nm (bad_lay hfit hs hb) d H' nd hd k
    wtm_at "rd"
    refine r_tscheme T (ty W.k) ?_
    refine sch_who (ty W.k).sch (by decide +kernel) (by decide +kernel) (by decide +kernel) (by decide +kernel) ?_
    wtm_at "rd"
    refine ⟨p, sc, sr.nm, rfl, (ty W.k).sch, fun hn => ?_, fun x hx a ha => ?_⟩
    · rw [find_name hg hs] at hn
      cases hn
    rw [find_name hg hs] at hx
    cases hx
    wtm_at "rd"
    refine ⟨t, a, sc, sr, rs, p, al, as, rfl, ty W.k, ha, hg, hm, hG, lz, fun sl H3 n_sl hsl s3 => ?_⟩
    have f_sl : H sl = none := back_y W.k W.ins n_sl
    have W := W.same s3
    wtm_at "rd"
    refine r_inR (oy W.k).d ?_
    rcases ord_get (w := sr.nm) (oy W.k).l with ⟨f1, f2⟩ | ⟨ns, b, f1, f2, f3, f4⟩
    · rw [f2]
      wtm_at "rd"
      refine r_itebn (fun _ => ?_) (fun e => nomatch e)
      wtm_at "rdi"
      exact ⟨.str sr.nm, rfl, Nat.le_of_ble_eq_true rfl, raise_name fun d H' nd hd s => er (fits_none f1) hd (back_y W.k W.ins nd) fun b x e n => s _ _ (W.k b x e n)⟩
    rw [f2]
    wtm_at "rd"
    refine r_itebn (fun e => nomatch e) (fun _ => ?_)
    wtm_at "rd"
    have lns : ns.length ≤ 100 := by
      have hm2 := (show (os.find? fun p => decide (p.1 = sr.nm)).map (·.2) = some ns from f1)
      obtain ⟨q2, hq2, e2⟩ := Option.map_eq_some_iff.mp hm2
      rw [← e2]
      exact hol q2 (List.mem_of_find?_eq_some hq2)
    refine r_getR (oy W.k).d f2 ?_
    wtm_at "rd"
    obtain ⟨dt, et⟩ := (ty W.k).ins
    refine ⟨t, _, _, rfl, et, t, sc, rs, p, al, as, rfl, ty W.k, rs.length, rfl, by omega, ?_⟩
    wtm_at "rd"
    refine ⟨b, ns, rs.length, rfl, f4, by omega, fun H4 s4 => ?_⟩
    have W := W.same s4
    have hsl := hsl.same s4
    have f4 := s4 _ _ f4
    wtm_at "rd"
    refine r_itebn (fun c1 => ?_) (fun c1 => ?_)
    · wtm_at "rd"
      exact ⟨.str sr.nm, rfl, Nat.le_of_ble_eq_true rfl, raise_name fun d H' nd hd s => er (by rw [fits_some f1, fitB, c1, Bool.false_and]) hd (back_y W.k W.ins nd) fun b x e n => s _ _ (W.k b x e n)⟩
    obtain ⟨n1, n2, n3⟩ := of_decide_eq_true c1
    wtm_at "rd"
    refine r_getR (oy W.k).d f2 ?_
    wtm_at "rd"
    refine r_listA (.inl (SqL.of f4)) fun ol n_ol => ?_
    have f_ol : H ol = none := back_y W.k W.ins n_ol
    generalize eq_ol : upd _ ol _ = H5
    have s_ol : Same _ H5 := eq_ol ▸ same_new n_ol
    have h_ol : H5 ol = some _ := eq_ol ▸ upd_same
    clear eq_ol
    have W := W.same s_ol
    have hsl := hsl.same s_ol
    wtm_at "rd"
    refine ⟨ol, sl, ns, _, rfl, h_ol, hsl, fun x hx => by rw [List.length_map]; exact n2 x hx, fun x hx => ?_, by omega, fun H6 s6 => ?_⟩
    · obtain ⟨r, _, rfl⟩ := List.mem_map.mp hx
      rfl
    have W := W.same s6
    have hsl := hsl.same s6
    have h_ol := s6 _ _ h_ol
    wtm_at "rd"
    refine r_itebn (fun c2 => ?_) (fun c2 => ?_)
    · wtm_at "rd"
      exact ⟨.str sr.nm, rfl, Nat.le_of_ble_eq_true rfl, raise_name fun d H' nd hd s => er (by rw [fits_some f1, fitB, c2, Bool.and_false]) hd (back_y W.k W.ins nd) fun b x e n => s _ _ (W.k b x e n)⟩
    have hft : fitsO rs os sr = true := by rw [fits_some f1, fitB, c1, c2]; rfl
    have els : lsOf (sc.ss.take i ++ [sr]) os = lsOf (sc.ss.take i) os ++ [ns] := by
      unfold lsOf
      rw [List.map_append, List.map_cons, List.map_nil, f1]
      rfl
    have lzip : ∀ {bs : List Addr}, (zipR ((sc.ss.take i).map Srt.nm) bs).length ≤ 1000 := fun {bs} => by
      rw [zipR, List.length_zipWith, List.length_map, lt]
      omega
    wtm_at "rd"
    refine r_get W.ins T.c_Lay T.nf_Lay_orders (lay_orders _ _ _ _ _) ?_
    wtm_at "rd"
    refine r_putR W.od.d lzip ?_
    have w1 : ∀ b x, H b = some x → b ≠ y → (upd H6 o1 (.dK (rowK (putR (zipR ((sc.ss.take i).map Srt.nm) oa) sr.nm (.ref ol))))) b = some x := fun b x e n => (upd_ne (ne_of_none e b_o1)).trans (W.k b x e n)
    have w2 := (upd_ne (o := .dK (rowK (putR (zipR ((sc.ss.take i).map Srt.nm) oa) sr.nm (.ref ol)))) y_o1).trans W.ins
    have w3 := (upd_ne (o := .dK (rowK (putR (zipR ((sc.ss.take i).map Srt.nm) oa) sr.nm (.ref ol)))) (ne_of W.nl W.od.d fun z => nomatch z)).trans W.nl
    have w4 := W.od.snoc frI nk (x := ns) h_ol
    have w5 := W.sd.putD (o := .dK (rowK (putR (zipR ((sc.ss.take i).map Srt.nm) oa) sr.nm (.ref ol)))) frS W.od.d n_o1_o2.symm
    have w6 := W.pd.putD (o := .dK (rowK (putR (zipR ((sc.ss.take i).map Srt.nm) oa) sr.nm (.ref ol)))) frI W.od.d n_o1_o3.symm
    have w7 := W.rd.putD (o := .dK (rowK (putR (zipR ((sc.ss.take i).map Srt.nm) oa) sr.nm (.ref ol)))) frI W.od.d n_o1_o4.symm
    have hsl := frS.putD (o := .dK (rowK (putR (zipR ((sc.ss.take i).map Srt.nm) oa) sr.nm (.ref ol)))) hsl W.od.d
    have h_ol := frI.putD (o := .dK (rowK (putR (zipR ((sc.ss.take i).map Srt.nm) oa) sr.nm (.ref ol)))) (x := ns) h_ol W.od.d
    generalize upd H6 o1 (.dK (rowK (putR (zipR ((sc.ss.take i).map Srt.nm) oa) sr.nm (.ref ol)))) = H7 at w1 w2 w3 w4 w5 w6 w7 hsl h_ol ⊢
    wtm_at "rd"
    refine r_get w2 T.c_Lay T.nf_Lay_seats (lay_seats _ _ _ _ _) ?_
    wtm_at "rd"
    refine r_putR w5.d lzip ?_
    generalize hO : HO.dK (rowK (putR (zipR ((sc.ss.take i).map Srt.nm) sea) sr.nm (.ref sl))) = O8
    have v1 : ∀ b x, H b = some x → b ≠ y → (upd H7 o2 O8) b = some x := fun b x e n => (upd_ne (ne_of_none e b_o2)).trans (w1 b x e n)
    have v2 := (upd_ne (o := O8) y_o2).trans w2
    have v3 := (upd_ne (o := O8) (ne_of w3 w5.d fun z => nomatch z)).trans w3
    have v4 := w4.putD (o := O8) frI w5.d n_o1_o2
    have v5 := w5.snoc frS nk (x := rs.map (seatL sr)) hsl
    rw [hO] at v5
    have v6 := w6.putD (o := O8) frI w5.d n_o2_o3.symm
    have v7 := w7.putD (o := O8) frI w5.d n_o2_o4.symm
    have hsl := frS.putD (o := O8) hsl w5.d
    have h_ol := frI.putD (o := O8) (x := ns) h_ol w5.d
    clear hO
    generalize upd H7 o2 O8 = H8 at v1 v2 v3 v4 v5 v6 v7 hsl h_ol ⊢
    wtm_at "rd"
    refine r_lenI h_ol ?_
    wtm_at "rd"
    refine r_upto (by omega) (by omega) ?_
    rw [show ((ns.length : Nat) : Int).toNat = ns.length by omega]
    refine lc_mapR (fun j => .int ((ns.idxOf (j : Int) : Nat) : Int)) (by omega) (fun j H' QQ hj s' hQ => ?_) fun pl n_pl => ?_
    · have hjm := num_surj c1 (i := j) (by omega)
      have hl := List.idxOf_lt_length_of_mem hjm
      have he : ns[ns.idxOf (j : Int)] = (j : Int) := List.getElem_idxOf hl
      wtm_at "rd"
      refine r_tyL (SqL.of (s' _ _ h_ol)) ?_
      wtm_at "rd"
      refine ⟨ol, _, _, ns.idxOf (j : Int), .int (j : Int), rfl, rfl, SqL.of (s' _ _ h_ol), rfl, ?_, ?_, ?_, fun m z hm hz => ?_, hQ⟩
      · exact List.all_eq_true.mpr fun v hv => by
          obtain ⟨x, _, rfl⟩ := List.mem_map.mp hv
          rfl
      · rw [List.getElem?_map, List.getElem?_eq_getElem hl, he]
        rfl
      · show ((j : Int) == 0 + (j : Int)) = true
        rw [Int.zero_add]
        exact beq_self_eq_true _
      · rw [List.getElem?_map] at hz
        obtain ⟨x, hx, rfl⟩ := Option.map_eq_some_iff.mp hz
        show (x == 0 + (j : Int)) = false
        rw [Int.zero_add]
        refine beq_eq_false_iff_ne.mpr fun e => ?_
        subst e
        have := place_at n3 hx
        omega
    rw [spot_v]
    have f_pl : H pl = none := back_y v1 v2 n_pl
    generalize eq_pl : upd _ pl _ = H9
    have s_pl : Same _ H9 := eq_pl ▸ same_new n_pl
    have h_pl : H9 pl = some _ := eq_pl ▸ upd_same
    clear eq_pl
    have v2 := s_pl _ _ v2
    have v3 := s_pl _ _ v3
    have h_ol := s_pl _ _ h_ol
    have v1 : ∀ b x, H b = some x → b ≠ y → H9 b = some x := fun b x e n => s_pl _ _ (v1 b x e n)
    have v4 := v4.same frI s_pl
    have v5 := v5.same frS s_pl
    have v6 := v6.same frI s_pl
    have v7 := v7.same frI s_pl
    have hsl := frS.same hsl s_pl
    wtm_at "rd"
    refine r_get v2 T.c_Lay T.nf_Lay_spots (lay_spots _ _ _ _ _) ?_
    wtm_at "rd"
    refine r_putR v6.d lzip ?_
    generalize hO : HO.dK (rowK (putR (zipR ((sc.ss.take i).map Srt.nm) spa) sr.nm (.ref pl))) = O9
    have u1 : ∀ b x, H b = some x → b ≠ y → (upd H9 o3 O9) b = some x := fun b x e n => (upd_ne (ne_of_none e b_o3)).trans (v1 b x e n)
    have u2 := (upd_ne (o := O9) y_o3).trans v2
    have u3 := (upd_ne (o := O9) (ne_of v3 v6.d fun z => nomatch z)).trans v3
    have u4 := v4.putD (o := O9) frI v6.d n_o1_o3
    have u5 := v5.putD (o := O9) frS v6.d n_o2_o3
    have u6 := v6.snoc frI nk (x := spotL ns) h_pl
    rw [hO] at u6
    have u7 := v7.putD (o := O9) frI v6.d n_o3_o4.symm
    have hsl := frS.putD (o := O9) hsl v6.d
    have h_ol := frI.putD (o := O9) (x := ns) h_ol v6.d
    clear hO
    generalize upd H9 o3 O9 = H10 at u1 u2 u3 u4 u5 u6 u7 hsl h_ol ⊢
    wtm_at "rd"
    refine ⟨ol, sl, ns, _, rfl, h_ol, hsl, by rw [List.length_map]; exact c1, fun x hx => ?_, by omega, fun rl rk H11 n_rl h_rl hrk s11 => ?_⟩
    · obtain ⟨r, _, rfl⟩ := List.mem_map.mp hx
      rfl
    have f_rl : H rl = none := back_y u1 u2 n_rl
    have u1 : ∀ b x, H b = some x → b ≠ y → H11 b = some x := fun b x e n => s11 _ _ (u1 b x e n)
    have u2 := s11 _ _ u2
    have u3 := s11 _ _ u3
    have u4 := u4.same frI s11
    have u5 := u5.same frS s11
    have u6 := u6.same frI s11
    have u7 := u7.same frI s11
    wtm_at "rd"
    refine r_get u2 T.c_Lay T.nf_Lay_ranks (lay_ranks _ _ _ _ _) ?_
    wtm_at "rd"
    refine r_putR u7.d lzip ?_
    wtm_at "rd"
    have et : sc.ss.take (i + 1) = sc.ss.take i ++ [sr] := by rw [List.take_add_one, hs]; rfl
    rw [et]
    refine ⟨_, _, _, _, oa ++ [ol], sea ++ [sl], spa ++ [pl], raa ++ [rl], rks ++ [rk], rfl, ⟨fun b x e n => (upd_ne (ne_of_none e b_o4)).trans (u1 b x e n), (upd_ne y_o4).trans u2, (upd_ne (ne_of u3 u7.d fun z => nomatch z)).trans u3, ?_, ?_, ?_, ?_, ?_, fun x hx => ?_, fun x hx => ?_⟩⟩
    · have z := u4.putD (o := .dK (rowK (putR (zipR ((sc.ss.take i).map Srt.nm) raa) sr.nm (.ref rl)))) frI u7.d n_o1_o4
      rw [List.map_append, els]
      exact z
    · have z := u5.putD (o := .dK (rowK (putR (zipR ((sc.ss.take i).map Srt.nm) raa) sr.nm (.ref rl)))) frS u7.d n_o2_o4
      rw [List.map_append, List.map_append]
      exact z
    · have z := u6.putD (o := .dK (rowK (putR (zipR ((sc.ss.take i).map Srt.nm) raa) sr.nm (.ref rl)))) frI u7.d n_o3_o4
      rw [List.map_append, els, List.map_append]
      exact z
    · have z := u7.snoc frI nk (x := rk) h_rl
      rw [List.map_append]
      exact z
    · rw [els]
      exact W.rk.snoc (by rw [lsOf, List.length_map]) hrk
    · rcases List.mem_append.mp hx with z | z
      · exact W.ft x z
      · rw [List.mem_singleton.mp z]; exact hft
    · simp only [List.mem_append, List.mem_singleton] at hx
      rcases hx with (z | z) | (z | z) | (z | z) | (z | z)
      · exact W.fr x (.inl z)
      · rw [z]; exact f_ol
      · exact W.fr x (.inr (.inl z))
      · rw [z]; exact f_sl
      · exact W.fr x (.inr (.inr (.inl z)))
      · rw [z]; exact f_pl
      · exact W.fr x (.inr (.inr (.inr z)))
      · rw [z]; exact f_rl
  · rintro σ H2 ⟨x3, x4, x5, x6, oa, sea, spa, raa, rks, rfl, W⟩
    have en : sc.ss.take (sc.names.map V.str).length = sc.ss := by rw [List.length_map, Sch.names, List.length_map, List.take_length]
    rw [en] at W
    wtm_at "rd"
    have hb : badLay sc rs os = none := by
      unfold badLay
      rw [List.find?_eq_none.mpr fun s hs => by rw [W.ft s hs]; exact Bool.false_ne_true]
      rfl
    refine q hb (al :: (as ++ (o1 :: o2 :: o3 :: o4 :: (oa ++ (sea ++ (spa ++ raa)))))) H2 (fun b hb => ?_) ⟨t, o1, o2, o3, o4, p, al, as, oa, sea, spa, raa, rks, ⟨⟨dx, W.ins⟩, ty W.k, W.od, W.sd, W.pd, W.rd, W.rk, fun j s l e1 e2 => ?_⟩, fun x hx => ?_⟩ W.k
    · simp only [List.mem_cons, List.mem_append] at hb
      rcases hb with z | z | z | z | z | z | z | z | z | z
      · exact .inr (.inl z)
      · exact .inr (.inr z)
      · rw [z]; exact .inl b_o1
      · rw [z]; exact .inl b_o2
      · rw [z]; exact .inl b_o3
      · rw [z]; exact .inl b_o4
      · exact .inl (W.fr b (.inl z))
      · exact .inl (W.fr b (.inr (.inl z)))
      · exact .inl (W.fr b (.inr (.inr (.inl z))))
      · exact .inl (W.fr b (.inr (.inr (.inr z))))
    · have z := W.ft s (List.mem_of_getElem? e1)
      unfold fitsO at z
      rw [lsOf, List.getElem?_map, e1] at e2
      have e2 : some ((findO os s.nm).getD []) = some l := e2
      cases hf : findO os s.nm with
      | none => rw [hf] at z; cases z
      | some l2 =>
        rw [hf] at z e2
        cases e2
        exact z
    · simp only [List.mem_cons, List.mem_append]
      rcases hx with z | z | z | z | z | z | z | z | z | z <;> simp [z]
end

def spLKey : Sp := fun vs H Q _ => ∃ (u a : Addr) (sc : Sch) (s : Srt) (r : Row), vs = [.ref u, .ref a] ∧ H u = some (.tup (srtV s)) ∧ H a = some (.dK (rowK r)) ∧ sc.good ∧ s ∈ sc.ss ∧ GRow sc r ∧ Q (.int (keyI s r)) H
def spLHall : Sp := fun vs H Q _ => ∃ (u a : Addr) (sc : Sch) (s : Srt) (r : Row), vs = [.ref u, .ref a] ∧ H u = some (.tup (srtV s)) ∧ H a = some (.dK (rowK r)) ∧ sc.good ∧ s ∈ sc.ss ∧ GRow sc r ∧ Q (.int (hallI s r)) H
def spOrds : Sp := fun vs H Q _ => ∃ (d c r p l : Addr) (sc : Sch) (as : List Addr) (rs : List Row), vs = [.ref d, .ref p, .ref l] ∧ Drw H d c r ∧ SpecAt H p sc ∧ sc.good ∧ H l = some (.lst (as.map V.ref)) ∧ RowsIn H as rs ∧ (∀ x ∈ rs, GRow sc x) ∧ rs.length ≤ 60 ∧
  ∀ (o : Addr) (ls : List (List Int)) (bs : List Addr) (H' : Hp), H o = none → (∀ x ∈ bs, H x = none) → bs.Nodup → OrdAt H' o (sc.names.zip ls) bs → ls.length = sc.ss.length → (∀ (j : Nat) (s : Srt) (l : List Int), sc.ss[j]? = some s → ls[j]? = some l → fitB rs s l = true) → Drw H' d c r → Ext d r H H' → Q (.ref o) H'
def intV : V → Int
  | .int i => i
  | _ => 0
/-- the ints of the tuple at an address -/
def tupI (H : Hp) : V → List Int
  | .ref t => match H t with
    | some (.tup xs) => xs.map intV
    | _ => []
  | _ => []
theorem tupI_at {H : Hp} {t : Addr} {ns : List Int} (h : H t = some (.tup (ns.map V.int))) : tupI H (.ref t) = ns := by
  simp only [tupI, h, List.map_map]
  exact (List.map_congr_left fun _ _ => rfl).trans (List.map_id' _)
theorem lex_pre : ∀ {a b c d : List Int}, a.length = c.length → SrT.lexL (a ++ b) (c ++ d) = false → SrT.lexL a c = false
  | [], b, [], d, _, _ => rfl
  | x :: a, b, y :: c, d, hl, h => by
    have h : (if x = y then SrT.lexL (a ++ b) (c ++ d) else decide (x < y)) = false := h
    show (if x = y then SrT.lexL a c else decide (x < y)) = false
    by_cases e : x = y
    · rw [if_pos e] at h ⊢
      exact lex_pre (Nat.succ.inj hl) h
    · rw [if_neg e] at h ⊢
      exact h
  | [], _, _ :: _, _, h, _ => by cases h
  | _ :: _, _, [], _, h, _ => by cases h
theorem sortB_pair : ∀ {l : List (List Int)}, l.Pairwise (fun a b => SrT.lexL b a = false) → sortB l = true
  | [], _ => rfl
  | [a], _ => rfl
  | a :: b :: r, h => by
    show (leL a b && sortB (b :: r)) = true
    obtain ⟨h1, h2⟩ := List.pairwise_cons.mp h
    rw [sortB_pair h2, leL, h1 b List.mem_cons_self]
    rfl
theorem num_perm {ns : List Int} {n : Nat} (h : ns.Perm ((List.range n).map fun (k : Nat) => (k : Int))) : isNumB ns n = true := by
  refine decide_eq_true ⟨by rw [h.length_eq, List.length_map, List.length_range], fun x hx => ?_, h.nodup_iff.mpr ?_⟩
  · obtain ⟨k, hk, rfl⟩ := List.mem_map.mp (h.mem_iff.mp hx)
    have := List.mem_range.mp hk
    omega
  · exact List.pairwise_map.mpr (List.Pairwise.imp (fun h e => h (by omega)) (List.nodup_range (n := n)))
theorem zip_ordR : ∀ {ks : List Str} {ls : List (List Int)} {bs : List Addr}, ls.length = ks.length → bs.length = ks.length → ordR (ks.zip ls) bs = zipR ks bs
  | [], [], [], _, _ => rfl
  | k :: ks, l :: ls, b :: bs, h1, h2 => by
    show (k, V.ref b) :: ordR (ks.zip ls) bs = (k, V.ref b) :: zipR ks bs
    rw [zip_ordR (Nat.succ.inj h1) (Nat.succ.inj h2)]
  | [], _ :: _, _, h, _ => by cases h
  | _ :: _, [], _, h, _ => by cases h
  | [], [], _ :: _, _, h => by cases h
  | _ :: _, _ :: _, [], _, h => by cases h
theorem DL.ord {H : Hp} {d : Addr} {ks : List Str} {as : List Addr} {xs : List (List Int)} (h : DL PI H d ks as xs) : OrdAt H d (ks.zip xs) as := by
  have lx : xs.length = ks.length := h.at_.len.symm.trans h.l
  refine ⟨by rw [zip_ordR lx h.l]; exact h.d, ⟨by rw [List.length_zip, h.l, lx, Nat.min_self], fun j a p e1 e2 => ?_⟩⟩
  rw [List.getElem?_zip_eq_some] at e2
  exact h.at_.at_ j a p.2 e1 e2.2
theorem RowsIn.at_ix {H : Hp} {as : List Addr} {rs : List Row} (h : RowsIn H as rs) {i : Nat} (hi : i < rs.length) : ∃ b, atI (as.map V.ref) ((0 : Int) + (i : Nat)) = some (.ref b) ∧ H b = some (.dK (rowK (rs.getD i []))) := by
  have la := All2.len h
  have hb : as[i]? = some (as[i]'(by omega)) := List.getElem?_eq_getElem _
  have hr : rs[i]? = some rs[i] := List.getElem?_eq_getElem hi
  refine ⟨_, by rw [Int.zero_add]; exact atI_nat (by rw [List.getElem?_map, hb]; rfl), ?_⟩
  rw [List.getD_eq_getElem?_getD, hr]
  exact All2.at_ h i _ _ hb hr
def spTableL (K : PySem.W.Frag) (CT CC CS : Addr) : Sp := fun vs H Q _ => ∃ (p l : Addr) (sc : Sch) (as : List Addr) (rs : List Row), vs = [.ref p, .ref l] ∧ SpecAt H p sc ∧ sc.good ∧ H l = some (.lst (as.map V.ref)) ∧ RowsIn H as rs ∧ (∀ x ∈ rs, GRow sc x) ∧ rs.length ≤ 60 ∧
  ∀ t q al bs H', H al = none → (∀ x ∈ bs, H x = none) → TblAt K CT CC CS H' t sc rs q al bs → Same H H' → Q (.ref t) H'
theorem zip_fs : ∀ os : List (Str × List Int), (os.map (·.1)).zip (os.map (·.2)) = os
  | [] => rfl
  | p :: os => by rw [List.map_cons, List.map_cons, List.zip_cons_cons, zip_fs os]
theorem find_key : ∀ {os : List (Str × List Int)} {p : Str × List Int}, (os.map (·.1)).Nodup → p ∈ os → findO os p.1 = some p.2
  | x :: os, p, hn, h => by
    obtain ⟨n1, n2⟩ := List.nodup_cons.mp (show (x.1 :: os.map (·.1)).Nodup from hn)
    unfold findO
    rw [List.find?_cons]
    by_cases e : x.1 = p.1
    · rw [decide_eq_true e]
      rcases List.mem_cons.mp h with z | z
      · rw [z]; rfl
      · exact absurd (List.mem_map.mpr ⟨p, z, e.symm⟩) n1
    · rw [decide_eq_false e]
      rcases List.mem_cons.mp h with z | z
      · exact absurd (by rw [z]) e
      · exact find_key n2 z
  | [], _, _, h => by cases h
theorem ord_keys : ∀ {os : List (Str × List Int)} {as : List Addr}, as.length = os.length → keysR (ordR os as) = os.map (·.1)
  | [], [], _ => rfl
  | p :: os, a :: as, h => by
    show p.1 :: keysR (ordR os as) = _
    rw [ord_keys (Nat.succ.inj h)]
    rfl
  | [], _ :: _, h => by cases h
  | _ :: _, [], h => by cases h
def spCopies : Sp := fun vs H Q _ => ∃ (o : Addr) (os : List (Str × List Int)) (as : List Addr), vs = [.ref o] ∧ OrdAt H o os as ∧ (os.map (·.1)).Nodup ∧ os.length ≤ 100 ∧
  ∀ o' bs H', H o' = none → (∀ x ∈ bs, H x = none) → bs.Nodup → OrdAt H' o' os bs → Same H H' → Q (.ref o') H'
section
variable {P : Program} {w : World} {K : PySem.W.Frag} {mg : Str → Option Value} {base : Heap}
theorem ok__law_key (T : Txt K mg) : FnOk P w K mg base CX0 1 T.f__law_key T.d__law_key ["_law_one", "_law_row"] spLKey := by
  refine T.F__law_key.ok sc__law_key (fun vs H Q E h => ?_) (fun cdv A outer s H vs Q E hr h => ?_)
  · obtain ⟨u, a, sc, sr, r, rfl, _⟩ := h
    rfl
  obtain ⟨u, a, sc, sr, r, rfl, hu, ha, hg, hs, gr, q⟩ := h
  refine ⟨_, (pss_cons (ps_if (pt_val (pe_ix (r := rIxT K) ix_tup (pv 0) pe_int (fun _ _ => rfl))) (pss_one (ps_ret (pe_op op_sub pe_int (pe_dget (hu_of hr) (pv 1) (pe_ix (r := rIxT K) ix_tup (pv 0) pe_int (fun _ _ => rfl)) (fun _ _ => rfl))))) pss_nil)
      (pss_one (ps_ret (pe_dget (hu_of hr) (pv 1) (pe_ix (r := rIxT K) ix_tup (pv 0) pe_int (fun _ _ => rfl)) (fun _ _ => rfl))))), ?_⟩
  try simp only [nox_K, cx_K]
  have hu : H u = some (.tup [.str sr.nm, .str sr.ky, partV sr.pt, .bl sr.ds]) := hu
  have ek := gr.int hg (Sch.key_in hs)
  wtm_at "rd"
  refine r_iteb (fun c1 => ?_) (fun c1 => ?_)
  · wtm_at "rd"
    refine r_getR ha ek ?_
    wtm_at "rd"
    have e : keyI sr r = 0 - getI r sr.ky := by unfold keyI; rw [c1, Int.zero_sub]; rfl
    rw [e] at q
    exact q
  · wtm_at "rd"
    refine r_getR ha ek ?_
    have e : keyI sr r = getI r sr.ky := by unfold keyI; rw [c1]; rfl
    rw [e] at q
    exact q
theorem ok__law_hall (T : Txt K mg) : FnOk P w K mg base CX0 1 T.f__law_hall T.d__law_hall ["_law_one", "_law_row"] spLHall := by
  refine T.F__law_hall.ok sc__law_hall (fun vs H Q E h => ?_) (fun cdv A outer s H vs Q E hr h => ?_)
  · obtain ⟨u, a, sc, sr, r, rfl, _⟩ := h
    rfl
  obtain ⟨u, a, sc, sr, r, rfl, hu, ha, hg, hs, gr, q⟩ := h
  refine ⟨_, (pss_cons (ps_if (pt_cmpR o_isN (pe_ix (r := rIxT K) ix_tup (pv 0) pe_int (fun _ _ => rfl)) pe_non (nomark _)) (pss_one (ps_ret pe_int)) pss_nil)
      (pss_one (ps_ret (pe_dget (hu_of hr) (pv 1) (pe_ix (r := rIxT K) ix_tup (pv 0) pe_int (fun _ _ => rfl)) (fun _ _ => rfl))))), ?_⟩
  try simp only [nox_K, cx_K]
  have hu : H u = some (.tup [.str sr.nm, .str sr.ky, partV sr.pt, .bl sr.ds]) := hu
  wtm_at "rd"
  cases hp : sr.pt with
  | none =>
    rw [hp] at hu
    have e : hallI sr r = 0 := by unfold hallI; rw [hp]
    rw [e] at q
    simp only [partV]
    wtm_at "rdi"
    exact q
  | some z =>
    rw [hp] at hu
    have hu : H u = some (.tup [.str sr.nm, .str sr.ky, .str z, .bl sr.ds]) := hu
    have e : hallI sr r = getI r z := by unfold hallI; rw [hp]
    rw [e] at q
    simp only [partV]
    wtm_at "rd"
    refine ⟨rfl, ?_⟩
    rw [decide_eq_false (fun z => nomatch z)]
    wtm_at "rdi"
    exact r_getR ha (gr.int hg (Sch.part_in hg hs hp)) q
end

def possB (r g d : Int) : Bool := decide ((g = 0 ∧ d = 0) ∨ (g < 0 ∧ r ≤ g ∧ d ≤ g) ∨ (0 < g ∧ g ≤ r ∧ g ≤ d))
theorem poss_neg (r g d : Int) : possB (-r) (-g) (-d) = possB r g d := by
  unfold possB
  rw [decide_eq_decide]
  omega
def zoneS (r g : Int) : Str := if r = 0 then "self" else if g = 0 then (if 0 < r then "after" else "before") else if 0 < g then "future" else "past"
def offF (r g d : Int) : List (Str × V) := putF "zone" (.str (zoneS r g)) (putF "distance" (.int d) (putF "groups" (.int g) (putF "rows" (.int r) [])))
theorem n_rg : ¬ (("rows" : Str) = "groups") := by decide +kernel
theorem n_rd : ¬ (("rows" : Str) = "distance") := by decide +kernel
theorem n_rz : ¬ (("rows" : Str) = "zone") := by decide +kernel
theorem n_gd : ¬ (("groups" : Str) = "distance") := by decide +kernel
theorem n_gz : ¬ (("groups" : Str) = "zone") := by decide +kernel
theorem n_dz : ¬ (("distance" : Str) = "zone") := by decide +kernel
theorem off_rows (r g d : Int) : (offF r g d).lookup ("rows" : Str) = some (.int r) := by
  unfold offF
  rw [lookup_putF, if_neg n_rz, lookup_putF, if_neg n_rd, lookup_putF, if_neg n_rg, lookup_putF, if_pos rfl]
theorem off_groups (r g d : Int) : (offF r g d).lookup ("groups" : Str) = some (.int g) := by
  unfold offF
  rw [lookup_putF, if_neg n_gz, lookup_putF, if_neg n_gd, lookup_putF, if_pos rfl]
theorem off_distance (r g d : Int) : (offF r g d).lookup ("distance" : Str) = some (.int d) := by
  unfold offF
  rw [lookup_putF, if_neg n_dz, lookup_putF, if_pos rfl]
theorem off_zone (r g d : Int) : (offF r g d).lookup ("zone" : Str) = some (.str (zoneS r g)) := by
  unfold offF
  rw [lookup_putF, if_pos rfl]
theorem off_no (r g d : Int) {m : Str} (h1 : ¬ m = "zone") (h2 : ¬ m = "distance") (h3 : ¬ m = "groups") (h4 : ¬ m = "rows") : (offF r g d).lookup m = none := by
  unfold offF
  rw [lookup_putF, if_neg h1, lookup_putF, if_neg h2, lookup_putF, if_neg h3, lookup_putF, if_neg h4]
  rfl
/-- an Offset stands at p -/
def OffAt (C : Addr) (H : Hp) (p : Addr) (r g d : Int) : Prop := ∃ dx, H p = some (.ins C dx (offF r g d))
theorem OffAt.same {C : Addr} {H H' : Hp} {p : Addr} {r g d : Int} (h : OffAt C H p r g d) (s : Same H H') : OffAt C H' p r g d := by
  obtain ⟨dx, e⟩ := h
  exact ⟨dx, s _ _ e⟩
/-- the dict of a BadOffset -/
def badF (r g d : Int) : List (Str × V) := [("distance", .int d), ("groups", .int g), ("rows", .int r)]
theorem bad_rows (r g d : Int) : (badF r g d).lookup ("rows" : Str) = some (.int r) := by
  unfold badF
  rw [lookup_put, if_neg n_rd, lookup_put, if_neg n_rg, lookup_put, if_pos rfl]
theorem bad_groups (r g d : Int) : (badF r g d).lookup ("groups" : Str) = some (.int g) := by
  unfold badF
  rw [lookup_put, if_neg n_gd, lookup_put, if_pos rfl]
theorem bad_distance (r g d : Int) : (badF r g d).lookup ("distance" : Str) = some (.int d) := by
  unfold badF
  rw [lookup_put, if_pos rfl]
def sp3 (f : Int → Int → Int → Bool) : Sp := fun vs H Q _ => ∃ a b c : Int, vs = [.int a, .int b, .int c] ∧ Q (.bl (f a b c)) H
def spZone2 : Sp := fun vs H Q _ => ∃ a b : Int, vs = [.int a, .int b] ∧ Q (.str (zoneS a b)) H
def spBInit (C : Addr) : Sp := fun vs H Q _ => ∃ (a : Addr) (r g d : Int), vs = [.ref a, .int r, .int g, .int d] ∧ H a = some (exo a C none) ∧
  ∀ (dx : Addr) (H' : Hp), H dx = none → H' a = some (exo a C (some dx)) → H' dx = some (exd dx (badF r g d)) → (∀ b o, H b = some o → b ≠ a → H' b = some o) → Q .non H'
def spOInit (C CB : Addr) : Sp := fun vs H Q E => ∃ (p dx : Addr) (r g d : Int), vs = [.ref p, .int r, .int g, .int d] ∧ H p = some (.ins C dx []) ∧
  (possB r g d = false → ∀ (dd : Addr) (H' : Hp), H dd = none → H' dd = some (.xd (badF r g d)) → Same H H' → E (.ref CB) (some dd) H') ∧
  (possB r g d = true → ∀ H', OffAt C H' p r g d → (∀ b o, H b = some o → b ≠ p → H' b = some o) → Q .non H')
def spOFew (C : Addr) : Sp := fun vs H Q _ => ∃ (p : Addr) (r g d : Int), vs = [.ref p] ∧ OffAt C H p r g d ∧ Q (.int (1 + (if r < 0 then -r else r))) H
def spONeg (C : Addr) : Sp := fun vs H Q _ => ∃ (p : Addr) (r g d : Int), vs = [.ref p] ∧ OffAt C H p r g d ∧ possB r g d = true ∧ ∀ x H', H x = none → Same H H' → OffAt C H' x (-r) (-g) (-d) → Q (.ref x) H'
def spOAdd (C CB : Addr) : Sp := fun vs H Q E => ∃ (p q : Addr) (r g d r' g' d' : Int), vs = [.ref p, .ref q] ∧ OffAt C H p r g d ∧ OffAt C H q r' g' d' ∧
  (possB (r + r') (g + g') (d + d') = false → ∀ (dd : Addr) (H' : Hp), H' dd = some (.xd (badF (r + r') (g + g') (d + d'))) → Same H H' → E (.ref CB) (some dd) H') ∧
  (possB (r + r') (g + g') (d + d') = true → ∀ x H', H x = none → Same H H' → OffAt C H' x (r + r') (g + g') (d + d') → Q (.ref x) H')
def spOEq (C : Addr) : Sp := fun vs H Q _ => ∃ (p q : Addr) (r g d r' g' d' : Int), vs = [.ref p, .ref q] ∧ OffAt C H p r g d ∧ OffAt C H q r' g' d' ∧ Q (.bl (decide (r = r') && (decide (g = g') && decide (d = d')))) H
theorem make_off {C CB : Addr} {H : Hp} {Q : VK} {E : XK} {r g d : Int} (hn : possB r g d = false → ∀ (dd : Addr) (H' : Hp), H' dd = some (.xd (badF r g d)) → Same H H' → E (.ref CB) (some dd) H') (h : possB r g d = true → ∀ x H', H x = none → Same H H' → OffAt C H' x r g d → Q (.ref x) H') :
    ∀ x dx, H x = none → H dx = none → dx ≠ x → spOInit C CB (.ref x :: ([.int r, .int g, .int d] ++ [])) (upd (upd H dx (.own x)) x (.ins C dx [])) (fun v H2 => v = .non ∧ Q (.ref x) H2) E :=
  fun x dx nx nd _ => ⟨x, dx, r, g, d, rfl, upd_same, fun hf dd H' _ hd s => hn hf dd H' hd ((same_two nx nd).trans s), fun ht H' ho hk => ⟨rfl, h ht x H' nx (same_make nx nd hk) ho⟩⟩
/-- the same, read for any end -/
theorem make_offF {C CB : Addr} {H : Hp} {F : Addr → Hp → Prop} {E : XK} {r g d : Int} (hb : possB r g d = true) (h : ∀ x H', H x = none → Same H H' → OffAt C H' x r g d → F x H') :
    ∀ x dx, H x = none → H dx = none → dx ≠ x → spOInit C CB (.ref x :: ([.int r, .int g, .int d] ++ [])) (upd (upd H dx (.own x)) x (.ins C dx [])) (fun v H2 => v = .non ∧ F x H2) E :=
  fun x dx nx nd _ => ⟨x, dx, r, g, d, rfl, upd_same, fun hf => (by rw [hb] at hf; cases hf), fun _ H' ho hk => ⟨rfl, h x H' nx (same_make nx nd hk) ho⟩⟩
section
variable {P : Program} {w : World} {K : PySem.W.Frag} {mg : Str → Option Value} {base : Heap}

theorem off_ty (T : Txt K mg) {H : Hp} {p : Addr} {r g d : Int} (h : OffAt T.C_Offset H p r g d) : TyX K H (.ref p) (.ref T.C_Offset) := by
  obtain ⟨dx, e⟩ := h
  exact .base (.ins e T.c_Offset T.ca_Offset T.cn_Offset T.ct_Offset T.cm_Offset)
section
variable {H : Hp} {Q : VK} {p : Addr} {r g d : Int} {F : V → Prop}
theorem r_rows (T : Txt K mg) (o : OffAt T.C_Offset H p r g d) (h : F (.int r)) : ∃ a C dx fs v, V.ref p = .ref a ∧ H a = some (.ins C dx fs) ∧ Cls K C ∧ NoAttr K C "rows" ∧ fs.lookup ("rows" : Str) = some v ∧ F v := by
  obtain ⟨dx, e⟩ := o
  exact r_get e T.c_Offset T.nf_Offset_rows (off_rows r g d) h
theorem r_groups (T : Txt K mg) (o : OffAt T.C_Offset H p r g d) (h : F (.int g)) : ∃ a C dx fs v, V.ref p = .ref a ∧ H a = some (.ins C dx fs) ∧ Cls K C ∧ NoAttr K C "groups" ∧ fs.lookup ("groups" : Str) = some v ∧ F v := by
  obtain ⟨dx, e⟩ := o
  exact r_get e T.c_Offset T.nf_Offset_groups (off_groups r g d) h
theorem r_distance (T : Txt K mg) (o : OffAt T.C_Offset H p r g d) (h : F (.int d)) : ∃ a C dx fs v, V.ref p = .ref a ∧ H a = some (.ins C dx fs) ∧ Cls K C ∧ NoAttr K C "distance" ∧ fs.lookup ("distance" : Str) = some v ∧ F v := by
  obtain ⟨dx, e⟩ := o
  exact r_get e T.c_Offset T.nf_Offset_distance (off_distance r g d) h
theorem r_zone (T : Txt K mg) (o : OffAt T.C_Offset H p r g d) (h : F (.str (zoneS r g))) : ∃ a C dx fs v, V.ref p = .ref a ∧ H a = some (.ins C dx fs) ∧ Cls K C ∧ NoAttr K C "zone" ∧ fs.lookup ("zone" : Str) = some v ∧ F v := by
  obtain ⟨dx, e⟩ := o
  exact r_get e T.c_Offset T.nf_Offset_zone (off_zone r g d) h
theorem off_who {m : Str} {A : Prop} {C : Addr} (o : OffAt C H p r g d) (h1 : ¬ m = "zone") (h2 : ¬ m = "distance") (h3 : ¬ m = "groups") (h4 : ¬ m = "rows") (h : A) : ∃ a' dx fs, V.ref p = .ref a' ∧ H a' = some (.ins C dx fs) ∧ fs.lookup m = none ∧ A := by
  obtain ⟨dx, e⟩ := o
  exact r_who e (off_no r g d h1 h2 h3 h4) h
end
theorem neg_off {C : Addr} {H : Hp} {Q : VK} {E : XK} {p : Addr} {r g d : Int} (o : OffAt C H p r g d) (hb : possB r g d = true) (h : ∀ x H', H x = none → Same H H' → OffAt C H' x (-r) (-g) (-d) → Q (.ref x) H') : rNegO C (spONeg C) E (.ref p) H Q := by
  obtain ⟨dx, e⟩ := id o
  exact ⟨p, dx, _, rfl, e, p, r, g, d, rfl, o, hb, h⟩
theorem ne_off (T : Txt K mg) {H : Hp} {Q : VK} {E : XK} {p q : Addr} {r g d r' g' d' : Int} (o : OffAt T.C_Offset H p r g d) (o2 : OffAt T.C_Offset H q r' g' d') (h : Q (.bl (!(decide (r = r') && (decide (g = g') && decide (d = d'))))) H) : rNeO K T.C_Offset (spOEq T.C_Offset) E (.ref p) (.ref q) H Q := by
  obtain ⟨dx, e⟩ := id o
  exact ⟨p, dx, _, _, rfl, e, off_ty T o2, T.nt_Offset, p, q, r, g, d, r', g', d', rfl, o, o2, _, rfl, h⟩
theorem add_off {C CB : Addr} {H : Hp} {Q : VK} {p q : Addr} {r g d r' g' d' : Int} (o : OffAt C H p r g d) (o2 : OffAt C H q r' g' d') (hb : possB (r + r') (g + g') (d + d') = true) (h : ∀ x H', H x = none → Same H H' → OffAt C H' x (r + r') (g + g') (d + d') → Q (.ref x) H') : rAddO C (spOAdd C CB) E0 (.ref p) (.ref q) H Q := by
  obtain ⟨dx, e⟩ := id o
  obtain ⟨dy, e2⟩ := id o2
  exact ⟨p, dx, _, q, dy, _, rfl, rfl, e, e2, p, q, r, g, d, r', g', d', rfl, o, o2, fun z => (by rw [hb] at z; cases z), fun _ => h⟩
theorem ok_possible (T : Txt K mg) : FnOk P w K mg base CX0 1 T.f_possible T.d_possible ["rows", "groups", "distance"] (sp3 possB) := by
  refine T.F_possible.ok sc_possible (fun vs H Q E h => ?_) (fun cdv A outer s H vs Q E hr h => ?_)
  · obtain ⟨a, b, c, rfl, _⟩ := h
    rfl
  obtain ⟨a, b, c, rfl, q⟩ := h
  refine ⟨_, (pss_cons (ps_if (pt_cmpR op_eq (pv 1) pe_int (nomark _)) (pss_one (ps_ret (pe_cmpR op_eq (pv 2) pe_int (nomark _)))) pss_nil)
      (pss_cons (ps_if (pt_cmpR op_lt (pv 1) pe_int (nomark _)) (pss_one (ps_ret (pe_and (pe_cmpR op_le (pv 0) (pv 1) (nomark _)) (pe_one (pe_cmpR op_le (pv 2) (pv 1) (nomark _)))))) pss_nil)
      (pss_one (ps_ret (pe_and (pe_cmpR op_ge (pv 0) (pv 1) (nomark _)) (pe_one (pe_cmpR op_ge (pv 2) (pv 1) (nomark _)))))))), ?_⟩
  try simp only [nox_K, cx_K]
  wtm_at "rdi"
  all_goals (refine bl_to q ?_; rw [Bool.eq_iff_iff]; simp only [possB, decide_eq_true_eq, Bool.false_eq_true, eq_self, true_iff, false_iff]; omega)
theorem ok_zone_of (T : Txt K mg) : FnOk P w K mg base CX0 1 T.f_zone_of T.d_zone_of ["rows", "groups"] spZone2 := by
  refine T.F_zone_of.ok sc_zone_of (fun vs H Q E h => ?_) (fun cdv A outer s H vs Q E hr h => ?_)
  · obtain ⟨a, b, rfl, _⟩ := h
    rfl
  obtain ⟨a, b, rfl, q⟩ := h
  refine ⟨_, (pss_cons (ps_if (pt_cmpR op_eq (pv 0) pe_int (nomark _)) (pss_one (ps_ret pe_str)) pss_nil)
      (pss_cons (ps_if (pt_cmpR op_eq (pv 1) pe_int (nomark _)) (pss_one (ps_ret (pe_ifExp (pt_cmpR op_gt (pv 0) pe_int (nomark _)) pe_str pe_str))) pss_nil)
      (pss_one (ps_ret (pe_ifExp (pt_cmpR op_gt (pv 1) pe_int (nomark _)) pe_str pe_str))))), ?_⟩
  try simp only [nox_K, cx_K]
  unfold zoneS at q
  wtm_at "rdi"
  all_goals (simp only [*, if_true, if_false] at q; exact q)
theorem ok_BadOffset___init__ (T : Txt K mg) : FnOk P w K mg base CX0 1 T.f_BadOffset___init__ T.d_BadOffset___init__ ["self", "rows", "groups", "distance"] (spBInit T.C_BadOffset) := by
  refine T.F_BadOffset___init__.ok sc_BadOffset___init__ (fun vs H Q E h => ?_) (fun cdv A outer s H vs Q E hr h => ?_)
  · obtain ⟨a, r, g, d, rfl, _⟩ := h
    rfl
  obtain ⟨a, r, g, d, rfl, ha, q⟩ := h
  refine ⟨_, (pss_cons (ps_ost (pv 0) (pv 1))
      (pss_cons (ps_ost (pv 0) (pv 2))
      (pss_one (ps_ost (pv 0) (pv 3))))), ?_⟩
  try simp only [nox_K, cx_K]
  wtm_at "rd"
  refine ⟨a, _, rfl, T.ox_BadOffset, T.nf_BadOffset_rows, .inl ⟨ha, fun dx nd ne => ?_⟩⟩
  wtm_at "rd"
  refine ⟨a, _, rfl, T.ox_BadOffset, T.nf_BadOffset_groups, .inr ⟨dx, [("rows", .int r)], upd_same, ?_, Nat.le_of_ble_eq_true rfl, ?_⟩⟩
  · rw [upd_ne ne, upd_same]
  wtm_at "rd"
  refine ⟨a, _, rfl, T.ox_BadOffset, T.nf_BadOffset_distance, .inr ⟨dx, [("groups", .int g), ("rows", .int r)], ?_, upd_same, Nat.le_of_ble_eq_true rfl, ?_⟩⟩
  · rw [upd_ne ne.symm, upd_same]
  wtm_at "rd"
  refine q dx _ nd ?_ upd_same fun b o e nb => ?_
  · rw [upd_ne ne.symm, upd_ne ne.symm, upd_same]
  · rw [upd_ne (ne_of_none e nd), upd_ne (ne_of_none e nd), upd_ne nb, upd_ne (ne_of_none e nd)]
    exact e
theorem raise_bad {C : Addr} {r g d : Int} {H : Hp} {Q : XK} (h : ∀ (dd : Addr) (H' : Hp), H dd = none → H' dd = some (.xd (badF r g d)) → Same H H' → Q (.ref C) (some dd) H') :
    ∀ a, H a = none → spBInit C (.ref a :: ([.int r, .int g, .int d] ++ [])) (upd H a (exo a C none)) (fun v H2 => v = .non ∧ ∃ (dd : Addr) (fs : List (Str × V)), H2 a = some (exo a C (some dd)) ∧ H2 dd = some (exd dd fs) ∧ H dd = none ∧ Q (.ref C) (some dd) (upd (del H2 a) dd (.xd fs))) (fun _ _ _ => False) := by
  intro a na
  refine ⟨a, r, g, d, rfl, upd_same, fun dx H' nd ha hd hk => ⟨rfl, dx, badF r g d, ha, hd, (same_new na).free nd, ?_⟩⟩
  refine h dx _ ((same_new na).free nd) upd_same fun b o e => ?_
  have nb : b ≠ a := ne_of_none e na
  rw [upd_ne (ne_of_none e ((same_new na).free nd)), del_ne nb]
  exact hk b o (by rw [upd_ne nb]; exact e) nb
theorem ok_Offset___init__ (T : Txt K mg) : FnOk P w K mg base (L2.CX P w) 4 T.f_Offset___init__ T.d_Offset___init__ ["self", "rows", "groups", "distance"] (spOInit T.C_Offset T.C_BadOffset) := by
  refine T.F_Offset___init__.okX sc_Offset___init__ (fun vs H Q E h => ?_) (fun cdv A outer s H vs Q E hr h => ?_)
  · obtain ⟨p, dx, r, g, d, rfl, _⟩ := h
    rfl
  obtain ⟨p, dx, r, g, d, rfl, hp, qE, q⟩ := h
  refine ⟨_, (pss_cons (ps_if (pt_not (pt_val (pe_call (ok_possible T) (hr.mono (by decide)) (by rfl) T.g_possible T.F_possible.kp T.b_possible .nil pass0 (pa_cons (pv 1) (pa_cons (pv 2) (pa_cons (pv 3) pa_nil)))))) (pss_one (ps_raise rfl (takes_of rfl rfl rfl rfl) (pmk_oex T.ox_BadOffset T.iC_BadOffset T.tI_BadOffset (ok_BadOffset___init__ T) (hr.mono (by decide)) T.b_BadOffset___init__ .nil pass0 (by rfl) T.g_BadOffset (pa_cons (pv 1) (pa_cons (pv 2) (pa_cons (pv 3) pa_nil)))))) pss_nil)
      (pss_cons (ps_fld (pv 0) (pv 1) rfl)
      (pss_cons (ps_fld (pv 0) (pv 2) rfl)
      (pss_cons (ps_fld (pv 0) (pv 3) rfl)
      (pss_one (ps_fld (pv 0) (pe_call (ok_zone_of T) (hr.mono (by decide)) (by rfl) T.g_zone_of T.F_zone_of.kp T.b_zone_of .nil pass0 (pa_cons (pv 1) (pa_cons (pv 2) pa_nil))) rfl)))))), ?_⟩
  try simp only [nox_K, cx_K]
  wtm_at "rd"
  refine ⟨r, g, d, rfl, ?_⟩
  wtm_at "rd"
  refine r_itebn (fun hb => ?_) (fun hb => ?_)
  · refine ⟨.int r, rfl, .int g, rfl, .int d, rfl, Nat.le_of_ble_eq_true rfl, raise_bad fun dd H' nd hd s => ?_⟩
    exact qE hb dd H' nd hd s
  wtm_at "rd"
  refine r_put hp T.c_Offset T.nf_Offset_rows (by decide) ?_
  wtm_at "rd"
  refine r_put upd_same T.c_Offset T.nf_Offset_groups (by have := putF_len "rows" (.int r) []; exact Nat.lt_of_le_of_lt this (by decide)) ?_
  wtm_at "rd"
  refine r_put upd_same T.c_Offset T.nf_Offset_distance (Nat.lt_of_le_of_lt (Nat.le_trans (putF_len _ _ _) (Nat.succ_le_succ (putF_len _ _ _))) (by decide)) ?_
  wtm_at "rd"
  refine ⟨r, g, rfl, ?_⟩
  wtm_at "rd"
  refine r_put upd_same T.c_Offset T.nf_Offset_zone (Nat.lt_of_le_of_lt (Nat.le_trans (putF_len _ _ _) (Nat.succ_le_succ (Nat.le_trans (putF_len _ _ _) (Nat.succ_le_succ (putF_len _ _ _))))) (by decide)) ?_
  wtm_at "rd"
  refine q hb _ ⟨dx, upd_same⟩ fun b o e nb => ?_
  rw [upd_ne nb, upd_ne nb, upd_ne nb, upd_ne nb]
  exact e
theorem ok_Offset___neg__ (T : Txt K mg) : FnOk P w K mg base CX0 6 T.f_Offset___neg__ T.d_Offset___neg__ ["self"] (spONeg T.C_Offset) := by
  refine T.F_Offset___neg__.ok sc_Offset___neg__ (fun vs H Q E h => ?_) (fun cdv A outer s H vs Q E hr h => ?_)
  · obtain ⟨p, r, g, d, rfl, _⟩ := h
    rfl
  obtain ⟨p, r, g, d, rfl, o, hb, q⟩ := h
  refine ⟨_, (pss_one (ps_ret (pe_make T.m_Offset (ok_Offset___init__ T) (hr.mono (by decide)) (by rfl) T.g_Offset T.b_Offset___init__ .nil passL (pa_cons (pe_un un_neg (pe_fldK (K := K) (pv 0))) (pa_cons (pe_un un_neg (pe_fldK (K := K) (pv 0))) (pa_cons (pe_un un_neg (pe_fldK (K := K) (pv 0))) pa_nil)))))), ?_⟩
  try simp only [nox_K, cx_K]
  wtm_at "rd"
  refine r_rows T o ?_
  wtm_at "rd"
  refine r_groups T o ?_
  wtm_at "rd"
  refine r_distance T o ?_
  wtm_at "rd"
  exact make_off (fun z => (by rw [poss_neg, hb] at z; cases z)) fun _ => q
theorem ok_Offset___eq__ (T : Txt K mg) : FnOk P w K mg base CX0 1 T.f_Offset___eq__ T.d_Offset___eq__ ["self", "other"] (spOEq T.C_Offset) := by
  refine T.F_Offset___eq__.ok sc_Offset___eq__ (fun vs H Q E h => ?_) (fun cdv A outer s H vs Q E hr h => ?_)
  · obtain ⟨p, p2, r, g, d, r', g', d', rfl, _⟩ := h
    rfl
  obtain ⟨p, p2, r, g, d, r', g', d', rfl, o, o2, q⟩ := h
  refine ⟨_, (pss_cons (ps_if (pt_not (pt_val (pe_callB call_isi (by rfl) T.z_isinstance (by decide +kernel) (pa_cons (pv 1) (pa_cons (pe_glob (v := .ref T.C_Offset) rfl T.g_Offset rfl) pa_nil))))) (pss_one (ps_ret pe_bl)) pss_nil)
      (pss_one (ps_ret (pe_and (pe_cmpR op_eq (pe_fldK (K := K) (pv 0)) (pe_fldK (K := K) (pv 1)) (nomark _)) (pe_and (pe_cmpR op_eq (pe_fldK (K := K) (pv 0)) (pe_fldK (K := K) (pv 1)) (nomark _)) (pe_one (pe_cmpR op_eq (pe_fldK (K := K) (pv 0)) (pe_fldK (K := K) (pv 1)) (nomark _)))))))), ?_⟩
  try simp only [nox_K, cx_K]
  wtm_at "rd"
  refine r_isi (.own _) (off_ty T o2) kit_self ?_
  wtm_at "rdi"
  refine r_rows T o ?_
  wtm_at "rd"
  refine r_rows T o2 ?_
  wtm_at "rd"
  refine r_ite (fun e1 => ?_) (fun e1 => ?_)
  · rw [decide_eq_true e1, Bool.true_and] at q
    wtm_at "rd"
    refine r_groups T o ?_
    wtm_at "rd"
    refine r_groups T o2 ?_
    wtm_at "rd"
    refine r_ite (fun e2 => ?_) (fun e2 => ?_)
    · rw [decide_eq_true e2, Bool.true_and] at q
      wtm_at "rd"
      refine r_distance T o ?_
      wtm_at "rd"
      refine r_distance T o2 ?_
      wtm_at "rd"
      exact q
    · rw [decide_eq_false e2, Bool.false_and] at q
      exact q
  · rw [decide_eq_false e1, Bool.false_and] at q
    exact q
end
theorem at_all {xs : List V} {P : V → Prop} (h : ∀ v ∈ xs, P v) {k : Int} (k0 : 0 ≤ k) (k1 : k < xs.length) : ∃ v, atI xs k = some v ∧ P v := by
  have hk : xs[k.toNat]? = some (xs[k.toNat]'(by omega)) := List.getElem?_eq_getElem (by omega)
  exact ⟨_, atI_at k0 hk, h _ (List.getElem_mem _)⟩
def dropR (r : Row) (w : Str) : Row := r.filter fun p => decide (p.1 ≠ w)
theorem drop_row (w : Str) (r : Row) : dropK (rowK r) (Sum.inr w) = rowK (dropR r w) := by
  unfold dropK dropR rowK
  rw [List.filter_map]
  congr 1
  refine List.filter_congr fun p _ => ?_
  show decide ((Sum.inr p.1 : Key) ≠ Sum.inr w) = _
  rw [decide_eq_decide]
  exact ⟨fun z y => z (by rw [y]), fun z y => z (Sum.inr.inj y)⟩
theorem r_dpop1 {σ : L2.St} {H : Hp} {Q : VK} {td ty : TE} (h : td σ H fun x H1 => ∃ a, x = .ref a ∧ IsD H1 a ∧ ty σ H1 fun y H2 => ∃ kvs k v, H2 a = some (.dK kvs) ∧ y = kV k ∧ valV kvs k = some v ∧ Q v (upd H2 a (.dK (dropK kvs k)))) : tDPop1 td ty σ H Q := h

theorem r_lstRg {σ : L2.St} {H : Hp} {Q : VK} {ta : TE} (h : ta σ H fun x H1 => ∃ n, x = .int n ∧ RgOk 0 n ∧ ∀ q, H1 q = none → Q (.ref q) (upd H1 q (.lst (rgV 0 n)))) : tLstRg (tRg1 ta) σ H Q := h
def rangeI (n : Nat) : List Int := (List.range n).map fun (k : Nat) => (k : Int)
theorem rgV_range (n : Nat) : rgV 0 (n : Int) = (rangeI n).map V.int := by
  unfold rgV rangeI
  rw [Int.sub_zero, Int.toNat_natCast, List.map_map]
  exact List.map_congr_left fun k _ => by show V.int (0 + (k : Int)) = V.int (k : Int); rw [Int.zero_add]
/-! two sorted lists of the same things are one -/
theorem sorted_uniq {α : Type} {le : α → α → Prop} (anti : ∀ a b, le a b → le b a → a = b) (refl : ∀ a, le a a) : ∀ {l m : List α}, l.Pairwise le → m.Pairwise le → l.Perm m → l = m
  | [], m, _, _, h => (List.Perm.nil_eq h)
  | x :: l, [], _, _, h => absurd h.length_eq (by simp)
  | x :: l, y :: m, hl, hm, h => by
    have e : x = y := by
      refine anti _ _ ?_ ?_
      · rcases List.mem_cons.mp (h.mem_iff.mpr (List.mem_cons_self (a := y) (l := m))) with z | z
        · rw [z]; exact refl _
        · exact (List.pairwise_cons.mp hl).1 y z
      · rcases List.mem_cons.mp (h.mem_iff.mp (List.mem_cons_self (a := x) (l := l))) with z | z
        · rw [z]; exact refl _
        · exact (List.pairwise_cons.mp hm).1 x z
    subst e
    rw [sorted_uniq anti refl (List.pairwise_cons.mp hl).2 (List.pairwise_cons.mp hm).2 h.cons_inv]
theorem perm_range {ns : List Int} {n : Nat} (h : isNumB ns n = true) : ns.Perm (rangeI n) := by
  obtain ⟨n1, n2, n3⟩ := of_decide_eq_true h
  have hn : (rangeI n).Nodup := List.pairwise_map.mpr (List.Pairwise.imp (fun h e => h (by omega)) (List.nodup_range (n := n)))
  exact (List.perm_ext_iff_of_nodup n3 hn).mpr fun x => ⟨fun hx => List.mem_map.mpr ⟨x.toNat, List.mem_range.mpr (by have := n2 x hx; omega), by have := n2 x hx; omega⟩, fun hx => by
    obtain ⟨k, hk, rfl⟩ := List.mem_map.mp hx
    exact num_surj h (List.mem_range.mp hk)⟩
theorem range_up (n : Nat) : (rangeI n).Pairwise (· ≤ ·) := List.pairwise_map.mpr (List.Pairwise.imp (fun h => by omega) (List.pairwise_lt_range (n := n)))
theorem num_sorted {ns ms : List Int} {n : Nat} (hp : ms.Perm ns) (hs : ms.Pairwise (· ≤ ·)) : isNumB ns n = decide (ms = rangeI n) := by
  cases h : isNumB ns n with
  | true =>
    refine (decide_eq_true ?_).symm
    exact sorted_uniq (fun a b h1 h2 => Int.le_antisymm h1 h2) (fun a => Int.le_refl a) hs (range_up n) (hp.trans (perm_range h))
  | false =>
    refine (decide_eq_false fun e => ?_).symm
    rw [num_perm (hp.symm.trans (by rw [e]; exact List.Perm.refl _))] at h
    cases h
theorem sortB_iff : ∀ {l : List (List Int)}, sortB l = true → l.Pairwise (fun a b => SrT.lexL b a = false)
  | [], _ => List.Pairwise.nil
  | [a], _ => List.pairwise_singleton _ _
  | a :: b :: r, h => by
    obtain ⟨h1, h2⟩ := Bool.and_eq_true_iff.mp (show (leL a b && sortB (b :: r)) = true from h)
    have ih := sortB_iff h2
    have h1 : SrT.lexL b a = false := by
      unfold leL at h1
      cases hz : SrT.lexL b a with
      | false => rfl
      | true => rw [hz] at h1; cases h1
    refine List.pairwise_cons.mpr ⟨fun x hx => ?_, ih⟩
    rcases List.mem_cons.mp hx with z | z
    · rw [z]; exact h1
    · exact SrT.lexL_tr a b x h1 ((List.pairwise_cons.mp ih).1 x z)
theorem sortB_self {xs ys : List (List Int)} (hp : ys.Perm xs) (hs : ys.Pairwise (fun a b => SrT.lexL b a = false)) : sortB xs = decide (xs = ys) := by
  cases h : sortB xs with
  | true => exact (decide_eq_true (sorted_uniq (fun a b h1 h2 => SrT.lexL_eq h2 h1) (fun a => (SrT.swoL (fun x : List Int => x)).refl a) (sortB_iff h) hs hp.symm)).symm
  | false =>
    refine (decide_eq_false fun e => ?_).symm
    rw [e, sortB_pair hs] at h
    cases h
/-! lists of tuples of ints as data -/
def tupsD (l : List (List Int)) : PyData := .list (l.map fun n => tupD (n.map V.int))
theorem dp_tups {K : PySem.W.Frag} {H : Hp} : ∀ {us : List Addr} {l : List (List Int)}, All2 (fun u n => H u = some (.tup (n.map V.int))) us l → DpAll K H (us.map V.ref) (l.map fun n => tupD (n.map V.int))
  | [], [], _ => .nil
  | u :: us, n :: l, h => .cons (.tup (SqT.of h.uncons.1) (dpAll_vD ints_eqD)) (dp_tups h.uncons.2)
  | [], _ :: _, h => by cases h.len
  | _ :: _, [], h => by cases h.len
theorem eqv_tups : ∀ {l m : List (List Int)}, PyData.eqvAll (l.map fun n => tupD (n.map V.int)) (m.map fun n => tupD (n.map V.int)) = decide (l = m)
  | [], [] => rfl
  | [], _ :: _ => by rw [decide_eq_false fun z => nomatch z]; rfl
  | _ :: _, [] => by rw [decide_eq_false fun z => nomatch z]; rfl
  | n :: l, k :: m => by
    show (PyData.eqvAll ((n.map V.int).map vD) ((k.map V.int).map vD) && PyData.eqvAll (l.map fun n => tupD (n.map V.int)) (m.map fun n => tupD (n.map V.int))) = _
    rw [eqv_all ints_eqD ints_eqD ints_kind, eqv_tups, Bool.eq_iff_iff, Bool.and_eq_true, decide_eq_true_eq, decide_eq_true_eq, decide_eq_true_eq, List.cons.injEq, List.map_inj_right fun _ _ z => V.int.inj z]
theorem lay_tups : ∀ (l : List (List Int)), PyData.canLayAll0 (l.map fun n => tupD (n.map V.int)) = true ∧ PyData.depthAll (l.map fun n => tupD (n.map V.int)) ≤ 1
  | [] => ⟨rfl, by decide⟩
  | n :: l => by
    obtain ⟨h1, h2⟩ := lay_tups l
    refine ⟨?_, ?_⟩
    · show (PyData.canLayAll0 ((n.map V.int).map vD) && PyData.canLayAll0 (l.map fun n => tupD (n.map V.int))) = true
      rw [lay_vD ints_eqD, h1]
      rfl
    · show max (PyData.depthAll ((n.map V.int).map vD) + 1) (PyData.depthAll (l.map fun n => tupD (n.map V.int))) ≤ 1
      rw [depth_vD]
      exact Nat.max_le.mpr ⟨Nat.le_refl _, h2⟩
theorem shaped_tups (l : List (List Int)) : SeqAt.shaped (tupsD l) = true := by
  obtain ⟨h1, h2⟩ := lay_tups l
  unfold SeqAt.shaped
  rw [show (tupsD l).canLay0 = true from h1]
  show decide (PyData.depthAll (l.map fun n => tupD (n.map V.int)) + 1 ≤ 64) = true
  exact decide_eq_true (by omega)
def spFits : Sp := fun vs H Q _ => ∃ (u l a : Addr) (sc : Sch) (s : Srt) (as : List Addr) (rs : List Row) (ns : List Int), vs = [.ref u, .ref l, .ref a] ∧ H u = some (.tup (srtV s)) ∧ sc.good ∧ s ∈ sc.ss ∧ H l = some (.lst (as.map V.ref)) ∧ RowsIn H as rs ∧ (∀ x ∈ rs, GRow sc x) ∧ rs.length ≤ 60 ∧ H a = some (.lst (ns.map V.int)) ∧ ns.length ≤ 100 ∧ ∀ H', Same H H' → Q (.bl (fitB rs s ns)) H'
def spDueO : Sp := fun vs H Q _ => ∃ (p l o : Addr) (sc : Sch) (as : List Addr) (rs : List Row) (os : List (Str × List Int)) (bs : List Addr), vs = [.ref p, .ref l, .ref o] ∧ SpecAt H p sc ∧ sc.good ∧ H l = some (.lst (as.map V.ref)) ∧ RowsIn H as rs ∧ (∀ x ∈ rs, GRow sc x) ∧ rs.length ≤ 60 ∧ OrdAt H o os bs ∧ (∀ q ∈ os, q.2.length ≤ 100) ∧ ∀ H', Same H H' → Q (.str ((badLay sc rs os).getD "")) H'
theorem find_mem {os : List (Str × List Int)} {w : Str} {ns : List Int} (h : findO os w = some ns) : (w, ns) ∈ os := by
  obtain ⟨q, hq, e⟩ := Option.map_eq_some_iff.mp (show (os.find? fun p => decide (p.1 = w)).map (·.2) = some ns from h)
  have e1 : q.1 = w := of_decide_eq_true (List.find?_some (p := fun p : Str × List Int => decide (p.1 = w)) hq)
  rw [← e1, ← e]
  exact List.mem_of_find?_eq_some hq
/-! a dict of orders that is changed -/
structure SInv (d c r o : Addr) (os : List (Str × List Int)) (as : List Addr) (m : Nat) (H0 H' : Hp) : Prop where
  D : Drw H' d c r
  ord : OrdAt H' o os as
  nk : (os.map (·.1)).Nodup
  na : as.Nodup
  lo : os.length ≤ m
  ll : ∀ q ∈ os, q.2.length ≤ m
  fo : H0 o = none
  fa : ∀ x ∈ as, H0 x = none
  k : Ext d r H0 H'
theorem ordX {H H' : Hp} {o : Addr} {os : List (Str × List Int)} {as : List Addr} {d r : Addr} (h : OrdAt H o os as) (n1 : o ≠ d) (n2 : o ≠ r) (m1 : ¬ d ∈ as) (m2 : ¬ r ∈ as) (E : Ext d r H H') : OrdAt H' o os as :=
  ⟨E _ _ h.d n1 n2, ⟨h.l.len, fun j a p e1 e2 => E _ _ (h.l.at_ j a p e1 e2) (fun z => m1 (by rw [← z]; exact List.mem_of_getElem? e1)) (fun z => m2 (by rw [← z]; exact List.mem_of_getElem? e1))⟩⟩
theorem ord_dr {H : Hp} {o d c r : Addr} {os : List (Str × List Int)} {as : List Addr} (D : Drw H d c r) (h : OrdAt H o os as) : o ≠ d ∧ o ≠ r ∧ o ≠ c := dict_dr D h.d
section
variable {d c r o : Addr} {os : List (Str × List Int)} {as : List Addr} {m : Nat} {H0 H1 H2 : Hp}
theorem SInv.ext (W : SInv d c r o os as m H0 H1) (D0 : Drw H0 d c r) (D2 : Drw H2 d c r) (E : Ext d r H1 H2) : SInv d c r o os as m H0 H2 := by
  have z := ord_dr W.D W.ord
  refine ⟨D2, ordX W.ord z.1 z.2.1 (fun q => ?_) (fun q => ?_) E, W.nk, W.na, W.lo, W.ll, W.fo, W.fa, W.k.trans E⟩
  · have e := W.fa d q
    obtain ⟨_, _, _, _, _, _, g1, _⟩ := D0
    rw [g1] at e
    cases e
  · have e := W.fa r q
    obtain ⟨_, _, _, _, _, _, _, _, g3, _⟩ := D0
    rw [g3] at e
    cases e
theorem SInv.same (W : SInv d c r o os as m H0 H1) (s : Same H1 H2) : SInv d c r o os as m H0 H2 := ⟨W.D.same s, W.ord.same s, W.nk, W.na, W.lo, W.ll, W.fo, W.fa, W.k.trans (Ext.of s)⟩
theorem SInv.up {m' : Nat} (W : SInv d c r o os as m H0 H1) (h : m ≤ m') : SInv d c r o os as m' H0 H1 := ⟨W.D, W.ord, W.nk, W.na, Nat.le_trans W.lo h, fun q hq => Nat.le_trans (W.ll q hq) h, W.fo, W.fa, W.k⟩
theorem set_fst : ∀ {os : List (Str × List Int)} {j : Nat} {p : Str × List Int} {ns : List Int}, os[j]? = some p → (os.set j (p.1, ns)).map (·.1) = os.map (·.1)
  | x :: os, 0, p, ns, h => by cases h; rfl
  | x :: os, j + 1, p, ns, h => by
    show x.1 :: (os.set j (p.1, ns)).map (·.1) = x.1 :: os.map (·.1)
    rw [set_fst (os := os) (j := j) h]
  | [], _, _, _, h => by cases h
theorem set_ordR : ∀ {os : List (Str × List Int)} {as : List Addr} {j : Nat} {p : Str × List Int} {ns : List Int}, os[j]? = some p → ordR (os.set j (p.1, ns)) as = ordR os as
  | x :: os, a :: as, 0, p, ns, h => by cases h; rfl
  | x :: os, a :: as, j + 1, p, ns, h => by
    show (x.1, V.ref a) :: ordR (os.set j (p.1, ns)) as = _
    rw [set_ordR (os := os) (j := j) h]
    rfl
  | x :: os, [], 0, p, ns, h => rfl
  | x :: os, [], j + 1, p, ns, h => rfl
  | [], _, _, _, _, h => by cases h
/-- one list is changed -/
theorem SInv.set {a : Addr} {j : Nat} {w : Str} {ns ms : List Int} {m' : Nat} (W : SInv d c r o os as m H0 H1) (D0 : Drw H0 d c r) (ha : as[j]? = some a) (hw : os[j]? = some (w, ns)) (hm : m ≤ m') (hl : ms.length ≤ m') : SInv d c r o (os.set j (w, ms)) as m' H0 (upd H1 a (.lst (ms.map V.int))) := by
  have ga := W.ord.l.at_ j a _ ha hw
  have fa := W.fa a (List.mem_of_getElem? ha)
  refine ⟨W.D.put (D0.ned fa) (D0.ner fa) (D0.nec fa), ⟨?_, ⟨by rw [List.length_set]; exact W.ord.l.len, fun i x y e1 e2 => ?_⟩⟩, by rw [set_fst (p := (w, ns)) hw]; exact W.nk, W.na, by rw [List.length_set]; exact Nat.le_trans W.lo hm, fun q hq => ?_, W.fo, W.fa, fun b x e n1 n2 => (upd_ne (ne_of_none e fa)).trans (W.k b x e n1 n2)⟩
  · rw [set_ordR (p := (w, ns)) hw]
    exact (upd_ne (ne_of W.ord.d ga fun z => nomatch z)).trans W.ord.d
  · by_cases cc : j = i
    · subst cc
      rw [ha] at e1
      cases e1
      rw [List.getElem?_set_self (List.getElem?_eq_some_iff.mp hw).1] at e2
      cases e2
      exact upd_same
    · rw [List.getElem?_set_ne cc] at e2
      refine (upd_ne fun z => cc ?_).trans (W.ord.l.at_ i x y e1 e2)
      subst z
      have h1 := List.getElem?_eq_some_iff.mp ha
      have h2 := List.getElem?_eq_some_iff.mp e1
      exact (List.getElem_inj (h₀ := h1.1) (h₁ := h2.1) W.na).mp (h1.2.trans h2.2.symm)
  · rcases List.mem_or_eq_of_mem_set hq with z | z
    · exact Nat.le_trans (W.ll q z) hm
    · rw [z]; exact hl
theorem drop_ord {H : Hp} (w : Str) : ∀ {os : List (Str × List Int)} {as : List Addr}, All2 (fun a p => H a = some (.lst (p.2.map V.int))) as os → ∃ as', dropR (ordR os as) w = ordR (os.filter fun p => decide (p.1 ≠ w)) as' ∧ All2 (fun a p => H a = some (.lst (p.2.map V.int))) as' (os.filter fun p => decide (p.1 ≠ w)) ∧ as'.Sublist as
  | [], [], _ => ⟨[], rfl, All2.nil, List.Sublist.refl _⟩
  | p :: os, a :: as, h => by
    have h1 := h.uncons
    obtain ⟨as', e1, e2, e3⟩ := drop_ord w h1.2
    by_cases e : p.1 = w
    · refine ⟨as', ?_, ?_, e3.cons _⟩
      · show List.filter _ ((p.1, V.ref a) :: ordR os as) = _
        rw [List.filter_cons, if_neg (by rw [decide_eq_false (fun z => z e)]; exact Bool.false_ne_true), List.filter_cons, if_neg (by rw [decide_eq_false (fun z => z e)]; exact Bool.false_ne_true)]
        exact e1
      · rw [List.filter_cons, if_neg (by rw [decide_eq_false (fun z => z e)]; exact Bool.false_ne_true)]
        exact e2
    · refine ⟨a :: as', ?_, ?_, e3.cons₂ _⟩
      · show List.filter _ ((p.1, V.ref a) :: ordR os as) = _
        rw [List.filter_cons, if_pos (decide_eq_true e), List.filter_cons, if_pos (decide_eq_true e)]
        show (p.1, V.ref a) :: dropR (ordR os as) w = (p.1, V.ref a) :: ordR _ as'
        rw [e1]
      · rw [List.filter_cons, if_pos (decide_eq_true e)]
        refine ⟨by rw [List.length_cons, List.length_cons, e2.len], fun j x y z1 z2 => ?_⟩
        cases j with
        | zero => cases z1; cases z2; exact h1.1
        | succ j => exact e2.at_ j x y z1 z2
  | [], _ :: _, h => by cases h.len
  | _ :: _, [], h => by cases h.len
theorem SInv.drop {w : Str} (W : SInv d c r o os as m H0 H1) (D0 : Drw H0 d c r) : ∃ os' as', SInv d c r o os' as' m H0 (upd H1 o (.dK (rowK (dropR (ordR os as) w)))) := by
  obtain ⟨as', e1, e2, e3⟩ := drop_ord w W.ord.l
  obtain ⟨x1, x2, x3⟩ := ord_dr W.D W.ord
  refine ⟨_, as', W.D.put x1 x2 x3, ⟨by rw [upd_same, e1], e2.imp fun a _ z => (upd_ne (ne_of z W.ord.d fun q => nomatch q)).trans z⟩, ?_, e3.nodup W.na, Nat.le_trans (List.length_filter_le _ _) W.lo, fun q hq => W.ll q (List.mem_filter.mp hq).1, W.fo, fun x hx => W.fa x (e3.subset hx), fun b x e n1 n2 => (upd_ne (ne_of_none e W.fo)).trans (W.k b x e n1 n2)⟩
  exact (List.Sublist.map _ List.filter_sublist).nodup W.nk
theorem put_ord {H : Hp} (w : Str) {u : Addr} {ns : List Int} (hu : H u = some (.lst (ns.map V.int))) : ∀ {os : List (Str × List Int)} {as : List Addr}, (os.map (·.1)).Nodup → w ∈ os.map (·.1) → All2 (fun a p => H a = some (.lst (p.2.map V.int))) as os → ∃ as' os', ((ordR os as).map fun p => if p.1 = w then (p.1, V.ref u) else p) = ordR os' as' ∧ All2 (fun a p => H a = some (.lst (p.2.map V.int))) as' os' ∧ os'.map (·.1) = os.map (·.1) ∧ (as.Nodup → ¬ u ∈ as → as'.Nodup) ∧ (∀ x ∈ as', x = u ∨ x ∈ as) ∧ ∀ q ∈ os', q ∈ os ∨ q = (w, ns)
  | p :: os, a :: as, hn, hm, h => by
    have h1 := h.uncons
    obtain ⟨n1, n2⟩ := List.nodup_cons.mp (show (p.1 :: os.map (·.1)).Nodup from hn)
    have lra : as.length = os.length := h1.2.len
    by_cases e : p.1 = w
    · have keep : ((ordR os as).map fun p => if p.1 = w then (p.1, V.ref u) else p) = ordR os as := by
        refine (List.map_congr_left fun q hq => ?_).trans (List.map_id' _)
        rw [if_neg fun z => ?_]
        have : q.1 ∈ keysR (ordR os as) := List.mem_map.mpr ⟨q, hq, rfl⟩
        rw [ord_keys lra, z, ← e] at this
        exact n1 this
      refine ⟨u :: as, (w, ns) :: os, ?_, ?_, ?_, fun z1 z2 => ?_, fun x hx => ?_, fun q hq => ?_⟩
      · show (if p.1 = w then (p.1, V.ref u) else (p.1, V.ref a)) :: ((ordR os as).map fun p => if p.1 = w then (p.1, V.ref u) else p) = (w, V.ref u) :: ordR os as
        rw [if_pos e, keep, e]
      · refine ⟨by rw [List.length_cons, List.length_cons, lra], fun j x y z1 z2 => ?_⟩
        cases j with
        | zero => cases z1; cases z2; exact hu
        | succ j => exact h1.2.at_ j x y z1 z2
      · rw [List.map_cons, List.map_cons, e]
      · exact List.nodup_cons.mpr ⟨fun z => z2 (List.mem_cons_of_mem _ z), (List.nodup_cons.mp z1).2⟩
      · rcases List.mem_cons.mp hx with z | z
        · exact .inl z
        · exact .inr (List.mem_cons_of_mem _ z)
      · rcases List.mem_cons.mp hq with z | z
        · exact .inr z
        · exact .inl (List.mem_cons_of_mem _ z)
    · have hm' : w ∈ os.map (·.1) := by
        rcases List.mem_cons.mp (show w ∈ p.1 :: os.map (·.1) from hm) with z | z
        · exact absurd z.symm e
        · exact z
      obtain ⟨as', os', e1, e2, e3, e4, e5, e6⟩ := put_ord w hu n2 hm' h1.2
      refine ⟨a :: as', p :: os', ?_, ?_, ?_, fun z1 z2 => ?_, fun x hx => ?_, fun q hq => ?_⟩
      · show (if p.1 = w then (p.1, V.ref u) else (p.1, V.ref a)) :: ((ordR os as).map fun p => if p.1 = w then (p.1, V.ref u) else p) = (p.1, V.ref a) :: ordR os' as'
        rw [if_neg e, e1]
      · refine ⟨by rw [List.length_cons, List.length_cons, e2.len], fun j x y z1 z2 => ?_⟩
        cases j with
        | zero => cases z1; cases z2; exact h1.1
        | succ j => exact e2.at_ j x y z1 z2
      · rw [List.map_cons, List.map_cons, e3]
      · have z3 := List.nodup_cons.mp z1
        refine List.nodup_cons.mpr ⟨fun z => ?_, e4 z3.2 fun z => z2 (List.mem_cons_of_mem _ z)⟩
        rcases e5 a z with y | y
        · exact z2 (by rw [y]; exact List.mem_cons_self)
        · exact z3.1 y
      · rcases List.mem_cons.mp hx with z | z
        · exact .inr (by rw [z]; exact List.mem_cons_self)
        · exact (e5 x z).imp id fun y => List.mem_cons_of_mem _ y
      · rcases List.mem_cons.mp hq with z | z
        · exact .inl (by rw [z]; exact List.mem_cons_self)
        · exact (e6 q z).imp (fun y => List.mem_cons_of_mem _ y) id
  | [], [], _, hm, _ => by cases hm
  | [], _ :: _, _, _, h => by cases h.len
  | _ :: _, [], _, _, h => by cases h.len
theorem ordR_snoc : ∀ {os : List (Str × List Int)} {as : List Addr} {p : Str × List Int} {u : Addr}, as.length = os.length → ordR (os ++ [p]) (as ++ [u]) = ordR os as ++ [(p.1, .ref u)]
  | [], [], _, _, _ => rfl
  | x :: os, a :: as, p, u, h => by
    show (x.1, V.ref a) :: ordR (os ++ [p]) (as ++ [u]) = _
    rw [ordR_snoc (Nat.succ.inj h)]
    rfl
  | [], _ :: _, _, _, h => by cases h
  | _ :: _, [], _, _, h => by cases h
theorem SInv.put {w : Str} {u : Addr} {ns : List Int} {m' : Nat} (W : SInv d c r o os as m H0 H1) (D0 : Drw H0 d c r) (hu : H1 u = some (.lst (ns.map V.int))) (fu : H0 u = none) (nu : ¬ u ∈ as) (hm : m + 1 ≤ m') (hl : ns.length ≤ m') : ∃ os' as', SInv d c r o os' as' m' H0 (upd H1 o (.dK (rowK (putR (ordR os as) w (.ref u))))) := by
  obtain ⟨x1, x2, x3⟩ := ord_dr W.D W.ord
  have lra : as.length = os.length := W.ord.l.len
  have ek := ord_keys lra
  have kk : Ext d r H0 (upd H1 o (.dK (rowK (putR (ordR os as) w (.ref u))))) := fun b x e n1 n2 => (upd_ne (ne_of_none e W.fo)).trans (W.k b x e n1 n2)
  by_cases cw : w ∈ os.map (·.1)
  · obtain ⟨as', os', e1, e2, e3, e4, e5, e6⟩ := put_ord w hu W.nk cw W.ord.l
    have ep : putR (ordR os as) w (.ref u) = ordR os' as' := by
      rw [← e1]
      exact if_pos (by rw [ek]; exact cw)
    refine ⟨os', as', W.D.put x1 x2 x3, ⟨by rw [upd_same, ep], e2.imp fun a _ z => (upd_ne (ne_of z W.ord.d fun q => nomatch q)).trans z⟩, by rw [e3]; exact W.nk, e4 W.na nu, ?_, fun q hq => ?_, W.fo, fun x hx => ?_, kk⟩
    · have := congrArg List.length e3
      rw [List.length_map, List.length_map] at this
      have := W.lo
      omega
    · rcases e6 q hq with z | z
      · exact Nat.le_trans (W.ll q z) (by omega)
      · rw [z]; exact hl
    · rcases e5 x hx with z | z
      · rw [z]; exact fu
      · exact W.fa x z
  · have ep : putR (ordR os as) w (.ref u) = ordR (os ++ [(w, ns)]) (as ++ [u]) := by
      rw [ordR_snoc lra]
      exact if_neg (by rw [ek]; exact cw)
    refine ⟨_, _, W.D.put x1 x2 x3, ⟨by rw [upd_same, ep], All2.snoc (W.ord.l.imp fun a _ z => (upd_ne (ne_of z W.ord.d fun q => nomatch q)).trans z) ((upd_ne (ne_of hu W.ord.d fun q => nomatch q)).trans hu)⟩, ?_, ?_, ?_, fun q hq => ?_, W.fo, fun x hx => ?_, kk⟩
    · rw [List.map_append]
      refine List.nodup_append.mpr ⟨W.nk, List.nodup_cons.mpr ⟨List.not_mem_nil, List.nodup_nil⟩, fun x hx y hy e => ?_⟩
      rw [List.mem_singleton.mp hy] at e
      rw [e] at hx
      exact cw hx
    · refine List.nodup_append.mpr ⟨W.na, List.nodup_cons.mpr ⟨List.not_mem_nil, List.nodup_nil⟩, fun x hx y hy e => ?_⟩
      rw [List.mem_singleton.mp hy] at e
      rw [e] at hx
      exact nu hx
    · rw [List.length_append]
      have := W.lo
      show os.length + 1 ≤ m'
      omega
    · rcases List.mem_append.mp hq with z | z
      · exact Nat.le_trans (W.ll q z) (by omega)
      · rw [List.mem_singleton.mp z]; exact hl
    · rcases List.mem_append.mp hx with z | z
      · exact W.fa x z
      · rw [List.mem_singleton.mp z]; exact fu
end
theorem erase_map {α β : Type} (f : α → β) : ∀ (l : List α) (k : Nat), (l.map f).eraseIdx k = (l.eraseIdx k).map f
  | [], _ => rfl
  | _ :: _, 0 => rfl
  | x :: l, k + 1 => by
    show f x :: (l.map f).eraseIdx k = f x :: (l.eraseIdx k).map f
    rw [erase_map f l k]
def spSpoilO : Sp := fun vs H1 Q _ => ∃ (d c r p l o : Addr) (sc : Sch) (n m : Nat) (H0 : Hp) (os : List (Str × List Int)) (as bs : List Addr), vs = [.ref d, .ref p, .ref l, .ref o] ∧ Drw H0 d c r ∧ SpecAt H0 p sc ∧ sc.good ∧ H0 l = some (.lst (bs.map V.ref)) ∧ bs.length = n ∧ n ≤ 60 ∧ m ≤ 80 ∧ 2 ≤ m ∧ SInv d c r o os as m H0 H1 ∧
  ∀ os' as' H', SInv d c r o os' as' (m + 2) H0 H' → Q .non H'
theorem idx_ord {w : Str} {ns : List Int} {a : Addr} : ∀ {os : List (Str × List Int)} {as : List Addr}, as.length = os.length → findO os w = some ns → getR (ordR os as) w = some (.ref a) → ∃ j : Nat, os[j]? = some (w, ns) ∧ as[j]? = some a
  | p :: os, b :: as, hl, h1, h2 => by
    by_cases e : p.1 = w
    · have f1 : findO (p :: os) w = some p.2 := by unfold findO; rw [List.find?_cons, decide_eq_true e]; rfl
      have f2 : getR (ordR (p :: os) (b :: as)) w = some (.ref b) := by
        show Option.map _ (match decide (p.1 = w) with | true => _ | false => _) = _
        rw [decide_eq_true e]
        rfl
      rw [f1] at h1
      rw [f2] at h2
      cases h1
      cases h2
      exact ⟨0, by rw [← e]; rfl, rfl⟩
    · have f1 : findO (p :: os) w = findO os w := by unfold findO; rw [List.find?_cons, decide_eq_false e]
      have f2 : getR (ordR (p :: os) (b :: as)) w = getR (ordR os as) w := by
        show Option.map _ (match decide (p.1 = w) with | true => _ | false => _) = _
        rw [decide_eq_false e]
        rfl
      rw [f1] at h1
      rw [f2] at h2
      obtain ⟨j, z1, z2⟩ := idx_ord (Nat.succ.inj hl) h1 h2
      exact ⟨j + 1, z1, z2⟩
  | [], [], _, h, _ => by cases h
  | [], _ :: _, h, _, _ => by cases h
  | _ :: _, [], h, _, _ => by cases h
/-- between the deeds of one spoiling -/
def SMid (d c r o a : Addr) (w : Str) (way : Int) (m : Nat) (H0 H' : Hp) : Prop := ∃ os as ns, SInv d c r o os as m H0 H' ∧ H' a = some (.lst (ns.map V.int)) ∧ ns.length ≤ m ∧ (2 ≤ way → ∃ j : Nat, as[j]? = some a ∧ os[j]? = some (w, ns))
theorem SMid.set {d c r o a : Addr} {w : Str} {way : Int} {m : Nat} {H0 H1 : Hp} {os : List (Str × List Int)} {as : List Addr} {ns : List Int} {ms : List Int} (D0 : Drw H0 d c r) (W : SInv d c r o os as m H0 H1) (h : ∃ j : Nat, as[j]? = some a ∧ os[j]? = some (w, ns)) (m' : Nat) (hm : m ≤ m') (hl : ms.length ≤ m') : SMid d c r o a w way m' H0 (upd H1 a (.lst (ms.map V.int))) := by
  obtain ⟨j, h1, h2⟩ := h
  exact ⟨_, as, ms, W.set D0 h1 h2 hm hl, upd_same, hl, fun _ => ⟨j, h1, List.getElem?_set_self (List.getElem?_eq_some_iff.mp h2).1⟩⟩
theorem SMid.up {d c r o a : Addr} {w : Str} {way : Int} {m m' : Nat} {H0 H' : Hp} (h : SMid d c r o a w way m H0 H') (hm : m ≤ m') : SMid d c r o a w way m' H0 H' := by
  obtain ⟨os, as, ns, h1, h2, h3, h4⟩ := h
  exact ⟨os, as, ns, h1.up hm, h2, Nat.le_trans h3 hm, h4⟩

def spOrdL (K : PySem.W.Frag) (CL CT CC CS : Addr) : Sp := fun vs H Q _ => ∃ (y : Addr) (w : Str) (sc : Sch) (rs : List Row) (ls : List (List Int)) (ow : List Addr), vs = [.ref y, .str w] ∧ LayAt K CL CT CC CS H y sc rs ls ow ∧ sc.good ∧
  (findS sc w = none → ∀ u H', H' u = some (.tup [.str "unknown", .str w]) → Same H H' → Q (.ref u) H') ∧ (∀ (j : Nat) (s : Srt) (l : List Int), sc.ss[j]? = some s → s.nm = w → ls[j]? = some l → ∀ u b H', H' u = some (.tup [.str "list", .bl true, .ref b]) → H' b = some (.lst (l.map V.int)) → Same H H' → Q (.ref u) H')
theorem name_idx {sc : Sch} (hg : sc.good) {i j : Nat} {s r : Srt} (h1 : sc.ss[i]? = some s) (h2 : sc.ss[j]? = some r) (e : r.nm = s.nm) : i = j := by
  have n1 : sc.names[i]? = some s.nm := by rw [Sch.names, List.getElem?_map, h1]; rfl
  have n2 : sc.names[j]? = some s.nm := by rw [Sch.names, List.getElem?_map, h2, ← e]; rfl
  have a := List.getElem?_eq_some_iff.mp n1
  have b := List.getElem?_eq_some_iff.mp n2
  exact (List.getElem_inj (h₀ := a.1) (h₁ := b.1) hg.n1).mp (a.2.trans b.2.symm)
theorem LayAt.len {K : PySem.W.Frag} {CL CT CC CS : Addr} {H : Hp} {y : Addr} {sc : Sch} {rs : List Row} {ls : List (List Int)} {ow : List Addr} (h : LayAt K CL CT CC CS H y sc rs ls ow) {j : Nat} {s : Srt} {l : List Int} (h1 : sc.ss[j]? = some s) (h2 : ls[j]? = some l) : l.length = rs.length := by
  obtain ⟨t, o, se, sp, ra, p, al, as, oa, sea, spa, raa, rks, X, hw⟩ := h
  exact (of_decide_eq_true (Bool.and_eq_true_iff.mp (X.fit j s l h1 h2)).1).1
def spListsR (K : PySem.W.Frag) (CL CT CC CS : Addr) : Sp := fun vs H Q _ => ∃ (y p o : Addr) (sc : Sch) (rs : List Row) (ls : List (List Int)) (ow : List Addr) (os : List (Str × List Int)) (bs : List Addr), vs = [.ref y, .ref p, .ref o] ∧ LayAt K CL CT CC CS H y sc rs ls ow ∧ sc.good ∧ SpecAt H p sc ∧ OrdAt H o os bs ∧ (∀ (j : Nat) (s : Srt) (l : List Int), sc.ss[j]? = some s → ls[j]? = some l → findO os s.nm = some l) ∧ ls.length = sc.ss.length ∧ rs.length ≤ 60 ∧ ∀ H', Same H H' → Q (.bl true) H'
theorem eq_lists3 {K : PySem.W.Frag} {H : Hp} {x y : V} {a b : Addr} {n : List Int} (hx : flatV x = true) (hy : flatV y = true) (ha : H a = some (.lst (n.map V.int))) (hb : H b = some (.lst (n.map V.int))) : ∀ (j : Nat) (u v : V), [x, y, .ref a][j]? = some u → [x, y, .ref b][j]? = some v → DQ.EqB K H 2 u v true
  | 0, _, _, e1, e2 => by cases e1; cases e2; exact eqB_flat hx
  | 1, _, _, e1, e2 => by cases e1; cases e2; exact eqB_flat hy
  | 2, _, _, e1, e2 => by
    cases e1
    cases e2
    have z := eq_ints (K := K) ha hb
    rw [decide_eq_true rfl] at z
    exact z
  | j + 3, _, _, e1, _ => by cases e1
theorem eq_flat2 {K : PySem.W.Frag} {H : Hp} {x y : V} (hx : flatV x = true) (hy : flatV y = true) : ∀ (j : Nat) (u v : V), [x, y][j]? = some u → [x, y][j]? = some v → DQ.EqB K H 2 u v true
  | 0, _, _, e1, e2 => by cases e1; cases e2; exact eqB_flat hx
  | 1, _, _, e1, e2 => by cases e1; cases e2; exact eqB_flat hy
  | j + 2, _, _, e1, _ => by cases e1
theorem put_same {H H' : Hp} {a : Addr} {o : HO} (s : Same H H') (na : H a = none) : Same H (upd H' a o) := fun b x e => (upd_ne (ne_of_none e na)).trans (s b x e)
theorem find_not {sc : Sch} {w : Str} (h : ¬ w ∈ sc.names) : findS sc w = none := List.find?_eq_none.mpr fun s hs => by
  rw [decide_eq_false fun e => h (List.mem_map.mpr ⟨s, hs, e⟩)]
  exact Bool.false_ne_true

def hide (H : Hp) (as : List Addr) : Hp := fun b => if b ∈ as then none else H b
theorem hide_in {H : Hp} {as : List Addr} {b : Addr} (h : b ∈ as) : hide H as b = none := if_pos h
theorem hide_out {H : Hp} {as : List Addr} {b : Addr} (h : ¬ b ∈ as) : hide H as b = H b := if_neg h
theorem same_hide {H H' : Hp} {as : List Addr} (s : Same H H') (f : ∀ x ∈ as, H x = none) : Same H (hide H' as) := fun b x e => by
  rw [hide_out fun z => by rw [f b z] at e; cases e]
  exact s b x e
theorem zip_keysO {ks : List Str} {ls : List (List Int)} (h : ls.length = ks.length) : (ks.zip ls).map (·.1) = ks := by
  rw [List.map_fst_zip]
  omega
theorem find_zip {sc : Sch} (hg : sc.good) {ls : List (List Int)} (hl : ls.length = sc.ss.length) {j : Nat} {s : Srt} {l : List Int} (h1 : sc.ss[j]? = some s) (h2 : ls[j]? = some l) : findO (sc.names.zip ls) s.nm = some l := by
  have ln : ls.length = sc.names.length := by rw [Sch.names, List.length_map]; exact hl
  refine find_key (p := (s.nm, l)) (by rw [zip_keysO ln]; exact hg.n1) (List.mem_of_getElem? (i := j) ?_)
  rw [List.getElem?_zip_eq_some]
  exact ⟨by rw [Sch.names, List.getElem?_map, h1]; rfl, h2⟩
theorem bad_zip {sc : Sch} (hg : sc.good) {rs : List Row} {ls : List (List Int)} (hl : ls.length = sc.ss.length) (h : ∀ (j : Nat) (s : Srt) (l : List Int), sc.ss[j]? = some s → ls[j]? = some l → fitB rs s l = true) : badLay sc rs (sc.names.zip ls) = none := by
  unfold badLay
  rw [List.find?_eq_none.mpr fun s hs => ?_]
  · rfl
  obtain ⟨j, hj⟩ := List.getElem?_of_mem hs
  have hlj : ls[j]? = some (ls[j]'(by rw [hl]; exact (List.getElem?_eq_some_iff.mp hj).1)) := List.getElem?_eq_getElem _
  rw [fits_some (find_zip hg hl hj hlj), h j s _ hj hlj]
  exact Bool.false_ne_true
theorem ls_zip {sc : Sch} (hg : sc.good) {ls : List (List Int)} (hl : ls.length = sc.ss.length) : lsOf sc.ss (sc.names.zip ls) = ls := by
  refine List.ext_getElem? fun j => ?_
  rw [lsOf, List.getElem?_map]
  cases hs : sc.ss[j]? with
  | none =>
    have := List.getElem?_eq_none_iff.mp hs
    rw [List.getElem?_eq_none (by omega)]
    rfl
  | some s =>
    have hlj : ls[j]? = some (ls[j]'(by rw [hl]; exact (List.getElem?_eq_some_iff.mp hs).1)) := List.getElem?_eq_getElem _
    show some ((findO (sc.names.zip ls) s.nm).getD []) = _
    rw [find_zip hg hl hs hlj, hlj]
    rfl
theorem zip_lens {sc : Sch} {rs : List Row} {ls : List (List Int)} (hl : ls.length = sc.ss.length) (h : ∀ (j : Nat) (s : Srt) (l : List Int), sc.ss[j]? = some s → ls[j]? = some l → fitB rs s l = true) : ∀ q ∈ sc.names.zip ls, q.2.length = rs.length := fun q hq => by
  obtain ⟨j, hj⟩ := List.getElem?_of_mem hq
  rw [List.getElem?_zip_eq_some] at hj
  obtain ⟨h1, h2⟩ := hj
  rw [Sch.names, List.getElem?_map] at h1
  obtain ⟨s, hs, _⟩ := Option.map_eq_some_iff.mp h1
  exact (of_decide_eq_true (Bool.and_eq_true_iff.mp (h j s q.2 hs h2)).1).1
theorem ord_fresh {H H' : Hp} {o d c r : Addr} {os : List (Str × List Int)} {as : List Addr} (D : Drw H d c r) (h : OrdAt H o os as) (nd : ¬ d ∈ as) (nr : ¬ r ∈ as) (E : Ext d r H H') : OrdAt H' o os as := ordX h (ord_dr D h).1 (ord_dr D h).2.1 nd nr E
theorem drw_not {H : Hp} {d c r : Addr} {as : List Addr} (D : Drw H d c r) (h : ∀ x ∈ as, H x = none) : ¬ d ∈ as ∧ ¬ r ∈ as := by
  obtain ⟨_, _, _, _, _, _, g1, _, g3, _⟩ := D
  exact ⟨fun z => (by rw [h d z] at g1; cases g1), fun z => (by rw [h r z] at g3; cases g3)⟩

theorem hu_in {A : Around} {k : Nat} (hr : Room k A) : A.units + 65 < cLine := by have := hr.un; omega
/-! places, groups and keys along a list -/
def plI (l : List Int) (x : Int) : Int := ((l.idxOf x : Nat) : Int)
def alL (rs : List Row) (s : Srt) (l : List Int) : List (List Int) := alongL (rs.map (seatL s)) l
def grI (rs : List Row) (s : Srt) (l : List Int) (x : Int) : Int := rankAt (alL rs s l) (l.idxOf x)
def kyI (rs : List Row) (s : Srt) (x : Int) : Int := keyI s (rs.getD x.toNat [])
def haI (rs : List Row) (s : Srt) (x : Int) : Int := hallI s (rs.getD x.toNat [])
theorem rank_mono (al : List (List Int)) : ∀ (m i : Nat), rankAt al i ≤ rankAt al (i + m)
  | 0, i => Int.le_refl _
  | m + 1, i => by
    have h := rank_mono al m i
    show _ ≤ rankAt al (i + m) + if al[i + m + 1]? = al[i + m]? then 0 else 1
    split <;> omega
theorem sortB_step : ∀ {l : List (List Int)} {i : Nat} {a b : List Int}, sortB l = true → l[i]? = some a → l[i + 1]? = some b → leL a b = true
  | x :: y :: r, 0, a, b, h, e1, e2 => by
    cases e1
    cases e2
    exact (Bool.and_eq_true_iff.mp (show (leL x y && sortB (y :: r)) = true from h)).1
  | x :: y :: r, i + 1, a, b, h, e1, e2 => sortB_step (l := y :: r) (i := i) (Bool.and_eq_true_iff.mp (show (leL x y && sortB (y :: r)) = true from h)).2 e1 e2
  | [x], 0, _, _, _, _, e => by cases e
  | [x], i + 1, _, _, _, e, _ => by cases e
  | [], _, _, _, _, e, _ => by cases e
theorem le_two {a b c d : Int} (h : leL [a, b] [c, d] = true) : a < c ∨ (a = c ∧ b ≤ d) := by
  have h : (!(if c = a then (if d = b then false else decide (d < b)) else decide (c < a))) = true := h
  by_cases e1 : c = a
  · rw [if_pos e1] at h
    by_cases e2 : d = b
    · exact .inr ⟨e1.symm, by omega⟩
    · rw [if_neg e2] at h
      have z : ¬ d < b := of_decide_eq_false (by cases hh : decide (d < b) <;> simp_all)
      exact .inr ⟨e1.symm, by omega⟩
  · rw [if_neg e1] at h
    have z : ¬ c < a := of_decide_eq_false (by cases hh : decide (c < a) <;> simp_all)
    exact .inl (by omega)
/-- along a sorted list -/
theorem rank_keys {al : List (List Int)} (h : sortB al = true) (h2 : ∀ x ∈ al, x.length = 2) {i : Nat} {a b : Int} (hi : al[i]? = some [a, b]) : ∀ {m : Nat} {c d : Int}, al[i + m]? = some [c, d] → a ≤ c ∧ (a = c → rankAt al (i + m) - rankAt al i ≤ m ∧ rankAt al (i + m) - rankAt al i ≤ d - b ∧ (rankAt al (i + m) = rankAt al i → d = b))
  | 0, c, d, e => by
    have e : al[i]? = some [c, d] := e
    rw [hi] at e
    cases e
    refine ⟨Int.le_refl _, fun _ => ⟨?_, ?_, fun _ => rfl⟩⟩
    · show rankAt al i - rankAt al i ≤ ((0 : Nat) : Int)
      omega
    · show rankAt al i - rankAt al i ≤ b - b
      omega
  | m + 1, c, d, e => by
    have hl := (List.getElem?_eq_some_iff.mp e).1
    have em : al[i + m]? = some (al[i + m]'(by omega)) := List.getElem?_eq_getElem _
    obtain ⟨p, q, epq⟩ := two_of (h2 _ (List.mem_of_getElem? em))
    rw [epq] at em
    obtain ⟨z1, z2⟩ := rank_keys h h2 hi em
    have st := le_two (sortB_step h em e)
    have rm := rank_mono al m i
    refine ⟨by omega, fun ac => ?_⟩
    obtain ⟨w1, w2, w3⟩ := z2 (by omega)
    have er : rankAt al (i + (m + 1)) = rankAt al (i + m) + if al[i + m + 1]? = al[i + m]? then 0 else 1 := rfl
    by_cases eq : al[i + m + 1]? = al[i + m]?
    · rw [if_pos eq] at er
      rw [em, show al[i + m + 1]? = _ from e] at eq
      injection eq with eq
      injection eq with eq1 eq2
      injection eq2 with eq2
      refine ⟨by omega, by omega, fun z => ?_⟩
      have := w3 (by omega)
      omega
    · rw [if_neg eq] at er
      rw [em, show al[i + m + 1]? = _ from e] at eq
      have : ¬ d = q := fun z => eq (by rw [z, show c = p by omega])
      refine ⟨by omega, by omega, fun z => ?_⟩
      omega
section
variable {rs : List Row} {s : Srt} {l : List Int}
theorem fit_num (h : fitB rs s l = true) : isNumB l rs.length = true := (Bool.and_eq_true_iff.mp h).1
theorem fit_sort (h : fitB rs s l = true) : sortB (alL rs s l) = true := (Bool.and_eq_true_iff.mp h).2
theorem al_two (h : fitB rs s l = true) : ∀ x ∈ alL rs s l, x.length = 2 := fun x hx => by
  obtain ⟨i, hi, rfl⟩ := List.mem_map.mp hx
  obtain ⟨_, n2, _⟩ := of_decide_eq_true (fit_num h)
  have b := n2 i hi
  have hl : i.toNat < (rs.map (seatL s)).length := by rw [List.length_map]; omega
  obtain ⟨r, _, e⟩ := List.mem_map.mp (getD_mem (d := []) hl)
  rw [← e]
  rfl
theorem al_at (h : fitB rs s l = true) {j : Nat} {x : Int} (hx : l[j]? = some x) : (alL rs s l)[j]? = some [haI rs s x, kyI rs s x] := by
  obtain ⟨_, n2, _⟩ := of_decide_eq_true (fit_num h)
  have b := n2 x (List.mem_of_getElem? hx)
  have hl : x.toNat < rs.length := by omega
  show (l.map fun i => (rs.map (seatL s)).getD i.toNat [])[j]? = _
  rw [List.getElem?_map, hx]
  show some ((rs.map (seatL s)).getD x.toNat []) = some [hallI s (rs.getD x.toNat []), keyI s (rs.getD x.toNat [])]
  rw [List.getD_eq_getElem?_getD, List.getElem?_map, List.getD_eq_getElem?_getD, List.getElem?_eq_getElem hl]
  rfl
theorem fit_in (h : fitB rs s l = true) {x : Int} (h0 : 0 ≤ x) (h1 : x < rs.length) : l[l.idxOf x]? = some x := by
  have hm := num_surj (fit_num h) (i := x.toNat) (by omega)
  rw [Int.toNat_of_nonneg h0] at hm
  have hl := List.idxOf_lt_length_of_mem hm
  rw [List.getElem?_eq_getElem hl, List.getElem_idxOf hl]
/-- two rows of one part have a possible offset -/
theorem lay_poss (h : fitB rs s l = true) {x y : Int} (x0 : 0 ≤ x) (x1 : x < rs.length) (y0 : 0 ≤ y) (y1 : y < rs.length) (e : haI rs s x = haI rs s y) : possB (plI l y - plI l x) (grI rs s l y - grI rs s l x) (kyI rs s y - kyI rs s x) = true := by
  have ax := al_at h (fit_in h x0 x1)
  have ay := al_at h (fit_in h y0 y1)
  unfold possB plI grI
  refine decide_eq_true ?_
  rcases Nat.le_total (l.idxOf x) (l.idxOf y) with c | c
  · obtain ⟨m, hm⟩ := Nat.le.dest c
    rw [← hm] at ay ⊢
    obtain ⟨_, z⟩ := rank_keys (fit_sort h) (al_two h) ax ay
    obtain ⟨z1, z2, z3⟩ := z e
    have rm := rank_mono (alL rs s l) m (l.idxOf x)
    omega
  · obtain ⟨m, hm⟩ := Nat.le.dest c
    rw [← hm] at ax ⊢
    obtain ⟨_, z⟩ := rank_keys (fit_sort h) (al_two h) ay ax
    obtain ⟨z1, z2, z3⟩ := z e.symm
    have rm := rank_mono (alL rs s l) m (l.idxOf y)
    omega
theorem same_place (h : fitB rs s l = true) {x y : Int} (x0 : 0 ≤ x) (x1 : x < rs.length) (y0 : 0 ≤ y) (y1 : y < rs.length) : plI l y - plI l x = 0 ↔ x = y := by
  have ax := fit_in h x0 x1
  have ay := fit_in h y0 y1
  unfold plI
  constructor
  · intro e
    rw [show l.idxOf y = l.idxOf x by omega, ax] at ay
    exact Option.some.inj ay
  · intro e
    rw [e]
    omega
end
def inRg (n : Nat) (x : Int) : Bool := decide (0 ≤ x ∧ x < n)
def badNum (n : Nat) (x y : Int) : Option Int := if inRg n x = false then some x else if inRg n y = false then some y else none
def spInsp (K : PySem.W.Frag) (CL CT CC CS CN : Addr) : Sp := fun vs H Q E => ∃ (y : Addr) (sc : Sch) (rs : List Row) (ls : List (List Int)) (ow : List Addr) (a b : Int), vs = [.ref y, .int a, .int b] ∧ LayAt K CL CT CC CS H y sc rs ls ow ∧ rs.length ≤ 1000 ∧
  (∀ k, badNum rs.length a b = some k → ∀ (d : Addr) (H' : Hp), H d = none → H' d = some (.xd [("number", .int k)]) → Same H H' → E (.ref CN) (some d) H') ∧ (badNum rs.length a b = none → ∀ H', Same H H' → Q .non H')
def spLayOff (K : PySem.W.Frag) (CL CT CC CS CN CU CO : Addr) : Sp := fun vs H Q E => ∃ (y : Addr) (sc : Sch) (rs : List Row) (ls : List (List Int)) (ow : List Addr) (w : Str) (a b : Int), vs = [.ref y, .str w, .int a, .int b] ∧ LayAt K CL CT CC CS H y sc rs ls ow ∧ sc.good ∧ rs.length ≤ 1000 ∧
  (findS sc w = none → ∀ (d : Addr) (H' : Hp), H d = none → H' d = some (.xd [("name", .str w)]) → Same H H' → E (.ref CU) (some d) H') ∧
  (∀ s k, findS sc w = some s → badNum rs.length a b = some k → ∀ (d : Addr) (H' : Hp), H d = none → H' d = some (.xd [("number", .int k)]) → Same H H' → E (.ref CN) (some d) H') ∧
  (∀ (j : Nat) (s : Srt) (l : List Int), sc.ss[j]? = some s → s.nm = w → ls[j]? = some l → badNum rs.length a b = none → fitB rs s l = true →
    (¬ haI rs s a = haI rs s b → ∀ H', Same H H' → Q .non H') ∧
    (haI rs s a = haI rs s b → ∀ x H', H x = none → Same H H' → OffAt CO H' x (plI l b - plI l a) (grI rs s l b - grI rs s l a) (kyI rs s b - kyI rs s a) → Q (.ref x) H'))
theorem num_none {n : Nat} {a b : Int} (h : badNum n a b = none) : (0 ≤ a ∧ a < n) ∧ 0 ≤ b ∧ b < n := by
  unfold badNum at h
  by_cases c1 : inRg n a = false
  · rw [if_pos c1] at h; cases h
  · rw [if_neg c1] at h
    by_cases c2 : inRg n b = false
    · rw [if_pos c2] at h; cases h
    · exact ⟨of_decide_eq_true (by rw [Bool.not_eq_false] at c1; exact c1), of_decide_eq_true (by rw [Bool.not_eq_false] at c2; exact c2)⟩
theorem num_of {n : Nat} {a b : Int} (h1 : 0 ≤ a ∧ a < n) (h2 : 0 ≤ b ∧ b < n) : badNum n a b = none := by
  unfold badNum inRg
  rw [decide_eq_true h1, decide_eq_true h2]
  rfl
section
variable {P : Program} {w : World} {K : PySem.W.Frag} {mg : Str → Option Value} {base : Heap}

theorem ok_Lay_inspect_rows (T : Txt K mg) : FnOk P w K mg base (L2.CX P w) 3 T.f_Lay_inspect_rows T.d_Lay_inspect_rows ["self", "row", "other"] (spInsp K T.C_Lay T.C_Table T.C_Scheme T.C_Sort T.C_BadNumber) := by
  refine T.F_Lay_inspect_rows.okX sc_Lay_inspect_rows (fun vs H Q E h => ?_) (fun cdv A outer s H vs Q E hr h => ?_)
  · obtain ⟨y, sc, rs, ls, ow, a, b, rfl, _⟩ := h
    rfl
  obtain ⟨y, sc, rs, ls, ow, a, b, rfl, o, lz, qE, q⟩ := h
  refine ⟨_, (pss_one (ps_for (passes_of rfl) rfl (pi_tup (pe_tup (pa_cons (pv 1) (pa_cons (pv 2) pa_nil)))) (pg_name (i := 3) sc_Lay_inspect_rows.nd rfl (by first | exact Or.inl rfl | exact Or.inr rfl)) (pss_one (ps_if (pt_not (pt_chain op_le op_lt pe_int (pv 3) (pe_callB (DQ.call_lenO T.mt_Table___len__.at_ T.mt_Table___len__.fn (ok_Table___len__ T) (hr.mono (by decide)) T.b_Table___len__ pass0) (by rfl) T.z_len (by decide +kernel) (pa_cons (pe_fldK (K := K) (pv 0)) pa_nil)))) (pss_one (ps_raise rfl (takes_of rfl rfl rfl rfl) (pmk_oex T.ox_BadNumber T.iC_BadNumber T.tI_BadNumber (ok_BadNumber___init__ T) (hr.mono (by decide)) T.b_BadNumber___init__ .nil pass0 (by rfl) T.g_BadNumber (pa_cons (pv 3) pa_nil)))) pss_nil)))), ?_⟩
  try simp only [nox_K, cx_K]
  obtain ⟨t, od, se, sp, ra, p, al, as, oa, sea, spa, raa, rks, X, _⟩ := o
  obtain ⟨dx, e⟩ := X.ins
  obtain ⟨dt, et⟩ := X.tbl.ins
  wtm_at "rd"
  refine r_for (r_it ?_)
  wtm_at "rd"
  refine r_new rfl fun tt n_tt => ?_
  generalize eq_tt : upd _ tt _ = H1
  have s_tt : Same _ H1 := eq_tt ▸ same_new n_tt
  have h_tt : H1 tt = some _ := eq_tt ▸ upd_same
  clear eq_tt
  refine r_itt (SqT.of h_tt) ?_
  refine for_tup (K := K) (a := tt) (xs := [.int a, .int b]) (fun i σ H' => ∃ (x3 : Option V), σ = [some (.ref y), some (.int a), some (.int b), x3] ∧ Same H H' ∧ Same H1 H' ∧ (1 ≤ i → inRg rs.length a = true) ∧ (2 ≤ i → inRg rs.length b = true)) ⟨_, rfl, s_tt, Same.refl _, fun z => absurd z (by decide), fun z => absurd z (by decide)⟩ (fun i σ H' _ ⟨_, _, _, s, _⟩ => SqT.of (s _ _ h_tt)) ?_ ?_
  · rintro i v σ H2 hv ⟨x3, rfl, s2, s3, hd1, hd2⟩
    have hi : i < 2 := (List.getElem?_eq_some_iff.mp hv).1
    obtain ⟨k, rfl, h1, h2⟩ : ∃ k : Int, v = .int k ∧ (inRg rs.length k = false → badNum rs.length a b = some k) ∧ (inRg rs.length k = true → (1 ≤ i + 1 → inRg rs.length a = true) ∧ (2 ≤ i + 1 → inRg rs.length b = true)) := by
      obtain e1 | e1 : i = 0 ∨ i = 1 := by omega
      · subst e1
        cases hv
        exact ⟨a, rfl, fun z => by unfold badNum; rw [if_pos z], fun z => ⟨fun _ => z, fun z => absurd z (by decide)⟩⟩
      · subst e1
        cases hv
        have ha := hd1 (by decide)
        exact ⟨b, rfl, fun z => by unfold badNum; rw [if_neg (by rw [ha]; exact fun z => nomatch z), if_pos z], fun z => ⟨fun _ => ha, fun _ => z⟩⟩
    have er : inRg rs.length k = false → ∀ (d : Addr) (H' : Hp), H2 d = none → H' d = some (.xd [("number", .int k)]) → Same H2 H' → E (.ref T.C_BadNumber) (some d) H' := fun z d H' nd hd s => qE k (h1 z) d H' (s2.free nd) hd (s2.trans s)
    wtm_at "rd"
    refine r_ite (fun c1 => ?_) (fun c1 => ?_)
    · wtm_at "rd"
      refine r_get (s2 _ _ e) T.c_Lay T.nf_Lay_table (lay_table _ _ _ _ _) ?_
      wtm_at "rd"
      refine ⟨t, _, _, rfl, s2 _ _ et, t, sc, rs, p, al, as, rfl, X.tbl.same s2, rs.length, rfl, by omega, ?_⟩
      wtm_at "rd"
      refine r_iten (fun c2 => ?_) (fun c2 => ?_)
      · wtm_at "rd"
        exact ⟨.int k, rfl, Nat.le_of_ble_eq_true rfl, raise_num (er (decide_eq_false fun z => c2 z.2))⟩
      · wtm_at "rd"
        obtain ⟨z1, z2⟩ := h2 (decide_eq_true ⟨c1, c2⟩)
        exact ⟨_, rfl, s2, s3, z1, z2⟩
    · wtm_at "rdi"
      exact ⟨.int k, rfl, Nat.le_of_ble_eq_true rfl, raise_num (er (decide_eq_false fun z => c1 z.1))⟩
  · rintro σ H2 ⟨x3, rfl, s2, s3, hd1, hd2⟩
    wtm_at "rd"
    exact q (num_of (of_decide_eq_true (hd1 (Nat.le_of_ble_eq_true rfl))) (of_decide_eq_true (hd2 (Nat.le_of_ble_eq_true rfl)))) _ s2
theorem ok_Lay_offset (T : Txt K mg) : FnOk P w K mg base (L2.CX P w) 6 T.f_Lay_offset T.d_Lay_offset ["self", "sort", "row", "other"] (spLayOff K T.C_Lay T.C_Table T.C_Scheme T.C_Sort T.C_BadNumber T.C_UnknownSort T.C_Offset) := by
  refine T.F_Lay_offset.okX sc_Lay_offset (fun vs H Q E h => ?_) (fun cdv A outer s H vs Q E hr h => ?_)
  · obtain ⟨y, sc, rs, ls, ow, w, a, b, rfl, _⟩ := h
    rfl
  obtain ⟨y, sc, rs, ls, ow, w, a, b, rfl, o, hg, lz, qU, qN, q⟩ := h
  refine ⟨_, (pss_cons (ps_expr (pe_meth (pe_fldK (K := K) (pe_fldK (K := K) (pv 0))) T.c_Scheme T.mt_Scheme_sort_named (ok_Scheme_sort_named T) (hr.mono (by decide)) T.b_Scheme_sort_named .nil (passes_call (takes_of rfl rfl rfl rfl) fun _ _ _ _ h => h) (pa_cons (pv 1) pa_nil)))
      (pss_cons (ps_expr (pe_meth (pv 0) T.c_Lay T.mt_Lay_inspect_rows (ok_Lay_inspect_rows T) (hr.mono (by decide)) T.b_Lay_inspect_rows .nil (passes_call (takes_of rfl rfl rfl rfl) fun _ _ _ _ h => h) (pa_cons (pv 2) (pa_cons (pv 3) pa_nil))))
      (pss_cons (ps_set (i := 4) sc_Lay_offset.nd rfl (by first | exact Or.inl rfl | exact Or.inr rfl) (pe_dget (hu_of hr) (pe_fldK (K := K) (pv 0)) (pv 1) (fun _ _ => rfl)))
      (pss_cons (ps_if (pt_cmpR op_ne (pe_ix (r := rIxT K) ix_tup (pe_ix (r := rIxL K) ix_list (pv 4) (pv 2) (fun _ _ => rfl)) pe_int (fun _ _ => rfl)) (pe_ix (r := rIxT K) ix_tup (pe_ix (r := rIxL K) ix_list (pv 4) (pv 3) (fun _ _ => rfl)) pe_int (fun _ _ => rfl)) (nomark _)) (pss_one (ps_ret pe_non)) pss_nil)
      (pss_cons (ps_set (i := 5) sc_Lay_offset.nd rfl (by first | exact Or.inl rfl | exact Or.inr rfl) (pe_dget (hu_of hr) (pe_fldK (K := K) (pv 0)) (pv 1) (fun _ _ => rfl)))
      (pss_cons (ps_set (i := 6) sc_Lay_offset.nd rfl (by first | exact Or.inl rfl | exact Or.inr rfl) (pe_dget (hu_of hr) (pe_fldK (K := K) (pv 0)) (pv 1) (fun _ _ => rfl)))
      (pss_one (ps_ret (pe_make T.m_Offset (ok_Offset___init__ T) (hr.mono (by decide)) (by rfl) T.g_Offset T.b_Offset___init__ .nil (passes_call (takes_of rfl rfl rfl rfl) fun _ _ _ _ h => h) (pa_cons (pe_op op_sub (pe_ix (r := rIxL K) ix_list (pv 5) (pv 3) (fun _ _ => rfl)) (pe_ix (r := rIxL K) ix_list (pv 5) (pv 2) (fun _ _ => rfl))) (pa_cons (pe_op op_sub (pe_ix (r := rIxL K) ix_list (pv 6) (pv 3) (fun _ _ => rfl)) (pe_ix (r := rIxL K) ix_list (pv 6) (pv 2) (fun _ _ => rfl))) (pa_cons (pe_op op_sub (pe_ix (r := rIxT K) ix_tup (pe_ix (r := rIxL K) ix_list (pv 4) (pv 3) (fun _ _ => rfl)) pe_int (fun _ _ => rfl)) (pe_ix (r := rIxT K) ix_tup (pe_ix (r := rIxL K) ix_list (pv 4) (pv 2) (fun _ _ => rfl)) pe_int (fun _ _ => rfl))) pa_nil)))))))))))), ?_⟩
  try simp only [nox_K, cx_K]
  have o0 := o
  obtain ⟨t, od, se, sp, ra, p, al, as, oa, sea, spa, raa, rks, X, _⟩ := o
  obtain ⟨dx, e⟩ := X.ins
  obtain ⟨dt, et⟩ := X.tbl.ins
  wtm_at "rd"
  refine r_get e T.c_Lay T.nf_Lay_table (lay_table _ _ _ _ _) ?_
  wtm_at "rd"
  refine r_get et T.c_Table T.nf_Table_scheme (tbl_scheme _ _) ?_
  refine sch_who X.tbl.sch (by decide +kernel) (by decide +kernel) (by decide +kernel) (by decide +kernel) ?_
  wtm_at "rd"
  refine ⟨p, sc, w, rfl, X.tbl.sch, fun hn d H1 nd hd s1 => qU hn d H1 nd hd s1, fun x hx ax hax => ?_⟩
  wtm_at "rd"
  refine lay_who o0 (by decide +kernel) (by decide +kernel) (by decide +kernel) (by decide +kernel) (by decide +kernel) ?_
  wtm_at "rd"
  refine ⟨y, sc, rs, ls, ow, a, b, rfl, o0, lz, fun k hk d H1 nd hd s1 => qN x k hx hk d H1 nd hd s1, fun hn H1 s1 => ?_⟩
  have hm := List.mem_of_find?_eq_some (show sc.ss.find? (fun s => decide (s.nm = w)) = some x from hx)
  have hw : x.nm = w := of_decide_eq_true (List.find?_some (p := fun s : Srt => decide (s.nm = w)) (show sc.ss.find? (fun s => decide (s.nm = w)) = some x from hx))
  obtain ⟨j, hj⟩ := List.getElem?_of_mem hm
  have hk : sc.names[j]? = some w := by rw [Sch.names, List.getElem?_map, hj, ← hw]; rfl
  have hl : ls[j]? = some (ls[j]'(by rw [← X.od.at_.len, X.od.l]; exact (List.getElem?_eq_some_iff.mp hk).1)) := List.getElem?_eq_getElem _
  generalize ls[j]'(by rw [← X.od.at_.len, X.od.l]; exact (List.getElem?_eq_some_iff.mp hk).1) = l at hl
  have hfit := X.fit j x l hj hl
  have hrk : rks[j]? = some (rks[j]'(by rw [X.rk.1]; exact (List.getElem?_eq_some_iff.mp hj).1)) := List.getElem?_eq_getElem _
  generalize rks[j]'(by rw [X.rk.1]; exact (List.getElem?_eq_some_iff.mp hj).1) = rk at hrk
  have hrko := X.rk.2 j x l rk hj hl hrk
  obtain ⟨⟨a0, a1⟩, b0, b1⟩ := num_none hn
  obtain ⟨qn, qs⟩ := q j x l hj hw hl hn hfit
  obtain ⟨sa, gs, _, ps⟩ := X.sd.get hg.n1 hk (show (sc.ss.map fun s => rs.map (seatL s))[j]? = some (rs.map (seatL x)) by rw [List.getElem?_map, hj]; rfl)
  obtain ⟨pa, gp, _, pp⟩ := X.pd.get hg.n1 hk (show (ls.map spotL)[j]? = some (spotL l) by rw [List.getElem?_map, hl]; rfl)
  obtain ⟨ka, gk, _, pk⟩ := X.rd.get hg.n1 hk hrk
  have ps : SeatsAt H1 sa (rs.map (seatL x)) := SeatsAt.same ps s1
  have pp : H1 pa = some (.lst ((spotL l).map V.int)) := s1 _ _ pp
  have pk : H1 ka = some (.lst (rk.map V.int)) := s1 _ _ pk
  obtain ⟨us, ua, e1, ea, eu⟩ := ps.at_ a0 (by rw [List.length_map]; exact a1)
  obtain ⟨us2, ub, e2, eb, ev⟩ := ps.at_ b0 (by rw [List.length_map]; exact b1)
  rw [e1] at e2
  cases e2
  have seat : ∀ {z : Int}, 0 ≤ z → z < rs.length → ((rs.map (seatL x)).getD z.toNat []).map V.int = [V.int (haI rs x z), V.int (kyI rs x z)] := fun {z} z0 z1 => by
    have hl : z.toNat < rs.length := by omega
    unfold haI kyI
    rw [List.getD_eq_getElem?_getD, List.getElem?_map, List.getD_eq_getElem?_getD, List.getElem?_eq_getElem hl]
    rfl
  rw [seat a0 a1] at eu
  rw [seat b0 b1] at ev
  have spat : ∀ {z : Int}, 0 ≤ z → z < rs.length → atI ((spotL l).map V.int) z = some (.int (plI l z)) := fun {z} z0 z1 => atI_at z0 (by rw [List.getElem?_map, spot_at (fit_num hfit) (fit_in hfit z0 z1)]; rfl)
  have rkat : ∀ {z : Int}, 0 ≤ z → z < rs.length → atI (rk.map V.int) z = some (.int (grI rs x l z)) := fun {z} z0 z1 => atI_at z0 (by rw [List.getElem?_map, hrko.at_ _ _ (fit_in hfit z0 z1)]; rfl)
  wtm_at "rd"
  refine r_get (s1 _ _ e) T.c_Lay T.nf_Lay_seats (lay_seats _ _ _ _ _) ?_
  wtm_at "rd"
  refine r_getR (s1 _ _ X.sd.d) gs ?_
  wtm_at "rd"
  refine r_ixL (SqL.of e1) ea ?_
  wtm_at "rd"
  refine r_ixL (SqL.of e1) eb ?_
  wtm_at "rd"
  refine r_iten (fun c => ?_) (fun c => ?_)
  · wtm_at "rd"
    exact qn c _ s1
  wtm_at "rd"
  refine r_get (s1 _ _ e) T.c_Lay T.nf_Lay_spots (lay_spots _ _ _ _ _) ?_
  wtm_at "rd"
  refine r_getR (s1 _ _ X.pd.d) gp ?_
  wtm_at "rd"
  refine r_get (s1 _ _ e) T.c_Lay T.nf_Lay_ranks (lay_ranks _ _ _ _ _) ?_
  wtm_at "rd"
  refine r_getR (s1 _ _ X.rd.d) gk ?_
  wtm_at "rd"
  refine r_ixL (SqL.of pp) (spat b0 b1) ?_
  wtm_at "rd"
  refine r_ixL (SqL.of pp) (spat a0 a1) ?_
  wtm_at "rd"
  refine r_ixL (SqL.of pk) (rkat b0 b1) ?_
  wtm_at "rd"
  refine r_ixL (SqL.of pk) (rkat a0 a1) ?_
  wtm_at "rd"
  refine r_ixL (SqL.of e1) eb ?_
  wtm_at "rd"
  refine r_ixL (SqL.of e1) ea ?_
  wtm_at "rd"
  exact make_offF (lay_poss hfit a0 a1 b0 b1 c) fun v H2 nv s2 ho => qs c v H2 (s1.free nv) (s1.trans s2) ho
end
/-! ### sorted(d) of a dict whose keys are tuples of ints of one length -/
namespace SrD
open PySem PySem.Spec PyProof.Rows L2
def intOf : V → Int
  | .int i => i
  | _ => 0
/-- the ints of a tracked tuple -/
def kI (H : Hp) (v : Value) : List Int := match v with
  | .ref b => (match H b with | some (.tup vs) => vs.map intOf | _ => [])
  | _ => []
theorem map_intOf : ∀ (k : List Int), (k.map V.int).map intOf = k
  | [] => rfl
  | x :: k => by
    show x :: (k.map V.int).map intOf = x :: k
    rw [map_intOf k]
theorem kI_at {H : Hp} {b : Addr} {k : List Int} (h : H b = some (.tup (k.map V.int))) : kI H (.ref b) = k := by
  show (match H b with | some (.tup vs) => vs.map intOf | _ => []) = k
  rw [h]
  exact map_intOf k
theorem pget {α β : Type} {F : α → β → Prop} : ∀ {l₁ : List α} {l₂ : List β} {j : Nat} {x : β}, Paired F l₁ l₂ → l₂[j]? = some x → ∃ y, l₁[j]? = some y ∧ F y x
  | _, _, j, x, .nil, h => by cases h
  | _, _, 0, x, .cons f _, h => by
    cases h
    exact ⟨_, rfl, f⟩
  | _, _, j + 1, x, .cons _ t, h => pget (j := j) t h
def rSortedDT : List V → Hp → VK → Prop := fun vs H Q => ∃ (a : Addr) (kvs : List (List L2.Key × V)) (ks : List (List Int)) (d : Nat), vs = [.ref a] ∧ H a = some (.dT kvs) ∧ kvs.map (·.1) = ks.map (fun k => k.map Sum.inl) ∧ 1 ≤ d ∧ (∀ k ∈ ks, k.length = d) ∧
  ∀ (as : List Addr) (ys : List (List Int)) (p : Addr), as.length = ys.length → (∀ (j : Nat) (b : Addr) (y : List Int), as[j]? = some b → ys[j]? = some y → H b = some (.tup (y.map V.int))) → ys.Perm ks → ys.Pairwise (fun x y => SrT.lexL y x = false) → H p = none → Q (.ref p) (upd H p (.lst (as.map V.ref)))
theorem kV_ints (k : List Int) : ((k.map (Sum.inl : Int → L2.Key)).map kV) = k.map V.int := by
  rw [List.map_map]
  rfl
section
variable {X : Cx}
theorem cr_sortedDT (hcalm : X.calm = true) : CallR X (.builtin "sorted") rSortedDT := by
  intro pins s σ H vs us Q I r h
  obtain ⟨a, kvs, ks, d, rfl, ha, hk, hd1, hlen, q⟩ := h
  obtain ⟨u, rfl, rx⟩ := vals1 r
  cases rx
  obtain ⟨z, hdm, xs, rel, o, es, ep, ho, hx, hdat, hes, his, hn⟩ := dt_of I.hok ha
  have l1 : kvs.length = xs.length := Paired.length rel
  have l2 : es.size = xs.length := size_of_entries hes
  have l3 : kvs.length = ks.length := by
    have e := congrArg List.length hk
    rw [List.length_map, List.length_map] at e
    exact e
  refine Calls.call_function_entry PyProof.Rows.kind_sorted PyProof.Rows.plain_sorted PyProof.Rows.entry_sorted (PyProof.Rows.args_sorted1 _) ?_
  unfold Builtin.«sorted»
  refine wpAny_bind (m := checkCount "sorted" 1 1 _) (wpAny_pure ?_)
  refine wpAny_bind (PySem.W.kdu_collect (A := X.A.in1) (KdlSrc.rawDict (es := es) (ep := ep) hdm) (I.ok.hd hcalm) ⟨o, ho, hx, hdat⟩ (by rw [l2, ← l1]; exact z) fun h' tk acc hk' hacc => ?_)
  have hal : acc.toList.length = ks.length := by rw [Array.length_toList, hacc.1, l2, ← l1, l3]
  -- each collected key is a tracked tuple
  have each : ∀ (j : Nat) (v : Value), acc.toList[j]? = some v → ∃ (b : Addr) (k : List Int), v = .ref b ∧ ks[j]? = some k ∧ H b = some (.tup (k.map V.int)) := by
    intro j v e
    obtain ⟨hi, rfl⟩ := hacc.2 j v (by rw [← Array.getElem?_toList]; exact e)
    have e1 : es[j]? = some es[j] := Array.getElem?_eq_getElem hi
    rw [entry_at hes j] at e1
    cases hxj : xs[j]? with
    | none => rw [hxj] at e1; exact nomatch (show (none : Option DictEntry) = some es[j] from e1)
    | some x =>
      rw [hxj] at e1
      have een : entryOfKey (tupleKind (mixKind X.prog X.w)) x = es[j] := Option.some.inj e1
      obtain ⟨e0, he0, r1, r2, r3⟩ := pget rel hxj
      have e2 : (kvs.map (·.1))[j]? = some e0.1 := by rw [List.getElem?_map, he0]; rfl
      rw [hk, List.getElem?_map] at e2
      cases hkj : ks[j]? with
      | none => rw [hkj] at e2; exact nomatch (show (none : Option (List L2.Key)) = some e0.1 from e2)
      | some k =>
        rw [hkj] at e2
        have e3 : k.map Sum.inl = e0.1 := Option.some.inj e2
        refine ⟨x.2.1, k, ?_, rfl, ?_⟩
        · rw [← een]
          rfl
        · rw [← e3, kV_ints] at r2
          exact r2
  have hp : ∀ v ∈ acc.toList, TS.TupInts s.heap v (kI H v) ∧ (kI H v).length = d := fun v hv => by
    obtain ⟨j, hj⟩ := List.mem_iff_getElem?.mp hv
    obtain ⟨b, k, rfl, hkj, hb⟩ := each j v hj
    rw [kI_at hb]
    obtain ⟨_, its2, r2, o2, ho2, hc2, n2, hd2⟩ := I.hok _ _ hb
    exact ⟨⟨b, _, rfl, ⟨o2, ho2, hc2, n2, hd2⟩, by simpa using ints_are r2⟩, hlen k (List.mem_of_getElem? hkj)⟩
  have I1 : Inv X pins σ H { s with heap := h', toks := tk } := I.kept hk'
  have haz : acc.toList.length ≤ sizeLine := by rw [hal, ← l3]; exact z
  refine wpAny_bind (wpAny_newList ?_ haz)
  have hoL : (h'.push (seqObj "list" acc.toList.toArray 0)).get? h'.objs.size = some (seqObj "list" acc.toList.toArray 0) := Heap.get?_push_size _ rfl
  show wpAny _ _ _ _ _ { s with heap := h'.push (seqObj "list" acc.toList.toArray 0), toks := tk }
  refine wpAny_bind (wpAny_holding (wpAny_call_entry PyProof.Rows.slot_list_sort ⟨_, hoL, rfl⟩ PyProof.Rows.entry_list_sort
    (SrtO.list_sort_ord (s := { s with heap := h'.push (seqObj "list" acc.toList.toArray 0), toks := tk }) (SrT.swoL (kI H)) hoL haz (fun h2 => ?_) fun out hs hb => ⟨_, rfl, ?_⟩) (PyProof.Rows.args_list_sort _)))
  · refine SrT.sortable_tup (s := { s with heap := h'.push (seqObj "list" acc.toList.toArray 0), toks := tk }) (k := kI H) hd1 (by omega) (fun v hv => ⟨(hp v hv).1.keeps fun b o e _ => Heap.get?_push_of_some _ (hk' b o e), (hp v hv).2⟩) fun o e => ?_
    have e' := e.symm.trans hoL
    cases e'
    exact fun c => absurd (Value.type.inj c) (by decide)
  · have refs : ∀ v ∈ out, ∃ b, v = Value.ref b := fun v hv => by
      obtain ⟨j, hj⟩ := List.mem_iff_getElem?.mp (hb.perm.mem_iff.mp hv)
      obtain ⟨b, _, e, _⟩ := each j v hj
      exact ⟨b, e⟩
    obtain ⟨e', he'⟩ := PyProof.Rows.sortedHeap_at (vs := acc.toList) (out := out.toArray) hoL
    have hol : out.length = acc.toList.length := hb.perm.length_eq
    have bk : (out.map backV) = (out.map fun v => match v with | .ref b => b | _ => 0).map V.ref := by
      rw [List.map_map]
      refine List.map_congr_left fun v hv => ?_
      obtain ⟨b, rfl⟩ := refs v hv
      rfl
    refine wpAny_pure ⟨_, rfl, .ref h'.objs.size, upd H h'.objs.size (.lst (out.map backV)), I1.laid (t' := tk) (fun b u e => ?_) (Nat.le_refl _)
      (show ObjOk X.prog X.w _ _ _ (.lst (out.map backV)) from ⟨by rw [List.length_map, hol]; exact haz, out, e', vals_back refs, he'⟩), rfl, ?_⟩
    · have hb : b < h'.objs.size := Heap.lt_size e
      rw [PyProof.Rows.sortedHeap_old (Nat.ne_of_lt hb) (by rw [size_push']; exact Nat.lt_succ_of_lt hb)]
      exact Heap.get?_push_of_some _ e
    · rw [bk]
      refine q _ (out.map (kI H)) _ (by rw [List.length_map, List.length_map]) (fun j b y h1 h2 => ?_) ?_ ?_ (I1.hok.fresh (Nat.le_refl _))
      · rw [List.getElem?_map] at h1 h2
        cases hv : out[j]? with
        | none => rw [hv] at h1; cases h1
        | some v =>
          rw [hv] at h1 h2
          obtain ⟨i, hi⟩ := List.mem_iff_getElem?.mp (hb.perm.mem_iff.mp (List.mem_of_getElem? hv))
          obtain ⟨b', k, rfl, _, hb'⟩ := each i v hi
          have eb : b' = b := Option.some.inj h1
          have ey : kI H (.ref b') = y := Option.some.inj h2
          rw [← ey, kI_at hb', ← eb]
          exact hb'
      · refine (hb.perm.map (kI H)).trans ?_
        rw [show acc.toList.map (kI H) = ks from ?_]
        refine List.ext_getElem? fun j => ?_
        rw [List.getElem?_map]
        cases hv : acc.toList[j]? with
        | none => rw [List.getElem?_eq_none (by rw [← hal]; exact List.getElem?_eq_none_iff.mp hv)]; rfl
        | some v =>
          obtain ⟨b, k, rfl, hkj, hb'⟩ := each j v hv
          rw [hkj]
          show some (kI H (.ref b)) = some k
          rw [kI_at hb']
      · rw [List.pairwise_map]
        exact hs
end
end SrD
/-! ### d.setdefault(k, x) of a dict with tuple keys -/
namespace SdT
open PySem PySem.Spec PyProof.Rows L2
def rSetdT : V → List V → Hp → VK → Prop := fun x xs H Q => ∃ (a : Addr) (kvs : List (List L2.Key × V)) (k : List L2.Key) (b : Addr) (d : V), x = .ref a ∧ xs = [.ref b, d] ∧ H a = some (.dT kvs) ∧ H b = some (.tup (k.map kV)) ∧ kvs.length < sizeLine ∧
  (∀ v, valV kvs k = some v → Q v H) ∧ (valV kvs k = none → Q d (upd H a (.dT (putK kvs k d))))
section
variable {X : Cx}
theorem mt_setdT (hu : X.A.units + 1 < cLine) : MtR X "dict.setdefault" rSetdT := by
  intro pins s σ H x xs v us Q I rx rxs h
  obtain ⟨a, kvs, k, b, d, rfl, rfl, ha, hb, hl, q1, q2⟩ := h
  cases rx
  obtain ⟨u1, u2, rfl, r1, r2⟩ := vals2 rxs
  cases r1
  obtain ⟨z, hd, xs', rel, dd⟩ := dt_of I.hok ha
  have hz : xs'.length ≤ sizeLine := by rw [← Paired.length rel]; exact z
  refine call_setdefault_heap (knd := tupleKind (mixKind X.prog X.w)) (k := k) (xs := xs') (hsz := hz) (tupleKind_room_in1 hu) (key_of I.hok hb) hd dd (fun p hp => ?_) fun hn h' dd' hs => ?_
  · have r := rel.val k
    rw [hp] at r
    cases ev : valV kvs k with
    | none =>
      rw [ev] at r
      exact (show False from r).elim
    | some v0 =>
      rw [ev] at r
      exact ⟨v0, H, I.tok _, r, q1 v0 ev⟩
  · have r := rel.val k
    rw [hn] at r
    cases ev : valV kvs k with
    | some v0 =>
      rw [ev] at r
      exact (show False from r).elim
    | none =>
      obtain ⟨o, es, ep, hq, h2, h3, h4, h5, h6⟩ := dd'
      have hl2 : (putK kvs k d).length ≤ sizeLine := by
        have := length_putK kvs k d
        omega
      have I2 : Inv X pins σ (upd H a (.dT (putK kvs k d))) { s with heap := h', toks := s.toks + (tupleKind (mixKind X.prog X.w)).draws k } :=
        d_write I (by rw [ha]; exact True.intro) hs ⟨o, hq⟩ ⟨hl2, hd, _, (KT.put rel k hb r2).keeps (fun c ys ec => (by rw [upd_ne (ne_of ec ha (fun z => nomatch z))]; exact ec)), o, es, ep, hq, h2, h3, h4, h6⟩
      exact ⟨d, _, I2, r2, q2 ev⟩
end
end SdT
section
variable {σ : L2.St} {H : Hp} {Q : VK} {K : PySem.W.Frag} {ta tb tc te td ty tv : TE} {D : Ends}
theorem r_dnewT (h : ∀ p, H p = none → Q (.ref p) (upd H p (.dT []))) : tDNewT σ H Q := h
theorem r_dgt (h : td σ H fun x H1 => ty σ H1 fun y H2 => ∃ a v, x = .ref a ∧ DGet H2 a y (some v) ∧ Q v H2) : tDGet td ty σ H Q := h
theorem r_dgetT {d t : Addr} {kvs : List (List Key × V)} {k : List Key} {v : V} {F : V → Prop} (e : H d = some (.dT kvs)) (et : H t = some (.tup (k.map kV))) (hv : valV kvs k = some v) (h : F v) : ∃ a v, V.ref d = .ref a ∧ DGet H a (.ref t) (some v) ∧ F v := ⟨d, _, rfl, hv ▸ DGet.t e et, h⟩
end
def keyT (k : List Int) : List Key := k.map Sum.inl
def unT : Key → Int
  | .inl i => i
  | _ => 0
theorem un_keyT : ∀ k : List Int, (keyT k).map unT = k
  | [] => rfl
  | x :: k => by
    show x :: (keyT k).map unT = x :: k
    rw [un_keyT k]
theorem keyT_inj {k k' : List Int} (h : keyT k = keyT k') : k = k' := by rw [← un_keyT k, h, un_keyT k']
/-- the numbers below n of the seats that are k -/
def idxS (ss : List (List Int)) (k : List Int) : Nat → List Int
  | 0 => []
  | n + 1 => idxS ss k n ++ (if ss[n]? = some k then [(n : Int)] else [])
structure GrsOk (ss gs : List (List Int)) : Prop where
  ex : ∃ ys : List (List Int), ys.Pairwise (fun x y => SrT.lexL y x = false) ∧ ys.Nodup ∧ (∀ y, y ∈ ys ↔ y ∈ ss) ∧ gs = ys.map fun y => idxS ss y ss.length
theorem sorted_uq {α : Type} {R : α → α → Prop} (asym : ∀ x y, R x y → R y x → x = y) : ∀ {xs ys : List α}, xs.Pairwise R → ys.Pairwise R → xs.Nodup → ys.Nodup → (∀ z, z ∈ xs ↔ z ∈ ys) → xs = ys
  | [], [], _, _, _, _, _ => rfl
  | [], y :: ys, _, _, _, _, m => nomatch (m y).mpr List.mem_cons_self
  | x :: xs, [], _, _, _, _, m => nomatch (m x).mp List.mem_cons_self
  | x :: xs, y :: ys, h1, h2, n1, n2, m => by
    have e : x = y := by
      rcases List.mem_cons.mp ((m x).mp List.mem_cons_self) with e | hx
      · exact e
      rcases List.mem_cons.mp ((m y).mpr List.mem_cons_self) with e | hy
      · exact e.symm
      exact asym _ _ (List.rel_of_pairwise_cons h1 hy) (List.rel_of_pairwise_cons h2 hx)
    subst e
    rw [List.nodup_cons] at n1 n2
    rw [sorted_uq asym (List.Pairwise.of_cons h1) (List.Pairwise.of_cons h2) n1.2 n2.2 fun z => ⟨fun hz => (List.mem_cons.mp ((m z).mp (List.mem_cons_of_mem _ hz))).resolve_left (fun e => n1.1 (e ▸ hz)), fun hz => (List.mem_cons.mp ((m z).mpr (List.mem_cons_of_mem _ hz))).resolve_left (fun e => n2.1 (e ▸ hz))⟩]
theorem GrsOk.uniq {ss gs gs' : List (List Int)} (h : GrsOk ss gs) (k : GrsOk ss gs') : gs = gs' := by
  obtain ⟨ys, h1, h2, h3, rfl⟩ := h
  obtain ⟨zs, k1, k2, k3, rfl⟩ := k
  rw [sorted_uq (fun x y a b => SrT.lexL_eq b a) h1 k1 h2 k2 fun z => (h3 z).trans (k3 z).symm]
def GrsAt (N : Addr → Prop) (H : Hp) (a : Addr) (gs : List (List Int)) : Prop := N a ∧ ∃ us : List Addr, H a = some (.lst (us.map V.ref)) ∧ All2 (PI H) us gs ∧ ∀ u ∈ us, N u
def spGroups (K : PySem.W.Frag) (CT CC CS : Addr) : Sp := fun vs H Q _ => ∃ (t : Addr) (sc : Sch) (s : Srt) (rs : List Row) (q al : Addr) (as : List Addr), vs = [.ref t, .str s.nm] ∧ TblAt K CT CC CS H t sc rs q al as ∧ sc.good ∧ s ∈ sc.ss ∧ (∀ r ∈ rs, GRow sc r) ∧ rs.length ≤ 100 ∧
  ∀ a gs H', GrsOk (rs.map (seatL s)) gs → GrsAt (fun u => H u = none) H' a gs → Same H H' → Q (.ref a) H'
structure GInv (H H' : Hp) (gd : Addr) (ss : List (List Int)) (i : Nat) (kvs : List (List Key × V)) (ks : List (List Int)) : Prop where
  hd : H' gd = some (.dT kvs)
  k : kvs.map (·.1) = ks.map keyT
  n : ks.Nodup
  len : ks.length ≤ i
  m : ∀ k, k ∈ ks ↔ k ∈ ss.take i
  val : ∀ k v, valV kvs (keyT k) = some v → ∃ b, v = .ref b ∧ H b = none ∧ b ≠ gd ∧ H' b = some (.lst ((idxS ss k i).map V.int))
  inj : ∀ k k' b, valV kvs (keyT k) = some (.ref b) → valV kvs (keyT k') = some (.ref b) → k = k'
  no : ∀ k, k ∉ ks → valV kvs (keyT k) = none
  yes : ∀ k, k ∈ ks → ∃ v, valV kvs (keyT k) = some v
  s : Same H H'
theorem GInv.same {H H' H'' : Hp} {gd : Addr} {ss : List (List Int)} {i : Nat} {kvs : List (List Key × V)} {ks : List (List Int)} (h : GInv H H' gd ss i kvs ks) (s : Same H' H'') : GInv H H'' gd ss i kvs ks :=
  ⟨s _ _ h.hd, h.k, h.n, h.len, h.m, fun k v e => by obtain ⟨b, h1, h2, h3, h4⟩ := h.val k v e; exact ⟨b, h1, h2, h3, s _ _ h4⟩, h.inj, h.no, h.yes, h.s.trans s⟩
theorem r_tyDT {K : PySem.W.Frag} {H : Hp} {p : Addr} {k : List (List Key × V)} {A : Prop} (h1 : H p = some (.dT k)) (h : A) : tyV K "dict" (.ref p) H ∧ A := ⟨Or.inr (Or.inr (Or.inl ⟨rfl, .inr ⟨_, h1⟩⟩)), h⟩
theorem idxS_nil {ss : List (List Int)} {k : List Int} : ∀ {i : Nat}, k ∉ ss.take i → idxS ss k i = []
  | 0, _ => rfl
  | i + 1, h => by
    have h1 : k ∉ ss.take i := fun z => h (by rw [List.take_succ]; exact List.mem_append_left _ z)
    have h2 : ¬ ss[i]? = some k := fun z => h (by rw [List.take_succ, z]; exact List.mem_append_right _ List.mem_cons_self)
    show idxS ss k i ++ _ = []
    rw [idxS_nil h1, if_neg h2]
    rfl
theorem idxS_yes {ss : List (List Int)} {k : List Int} {i : Nat} (h : ss[i]? = some k) : idxS ss k (i + 1) = idxS ss k i ++ [(i : Int)] := by
  show idxS ss k i ++ _ = _
  rw [if_pos h]
theorem idxS_no {ss : List (List Int)} {k k' : List Int} {i : Nat} (h : ss[i]? = some k) (n : k' ≠ k) : idxS ss k' (i + 1) = idxS ss k' i := by
  show idxS ss k' i ++ _ = _
  rw [if_neg fun z => n (by rw [h] at z; exact (Option.some.inj z).symm), List.append_nil]
theorem take_mem {ss : List (List Int)} {k x : List Int} {i : Nat} (h : ss[i]? = some k) : x ∈ ss.take (i + 1) ↔ x ∈ ss.take i ∨ x = k := by
  rw [List.take_succ, h, List.mem_append]
  exact or_congr Iff.rfl ⟨fun z => List.mem_singleton.mp z, fun z => List.mem_singleton.mpr z⟩
theorem idxS_len {ss : List (List Int)} {k : List Int} : ∀ {i : Nat}, (idxS ss k i).length ≤ i
  | 0 => Nat.le_refl 0
  | i + 1 => by
    have := idxS_len (ss := ss) (k := k) (i := i)
    show (idxS ss k i ++ _).length ≤ i + 1
    rw [List.length_append]
    split
    · exact Nat.succ_le_succ this
    · exact Nat.le_succ_of_le this
/-- the key was there: its list grows -/
theorem GInv.old {H H' : Hp} {gd b : Addr} {ss : List (List Int)} {i : Nat} {kvs : List (List Key × V)} {ks : List (List Int)} {k : List Int} (G : GInv H H' gd ss i kvs ks) (hk : ss[i]? = some k) (hv : valV kvs (keyT k) = some (.ref b)) : GInv H (upd H' b (.lst ((idxS ss k i).map V.int ++ [.int (i : Int)]))) gd ss (i + 1) kvs ks := by
  obtain ⟨b', e, nb, bg, hb⟩ := G.val k _ hv
  cases e
  have kin : k ∈ ks := Classical.byContradiction fun z => by rw [G.no k z] at hv; cases hv
  refine ⟨(upd_ne bg.symm).trans G.hd, G.k, G.n, Nat.le_succ_of_le G.len, fun x => ?_, fun x v e => ?_, G.inj, G.no, G.yes, fun a o e => (upd_ne (ne_of_none e nb)).trans (G.s _ _ e)⟩
  · rw [take_mem hk, G.m x]
    exact ⟨Or.inl, fun z => z.elim id fun z => (G.m x).mp (z ▸ kin)⟩
  · obtain ⟨c, rfl, nc, cg, hc⟩ := G.val x v e
    by_cases z : x = k
    · subst z
      rw [hv] at e
      cases e
      exact ⟨b, rfl, nb, bg, by rw [upd_same, idxS_yes hk, List.map_append]; rfl⟩
    · refine ⟨c, rfl, nc, cg, ?_⟩
      rw [upd_ne fun w => z (G.inj x k c e (by rw [w]; exact hv)), idxS_no hk z]
      exact hc
/-- a new key -/
theorem GInv.new {H H' : Hp} {gd b : Addr} {ss : List (List Int)} {i : Nat} {kvs : List (List Key × V)} {ks : List (List Int)} {k : List Int} (G : GInv H H' gd ss i kvs ks) (hk : ss[i]? = some k) (hv : valV kvs (keyT k) = none) (nb' : ∀ x v, valV kvs (keyT x) = some v → v ≠ .ref b) (nb : H b = none) (bg : b ≠ gd) (ng : H gd = none) : GInv H (upd (upd H' gd (.dT (putK kvs (keyT k) (.ref b)))) b (.lst [.int (i : Int)])) gd ss (i + 1) (putK kvs (keyT k) (.ref b)) (ks ++ [k]) := by
  have kin : k ∉ ks := fun z => by obtain ⟨v, e⟩ := G.yes k z; rw [hv] at e; cases e
  have e0 : putK kvs (keyT k) (.ref b) = kvs ++ [(keyT k, .ref b)] := putK_new _ hv
  have vp : ∀ x, valV (putK kvs (keyT k) (.ref b)) (keyT x) = if keyT x = keyT k then some (.ref b) else valV kvs (keyT x) := fun x => valV_put _ _ _ _
  refine ⟨(upd_ne bg.symm).trans upd_same, by rw [e0, List.map_append, List.map_append, G.k]; rfl, ?_, by rw [List.length_append]; exact Nat.succ_le_succ G.len, fun x => ?_, fun x v e => ?_, fun x y c ex ey => ?_, fun x hx => ?_, fun x hx => ?_, fun a o e => (upd_ne (ne_of_none e nb)).trans ((upd_ne (ne_of_none e ng)).trans (G.s _ _ e))⟩
  · rw [List.nodup_append]
    exact ⟨G.n, List.nodup_cons.mpr ⟨List.not_mem_nil, List.nodup_nil⟩, fun x hx y hy z => kin (by rw [List.mem_singleton.mp hy] at z; exact z ▸ hx)⟩
  · rw [take_mem hk, List.mem_append, G.m x, List.mem_singleton]
  · rw [vp] at e
    by_cases z : keyT x = keyT k
    · rw [if_pos z] at e
      cases e
      have zz : x = k := keyT_inj z
      have n0 : idxS ss k i = [] := idxS_nil fun w => kin ((G.m k).mpr w)
      exact ⟨b, rfl, nb, bg, by rw [upd_same, zz, idxS_yes hk, n0]; rfl⟩
    · rw [if_neg z] at e
      obtain ⟨c, rfl, nc, cg, hc⟩ := G.val x v e
      have cb : c ≠ b := fun w => nb' x _ e (by rw [w])
      exact ⟨c, rfl, nc, cg, by rw [upd_ne cb, upd_ne cg, idxS_no hk fun w => z (by rw [w])]; exact hc⟩
  · rw [vp] at ex ey
    by_cases zx : keyT x = keyT k <;> by_cases zy : keyT y = keyT k
    · exact keyT_inj (zx.trans zy.symm)
    · rw [if_pos zx] at ex
      rw [if_neg zy] at ey
      cases ex
      exact absurd rfl (nb' y _ ey)
    · rw [if_neg zx] at ex
      rw [if_pos zy] at ey
      cases ey
      exact absurd rfl (nb' x _ ex)
    · rw [if_neg zx] at ex
      rw [if_neg zy] at ey
      exact G.inj x y c ex ey
  · rw [vp, if_neg fun z => hx (List.mem_append_right _ (List.mem_singleton.mpr (keyT_inj z)))]
    exact G.no x fun z => hx (List.mem_append_left _ z)
  · rw [vp]
    by_cases z : keyT x = keyT k
    · exact ⟨_, if_pos z⟩
    · rw [if_neg z]
      exact G.yes x ((List.mem_append.mp hx).resolve_right fun w => z (by rw [List.mem_singleton.mp w]))
def kJ (H : Hp) : V → List Int
  | .ref b => SrD.kI H (.ref b)
  | _ => []
def adr : V → Addr
  | .ref b => b
  | _ => 0
section
variable {P : Program} {w : World} {K : PySem.W.Frag} {mg : Str → Option Value} {base : Heap}
theorem ok_groups_of (T : Txt K mg) : FnOk P w K mg base CX0 5 T.f_groups_of T.d_groups_of ["table", "name"] (spGroups K T.C_Table T.C_Scheme T.C_Sort) := by
  refine T.F_groups_of.ok sc_groups_of (fun vs H Q E h => ?_) (fun cdv A outer s H vs Q E hr h => ?_)
  · obtain ⟨t, sc, sr, rs, q0, al, as, rfl, _⟩ := h
    rfl
  obtain ⟨t, sc, sr, rs, q0, al, as, rfl, o, hg, hm, hG, lz, q⟩ := h
  refine ⟨_, (pss_cons (ps_set (i := 2) sc_groups_of.nd rfl (by first | exact Or.inl rfl | exact Or.inr rfl) (pe_call (ok_seats_of T) (hr.mono (by decide)) (by rfl) T.g_seats_of T.F_seats_of.kp T.b_seats_of .nil pass0 (pa_cons (pv 0) (pa_cons (pe_meth (pe_fldK (K := K) (pv 0)) T.c_Scheme T.mt_Scheme_sort_named (ok_Scheme_sort_named T) (hr.mono (by decide)) T.b_Scheme_sort_named .nil passL (pa_cons (pv 1) pa_nil)) pa_nil))))
      (pss_cons (ps_set (i := 3) sc_groups_of.nd rfl (by first | exact Or.inl rfl | exact Or.inr rfl) pe_dnewT)
      (pss_cons (ps_for PassesOwn.never rfl (pi_enum (by rfl) T.z_enumerate (pa_cons (pv 2) pa_nil)) (pg_tup (by rfl) (pgs_cons (pg_name (i := 4) sc_groups_of.nd rfl (by first | exact Or.inl rfl | exact Or.inr rfl)) (pgs_cons (pg_name (i := 5) sc_groups_of.nd rfl (by first | exact Or.inl rfl | exact Or.inr rfl)) pgs_nil))) (pss_one (ps_expr (pe_bm PySem.F.plainAttrs_list PySem.F.slot_list_append PySem.F.type_list_append mt_append (pe_bm PySem.F.plainAttrs_dict PySem.F.slot_dict_setdefault PySem.F.type_dict_setdefault (SdT.mt_setdT (hu_of hr)) (pv 3) (pa_cons (pv 5) (pa_cons (pe_lst pa_nil) pa_nil))) (pa_cons (pv 4) pa_nil)))))
      (pss_one (ps_ret (pe_lc (own := [("seat", 5)]) (g := gName 5) (tt := tYes) rfl sc_groups_of.nd (pi_list (pe_callB (r := SrD.rSortedDT) (SrD.cr_sortedDT rfl) (by rfl) T.z_sorted (by decide +kernel) (pa_cons (pv 3) pa_nil))) (blkOk_by (N := ["table", "name", "seats", "groups", "number", "seat"]) (sc := defScope s_groups_of) (by decide +kernel)) (fun _ _ _ _ _ => pg_name (i := 5) sc_groups_of.nd rfl (by first | exact Or.inl rfl | exact Or.inr rfl)) (fun _ _ _ _ _ => pts_nil) (fun _ _ _ _ _ => (pe_dget (hu_of hr) (pv 3) (pv 5) (fun _ _ => rfl))))))))), ?_⟩
  try simp only [nox_K, cx_K]
  have l1 := hg.l1
  wtm_at "rd"
  refine r_tscheme T o ?_
  refine sch_who o.sch (by decide +kernel) (by decide +kernel) (by decide +kernel) (by decide +kernel) ?_
  wtm_at "rd"
  obtain ⟨j, hj⟩ := List.mem_iff_getElem?.mp hm
  refine ⟨q0, sc, sr.nm, rfl, o.sch, fun hn => ?_, fun x hx a ha => ?_⟩
  · rw [find_name hg hj] at hn
    cases hn
  rw [find_name hg hj] at hx
  cases hx
  wtm_at "rd"
  refine ⟨t, a, sc, sr, rs, q0, al, as, rfl, o, ha, hg, hm, hG, lz, fun se H1 n_se hse s1 => ?_⟩
  have ls : (rs.map (seatL sr)).length ≤ 100 := by rw [List.length_map]; exact lz
  have sv : ∀ x ∈ rs.map (seatL sr), x.length = 2 := fun x hx => by
    obtain ⟨r, _, rfl⟩ := List.mem_map.mp hx
    rfl
  replace q : ∀ a gs H', GrsOk (rs.map (seatL sr)) gs → GrsAt (fun u => H1 u = none) H' a gs → Same H1 H' → Q (.ref a) H' := fun a gs H' h1 h2 s => by
    obtain ⟨na, us, g1, g2, g3⟩ := h2
    exact q a gs H' h1 ⟨s1.free na, us, g1, g2, fun u hu => s1.free (g3 u hu)⟩ (s1.trans s)
  generalize rs.map (seatL sr) = ss at hse ls sv q
  obtain ⟨us, hse, hus⟩ := hse
  have lu := hus.len
  wtm_at "rd"
  refine r_dnewT fun gd n_gd => ?_
  have s2 := same_new (o := .dT []) n_gd
  wtm_at "rd"
  refine r_for (r_enum ?_)
  wtm_at "rd"
  refine ⟨se, _, rfl, SqL.of (s2 _ _ hse), ?_⟩
  refine for_it (walk_enum (K := K) (a := se) (xs := us.map V.ref)) (fun i σ H' => ∃ (y4 y5 : Option V) (kvs : List (List Key × V)) (ks : List (List Int)), σ = [some (.ref t), some (.str sr.nm), some (.ref se), some (.ref gd), y4, y5] ∧ GInv H1 H' gd ss i kvs ks) ⟨_, _, [], [], rfl, ⟨upd_same, rfl, List.nodup_nil, Nat.le_refl 0, fun k => by rw [List.take_zero], fun k v h => (by cases h), fun k k' b h => (by cases h), fun k _ => rfl, fun k h => (by cases h), s2⟩⟩ (fun i σ H' _ h => by obtain ⟨_, _, _, _, _, g⟩ := h; exact SqL.of (g.s _ _ hse)) ?_ ?_
  · rintro i v σ H3 H4 hi ⟨y4, y5, kvs, ks, rfl, G⟩ ⟨T0, x, y, rfl, nT, rfl, hx, hy⟩
    cases hx
    dsimp only at hy
    rw [List.length_map] at hi
    rw [List.getElem?_map] at hy
    obtain ⟨u, hu, rfl⟩ := Option.map_eq_some_iff.mp hy
    obtain ⟨k, hk, hau⟩ := hus.get hu
    have sT := same_new (o := .tup [.int (i : Nat), .ref u]) nT
    refine r_gtup (SqT.of upd_same) rfl ?_
    have G := G.same sT
    generalize upd H3 T0 (.tup [.int (i : Nat), .ref u]) = H4 at G ⊢
    clear sT nT
    wtm_at "rd"
    refine r_tyDT G.hd ?_
    wtm_at "rd"
    refine r_new rfl fun nl n_nl => ?_
    have sN := same_new (o := .lst ([] : List V)) n_nl
    have h_nl : (upd H4 nl (.lst [])) nl = some (.lst []) := upd_same
    have nf := G.s.free n_nl
    have ngd : nl ≠ gd := fun z => by rw [z, G.hd] at n_nl; cases n_nl
    have nb' : ∀ x v, valV kvs (keyT x) = some v → v ≠ .ref nl := fun x v e z => by
      obtain ⟨c, rfl, _, _, hc⟩ := G.val x v e
      cases z
      rw [hc] at n_nl
      cases n_nl
    have G := G.same sN
    generalize upd H4 nl (.lst []) = H5 at G h_nl ⊢
    clear sN n_nl
    have lk : kvs.length = ks.length := by have e := congrArg List.length G.k; rw [List.length_map, List.length_map] at e; exact e
    have hu5 : H5 u = some (.tup ((keyT k).map kV)) := by
      rw [show (keyT k).map kV = k.map V.int from SrD.kV_ints k]
      exact G.s _ _ hau
    have hil : i < ss.length := (List.getElem?_eq_some_iff.mp hk).1
    have il : (idxS ss k i).length ≤ i := idxS_len
    refine ⟨gd, kvs, keyT k, u, .ref nl, rfl, rfl, G.hd, hu5, by have := G.len; rw [sizeLine_eq]; omega, fun v hv => ?_, fun hn => ?_⟩
    · obtain ⟨b, rfl, nb, bg, hb⟩ := G.val k v hv
      refine r_tyL (SqL.of hb) ?_
      wtm_at "rd"
      refine r_app hb (by rw [List.length_map, sizeLine_eq]; omega) ?_
      wtm_at "rd"
      exact ⟨_, _, kvs, ks, rfl, G.old hk hv⟩
    · have hl2 : (upd H5 gd (.dT (putK kvs (keyT k) (.ref nl)))) nl = some (.lst []) := (upd_ne ngd).trans h_nl
      refine r_tyL (SqL.of hl2) ?_
      wtm_at "rd"
      refine r_app hl2 (by decide) ?_
      wtm_at "rd"
      exact ⟨_, _, _, _, rfl, G.new hk hn nb' nf ngd n_gd⟩
  · rintro σ H3 ⟨y4, y5, kvs, ks, rfl, G⟩
    rw [List.length_map, lu] at G
    wtm_at "rd"
    refine ⟨gd, kvs, ks, 2, rfl, G.hd, G.k, by decide, fun k hk => sv k (List.mem_of_mem_take ((G.m k).mp hk)), fun qs ys p e1 e2 e3 e4 np => ?_⟩
    have sp := same_new (o := .lst (qs.map V.ref)) np
    have G := G.same sp
    have hq : ∀ (j : Nat) (b : Addr) (y : List Int), qs[j]? = some b → ys[j]? = some y → (upd H3 p (.lst (qs.map V.ref))) b = some (.tup (y.map V.int)) := fun j b y h1 h2 => sp _ _ (e2 j b y h1 h2)
    have hp : (upd H3 p (.lst (qs.map V.ref))) p = some (.lst (qs.map V.ref)) := upd_same
    generalize upd H3 p (.lst (qs.map V.ref)) = H4 at G hq hp ⊢
    have ly : ys.length ≤ 100 := by rw [e3.length_eq]; have := G.len; omega
    have fv : ∀ (j : Nat) (b : Addr) (y : List Int), qs[j]? = some b → ys[j]? = some y → ∃ c, valV kvs (keyT (kJ H4 (.ref b))) = some (.ref c) ∧ PI H4 c (idxS ss y ss.length) ∧ kJ H4 (.ref b) = y ∧ H1 c = none := fun j b y h1 h2 => by
      have ek : kJ H4 (.ref b) = y := SrD.kI_at (hq j b y h1 h2)
      obtain ⟨v, hv⟩ := G.yes y (e3.mem_iff.mp (List.mem_of_getElem? h2))
      obtain ⟨c, rfl, nc, _, hc⟩ := G.val y v hv
      exact ⟨c, by rw [ek]; exact hv, hc, ek, nc⟩
    refine ⟨p, rfl, ⟨_, SqL.of hp⟩, ?_⟩
    refine lc_map (fun x => (valV kvs (keyT (kJ H4 x))).getD .non) (SqL.of hp) (by rw [List.length_map]; omega) (fun x H' QQ hx s' hQ => ?_) fun D nD => ?_
    · obtain ⟨b, hb, rfl⟩ := List.mem_map.mp hx
      obtain ⟨j, hj⟩ := List.mem_iff_getElem?.mp hb
      have jl : j < ys.length := by have := (List.getElem?_eq_some_iff.mp hj).1; omega
      obtain ⟨c, hc, _, ek, _⟩ := fv j b _ hj (List.getElem?_eq_getElem jl)
      rw [hc] at hQ
      wtm_at "rd"
      refine r_dgetT (s' _ _ G.hd) (k := keyT (kJ H4 (.ref b))) (by rw [ek, show (keyT ys[j]).map kV = (ys[j]).map V.int from SrD.kV_ints _]; exact s' _ _ (hq j b _ hj (List.getElem?_eq_getElem jl))) hc ?_
      exact hQ
    · have sD := same_new (o := .lst ((qs.map V.ref).map fun x => (valV kvs (keyT (kJ H4 x))).getD .non)) nD
      refine q D (ys.map fun y => idxS ss y ss.length) _ ⟨ys, e4, e3.nodup_iff.mpr G.n, fun y => ?_, rfl⟩ ⟨G.s.free nD, qs.map fun b => adr ((valV kvs (keyT (kJ H4 (.ref b)))).getD .non), ?_, ⟨by rw [List.length_map, List.length_map, e1], fun j b y h1 h2 => ?_⟩, fun u hu => ?_⟩ (G.s.trans sD)
      · rw [e3.mem_iff, G.m, List.take_length]
      · rw [upd_same]
        refine congrArg (fun z => some (HO.lst z)) ?_
        rw [List.map_map, List.map_map]
        refine List.map_congr_left fun b hb => ?_
        obtain ⟨j, hj⟩ := List.mem_iff_getElem?.mp hb
        have jl : j < ys.length := by have := (List.getElem?_eq_some_iff.mp hj).1; omega
        obtain ⟨c, hc, _⟩ := fv j b _ hj (List.getElem?_eq_getElem jl)
        show (valV kvs (keyT (kJ H4 (.ref b)))).getD .non = V.ref (adr ((valV kvs (keyT (kJ H4 (.ref b)))).getD .non))
        rw [hc]
        rfl
      · rw [List.getElem?_map] at h1 h2
        obtain ⟨b', hj, rfl⟩ := Option.map_eq_some_iff.mp h1
        obtain ⟨y', hy, rfl⟩ := Option.map_eq_some_iff.mp h2
        obtain ⟨c, hc, hp2, _⟩ := fv j b' y' hj hy
        rw [hc]
        exact sD _ _ hp2
      · obtain ⟨b, hb, rfl⟩ := List.mem_map.mp hu
        obtain ⟨j, hj⟩ := List.mem_iff_getElem?.mp hb
        have jl : j < ys.length := by have := (List.getElem?_eq_some_iff.mp hj).1; omega
        obtain ⟨c, hc, _, _, nc⟩ := fv j b _ hj (List.getElem?_eq_getElem jl)
        rw [hc]
        exact nc
end

/-- the inner clause: over a list that stands -/
theorem lc2_in {K : PySem.W.Frag} {b D : Addr} {ys : List V} {n1 : Nat} {te : TE} {σ : L2.St} {H4 : Hp} {Nx : Hp → Prop} (Pi : Nat → Hp → Prop) (hw1 : ∀ z, wipe ((wipe σ [n1]).set n1 (some z)) [n1] = wipe σ [n1]) (g0 : Pi 0 H4) (gl : ∀ j H, Pi j H → SqL K H b ys) (ge : ∀ H, Pi ys.length H → Nx H)
    (gs : ∀ j z H, ys[j]? = some z → Pi j H → te ((wipe σ [n1]).set n1 (some z)) H fun v H7 => ∃ acc, H7 D = some (.lst acc) ∧ acc.length < sizeLine ∧ Pi (j + 1) (upd H7 D (.lst (acc ++ [v])))) :
    ∃ W1 : Nat → Nat → Hp → Prop, (∃ m, W1 0 m H4) ∧ ∀ j k H, W1 j k H →
      ((Itl K b).stop j H ∧ Nx H) ∨ ((Itl K b).go j H ∧ ∃ Nx1 : Hp → Prop, (∀ H', Nx1 H' → ∃ k', k' < k ∧ W1 (j + 1) k' H') ∧ ∀ x H', (Itl K b).yld j H x H' → gName n1 x (wipe σ [n1]) H' fun σ3 H5 => wipe σ3 [n1] = wipe σ [n1] ∧ tYes σ3 H5 fun b H6 =>
        if b = true then te σ3 H6 fun y H7 => ∃ acc, H7 D = some (.lst acc) ∧ acc.length < sizeLine ∧ Nx1 (upd H7 D (.lst (acc ++ [y]))) else Nx1 H6) := by
  refine ⟨fun j k H => k = ys.length - j ∧ j ≤ ys.length ∧ Pi j H, ⟨ys.length, by simp, Nat.zero_le _, g0⟩, ?_⟩
  rintro j k H5 ⟨rfl, hj, pj⟩
  have qj := gl j H5 pj
  by_cases jlt : j < ys.length
  · refine .inr ⟨⟨ys, ys[j], qj, by simp [jlt]⟩, Pi (j + 1), fun H' p' => ⟨ys.length - (j + 1), by omega, rfl, jlt, p'⟩, fun z H' yz => ?_⟩
    obtain ⟨e, yz⟩ := yz
    subst e
    refine ⟨hw1 z, ?_⟩
    dsimp only [tYes]
    rw [if_pos rfl]
    exact gs j z _ (yz ys qj) pj
  · have e : j = ys.length := by omega
    subst e
    exact .inl ⟨⟨ys, qj, Nat.le_refl _⟩, ge _ pj⟩
/-- a comprehension with two clauses over lists; the inner one is made for each item of the outer one -/
theorem lc2_list {K : PySem.W.Frag} {a : Addr} {xs : List V} {n n1 : Nat} {tl te : TE} {σ : L2.St} {H1 : Hp} {Q : VK} (Pv : Addr → Nat → Hp → Prop)
    (hw : ∀ x, wipe ((wipe σ [n, n1]).set n (some x)) [n, n1] = wipe σ [n, n1])
    (h0 : ∀ D, H1 D = none → Pv D 0 (upd H1 D (.lst []))) (hl : ∀ D i H, Pv D i H → SqL K H a xs)
    (hs : ∀ D i x H, H1 D = none → xs[i]? = some x → Pv D i H → iList K tl ((wipe σ [n, n1]).set n (some x)) H fun J1 H4 => ∃ W1 : Nat → Nat → Hp → Prop, (∃ m, W1 0 m H4) ∧ ∀ j k H, W1 j k H →
      (J1.stop j H ∧ Pv D (i + 1) H) ∨ (J1.go j H ∧ ∃ Nx1 : Hp → Prop, (∀ H', Nx1 H' → ∃ k', k' < k ∧ W1 (j + 1) k' H') ∧ ∀ z H', J1.yld j H z H' → gName n1 z (wipe ((wipe σ [n, n1]).set n (some x)) [n1]) H' fun σ3 H5 => wipe σ3 [n1] = wipe ((wipe σ [n, n1]).set n (some x)) [n1] ∧ tYes σ3 H5 fun b H6 =>
        if b = true then te σ3 H6 fun y H7 => ∃ acc, H7 D = some (.lst acc) ∧ acc.length < sizeLine ∧ Nx1 (upd H7 D (.lst (acc ++ [y]))) else Nx1 H6))
    (hd : ∀ D H, H1 D = none → Pv D xs.length H → Q (.ref D) H) :
    ∀ D, H1 D = none → ∃ W : Nat → Nat → Hp → Prop, (∃ m, W 0 m (upd H1 D (.lst []))) ∧ ∀ i m H, W i m H →
  ((Itl K a).stop i H ∧ Q (.ref D) H) ∨ ((Itl K a).go i H ∧ ∃ Nx : Hp → Prop, (∀ H', Nx H' → ∃ m', m' < m ∧ W (i + 1) m' H') ∧ ∀ x H', (Itl K a).yld i H x H' → gName n x (wipe σ [n, n1]) H' fun σ2 H2 => wipe σ2 [n, n1] = wipe σ [n, n1] ∧ tYes σ2 H2 fun b H3 =>
    if b = true then iList K tl σ2 H3 fun J1 H4 => ∃ W1 : Nat → Nat → Hp → Prop, (∃ m, W1 0 m H4) ∧ ∀ j k H, W1 j k H →
      (J1.stop j H ∧ Nx H) ∨ (J1.go j H ∧ ∃ Nx1 : Hp → Prop, (∀ H', Nx1 H' → ∃ k', k' < k ∧ W1 (j + 1) k' H') ∧ ∀ x H', J1.yld j H x H' → gName n1 x (wipe σ2 [n1]) H' fun σ3 H5 => wipe σ3 [n1] = wipe σ2 [n1] ∧ tYes σ3 H5 fun b H6 =>
        if b = true then te σ3 H6 fun y H7 => ∃ acc, H7 D = some (.lst acc) ∧ acc.length < sizeLine ∧ Nx1 (upd H7 D (.lst (acc ++ [y]))) else Nx1 H6)
    else Nx H3) := by
  intro D nD
  refine ⟨fun i m H => m = xs.length - i ∧ i ≤ xs.length ∧ Pv D i H, ⟨xs.length, by simp, Nat.zero_le _, h0 D nD⟩, ?_⟩
  rintro i m H ⟨rfl, hi, p⟩
  have q := hl D i H p
  by_cases hlt : i < xs.length
  · refine .inr ⟨⟨xs, xs[i], q, by simp [hlt]⟩, Pv D (i + 1), fun H' p' => ⟨xs.length - (i + 1), by omega, rfl, hlt, p'⟩, fun x H' y => ?_⟩
    obtain ⟨e, y⟩ := y
    subst e
    refine ⟨hw x, ?_⟩
    dsimp only [tYes]
    rw [if_pos rfl]
    exact hs D i x H' nD (y xs q) p
  · have e : i = xs.length := by omega
    subst e
    exact .inl ⟨⟨xs, q, Nat.le_refl _⟩, hd D _ nD p⟩
theorem pi_listK {X : Cx} {tg l : Expr} {tl : TE} {K : PySem.W.Frag} (hl : PE X l tl) (hK : X.K = K := by rfl) : L2.PI X tg l (iList K tl) := hK ▸ pi_list hl
def fct : Nat → Int
  | 0 => 1
  | n + 1 => fct n * ((n : Int) + 1)
theorem fct_pos : ∀ n : Nat, 1 ≤ fct n
  | 0 => Int.le_refl 1
  | n + 1 => by
    have := fct_pos n
    show 1 ≤ fct n * ((n : Int) + 1)
    have h : 1 * 1 ≤ fct n * ((n : Int) + 1) := Int.mul_le_mul this (by omega) (by decide) (by omega)
    omega
def spFact : Sp := fun vs H Q _ => ∃ n : Nat, vs = [.int (n : Int)] ∧ n ≤ 100 ∧ Q (.int (fct n)) H
theorem GrsOk.len {ss gs : List (List Int)} (h : GrsOk ss gs) {n : Nat} (l : ss.length ≤ n) : gs.length ≤ n := by
  obtain ⟨ys, _, h2, h3, rfl⟩ := h
  rw [List.length_map]
  exact Nat.le_trans (nodup_len h2 fun y hy => (h3 y).mp hy) l
/-- the groups of all sorts, each with its sort's name -/
def AllOk (rs : List Row) : List Srt → List (Str × List Int) → Prop
  | [], G => G = []
  | s :: ss, G => ∃ gs G', GrsOk (rs.map (seatL s)) gs ∧ G = gs.map (fun g => (s.nm, g)) ++ G' ∧ AllOk rs ss G'
theorem AllOk.uniq {rs : List Row} : ∀ {ss : List Srt} {G G' : List (Str × List Int)}, AllOk rs ss G → AllOk rs ss G' → G = G'
  | [], _, _, h, k => (show _ = [] from h).trans (show _ = [] from k).symm
  | s :: ss, _, _, ⟨gs, G1, h1, h2, h3⟩, ⟨hs, G2, k1, k2, k3⟩ => by rw [h2, k2, h1.uniq k1, AllOk.uniq h3 k3]
theorem AllOk.snoc {rs : List Row} {s : Srt} {gs : List (List Int)} (g : GrsOk (rs.map (seatL s)) gs) : ∀ {ss : List Srt} {G : List (Str × List Int)}, AllOk rs ss G → AllOk rs (ss ++ [s]) (G ++ gs.map fun g => (s.nm, g))
  | [], _, h => by
    cases (show _ = [] from h)
    exact ⟨gs, [], g, (List.append_nil _).symm, rfl⟩
  | t :: ss, _, ⟨hs, G1, h1, h2, h3⟩ => ⟨hs, _, h1, by rw [h2, List.append_assoc], AllOk.snoc g h3⟩
def AGAt (H : Hp) (u : Addr) (g : Str × List Int) : Prop := ∃ b, H u = some (.tup [.str g.1, .ref b]) ∧ PI H b g.2
def AGD (D : Addr) (H : Hp) (u : Addr) (g : Str × List Int) : Prop := ∃ b, b ≠ D ∧ H u = some (.tup [.str g.1, .ref b]) ∧ PI H b g.2
theorem AGD.keep {D : Addr} {H H' : Hp} {u : Addr} {g : Str × List Int} {xs : List V} (hD : H D = some (.lst xs)) (k : ∀ b o, H b = some o → b ≠ D → H' b = some o) (h : AGD D H u g) : AGD D H' u g := by
  obtain ⟨b, nb, h1, h2⟩ := h
  exact ⟨b, nb, k _ _ h1 (ne_of h1 hD fun z => nomatch z), k _ _ h2 nb⟩
theorem AGD.at_ {D : Addr} {H : Hp} {u : Addr} {g : Str × List Int} (h : AGD D H u g) : AGAt H u g := by
  obtain ⟨b, _, h1, h2⟩ := h
  exact ⟨b, h1, h2⟩
def spAllG (K : PySem.W.Frag) (CT CC CS : Addr) : Sp := fun vs H Q _ => ∃ (t : Addr) (sc : Sch) (rs : List Row) (q al : Addr) (as : List Addr), vs = [.ref t] ∧ TblAt K CT CC CS H t sc rs q al as ∧ sc.good ∧ (∀ r ∈ rs, GRow sc r) ∧ rs.length ≤ 100 ∧
  ∀ (l : Addr) (us : List Addr) (G : List (Str × List Int)) (H' : Hp), AllOk rs sc.ss G → H' l = some (.lst (us.map V.ref)) → All2 (AGAt H') us G → Same H H' → Q (.ref l) H'
section
variable {P : Program} {w : World} {K : PySem.W.Frag} {mg : Str → Option Value} {base : Heap}
theorem ok_factorial (T : Txt K mg) : FnOk P w K mg base CX0 1 T.f_factorial T.d_factorial ["many"] spFact := by
  refine T.F_factorial.ok sc_factorial (fun vs H Q E h => ?_) (fun cdv A outer s H vs Q E hr h => ?_)
  · obtain ⟨n, rfl, _⟩ := h
    rfl
  obtain ⟨n, rfl, hn, q⟩ := h
  refine ⟨_, (pss_cons (ps_set (i := 1) sc_factorial.nd rfl (by first | exact Or.inl rfl | exact Or.inr rfl) pe_int)
      (pss_cons (ps_for PassesOwn.never rfl (pi_range2 (by rfl) T.z_range (pa_cons pe_int (pa_cons (pe_op op_add (pv 0) pe_int) pa_nil))) (pg_name (i := 2) sc_factorial.nd rfl (by first | exact Or.inl rfl | exact Or.inr rfl)) (pss_one (ps_aug (i := 1) sc_factorial.nd rfl (by first | exact Or.inl rfl | exact Or.inr rfl) (pv 2) iop_mul)))
      (pss_one (ps_ret (pv 1))))), ?_⟩
  try simp only [nox_K, cx_K]
  wtm_at "rd"
  refine r_for (r_rng2 ?_)
  wtm_at "rd"
  refine r_from (by omega) (by omega) ?_
  rw [show ((n : Int) + 1 - 2).toNat = n - 1 by omega]
  refine for_range (fun k σ H' => ∃ (x2 : Option V), σ = [some (.int (n : Int)), some (.int (fct (k + 1))), x2] ∧ H' = H) ⟨_, rfl, rfl⟩ ?_ ?_
  · rintro k σ H' hk ⟨x2, rfl, rfl⟩
    wtm_at "rd"
    refine r_mul (.inr ⟨by omega, by omega⟩) ?_
    rintro _ rfl
    refine ⟨some (.int (2 + (k : Int))), ?_, rfl⟩
    have e : fct (k + 1 + 1) = fct (k + 1) * (2 + (k : Int)) := by
      show fct (k + 1) * (((k + 1 : Nat) : Int) + 1) = _
      congr 1
      omega
    rw [e]
    rfl
  · rintro σ H' ⟨x2, rfl, rfl⟩
    wtm_at "rd"
    cases n with
    | zero => exact q
    | succ n => exact q
theorem ok_all_groups (T : Txt K mg) : FnOk P w K mg base CX0 6 T.f_all_groups T.d_all_groups ["table"] (spAllG K T.C_Table T.C_Scheme T.C_Sort) := by
  refine T.F_all_groups.ok sc_all_groups (fun vs H Q E h => ?_) (fun cdv A outer s H vs Q E hr h => ?_)
  · obtain ⟨t, sc, rs, q0, al, as, rfl, _⟩ := h
    rfl
  obtain ⟨t, sc, rs, q0, al, as, rfl, o, hg, hG, lz, q⟩ := h
  refine ⟨_, (pss_one (ps_ret (pe_lc2 (own := [("name", 1), ("group", 2)]) (vs1 := [2]) (g := gName 1) (g1 := gName 2) (tt := tYes) (tt1 := tYes) rfl sc_all_groups.nd (pi_list (pe_meth0 (pe_fldK (K := K) (pv 0)) T.c_Scheme T.mt_Scheme_sort_names (ok_Scheme_sort_names T) (hr.mono (by decide)) T.b_Scheme_sort_names .nil pass0)) (blkOk_by (N := ["table", "name", "group"]) (sc := defScope s_all_groups) (by decide +kernel)) (by decide) (fun _ _ _ _ _ => pg_name (i := 1) sc_all_groups.nd rfl (by first | exact Or.inl rfl | exact Or.inr rfl)) (fun _ _ _ _ _ => pts_nil) (fun _ _ _ _ _ => (pi_listK (K := K) (pe_call (ok_groups_of T) (hr.mono (by decide)) (by rfl) T.g_groups_of T.F_groups_of.kp T.b_groups_of .nil pass0 (pa_cons (pv 0) (pa_cons (pv 1) pa_nil))))) (fun _ _ _ _ _ => pg_name (i := 2) sc_all_groups.nd rfl (by first | exact Or.inl rfl | exact Or.inr rfl)) (fun _ _ _ _ _ => pts_nil) (fun _ _ _ _ _ => (pe_tup (pa_cons (pv 1) (pa_cons (pv 2) pa_nil))))))), ?_⟩
  try simp only [nox_K, cx_K]
  wtm_at "rd"
  unfold tLc2
  wtm_at "rd"
  refine r_tscheme T o ?_
  refine sch_who o.sch (by decide +kernel) (by decide +kernel) (by decide +kernel) (by decide +kernel) ?_
  refine ⟨q0, sc, rfl, o.sch, hg.small, fun nl H1 n_nl s1 hnl => ?_⟩
  have o1 := o.same s1
  refine r_itl (SqL.of hnl) ?_
  refine lc2_list (K := K) (a := nl) (xs := sc.names.map V.str) (n := 1) (n1 := 2) (fun D i H' => ∃ (us : List Addr) (G : List (Str × List Int)), H' D = some (.lst (us.map V.ref)) ∧ AllOk rs (sc.ss.take i) G ∧ All2 (AGD D H') us G ∧ us.length ≤ 100 * i ∧ Same H1 H') (fun x => rfl) (fun D nD => ⟨[], [], upd_same, rfl, All2.nil, Nat.zero_le _, same_new nD⟩) (fun D i H' h => by obtain ⟨_, _, _, _, _, _, s⟩ := h; exact SqL.of (s _ _ hnl)) (fun D i x H' nD hx p => ?_) fun D H' nD p => ?_
  · obtain ⟨us, G, hD, hA, hU, lu, s⟩ := p
    rw [Sch.names, List.map_map, List.getElem?_map] at hx
    obtain ⟨sr, hs, rfl⟩ := Option.map_eq_some_iff.mp hx
    have hm := List.mem_of_getElem? hs
    have hi := (List.getElem?_eq_some_iff.mp hs).1
    have l1 := hg.l1
    wtm_at "rd"
    refine ⟨t, sc, sr, rs, q0, al, as, rfl, o1.same s, hg, hm, hG, lz, fun gl gs H4 hgs hgl s4 => ?_⟩
    obtain ⟨ngl, bs, hgl, hbs, hbn⟩ := hgl
    have lb := hbs.len
    have lgs : gs.length ≤ 100 := hgs.len (by rw [List.length_map]; exact lz)
    have hD4 := s4 _ _ hD
    have nDg : gl ≠ D := fun z => by rw [z, hD] at ngl; cases ngl
    refine r_itl (SqL.of hgl) ?_
    refine lc2_in (D := D) (ys := bs.map V.ref) (fun j H5 => ∃ vs : List Addr, H5 D = some (.lst (vs.map V.ref)) ∧ All2 (AGD D H5) vs (G ++ (gs.take j).map fun g => (sr.nm, g)) ∧ vs.length = us.length + j ∧ ∀ b o, H4 b = some o → b ≠ D → H5 b = some o) (fun z => rfl) ⟨us, hD4, ?_, rfl, fun _ _ z _ => z⟩ (fun j H5 h => ?_) (fun H5 h => ?_) (fun j z H5 hz hp => ?_)
    · rw [List.take_zero, List.map_nil, List.append_nil]
      exact hU.imp fun u g h => h.keep hD fun b o e _ => s4 _ _ e
    · obtain ⟨_, _, _, _, k⟩ := h
      exact SqL.of (k _ _ hgl nDg)
    · obtain ⟨vs, h1, h2, h3, k⟩ := h
      rw [List.length_map, lb, List.take_length] at h2
      rw [List.length_map] at h3
      have e : sc.ss.take (i + 1) = sc.ss.take i ++ [sr] := by rw [List.take_succ, hs]; rfl
      exact ⟨vs, _, h1, by rw [e]; exact hA.snoc hgs, h2, by omega, fun b o h => k _ _ (s4 _ _ (s _ _ h)) (ne_of_none h nD)⟩
    · obtain ⟨vs, h1, h2, h3, k⟩ := hp
      rw [List.getElem?_map] at hz
      obtain ⟨b, hb, rfl⟩ := Option.map_eq_some_iff.mp hz
      obtain ⟨g, hgj, hbg⟩ := hbs.get hb
      have hjl := (List.getElem?_eq_some_iff.mp hb).1
      have bD : b ≠ D := fun z => by have := hbn b (List.mem_of_getElem? hb); rw [z, hD] at this; cases this
      wtm_at "rd"
      refine r_new rfl fun u n_u => ?_
      have uD : D ≠ u := ne_of_none h1 n_u
      have kk : ∀ c o, H5 c = some o → c ≠ D → (upd (upd H5 u (.tup [.str sr.nm, .ref b])) D (.lst (vs.map V.ref ++ [.ref u]))) c = some o := fun c o e n => (upd_ne n).trans ((upd_ne (ne_of_none e n_u)).trans e)
      refine ⟨vs.map V.ref, (upd_ne uD).trans h1, by rw [List.length_map, h3, sizeLine_eq]; omega, vs ++ [u], by rw [upd_same, List.map_append]; rfl, ?_, by rw [List.length_append, h3]; rfl, fun c o e n => kk c o (k c o e n) n⟩
      rw [List.take_succ, hgj, List.map_append, ← List.append_assoc]
      refine (h2.imp fun v x h => h.keep h1 kk).snoc ⟨b, bD, (upd_ne uD.symm).trans upd_same, kk _ _ (k _ _ hbg bD) bD⟩
  · obtain ⟨us, G, h1, h2, h3, _, s⟩ := p
    rw [List.length_map, Sch.names, List.length_map, List.take_length] at h2
    exact q D us G H' h2 h1 (h3.imp fun u g h => h.at_) (s1.trans s)
end

theorem iop_mulW {X : Cx} : OpR X (inplaceOp .Mult) (rI CMulW fun i j => .int (i * j)) := opI fun _ _ _ _ _ _ _ hc q => imul_int q hc.ok
theorem r_mulW {i j : Int} {H : Hp} {Q : VK} (c : CMulW i j) (h : Q (.int (i * j)) H) : rI CMulW (fun i j => .int (i * j)) (.int i) (.int j) H Q := ⟨i, j, rfl, rfl, c, h⟩
theorem r_fdivW {i j : Int} {H : Hp} {Q : VK} (c : CDivW i j) (h : Q (.int (i / j)) H) : rI CDivW (fun i j => .int (i / j)) (.int i) (.int j) H Q := ⟨i, j, rfl, rfl, c, h⟩
theorem r_modP {i j : Int} {H : Hp} {Q : VK} (c : 0 < j) (h : Q (.int (i % j)) H) : rI (fun _ j => 0 < j) (fun i j => .int (i % j)) (.int i) (.int j) H Q := ⟨i, j, rfl, rfl, c, h⟩
theorem r_while {c : TT} {tb : TS} {D : Ends} {σ : L2.St} {H : Hp} (Pv : Nat → L2.St → Hp → Prop) (h0 : ∃ m, Pv m σ H)
    (hs : ∀ m σ H, Pv m σ H → c σ H fun b H1 => if b = true then ∃ N : L2.St → Hp → Prop, (∀ σ' H', N σ' H' → ∃ m', m' < m ∧ Pv m' σ' H') ∧ tb { D with nx := N, ct := N, bk := D.nx } σ H1 else D.nx σ H1) : tWhile c tb D σ H := ⟨Pv, h0, hs⟩
/-! sizes -/
theorem fct_bit : ∀ n : Nat, n ≤ 100 → (fct n).natAbs < 2 ^ (7 * n + 1)
  | 0, _ => by decide
  | n + 1, h => by
    have z := wide_lt (fct_bit n (by omega)) (j := (n : Int) + 1) (b := 7) (by omega)
    rw [show 7 * n + 1 + 7 = 7 * (n + 1) + 1 by omega] at z
    exact z
def cntG : List (Str × List Int) → Int
  | [] => 1
  | g :: G => fct g.2.length * cntG G
theorem cnt_snoc (g : Str × List Int) : ∀ G : List (Str × List Int), cntG (G ++ [g]) = cntG G * fct g.2.length
  | [] => by
    show fct g.2.length * 1 = 1 * fct g.2.length
    rw [Int.mul_one, Int.one_mul]
  | x :: G => by
    show fct x.2.length * cntG (G ++ [g]) = fct x.2.length * cntG G * fct g.2.length
    rw [cnt_snoc g G, Int.mul_assoc]
theorem cnt_pos : ∀ G : List (Str × List Int), 1 ≤ cntG G
  | [] => Int.le_refl 1
  | g :: G => by
    have h1 := fct_pos g.2.length
    have h2 := cnt_pos G
    have h : 1 * 1 ≤ fct g.2.length * cntG G := Int.mul_le_mul h1 h2 (by decide) (by omega)
    show 1 ≤ fct g.2.length * cntG G
    omega
theorem cnt_bit : ∀ {G : List (Str × List Int)}, (∀ g ∈ G, g.2.length ≤ 100) → (cntG G).natAbs < 2 ^ (701 * G.length + 1)
  | [], _ => (by decide : (1 : Int).natAbs < 2 ^ 1)
  | g :: G, h => by
    have h1 := fct_bit g.2.length (h g List.mem_cons_self)
    have h0 := h g List.mem_cons_self
    have z := wide_lt h1 (cnt_bit (G := G) fun x hx => h x (List.mem_cons_of_mem _ hx))
    refine Nat.lt_of_lt_of_le z (Nat.pow_le_pow_right (by decide) ?_)
    rw [List.length_cons]
    omega
theorem GrsOk.small {ss gs : List (List Int)} (h : GrsOk ss gs) {n : Nat} (l : ss.length ≤ n) : ∀ g ∈ gs, g.length ≤ n := by
  obtain ⟨ys, _, _, _, rfl⟩ := h
  intro g hg
  obtain ⟨y, _, rfl⟩ := List.mem_map.mp hg
  exact Nat.le_trans idxS_len l
theorem AllOk.small {rs : List Row} (lz : rs.length ≤ 100) : ∀ {ss : List Srt} {G : List (Str × List Int)}, AllOk rs ss G → (∀ g ∈ G, g.2.length ≤ 100) ∧ G.length ≤ 100 * ss.length
  | [], _, h => by
    cases (show _ = [] from h)
    exact ⟨fun _ h => (nomatch h), Nat.zero_le _⟩
  | s :: ss, _, ⟨gs, G1, h1, h2, h3⟩ => by
    obtain ⟨i1, i2⟩ := AllOk.small lz h3
    have l1 := h1.len (n := 100) (by rw [List.length_map]; exact lz)
    subst h2
    refine ⟨fun g hg => ?_, ?_⟩
    · rcases List.mem_append.mp hg with z | z
      · obtain ⟨x, hx, rfl⟩ := List.mem_map.mp z
        exact h1.small (by rw [List.length_map]; exact lz) x hx
      · exact i1 g z
    · rw [List.length_append, List.length_map, List.length_cons]
      omega
def spCnt (K : PySem.W.Frag) (CT CC CS : Addr) : Sp := fun vs H Q _ => ∃ (t : Addr) (sc : Sch) (rs : List Row) (q al : Addr) (as : List Addr), vs = [.ref t] ∧ TblAt K CT CC CS H t sc rs q al as ∧ sc.good ∧ (∀ r ∈ rs, GRow sc r) ∧ rs.length ≤ 100 ∧
  ∀ (G : List (Str × List Int)) (H' : Hp), AllOk rs sc.ss G → Same H H' → Q (.int (cntG G)) H'
/-- the order of a list with a number -/
def ordN : Nat → List Int → Int → List Int
  | 0, _, _ => []
  | n + 1, l, v => l.getD (v / fct n).toNat 0 :: ordN n (l.eraseIdx (v / fct n).toNat) (v % fct n)
def spOrdAt : Sp := fun vs H Q _ => ∃ (b : Addr) (g : List Int) (v : Int), vs = [.ref b, .int v] ∧ H b = some (.lst (g.map V.int)) ∧ g.length ≤ 100 ∧ 0 ≤ v ∧ v < fct g.length ∧
  ∀ u H', H u = none → H' u = some (.lst ((ordN g.length g v).map V.int)) → Same H H' → Q (.ref u) H'
theorem div_in {n : Nat} {v : Int} (h0 : 0 ≤ v) (h1 : v < fct (n + 1)) : 0 ≤ v / fct n ∧ v / fct n < n + 1 ∧ 0 ≤ v % fct n ∧ v % fct n < fct n := by
  have p := fct_pos n
  refine ⟨Int.ediv_nonneg h0 (by omega), Int.ediv_lt_of_lt_mul (by omega) ?_, Int.emod_nonneg _ (by omega), Int.emod_lt_of_pos _ (by omega)⟩
  rw [Int.mul_comm]
  exact h1
section
variable {P : Program} {w : World} {K : PySem.W.Frag} {mg : Str → Option Value} {base : Heap}

theorem ok_lay_count (T : Txt K mg) : FnOk P w K mg base CX0 7 T.f_lay_count T.d_lay_count ["table"] (spCnt K T.C_Table T.C_Scheme T.C_Sort) := by
  refine T.F_lay_count.ok sc_lay_count (fun vs H Q E h => ?_) (fun cdv A outer s H vs Q E hr h => ?_)
  · obtain ⟨t, sc, rs, q0, al, as, rfl, _⟩ := h
    rfl
  obtain ⟨t, sc, rs, q0, al, as, rfl, o, hg, hG, lz, q⟩ := h
  refine ⟨_, (pss_cons (ps_set (i := 1) sc_lay_count.nd rfl (by first | exact Or.inl rfl | exact Or.inr rfl) pe_int)
      (pss_cons (ps_for PassesOwn.never rfl (pi_list (pe_call (ok_all_groups T) (hr.mono (by decide)) (by rfl) T.g_all_groups T.F_all_groups.kp T.b_all_groups .nil pass0 (pa_cons (pv 0) pa_nil))) (pg_tup (by rfl) (pgs_cons (pg_name (i := 2) sc_lay_count.nd rfl (by first | exact Or.inl rfl | exact Or.inr rfl)) (pgs_cons (pg_name (i := 3) sc_lay_count.nd rfl (by first | exact Or.inl rfl | exact Or.inr rfl)) pgs_nil))) (pss_one (ps_aug (i := 1) sc_lay_count.nd rfl (by first | exact Or.inl rfl | exact Or.inr rfl) (pe_call (ok_factorial T) (hr.mono (by decide)) (by rfl) T.g_factorial T.F_factorial.kp T.b_factorial .nil pass0 (pa_cons (pe_callB (r := rLenL K) (id := "len") c_len (by rfl) T.z_len (by decide +kernel) (pa_cons (pv 3) pa_nil)) pa_nil)) iop_mulW)))
      (pss_one (ps_ret (pv 1))))), ?_⟩
  try simp only [nox_K, cx_K]
  have l1 := hg.l1
  wtm_at "rd"
  dsimp only
  refine r_for (r_il ?_)
  wtm_at "rd"
  refine ⟨t, sc, rs, q0, al, as, rfl, o, hg, hG, lz, fun l us G H1 hA hl hU s1 => ?_⟩
  refine r_itl (SqL.of hl) ?_
  obtain ⟨hs1, hs2⟩ := AllOk.small lz hA
  refine for_list (K := K) (a := l) (xs := us.map V.ref) (fun i σ H' => ∃ (x2 x3 : Option V), σ = [some (.ref t), some (.int (cntG (G.take i))), x2, x3] ∧ Same H1 H') ⟨_, _, rfl, Same.refl _⟩ (fun i σ H' _ ⟨_, _, _, s⟩ => SqL.of (s _ _ hl)) ?_ ?_
  · rintro i v σ H2 hv ⟨x2, x3, rfl, s2⟩
    rw [List.getElem?_map] at hv
    obtain ⟨u, hu, rfl⟩ := Option.map_eq_some_iff.mp hv
    obtain ⟨g, hgi, b, h1, h2⟩ := hU.get hu
    have h2 : H1 b = some (.lst (g.2.map V.int)) := h2
    have gl := hs1 g (List.mem_of_getElem? hgi)
    have gi := (List.getElem?_eq_some_iff.mp hgi).1
    refine r_gtup (SqT.of (s2 _ _ h1)) rfl ?_
    wtm_at "rd"
    refine r_lenI (s2 _ _ h2) ?_
    wtm_at "rd"
    refine ⟨g.2.length, rfl, gl, ?_⟩
    have cb := cnt_bit (G := G.take i) fun x hx => hs1 x (List.mem_of_mem_take hx)
    have lt : (G.take i).length = i := by rw [List.length_take]; omega
    rw [lt] at cb
    refine r_mulW (wide_mul cb (fct_bit _ gl) (by omega) (by omega) (by omega)) ?_
    refine ⟨some (.str g.1), some (.ref b), ?_, s2⟩
    rw [List.take_succ, hgi, Option.toList_some, cnt_snoc]
    rfl
  · rintro σ H2 ⟨x2, x3, rfl, s2⟩
    wtm_at "rd"
    rw [List.length_map, hU.len, List.take_length]
    exact q G H2 hA (s1.trans s2)
theorem ok_order_at (T : Txt K mg) : FnOk P w K mg base CX0 2 T.f_order_at T.d_order_at ["group", "number"] spOrdAt := by
  refine T.F_order_at.ok sc_order_at (fun vs H Q E h => ?_) (fun cdv A outer s H vs Q E hr h => ?_)
  · obtain ⟨b, g, v0, rfl, _⟩ := h
    rfl
  obtain ⟨b, g, v0, rfl, hb, lg, v00, v01, q⟩ := h
  refine ⟨_, (pss_cons (ps_set (i := 2) sc_order_at.nd rfl (by first | exact Or.inl rfl | exact Or.inr rfl) (pe_callTy c_listA (by rfl) T.z_list (by decide +kernel) (pa_cons (pv 0) pa_nil)))
      (pss_cons (ps_set (i := 3) sc_order_at.nd rfl (by first | exact Or.inl rfl | exact Or.inr rfl) (pe_lst pa_nil))
      (pss_cons (ps_while PassesOwn.never (pt_cmpR op_gt (pe_callB (r := rLenL K) (id := "len") c_len (by rfl) T.z_len (by decide +kernel) (pa_cons (pv 2) pa_nil)) pe_int (nomark _)) (pss_cons (ps_set (i := 4) sc_order_at.nd rfl (by first | exact Or.inl rfl | exact Or.inr rfl) (pe_call (ok_factorial T) (hr.mono (by decide)) (by rfl) T.g_factorial T.F_factorial.kp T.b_factorial .nil pass0 (pa_cons (pe_op op_sub (pe_callB (r := rLenL K) (id := "len") c_len (by rfl) T.z_len (by decide +kernel) (pa_cons (pv 2) pa_nil)) pe_int) pa_nil)))
      (pss_cons (ps_expr (pe_bm PySem.F.plainAttrs_list PySem.F.slot_list_append PySem.F.type_list_append mt_append (pv 3) (pa_cons (pe_bm PySem.F.plainAttrs_list PySem.F.slot_list_pop PySem.F.type_list_pop mt_popAt (pv 2) (pa_cons (pe_op op_fdivW (pv 1) (pv 4)) pa_nil)) pa_nil)))
      (pss_one (ps_set (i := 1) sc_order_at.nd rfl (by first | exact Or.inl rfl | exact Or.inr rfl) (pe_op op_mod (pv 1) (pv 4)))))))
      (pss_one (ps_ret (pv 3)))))), ?_⟩
  try simp only [nox_K, cx_K]
  wtm_at "rd"
  refine r_listA (.inl (SqL.of hb)) fun left n_left => ?_
  have n_left0 := n_left
  generalize eq_left : upd _ left _ = H1
  have s_left : Same _ H1 := eq_left ▸ same_new n_left
  have h_left : H1 left = some _ := eq_left ▸ upd_same
  clear eq_left
  have hb := s_left _ _ hb
  wtm_at "rd"
  refine r_new rfl fun found n_found => ?_
  have n_found0 := s_left.free n_found
  have lf : left ≠ found := ne_of_none h_left n_found
  generalize eq_found : upd _ found _ = H2
  have s_found : Same _ H2 := eq_found ▸ same_new n_found
  have h_found : H2 found = some _ := eq_found ▸ upd_same
  clear eq_found
  have s_left := s_left.trans s_found
  have hb := s_found _ _ hb
  have h_left := s_found _ _ h_left
  wtm_at "rd"
  dsimp only
  refine r_while (fun m σ H' => ∃ (x5 : Option V) (done l : List Int) (v : Int), σ = [some (.ref b), some (.int v), some (.ref left), some (.ref found), x5] ∧ H' left = some (.lst (l.map V.int)) ∧ H' found = some (.lst (done.map V.int)) ∧ l.length = m ∧ m ≤ 100 ∧ done.length + m = g.length ∧ 0 ≤ v ∧ v < fct m ∧ done ++ ordN m l v = ordN g.length g v0 ∧ Same H H') ⟨g.length, _, [], g, v0, rfl, h_left, h_found, rfl, lg, by rw [List.length_nil, Nat.zero_add], v00, v01, rfl, s_left⟩ ?_
  rintro m σ H3 ⟨x5, done, l, v, rfl, hl, hf, lm, m1, dm, v0', v1', e, s3⟩
  wtm_at "rd"
  refine r_lenI hl ?_
  wtm_at "rd"
  refine r_ite (fun c => ?_) (fun c => ?_)
  · obtain ⟨m, rfl⟩ : ∃ m', m = m' + 1 := ⟨m - 1, by omega⟩
    obtain ⟨d0, d1, d2, d3⟩ := div_in v0' v1'
    have fp := fct_pos m
    refine ⟨fun σ H' => ∃ (x5 : Option V) (done l : List Int) (v : Int), σ = [some (.ref b), some (.int v), some (.ref left), some (.ref found), x5] ∧ H' left = some (.lst (l.map V.int)) ∧ H' found = some (.lst (done.map V.int)) ∧ l.length = m ∧ m ≤ 100 ∧ done.length + m = g.length ∧ 0 ≤ v ∧ v < fct m ∧ done ++ ordN m l v = ordN g.length g v0 ∧ Same H H', fun σ' H' h => ⟨m, Nat.lt_succ_self _, h⟩, ?_⟩
    wtm_at "rd"
    refine r_lenI hl ?_
    wtm_at "rd"
    refine ⟨m, by rw [show ((l.length : Int) - 1) = ((m : Nat) : Int) by omega]; rfl, by omega, ?_⟩
    wtm_at "rd"
    refine r_tyL (SqL.of hf) ?_
    wtm_at "rd"
    refine r_tyL (SqL.of hl) ?_
    wtm_at "rd"
    refine r_fdivW (wide_div (by omega) (fct_bit m (by omega)) (by omega) (by omega)) ?_
    wtm_at "rd"
    have e2 : ordN (m + 1) l v = l.getD (v / fct m).toNat 0 :: ordN m (l.eraseIdx (v / fct m).toNat) (v % fct m) := rfl
    rw [e2] at e
    have ky : l[(v / fct m).toNat]? = some (l.getD (v / fct m).toNat 0) := by rw [List.getD_eq_getElem?_getD, List.getElem?_eq_getElem (by omega)]; rfl
    have ixk : ixN (l.map V.int).length (v / fct m) = some (v / fct m).toNat := ixn_in d0 (by rw [List.length_map]; omega)
    have le : (l.eraseIdx (v / fct m).toNat).length = m := by rw [List.length_eraseIdx_of_lt (by omega)]; omega
    refine ⟨left, _, v / fct m, _, .int (l.getD (v / fct m).toNat 0), rfl, rfl, hl, by omega, by omega, (ixN_seq ixk).1, by rw [List.getElem?_map, ky]; rfl, ?_⟩
    rw [erase_map]
    generalize l.getD (v / fct m).toNat 0 = y at e
    generalize l.eraseIdx (v / fct m).toNat = l2 at e le
    have hf4 : (upd H3 left (.lst (l2.map V.int))) found = some (.lst (done.map V.int)) := (upd_ne lf.symm).trans hf
    have hl4 : (upd H3 left (.lst (l2.map V.int))) left = some (.lst (l2.map V.int)) := upd_same
    have s4 : Same H (upd H3 left (.lst (l2.map V.int))) := put_same s3 n_left0
    generalize upd H3 left (.lst (l2.map V.int)) = H4 at hf4 hl4 s4 ⊢
    wtm_at "rd"
    refine r_app hf4 (small1000 (by rw [List.length_map]; omega)) ?_
    wtm_at "rd"
    refine r_modP (by omega) ?_
    exact ⟨_, done ++ [y], l2, v % fct m, rfl, (upd_ne lf).trans hl4, by rw [upd_same, List.map_append]; rfl, le, by omega, by rw [List.length_append, List.length_singleton]; omega, d2, d3, by rw [List.append_assoc]; exact e, put_same s4 n_found0⟩
  · obtain rfl : m = 0 := by omega
    wtm_at "rd"
    rw [show ordN 0 l v = [] from rfl, List.append_nil] at e
    subst e
    exact q found H3 n_found0 hf s3
end

theorem idxS_mem {ss : List (List Int)} {k : List Int} : ∀ {n : Nat} {x : Int}, x ∈ idxS ss k n ↔ ∃ i : Nat, i < n ∧ x = (i : Int) ∧ ss[i]? = some k
  | 0, x => ⟨fun h => (nomatch h), fun ⟨i, h, _⟩ => absurd h (Nat.not_lt_zero _)⟩
  | n + 1, x => by
    show x ∈ idxS ss k n ++ _ ↔ _
    rw [List.mem_append, idxS_mem]
    constructor
    · rintro (⟨i, h1, h2⟩ | h)
      · exact ⟨i, by omega, h2⟩
      · by_cases c : ss[n]? = some k
        · rw [if_pos c] at h
          exact ⟨n, Nat.lt_succ_self _, List.mem_singleton.mp h, c⟩
        · rw [if_neg c] at h
          cases h
    · rintro ⟨i, h1, h2, h3⟩
      by_cases c : i < n
      · exact .inl ⟨i, c, h2, h3⟩
      · obtain rfl : i = n := by omega
        refine .inr ?_
        rw [if_pos h3]
        exact List.mem_singleton.mpr h2
theorem idxS_nodup {ss : List (List Int)} {k : List Int} : ∀ {n : Nat}, (idxS ss k n).Nodup
  | 0 => List.nodup_nil
  | n + 1 => by
    show (idxS ss k n ++ _).Nodup
    refine List.nodup_append.mpr ⟨idxS_nodup, ?_, fun x hx y hy e => ?_⟩
    · split
      · exact List.nodup_cons.mpr ⟨List.not_mem_nil, List.nodup_nil⟩
      · exact List.nodup_nil
    · obtain ⟨i, h1, h2, _⟩ := idxS_mem.mp hx
      by_cases c : ss[n]? = some k
      · rw [if_pos c] at hy
        have := List.mem_singleton.mp hy
        omega
      · rw [if_neg c] at hy
        cases hy
def seatX (ss : List (List Int)) (x : Int) : List Int := ss.getD x.toNat []
theorem seatX_idx {ss : List (List Int)} {k : List Int} {n : Nat} {x : Int} (h : x ∈ idxS ss k n) : seatX ss x = k := by
  obtain ⟨i, _, rfl, h3⟩ := idxS_mem.mp h
  unfold seatX
  rw [Int.toNat_natCast, List.getD_eq_getElem?_getD, h3]
  rfl
theorem pw_const {α β : Type} {R : β → β → Prop} {f : α → β} {y : β} (r : R y y) : ∀ {l : List α}, (∀ x ∈ l, f x = y) → (l.map f).Pairwise R
  | [], _ => List.Pairwise.nil
  | a :: l, h => by
    refine List.pairwise_cons.mpr ⟨fun b hb => ?_, pw_const r fun x hx => h x (List.mem_cons_of_mem _ hx)⟩
    obtain ⟨x, hx, rfl⟩ := List.mem_map.mp hb
    rw [h a List.mem_cons_self, h x (List.mem_cons_of_mem _ hx)]
    exact r
/-! lists with their names, side by side -/
def cat (w : Str) : List (Str × List Int) → List Int
  | [] => []
  | p :: r => (if p.1 = w then p.2 else []) ++ cat w r
theorem cat_app (w : Str) : ∀ A B : List (Str × List Int), cat w (A ++ B) = cat w A ++ cat w B
  | [], _ => rfl
  | p :: A, B => by
    show _ ++ cat w (A ++ B) = (_ ++ cat w A) ++ cat w B
    rw [cat_app w A B, List.append_assoc]
def Al : List (Str × List Int) → List (Str × List Int) → Prop
  | [], [] => True
  | g :: G, p :: P => p.1 = g.1 ∧ p.2.Perm g.2 ∧ Al G P
  | _, _ => False
theorem al_split : ∀ {A B P : List (Str × List Int)}, Al (A ++ B) P → ∃ P0 P1, P = P0 ++ P1 ∧ Al A P0 ∧ Al B P1
  | [], B, P, h => ⟨[], P, rfl, trivial, h⟩
  | g :: A, B, [], h => h.elim
  | g :: A, B, p :: P, ⟨h1, h2, h3⟩ => by
    obtain ⟨P0, P1, rfl, h4, h5⟩ := al_split h3
    exact ⟨p :: P0, P1, rfl, ⟨h1, h2, h4⟩, h5⟩
theorem cat_no {w : Str} : ∀ {G P : List (Str × List Int)}, Al G P → (∀ g ∈ G, ¬ g.1 = w) → cat w P = []
  | [], [], _, _ => rfl
  | [], _ :: _, h, _ => h.elim
  | _ :: _, [], h, _ => h.elim
  | g :: G, p :: P, ⟨h1, _, h3⟩, h => by
    show (if p.1 = w then p.2 else []) ++ cat w P = []
    rw [if_neg (by rw [h1]; exact h g List.mem_cons_self), cat_no h3 fun x hx => h x (List.mem_cons_of_mem _ hx)]
    rfl
theorem cat_len {w : Str} : ∀ {G P : List (Str × List Int)}, Al G P → (∀ g ∈ G, g.2.length ≤ 100) → (cat w P).length ≤ 100 * G.length
  | [], [], _, _ => Nat.zero_le _
  | [], _ :: _, h, _ => h.elim
  | _ :: _, [], h, _ => h.elim
  | g :: G, p :: P, ⟨_, h2, h3⟩, h => by
    have i1 := cat_len (w := w) h3 fun x hx => h x (List.mem_cons_of_mem _ hx)
    have i2 := h g List.mem_cons_self
    have i3 := h2.length_eq
    show ((if p.1 = w then p.2 else []) ++ cat w P).length ≤ _
    rw [List.length_append, List.length_cons]
    split
    · omega
    · rw [List.length_nil]
      omega
theorem cat_block {ss : List (List Int)} {w : Str} {n : Nat} : ∀ {ys : List (List Int)} {P : List (Str × List Int)}, Al (ys.map fun y => (w, idxS ss y n)) P → ys.Pairwise (fun x y => SrT.lexL y x = false) →
    (cat w P).Perm (ys.flatMap fun y => idxS ss y n) ∧ ((cat w P).map (seatX ss)).Pairwise (fun x y => SrT.lexL y x = false)
  | [], [], _, _ => ⟨List.Perm.refl _, List.Pairwise.nil⟩
  | [], _ :: _, h, _ => h.elim
  | _ :: _, [], h, _ => h.elim
  | y :: ys, p :: P, ⟨h1, h2, h3⟩, hp => by
    obtain ⟨p1, p2⟩ := List.pairwise_cons.mp hp
    obtain ⟨i1, i2⟩ := cat_block h3 p2
    have e : cat w (p :: P) = p.2 ++ cat w P := by
      show (if p.1 = w then p.2 else []) ++ cat w P = _
      rw [if_pos h1]
    have h2 : p.2.Perm (idxS ss y n) := h2
    rw [e, List.flatMap_cons]
    refine ⟨h2.append i1, ?_⟩
    rw [List.map_append]
    have sy : ∀ x ∈ p.2, seatX ss x = y := fun x hx => seatX_idx (h2.mem_iff.mp hx)
    refine List.pairwise_append.mpr ⟨pw_const ((SrT.swoL (fun x : List Int => x)).refl y) sy, i2, fun a ha b hb => ?_⟩
    obtain ⟨x, hx, rfl⟩ := List.mem_map.mp ha
    obtain ⟨z, hz, rfl⟩ := List.mem_map.mp hb
    obtain ⟨y', hy', hz'⟩ := List.mem_flatMap.mp (i1.mem_iff.mp hz)
    rw [sy x hx, seatX_idx hz']
    exact p1 y' hy'
theorem flat_nodup {ss : List (List Int)} {n : Nat} : ∀ {ys : List (List Int)}, ys.Nodup → (ys.flatMap fun y => idxS ss y n).Nodup
  | [], _ => List.nodup_nil
  | y :: ys, h => by
    obtain ⟨h1, h2⟩ := List.nodup_cons.mp h
    rw [List.flatMap_cons]
    refine List.nodup_append.mpr ⟨idxS_nodup, flat_nodup h2, fun a ha b hb e => ?_⟩
    subst e
    obtain ⟨y', hy', hz⟩ := List.mem_flatMap.mp hb
    exact h1 (by rw [← seatX_idx ha, seatX_idx hz]; exact hy')
theorem grs_fit {rs : List Row} {s : Srt} {gs : List (List Int)} (h : GrsOk (rs.map (seatL s)) gs) {w : Str} {P : List (Str × List Int)} (a : Al (gs.map fun g => (w, g)) P) : fitB rs s (cat w P) = true := by
  obtain ⟨ys, h1, h2, h3, rfl⟩ := h
  rw [List.map_map] at a
  obtain ⟨i1, i2⟩ := cat_block (ss := rs.map (seatL s)) (n := (rs.map (seatL s)).length) a h1
  refine Bool.and_eq_true_iff.mpr ⟨num_perm (i1.trans ?_), sortB_pair i2⟩
  refine (List.perm_ext_iff_of_nodup (flat_nodup h2) ?_).mpr fun x => ?_
  · exact List.pairwise_map.mpr (List.Pairwise.imp (fun h e => h (by omega)) (List.nodup_range (n := rs.length)))
  · rw [List.mem_flatMap, List.mem_map]
    constructor
    · rintro ⟨y, _, hx⟩
      obtain ⟨i, hi, rfl, _⟩ := idxS_mem.mp hx
      rw [List.length_map] at hi
      exact ⟨i, List.mem_range.mpr hi, rfl⟩
    · rintro ⟨i, hi, rfl⟩
      have hi := List.mem_range.mp hi
      have e : (rs.map (seatL s))[i]? = some (seatL s rs[i]) := by rw [List.getElem?_map, List.getElem?_eq_getElem hi]; rfl
      exact ⟨_, (h3 _).mpr (List.mem_of_getElem? e), idxS_mem.mpr ⟨i, by rw [List.length_map]; exact hi, rfl, e⟩⟩
theorem AllOk.names {rs : List Row} : ∀ {ss : List Srt} {G : List (Str × List Int)}, AllOk rs ss G → ∀ g ∈ G, ∃ s ∈ ss, g.1 = s.nm
  | [], _, h, g, hg => by
    cases (show _ = [] from h)
    cases hg
  | s :: ss, _, ⟨gs, G1, h1, h2, h3⟩, g, hg => by
    subst h2
    rcases List.mem_append.mp hg with z | z
    · obtain ⟨x, _, rfl⟩ := List.mem_map.mp z
      exact ⟨s, List.mem_cons_self, rfl⟩
    · obtain ⟨t, ht, e⟩ := AllOk.names h3 g z
      exact ⟨t, List.mem_cons_of_mem _ ht, e⟩
theorem all_fit {rs : List Row} : ∀ {ss : List Srt} {G P : List (Str × List Int)}, AllOk rs ss G → Al G P → (ss.map Srt.nm).Nodup → ∀ s ∈ ss, fitB rs s (cat s.nm P) = true
  | [], _, _, _, _, _, s, hs => nomatch hs
  | t :: ss, _, P, ⟨gs, G1, h1, h2, h3⟩, a, hn, s, hs => by
    subst h2
    rw [List.map_cons, List.nodup_cons] at hn
    obtain ⟨P0, P1, rfl, a0, a1⟩ := al_split a
    rw [cat_app]
    rcases List.mem_cons.mp hs with rfl | hs
    · rw [cat_no a1 fun g hg e => ?_, List.append_nil]
      · exact grs_fit h1 a0
      · obtain ⟨u, hu, e2⟩ := h3.names g hg
        exact hn.1 (by rw [← e, e2]; exact List.mem_map.mpr ⟨u, hu, rfl⟩)
    · rw [cat_no a0 fun g hg e => ?_, List.nil_append]
      · exact all_fit h3 a1 hn.2 s hs
      · obtain ⟨x, _, rfl⟩ := List.mem_map.mp hg
        exact hn.1 (by rw [show t.nm = s.nm from e]; exact List.mem_map.mpr ⟨s, hs, rfl⟩)
theorem erase_perm {α : Type} : ∀ {l : List α} {k : Nat} (h : k < l.length), (l[k] :: l.eraseIdx k).Perm l
  | [], _, h => absurd h (Nat.not_lt_zero _)
  | x :: l, 0, _ => List.Perm.refl _
  | x :: l, k + 1, h => by
    show (l[k]'(Nat.lt_of_succ_lt_succ h) :: x :: l.eraseIdx k).Perm (x :: l)
    exact (List.Perm.swap _ _ _).trans ((erase_perm (Nat.lt_of_succ_lt_succ h)).cons _)
theorem ord_perm : ∀ {n : Nat} {l : List Int} {v : Int}, l.length = n → 0 ≤ v → v < fct n → (ordN n l v).Perm l
  | 0, l, _, h, _, _ => by rw [List.length_eq_zero_iff.mp h]; exact List.Perm.refl _
  | n + 1, l, v, h, h0, h1 => by
    obtain ⟨d0, d1, d2, d3⟩ := div_in h0 h1
    have hk : (v / fct n).toNat < l.length := by omega
    show (l.getD (v / fct n).toNat 0 :: ordN n (l.eraseIdx (v / fct n).toNat) (v % fct n)).Perm l
    have ih := ord_perm (n := n) (l := l.eraseIdx (v / fct n).toNat) (by rw [List.length_eraseIdx_of_lt hk]; omega) d2 d3
    refine (ih.cons _).trans ?_
    rw [List.getD_eq_getElem?_getD, List.getElem?_eq_getElem hk]
    exact erase_perm hk
/-- the orders of the groups, the last group first -/
def layP : List (Str × List Int) → Int → List (Str × List Int) → List (Str × List Int)
  | [], _, acc => acc
  | g :: R, v, acc => layP R (v / fct g.2.length) ((g.1, ordN g.2.length g.2 (v % fct g.2.length)) :: acc)
section
variable {P : Program} {w : World} {K : PySem.W.Frag} {mg : Str → Option Value} {base : Heap}
end
/-! a dict comprehension stored under a name of the def, its walk over any iterator -/
section
variable {X : Cx}
theorem ps_setDc {i : Nat} {y : Str} {py pos spos : Pos} {kx vx tg iter : Expr} {ifs : List Expr} {scope : Scope} {own : List (Str × Nat)}
    {wi : TI} {g : TG} {tt : TT} {tk tv : TE} (hc : X.calm = true) (hN : X.N.Nodup) (hy : X.N[i]? = some y) (hyl : X.env.scope.names.lookup y = some .local)
    (hsw : swapsWith (.DictComp kx vx [⟨tg, iter, ifs, 0⟩] scope pos) (some (.Name y py)) spos.line X.env = pure true)
    (hi : L2.PI X tg iter wi) (ok : BlkOk X.N X.env.scope scope own)
    (hg : ∀ (s : Shared) (H : Hp) (C : Addr) (cl : List (Str × Addr)) (fp : List Addr), PG (X.blk s H scope (compEnvC scope cl C X.env) fp) tg g)
    (ht : ∀ (s : Shared) (H : Hp) (C : Addr) (cl : List (Str × Addr)) (fp : List Addr), PTs (X.blk s H scope (compEnvC scope cl C X.env) fp) ifs tt)
    (hk : ∀ (s : Shared) (H : Hp) (C : Addr) (cl : List (Str × Addr)) (fp : List Addr), PE (X.blk s H scope (compEnvC scope cl C X.env) fp) kx tk)
    (hv : ∀ (s : Shared) (H : Hp) (C : Addr) (cl : List (Str × Addr)) (fp : List Addr), PE (X.blk s H scope (compEnvC scope cl C X.env) fp) vx tv)
    (hs : ∀ x, foldedSetIterable iter X.env x = pure x := by intro _; rfl) :
    L2.PS X (.Assign [.Name y py] (.DictComp kx vx [⟨tg, iter, ifs, 0⟩] scope pos) spos) (tAsg (tDc wi g tt tk tv (own.map (·.2))) (gName i)) := by
  refine ⟨fun pins s σ H D I w => ?_⟩
  rw [exec_Assign_Name_used _ _ _ _ hsw]
  refine wpAny_bind (wpAny_standAt (wpAny_bind ?_))
  show wpAny _ X.A (do let _ ← comprehension (.DictComp kx vx [⟨tg, iter, ifs, 0⟩] scope pos) scope X.env (firstIterPos [⟨tg, iter, ifs, 0⟩] pos) newDict false (eval iter X.env) (some (assign (.Name y py) X.env))) _ _ s
  have w : tDc wi g tt tk tv (own.map (·.2)) σ H (fun x H1 => gName i x σ H1 D.nx) := w
  refine wpAny_bind (thn (dc_core (Qf := fun _ s' => SP X pins D .next s') hc hN I hi ok hg ht hk hv hs w fun L C s' m H' I' q hn pf => ?_) fun _ s' hq => wpAny_pure (wpAny_pure hq))
  show wpAny _ _ (assign (.Name y py) X.env (.ref L)) _ _ _
  refine wpAny_assign_Name (store_ok2 (v := V.ref L) I' hN hy (.inl hyl) rfl (fun s2 I2 ⟨a, sb, ha⟩ => ?_) (.inr hyl))
  obtain ⟨p0, p1, p2, p3, p4, p5⟩ := pf
  have nCa : C ≠ a := by
    rcases ha with z | z
    · rw [z]; exact p1
    · exact fun e => p4 y a z e.symm
  refine ⟨m, hn.sameBut sb nCa, fun h3 sb3 => ?_⟩
  exact ⟨_, H', I2.turned (t' := s2.toks) (fun b o hb e => (sb3.2 b hb).trans e) p0 p1 p3 p4 p5, q⟩
theorem sw_trueD {kx vx : Expr} {gs : List Comprehension} {scope : Scope} {pos py : Pos} {y : Str} {l : Nat} {env : Env} (h1 : env.scope.kind = .function)
    (h2 : env.scope.names.lookup y = some .local) (h3 : (py.line == pos.line) = true)
    (h4 : (scope.names.any fun (n, k) => n == y && (k == .local || k == .cell)) = false) : swapsWith (.DictComp kx vx gs scope pos) (some (.Name y py)) l env = pure true := by
  have e1 : env.kindOf y = some .local := h2
  have e2 : env.blockKind = .function := by unfold Env.blockKind; rw [h1]; rfl
  unfold swapsWith
  simp only [e2, e1, h4, Expr.pos, h3]
  rfl
end
theorem dc_it {J : It} {n : Nat} {G : Hp → Prop} {Y : Nat → Hp → V → Hp → Prop} (w : Walk J n G Y) {g : TG} {tt : TT} {tk tv : TE} {vs : List Nat} {σ : L2.St} {H1 : Hp} {D : Addr} {Qd : Hp → Prop} (Pv : Nat → Hp → Prop) (h0 : Pv 0 (upd H1 D (.dK []))) (hG : ∀ i H, i ≤ n → Pv i H → G H)
    (hs : ∀ i x H H', i < n → Pv i H → Y i H x H' → g x (wipe σ vs) H' fun σ2 H2 => wipe σ2 vs = wipe σ vs ∧ tt σ2 H2 fun b H3 =>
      if b = true then tk σ2 H3 fun y H4 => tv σ2 H4 fun z H5 => ∃ kvs k, y = kV k ∧ H5 D = some (.dK kvs) ∧ kvs.length < sizeLine ∧ Pv (i + 1) (upd H5 D (.dK (putK kvs k z))) else Pv (i + 1) H3) (hd : ∀ H, Pv n H → Qd H) :
    ∃ W : Nat → Nat → Hp → Prop, (∃ m, W 0 m (upd H1 D (.dK []))) ∧ ∀ i m H, W i m H →
      (J.stop i H ∧ Qd H) ∨ (J.go i H ∧ ∃ Nx : Hp → Prop, (∀ H', Nx H' → ∃ m', m' < m ∧ W (i + 1) m' H') ∧ ∀ x H', J.yld i H x H' → g x (wipe σ vs) H' fun σ2 H2 => wipe σ2 vs = wipe σ vs ∧ tt σ2 H2 fun b H3 =>
        if b = true then tk σ2 H3 fun y H4 => tv σ2 H4 fun z H5 => ∃ kvs k, y = kV k ∧ H5 D = some (.dK kvs) ∧ kvs.length < sizeLine ∧ Nx (upd H5 D (.dK (putK kvs k z))) else Nx H3) := by
  refine ⟨fun i m H => m = n - i ∧ i ≤ n ∧ Pv i H, ⟨n, by simp, Nat.zero_le _, h0⟩, fun i m H hW => ?_⟩
  obtain ⟨rfl, hi, p⟩ := hW
  have q := hG i H hi p
  by_cases hlt : i < n
  · exact .inr ⟨w.goes i H hlt q, Pv (i + 1), fun H' p' => ⟨n - (i + 1), by omega, rfl, hlt, p'⟩, fun x H' y => hs i x H H' hlt p (w.yields i H x H' hlt q y)⟩
  · obtain rfl : i = n := by omega
    exact .inl ⟨w.stops H q, hd H p⟩
theorem r_dc {σ : L2.St} {H : Hp} {Q : VK} {wi : TI} {g : TG} {tt : TT} {tk tv : TE} {vs : List Nat} (h : wi σ H fun J H1 => ∀ D, H1 D = none → ∃ W : Nat → Nat → Hp → Prop, (∃ m, W 0 m (upd H1 D (.dK []))) ∧ ∀ i m H, W i m H →
  (J.stop i H ∧ Q (.ref D) H) ∨ (J.go i H ∧ ∃ Nx : Hp → Prop, (∀ H', Nx H' → ∃ m', m' < m ∧ W (i + 1) m' H') ∧ ∀ x H', J.yld i H x H' → g x (wipe σ vs) H' fun σ2 H2 => wipe σ2 vs = wipe σ vs ∧ tt σ2 H2 fun b H3 =>
    if b = true then tk σ2 H3 fun y H4 => tv σ2 H4 fun z H5 => ∃ kvs k, y = kV k ∧ H5 D = some (.dK kvs) ∧ kvs.length < sizeLine ∧ Nx (upd H5 D (.dK (putK kvs k z))) else Nx H3)) : tDc wi g tt tk tv vs σ H Q := h
theorem putR_zip {w : Str} {ks : List Str} {as : List Addr} {j : Nat} {u : Addr} (hn : ks.Nodup) (hl : as.length = ks.length) (hk : ks[j]? = some w) : putR (zipR ks as) w (.ref u) = zipR ks (as.set j u) := by
  unfold putR
  rw [if_pos (by rw [zip_keys hl]; exact List.mem_of_getElem? hk)]
  refine List.ext_getElem? fun i => ?_
  rw [List.getElem?_map, zipR, zipR, List.getElem?_zipWith, List.getElem?_zipWith]
  cases hi : ks[i]? with
  | none => rfl
  | some k =>
    have hl2 := (List.getElem?_eq_some_iff.mp hi).1
    have ha : as[i]? = some (as[i]'(by omega)) := List.getElem?_eq_getElem _
    by_cases c : j = i
    · subst c
      rw [hk] at hi
      cases hi
      rw [ha, List.getElem?_set_self (by omega)]
      show some (if w = w then _ else _) = _
      rw [if_pos rfl]
    · rw [List.getElem?_set_ne c, ha]
      show some (if k = w then _ else _) = _
      rw [if_neg fun e => ?_]
      subst e
      have h1 := List.getElem?_eq_some_iff.mp hk
      have h2 := List.getElem?_eq_some_iff.mp hi
      exact c ((List.getElem_inj (h₀ := h1.1) (h₁ := h2.1) hn).mp (h1.2.trans h2.2.symm))
theorem DL.rep {H : Hp} {d u : Addr} {ks : List Str} {as : List Addr} {xs : List (List Int)} {j : Nat} {w : Str} {l : List Int} (h : DL PI H d ks as xs) (hn : ks.Nodup) (hk : ks[j]? = some w) (hu : H u = some (.lst (l.map V.int))) : DL PI (upd H d (.dK (rowK (putR (zipR ks as) w (.ref u))))) d ks (as.set j u) (xs.set j l) := by
  refine ⟨by rw [upd_same, putR_zip hn h.l hk], by rw [List.length_set]; exact h.l, ⟨by rw [List.length_set, List.length_set]; exact h.at_.len, fun i x y e1 e2 => ?_⟩⟩
  by_cases c : j = i
  · subst c
    have hj := (List.getElem?_eq_some_iff.mp hk).1
    rw [List.getElem?_set_self (by rw [h.l]; exact hj)] at e1
    rw [List.getElem?_set_self (by rw [← h.at_.len, h.l]; exact hj)] at e2
    cases e1
    cases e2
    exact (upd_ne (ne_of hu h.d fun z => nomatch z)).trans hu
  · rw [List.getElem?_set_ne c] at e1 e2
    have z : H x = some (.lst (y.map V.int)) := h.at_.at_ i x y e1 e2
    exact (upd_ne (ne_of z h.d fun q => nomatch q)).trans z
theorem cat_set {sc : Sch} (hg : sc.good) {j : Nat} {s : Srt} (hs : sc.ss[j]? = some s) (p : List Int) (acc : List (Str × List Int)) : (sc.ss.map fun s => cat s.nm acc).set j (p ++ cat s.nm acc) = sc.ss.map fun t => cat t.nm ((s.nm, p) :: acc) := by
  refine List.ext_getElem? fun i => ?_
  by_cases c : j = i
  · subst c
    rw [List.getElem?_set_self (by rw [List.length_map]; exact (List.getElem?_eq_some_iff.mp hs).1), List.getElem?_map, hs]
    show some (p ++ cat s.nm acc) = some ((if s.nm = s.nm then p else []) ++ cat s.nm acc)
    rw [if_pos rfl]
  · rw [List.getElem?_set_ne c, List.getElem?_map, List.getElem?_map]
    cases hi : sc.ss[i]? with
    | none => rfl
    | some t =>
      show some (cat t.nm acc) = some ((if s.nm = t.nm then p else []) ++ cat t.nm acc)
      rw [if_neg fun z : s.nm = t.nm => c (name_idx hg hs hi z.symm), List.nil_append]
theorem r_irev {K : PySem.W.Frag} {ta : TA} {σ : L2.St} {H : Hp} {R : It → Hp → Prop} (h : ta σ H fun vs H1 => ∃ (a : Addr) (xs : List V), vs = [.ref a] ∧ SqL K H1 a xs ∧ R (Itv K a xs.length) H1) : iRev K ta σ H R := h
def spLayAtN (K : PySem.W.Frag) (CL CT CC CS CN : Addr) : Sp := fun vs H Q E => ∃ (t : Addr) (v : Int) (sc : Sch) (rs : List Row) (q al : Addr) (as : List Addr), vs = [.ref t, .int v] ∧ TblAt K CT CC CS H t sc rs q al as ∧ sc.good ∧ (∀ r ∈ rs, GRow sc r) ∧ rs.length ≤ 100 ∧
  ((v < 0 ∨ ∃ G, AllOk rs sc.ss G ∧ cntG G ≤ v) → ∀ (d : Addr) (H' : Hp), H d = none → H' d = some (.xd [("number", .int v)]) → Same H H' → E (.ref CN) (some d) H') ∧
  (∀ (G : List (Str × List Int)) (y : Addr) (ow : List Addr) (H' : Hp), AllOk rs sc.ss G → 0 ≤ v → v < cntG G → H y = none → LayAt K CL CT CC CS H' y sc rs (sc.ss.map fun s => cat s.nm (layP G.reverse v [])) ow → (∀ x ∈ ow, H x = none ∨ x = al ∨ x ∈ as) → Same H H' → Q (.ref y) H')
def spFirstL (K : PySem.W.Frag) (CL CT CC CS : Addr) : Sp := fun vs H Q _ => ∃ (t : Addr) (sc : Sch) (rs : List Row) (q al : Addr) (as : List Addr), vs = [.ref t] ∧ TblAt K CT CC CS H t sc rs q al as ∧ sc.good ∧ (∀ r ∈ rs, GRow sc r) ∧ rs.length ≤ 100 ∧
  (∀ (G : List (Str × List Int)) (y : Addr) (ow : List Addr) (H' : Hp), AllOk rs sc.ss G → H y = none → LayAt K CL CT CC CS H' y sc rs (sc.ss.map fun s => cat s.nm (layP G.reverse 0 [])) ow → (∀ x ∈ ow, H x = none ∨ x = al ∨ x ∈ as) → Same H H' → Q (.ref y) H')
section
variable {P : Program} {w : World} {K : PySem.W.Frag} {mg : Str → Option Value} {base : Heap}

theorem ok_lay_at (T : Txt K mg) : FnOk P w K mg base (L2.CX P w) 8 T.f_lay_at T.d_lay_at ["table", "number"] (spLayAtN K T.C_Lay T.C_Table T.C_Scheme T.C_Sort T.C_BadNumber) := by
  refine T.F_lay_at.okX sc_lay_at (fun vs H Q E h => ?_) (fun cdv A outer s H vs Q E hr h => ?_)
  · obtain ⟨t, v, sc, rs, q0, al, as, rfl, _⟩ := h
    rfl
  obtain ⟨t, v, sc, rs, q0, al, as, rfl, o, hg, hG, lz, qE, q⟩ := h
  refine ⟨_, (pss_cons (ps_if (pt_not (pt_chain op_le op_lt pe_int (pv 1) (pe_call (ok_lay_count T) (hr.mono (by decide)) (by rfl) T.g_lay_count T.F_lay_count.kp T.b_lay_count .nil pass0 (pa_cons (pv 0) pa_nil)))) (pss_one (ps_raise rfl (takes_of rfl rfl rfl rfl) (pmk_oex T.ox_BadNumber T.iC_BadNumber T.tI_BadNumber (ok_BadNumber___init__ T) (hr.mono (by decide)) T.b_BadNumber___init__ .nil pass0 (by rfl) T.g_BadNumber (pa_cons (pv 1) pa_nil)))) pss_nil)
      (pss_cons (ps_setDc (i := 2) (own := [("name", 3)]) (g := gName 3) (tt := tYes) rfl sc_lay_at.nd rfl rfl (sw_trueD rfl rfl rfl (by decide +kernel)) (pi_list (pe_meth0 (pe_fldK (K := K) (pv 0)) T.c_Scheme T.mt_Scheme_sort_names (ok_Scheme_sort_names T) (hr.mono (by decide)) T.b_Scheme_sort_names .nil pass0)) (blkOk_by (N := ["table", "number", "orders", "name", "group", "many"]) (sc := defScope s_lay_at) (by decide +kernel)) (fun _ _ _ _ _ => pg_name (i := 3) sc_lay_at.nd rfl (by first | exact Or.inl rfl | exact Or.inr rfl)) (fun _ _ _ _ _ => pts_nil) (fun _ _ _ _ _ => (pv 3)) (fun _ _ _ _ _ => (pe_lst pa_nil)))
      (pss_cons (ps_for (passes_of rfl) rfl (pi_reversed (by rfl) T.z_reversed (pa_cons (pe_callTy c_listA (by rfl) T.z_list (by decide +kernel) (pa_cons (pe_call (ok_all_groups T) (hr.mono (by decide)) (by rfl) T.g_all_groups T.F_all_groups.kp T.b_all_groups .nil pass0 (pa_cons (pv 0) pa_nil)) pa_nil)) pa_nil)) (pg_tup (by rfl) (pgs_cons (pg_name (i := 3) sc_lay_at.nd rfl (by first | exact Or.inl rfl | exact Or.inr rfl)) (pgs_cons (pg_name (i := 4) sc_lay_at.nd rfl (by first | exact Or.inl rfl | exact Or.inr rfl)) pgs_nil))) (pss_cons (ps_set (i := 5) sc_lay_at.nd rfl (by first | exact Or.inl rfl | exact Or.inr rfl) (pe_call (ok_factorial T) (hr.mono (by decide)) (by rfl) T.g_factorial T.F_factorial.kp T.b_factorial .nil pass0 (pa_cons (pe_callB (r := rLenL K) (id := "len") c_len (by rfl) T.z_len (by decide +kernel) (pa_cons (pv 4) pa_nil)) pa_nil)))
      (pss_cons (ps_dput (hu_of hr) (pv 2) (pv 3) (pe_op op_cat (pe_call (ok_order_at T) (hr.mono (by decide)) (by rfl) T.g_order_at T.F_order_at.kp T.b_order_at .nil pass0 (pa_cons (pv 4) (pa_cons (pe_op op_mod (pv 1) (pv 5)) pa_nil))) (pe_dget (hu_of hr) (pv 2) (pv 3) (fun _ _ => rfl))) rfl)
      (pss_one (ps_set (i := 1) sc_lay_at.nd rfl (by first | exact Or.inl rfl | exact Or.inr rfl) (pe_op op_fdivW (pv 1) (pv 5)))))))
      (pss_one (ps_ret (pe_make T.m_Lay (ok_Lay___init__ T) (hr.mono (by decide)) (by rfl) T.g_Lay T.b_Lay___init__ .nil (passes_call (takes_of rfl rfl rfl rfl) fun _ _ _ _ h => h) (pa_cons (pv 0) (pa_cons (pv 2) pa_nil)))))))), ?_⟩
  try simp only [nox_K, cx_K]
  have l1 := hg.l1
  have lsn : sc.names.length = sc.ss.length := by rw [Sch.names, List.length_map]
  wtm_at "rd"
  refine r_ite (fun c1 => ?_) (fun c1 => ?er)
  case er =>
    wtm_at "rdi"
    exact ⟨.int v, rfl, Nat.le_of_ble_eq_true rfl, raise_num fun d H' nd hd s => qE (.inl (by omega)) d H' nd hd s⟩
  wtm_at "rd"
  refine ⟨t, sc, rs, q0, al, as, rfl, o, hg, hG, lz, fun G H1 hA s1 => ?_⟩
  wtm_at "rd"
  refine r_iten (fun c2 => ?_) (fun c2 => ?_)
  · wtm_at "rd"
    exact ⟨.int v, rfl, Nat.le_of_ble_eq_true rfl, raise_num fun d H' nd hd s => qE (.inr ⟨G, hA, by omega⟩) d H' (s1.free nd) hd (s1.trans s)⟩
  wtm_at "rd"
  refine r_dc ?_
  have o1 := o.same s1
  wtm_at "rd"
  refine r_tscheme T o1 ?_
  refine sch_who o1.sch (by decide +kernel) (by decide +kernel) (by decide +kernel) (by decide +kernel) ?_
  refine ⟨q0, sc, rfl, o1.sch, hg.small, fun nl H2 n_nl s2 hnl => ?_⟩
  have s2 := s1.trans s2
  refine r_itl (SqL.of hnl) ?_
  intro D n_D
  have nlD : nl ≠ D := ne_of_none hnl n_D
  refine dc_it (walk_list (K := K) (a := nl) (xs := sc.names.map V.str)) (fun i H' => ∃ bs : List Addr, H' nl = some (.lst (sc.names.map V.str)) ∧ DL PI H' D (sc.names.take i) bs ((sc.ss.take i).map fun _ => []) ∧ ∀ b x, H2 b = some x → H' b = some x) ⟨[], (upd_ne nlD).trans hnl, ⟨upd_same, rfl, All2.nil⟩, fun b x e => (upd_ne (ne_of_none e n_D)).trans e⟩ (fun i H' _ ⟨_, z, _⟩ => SqL.of z) ?_ ?_
  · rintro i x H3 H4 hi ⟨bs, hnl3, W, k3⟩ ⟨rfl, hx⟩
    rw [List.length_map] at hi
    have hwi : sc.names[i]? = some sc.names[i] := List.getElem?_eq_getElem hi
    generalize sc.names[i] = wi at hwi
    rw [List.getElem?_map, hwi] at hx
    cases hx
    refine ⟨wipe1, ?_⟩
    refine r_yes (iteT ?_)
    wtm_at "rd"
    refine r_new rfl fun u n_u => ?_
    generalize eq_u : upd _ u _ = H5
    have s_u : Same _ H5 := eq_u ▸ same_new n_u
    have h_u : H5 u = some _ := eq_u ▸ upd_same
    clear eq_u
    have hnl3 := s_u _ _ hnl3
    have W := W.same frI s_u
    have lb := W.l
    rw [List.length_take] at lb
    have hsi : sc.ss[i]? = some (sc.ss[i]'(by omega)) := List.getElem?_eq_getElem _
    have t1 : sc.names.take i ++ [wi] = sc.names.take (i + 1) := by rw [List.take_add_one, hwi]; rfl
    have t2 : ((sc.ss.take i).map fun _ => ([] : List Int)) ++ [[]] = (sc.ss.take (i + 1)).map fun _ => [] := by rw [List.take_add_one, hsi, List.map_append]; rfl
    refine ⟨_, Sum.inr wi, rfl, W.d, small1000 (by rw [rowK, List.length_map, zipR, List.length_zipWith, List.length_take]; omega), bs ++ [u], (upd_ne nlD).trans hnl3, ?_, fun b x e => (upd_ne (ne_of_none e n_D)).trans (s_u _ _ (k3 b x e))⟩
    rw [← t1, ← t2, put_row]
    refine W.snoc frI (fun z => ?_) h_u
    have nn := hg.n1
    rw [show sc.names = sc.names.take i ++ sc.names.drop i from (List.take_append_drop i _).symm] at nn
    refine (List.nodup_append.mp nn).2.2 _ z _ ?_ rfl
    rw [List.drop_eq_getElem_cons hi]
    refine List.mem_cons.mpr (.inl ?_)
    have z := hwi
    rw [List.getElem?_eq_getElem hi] at z
    exact (Option.some.inj z).symm
  rintro H3 ⟨bs, hnl3, W, k3⟩
  rw [List.length_map, List.take_length, List.take_of_length_le (by omega)] at W
  have s3 : Same H H3 := fun b x e => k3 b x (s2 b x e)
  have D0 : H D = none := s2.free n_D
  wtm_at "rd"
  dsimp only
  refine r_for ?_
  wtm_at "rd"
  refine r_irev ?_
  wtm_at "rd"
  refine ⟨t, sc, rs, q0, al, as, rfl, o.same s3, hg, hG, lz, fun l us G' H4 hA' hl hU s4 => ?_⟩
  obtain rfl := hA.uniq hA'
  have W := W.same frI s4
  wtm_at "rd"
  refine r_listA (.inl (SqL.of hl)) fun l2 n_l2 => ?_
  generalize eq_l2 : upd _ l2 _ = H5
  have s_l2 : Same _ H5 := eq_l2 ▸ same_new n_l2
  have h_l2 : H5 l2 = some _ := eq_l2 ▸ upd_same
  clear eq_l2
  have s4 := s4.trans s_l2
  have W := W.same frI s_l2
  have hU := hU.imp fun u g ⟨b, h1, h2⟩ => (show AGAt H5 u g from ⟨b, s_l2 _ _ h1, frI.same h2 s_l2⟩)
  have s5 := s3.trans s4
  wtm_at "rd"
  refine ⟨l2, us.map V.ref, rfl, SqL.of h_l2, ?_⟩
  obtain ⟨hs1, hs2⟩ := AllOk.small lz hA
  have lus := hU.len
  have cp := cnt_pos G
  have l2D : l2 ≠ D := ne_of h_l2 W.d fun z => nomatch z
  refine for_it (walk_rev (K := K) (a := l2) (xs := us.map V.ref)) (fun i σ H' => ∃ (x3 x4 x5 : Option V) (v' : Int) (acc : List (Str × List Int)) (os : List Addr), σ = [some (.ref t), some (.int v'), some (.ref D), x3, x4, x5] ∧ (∀ b x, H5 b = some x → b ≠ D → H' b = some x) ∧ Same H H' ∧ DL PI H' D sc.names os (sc.ss.map fun s => cat s.nm acc) ∧ 0 ≤ v' ∧ layP (G.reverse.drop i) v' acc = layP G.reverse v [] ∧ Al (G.drop (G.length - i)) acc) ⟨_, _, _, v, [], bs, rfl, fun b x e _ => e, s5, W, c1, by rw [List.drop_zero], by rw [Nat.sub_zero, List.drop_length]; trivial⟩ (fun i σ H' _ ⟨_, _, _, _, _, _, _, k, _⟩ => SqL.of (k _ _ h_l2 l2D)) ?_ ?_
  · rintro i x σ H6 H7 hi ⟨x3, x4, x5, v', acc, os, rfl, k6, s6, W, v0, ep, aa⟩ ⟨rfl, hx⟩
    rw [List.length_map] at hi hx
    rw [List.getElem?_map] at hx
    obtain ⟨u, hu, rfl⟩ := Option.map_eq_some_iff.mp hx
    obtain ⟨g, hgi, b, h1, h2⟩ := hU.get hu
    have h2 : H5 b = some (.lst (g.2.map V.int)) := h2
    have h1 := k6 _ _ h1 (ne_of h1 (‹DL PI H5 D _ _ _›).d fun z => nomatch z)
    have h2 := k6 _ _ h2 (ne_of h2 (‹DL PI H5 D _ _ _›).d fun z => nomatch z)
    have gm := List.mem_of_getElem? hgi
    obtain ⟨sr, hsm, eg⟩ := hA.names g gm
    obtain ⟨j, hs⟩ := List.getElem?_of_mem hsm
    have hk : sc.names[j]? = some g.1 := by rw [Sch.names, List.getElem?_map, hs, eg]; rfl
    have gl := hs1 g gm
    have fp := fct_pos g.2.length
    have m0 : 0 ≤ v' % fct g.2.length ∧ v' % fct g.2.length < fct g.2.length := ⟨Int.emod_nonneg _ (by omega), Int.emod_lt_of_pos _ (by omega)⟩
    have hls : (sc.ss.map fun s => cat s.nm acc)[j]? = some (cat sr.nm acc) := by rw [List.getElem?_map, hs]; rfl
    have op := ord_perm (l := g.2) rfl m0.1 m0.2
    have ol := op.length_eq
    have cl := cat_len (w := sr.nm) aa fun x hx => hs1 x (List.mem_of_mem_drop hx)
    rw [List.length_drop] at cl
    refine r_gtup (SqT.of h1) rfl ?_
    wtm_at "rd"
    refine r_lenI h2 ?_
    wtm_at "rd"
    refine ⟨g.2.length, rfl, gl, ?_⟩
    wtm_at "rd"
    refine r_modP (by omega) ?_
    wtm_at "rd"
    refine ⟨b, g.2, v' % fct g.2.length, rfl, h2, gl, m0.1, m0.2, fun u2 H8 n_u2 h_u2 s8 => ?_⟩
    have W := W.same frI s8
    obtain ⟨b0, gb0, hb0, pb0⟩ := W.get hg.n1 hk hls
    have pb0 : H8 b0 = some (.lst ((cat sr.nm acc).map V.int)) := pb0
    wtm_at "rd"
    refine r_getR W.d gb0 ?_
    wtm_at "rd"
    refine ⟨u2, b0, _, _, rfl, rfl, h_u2, pb0, by rw [List.length_map, List.length_map, sizeLine_eq]; omega, fun w n_w => ?_⟩
    rw [← List.map_append]
    generalize eq_w : upd _ w _ = H9
    have s_w : Same _ H9 := eq_w ▸ same_new n_w
    have h_w : H9 w = some _ := eq_w ▸ upd_same
    clear eq_w
    have s8 := s8.trans s_w
    have W := W.same frI s_w
    wtm_at "rd"
    refine r_putR W.d (by rw [zipR, List.length_zipWith]; omega) ?_
    have W := W.rep hg.n1 hk h_w
    rw [cat_set hg hs] at W
    have s9 := s6.trans s8
    have k9 : ∀ b x, H5 b = some x → b ≠ D → (upd H9 D (.dK (rowK (putR (zipR sc.names os) g.1 (.ref w))))) b = some x := fun b x e n => (upd_ne n).trans (s8 _ _ (k6 b x e n))
    have s9 : Same H (upd H9 D (.dK (rowK (putR (zipR sc.names os) g.1 (.ref w))))) := put_same s9 D0
    generalize upd H9 D (.dK (rowK (putR (zipR sc.names os) g.1 (.ref w)))) = H10 at W k9 s9 ⊢
    wtm_at "rd"
    refine r_fdivW (wide_div (by omega) (fct_bit _ gl) (by omega) (by omega)) ?_
    have gi := (List.getElem?_eq_some_iff.mp hgi).1
    have rd : G.reverse.drop i = g :: G.reverse.drop (i + 1) := by
      have e : G.reverse[i]? = some g := by rw [List.getElem?_reverse (by omega), ← hgi]; congr 1; omega
      have h := List.getElem?_eq_some_iff.mp e
      rw [List.drop_eq_getElem_cons h.1, h.2]
    rw [rd] at ep
    refine ⟨_, _, _, _, _, _, rfl, k9, s9, W, Int.ediv_nonneg v0 (by omega), ?_, ?_⟩
    · rw [← eg]
      exact ep
    · have ed : G.drop (G.length - (i + 1)) = g :: G.drop (G.length - i) := by
        have h := List.getElem?_eq_some_iff.mp hgi
        rw [show G.length - (i + 1) = us.length - 1 - i by omega, List.drop_eq_getElem_cons h.1, h.2, show us.length - 1 - i + 1 = G.length - i by omega]
      rw [ed]
      exact ⟨eg.symm, op, aa⟩
  · rintro σ H6 ⟨x3, x4, x5, v', acc, os, rfl, k6, s6, W, v0, ep, aa⟩
    rw [List.length_map, lus] at ep aa
    rw [List.drop_of_length_le (by rw [List.length_reverse]; exact Nat.le_refl _), show layP [] v' acc = acc from rfl] at ep
    rw [Nat.sub_self, List.drop_zero] at aa
    subst ep
    generalize eP : layP G.reverse v [] = P at W aa
    have hfit : ∀ (j : Nat) (s : Srt) (l : List Int), sc.ss[j]? = some s → (sc.ss.map fun s => cat s.nm P)[j]? = some l → fitB rs s l = true := fun j s l e1 e2 => by
      rw [List.getElem?_map, e1] at e2
      cases e2
      exact all_fit hA aa hg.n1 s (List.mem_of_getElem? e1)
    have lls : (sc.ss.map fun s => cat s.nm P).length = sc.ss.length := List.length_map _
    generalize eL : (sc.ss.map fun s => cat s.nm P) = LS at W hfit lls
    wtm_at "rd"
    intro y' dy ny nd2 nyd
    have s0 : Same H6 (upd (upd H6 dy (.own y')) y' (.ins T.C_Lay dy [])) := same_two ny nd2
    have s60 := s6.trans s0
    refine ⟨y', dy, t, D, q0, al, sc, rs, as, sc.names.zip LS, os, rfl, upd_same, o.same s60, hg, hG, by omega, W.ord.same s0, fun q hq => by rw [zip_lens lls hfit q hq]; omega, fun w hb2 => (by rw [bad_zip hg lls hfit] at hb2; cases hb2), fun _ ow' H7 fow oL hkk => ⟨rfl, ?_⟩⟩
    rw [ls_zip hg lls] at oL
    rw [← eL, ← eP] at oL
    refine q G y' ow' H7 hA c1 c2 (s6.free ny) oL (fun x hx => ?_) (s6.trans (same_make ny nd2 hkk))
    rcases fow x hx with z | z | z
    · exact .inl (s6.free (s0.free z))
    · exact .inr (.inl z)
    · exact .inr (.inr z)
theorem ok_first_lay (T : Txt K mg) : FnOk P w K mg base CX0 9 T.f_first_lay T.d_first_lay ["table"] (spFirstL K T.C_Lay T.C_Table T.C_Scheme T.C_Sort) := by
  refine T.F_first_lay.ok sc_first_lay (fun vs H Q E h => ?_) (fun cdv A outer s H vs Q E hr h => ?_)
  · obtain ⟨t, sc, rs, q0, al, as, rfl, _⟩ := h
    rfl
  obtain ⟨t, sc, rs, q0, al, as, rfl, o, hg, hG, lz, q⟩ := h
  refine ⟨_, (pss_one (ps_ret (pe_call (ok_lay_at T) (hr.mono (by decide)) (by rfl) T.g_lay_at T.F_lay_at.kp T.b_lay_at .nil passL (pa_cons (pv 0) (pa_cons pe_int pa_nil))))), ?_⟩
  try simp only [nox_K, cx_K]
  wtm_at "rd"
  refine ⟨t, 0, sc, rs, q0, al, as, rfl, o, hg, hG, lz, fun e => ?_, fun G y ow H' hA _ _ ny oL fow s => ?_⟩
  · rcases e with e | ⟨G, _, e⟩
    · exact absurd e (by decide)
    · have := cnt_pos G
      omega
  · wtm_at "rd"
    exact q G y ow H' hA ny oL fow s
end
theorem num_mem {l : List Int} {n : Nat} (h : isNumB l n = true) {x : Int} : x ∈ l ↔ 0 ≤ x ∧ x < n := by
  obtain ⟨n1, n2, n3⟩ := of_decide_eq_true h
  refine ⟨n2 x, fun ⟨x0, x1⟩ => ?_⟩
  have := num_surj h (i := x.toNat) (by omega)
  rw [Int.toNat_of_nonneg x0] at this
  exact this

theorem ordN_zero : ∀ {n : Nat} {l : List Int}, l.length = n → ordN n l 0 = l
  | 0, l, h => (List.length_eq_zero_iff.mp h).symm
  | n + 1, [], h => nomatch h
  | n + 1, x :: l, h => by
    show (x :: l).getD (0 / fct n).toNat 0 :: ordN n ((x :: l).eraseIdx (0 / fct n).toNat) (0 % fct n) = x :: l
    rw [Int.zero_ediv, Int.zero_emod]
    show x :: ordN n l 0 = _
    rw [ordN_zero (Nat.succ.inj h)]
theorem layP_zero : ∀ (R acc : List (Str × List Int)), layP R 0 acc = R.reverse ++ acc
  | [], _ => rfl
  | g :: R, acc => by
    show layP R (0 / _) ((g.1, ordN g.2.length g.2 (0 % _)) :: acc) = _
    rw [Int.zero_ediv, Int.zero_emod, ordN_zero rfl, layP_zero R, List.reverse_cons, List.append_assoc]
    rfl
theorem first_P (G : List (Str × List Int)) : layP G.reverse 0 [] = G := by rw [layP_zero, List.reverse_reverse, List.append_nil]
theorem al_refl : ∀ G : List (Str × List Int), Al G G
  | [] => trivial
  | g :: G => ⟨rfl, List.Perm.refl _, al_refl G⟩
theorem cat_map (w : Str) : ∀ gs : List (List Int), cat w (gs.map fun g => (w, g)) = gs.flatten
  | [] => rfl
  | g :: gs => by
    show (if w = w then g else []) ++ cat w _ = _
    rw [if_pos rfl, cat_map w gs]
    rfl
theorem cat_sort {rs : List Row} : ∀ {ss : List Srt} {G : List (Str × List Int)}, AllOk rs ss G → (ss.map Srt.nm).Nodup → ∀ s ∈ ss, ∃ gs, GrsOk (rs.map (seatL s)) gs ∧ cat s.nm G = gs.flatten
  | [], _, _, _, s, hs => nomatch hs
  | t :: ss, _, ⟨gs, G1, h1, h2, h3⟩, hn, s, hs => by
    subst h2
    rw [List.map_cons, List.nodup_cons] at hn
    rw [cat_app]
    rcases List.mem_cons.mp hs with rfl | hs
    · refine ⟨gs, h1, ?_⟩
      rw [cat_map, cat_no (al_refl G1) fun g hg e => ?_, List.append_nil]
      obtain ⟨u, hu, e2⟩ := h3.names g hg
      exact hn.1 (by rw [← e, e2]; exact List.mem_map.mpr ⟨u, hu, rfl⟩)
    · obtain ⟨gs', h4, h5⟩ := cat_sort h3 hn.2 s hs
      refine ⟨gs', h4, ?_⟩
      rw [cat_no (al_refl _) fun g hg e => ?_, List.nil_append, h5]
      obtain ⟨x, _, rfl⟩ := List.mem_map.mp hg
      exact hn.1 (by rw [show t.nm = s.nm from e]; exact List.mem_map.mpr ⟨s, hs, rfl⟩)
theorem idxS_asc {ss : List (List Int)} {k : List Int} : ∀ {n : Nat}, (idxS ss k n).Pairwise (· < ·)
  | 0 => List.Pairwise.nil
  | n + 1 => by
    show (idxS ss k n ++ _).Pairwise _
    refine List.pairwise_append.mpr ⟨idxS_asc, ?_, fun x hx y hy => ?_⟩
    · split
      · exact List.pairwise_singleton _ _
      · exact List.Pairwise.nil
    · obtain ⟨i, h1, h2, _⟩ := idxS_mem.mp hx
      by_cases c : ss[n]? = some k
      · rw [if_pos c] at hy
        have := List.mem_singleton.mp hy
        omega
      · rw [if_neg c] at hy
        cases hy
theorem flat_asc {ss : List (List Int)} (mono : ∀ i j : Nat, i < j → j < ss.length → SrT.lexL (ss.getD j []) (ss.getD i []) = false) : ∀ {ys : List (List Int)}, ys.Pairwise (fun x y => SrT.lexL y x = false) → ys.Nodup → (ys.flatMap fun y => idxS ss y ss.length).Pairwise (· < ·)
  | [], _, _ => List.Pairwise.nil
  | y :: ys, hp, hn => by
    obtain ⟨p1, p2⟩ := List.pairwise_cons.mp hp
    obtain ⟨n1, n2⟩ := List.nodup_cons.mp hn
    rw [List.flatMap_cons]
    refine List.pairwise_append.mpr ⟨idxS_asc, flat_asc mono p2 n2, fun a ha b hb => ?_⟩
    obtain ⟨y', hy', hb⟩ := List.mem_flatMap.mp hb
    obtain ⟨i, hi, rfl, ei⟩ := idxS_mem.mp ha
    obtain ⟨j, hj, rfl, ej⟩ := idxS_mem.mp hb
    rcases Nat.lt_trichotomy i j with c | c | c
    · omega
    · subst c
      rw [ei] at ej
      cases ej
      exact absurd hy' n1
    · have z := mono j i c hi
      rw [List.getD_eq_getElem?_getD, List.getD_eq_getElem?_getD, ei, ej] at z
      have e : y = y' := SrT.lexL_eq z (p1 y' hy')
      subst e
      exact absurd hy' n1
theorem rangeI_at {n k : Nat} (h : k < n) : (rangeI n)[k]? = some (k : Int) := by rw [rangeI, List.getElem?_map, List.getElem?_range h]; rfl
theorem asc_eq : ∀ {l g : List Int}, l.Pairwise (· < ·) → g.Pairwise (· < ·) → (∀ z, z ∈ l ↔ z ∈ g) → l = g
  | [], [], _, _, _ => rfl
  | [], y :: g, _, _, m => nomatch (m y).mpr List.mem_cons_self
  | x :: l, [], _, _, m => nomatch (m x).mp List.mem_cons_self
  | x :: l, y :: g, h1, h2, m => by
    obtain ⟨a1, a2⟩ := List.pairwise_cons.mp h1
    obtain ⟨b1, b2⟩ := List.pairwise_cons.mp h2
    have e : x = y := by
      rcases List.mem_cons.mp ((m x).mp List.mem_cons_self) with e | hx
      · exact e
      rcases List.mem_cons.mp ((m y).mpr List.mem_cons_self) with e | hy
      · exact e.symm
      have := a1 y hy
      have := b1 x hx
      omega
    subst e
    rw [asc_eq a2 b2 fun z => ⟨fun hz => (List.mem_cons.mp ((m z).mp (List.mem_cons_of_mem _ hz))).resolve_left fun e => ?_, fun hz => (List.mem_cons.mp ((m z).mpr (List.mem_cons_of_mem _ hz))).resolve_left fun e => ?_⟩]
    · have := a1 z hz
      omega
    · have := b1 z hz
      omega
theorem first_list {rs : List Row} {ss : List Srt} {G : List (Str × List Int)} (hA : AllOk rs ss G) (hn : (ss.map Srt.nm).Nodup) {s : Srt} (hs : s ∈ ss) (mono : ∀ i j : Nat, i < j → j < rs.length → SrT.lexL ((rs.map (seatL s)).getD j []) ((rs.map (seatL s)).getD i []) = false) : cat s.nm G = rangeI rs.length := by
  obtain ⟨gs, h1, h2⟩ := cat_sort hA hn s hs
  have hf := all_fit hA (al_refl G) hn s hs
  obtain ⟨n1, n2, n3⟩ := of_decide_eq_true (Bool.and_eq_true_iff.mp hf).1
  obtain ⟨ys, y1, y2, y3, rfl⟩ := h1
  have e : cat s.nm G = ys.flatMap fun y => idxS (rs.map (seatL s)) y (rs.map (seatL s)).length := by rw [h2, List.flatMap_def]
  refine asc_eq (by rw [e]; exact flat_asc (fun i j h1 h2 => mono i j h1 (by rw [List.length_map] at h2; exact h2)) y1 y2) (List.pairwise_map.mpr (List.Pairwise.imp (fun h => by omega) List.pairwise_lt_range)) fun z => ?_
  refine (num_mem (Bool.and_eq_true_iff.mp hf).1).trans ⟨fun h => ?_, fun h => ?_⟩
  · rw [show z = ((z.toNat : Nat) : Int) by omega]
    exact List.mem_of_getElem? (rangeI_at (by omega))
  · obtain ⟨k, hk, rfl⟩ := List.mem_map.mp h
    have := List.mem_range.mp hk
    omega
/-! the rows -/
def flatRow (sc : Sch) : Row := sc.cols.map fun w => (w, V.int 0)
def riseRow (sc : Sch) (s : Srt) (a : Int) : Row := putR (flatRow sc) s.ky (.int (if s.ds = true then -a else a))
def alongA (r g d : Int) (i : Nat) : Int := if max 0 ((i : Int) - (r - g)) = g then d else max 0 ((i : Int) - (r - g))
def riseRows (sc : Sch) (s : Srt) (r g d : Int) (n : Nat) : List Row := (List.range n).map fun i => riseRow sc s (alongA r g d i)
theorem flat_keys (sc : Sch) : keysR (flatRow sc) = sc.cols := by
  unfold keysR flatRow
  rw [List.map_map]
  exact List.map_id' _
theorem rise_keys {sc : Sch} {s : Srt} (h : s ∈ sc.ss) (a : Int) : keysR (riseRow sc s a) = sc.cols := (keys_put (by rw [flat_keys]; exact Sch.key_in h)).trans (flat_keys sc)
theorem flat_get (w : Str) : ∀ {ks : List Str}, w ∈ ks → getR (ks.map fun w => (w, V.int 0)) w = some (.int 0)
  | [], h => nomatch h
  | k :: ks, h => by
    unfold getR
    rw [List.map_cons, List.find?_cons]
    by_cases c : k = w
    · rw [decide_eq_true c]
      rfl
    · rw [decide_eq_false c]
      exact flat_get w ((List.mem_cons.mp h).resolve_left fun z => c z.symm)
theorem put_get_ne {w z : Str} {v : V} (n : ¬ z = w) : ∀ {r : Row}, getR (r.map fun p => if p.1 = w then (p.1, v) else p) z = getR r z
  | [] => rfl
  | p :: r => by
    unfold getR
    rw [List.map_cons, List.find?_cons, List.find?_cons]
    have e : (if p.1 = w then (p.1, v) else p).1 = p.1 := by split <;> rfl
    rw [e]
    by_cases c : p.1 = z
    · rw [decide_eq_true c, if_neg fun y => n (c ▸ y)]
    · rw [decide_eq_false c]
      exact put_get_ne n
theorem rise_key {sc : Sch} {s : Srt} (h : s ∈ sc.ss) (a : Int) : keyI s (riseRow sc s a) = a := by
  have e : getI (riseRow sc s a) s.ky = if s.ds = true then -a else a := by
    unfold getI riseRow
    rw [getR_put (by rw [flat_keys]; exact Sch.key_in h)]
  unfold keyI
  rw [e]
  by_cases c : s.ds = true
  · rw [if_pos c, if_pos c, Int.neg_neg]
  · rw [if_neg c, if_neg c]
theorem key_off {sc : Sch} (hg : sc.good) {s : Srt} (h : s ∈ sc.ss) : (∀ z ∈ sc.ps, ¬ z = s.ky) ∧ ¬ s.ky ∈ sc.ms := by
  have n := hg.n2
  have km : s.ky ∈ sc.ss.map Srt.ky := List.mem_map.mpr ⟨s, h, rfl⟩
  unfold Sch.cols at n
  obtain ⟨_, n2, n3⟩ := List.nodup_append.mp n
  obtain ⟨_, _, n4⟩ := List.nodup_append.mp n2
  exact ⟨fun z hz e => n3 z hz s.ky (List.mem_append.mpr (.inl km)) e, fun hm => n4 s.ky km s.ky (List.mem_append.mpr (.inr hm)) rfl⟩
theorem rise_hall {sc : Sch} (hg : sc.good) {s : Srt} (h : s ∈ sc.ss) (a : Int) : hallI s (riseRow sc s a) = 0 := by
  unfold hallI
  cases hp : s.pt with
  | none => rfl
  | some z =>
    have zp := hg.pt s h z hp
    have e : riseRow sc s a = (flatRow sc).map fun p => if p.1 = s.ky then (p.1, .int (if s.ds = true then -a else a)) else p := if_pos (by rw [flat_keys]; exact Sch.key_in h)
    show getI (riseRow sc s a) z = 0
    unfold getI
    rw [e, put_get_ne ((key_off hg h).1 z zp), show flatRow sc = sc.cols.map fun w => (w, V.int 0) from rfl, flat_get z (Sch.part_in hg h hp)]
theorem rise_seat {sc : Sch} (hg : sc.good) {s : Srt} (h : s ∈ sc.ss) (a : Int) : seatL s (riseRow sc s a) = [0, a] := by
  unfold seatL
  rw [rise_hall hg h, rise_key h]
theorem rise_row {sc : Sch} (hg : sc.good) {s : Srt} (h : s ∈ sc.ss) {a : Int} (a0 : -1000000000000 ≤ a) (a1 : a ≤ 1000000000000) : GRow sc (riseRow sc s a) := by
  refine ⟨by rw [rise_keys h], fun p hp => ?_⟩
  have e : riseRow sc s a = (flatRow sc).map fun p => if p.1 = s.ky then (p.1, .int (if s.ds = true then -a else a)) else p := if_pos (by rw [flat_keys]; exact Sch.key_in h)
  rw [e] at hp
  obtain ⟨x, hx, rfl⟩ := List.mem_map.mp hp
  obtain ⟨w, _, rfl⟩ := List.mem_map.mp hx
  by_cases c : w = s.ky
  · rw [if_pos (show (w, V.int 0).1 = s.ky from c)]
    refine ⟨_, rfl, ?_, ?_, fun hm => absurd (show s.ky ∈ sc.ms by rw [← c]; exact hm) (key_off hg h).2⟩
    · split <;> omega
    · split <;> omega
  · rw [if_neg (show ¬ (w, V.int 0).1 = s.ky from c)]
    exact ⟨0, rfl, by decide, by decide, fun _ => .inl rfl⟩
theorem along_mono {r g d : Int} (h : possB r g d = true) (r0 : 0 ≤ r) {i j : Nat} (hij : i < j) (hj : (j : Int) ≤ r) : alongA r g d i ≤ alongA r g d j := by
  have h := of_decide_eq_true h
  unfold alongA
  split <;> split <;> omega
theorem lex_two {a b : Int} (h : a ≤ b) : SrT.lexL [0, b] [0, a] = false := by
  show (if (0 : Int) = 0 then (if b = a then false else decide (b < a)) else _) = false
  rw [if_pos rfl]
  split
  · rfl
  · exact decide_eq_false (by omega)
theorem rise_mono {sc : Sch} (hg : sc.good) {s : Srt} (hs : s ∈ sc.ss) {r g d : Int} (h : possB r g d = true) {n : Nat} (hn : (n : Int) = r + 1) : ∀ i j : Nat, i < j → j < (riseRows sc s r g d n).length → SrT.lexL (((riseRows sc s r g d n).map (seatL s)).getD j []) (((riseRows sc s r g d n).map (seatL s)).getD i []) = false := fun i j hij hj => by
  have ln : (riseRows sc s r g d n).length = n := by rw [riseRows, List.length_map, List.length_range]
  rw [ln] at hj
  have e : ∀ k, k < n → ((riseRows sc s r g d n).map (seatL s)).getD k [] = [0, alongA r g d k] := fun k hk => by
    rw [List.getD_eq_getElem?_getD, riseRows, List.map_map, List.getElem?_map, List.getElem?_range hk]
    exact rise_seat hg hs _
  rw [e i (by omega), e j hj]
  exact lex_two (along_mono h (by omega) hij (by omega))
section
variable {P : Program} {w : World} {K : PySem.W.Frag} {mg : Str → Option Value} {base : Heap}
end
section
variable {H : Hp} {Q : VK}
def rMax2 : List V → Hp → VK → Prop := fun xs H Q => ∃ i j, xs = [.int i, .int j] ∧ Q (.int (if j > i then j else i)) H
theorem c_max2 {X : Cx} (hc : X.calm = true) : CallR X (.builtin "max") rMax2 := call_max2 hc
theorem r_max2 {i j : Int} (h : ∀ m : Int, i ≤ m → j ≤ m → (m = i ∨ m = j) → m = max i j → Q (.int m) H) : rMax2 [.int i, .int j] H Q := by
  refine ⟨i, j, rfl, h _ ?_ ?_ ?_ ?_⟩
  all_goals split
  all_goals omega
end

def spPlain (K : PySem.W.Frag) (CC CS : Addr) : Sp := fun vs H Q _ => ∃ (p : Addr) (sc : Sch), vs = [.ref p] ∧ SchAt K CC CS H p sc ∧ sc.good ∧ ∀ d H', H d = none → H' d = some (.dK (rowK (flatRow sc))) → Same H H' → Q (.ref d) H'
def spRise (K : PySem.W.Frag) (CC CS CO : Addr) : Sp := fun vs H Q _ => ∃ (p a f : Addr) (sc : Sch) (s : Srt) (r g d : Int), vs = [.ref p, .ref a, .ref f] ∧ SchAt K CC CS H p sc ∧ sc.good ∧ s ∈ sc.ss ∧ SortAt CS H a s ∧ OffAt CO H f r g d ∧ possB r g d = true ∧ 0 ≤ r ∧ r ≤ 60 ∧
  ∀ l us H', H l = none → H' l = some (.lst (us.map V.ref)) → RowsIn H' us (riseRows sc s r g d (r + 1).toNat) → Same H H' → Q (.ref l) H'
section
variable {P : Program} {w : World} {K : PySem.W.Frag} {mg : Str → Option Value} {base : Heap}

theorem ok_plain_row (T : Txt K mg) : FnOk P w K mg base CX0 2 T.f_plain_row T.d_plain_row ["scheme"] (spPlain K T.C_Scheme T.C_Sort) := by
  refine T.F_plain_row.ok sc_plain_row (fun vs H Q E h => ?_) (fun cdv A outer s H vs Q E hr h => ?_)
  · obtain ⟨p, sc, rfl, _⟩ := h
    rfl
  obtain ⟨p, sc, rfl, o, hg, q⟩ := h
  refine ⟨_, (pss_one (ps_ret (pe_dc (own := [("column", 1)]) (g := gName 1) (tt := tYes) rfl sc_plain_row.nd (pi_list (pe_meth0 (pv 0) T.c_Scheme T.mt_Scheme_columns (ok_Scheme_columns T) (hr.mono (by decide)) T.b_Scheme_columns .nil pass0)) (blkOk_by (N := ["scheme", "column"]) (sc := defScope s_plain_row) (by decide +kernel)) (fun _ _ _ _ _ => pg_name (i := 1) sc_plain_row.nd rfl (by first | exact Or.inl rfl | exact Or.inr rfl)) (fun _ _ _ _ _ => pts_nil) (fun _ _ _ _ _ => (pv 1)) (fun _ _ _ _ _ => pe_int)))), ?_⟩
  try simp only [nox_K, cx_K]
  have l1 := hg.l1
  have l2 := hg.l2
  have l3 := hg.l3
  have l4 := hg.l4
  have lc : sc.cols.length = sc.ps.length + (sc.ss.length + (sc.vs.length + sc.ms.length)) := by
    unfold Sch.cols
    rw [List.length_append, List.length_append, List.length_append, List.length_map]
  wtm_at "rd"
  refine r_dc ?_
  wtm_at "rd"
  refine sch_who o (by decide +kernel) (by decide +kernel) (by decide +kernel) (by decide +kernel) ?_
  refine ⟨p, sc, rfl, o, hg.small, fun nl H2 n_nl s2 hnl => ?_⟩
  refine r_itl (SqL.of hnl) ?_
  intro D n_D
  have nlD : nl ≠ D := ne_of_none hnl n_D
  refine dc_it (walk_list (K := K) (a := nl) (xs := sc.cols.map V.str)) (fun i H' => H' D = some (.dK (rowK ((sc.cols.take i).map fun w => (w, V.int 0)))) ∧ Same H2 H') ⟨upd_same, same_new n_D⟩ (fun i H' _ ⟨_, z⟩ => SqL.of (z _ _ hnl)) ?_ ?_
  · rintro i x H3 H4 hi ⟨hD, s3⟩ ⟨rfl, hx⟩
    rw [List.length_map] at hi
    have hwi : sc.cols[i]? = some sc.cols[i] := List.getElem?_eq_getElem hi
    generalize sc.cols[i] = wi at hwi
    rw [List.getElem?_map, hwi] at hx
    cases hx
    refine ⟨wipe1, ?_⟩
    refine r_yes (iteT ?_)
    wtm_at "rd"
    refine ⟨_, Sum.inr wi, rfl, hD, small1000 (by rw [rowK, List.length_map, List.length_map, List.length_take]; omega), ?_, fun b x e => (upd_ne (ne_of_none e n_D)).trans (s3 _ _ e)⟩
    rw [upd_same, put_row, put_new ?_, List.take_add_one, hwi, List.map_append]
    · rfl
    · unfold keysR
      rw [List.map_map]
      intro z
      rw [show ((Prod.fst ∘ fun w : Str => (w, V.int 0)) : Str → Str) = id from rfl, List.map_id] at z
      have nn := hg.n2
      rw [show sc.cols = sc.cols.take i ++ sc.cols.drop i from (List.take_append_drop i _).symm] at nn
      refine (List.nodup_append.mp nn).2.2 _ z _ ?_ rfl
      have h := List.getElem?_eq_some_iff.mp hwi
      rw [List.drop_eq_getElem_cons h.1, h.2]
      exact List.mem_cons_self
  rintro H3 ⟨hD, s3⟩
  rw [List.length_map, List.take_length] at hD
  wtm_at "rd"
  exact q D H3 (s2.free n_D) hD (s2.trans s3)
theorem ok_rising_rows (T : Txt K mg) : FnOk P w K mg base CX0 3 T.f_rising_rows T.d_rising_rows ["scheme", "sort", "offset"] (spRise K T.C_Scheme T.C_Sort T.C_Offset) := by
  refine T.F_rising_rows.ok sc_rising_rows (fun vs H Q E h => ?_) (fun cdv A outer s H vs Q E hr h => ?_)
  · obtain ⟨p, a, f, sc, sr, r, g, d, rfl, _⟩ := h
    rfl
  obtain ⟨p, a, f, sc, sr, r, g, d, rfl, o, hg, hs, oS, oF, hb, r0, r60, q⟩ := h
  refine ⟨_, (pss_cons (ps_set (i := 3) sc_rising_rows.nd rfl (by first | exact Or.inl rfl | exact Or.inr rfl) (pe_lst pa_nil))
      (pss_cons (ps_set (i := 4) sc_rising_rows.nd rfl (by first | exact Or.inl rfl | exact Or.inr rfl) (pe_op op_sub (pe_fldK (K := K) (pv 2)) (pe_fldK (K := K) (pv 2))))
      (pss_cons (ps_for PassesOwn.never rfl (pi_range1 (by rfl) T.z_range (pa_cons (pe_op op_add (pe_fldK (K := K) (pv 2)) pe_int) pa_nil)) (pg_name (i := 5) sc_rising_rows.nd rfl (by first | exact Or.inl rfl | exact Or.inr rfl)) (pss_cons (ps_set (i := 6) sc_rising_rows.nd rfl (by first | exact Or.inl rfl | exact Or.inr rfl) (pe_callB (r := rMax2) (c_max2 rfl) (by rfl) T.z_max (by decide +kernel) (pa_cons pe_int (pa_cons (pe_op op_sub (pv 5) (pv 4)) pa_nil))))
      (pss_cons (ps_set (i := 7) sc_rising_rows.nd rfl (by first | exact Or.inl rfl | exact Or.inr rfl) (pe_ifExp (pt_cmpR op_eq (pv 6) (pe_fldK (K := K) (pv 2)) (nomark _)) (pe_fldK (K := K) (pv 2)) (pv 6)))
      (pss_cons (ps_set (i := 8) sc_rising_rows.nd rfl (by first | exact Or.inl rfl | exact Or.inr rfl) (pe_call (ok_plain_row T) (hr.mono (by decide)) (by rfl) T.g_plain_row T.F_plain_row.kp T.b_plain_row .nil pass0 (pa_cons (pv 0) pa_nil)))
      (pss_cons (ps_dput (hu_of hr) (pv 8) (pe_fldK (K := K) (pv 1)) (pe_ifExp (pt_val (pe_fldK (K := K) (pv 1))) (pe_un un_neg (pv 7)) (pv 7)) rfl)
      (pss_one (ps_expr (pe_bm PySem.F.plainAttrs_list PySem.F.slot_list_append PySem.F.type_list_append mt_append (pv 3) (pa_cons (pv 8) pa_nil)))))))))
      (pss_one (ps_ret (pv 3)))))), ?_⟩
  try simp only [nox_K, cx_K]
  have l1 := hg.l1
  have l2 := hg.l2
  have l3 := hg.l3
  have l4 := hg.l4
  have lc : sc.cols.length = sc.ps.length + (sc.ss.length + (sc.vs.length + sc.ms.length)) := by
    unfold Sch.cols
    rw [List.length_append, List.length_append, List.length_append, List.length_map]
  wtm_at "rd"
  refine r_new rfl fun l n_l => ?_
  have n_l0 := n_l
  generalize eq_l : upd _ l _ = H1
  have s_l : Same _ H1 := eq_l ▸ same_new n_l
  have h_l : H1 l = some _ := eq_l ▸ upd_same
  clear eq_l
  have oF1 := oF.same s_l
  have o1 := o.same s_l
  have oS1 := oS.same s_l
  wtm_at "rd"
  refine r_rows T oF1 ?_
  wtm_at "rd"
  refine r_groups T oF1 ?_
  wtm_at "rd"
  dsimp only
  refine r_for (r_rng1 ?_)
  wtm_at "rd"
  refine r_rows T oF1 ?_
  wtm_at "rd"
  refine r_upto (by omega) (by omega) ?_
  refine for_range (fun i σ H' => ∃ (x5 x6 x7 x8 : Option V) (us : List Addr), σ = [some (.ref p), some (.ref a), some (.ref f), some (.ref l), some (.int (r - g)), x5, x6, x7, x8] ∧ H' l = some (.lst (us.map V.ref)) ∧ RowsIn H' us (riseRows sc sr r g d i) ∧ us.length = i ∧ Same H H') ⟨_, _, _, _, [], rfl, h_l, All2.nil, rfl, s_l⟩ ?_ ?_
  · rintro i σ H2 hi ⟨x5, x6, x7, x8, us, rfl, hl2, hu, lu, s2⟩
    have oF2 := oF.same s2
    wtm_at "rd"
    refine r_max2 fun m m1 m2 _ em => ?_
    wtm_at "rd"
    refine r_groups T oF2 ?_
    wtm_at "rd"
    refine r_ite (fun cm => ?_) (fun cm => ?_)
    · have ea : alongA r g d i = d := if_pos (by rw [Int.zero_add] at em; rw [← em]; exact cm)
      wtm_at "rd"
      refine r_distance T oF2 ?_
      wtm_at "rd"
      refine ⟨p, sc, rfl, o.same s2, hg, fun dr H3 n_dr h_dr s3 => ?_⟩
      have n_dr0 := s2.free n_dr
      have s4 := s2.trans s3
      wtm_at "rd"
      refine r_sdesc T (oS.same s4) ?_
      refine ⟨sr.ds, rfl, r_iteb (fun hd => ?_) (fun hd => ?_)⟩
      · wtm_at "rd"
        refine r_skey T (oS.same s4) ?_
        refine r_putR h_dr (by rw [flatRow, List.length_map]; omega) ?_
        rw [show putR (flatRow sc) sr.ky _ = riseRow sc sr (alongA r g d i) by unfold riseRow; rw [ea, hd]; rfl]
        have hu := hu.imp fun _ _ z => (show upd H3 dr (.dK (rowK (riseRow sc sr (alongA r g d i)))) _ = _ from (upd_ne (ne_of_none z n_dr)).trans (s3 _ _ z))
        have hl2 : (upd H3 dr (.dK (rowK (riseRow sc sr (alongA r g d i))))) l = _ := (upd_ne (ne_of_none hl2 n_dr)).trans (s3 _ _ hl2)
        have h_dr : (upd H3 dr (.dK (rowK (riseRow sc sr (alongA r g d i))))) dr = some (.dK (rowK (riseRow sc sr (alongA r g d i)))) := upd_same
        have s5 : Same H (upd H3 dr (.dK (rowK (riseRow sc sr (alongA r g d i))))) := put_same s4 n_dr0
        generalize upd H3 dr (.dK (rowK (riseRow sc sr (alongA r g d i)))) = H4 at hu hl2 h_dr s5 ⊢
        wtm_at "rd"
        refine r_tyL (SqL.of hl2) ?_
        wtm_at "rd"
        refine r_app hl2 (small1000 (by rw [List.length_map]; omega)) ?_
        have kl : ∀ b k, H4 b = some (.dK k) → (upd H4 l (.lst (us.map V.ref ++ [.ref dr]))) b = some (.dK k) := fun b k z => (upd_ne (ne_of z hl2 fun q => nomatch q)).trans z
        refine ⟨_, _, _, _, us ++ [dr], rfl, by rw [upd_same, List.map_append]; rfl, ?_, by rw [List.length_append, lu]; rfl, put_same s5 n_l0⟩
        rw [show riseRows sc sr r g d (i + 1) = riseRows sc sr r g d i ++ [riseRow sc sr (alongA r g d i)] by unfold riseRows; rw [List.range_succ, List.map_append]; rfl]
        exact All2.snoc (hu.imp fun b _ z => kl b _ z) (kl dr _ h_dr)
      · wtm_at "rd"
        refine r_skey T (oS.same s4) ?_
        refine r_putR h_dr (by rw [flatRow, List.length_map]; omega) ?_
        rw [show putR (flatRow sc) sr.ky _ = riseRow sc sr (alongA r g d i) by unfold riseRow; rw [ea, hd]; rfl]
        have hu := hu.imp fun _ _ z => (show upd H3 dr (.dK (rowK (riseRow sc sr (alongA r g d i)))) _ = _ from (upd_ne (ne_of_none z n_dr)).trans (s3 _ _ z))
        have hl2 : (upd H3 dr (.dK (rowK (riseRow sc sr (alongA r g d i))))) l = _ := (upd_ne (ne_of_none hl2 n_dr)).trans (s3 _ _ hl2)
        have h_dr : (upd H3 dr (.dK (rowK (riseRow sc sr (alongA r g d i))))) dr = some (.dK (rowK (riseRow sc sr (alongA r g d i)))) := upd_same
        have s5 : Same H (upd H3 dr (.dK (rowK (riseRow sc sr (alongA r g d i))))) := put_same s4 n_dr0
        generalize upd H3 dr (.dK (rowK (riseRow sc sr (alongA r g d i)))) = H4 at hu hl2 h_dr s5 ⊢
        wtm_at "rd"
        refine r_tyL (SqL.of hl2) ?_
        wtm_at "rd"
        refine r_app hl2 (small1000 (by rw [List.length_map]; omega)) ?_
        have kl : ∀ b k, H4 b = some (.dK k) → (upd H4 l (.lst (us.map V.ref ++ [.ref dr]))) b = some (.dK k) := fun b k z => (upd_ne (ne_of z hl2 fun q => nomatch q)).trans z
        refine ⟨_, _, _, _, us ++ [dr], rfl, by rw [upd_same, List.map_append]; rfl, ?_, by rw [List.length_append, lu]; rfl, put_same s5 n_l0⟩
        rw [show riseRows sc sr r g d (i + 1) = riseRows sc sr r g d i ++ [riseRow sc sr (alongA r g d i)] by unfold riseRows; rw [List.range_succ, List.map_append]; rfl]
        exact All2.snoc (hu.imp fun b _ z => kl b _ z) (kl dr _ h_dr)
    · have ea : alongA r g d i = m := (if_neg (by rw [Int.zero_add] at em; rw [← em]; exact cm)).trans (by rw [em, Int.zero_add])
      wtm_at "rd"
      refine ⟨p, sc, rfl, o.same s2, hg, fun dr H3 n_dr h_dr s3 => ?_⟩
      have n_dr0 := s2.free n_dr
      have s4 := s2.trans s3
      wtm_at "rd"
      refine r_sdesc T (oS.same s4) ?_
      refine ⟨sr.ds, rfl, r_iteb (fun hd => ?_) (fun hd => ?_)⟩
      · wtm_at "rd"
        refine r_skey T (oS.same s4) ?_
        refine r_putR h_dr (by rw [flatRow, List.length_map]; omega) ?_
        rw [show putR (flatRow sc) sr.ky _ = riseRow sc sr (alongA r g d i) by unfold riseRow; rw [ea, hd]; rfl]
        have hu := hu.imp fun _ _ z => (show upd H3 dr (.dK (rowK (riseRow sc sr (alongA r g d i)))) _ = _ from (upd_ne (ne_of_none z n_dr)).trans (s3 _ _ z))
        have hl2 : (upd H3 dr (.dK (rowK (riseRow sc sr (alongA r g d i))))) l = _ := (upd_ne (ne_of_none hl2 n_dr)).trans (s3 _ _ hl2)
        have h_dr : (upd H3 dr (.dK (rowK (riseRow sc sr (alongA r g d i))))) dr = some (.dK (rowK (riseRow sc sr (alongA r g d i)))) := upd_same
        have s5 : Same H (upd H3 dr (.dK (rowK (riseRow sc sr (alongA r g d i))))) := put_same s4 n_dr0
        generalize upd H3 dr (.dK (rowK (riseRow sc sr (alongA r g d i)))) = H4 at hu hl2 h_dr s5 ⊢
        wtm_at "rd"
        refine r_tyL (SqL.of hl2) ?_
        wtm_at "rd"
        refine r_app hl2 (small1000 (by rw [List.length_map]; omega)) ?_
        have kl : ∀ b k, H4 b = some (.dK k) → (upd H4 l (.lst (us.map V.ref ++ [.ref dr]))) b = some (.dK k) := fun b k z => (upd_ne (ne_of z hl2 fun q => nomatch q)).trans z
        refine ⟨_, _, _, _, us ++ [dr], rfl, by rw [upd_same, List.map_append]; rfl, ?_, by rw [List.length_append, lu]; rfl, put_same s5 n_l0⟩
        rw [show riseRows sc sr r g d (i + 1) = riseRows sc sr r g d i ++ [riseRow sc sr (alongA r g d i)] by unfold riseRows; rw [List.range_succ, List.map_append]; rfl]
        exact All2.snoc (hu.imp fun b _ z => kl b _ z) (kl dr _ h_dr)
      · wtm_at "rd"
        refine r_skey T (oS.same s4) ?_
        refine r_putR h_dr (by rw [flatRow, List.length_map]; omega) ?_
        rw [show putR (flatRow sc) sr.ky _ = riseRow sc sr (alongA r g d i) by unfold riseRow; rw [ea, hd]; rfl]
        have hu := hu.imp fun _ _ z => (show upd H3 dr (.dK (rowK (riseRow sc sr (alongA r g d i)))) _ = _ from (upd_ne (ne_of_none z n_dr)).trans (s3 _ _ z))
        have hl2 : (upd H3 dr (.dK (rowK (riseRow sc sr (alongA r g d i))))) l = _ := (upd_ne (ne_of_none hl2 n_dr)).trans (s3 _ _ hl2)
        have h_dr : (upd H3 dr (.dK (rowK (riseRow sc sr (alongA r g d i))))) dr = some (.dK (rowK (riseRow sc sr (alongA r g d i)))) := upd_same
        have s5 : Same H (upd H3 dr (.dK (rowK (riseRow sc sr (alongA r g d i))))) := put_same s4 n_dr0
        generalize upd H3 dr (.dK (rowK (riseRow sc sr (alongA r g d i)))) = H4 at hu hl2 h_dr s5 ⊢
        wtm_at "rd"
        refine r_tyL (SqL.of hl2) ?_
        wtm_at "rd"
        refine r_app hl2 (small1000 (by rw [List.length_map]; omega)) ?_
        have kl : ∀ b k, H4 b = some (.dK k) → (upd H4 l (.lst (us.map V.ref ++ [.ref dr]))) b = some (.dK k) := fun b k z => (upd_ne (ne_of z hl2 fun q => nomatch q)).trans z
        refine ⟨_, _, _, _, us ++ [dr], rfl, by rw [upd_same, List.map_append]; rfl, ?_, by rw [List.length_append, lu]; rfl, put_same s5 n_l0⟩
        rw [show riseRows sc sr r g d (i + 1) = riseRows sc sr r g d i ++ [riseRow sc sr (alongA r g d i)] by unfold riseRows; rw [List.range_succ, List.map_append]; rfl]
        exact All2.snoc (hu.imp fun b _ z => kl b _ z) (kl dr _ h_dr)
  · rintro σ H2 ⟨x5, x6, x7, x8, us, rfl, hl2, hu, lu, s2⟩
    wtm_at "rd"
    exact q l us H2 n_l0 hl2 hu s2
end

theorem along_bd {r g d : Int} (h : possB r g d = true) (r0 : 0 ≤ r) (r60 : r ≤ 60) (d1 : d ≤ 1000000000000) {i : Nat} (hi : (i : Int) ≤ r) : -1000000000000 ≤ alongA r g d i ∧ alongA r g d i ≤ 1000000000000 := by
  have h := of_decide_eq_true h
  unfold alongA
  split <;> omega
theorem rise_good {sc : Sch} (hg : sc.good) {s : Srt} (hs : s ∈ sc.ss) {r g d : Int} (h : possB r g d = true) (r0 : 0 ≤ r) (r60 : r ≤ 60) (d1 : d ≤ 1000000000000) : ∀ x ∈ riseRows sc s r g d (r + 1).toNat, GRow sc x := fun x hx => by
  obtain ⟨i, hi, rfl⟩ := List.mem_map.mp hx
  have hi := List.mem_range.mp hi
  obtain ⟨b1, b2⟩ := along_bd h r0 r60 d1 (i := i) (by omega)
  exact rise_row hg hs b1 b2
theorem rise_len {sc : Sch} {s : Srt} {r g d : Int} {n : Nat} : (riseRows sc s r g d n).length = n := by rw [riseRows, List.length_map, List.length_range]
theorem rise_first {sc : Sch} (hg : sc.good) {j : Nat} {s : Srt} (hj : sc.ss[j]? = some s) {r g d : Int} (h : possB r g d = true) (r0 : 0 ≤ r) {G : List (Str × List Int)} (hA : AllOk (riseRows sc s r g d (r + 1).toNat) sc.ss G) : (sc.ss.map fun s => cat s.nm (layP G.reverse 0 []))[j]? = some (rangeI (r + 1).toNat) := by
  have hs := List.mem_of_getElem? hj
  rw [List.getElem?_map, hj, first_P]
  have z := first_list hA hg.n1 hs (rise_mono hg hs h (by omega))
  rw [rise_len] at z
  exact congrArg some z
def spShow (K : PySem.W.Frag) (CL CT CC CS CO CU : Addr) : Sp := fun vs H Q E => ∃ (p f : Addr) (w : Str) (sc : Sch) (r g d : Int), vs = [.ref p, .str w, .ref f] ∧ SchAt K CC CS H p sc ∧ sc.good ∧ OffAt CO H f r g d ∧ possB r g d = true ∧ -60 ≤ r ∧ r ≤ 60 ∧ -1000000000000 ≤ d ∧ d ≤ 1000000000000 ∧
  (findS sc w = none → ∀ (dx : Addr) (H' : Hp), H dx = none → H' dx = some (.xd [("name", .str w)]) → Same H H' → E (.ref CU) (some dx) H') ∧
  (∀ (j : Nat) (s : Srt), sc.ss[j]? = some s → s.nm = w → ∀ (R G D a b : Int), (0 ≤ r ∧ R = r ∧ G = g ∧ D = d ∧ a = 0 ∧ b = r) ∨ (r < 0 ∧ R = -r ∧ G = -g ∧ D = -d ∧ a = -r ∧ b = 0) → ∀ (Gs : List (Str × List Int)) (y : Addr) (ow : List Addr) (u : Addr) (H' : Hp), AllOk (riseRows sc s R G D (R + 1).toNat) sc.ss Gs → LayAt K CL CT CC CS H' y sc (riseRows sc s R G D (R + 1).toNat) (sc.ss.map fun s => cat s.nm (layP Gs.reverse 0 [])) ow → H' u = some (.tup [.ref y, .int a, .int b]) → Same H H' → Q (.ref u) H')
section
variable {P : Program} {w : World} {K : PySem.W.Frag} {mg : Str → Option Value} {base : Heap}

theorem ok_showing (T : Txt K mg) : FnOk P w K mg base (L2.CX P w) 10 T.f_showing T.d_showing ["scheme", "sort", "offset"] (spShow K T.C_Lay T.C_Table T.C_Scheme T.C_Sort T.C_Offset T.C_UnknownSort) := by
  refine T.F_showing.okX sc_showing (fun vs H Q E h => ?_) (fun cdv A outer s H vs Q E hr h => ?_)
  · obtain ⟨p, f, w, sc, r, g, d, rfl, _⟩ := h
    rfl
  obtain ⟨p, f, w, sc, r, g, d, rfl, o, hg, oF, hb, r0, r1, d0, d1, qE, q⟩ := h
  refine ⟨_, (pss_cons (ps_set (i := 3) sc_showing.nd rfl (by first | exact Or.inl rfl | exact Or.inr rfl) (pe_meth (pv 0) T.c_Scheme T.mt_Scheme_sort_named (ok_Scheme_sort_named T) (hr.mono (by decide)) T.b_Scheme_sort_named .nil (passes_call (takes_of rfl rfl rfl rfl) fun _ _ _ _ h => h) (pa_cons (pv 1) pa_nil)))
      (pss_cons (ps_if (pt_cmpR op_ge (pe_fldK (K := K) (pv 2)) pe_int (nomark _)) (pss_cons (ps_set (i := 4) sc_showing.nd rfl (by first | exact Or.inl rfl | exact Or.inr rfl) (pe_call (ok_rising_rows T) (hr.mono (by decide)) (by rfl) T.g_rising_rows T.F_rising_rows.kp T.b_rising_rows .nil pass0 (pa_cons (pv 0) (pa_cons (pv 3) (pa_cons (pv 2) pa_nil)))))
      (pss_one (ps_ret (pe_tup (pa_cons (pe_call (ok_first_lay T) (hr.mono (by decide)) (by rfl) T.g_first_lay T.F_first_lay.kp T.b_first_lay .nil pass0 (pa_cons (pe_make T.m_Table (ok_Table___init__ T) (hr.mono (by decide)) (by rfl) T.g_Table T.b_Table___init__ .nil (passes_call (takes_of rfl rfl rfl rfl) fun _ _ _ _ h => h) (pa_cons (pv 0) (pa_cons (pv 4) pa_nil))) pa_nil)) (pa_cons pe_int (pa_cons (pe_fldK (K := K) (pv 2)) pa_nil))))))) pss_nil)
      (pss_cons (ps_set (i := 4) sc_showing.nd rfl (by first | exact Or.inl rfl | exact Or.inr rfl) (pe_call (ok_rising_rows T) (hr.mono (by decide)) (by rfl) T.g_rising_rows T.F_rising_rows.kp T.b_rising_rows .nil pass0 (pa_cons (pv 0) (pa_cons (pv 3) (pa_cons (pe_un (un_negO T.mt_Offset___neg__.at_ T.mt_Offset___neg__.fn (ok_Offset___neg__ T) (hr.mono (by decide)) T.b_Offset___neg__ pass0) (pv 2)) pa_nil)))))
      (pss_one (ps_ret (pe_tup (pa_cons (pe_call (ok_first_lay T) (hr.mono (by decide)) (by rfl) T.g_first_lay T.F_first_lay.kp T.b_first_lay .nil pass0 (pa_cons (pe_make T.m_Table (ok_Table___init__ T) (hr.mono (by decide)) (by rfl) T.g_Table T.b_Table___init__ .nil (passes_call (takes_of rfl rfl rfl rfl) fun _ _ _ _ h => h) (pa_cons (pv 0) (pa_cons (pv 4) pa_nil))) pa_nil)) (pa_cons (pe_un un_neg (pe_fldK (K := K) (pv 2))) (pa_cons pe_int pa_nil))))))))), ?_⟩
  try simp only [nox_K, cx_K]
  wtm_at "rd"
  refine sch_who o (by decide +kernel) (by decide +kernel) (by decide +kernel) (by decide +kernel) ?_
  wtm_at "rd"
  refine ⟨p, sc, w, rfl, o, fun hn dx H1 nd hd s1 => qE hn dx H1 nd hd s1, fun x hx ax hax => ?_⟩
  have hm := List.mem_of_find?_eq_some (show sc.ss.find? (fun s => decide (s.nm = w)) = some x from hx)
  have hw : x.nm = w := of_decide_eq_true (List.find?_some (p := fun s : Srt => decide (s.nm = w)) (show sc.ss.find? (fun s => decide (s.nm = w)) = some x from hx))
  obtain ⟨j, hj⟩ := List.getElem?_of_mem hm
  have q := q j x hj hw
  wtm_at "rd"
  refine r_rows T oF ?_
  wtm_at "rd"
  refine r_ite (fun c => ?_) (fun c => ?_)
  · have hb1 := hb
    have oF1 := oF
    wtm_at "rd"
    refine ⟨p, ax, f, sc, x, r, g, d, rfl, o, hg, hm, hax, oF1, hb1, by omega, by omega, fun l us H1 n_l hl hu s1 => ?_⟩
    wtm_at "rd"
    have gr := rise_good hg hm hb1 (by omega) (by omega) (by omega)
    refine make_tbl hg (o.same s1) hl hu gr (by rw [rise_len]; omega) fun t al as H2 n_t n_al n_as s2 oT => ?_
    have s2 := s1.trans s2
    wtm_at "rd"
    refine ⟨t, sc, _, p, al, as, rfl, oT, hg, gr, by rw [rise_len]; omega, fun G y ow H3 hA ny oL fow s3 => ?_⟩
    have s3 := s2.trans s3
    wtm_at "rd"
    refine r_rows T (oF.same s3) ?_
    wtm_at "rd"
    refine r_new rfl fun u n_u => ?_
    generalize eq_u : upd _ u _ = H4
    have s_u : Same _ H4 := eq_u ▸ same_new n_u
    have h_u : H4 u = some _ := eq_u ▸ upd_same
    clear eq_u
    have s3 := s3.trans s_u
    have oL := oL.same s_u
    exact q r g d 0 r (.inl ⟨by omega, rfl, rfl, rfl, rfl, rfl⟩) G y ow u H4 hA oL h_u s3
  · wtm_at "rd"
    refine neg_off oF hb fun f2 H0 n_f2 s0 oF1 => ?_
    have hb1 : possB (-r) (-g) (-d) = true := by rw [poss_neg]; exact hb
    wtm_at "rd"
    refine ⟨p, ax, f2, sc, x, -r, -g, -d, rfl, o.same s0, hg, hm, hax.same s0, oF1, hb1, by omega, by omega, fun l us H1 n_l hl hu s1 => ?_⟩
    have s1 := s0.trans s1
    wtm_at "rd"
    have gr := rise_good hg hm hb1 (by omega) (by omega) (by omega)
    refine make_tbl hg (o.same s1) hl hu gr (by rw [rise_len]; omega) fun t al as H2 n_t n_al n_as s2 oT => ?_
    have s2 := s1.trans s2
    wtm_at "rd"
    refine ⟨t, sc, _, p, al, as, rfl, oT, hg, gr, by rw [rise_len]; omega, fun G y ow H3 hA ny oL fow s3 => ?_⟩
    have s3 := s2.trans s3
    wtm_at "rd"
    refine r_rows T (oF.same s3) ?_
    wtm_at "rd"
    refine r_new rfl fun u n_u => ?_
    generalize eq_u : upd _ u _ = H4
    have s_u : Same _ H4 := eq_u ▸ same_new n_u
    have h_u : H4 u = some _ := eq_u ▸ upd_same
    clear eq_u
    have s3 := s3.trans s_u
    have oL := oL.same s_u
    exact q (-r) (-g) (-d) (-r) 0 (.inr ⟨by omega, rfl, rfl, rfl, rfl, rfl⟩) G y ow u H4 hA oL h_u s3
end

def spTriple : Sp := fun vs H Q _ => ∃ (d c r : Addr), vs = [.ref d] ∧ Drw H d c r ∧ ∀ (R G K : Int) (u : Addr) (H' : Hp), possB R G K = true → -50 ≤ R → R ≤ 50 → -10000000000 ≤ K → K ≤ 10000000000 → H' u = some (.tup [.int R, .int G, .int K]) → Drw H' d c r → Ext d r H H' → Q (.ref u) H'
def spSeatL : Sp := fun vs H Q _ => ∃ (u l a : Addr) (sc : Sch) (s : Srt) (as : List Addr) (rs : List Row) (ns : List Int), vs = [.ref u, .ref l, .ref a] ∧ H u = some (.tup (srtV s)) ∧ sc.good ∧ s ∈ sc.ss ∧ H l = some (.lst (as.map V.ref)) ∧ RowsIn H as rs ∧ (∀ x ∈ rs, GRow sc x) ∧ rs.length ≤ 60 ∧ H a = some (.lst (ns.map V.int)) ∧ ns.length ≤ 100 ∧ (∀ x ∈ ns, 0 ≤ x ∧ x < rs.length) ∧
  ∀ (D : Addr) (us : List Addr) (H' : Hp), H D = none → H' D = some (.lst (us.map V.ref)) → All2 (fun u n => H' u = some (.tup (n.map V.int))) us (alongL (rs.map (seatL s)) ns) → Same H H' → Q (.ref D) H'
section
variable {P : Program} {w : World} {K : PySem.W.Frag} {mg : Str → Option Value} {base : Heap}

theorem ok__law_whole (T : Txt K mg) : FnOk P w K mg base CX0 1 T.f__law_whole T.d__law_whole ["_law_x"] spIsInt := by
  refine T.F__law_whole.ok sc__law_whole (fun vs H Q E h => ?_) (fun cdv A outer s H vs Q E hr h => ?_)
  · obtain ⟨v, rfl, _⟩ := h
    rfl
  obtain ⟨v, rfl, hv, q⟩ := h
  refine ⟨_, (pss_one (ps_ret (pe_and (pe_callB call_isi (by rfl) T.z_isinstance (by decide +kernel) (pa_cons (pv 0) (pa_cons (pe_bltn (v := .ty "int") (u := .type "int") (by rfl) T.z_int (by decide +kernel) rfl) pa_nil))) (pe_one (pe_not (pe_callB call_isi (by rfl) T.z_isinstance (by decide +kernel) (pa_cons (pv 0) (pa_cons (pe_bltn (v := .ty "bool") (u := .type "bool") (by rfl) T.z_bool (by decide +kernel) rfl) pa_nil)))))))), ?_⟩
  try simp only [nox_K, cx_K]
  cases v with
  | non =>
    wtm_at "rd"
    refine r_isi (.ty "int") (.base .non) T.kt_NoneType_int ?_
    wtm_at "rdi"
    exact q
  | bl b =>
    wtm_at "rd"
    refine r_isi (.ty "int") (.base (.bl _)) T.kt_bool_int ?_
    wtm_at "rdi"
    refine r_isi (.ty "bool") (.base (.bl _)) kit_self ?_
    wtm_at "rdi"
    exact q
  | int i =>
    wtm_at "rd"
    refine r_isi (.ty "int") (.base (.int _)) kit_self ?_
    wtm_at "rdi"
    refine r_isi (.ty "bool") (.base (.int _)) T.kt_int_bool ?_
    wtm_at "rdi"
    exact q
  | str x =>
    wtm_at "rd"
    refine r_isi (.ty "int") (.base (.str _)) T.kt_str_int ?_
    wtm_at "rdi"
    exact q
  | byt b => cases hv
  | flt b => cases hv
  | ref a => cases hv
  | ty n => cases hv

theorem ok__law_triple (T : Txt K mg) : FnOk P w K mg base CX0 2 T.f__law_triple T.d__law_triple ["_law_draws"] spTriple := by
  refine T.F__law_triple.ok sc__law_triple (fun vs H Q E h => ?_) (fun cdv A outer s H vs Q E hr h => ?_)
  · obtain ⟨d, c, r, rfl, _⟩ := h
    rfl
  obtain ⟨d, c, r, rfl, D, q⟩ := h
  refine ⟨_, (pss_cons (ps_set (i := 1) sc__law_triple.nd rfl (by first | exact Or.inl rfl | exact Or.inr rfl) (pe_call (ok__law_draw T) (hr.mono (by decide)) (by rfl) T.g__law_draw T.F__law_draw.kp T.b__law_draw .nil pass0 (pa_cons (pv 0) (pa_cons pe_int pa_nil))))
      (pss_cons (ps_if (pt_cmpR op_eq (pv 1) pe_int (nomark _)) (pss_one (ps_ret (pe_tup (pa_cons pe_int (pa_cons pe_int (pa_cons pe_int pa_nil)))))) pss_nil)
      (pss_cons (ps_set (i := 2) sc__law_triple.nd rfl (by first | exact Or.inl rfl | exact Or.inr rfl) (pe_op op_add pe_int (pe_call (ok__law_draw T) (hr.mono (by decide)) (by rfl) T.g__law_draw T.F__law_draw.kp T.b__law_draw .nil pass0 (pa_cons (pv 0) (pa_cons (pe_ix (r := rIxL K) ix_list (pe_lst (pa_cons pe_int (pa_cons pe_int (pa_cons pe_int pa_nil)))) (pe_call (ok__law_draw T) (hr.mono (by decide)) (by rfl) T.g__law_draw T.F__law_draw.kp T.b__law_draw .nil pass0 (pa_cons (pv 0) (pa_cons pe_int pa_nil))) (fun _ _ => rfl)) pa_nil)))))
      (pss_cons (ps_if (pt_cmpR op_lt (pv 1) pe_int (nomark _)) (pss_one (ps_ret (pe_tup (pa_cons (pe_ix (r := rIxL K) ix_list (pe_lst (pa_cons (pv 2) (pa_cons (pe_op op_sub pe_int (pv 2)) pa_nil))) (pe_op op_sub (pv 1) pe_int) (fun _ _ => rfl)) (pa_cons pe_int (pa_cons pe_int pa_nil)))))) pss_nil)
      (pss_cons (ps_set (i := 3) sc__law_triple.nd rfl (by first | exact Or.inl rfl | exact Or.inr rfl) (pe_op op_add pe_int (pe_call (ok__law_draw T) (hr.mono (by decide)) (by rfl) T.g__law_draw T.F__law_draw.kp T.b__law_draw .nil pass0 (pa_cons (pv 0) (pa_cons (pv 2) pa_nil)))))
      (pss_cons (ps_set (i := 4) sc__law_triple.nd rfl (by first | exact Or.inl rfl | exact Or.inr rfl) (pe_ix (r := rIxL K) ix_list (pe_lst (pa_cons (pv 3) (pa_cons (pe_op op_add (pv 3) (pe_call (ok__law_draw T) (hr.mono (by decide)) (by rfl) T.g__law_draw T.F__law_draw.kp T.b__law_draw .nil pass0 (pa_cons (pv 0) (pa_cons pe_int pa_nil)))) (pa_cons (pe_op op_add (pv 3) (pe_call (ok__law_draw T) (hr.mono (by decide)) (by rfl) T.g__law_draw T.F__law_draw.kp T.b__law_draw .nil pass0 (pa_cons (pv 0) (pa_cons (pe_op op_sub (pe_op op_pow pe_int pe_int) pe_int) pa_nil)))) (pa_cons (pe_op op_pow pe_int pe_int) pa_nil))))) (pe_call (ok__law_draw T) (hr.mono (by decide)) (by rfl) T.g__law_draw T.F__law_draw.kp T.b__law_draw .nil pass0 (pa_cons (pv 0) (pa_cons pe_int pa_nil))) (fun _ _ => rfl)))
      (pss_cons (ps_if (pt_cmpR op_eq (pv 1) pe_int (nomark _)) (pss_one (ps_ret (pe_tup (pa_cons (pv 2) (pa_cons (pv 3) (pa_cons (pv 4) pa_nil)))))) pss_nil)
      (pss_one (ps_ret (pe_tup (pa_cons (pe_op op_sub pe_int (pv 2)) (pa_cons (pe_op op_sub pe_int (pv 3)) (pa_cons (pe_op op_sub pe_int (pv 4)) pa_nil))))))))))))), ?_⟩
  try simp only [nox_K, cx_K]
  wtm_at "rd"
  refine ⟨d, c, r, 5, rfl, D, by decide, by decide, fun w H1 w0 w1 D1 E1 => ?_⟩
  wtm_at "rd"
  refine r_ite (fun c1 => ?_) (fun c1 => ?_)
  · wtm_at "rd"
    refine r_new rfl fun u n_u => ?_
    generalize eq_u : upd _ u _ = H2
    have s_u : Same _ H2 := eq_u ▸ same_new n_u
    have h_u : H2 u = some _ := eq_u ▸ upd_same
    clear eq_u
    have D1 := D1.same s_u
    have E1 := E1.trans (Ext.of s_u)
    exact q 0 0 0 u H2 (by decide) (by decide) (by decide) (by decide) (by decide) h_u D1 E1
  wtm_at "rd"
  refine r_new rfl fun l n_l => ?_
  have ld := D1.ned n_l
  have lr := D1.ner n_l
  generalize eq_l : upd _ l _ = H2
  have s_l : Same _ H2 := eq_l ▸ same_new n_l
  have h_l : H2 l = some _ := eq_l ▸ upd_same
  clear eq_l
  have D1 := D1.same s_l
  have E1 := E1.trans (Ext.of s_l)
  wtm_at "rd"
  refine ⟨d, c, r, 3, rfl, D1, by decide, by decide, fun j H3 j0 j1 D3 E3 => ?_⟩
  have h_l := E3 _ _ h_l ld lr
  have E3 := E1.trans E3
  obtain ⟨m, hm, m1, m2⟩ : ∃ m : Int, atI [V.int 3, .int 12, .int 40] j = some (.int m) ∧ 1 ≤ m ∧ m ≤ 40 := by
    obtain rfl | rfl | rfl : j = 0 ∨ j = 1 ∨ j = 2 := by omega
    · exact ⟨3, rfl, by decide, by decide⟩
    · exact ⟨12, rfl, by decide, by decide⟩
    · exact ⟨40, rfl, by decide, by decide⟩
  refine r_ixL (SqL.of h_l) hm ?_
  wtm_at "rd"
  refine ⟨d, c, r, m, rfl, D3, by omega, by omega, fun k H4 k0 k1 D4 E4 => ?_⟩
  have E4 := E3.trans E4
  wtm_at "rd"
  refine r_ite (fun c2 => ?_) (fun c2 => ?_)
  · wtm_at "rd"
    refine r_new rfl fun l2 n_l2 => ?_
    generalize eq_l2 : upd _ l2 _ = H5
    have s_l2 : Same _ H5 := eq_l2 ▸ same_new n_l2
    have h_l2 : H5 l2 = some _ := eq_l2 ▸ upd_same
    clear eq_l2
    have D4 := D4.same s_l2
    have E4 := E4.trans (Ext.of s_l2)
    obtain ⟨x, hx, x1, x2⟩ : ∃ x : Int, atI [V.int (1 + k), .int (0 - (1 + k))] (w - 1) = some (.int x) ∧ -50 ≤ x ∧ x ≤ 50 := by
      obtain rfl | rfl : w = 1 ∨ w = 2 := by omega
      · exact ⟨1 + k, rfl, by omega, by omega⟩
      · exact ⟨0 - (1 + k), rfl, by omega, by omega⟩
    wtm_at "rd"
    refine r_ixL (SqL.of h_l2) hx ?_
    wtm_at "rd"
    refine r_new rfl fun u n_u => ?_
    generalize eq_u : upd _ u _ = H6
    have s_u : Same _ H6 := eq_u ▸ same_new n_u
    have h_u : H6 u = some _ := eq_u ▸ upd_same
    clear eq_u
    have D4 := D4.same s_u
    have E4 := E4.trans (Ext.of s_u)
    exact q x 0 0 u H6 (decide_eq_true (.inl ⟨rfl, rfl⟩)) x1 x2 (by decide) (by decide) h_u D4 E4
  wtm_at "rd"
  refine ⟨d, c, r, 1 + k, rfl, D4, by omega, by omega, fun g0 H5 g00 g01 D5 E5 => ?_⟩
  have E5 := E4.trans E5
  wtm_at "rd"
  refine ⟨d, c, r, 4, rfl, D5, by decide, by decide, fun a1 H6 a10 a11 D6 E6 => ?_⟩
  have E6 := E5.trans E6
  wtm_at "rd"
  refine r_p10 (n := 10000000000) (by decide) (by decide) rfl ?_
  wtm_at "rd"
  refine ⟨d, c, r, _, rfl, D6, by decide, by decide, fun a2 H7 a20 a21 D7 E7 => ?_⟩
  have E7 := E6.trans E7
  wtm_at "rd"
  refine r_p10 (n := 10000000000) (by decide) (by decide) rfl ?_
  wtm_at "rd"
  refine r_new rfl fun l3 n_l3 => ?_
  have ld3 := D7.ned n_l3
  have lr3 := D7.ner n_l3
  generalize eq_l3 : upd _ l3 _ = H8
  have s_l3 : Same _ H8 := eq_l3 ▸ same_new n_l3
  have h_l3 : H8 l3 = some _ := eq_l3 ▸ upd_same
  clear eq_l3
  have D7 := D7.same s_l3
  have E7 := E7.trans (Ext.of s_l3)
  wtm_at "rd"
  refine ⟨d, c, r, 4, rfl, D7, by decide, by decide, fun j2 H9 j20 j21 D9 E9 => ?_⟩
  have h_l3 := E9 _ _ h_l3 ld3 lr3
  have E9 := E7.trans E9
  obtain ⟨x, hx, x1, x2⟩ : ∃ x : Int, atI [V.int (1 + g0), .int (1 + g0 + a1), .int (1 + g0 + a2), .int 10000000000] j2 = some (.int x) ∧ 1 + g0 ≤ x ∧ x ≤ 10000000000 := by
    obtain rfl | rfl | rfl | rfl : j2 = 0 ∨ j2 = 1 ∨ j2 = 2 ∨ j2 = 3 := by omega
    · exact ⟨1 + g0, rfl, by omega, by omega⟩
    · exact ⟨1 + g0 + a1, rfl, by omega, by omega⟩
    · exact ⟨1 + g0 + a2, rfl, by omega, by omega⟩
    · exact ⟨10000000000, rfl, by omega, by omega⟩
  refine r_ixL (SqL.of h_l3) hx ?_
  wtm_at "rd"
  refine r_ite (fun c3 => ?_) (fun c3 => ?_)
  · wtm_at "rd"
    refine r_new rfl fun u n_u => ?_
    generalize eq_u : upd _ u _ = H10
    have s_u : Same _ H10 := eq_u ▸ same_new n_u
    have h_u : H10 u = some _ := eq_u ▸ upd_same
    clear eq_u
    have D9 := D9.same s_u
    have E9 := E9.trans (Ext.of s_u)
    exact q (1 + k) (1 + g0) x u H10 (decide_eq_true (.inr (.inr ⟨by omega, by omega, by omega⟩))) (by omega) (by omega) (by omega) (by omega) h_u D9 E9
  · wtm_at "rd"
    refine r_new rfl fun u n_u => ?_
    generalize eq_u : upd _ u _ = H10
    have s_u : Same _ H10 := eq_u ▸ same_new n_u
    have h_u : H10 u = some _ := eq_u ▸ upd_same
    clear eq_u
    have D9 := D9.same s_u
    have E9 := E9.trans (Ext.of s_u)
    exact q (0 - (1 + k)) (0 - (1 + g0)) (0 - x) u H10 (decide_eq_true (.inr (.inl ⟨by omega, by omega, by omega⟩))) (by omega) (by omega) (by omega) (by omega) h_u D9 E9
theorem ok__law_seat_list (T : Txt K mg) : FnOk P w K mg base CX0 2 T.f__law_seat_list T.d__law_seat_list ["_law_one", "_law_rows", "_law_order"] spSeatL := by
  refine T.F__law_seat_list.ok sc__law_seat_list (fun vs H Q E h => ?_) (fun cdv A outer s H vs Q E hr h => ?_)
  · obtain ⟨u, l, a, sc, sr, as, rs, ns, rfl, _⟩ := h
    rfl
  obtain ⟨u, l, a, sc, sr, as, rs, ns, rfl, hu, hg, hs, hl, hr0, hG, lz, ha, ln, n2, q⟩ := h
  refine ⟨_, (pss_one (ps_ret (pe_lc (own := [("_law_who", 3)]) (g := gName 3) (tt := tYes) rfl sc__law_seat_list.nd (pi_list (pv 2)) (blkOk_by (N := ["_law_one", "_law_rows", "_law_order", "_law_who"]) (sc := defScope s__law_seat_list) (by decide +kernel)) (fun _ _ _ _ _ => pg_name (i := 3) sc__law_seat_list.nd rfl (by first | exact Or.inl rfl | exact Or.inr rfl)) (fun _ _ _ _ _ => pts_nil) (fun _ _ _ _ _ => (pe_tup (pa_cons (pe_call (ok__law_hall T) (hr.mono (by decide)) (by rfl) T.g__law_hall T.F__law_hall.kp T.b__law_hall .nil pass0 (pa_cons (pv 0) (pa_cons (pe_ix (r := rIxL K) ix_list (pv 1) (pv 3) (fun _ _ => rfl)) pa_nil))) (pa_cons (pe_call (ok__law_key T) (hr.mono (by decide)) (by rfl) T.g__law_key T.F__law_key.kp T.b__law_key .nil pass0 (pa_cons (pv 0) (pa_cons (pe_ix (r := rIxL K) ix_list (pv 1) (pv 3) (fun _ _ => rfl)) pa_nil))) pa_nil))))))), ?_⟩
  try simp only [nox_K, cx_K]
  have la := All2.len hr0
  wtm_at "rd"
  refine r_itl (SqL.of ha) ?_
  refine lc_tups (fun v => (seatL sr (rs.getD (intV v).toNat [])).map V.int) (SqL.of ha) (by rw [List.length_map]; omega) (fun v H' QQ hv s' hQ => ?_) fun D us H3 nD lu hD hus s3 => ?_
  · obtain ⟨x, hx, rfl⟩ := List.mem_map.mp hv
    have bx := n2 x hx
    obtain ⟨b, hat, gb⟩ := (RowsIn.same hr0 s').at_ix (i := x.toNat) (by omega)
    rw [show (0 : Int) + ((x.toNat : Nat) : Int) = x by omega] at hat
    have gr := hG _ (getD_mem (l := rs) (d := []) (show x.toNat < rs.length by omega))
    wtm_at "rd"
    refine r_ixL (SqL.of (s' _ _ hl)) hat ?_
    refine ⟨u, b, sc, sr, _, rfl, s' _ _ hu, gb, hg, hs, gr, ?_⟩
    wtm_at "rd"
    refine r_ixL (SqL.of (s' _ _ hl)) hat ?_
    refine ⟨u, b, sc, sr, _, rfl, s' _ _ hu, gb, hg, hs, gr, ?_⟩
    wtm_at "rd"
    exact r_new rfl fun t nt => hQ t _ nt upd_same (same_new nt)
  rw [List.length_map] at lu
  have hA : All2 (fun u n => H3 u = some (.tup (n.map V.int))) us (alongL (rs.map (seatL sr)) ns) := by
    refine ⟨by rw [lu, alongL, List.length_map], fun j u n e1 e2 => ?_⟩
    rw [alongL, List.getElem?_map] at e2
    obtain ⟨x, hx, rfl⟩ := Option.map_eq_some_iff.mp e2
    rw [hus j u (.int x) e1 (by rw [List.getElem?_map, hx]; rfl)]
    have bx := n2 x (List.mem_of_getElem? hx)
    show some (HO.tup ((seatL sr (rs.getD x.toNat [])).map V.int)) = _
    rw [List.getD_eq_getElem?_getD, List.getD_eq_getElem?_getD, List.getElem?_map, List.getElem?_eq_getElem (show x.toNat < rs.length by omega)]
    rfl
  exact q D us H3 nD hD hA s3
theorem ok__law_fits (T : Txt K mg) : FnOk P w K mg base CX0 3 T.f__law_fits T.d__law_fits ["_law_one", "_law_rows", "_law_order"] spFits := by
  refine T.F__law_fits.ok sc__law_fits (fun vs H Q E h => ?_) (fun cdv A outer s H vs Q E hr h => ?_)
  · obtain ⟨u, l, a, sc, sr, as, rs, ns, rfl, _⟩ := h
    rfl
  obtain ⟨u, l, a, sc, sr, as, rs, ns, rfl, hu, hg, hs, hl, hr0, hG, lz, ha, ln, q⟩ := h
  refine ⟨_, (pss_cons (ps_if (pt_cmpR (r := rNeD K) (op_neD hr.units) (pe_callB (r := rSortedI K) cr_sortedI (by rfl) T.z_sorted (by decide +kernel) (pa_cons (pv 2) pa_nil)) (pe_listRg rfl (by rfl) T.z_list (prg_1 (by rfl) T.z_range (pe_callB (r := rLenL K) (id := "len") c_len (by rfl) T.z_len (by decide +kernel) (pa_cons (pv 1) pa_nil)))) (nomark _)) (pss_one (ps_ret pe_bl)) pss_nil)
      (pss_cons (ps_set (i := 3) sc__law_fits.nd rfl (by first | exact Or.inl rfl | exact Or.inr rfl) (pe_call (ok__law_seat_list T) (hr.mono (by decide)) (by rfl) T.g__law_seat_list T.F__law_seat_list.kp T.b__law_seat_list .nil pass0 (pa_cons (pv 0) (pa_cons (pv 1) (pa_cons (pv 2) pa_nil)))))
      (pss_one (ps_ret (pe_cmpR (r := rEqD K) (op_eqD hr.units) (pv 3) (pe_callB (r := rSortedT K) cr_sortedT (by rfl) T.z_sorted (by decide +kernel) (pa_cons (pv 3) pa_nil)) (nomark _)))))), ?_⟩
  try simp only [nox_K, cx_K]
  have la := All2.len hr0
  wtm_at "rd"
  refine ⟨a, ns, rfl, SqL.of ha, fun ms sl hp hsr n_sl => ?_⟩
  generalize eq_sl : upd _ sl _ = H1
  have s_sl : Same _ H1 := eq_sl ▸ same_new n_sl
  have h_sl : H1 sl = some _ := eq_sl ▸ upd_same
  clear eq_sl
  have hu := s_sl _ _ hu
  have hl := s_sl _ _ hl
  have ha := s_sl _ _ ha
  have hr1 := RowsIn.same hr0 s_sl
  wtm_at "rd"
  refine r_lstRg ?_
  wtm_at "rd"
  refine r_lenR hl ?_
  rw [la]
  refine ⟨_, rfl, ⟨by omega, by omega, by omega, by omega, by omega⟩, fun rl n_rl => ?_⟩
  rw [rgV_range]
  generalize eq_rl : upd _ rl _ = H2
  have s_rl : Same _ H2 := eq_rl ▸ same_new n_rl
  have h_rl : H2 rl = some _ := eq_rl ▸ upd_same
  clear eq_rl
  have hu := s_rl _ _ hu
  have hl := s_rl _ _ hl
  have ha := s_rl _ _ ha
  have h_sl := s_rl _ _ h_sl
  have s_sl := s_sl.trans s_rl
  have hr2 := RowsIn.same hr1 s_rl
  refine r_neLL (SqL.of h_sl) (SqL.of h_rl) ints_eqD ints_eqD ints_kind ?_
  wtm_at "rd"
  refine r_iten (fun c1 => ?_) (fun c1 => ?_)
  · wtm_at "rd"
    refine bl_to (q _ s_sl) ?_
    unfold fitB
    rw [num_sorted hp hsr, decide_eq_false fun z => c1 (by rw [z]), Bool.false_and]
  have hnum : isNumB ns rs.length = true := by rw [num_sorted hp hsr, decide_eq_true ((List.map_inj_right fun _ _ z => V.int.inj z).mp c1)]
  obtain ⟨n1, n2, n3⟩ := of_decide_eq_true hnum
  wtm_at "rd"
  refine ⟨u, l, a, sc, sr, as, rs, ns, rfl, hu, hg, hs, hl, hr2, hG, lz, ha, ln, n2, fun D us H3 nD hD hA s3 => ?_⟩
  have hk : ∀ v ∈ us.map V.ref, (tupI H3 v).length = 2 ∧ ∃ t, v = .ref t ∧ H3 t = some (.tup ((tupI H3 v).map V.int)) := fun v hv => by
    obtain ⟨t, ht, rfl⟩ := List.mem_map.mp hv
    obtain ⟨j, hj⟩ := List.getElem?_of_mem ht
    obtain ⟨n, hn, e⟩ := hA.get hj
    rw [tupI_at e]
    refine ⟨?_, t, rfl, e⟩
    rw [alongL, List.getElem?_map] at hn
    obtain ⟨x, hx, rfl⟩ := Option.map_eq_some_iff.mp hn
    have bx := n2 x (List.mem_of_getElem? hx)
    rw [List.getD_eq_getElem?_getD, List.getElem?_map, List.getElem?_eq_getElem (show x.toNat < rs.length by omega)]
    rfl
  wtm_at "rd"
  have lu := hA.len
  refine ⟨D, us.map V.ref, tupI H3, 2, rfl, SqL.of hD, by decide, hk, fun ys p hsrt hstb n_p => ?_⟩
  have hper := hstb.perm
  obtain ⟨ys', rfl⟩ : ∃ ys' : List Addr, ys = ys'.map V.ref := by
    refine ⟨ys.map fun v => match v with | .ref t => t | _ => 0, ?_⟩
    rw [List.map_map]
    refine (List.map_id' _).symm.trans (List.map_congr_left fun v hv => ?_)
    obtain ⟨t, _, rfl⟩ := List.mem_map.mp (hper.mem_iff.mp hv)
    rfl
  have hB : All2 (fun u n => H3 u = some (.tup (n.map V.int))) ys' (ys'.map fun t => tupI H3 (.ref t)) := by
    refine ⟨by rw [List.length_map], fun j u n e1 e2 => ?_⟩
    rw [List.getElem?_map, e1] at e2
    cases e2
    obtain ⟨_, t, e, z⟩ := hk (.ref u) (hper.mem_iff.mp (List.mem_map.mpr ⟨u, List.mem_of_getElem? e1, rfl⟩))
    cases e
    exact z
  have eA : us.map (fun t => tupI H3 (.ref t)) = alongL (rs.map (seatL sr)) ns := by
    have z := hA.map (f := fun t => tupI H3 (.ref t)) (k := fun n => n) fun a b e => tupI_at e
    rw [List.map_id'] at z
    exact z
  have hpr : (ys'.map fun t => tupI H3 (.ref t)).Perm (alongL (rs.map (seatL sr)) ns) := by
    rw [← eA]
    have z := hper.map (tupI H3)
    rw [List.map_map, List.map_map] at z
    exact z
  have hsr2 : (ys'.map fun t => tupI H3 (.ref t)).Pairwise (fun a b => SrT.lexL b a = false) := List.pairwise_map.mpr (List.pairwise_map.mp hsrt)
  generalize eq_p : upd _ p _ = H4
  have s_p : Same _ H4 := eq_p ▸ same_new n_p
  have h_p : H4 p = some _ := eq_p ▸ upd_same
  clear eq_p
  have hD := s_p _ _ hD
  have s34 := s_p
  refine ⟨tupsD _, tupsD _, .lst (SqL.of hD) (dp_tups (hA.imp fun _ _ z => s_p _ _ z)), .lst (SqL.of h_p) (dp_tups (hB.imp fun _ _ z => s_p _ _ z)), shaped_tups _, shaped_tups _, ?_⟩
  refine bl_to (q _ ((s_sl.trans s3).trans s_p)) ?_
  show PyData.eqvAll _ _ = _
  rw [eqv_tups]
  unfold fitB
  rw [hnum, Bool.true_and, sortB_self hpr hsr2]
end
theorem idx_first {l : List Int} {x y : Int} {m : Nat} (hm : m < l.idxOf x) (h : l[m]? = some y) : ¬ y = x := fun e => by
  have := List.not_of_lt_findIdx (p := fun z => z == x) (xs := l) (i := m) hm
  rw [(List.getElem?_eq_some_iff.mp h).2, e] at this
  exact Bool.noConfusion ((beq_self_eq_true x).symm.trans this)
theorem r_index {K : PySem.W.Frag} {H : Hp} {Q : VK} {a : Addr} {l : List Int} {x : Int} (ha : H a = some (.lst (l.map V.int))) (hx : l[l.idxOf x]? = some x) (q : Q (.int (plI l x)) H) : rIndex K (.ref a) [.int x] H Q := by
  refine ⟨a, _, _, l.idxOf x, .int x, rfl, rfl, SqL.of ha, rfl, ?_, ?_, ?_, fun m z hm hz => ?_, q⟩
  · exact List.all_eq_true.mpr fun v hv => by
      obtain ⟨x, _, rfl⟩ := List.mem_map.mp hv
      rfl
  · rw [List.getElem?_map, hx]
    rfl
  · exact beq_self_eq_true _
  · rw [List.getElem?_map] at hz
    obtain ⟨y, hy, rfl⟩ := Option.map_eq_some_iff.mp hz
    exact beq_eq_false_iff_ne.mpr (idx_first hm hy)
def offT (rs : List Row) (s : Srt) (l : List Int) (a b : Int) : List V := [.int (plI l b - plI l a), .int (grI rs s l b - grI rs s l a), .int (kyI rs s b - kyI rs s a), .str (zoneS (plI l b - plI l a) (grI rs s l b - grI rs s l a))]
structure RowArg (H : Hp) (u rl ol : Addr) (sc : Sch) (s : Srt) (as : List Addr) (rs : List Row) (l : List Int) : Prop where
  t : H u = some (.tup (srtV s))
  g : sc.good
  m : s ∈ sc.ss
  r : H rl = some (.lst (as.map V.ref))
  i : RowsIn H as rs
  G : ∀ x ∈ rs, GRow sc x
  z : rs.length ≤ 60
  o : H ol = some (.lst (l.map V.int))
  f : fitB rs s l = true
def seI (rs : List Row) (s : Srt) (x : Int) : List Int := [haI rs s x, kyI rs s x]
theorem seat_at {rs : List Row} {s : Srt} {x : Int} (h0 : 0 ≤ x) (h1 : x < rs.length) : (rs.map (seatL s)).getD x.toNat [] = seI rs s x := by
  have hl : x.toNat < rs.length := by omega
  rw [List.getD_eq_getElem?_getD, List.getElem?_map, List.getElem?_eq_getElem hl]
  show seatL s rs[x.toNat] = [hallI s (rs.getD x.toNat []), keyI s (rs.getD x.toNat [])]
  rw [List.getD_eq_getElem?_getD, List.getElem?_eq_getElem hl]
  rfl
theorem al_seats {rs : List Row} {s : Srt} {l : List Int} (h : ∀ x ∈ l, 0 ≤ x ∧ x < rs.length) : alongL (rs.map (seatL s)) l = l.map (seI rs s) := List.map_congr_left fun x hx => seat_at (h x hx).1 (h x hx).2
def rkL (rs : List Row) (s : Srt) (l : List Int) (n : Nat) : List Int := (List.range n).map (rankAt (alL rs s l))
theorem rkL_succ (rs : List Row) (s : Srt) (l : List Int) (n : Nat) : rkL rs s l (n + 1) = rkL rs s l n ++ [rankAt (alL rs s l) n] := by
  unfold rkL
  rw [List.range_succ, List.map_append]
  rfl
theorem rkL_at {rs : List Row} {s : Srt} {l : List Int} {n j : Nat} (h : j < n) : (rkL rs s l n)[j]? = some (rankAt (alL rs s l) j) := by
  unfold rkL
  rw [List.getElem?_map, List.getElem?_range h]
  rfl
theorem rkL_len (rs : List Row) (s : Srt) (l : List Int) (n : Nat) : (rkL rs s l n).length = n := by rw [rkL, List.length_map, List.length_range]
theorem rank_next {rs : List Row} {s : Srt} {l : List Int} (h : fitB rs s l = true) {k : Nat} {x x' : Int} (e1 : l[k]? = some x) (e2 : l[k + 1]? = some x') : rankAt (alL rs s l) (k + 1) = rankAt (alL rs s l) k + if seI rs s x' = seI rs s x then 0 else 1 := by
  show rankAt (alL rs s l) k + (if (alL rs s l)[k + 1]? = (alL rs s l)[k]? then 0 else 1) = _
  rw [al_at h e1, al_at h e2]
  show rankAt (alL rs s l) k + (if some (seI rs s x') = some (seI rs s x) then 0 else 1) = _
  by_cases c : seI rs s x' = seI rs s x
  · rw [if_pos c, if_pos (congrArg some c)]
  · rw [if_neg c, if_neg fun z => c (Option.some.inj z)]
theorem off_call {K : PySem.W.Frag} {CL CT CC CS CN CU CO : Addr} {H : Hp} {Q : VK} {E : XK} {y : Addr} {sc : Sch} {rs : List Row} {ls : List (List Int)} {ow : List Addr} {w : Str} {a b : Int} {j : Nat} {s : Srt} {l : List Int} (oL : LayAt K CL CT CC CS H y sc rs ls ow) (hg : sc.good) (lz : rs.length ≤ 1000) (hs : sc.ss[j]? = some s) (hl : ls[j]? = some l) (ew : w = s.nm) (a1 : 0 ≤ a ∧ a < rs.length) (b1 : 0 ≤ b ∧ b < rs.length)
    (qn : ¬ haI rs s a = haI rs s b → ∀ H', Same H H' → Q .non H') (q : haI rs s a = haI rs s b → ∀ x H', H x = none → Same H H' → OffAt CO H' x (plI l b - plI l a) (grI rs s l b - grI rs s l a) (kyI rs s b - kyI rs s a) → Q (.ref x) H') : spLayOff K CL CT CC CS CN CU CO [.ref y, .str w, .int a, .int b] H Q E :=
  ⟨y, sc, rs, ls, ow, w, a, b, rfl, oL, hg, lz, fun hn => (by rw [ew, find_name hg hs] at hn; cases hn), fun _ k _ hk => (by rw [num_of a1 b1] at hk; cases hk), fun i s' l' e1 e2 e3 _ _ => by
    obtain rfl := name_idx hg hs e1 (e2.trans ew)
    rw [hs] at e1
    cases e1
    rw [hl] at e3
    cases e3
    exact ⟨qn, q⟩⟩

def spSeen : Sp := fun vs H Q _ => ∃ (u l o : Addr) (a b : Int) (sc : Sch) (s : Srt) (as : List Addr) (rs : List Row) (li : List Int), vs = [.ref u, .ref l, .ref o, .int a, .int b] ∧ H u = some (.tup (srtV s)) ∧ sc.good ∧ s ∈ sc.ss ∧ H l = some (.lst (as.map V.ref)) ∧ RowsIn H as rs ∧ (∀ x ∈ rs, GRow sc x) ∧ rs.length ≤ 60 ∧ H o = some (.lst (li.map V.int)) ∧ fitB rs s li = true ∧ (0 ≤ a ∧ a < rs.length) ∧ (0 ≤ b ∧ b < rs.length) ∧ haI rs s a = haI rs s b ∧
  ∀ (v : Addr) (H' : Hp), H' v = some (.tup [.int (plI li b - plI li a), .int (grI rs s li b - grI rs s li a), .int (kyI rs s b - kyI rs s a)]) → Same H H' → Q (.ref v) H'
section
variable {P : Program} {w : World} {K : PySem.W.Frag} {mg : Str → Option Value} {base : Heap}

theorem ok__law_seen (T : Txt K mg) : FnOk P w K mg base CX0 3 T.f__law_seen T.d__law_seen ["_law_one", "_law_rows", "_law_order", "_law_r", "_law_j"] spSeen := by
  refine T.F__law_seen.ok sc__law_seen (fun vs H Q E h => ?_) (fun cdv A outer s H vs Q E hr h => ?_)
  · obtain ⟨u, l, o, a, b, sc, sr, as, rs, li, rfl, _⟩ := h
    rfl
  obtain ⟨u, l, o, a, b, sc, sr, as, rs, li, rfl, hu, hg, hm, hl, hr0, hG, lz, ho, hfi, a1, b1, hab, q⟩ := h
  refine ⟨_, (pss_cons (ps_set (i := 5) sc__law_seen.nd rfl (by first | exact Or.inl rfl | exact Or.inr rfl) (pe_call (ok__law_seat_list T) (hr.mono (by decide)) (by rfl) T.g__law_seat_list T.F__law_seat_list.kp T.b__law_seat_list .nil pass0 (pa_cons (pv 0) (pa_cons (pv 1) (pa_cons (pv 2) pa_nil)))))
      (pss_cons (ps_set (i := 6) sc__law_seen.nd rfl (by first | exact Or.inl rfl | exact Or.inr rfl) (pe_lst (pa_cons pe_int pa_nil)))
      (pss_cons (ps_for PassesOwn.never rfl (pi_range2 (by rfl) T.z_range (pa_cons pe_int (pa_cons (pe_callB (r := rLenL K) (id := "len") c_len (by rfl) T.z_len (by decide +kernel) (pa_cons (pv 5) pa_nil)) pa_nil))) (pg_name (i := 7) sc__law_seen.nd rfl (by first | exact Or.inl rfl | exact Or.inr rfl)) (pss_one (ps_expr (pe_bm PySem.F.plainAttrs_list PySem.F.slot_list_append PySem.F.type_list_append mt_append (pv 6) (pa_cons (pe_op op_add (pe_ix (r := rIxL K) ix_list (pv 6) (pe_un un_neg pe_int) (fun _ _ => rfl)) (pe_callTy c_intB (by rfl) T.z_int (by decide +kernel) (pa_cons (pe_cmpR (r := rNeD K) (op_neD hr.units) (pe_ix (r := rIxL K) ix_list (pv 5) (pv 7) (fun _ _ => rfl)) (pe_ix (r := rIxL K) ix_list (pv 5) (pe_op op_sub (pv 7) pe_int) (fun _ _ => rfl)) (nomark _)) pa_nil))) pa_nil)))))
      (pss_cons (ps_par (i := 8) (j := 9) (by rfl) sc__law_seen.nd rfl rfl (by decide) rfl rfl (pa_cons (pe_indexK (K := K) rfl (pv 2) (pa_cons (pv 3) pa_nil)) (pa_cons (pe_indexK (K := K) rfl (pv 2) (pa_cons (pv 4) pa_nil)) pa_nil)) (by rfl))
      (pss_cons (ps_if (pt_cmpR op_ne (pe_ix (r := rIxT K) ix_tup (pe_ix (r := rIxL K) ix_list (pv 5) (pv 8) (fun _ _ => rfl)) pe_int (fun _ _ => rfl)) (pe_ix (r := rIxT K) ix_tup (pe_ix (r := rIxL K) ix_list (pv 5) (pv 9) (fun _ _ => rfl)) pe_int (fun _ _ => rfl)) (nomark _)) (pss_one (ps_ret pe_non)) pss_nil)
      (pss_one (ps_ret (pe_tup (pa_cons (pe_op op_sub (pv 9) (pv 8)) (pa_cons (pe_op op_sub (pe_ix (r := rIxL K) ix_list (pv 6) (pv 9) (fun _ _ => rfl)) (pe_ix (r := rIxL K) ix_list (pv 6) (pv 8) (fun _ _ => rfl))) (pa_cons (pe_op op_sub (pe_ix (r := rIxT K) ix_tup (pe_ix (r := rIxL K) ix_list (pv 5) (pv 9) (fun _ _ => rfl)) pe_int (fun _ _ => rfl)) (pe_ix (r := rIxT K) ix_tup (pe_ix (r := rIxL K) ix_list (pv 5) (pv 8) (fun _ _ => rfl)) pe_int (fun _ _ => rfl))) pa_nil))))))))))), ?_⟩
  try simp only [nox_K, cx_K]
  obtain ⟨n1, n2, n3⟩ := of_decide_eq_true (fit_num hfi)
  wtm_at "rd"
  refine ⟨u, l, o, sc, sr, as, rs, li, rfl, hu, hg, hm, hl, hr0, hG, lz, ho, by omega, n2, fun A us H3 nA hA hus s3 => ?_⟩
  rw [al_seats n2] at hus
  have lu : us.length = li.length := by rw [hus.len, List.length_map]
  have hat : ∀ {H' : Hp} {j : Nat} {x : Int}, Same H3 H' → li[j]? = some x → ∃ u, us[j]? = some u ∧ H' u = some (.tup [.int (haI rs sr x), .int (kyI rs sr x)]) := fun {H' j x} s' hx => by
    have hj : us[j]? = some (us[j]'(by rw [lu]; exact (List.getElem?_eq_some_iff.mp hx).1)) := List.getElem?_eq_getElem _
    exact ⟨_, hj, s' _ _ (hus.at_ j _ (seI rs sr x) hj (by rw [List.getElem?_map, hx]; rfl))⟩
  wtm_at "rd"
  refine r_new rfl fun rk n_rk => ?_
  have n_rk0 := s3.free n_rk
  have n_rk3 := n_rk
  have hA3 := hA
  generalize eq_rk : upd _ rk _ = H4
  have s_rk : Same _ H4 := eq_rk ▸ same_new n_rk
  have h_rk : H4 rk = some _ := eq_rk ▸ upd_same
  clear eq_rk
  have hA := s_rk _ _ hA
  have s3 := s3.trans s_rk
  wtm_at "rd"
  dsimp only
  refine r_for (r_rng2 ?_)
  wtm_at "rd"
  refine r_lenR hA ?_
  rw [lu]
  refine r_from (by omega) (by omega) ?_
  rw [show ((li.length : Int) - 1).toNat = li.length - 1 by omega]
  refine for_range (fun k σ H' => ∃ (x7 x8 x9 : Option V), σ = [some (.ref u), some (.ref l), some (.ref o), some (.int a), some (.int b), some (.ref A), some (.ref rk), x7, x8, x9] ∧ Same H H' ∧ H' rk = some (.lst ((rkL rs sr li (k + 1)).map V.int)) ∧ ∀ b o, H3 b = some o → H' b = some o) ⟨_, _, _, rfl, s3, h_rk, fun b o z => s_rk _ _ z⟩ ?_ ?_
  · rintro k σ H5 hk ⟨x7, x8, x9, rfl, s5, hrk5, k5⟩
    have e1 : li[k]? = some (li[k]'(by omega)) := List.getElem?_eq_getElem _
    have e2 : li[k + 1]? = some (li[k + 1]'(by omega)) := List.getElem?_eq_getElem _
    generalize li[k]'(by omega) = x at e1
    generalize li[k + 1]'(by omega) = x' at e2
    obtain ⟨u1, hu1, g1⟩ := hat (H' := H5) k5 e1
    obtain ⟨u2, hu2, g2⟩ := hat (H' := H5) k5 e2
    have hA5 := k5 _ _ hA3
    wtm_at "rd"
    refine r_tyL (SqL.of hrk5) ?_
    wtm_at "rd"
    refine r_ixL (SqL.of hrk5) (v := .int (rankAt (alL rs sr li) k)) ?_ ?_
    · unfold atI ixN
      rw [if_neg (by decide), if_pos (by rw [List.length_map, rkL_len]; omega), List.length_map, rkL_len]
      show ((rkL rs sr li (k + 1)).map V.int)[((-1 : Int) + ((k + 1 : Nat) : Int)).toNat]? = _
      rw [show ((-1 : Int) + ((k + 1 : Nat) : Int)).toNat = k by omega, List.getElem?_map, rkL_at (by omega)]
      rfl
    wtm_at "rd"
    refine r_ixL (SqL.of hA5) (v := .ref u2) (by rw [show (1 : Int) + (k : Nat) = ((k + 1 : Nat) : Int) by omega]; exact atI_nat (by rw [List.getElem?_map, hu2]; rfl)) ?_
    wtm_at "rd"
    refine r_ixL (SqL.of hA5) (v := .ref u1) (by rw [show (1 : Int) + (k : Nat) - 1 = (k : Nat) by omega]; exact atI_nat (by rw [List.getElem?_map, hu1]; rfl)) ?_
    refine r_neTT (SqT.of (show H5 u2 = some (.tup ((seI rs sr x').map V.int)) from g2)) (SqT.of (show H5 u1 = some (.tup ((seI rs sr x).map V.int)) from g1)) ints_eqD ints_eqD ints_kind ?_
    wtm_at "rd"
    refine r_app hrk5 (small1000 (by rw [List.length_map, rkL_len]; omega)) ?_
    wtm_at "rd"
    refine ⟨_, _, _, rfl, put_same s5 n_rk0, ?_, fun b o z => (upd_ne (ne_of_none z n_rk3)).trans (k5 b o z)⟩
    rw [upd_same, rkL_succ rs sr li (k + 1), List.map_append, rank_next hfi e1 e2]
    have eq : (decide ((seI rs sr x').map V.int = (seI rs sr x).map V.int)) = decide (seI rs sr x' = seI rs sr x) := by
      rw [decide_eq_decide]
      exact List.map_inj_right fun _ _ z => V.int.inj z
    rw [eq]
    by_cases c : seI rs sr x' = seI rs sr x
    · rw [decide_eq_true c, if_pos c]
      rfl
    · rw [decide_eq_false c, if_neg c]
      rfl
  rintro σ H5 ⟨x7, x8, x9, rfl, s5, hrk5, k5⟩
  have hA5 := k5 _ _ hA3
  have ho5 := s5 _ _ ho
  have la := fit_in hfi a1.1 a1.2
  have lb := fit_in hfi b1.1 b1.2
  have pa := (List.getElem?_eq_some_iff.mp la).1
  have pb := (List.getElem?_eq_some_iff.mp lb).1
  obtain ⟨u1, hu1, g1⟩ := hat (H' := H5) k5 la
  obtain ⟨u2, hu2, g2⟩ := hat (H' := H5) k5 lb
  have jk : atI (us.map V.ref) (plI li a) = some (.ref u1) := by unfold plI; exact atI_nat (by rw [List.getElem?_map, hu1]; rfl)
  have jm : atI (us.map V.ref) (plI li b) = some (.ref u2) := by unfold plI; exact atI_nat (by rw [List.getElem?_map, hu2]; rfl)
  rw [show li.length - 1 + 1 = li.length by omega] at hrk5
  have rkk : atI ((rkL rs sr li li.length).map V.int) (plI li a) = some (.int (grI rs sr li a)) := by unfold plI; exact atI_nat (by rw [List.getElem?_map, rkL_at pa]; rfl)
  have rkm : atI ((rkL rs sr li li.length).map V.int) (plI li b) = some (.int (grI rs sr li b)) := by unfold plI; exact atI_nat (by rw [List.getElem?_map, rkL_at pb]; rfl)
  wtm_at "rd"
  refine r_tyL (SqL.of ho5) ?_
  wtm_at "rd"
  refine r_index ho5 la ?_
  wtm_at "rd"
  refine r_tyL (SqL.of ho5) ?_
  wtm_at "rd"
  refine r_index ho5 lb ?_
  wtm_at "rd"
  refine r_ixL (SqL.of hA5) jk ?_
  wtm_at "rd"
  refine r_ixL (SqL.of hA5) jm ?_
  wtm_at "rd"
  refine r_iten (fun c => absurd hab c) (fun _ => ?_)
  wtm_at "rd"
  refine r_ixL (SqL.of hrk5) rkm ?_
  wtm_at "rd"
  refine r_ixL (SqL.of hrk5) rkk ?_
  wtm_at "rd"
  refine r_ixL (SqL.of hA5) jm ?_
  wtm_at "rd"
  refine r_ixL (SqL.of hA5) jk ?_
  wtm_at "rd"
  refine r_new rfl fun v n_v => ?_
  generalize eq_v : upd _ v _ = H6
  have s_v : Same _ H6 := eq_v ▸ same_new n_v
  have h_v : H6 v = some _ := eq_v ▸ upd_same
  clear eq_v
  have s5 := s5.trans s_v
  exact q v H6 h_v s5
end
/-- two lists of lists of ints -/
theorem eq_llists {K : PySem.W.Frag} {H : Hp} {x y : Addr} {as bs : List Addr} {ls ms : List (List Int)} (hx : H x = some (.lst (as.map V.ref))) (hy : H y = some (.lst (bs.map V.ref))) (h1 : All2 (PI H) as ls) (h2 : All2 (PI H) bs ms) (hl : ls.length = ms.length) (hxy : x ≠ y) : DQ.EqO K H (DQ.EqB K H 2) (.ref x) (.ref y) (decide (ls = ms)) := by
  refine ⟨x, y, rfl, rfl, fun z => absurd z hxy, .inl ⟨_, _, SqL.of hx, SqL.of hy, by rw [List.length_map, List.length_map, h1.len, h2.len, hl], fun j => decide (ls[j]? = ms[j]?), fun j u v e1 e2 => ?_, ?_⟩⟩
  · rw [List.getElem?_map] at e1 e2
    obtain ⟨a, ha, rfl⟩ := Option.map_eq_some_iff.mp e1
    obtain ⟨b, hb, rfl⟩ := Option.map_eq_some_iff.mp e2
    obtain ⟨n, hn, pa⟩ := h1.get ha
    obtain ⟨m, hm, pb⟩ := h2.get hb
    have z := eq_ints (K := K) pa pb
    have e : decide (ls[j]? = ms[j]?) = decide (n = m) := by rw [hn, hm, decide_eq_decide]; exact Option.some_inj
    show DQ.EqB K H 2 _ _ (decide (ls[j]? = ms[j]?))
    rw [e]
    exact z
  · rw [List.length_map, h1.len, Bool.eq_iff_iff, decide_eq_true_eq, List.all_eq_true]
    constructor
    · intro e j _
      rw [e]
      exact decide_eq_true rfl
    · intro h
      refine List.ext_getElem? fun j => ?_
      by_cases c : j < ls.length
      · exact of_decide_eq_true (h j (List.mem_range.mpr c))
      · rw [List.getElem?_eq_none (by omega), List.getElem?_eq_none (by omega)]
theorem no_Zz {sc : Sch} (hg : sc.good) : findS sc "Zz" = none := find_not fun h => by
  have z := hg.w "Zz" (List.mem_append.mpr (.inl h))
  exact absurd z (by decide +kernel)
def spWid5 : Sp := fun vs H Q _ => ∃ (d c r p l : Addr) (sc : Sch) (as : List Addr) (rs : List Row), vs = [.ref d, .ref p, .ref l] ∧ Drw H d c r ∧ SpecAt H p sc ∧ sc.good ∧ H l = some (.lst (as.map V.ref)) ∧ RowsIn H as rs ∧ as.Nodup ∧ (∀ x ∈ rs, GRow sc x) ∧ rs.length ≤ 60 ∧
  ∀ (rs' : List Row) (H' : Hp), RowsIn H' as rs' → rs'.length = rs.length → (∀ x ∈ rs', GRow sc x) → H' l = some (.lst (as.map V.ref)) → SpecAt H' p sc → Drw H' d c r → KeepX d r as H H' → Q (.ref l) H'

theorem rise_at {sc : Sch} {s : Srt} {r g d : Int} {n k : Nat} (h : k < n) : (riseRows sc s r g d n).getD ((k : Int).toNat) [] = riseRow sc s (alongA r g d k) := by
  rw [List.getD_eq_getElem?_getD, riseRows, List.getElem?_map, Int.toNat_natCast, List.getElem?_range h]
  rfl
theorem rise_ky {sc : Sch} {s : Srt} (hs : s ∈ sc.ss) {r g d : Int} {n k : Nat} (h : k < n) : kyI (riseRows sc s r g d n) s (k : Int) = alongA r g d k := by
  unfold kyI
  rw [rise_at h]
  exact rise_key hs _
theorem rise_ha {sc : Sch} (hg : sc.good) {s : Srt} (hs : s ∈ sc.ss) {r g d : Int} {n k : Nat} (h : k < n) : haI (riseRows sc s r g d n) s (k : Int) = 0 := by
  unfold haI
  rw [rise_at h]
  exact rise_hall hg hs _
theorem along_step {r g d : Int} (h : possB r g d = true) (r0 : 0 ≤ r) {k : Nat} (hk : (k : Int) + 1 ≤ r) : alongA r g d (k + 1) = alongA r g d k ↔ (k : Int) + 1 ≤ r - g := by
  have h := of_decide_eq_true h
  unfold alongA
  split <;> split <;> omega
theorem rise_rank {sc : Sch} (hg : sc.good) {s : Srt} (hs : s ∈ sc.ss) {r g d : Int} (h : possB r g d = true) (r0 : 0 ≤ r) {n : Nat} (hn : (n : Int) = r + 1) (hf : fitB (riseRows sc s r g d n) s (rangeI n) = true) : ∀ k, k < n → rankAt (alL (riseRows sc s r g d n) s (rangeI n)) k = max 0 ((k : Int) - (r - g))
  | 0, _ => by
    have h := of_decide_eq_true h
    show (0 : Int) = _
    omega
  | k + 1, hk => by
    have e1 := rangeI_at (n := n) (k := k) (by omega)
    have e2 := rangeI_at (n := n) (k := k + 1) hk
    rw [rank_next hf e1 e2, rise_rank hg hs h r0 hn hf k (by omega)]
    have st := along_step h r0 (k := k) (by omega)
    have es : (seI (riseRows sc s r g d n) s ((k + 1 : Nat) : Int) = seI (riseRows sc s r g d n) s (k : Int)) ↔ alongA r g d (k + 1) = alongA r g d k := by
      unfold seI
      rw [rise_ha hg hs hk, rise_ha hg hs (show k < n by omega), rise_ky hs hk, rise_ky hs (show k < n by omega)]
      exact ⟨fun e => by injection e with _ e; injection e, fun e => by rw [e]⟩
    have h := of_decide_eq_true h
    by_cases c : alongA r g d (k + 1) = alongA r g d k
    · rw [if_pos (es.mpr c)]
      have := st.mp c
      omega
    · rw [if_neg fun z => c (es.mp z)]
      have : ¬ (k : Int) + 1 ≤ r - g := fun z => c (st.mpr z)
      omega
theorem range_pl {n k : Nat} (h : k < n) : plI (rangeI n) (k : Int) = k := by
  have nd : (rangeI n).Nodup := List.pairwise_map.mpr (List.Pairwise.imp (fun h e => h (by omega)) (List.nodup_range (n := n)))
  unfold plI
  rw [place_at nd (rangeI_at h)]
theorem rise_seen {sc : Sch} (hg : sc.good) {s : Srt} (hs : s ∈ sc.ss) {r g d R G D a b : Int} {n : Nat} (h : possB r g d = true) (r0 : 0 ≤ r) (hn : (n : Int) = r + 1) (hf : fitB (riseRows sc s r g d n) s (rangeI n) = true) (hc : (0 ≤ R ∧ r = R ∧ g = G ∧ d = D ∧ a = 0 ∧ b = R) ∨ (R < 0 ∧ r = -R ∧ g = -G ∧ d = -D ∧ a = -R ∧ b = 0)) :
    (0 ≤ a ∧ a < n) ∧ (0 ≤ b ∧ b < n) ∧ haI (riseRows sc s r g d n) s a = haI (riseRows sc s r g d n) s b ∧ plI (rangeI n) b - plI (rangeI n) a = R ∧ grI (riseRows sc s r g d n) s (rangeI n) b - grI (riseRows sc s r g d n) s (rangeI n) a = G ∧ kyI (riseRows sc s r g d n) s b - kyI (riseRows sc s r g d n) s a = D := by
  have key : ∀ {i j : Nat} {x y : Int}, x = (i : Int) → y = (j : Int) → i < n → j < n → (0 ≤ x ∧ x < n) ∧ (0 ≤ y ∧ y < n) ∧ haI (riseRows sc s r g d n) s x = haI (riseRows sc s r g d n) s y ∧ plI (rangeI n) y - plI (rangeI n) x = (j : Int) - i ∧ grI (riseRows sc s r g d n) s (rangeI n) y - grI (riseRows sc s r g d n) s (rangeI n) x = max 0 ((j : Int) - (r - g)) - max 0 ((i : Int) - (r - g)) ∧ kyI (riseRows sc s r g d n) s y - kyI (riseRows sc s r g d n) s x = alongA r g d j - alongA r g d i := by
    rintro i j _ _ rfl rfl hi hj
    have gr : ∀ k : Nat, k < n → grI (riseRows sc s r g d n) s (rangeI n) (k : Int) = max 0 ((k : Int) - (r - g)) := fun k hk => by
      have e := range_pl hk
      unfold plI at e
      unfold grI
      rw [Int.ofNat.inj e]
      exact rise_rank hg hs h r0 hn hf k hk
    refine ⟨by omega, by omega, by rw [rise_ha hg hs hi, rise_ha hg hs hj], by rw [range_pl hi, range_pl hj], by rw [gr i hi, gr j hj], by rw [rise_ky hs hi, rise_ky hs hj]⟩
  have hp := of_decide_eq_true h
  have a0 : alongA r g d 0 = 0 := by unfold alongA; split <;> omega
  have ar : alongA r g d r.toNat = d := by unfold alongA; split <;> omega
  rcases hc with ⟨h1, e1, e2, e3, rfl, rfl⟩ | ⟨h1, e1, e2, e3, rfl, rfl⟩
  · obtain ⟨k1, k2, k3, k4, k5, k6⟩ := key (i := 0) (j := r.toNat) (x := 0) (y := b) rfl (by omega) (by omega) (by omega)
    rw [a0, ar] at k6
    exact ⟨k1, k2, k3, by omega, by omega, by omega⟩
  · obtain ⟨k1, k2, k3, k4, k5, k6⟩ := key (i := r.toNat) (j := 0) (x := -R) (y := 0) (by omega) rfl (by omega) (by omega)
    rw [a0, ar] at k6
    exact ⟨k1, k2, k3, by omega, by omega, by omega⟩
theorem r_callS {sp : Sp} {E : L2.St → XK} {t : TA} {σ : L2.St} {H : Hp} {Q : VK} (h : t σ H fun vs H1 => sp vs H1 Q (E σ)) : tCallS sp E t σ H Q := h
/-- [e for k in range(n)], e a row -/
theorem lc_recs {σ : L2.St} {H : Hp} {Q : VK} {te : TE} {n lo m : Nat} {rs : List Row} (hm : rs.length = m) (hz : m ≤ 100)
    (he : ∀ (i : Nat) (r : Row) (H' : Hp) (QQ : VK), rs[i]? = some r → Same H H' → (∀ u H'', H' u = none → H'' u = some (.dK (rowK r)) → Same H' H'' → QQ (.ref u) H'') → te ((wipe σ [n]).set n (some (.int (lo + (i : Int))))) H' QQ)
    (hq : ∀ D us H', H D = none → H' D = some (.lst (us.map V.ref)) → RowsIn H' us rs → Same H H' → Q (.ref D) H') : lcGo (Itr lo m) (gName n) tYes te [n] σ Q H := by
  intro D nD
  refine lc_range (fun i H' => ∃ us : List Addr, H' D = some (.lst (us.map V.ref)) ∧ RowsIn H' us (rs.take i) ∧ Same H H') ⟨[], upd_same, by rw [List.take_zero]; exact All2.nil, same_new nD⟩ ?_ ?_
  · rintro i H4 hi ⟨us, hD4, hu, s4⟩
    have hr : rs[i]? = some (rs[i]'(by omega)) := List.getElem?_eq_getElem _
    generalize rs[i]'(by omega) = r at hr
    refine ⟨wipe1, ?_⟩
    show te _ _ _
    refine he i r H4 _ hr s4 fun u H5 nu hu5 s5 => ?_
    have hD5 := s5 _ _ hD4
    have ll : us.length ≤ 100 := by rw [All2.len hu, List.length_take]; omega
    refine ⟨_, hD5, small1000 (by rw [List.length_map]; omega), us ++ [u], by rw [upd_same, List.map_append]; rfl, ?_, fun b o e => (upd_ne (ne_of_none e nD)).trans (s5 _ _ (s4 _ _ e))⟩
    rw [List.take_add_one, hr]
    exact All2.snoc (All2.imp hu fun _ _ z => (upd_ne (ne_of (s5 _ _ z) hD5 fun q => nomatch q)).trans (s5 _ _ z)) ((upd_ne (ne_of hu5 hD5 fun q => nomatch q)).trans hu5)
  · rintro H4 ⟨us, hD4, hu, s4⟩
    rw [List.take_of_length_le (by omega)] at hu
    exact hq D us H4 nD hD4 hu s4
def spRightS (K : PySem.W.Frag) : Sp := fun vs H Q _ => ∃ (p u t : Addr) (sc : Sch) (j : Nat) (s : Srt) (R G D : Int), vs = [.ref p, .ref u, .ref t] ∧ SpecAt H p sc ∧ sc.good ∧ sc.ss[j]? = some s ∧ H u = some (.tup (srtV s)) ∧ H t = some (.tup [.int R, .int G, .int D]) ∧ possB R G D = true ∧ -50 ≤ R ∧ R ≤ 50 ∧ -10000000000 ≤ D ∧ D ≤ 10000000000 ∧ ∀ H', Same H H' → Q (.bl true) H'
def spRefS : Sp := fun vs H Q _ => ∃ (p : Addr) (sc : Sch), vs = [.ref p] ∧ SpecAt H p sc ∧ sc.good ∧ ∀ H', Same H H' → Q (.bl true) H'
section
variable {P : Program} {w : World} {K : PySem.W.Frag} {mg : Str → Option Value} {base : Heap}

section
variable {H : Hp} {y : Addr} {sc : Sch} {rs : List Row} {ls : List (List Int)} {ow : List Addr}
theorem r_eqY (T : Txt K mg) {Q : VK} {E : XK} {y2 : Addr} {sd : Sch} {qs : List Row} {ms : List (List Int)} {ox : List Addr} (o : LayAt K T.C_Lay T.C_Table T.C_Scheme T.C_Sort H y sc rs ls ow) (o2 : LayAt K T.C_Lay T.C_Table T.C_Scheme T.C_Sort H y2 sd qs ms ox) (hg : sc.good) (hg2 : sd.good) (h1 : ∀ r ∈ rs, RowN r) (h2 : ∀ r ∈ qs, RowN r) (q : Q (.bl (decide (sc = sd) && rowsEq rs qs && decide (ls = ms))) H) : rCmpO K T.C_Lay (spLayEq K T.C_Lay T.C_Table T.C_Scheme T.C_Sort) E (.ref y) (.ref y2) H Q := by
  obtain ⟨t, od, se, sp, ra, p, al, as, oa, sea, spa, raa, rks, X, hw⟩ := id o
  obtain ⟨dx, e⟩ := X.ins
  exact ⟨y, _, _, _, rfl, e, lay_ty T o2, T.nt_Lay, y, _, sc, rs, ls, ow, rfl, o, hg, h1, .inl ⟨y2, sd, qs, ms, ox, rfl, o2, hg2, h2, q⟩⟩
theorem r_neY (T : Txt K mg) {Q : VK} {E : XK} {y2 : Addr} {sd : Sch} {qs : List Row} {ms : List (List Int)} {ox : List Addr} (o : LayAt K T.C_Lay T.C_Table T.C_Scheme T.C_Sort H y sc rs ls ow) (o2 : LayAt K T.C_Lay T.C_Table T.C_Scheme T.C_Sort H y2 sd qs ms ox) (hg : sc.good) (hg2 : sd.good) (h1 : ∀ r ∈ rs, RowN r) (h2 : ∀ r ∈ qs, RowN r) (q : Q (.bl (!(decide (sc = sd) && rowsEq rs qs && decide (ls = ms)))) H) : rNeO K T.C_Lay (spLayEq K T.C_Lay T.C_Table T.C_Scheme T.C_Sort) E (.ref y) (.ref y2) H Q := by
  obtain ⟨t, od, se, sp, ra, p, al, as, oa, sea, spa, raa, rks, X, hw⟩ := id o
  obtain ⟨dx, e⟩ := X.ins
  exact ⟨y, _, _, _, rfl, e, lay_ty T o2, T.nt_Lay, y, _, sc, rs, ls, ow, rfl, o, hg, h1, .inl ⟨y2, sd, qs, ms, ox, rfl, o2, hg2, h2, _, rfl, q⟩⟩
end
theorem eq_off (T : Txt K mg) {H : Hp} {Q : VK} {E : XK} {p q : Addr} {r g d r' g' d' : Int} (o : OffAt T.C_Offset H p r g d) (o2 : OffAt T.C_Offset H q r' g' d') (h : Q (.bl (decide (r = r') && (decide (g = g') && decide (d = d')))) H) : rCmpO K T.C_Offset (spOEq T.C_Offset) E (.ref p) (.ref q) H Q := by
  obtain ⟨dx, e⟩ := id o
  exact ⟨p, dx, _, _, rfl, e, off_ty T o2, T.nt_Offset, p, q, r, g, d, r', g', d', rfl, o, o2, h⟩

theorem ok__law_right (T : Txt K mg) : FnOk P w K mg base CX0 11 T.f__law_right T.d__law_right ["_law_spec_here", "_law_one", "_law_triple_here"] (spRightS K) := by
  refine T.F__law_right.ok sc__law_right (fun vs H Q E h => ?_) (fun cdv A outer s H vs Q E hr h => ?_)
  · obtain ⟨p, u, t, sc, j, sr, R, G, D, rfl, _⟩ := h
    rfl
  obtain ⟨p, u, t, sc, j, sr, R, G, D, rfl, so, hg, hj, hu, ht, hb, r0, r1, d0, d1, q⟩ := h
  refine ⟨_, (pss_cons (ps_set (i := 3) sc__law_right.nd rfl (by first | exact Or.inl rfl | exact Or.inr rfl) (pe_call (ok__law_scheme T) (hr.mono (by decide)) (by rfl) T.g__law_scheme T.F__law_scheme.kp T.b__law_scheme .nil pass0 (pa_cons (pv 0) pa_nil)))
      (pss_cons (ps_set (i := 4) sc__law_right.nd rfl (by first | exact Or.inl rfl | exact Or.inr rfl) (pe_make T.m_Offset (ok_Offset___init__ T) (hr.mono (by decide)) (by rfl) T.g_Offset T.b_Offset___init__ .nil passL (pa_cons (pe_ix (r := rIxT K) ix_tup (pv 2) pe_int (fun _ _ => rfl)) (pa_cons (pe_ix (r := rIxT K) ix_tup (pv 2) pe_int (fun _ _ => rfl)) (pa_cons (pe_ix (r := rIxT K) ix_tup (pv 2) pe_int (fun _ _ => rfl)) pa_nil)))))
      (pss_cons (ps_set (i := 5) sc__law_right.nd rfl (by first | exact Or.inl rfl | exact Or.inr rfl) (pe_call (ok_showing T) (hr.mono (by decide)) (by rfl) T.g_showing T.F_showing.kp T.b_showing .nil passL (pa_cons (pv 3) (pa_cons (pe_ix (r := rIxT K) ix_tup (pv 1) pe_int (fun _ _ => rfl)) (pa_cons (pv 4) pa_nil)))))
      (pss_cons (ps_set (i := 6) sc__law_right.nd rfl (by first | exact Or.inl rfl | exact Or.inr rfl) (pe_call (ok_showing T) (hr.mono (by decide)) (by rfl) T.g_showing T.F_showing.kp T.b_showing .nil passL (pa_cons (pv 3) (pa_cons (pe_ix (r := rIxT K) ix_tup (pv 1) pe_int (fun _ _ => rfl)) (pa_cons (pv 4) pa_nil)))))
      (pss_cons (ps_if (PW.pt (pw_or (pt_not (pt_val (pe_callB call_isi (by rfl) T.z_isinstance (by decide +kernel) (pa_cons (pv 5) (pa_cons (pe_bltn (v := .ty "tuple") (u := .type "tuple") (by rfl) T.z_tuple (by decide +kernel) rfl) pa_nil))))) (pw_or (pt_cmpR op_ne (pe_callB call_len_seq (by rfl) T.z_len (by decide +kernel) (pa_cons (pv 5) pa_nil)) pe_int (nomark _)) (pw_or1 (pt_not (pt_val (pe_callB call_isi (by rfl) T.z_isinstance (by decide +kernel) (pa_cons (pe_ix (r := rIxT K) ix_tup (pv 5) pe_int (fun _ _ => rfl)) (pa_cons (pe_glob (v := .ref T.C_Lay) rfl T.g_Lay rfl) pa_nil))))))))) (pss_one (ps_ret pe_bl)) pss_nil)
      (pss_cons (ps_asg (pv 5) (pg_tup (by rfl) (pgs_cons (pg_name (i := 7) sc__law_right.nd rfl (by first | exact Or.inl rfl | exact Or.inr rfl)) (pgs_cons (pg_name (i := 8) sc__law_right.nd rfl (by first | exact Or.inl rfl | exact Or.inr rfl)) (pgs_cons (pg_name (i := 9) sc__law_right.nd rfl (by first | exact Or.inl rfl | exact Or.inr rfl)) pgs_nil)))))
      (pss_cons (ps_if (PW.pt (pw_or (pt_cmpR (op_neO T.mt_Lay___eq__.at_ T.mt_Lay___eq__.fn T.ne_Lay T.ob_Lay (ok_Lay___eq__ T) (hr.mono (by decide)) T.b_Lay___eq__ pass0) (pe_ix (r := rIxT K) ix_tup (pv 6) pe_int (fun _ _ => rfl)) (pv 7) (nomark _)) (pw_or (pt_cmpR (r := rNeD K) (op_neD hr.units) (pe_slice sl_tup (pv 6) (po_some pe_int) po_none) (pe_slice sl_tup (pv 5) (po_some pe_int) po_none) (nomark _)) (pw_or1 (pt_cmpR (op_neO T.mt_Offset___eq__.at_ T.mt_Offset___eq__.fn T.ne_Offset T.ob_Offset (ok_Offset___eq__ T) (hr.mono (by decide)) T.b_Offset___eq__ pass0) (pv 4) (pe_make T.m_Offset (ok_Offset___init__ T) (hr.mono (by decide)) (by rfl) T.g_Offset T.b_Offset___init__ .nil passL (pa_cons (pe_ix (r := rIxT K) ix_tup (pv 2) pe_int (fun _ _ => rfl)) (pa_cons (pe_ix (r := rIxT K) ix_tup (pv 2) pe_int (fun _ _ => rfl)) (pa_cons (pe_ix (r := rIxT K) ix_tup (pv 2) pe_int (fun _ _ => rfl)) pa_nil)))) (nomark _)))))) (pss_one (ps_ret pe_bl)) pss_nil)
      (pss_cons (ps_set (i := 10) sc__law_right.nd rfl (by first | exact Or.inl rfl | exact Or.inr rfl) (pe_op op_add (pe_callB c_abs (by rfl) T.z_abs (by decide +kernel) (pa_cons (pe_ix (r := rIxT K) ix_tup (pv 2) pe_int (fun _ _ => rfl)) pa_nil)) pe_int))
      (pss_cons (ps_if (PW.pt (pw_or (pt_cmpR (op_neO T.mt_Scheme___eq__.at_ T.mt_Scheme___eq__.fn T.ne_Scheme T.ob_Scheme (ok_Scheme___eq__ T) (hr.mono (by decide)) T.b_Scheme___eq__ pass0) (pe_fldK (K := K) (pe_fldK (K := K) (pv 7))) (pv 3) (nomark _)) (pw_or (pt_cmpR op_ne (pe_callB (DQ.call_lenO T.mt_Table___len__.at_ T.mt_Table___len__.fn (ok_Table___len__ T) (hr.mono (by decide)) T.b_Table___len__ pass0) (by rfl) T.z_len (by decide +kernel) (pa_cons (pe_fldK (K := K) (pv 7)) pa_nil)) (pv 10) (nomark _)) (pw_or (pt_not (pt_val (pe_call (ok__law_whole T) (hr.mono (by decide)) (by rfl) T.g__law_whole T.F__law_whole.kp T.b__law_whole .nil pass0 (pa_cons (pv 8) pa_nil)))) (pw_or1 (pt_not (pt_val (pe_call (ok__law_whole T) (hr.mono (by decide)) (by rfl) T.g__law_whole T.F__law_whole.kp T.b__law_whole .nil pass0 (pa_cons (pv 9) pa_nil))))))))) (pss_one (ps_ret pe_bl)) pss_nil)
      (pss_cons (ps_if (PW.pt (pw_or (pt_cmpR op_lt (pv 8) pe_int (nomark _)) (pw_or (pt_cmpR op_ge (pv 8) (pv 10) (nomark _)) (pw_or (pt_cmpR op_lt (pv 9) pe_int (nomark _)) (pw_or1 (pt_cmpR op_ge (pv 9) (pv 10) (nomark _))))))) (pss_one (ps_ret pe_bl)) pss_nil)
      (pss_cons (ps_setLc (i := 11) (own := [("_law_k", 13)]) (g := gName 13) (tt := tYes) rfl sc__law_right.nd rfl rfl (sw_true rfl rfl rfl (by decide +kernel)) (pi_range1 (by rfl) T.z_range (pa_cons (pv 10) pa_nil)) (blkOk_by (N := ["_law_spec_here", "_law_one", "_law_triple_here", "_law_scheme_here", "_law_offset", "_law_found", "_law_again", "_law_lay", "_law_r", "_law_j", "_law_many", "_law_rows", "_law_other", "_law_k"]) (sc := defScope s__law_right) (by decide +kernel)) (fun _ _ _ _ _ => pg_name (i := 13) sc__law_right.nd rfl (by first | exact Or.inl rfl | exact Or.inr rfl)) (fun _ _ _ _ _ => pts_nil) (fun _ _ _ _ _ => (pe_meth (pe_fldK (K := K) (pv 7)) T.c_Table T.mt_Table_record (ok_Table_record T) (hr.mono (by decide)) T.b_Table_record .nil passL (pa_cons (pv 13) pa_nil))))
      (pss_cons (ps_for PassesOwn.never rfl (pi_list (pe_ix (r := rIxL K) ix_list (pv 0) pe_int (fun _ _ => rfl))) (pg_name (i := 12) sc__law_right.nd rfl (by first | exact Or.inl rfl | exact Or.inr rfl)) (pss_one (ps_if (pt_not (pt_val (pe_call (ok__law_fits T) (hr.mono (by decide)) (by rfl) T.g__law_fits T.F__law_fits.kp T.b__law_fits .nil pass0 (pa_cons (pv 12) (pa_cons (pv 11) (pa_cons (pe_meth (pv 7) T.c_Lay T.mt_Lay_order (ok_Lay_order T) (hr.mono (by decide)) T.b_Lay_order .nil passL (pa_cons (pe_ix (r := rIxT K) ix_tup (pv 12) pe_int (fun _ _ => rfl)) pa_nil)) pa_nil)))))) (pss_one (ps_ret pe_bl)) pss_nil)))
      (pss_cons (ps_if (pt_cmpR (r := rNeD K) (op_neD hr.units) (pe_call (ok__law_seen T) (hr.mono (by decide)) (by rfl) T.g__law_seen T.F__law_seen.kp T.b__law_seen .nil pass0 (pa_cons (pv 1) (pa_cons (pv 11) (pa_cons (pe_meth (pv 7) T.c_Lay T.mt_Lay_order (ok_Lay_order T) (hr.mono (by decide)) T.b_Lay_order .nil passL (pa_cons (pe_ix (r := rIxT K) ix_tup (pv 1) pe_int (fun _ _ => rfl)) pa_nil)) (pa_cons (pv 8) (pa_cons (pv 9) pa_nil)))))) (pv 2) (nomark _)) (pss_one (ps_ret pe_bl)) pss_nil)
      (pss_one (ps_ret (pe_cmpR (op_eqO T.mt_Offset___eq__.at_ T.mt_Offset___eq__.fn (ok_Offset___eq__ T) (hr.mono (by decide)) T.b_Offset___eq__ pass0) (pe_meth (pv 7) T.c_Lay T.mt_Lay_offset (ok_Lay_offset T) (hr.mono (by decide)) T.b_Lay_offset .nil passL (pa_cons (pe_ix (r := rIxT K) ix_tup (pv 1) pe_int (fun _ _ => rfl)) (pa_cons (pv 8) (pa_cons (pv 9) pa_nil)))) (pe_make T.m_Offset (ok_Offset___init__ T) (hr.mono (by decide)) (by rfl) T.g_Offset T.b_Offset___init__ .nil passL (pa_cons (pe_ix (r := rIxT K) ix_tup (pv 2) pe_int (fun _ _ => rfl)) (pa_cons (pe_ix (r := rIxT K) ix_tup (pv 2) pe_int (fun _ _ => rfl)) (pa_cons (pe_ix (r := rIxT K) ix_tup (pv 2) pe_int (fun _ _ => rfl)) pa_nil)))) (nomark _))))))))))))))))), ?_⟩
  try simp only [nox_K, cx_K]
  obtain ⟨w, ew⟩ : ∃ w, w = sr.nm := ⟨_, rfl⟩
  have hu0 : H u = some (.tup [.str w, .str sr.ky, partV sr.pt, .bl sr.ds]) := by rw [ew]; exact hu
  wtm_at "rd"
  refine ⟨p, sc, rfl, so, hg, fun ps H1 s1 o1 => ?_⟩
  have ht1 := s1 _ _ ht
  wtm_at "rd"
  refine make_offF hb fun f H2 n_f s2 oF => ?_
  have o2 := o1.same s2
  have s2 := s1.trans s2
  have hu2 := s2 _ _ hu0
  wtm_at "rd"
  refine ⟨ps, f, w, sc, R, G, D, rfl, o2, hg, oF, hb, by omega, by omega, by omega, by omega, fun hn => (by rw [ew, find_name hg hj] at hn; cases hn), fun j1 s1' e1 e2 R1 G1 D1 a1 b1 hc1 Gs y ow fu H3 hA oL hfu s3 => ?_⟩
  obtain rfl := name_idx hg hj e1 (e2.trans ew)
  rw [hj] at e1
  cases e1
  have o3 := o2.same s3
  have oF3 := oF.same s3
  have s3 := s2.trans s3
  have hu3 := s3 _ _ hu0
  wtm_at "rd"
  refine ⟨ps, f, w, sc, R, G, D, rfl, o3, hg, oF3, hb, by omega, by omega, by omega, by omega, fun hn => (by rw [ew, find_name hg hj] at hn; cases hn), fun j2 s2' e1 e2 R2 G2 D2 a2 b2 hc2 Gs2 y2 ow2 fv H4 hA2 oL2 hfv s4 => ?_⟩
  obtain rfl := name_idx hg hj e1 (e2.trans ew)
  rw [hj] at e1
  cases e1
  obtain ⟨rfl, rfl, rfl, rfl, rfl⟩ : R1 = R2 ∧ G1 = G2 ∧ D1 = D2 ∧ a1 = a2 ∧ b1 = b2 := by omega
  obtain rfl := hA.uniq hA2
  have o4 := o3.same s4
  have oF4 := oF3.same s4
  have hfu4 := s4 _ _ hfu
  have oL4 := oL.same s4
  have s4 := s3.trans s4
  have hR1 : 0 ≤ R1 ∧ R1 ≤ 50 := by omega
  have hb1 : possB R1 G1 D1 = true := by
    rcases hc1 with ⟨_, rfl, rfl, rfl, _⟩ | ⟨_, rfl, rfl, rfl, _⟩
    · exact hb
    · rw [poss_neg]
      exact hb
  have hm := List.mem_of_getElem? hj
  have hG := rise_good hg hm hb1 hR1.1 (by omega) (by omega)
  have lrs : (riseRows sc sr R1 G1 D1 (R1 + 1).toNat).length = (R1 + 1).toNat := rise_len
  have hlj := rise_first hg hj hb1 hR1.1 hA
  have hf : fitB (riseRows sc sr R1 G1 D1 (R1 + 1).toNat) sr (rangeI (R1 + 1).toNat) = true := by
    obtain ⟨t, od, se, sp, ra, p1, al, as, oa, sea, spa, raa, rks, X, _⟩ := oL4
    exact X.fit _ sr _ hj hlj
  have RS := rise_seen hg hm hb1 hR1.1 (n := (R1 + 1).toNat) (by omega) hf hc1
  generalize eL : (sc.ss.map fun s => cat s.nm (layP Gs.reverse 0 [])) = LS at oL2 oL4 hlj
  generalize eR : riseRows sc sr R1 G1 D1 (R1 + 1).toNat = rs at oL2 oL4 hG lrs hA hf RS
  rw [← lrs] at hlj hf RS
  obtain ⟨A1, B1, RSh, RSp, RSg, RSk⟩ := RS
  have em : (if R < 0 then -R else R) + 1 = ((rs.length : Nat) : Int) := by split <;> omega
  have hN : ∀ r ∈ rs, RowN r := fun r hr => (hG r hr).rn hg
  wtm_at "rd"
  refine r_isi (.ty "tuple") (.base (.tup hfu4)) kit_self ?_
  wtm_at "rdi"
  refine ⟨fu, _, rfl, .inr (SqT.of hfu4), ?_⟩
  wtm_at "rd"
  refine r_iten (fun c => absurd rfl c) (fun _ => ?_)
  wtm_at "rd"
  refine r_isi (.own _) (lay_ty T oL4) kit_self ?_
  wtm_at "rdi"
  refine r_gtup (SqT.of hfu4) rfl ?_
  wtm_at "rd"
  refine r_neY T oL2 oL4 hg hg hN hN ?_
  rw [decide_eq_true rfl, rowsEq_self hN, decide_eq_true rfl, Bool.and_self, Bool.and_self]
  wtm_at "rd"
  refine iteF ?_
  wtm_at "rd"
  refine ⟨fv, _, rfl, SqT.of (show H4 fv = some (.tup [.ref y2, .int a1, .int b1]) from hfv), fun z => absurd z.1 (show ¬ HT.sIx 3 0 (some 1) = 0 by decide), fun w1 n_w1 => ?_⟩
  generalize eq_w1 : upd _ w1 _ = H5
  have s_w1 : Same _ H5 := eq_w1 ▸ same_new n_w1
  have h_w1 : H5 w1 = some _ := eq_w1 ▸ upd_same
  clear eq_w1
  have s4 := s4.trans s_w1
  have hfu4 := s_w1 _ _ hfu4
  have oL4 := oL4.same s_w1
  have oF4 := oF4.same s_w1
  have o4 := o4.same s_w1
  have h_w1 : H5 w1 = some (.tup ([a1, b1].map V.int)) := h_w1
  wtm_at "rd"
  refine ⟨fu, _, rfl, SqT.of hfu4, fun z => absurd z.1 (show ¬ HT.sIx 3 0 (some 1) = 0 by decide), fun w2 n_w2 => ?_⟩
  generalize eq_w2 : upd _ w2 _ = H6
  have s_w2 : Same _ H6 := eq_w2 ▸ same_new n_w2
  have h_w2 : H6 w2 = some _ := eq_w2 ▸ upd_same
  clear eq_w2
  have s4 := s4.trans s_w2
  have h_w1 := s_w2 _ _ h_w1
  have oL4 := oL4.same s_w2
  have oF4 := oF4.same s_w2
  have o4 := o4.same s_w2
  have h_w2 : H6 w2 = some (.tup ([a1, b1].map V.int)) := h_w2
  refine r_neTT (SqT.of h_w1) (SqT.of h_w2) ints_eqD ints_eqD ints_kind ?_
  rw [decide_eq_true rfl]
  have ht6 := s4 _ _ ht
  wtm_at "rd"
  refine iteF ?_
  wtm_at "rd"
  refine make_offF hb fun f2 H7 n_f2 s7 oF2 => ?_
  have oF7 := oF4.same s7
  have oL7 := oL4.same s7
  have o7 := o4.same s7
  have s7 := s4.trans s7
  wtm_at "rd"
  refine ne_off T oF7 oF2 ?_
  rw [decide_eq_true rfl, decide_eq_true rfl, decide_eq_true rfl, Bool.and_self, Bool.and_self]
  have ht7 := s7 _ _ ht
  wtm_at "rd"
  refine iteF ?_
  wtm_at "rd"
  obtain ⟨tb, od, se, sp, ra, p1, al, as, oa, sea, spa, raa, rks, X, hw⟩ := id oL7
  obtain ⟨dx, e⟩ := X.ins
  obtain ⟨dt, et⟩ := X.tbl.ins
  refine r_get e T.c_Lay T.nf_Lay_table (lay_table _ _ _ _ _) ?_
  wtm_at "rd"
  refine r_tscheme T X.tbl ?_
  wtm_at "rd"
  obtain ⟨dp, _, _, _, _, _, ep, _⟩ := id X.tbl.sch
  refine ⟨p1, _, _, _, rfl, ep, sch_ty T o7, T.nt_Scheme, p1, sc, _, rfl, X.tbl.sch, hg, .inl ⟨ps, sc, rfl, o7, hg, _, rfl, ?_⟩⟩
  rw [decide_eq_true rfl]
  wtm_at "rd"
  refine iteF ?_
  wtm_at "rd"
  refine r_get e T.c_Lay T.nf_Lay_table (lay_table _ _ _ _ _) ?_
  wtm_at "rd"
  refine ⟨tb, _, _, rfl, et, tb, sc, rs, p1, al, as, rfl, X.tbl, rs.length, rfl, by omega, ?_⟩
  wtm_at "rd"
  rw [em]
  refine r_iten (fun c => absurd rfl c) (fun _ => ?_)
  wtm_at "rd"
  refine ⟨.int a1, rfl, rfl, true, rfl, ?_⟩
  wtm_at "rd"
  refine iteF ?_
  wtm_at "rd"
  refine ⟨.int b1, rfl, rfl, true, rfl, ?_⟩
  wtm_at "rd"
  refine iteF ?_
  wtm_at "rd"
  refine r_ite (fun c => absurd c (by omega)) (fun _ => ?_)
  wtm_at "rd"
  refine r_ite (fun c => absurd c (by omega)) (fun _ => ?_)
  wtm_at "rd"
  refine r_ite (fun c => absurd c (by omega)) (fun _ => ?_)
  wtm_at "rd"
  refine r_ite (fun c => absurd c (by omega)) (fun _ => ?_)
  wtm_at "rd"
  refine ⟨_, rfl, by omega, by omega, ?_⟩
  have so7 := so.same s7
  refine lc_recs (rs := rs) rfl (by omega) (fun i r H' QQ hr s' hQ => ?_) fun L us H8 nL hL hus s8 => ?_
  · have e := s' _ _ e
    wtm_at "rd"
    refine r_get e T.c_Lay T.nf_Lay_table (lay_table _ _ _ _ _) ?_
    wtm_at "rd"
    refine tbl_who (X.tbl.same s') (by decide +kernel) (by decide +kernel) ?_
    wtm_at "rd"
    refine ⟨tb, sc, rs, p1, al, as, (i : Int), by rw [show ((0 : Nat) : Int) = 0 from rfl, Int.zero_add]; rfl, X.tbl.same s', by omega, fun e => absurd e (by have := (List.getElem?_eq_some_iff.mp hr).1; omega), fun r' _ hr' d H'' nd hd s => ?_⟩
    rw [show ((i : Int)).toNat = i from rfl, hr] at hr'
    cases hr'
    exact hQ d H'' nd hd s
  have oF8 := oF7.same s8
  have oL8 := oL7.same s8
  have so8 := so7.same s8
  have s8 := s7.trans s8
  wtm_at "rd"
  refine r_for (r_il ?_)
  obtain ⟨aS, aP, aV, aM, ts, Y⟩ := so8.x
  have xe0 := Y.e0
  wtm_at "rd"
  refine r_itl (SqL.of Y.e1) ?_
  refine for_list (K := K) (a := aS) (xs := ts.map V.ref) (fun i σ H' => ∃ (x12 x13 : Option V), σ = [some (.ref p), some (.ref u), some (.ref t), some (.ref ps), some (.ref f), some (.ref fu), some (.ref fv), some (.ref y), some (.int a1), some (.int b1), some (.int rs.length), some (.ref L), x12, x13] ∧ Same H8 H') ⟨_, _, rfl, Same.refl _⟩ (fun i σ H' _ ⟨_, _, _, s⟩ => SqL.of (s _ _ Y.e1)) ?_ ?_
  · rintro i v σ H9 hv ⟨x12, x13, rfl, s9⟩
    rw [List.getElem?_map] at hv
    obtain ⟨tt, htt, rfl⟩ := Option.map_eq_some_iff.mp hv
    obtain ⟨sr', hs', hts⟩ := Y.e2.get htt
    obtain ⟨w', ew'⟩ : ∃ w, w = sr'.nm := ⟨_, rfl⟩
    have hts0 : H9 tt = some (.tup [.str w', .str sr'.ky, partV sr'.pt, .bl sr'.ds]) := by rw [ew']; exact s9 _ _ hts
    have hts := s9 _ _ hts
    have oL9 := oL8.same s9
    have hL9 := s9 _ _ hL
    wtm_at "rd"
    refine lay_who oL9 (by decide +kernel) (by decide +kernel) (by decide +kernel) (by decide +kernel) (by decide +kernel) ?_
    wtm_at "rd"
    refine ⟨y, sr'.nm, sc, rs, LS, ow, rfl, oL9, hg, fun hn => (by rw [find_name hg hs'] at hn; cases hn), fun j3 s3' l3 e1 e2 e3 g n_g => ?_⟩
    obtain rfl := name_idx hg hs' e1 e2
    rw [hs'] at e1
    cases e1
    have hf3 : fitB rs sr' l3 = true := X.fit _ sr' _ hs' e3
    have n3 := of_decide_eq_true (fit_num hf3)
    generalize eq_g : upd _ g _ = H10
    have s_g : Same _ H10 := eq_g ▸ same_new n_g
    have h_g : H10 g = some _ := eq_g ▸ upd_same
    clear eq_g
    have s9 := s9.trans s_g
    have hts := s_g _ _ hts
    have hL9 := s_g _ _ hL9
    wtm_at "rd"
    refine ⟨tt, L, g, sc, sr', us, rs, l3, rfl, hts, hg, List.mem_of_getElem? hs', hL9, RowsIn.same hus s9, hG, by omega, h_g, by omega, fun H11 s11 => ?_⟩
    rw [hf3]
    wtm_at "rd"
    refine iteF ?_
    wtm_at "rd"
    exact ⟨_, _, rfl, s9.trans s11⟩
  rintro σ H9 ⟨x12, x13, rfl, s9⟩
  have oL9 := oL8.same s9
  have hL9 := s9 _ _ hL
  have hus9 := RowsIn.same hus s9
  have s9 := s8.trans s9
  have hu9 := s9 _ _ hu0
  wtm_at "rd"
  refine lay_who oL9 (by decide +kernel) (by decide +kernel) (by decide +kernel) (by decide +kernel) (by decide +kernel) ?_
  wtm_at "rd"
  refine ⟨y, w, sc, rs, LS, ow, rfl, oL9, hg, fun hn => (by rw [ew, find_name hg hj] at hn; cases hn), fun j3 s3' l3 e1 e2 e3 g n_g => ?_⟩
  obtain rfl := name_idx hg hj e1 (e2.trans ew)
  rw [hj] at e1
  cases e1
  rw [hlj] at e3
  cases e3
  generalize eq_g : upd _ g _ = H10
  have s_g : Same _ H10 := eq_g ▸ same_new n_g
  have h_g : H10 g = some _ := eq_g ▸ upd_same
  clear eq_g
  have s9 := s9.trans s_g
  have hu9 := s_g _ _ hu9
  have hL9 := s_g _ _ hL9
  have oL9 := oL9.same s_g
  wtm_at "rd"
  refine ⟨u, L, g, a1, b1, sc, sr, us, rs, _, rfl, s9 _ _ hu, hg, hm, hL9, hus9.same s_g, hG, by omega, h_g, hf, A1, B1, RSh, fun v H11 hv s11 => ?_⟩
  rw [RSp, RSg, RSk] at hv
  have oL11 := oL9.same s11
  have s11 := s9.trans s11
  have ht11 := s11 _ _ ht
  wtm_at "rd"
  refine r_neTT (SqT.of (show H11 v = some (.tup ([R, G, D].map V.int)) from hv)) (SqT.of (show H11 t = some (.tup ([R, G, D].map V.int)) from ht11)) ints_eqD ints_eqD ints_kind ?_
  rw [decide_eq_true rfl]
  wtm_at "rd"
  refine iteF ?_
  wtm_at "rd"
  refine lay_who oL11 (by decide +kernel) (by decide +kernel) (by decide +kernel) (by decide +kernel) (by decide +kernel) ?_
  have hu11 := s11 _ _ hu0
  wtm_at "rd"
  refine ⟨y, sc, rs, LS, ow, w, a1, b1, rfl, oL11, hg, by omega, fun hn => (by rw [ew, find_name hg hj] at hn; cases hn), fun s' k' _ hk => absurd hk ?_, fun j3 s3' l3 e1 e2 e3 _ _ => ⟨fun c => absurd ?_ c, fun _ x H12 nx s12 oX => ?_⟩⟩
  · intro hk
    unfold badNum inRg at hk
    rw [decide_eq_true A1, decide_eq_true B1, if_neg (by decide), if_neg (by decide)] at hk
    cases hk
  · obtain rfl := name_idx hg hj e1 (e2.trans ew)
    rw [hj] at e1
    cases e1
    exact RSh
  obtain rfl := name_idx hg hj e1 (e2.trans ew)
  rw [hj] at e1
  cases e1
  rw [hlj] at e3
  cases e3
  rw [RSp, RSg, RSk] at oX
  have s13 := s11.trans s12
  have ht12 := s13 _ _ ht
  wtm_at "rd"
  refine make_offF hb fun f3 H14 n_f3 s14 oF3 => ?_
  refine eq_off T (oX.same s14) oF3 ?_
  rw [decide_eq_true rfl, decide_eq_true rfl, decide_eq_true rfl, Bool.and_self, Bool.and_self]
  wtm_at "rd"
  exact q _ (s13.trans s14)
theorem ok__law_refused (T : Txt K mg) : FnOk P w K mg base CX0 11 T.f__law_refused T.d__law_refused ["_law_spec_here"] spRefS := by
  refine T.F__law_refused.ok sc__law_refused (fun vs H Q E h => ?_) (fun cdv A outer s H vs Q E hr h => ?_)
  · obtain ⟨p, sc, rfl, _⟩ := h
    rfl
  obtain ⟨p, sc, rfl, so, hg, q⟩ := h
  refine ⟨_, (pss_cons (ps_try_as (i := 1) rfl rfl sc__law_refused.nd rfl rfl ⟨rfl, by decide, Or.inl T.g_UnknownSort⟩ takes0 (fun W pn xe tk _ => (pss_one (ps_expr (pe_callS (ok_showing T) (hr.mono (by decide)) (by rfl) T.g_showing T.F_showing.kp T.b_showing (fun σ => passAt tk σ) (pa_cons (pe_call (ok__law_scheme T) (hr.mono (by decide)) (by rfl) T.g__law_scheme T.F__law_scheme.kp T.b__law_scheme .nil pass0 (pa_cons (pv 0) pa_nil)) (pa_cons pe_str (pa_cons (pe_makeS T.m_Offset (ok_Offset___init__ T) (hr.mono (by decide)) (by rfl) T.g_Offset T.b_Offset___init__ (fun σ => passAt tk σ) (pa_cons pe_int (pa_cons pe_int (pa_cons pe_int pa_nil)))) pa_nil))))))) (fun a oe cls d pn hz hf => (pss_one (ps_ret (pe_cmpR op_eq (pe_xf T.xf_UnknownSort T.nf_UnknownSort_name hz hf (pv 1)) pe_str (nomark _))))))
      (pss_one (ps_ret pe_bl))), ?_⟩
  try simp only [nox_K, cx_K]
  wtm_at "rd"
  refine r_callS ?_
  wtm_at "rd"
  refine ⟨p, sc, rfl, so, hg, fun ps H1 s1 o1 => ?_⟩
  wtm_at "rd"
  refine make_offF (show possB 1 1 1 = true from rfl) fun f H2 n_f s2 oF => ?_
  have o2 := o1.same s2
  have s2 := s1.trans s2
  wtm_at "rd"
  refine ⟨ps, f, "Zz", sc, 1, 1, 1, rfl, o2, hg, oF, rfl, by decide, by decide, by decide, by decide, fun hn dx H3 nd hd s3 => ?_, fun j s e1 e2 => ?_⟩
  · refine ⟨true, T.em_UnknownSort_UnknownSort, fun _ a na => ?_, fun z => nomatch z⟩
    wtm_at "rd"
    refine ⟨rfl, rfl, dx, _, _, rfl, hd, rfl, ?_⟩
    wtm_at "rd"
    exact q _ (s2.trans s3)
  · have z := find_name hg e1
    rw [e2, no_Zz hg] at z
    cases z
end

theorem tup_ext {H H' : Hp} {d c r a : Addr} {ts : List V} (D : Drw H d c r) (E : Ext d r H H') (h : H a = some (.tup ts)) : H' a = some (.tup ts) := by
  obtain ⟨_, _, _, ns, rs, t, h1, h2, h3, hl, hp, _⟩ := D
  exact E _ _ h (ne_of h h1 fun z => nomatch z) (ne_of h h3 fun z => nomatch z)
section
variable {P : Program} {w : World} {K : PySem.W.Frag} {mg : Str → Option Value} {base : Heap}

theorem ok_law (T : Txt K mg) : FnOk P w K mg base CX0 12 T.f_law T.d_law ["_law_script"] (spLaw K) := by
  refine T.F_law.ok sc_law (fun vs H Q E h => ?_) (fun cdv A outer s H vs Q E hr h => ?_)
  · obtain ⟨a, ns, rfl, _⟩ := h
    rfl
  obtain ⟨a, ns, rfl, hS, hlen, q⟩ := h
  refine ⟨_, (pss_cons (ps_set (i := 1) sc_law.nd rfl (by first | exact Or.inl rfl | exact Or.inr rfl) (pe_call (ok__law_begin T) (hr.mono (by decide)) (by rfl) T.g__law_begin T.F__law_begin.kp T.b__law_begin .nil pass0 (pa_cons (pv 0) pa_nil)))
      (pss_cons (ps_for PassesOwn.never rfl (pi_range1 (by rfl) T.z_range (pa_cons pe_int pa_nil)) (pg_name (i := 2) sc_law.nd rfl (by first | exact Or.inl rfl | exact Or.inr rfl)) (pss_cons (ps_set (i := 3) sc_law.nd rfl (by first | exact Or.inl rfl | exact Or.inr rfl) (pe_call (ok__law_spec T) (hr.mono (by decide)) (by rfl) T.g__law_spec T.F__law_spec.kp T.b__law_spec .nil pass0 (pa_cons (pv 1) (pa_cons pe_int pa_nil))))
      (pss_cons (ps_set (i := 4) sc_law.nd rfl (by first | exact Or.inl rfl | exact Or.inr rfl) (pe_ix (r := rIxL K) ix_list (pe_ix (r := rIxL K) ix_list (pv 3) pe_int (fun _ _ => rfl)) (pe_call (ok__law_draw T) (hr.mono (by decide)) (by rfl) T.g__law_draw T.F__law_draw.kp T.b__law_draw .nil pass0 (pa_cons (pv 1) (pa_cons (pe_callB (r := rLenL K) (id := "len") c_len (by rfl) T.z_len (by decide +kernel) (pa_cons (pe_ix (r := rIxL K) ix_list (pv 3) pe_int (fun _ _ => rfl)) pa_nil)) pa_nil))) (fun _ _ => rfl)))
      (pss_cons (ps_set (i := 5) sc_law.nd rfl (by first | exact Or.inl rfl | exact Or.inr rfl) (pe_call (ok__law_triple T) (hr.mono (by decide)) (by rfl) T.g__law_triple T.F__law_triple.kp T.b__law_triple .nil pass0 (pa_cons (pv 1) pa_nil)))
      (pss_cons (ps_if (PW.pt (pw_or (pt_not (pt_val (pe_call (ok__law_right T) (hr.mono (by decide)) (by rfl) T.g__law_right T.F__law_right.kp T.b__law_right .nil pass0 (pa_cons (pv 3) (pa_cons (pv 4) (pa_cons (pv 5) pa_nil)))))) (pw_or1 (pt_not (pt_val (pe_call (ok__law_right T) (hr.mono (by decide)) (by rfl) T.g__law_right T.F__law_right.kp T.b__law_right .nil pass0 (pa_cons (pv 3) (pa_cons (pv 4) (pa_cons (pv 5) pa_nil))))))))) (pss_one (ps_ret pe_bl)) pss_nil)
      (pss_one (ps_if (pt_not (pt_val (pe_call (ok__law_refused T) (hr.mono (by decide)) (by rfl) T.g__law_refused T.F__law_refused.kp T.b__law_refused .nil pass0 (pa_cons (pv 3) pa_nil)))) (pss_one (ps_ret pe_bl)) pss_nil)))))))
      (pss_one (ps_ret pe_bl)))), ?_⟩
  try simp only [nox_K, cx_K]
  wtm_at "rd"
  refine ⟨a, ns, rfl, hS, hlen, fun d c r H1 D1 s1 nd nc nr => ?_⟩
  wtm_at "rd"
  refine r_for (r_rng1 ?_)
  wtm_at "rd"
  refine r_upto (by omega) (by omega) ?_
  refine for_range (fun i σ H' => ∃ (x2 x3 x4 x5 : Option V), σ = [some (.ref a), some (.ref d), x2, x3, x4, x5] ∧ Drw H' d c r) ⟨_, _, _, _, rfl, D1⟩ ?_ ?_
  · rintro i σ H2 hi ⟨x2, x3, x4, x5, rfl, D2⟩
    wtm_at "rd"
    refine ⟨d, c, r, 3, rfl, D2, by decide, by decide, fun p sc H3 hg so3 D3 E3 => ?_⟩
    have l1 := hg.l1
    have l0 := hg.l0
    obtain ⟨aS, aP, aV, aM, ts, X⟩ := so3.x
    have lt := X.e2.len
    have xe0 := X.e0
    wtm_at "rd"
    refine r_lenR X.e1 ?_
    wtm_at "rd"
    refine ⟨d, c, r, ts.length, rfl, D3, by omega, by omega, fun n H4 n0 n1 D4 E4 => ?_⟩
    obtain ⟨k, rfl⟩ : ∃ k : Nat, n = k := ⟨n.toNat, by omega⟩
    have htk : ts[k]? = some (ts[k]'(by omega)) := List.getElem?_eq_getElem _
    generalize ts[k]'(by omega) = t at htk
    obtain ⟨sr, hs, hts⟩ := X.e2.get htk
    have so4 := so3.ext D3 E4
    have e1 := E4 _ _ X.e1 (refs_drc D3 X.e1).1 (refs_drc D3 X.e1).2.1
    have hts4 := tup_ext D3 E4 hts
    refine r_ixL (SqL.of e1) (atI_nat (by rw [List.getElem?_map, htk]; rfl)) ?_
    wtm_at "rd"
    refine ⟨d, c, r, rfl, D4, fun R G Z u H5 hp r0 r1 z0 z1 hu D5 E5 => ?_⟩
    have so5 := so4.ext D4 E5
    have ht5 := tup_ext D4 E5 hts4
    wtm_at "rd"
    refine ⟨p, t, u, sc, k, sr, R, G, Z, rfl, so5, hg, hs, ht5, hu, hp, r0, r1, z0, z1, fun H6 s6 => ?_⟩
    wtm_at "rdi"
    refine ⟨p, t, u, sc, k, sr, R, G, Z, rfl, so5.same s6, hg, hs, s6 _ _ ht5, s6 _ _ hu, hp, r0, r1, z0, z1, fun H7 s7 => ?_⟩
    wtm_at "rdi"
    refine ⟨p, sc, rfl, (so5.same s6).same s7, hg, fun H8 s8 => ?_⟩
    wtm_at "rdi"
    exact ⟨_, _, _, _, rfl, D5.same ((s6.trans s7).trans s8)⟩
  · rintro σ H2 ⟨x2, x3, x4, x5, rfl, D2⟩
    wtm_at "rd"
    exact q _
end
theorem all_mk {l : PySem.W.OpenLaw} {w : World} {K : PySem.W.Frag} {h : Heap} {mg : Str → Option Value} {fa : Addr} (X : K.In h) (G : h.Ns mainGlobals mg) (hfa : mg "law" = some (.ref fa))
    {C_WindowError : Addr}
    {C_BadScheme : Addr}
    {nm_BadScheme q_BadScheme : Str} {N_BadScheme : Addr} {bs_BadScheme bm_BadScheme : List Value} {sn_BadScheme : List Str} {sub_BadScheme : List Value} {ab_BadScheme : Bool} {col_BadScheme : Option Bool} {dd_BadScheme : Option Addr} {m0_BadScheme m1_BadScheme m2_BadScheme m3_BadScheme m5_BadScheme : Option Value}
    {C_BadRow : Addr}
    {nm_BadRow q_BadRow : Str} {N_BadRow : Addr} {bs_BadRow bm_BadRow : List Value} {sn_BadRow : List Str} {sub_BadRow : List Value} {ab_BadRow : Bool} {col_BadRow : Option Bool} {dd_BadRow : Option Addr} {m0_BadRow m1_BadRow m2_BadRow m3_BadRow m5_BadRow : Option Value}
    {C_BadNumber : Addr}
    {nm_BadNumber q_BadNumber : Str} {N_BadNumber : Addr} {bs_BadNumber bm_BadNumber : List Value} {sn_BadNumber : List Str} {sub_BadNumber : List Value} {ab_BadNumber : Bool} {col_BadNumber : Option Bool} {dd_BadNumber : Option Addr} {m0_BadNumber m1_BadNumber m2_BadNumber m3_BadNumber m5_BadNumber : Option Value}
    {C_UnknownSort : Addr}
    {nm_UnknownSort q_UnknownSort : Str} {N_UnknownSort : Addr} {bs_UnknownSort bm_UnknownSort : List Value} {sn_UnknownSort : List Str} {sub_UnknownSort : List Value} {ab_UnknownSort : Bool} {col_UnknownSort : Option Bool} {dd_UnknownSort : Option Addr} {m0_UnknownSort m1_UnknownSort m2_UnknownSort m3_UnknownSort m5_UnknownSort : Option Value}
    {C_BadLay : Addr}
    {nm_BadLay q_BadLay : Str} {N_BadLay : Addr} {bs_BadLay bm_BadLay : List Value} {sn_BadLay : List Str} {sub_BadLay : List Value} {ab_BadLay : Bool} {col_BadLay : Option Bool} {dd_BadLay : Option Addr} {m0_BadLay m1_BadLay m2_BadLay m3_BadLay m5_BadLay : Option Value}
    {C_Sort : Addr}
    {C_Scheme : Addr}
    {C_Table : Addr}
    {C_Lay : Addr}
    {C_BadOffset : Addr}
    {nm_BadOffset q_BadOffset : Str} {N_BadOffset : Addr} {bs_BadOffset bm_BadOffset : List Value} {sn_BadOffset : List Str} {sub_BadOffset : List Value} {ab_BadOffset : Bool} {col_BadOffset : Option Bool} {dd_BadOffset : Option Addr} {m0_BadOffset m1_BadOffset m2_BadOffset m3_BadOffset m5_BadOffset : Option Value}
    {C_Offset : Addr}
    {tK_LETTERS : Tok}
    {cK_WORDS : Addr} {it_WORDS : Array Value} {nn_WORDS : Nat} {sl_WORDS : Array (Option Value)}
    {tK_MOST : Tok}
    {od0 an0 : Option Addr} {sl0 : Array (Option Value)} {oc0 kV0 dc0 pm0 cd0 ct0 : Value} {f0 : Addr}
    {od1 an1 : Option Addr} {sl1 : Array (Option Value)} {oc1 kV1 dc1 pm1 cd1 ct1 : Value} {f1 : Addr}
    {od2 an2 : Option Addr} {sl2 : Array (Option Value)} {oc2 kV2 dc2 pm2 cd2 ct2 : Value} {f2 : Addr}
    {od3 an3 : Option Addr} {sl3 : Array (Option Value)} {oc3 kV3 dc3 pm3 cd3 ct3 : Value} {f3 : Addr}
    {od4 an4 : Option Addr} {sl4 : Array (Option Value)} {oc4 kV4 dc4 pm4 cd4 ct4 : Value} {f4 : Addr}
    {od5 an5 : Option Addr} {sl5 : Array (Option Value)} {oc5 kV5 dc5 pm5 cd5 ct5 : Value} {f5 : Addr}
    {od6 an6 : Option Addr} {sl6 : Array (Option Value)} {oc6 kV6 dc6 pm6 cd6 ct6 : Value} {f6 : Addr}
    {od7 an7 : Option Addr} {sl7 : Array (Option Value)} {oc7 kV7 dc7 pm7 cd7 ct7 : Value} {f7 : Addr}
    {od8 an8 : Option Addr} {sl8 : Array (Option Value)} {oc8 kV8 dc8 pm8 cd8 ct8 : Value} {f8 : Addr}
    {od9 an9 : Option Addr} {sl9 : Array (Option Value)} {oc9 kV9 dc9 pm9 cd9 ct9 : Value} {f9 : Addr}
    {od10 an10 : Option Addr} {sl10 : Array (Option Value)} {oc10 kV10 dc10 pm10 cd10 ct10 : Value} {f10 : Addr}
    {od11 an11 : Option Addr} {sl11 : Array (Option Value)} {oc11 kV11 dc11 pm11 cd11 ct11 : Value} {f11 : Addr}
    {od12 an12 : Option Addr} {sl12 : Array (Option Value)} {oc12 kV12 dc12 pm12 cd12 ct12 : Value} {f12 : Addr}
    {od13 an13 : Option Addr} {sl13 : Array (Option Value)} {oc13 kV13 dc13 pm13 cd13 ct13 : Value} {f13 : Addr}
    {od14 an14 : Option Addr} {sl14 : Array (Option Value)} {oc14 kV14 dc14 pm14 cd14 ct14 : Value} {f14 : Addr}
    {od15 an15 : Option Addr} {sl15 : Array (Option Value)} {oc15 kV15 dc15 pm15 cd15 ct15 : Value} {f15 : Addr}
    {od16 an16 : Option Addr} {sl16 : Array (Option Value)} {oc16 kV16 dc16 pm16 cd16 ct16 : Value} {f16 : Addr}
    {od17 an17 : Option Addr} {sl17 : Array (Option Value)} {oc17 kV17 dc17 pm17 cd17 ct17 : Value} {f17 : Addr}
    {od18 an18 : Option Addr} {sl18 : Array (Option Value)} {oc18 kV18 dc18 pm18 cd18 ct18 : Value} {f18 : Addr}
    {od19 an19 : Option Addr} {sl19 : Array (Option Value)} {oc19 kV19 dc19 pm19 cd19 ct19 : Value} {f19 : Addr}
    {od20 an20 : Option Addr} {sl20 : Array (Option Value)} {oc20 kV20 dc20 pm20 cd20 ct20 : Value} {f20 : Addr}
    {od21 an21 : Option Addr} {sl21 : Array (Option Value)} {oc21 kV21 dc21 pm21 cd21 ct21 : Value} {f21 : Addr}
    {od22 an22 : Option Addr} {sl22 : Array (Option Value)} {oc22 kV22 dc22 pm22 cd22 ct22 : Value} {f22 : Addr}
    {od23 an23 : Option Addr} {sl23 : Array (Option Value)} {oc23 kV23 dc23 pm23 cd23 ct23 : Value} {f23 : Addr}
    {od24 an24 : Option Addr} {sl24 : Array (Option Value)} {oc24 kV24 dc24 pm24 cd24 ct24 : Value} {f24 : Addr}
    {od25 an25 : Option Addr} {sl25 : Array (Option Value)} {oc25 kV25 dc25 pm25 cd25 ct25 : Value} {f25 : Addr}
    {od26 an26 : Option Addr} {sl26 : Array (Option Value)} {oc26 kV26 dc26 pm26 cd26 ct26 : Value} {f26 : Addr}
    {od27 an27 : Option Addr} {sl27 : Array (Option Value)} {oc27 kV27 dc27 pm27 cd27 ct27 : Value} {f27 : Addr}
    {od28 an28 : Option Addr} {sl28 : Array (Option Value)} {oc28 kV28 dc28 pm28 cd28 ct28 : Value} {f28 : Addr}
    {od29 an29 : Option Addr} {sl29 : Array (Option Value)} {oc29 kV29 dc29 pm29 cd29 ct29 : Value} {f29 : Addr}
    {od30 an30 : Option Addr} {sl30 : Array (Option Value)} {oc30 kV30 dc30 pm30 cd30 ct30 : Value} {f30 : Addr}
    {od31 an31 : Option Addr} {sl31 : Array (Option Value)} {oc31 kV31 dc31 pm31 cd31 ct31 : Value} {f31 : Addr}
    {od32 an32 : Option Addr} {sl32 : Array (Option Value)} {oc32 kV32 dc32 pm32 cd32 ct32 : Value} {f32 : Addr}
    {od33 an33 : Option Addr} {sl33 : Array (Option Value)} {oc33 kV33 dc33 pm33 cd33 ct33 : Value} {f33 : Addr}
    {od34 an34 : Option Addr} {sl34 : Array (Option Value)} {oc34 kV34 dc34 pm34 cd34 ct34 : Value} {f34 : Addr}
    {od35 an35 : Option Addr} {sl35 : Array (Option Value)} {oc35 kV35 dc35 pm35 cd35 ct35 : Value} {f35 : Addr}
    {od36 an36 : Option Addr} {sl36 : Array (Option Value)} {oc36 kV36 dc36 pm36 cd36 ct36 : Value} {f36 : Addr}
    {od37 an37 : Option Addr} {sl37 : Array (Option Value)} {oc37 kV37 dc37 pm37 cd37 ct37 : Value} {f37 : Addr}
    {od38 an38 : Option Addr} {sl38 : Array (Option Value)} {oc38 kV38 dc38 pm38 cd38 ct38 : Value} {f38 : Addr}
    {od39 an39 : Option Addr} {sl39 : Array (Option Value)} {oc39 kV39 dc39 pm39 cd39 ct39 : Value} {f39 : Addr}
    {od40 an40 : Option Addr} {sl40 : Array (Option Value)} {oc40 kV40 dc40 pm40 cd40 ct40 : Value} {f40 : Addr}
    {od41 an41 : Option Addr} {sl41 : Array (Option Value)} {oc41 kV41 dc41 pm41 cd41 ct41 : Value} {f41 : Addr}
    {od42 an42 : Option Addr} {sl42 : Array (Option Value)} {oc42 kV42 dc42 pm42 cd42 ct42 : Value} {f42 : Addr}
    {od43 an43 : Option Addr} {sl43 : Array (Option Value)} {oc43 kV43 dc43 pm43 cd43 ct43 : Value} {f43 : Addr}
    {od44 an44 : Option Addr} {sl44 : Array (Option Value)} {oc44 kV44 dc44 pm44 cd44 ct44 : Value} {f44 : Addr}
    {od45 an45 : Option Addr} {sl45 : Array (Option Value)} {oc45 kV45 dc45 pm45 cd45 ct45 : Value} {f45 : Addr}
    {od46 an46 : Option Addr} {sl46 : Array (Option Value)} {oc46 kV46 dc46 pm46 cd46 ct46 : Value} {f46 : Addr}
    {od47 an47 : Option Addr} {sl47 : Array (Option Value)} {oc47 kV47 dc47 pm47 cd47 ct47 : Value} {f47 : Addr}
    {od48 an48 : Option Addr} {sl48 : Array (Option Value)} {oc48 kV48 dc48 pm48 cd48 ct48 : Value} {f48 : Addr}
    {od49 an49 : Option Addr} {sl49 : Array (Option Value)} {oc49 kV49 dc49 pm49 cd49 ct49 : Value} {f49 : Addr}
    {od50 an50 : Option Addr} {sl50 : Array (Option Value)} {oc50 kV50 dc50 pm50 cd50 ct50 : Value} {f50 : Addr}
    {od51 an51 : Option Addr} {sl51 : Array (Option Value)} {oc51 kV51 dc51 pm51 cd51 ct51 : Value} {f51 : Addr}
    {od52 an52 : Option Addr} {sl52 : Array (Option Value)} {oc52 kV52 dc52 pm52 cd52 ct52 : Value} {f52 : Addr}
    {od53 an53 : Option Addr} {sl53 : Array (Option Value)} {oc53 kV53 dc53 pm53 cd53 ct53 : Value} {f53 : Addr}
    {od54 an54 : Option Addr} {sl54 : Array (Option Value)} {oc54 kV54 dc54 pm54 cd54 ct54 : Value} {f54 : Addr}
    {od55 an55 : Option Addr} {sl55 : Array (Option Value)} {oc55 kV55 dc55 pm55 cd55 ct55 : Value} {f55 : Addr}
    {od56 an56 : Option Addr} {sl56 : Array (Option Value)} {oc56 kV56 dc56 pm56 cd56 ct56 : Value} {f56 : Addr}
    {od57 an57 : Option Addr} {sl57 : Array (Option Value)} {oc57 kV57 dc57 pm57 cd57 ct57 : Value} {f57 : Addr}
    {od58 an58 : Option Addr} {sl58 : Array (Option Value)} {oc58 kV58 dc58 pm58 cd58 ct58 : Value} {f58 : Addr}
    {od59 an59 : Option Addr} {sl59 : Array (Option Value)} {oc59 kV59 dc59 pm59 cd59 ct59 : Value} {f59 : Addr}
    {od60 an60 : Option Addr} {sl60 : Array (Option Value)} {oc60 kV60 dc60 pm60 cd60 ct60 : Value} {f60 : Addr}
    {od61 an61 : Option Addr} {sl61 : Array (Option Value)} {oc61 kV61 dc61 pm61 cd61 ct61 : Value} {f61 : Addr}
    {od62 an62 : Option Addr} {sl62 : Array (Option Value)} {oc62 kV62 dc62 pm62 cd62 ct62 : Value} {f62 : Addr}
    (aC_WindowError : PySem.W.nsIn K mainGlobals "WindowError" = some (some (.ref C_WindowError)))
    (aC_BadScheme : PySem.W.nsIn K mainGlobals "BadScheme" = some (some (.ref C_BadScheme)))
    (aC_BadRow : PySem.W.nsIn K mainGlobals "BadRow" = some (some (.ref C_BadRow)))
    (aC_BadNumber : PySem.W.nsIn K mainGlobals "BadNumber" = some (some (.ref C_BadNumber)))
    (aC_UnknownSort : PySem.W.nsIn K mainGlobals "UnknownSort" = some (some (.ref C_UnknownSort)))
    (aC_BadLay : PySem.W.nsIn K mainGlobals "BadLay" = some (some (.ref C_BadLay)))
    (aC_Sort : PySem.W.nsIn K mainGlobals "Sort" = some (some (.ref C_Sort)))
    (aC_Scheme : PySem.W.nsIn K mainGlobals "Scheme" = some (some (.ref C_Scheme)))
    (aC_Table : PySem.W.nsIn K mainGlobals "Table" = some (some (.ref C_Table)))
    (aC_Lay : PySem.W.nsIn K mainGlobals "Lay" = some (some (.ref C_Lay)))
    (aC_BadOffset : PySem.W.nsIn K mainGlobals "BadOffset" = some (some (.ref C_BadOffset)))
    (aC_Offset : PySem.W.nsIn K mainGlobals "Offset" = some (some (.ref C_Offset)))
    (aC_LETTERS : PySem.W.nsIn K mainGlobals "LETTERS" = some (some (.str "abcdefghijklmnopqrstuvwxyz" tK_LETTERS)))
    (aC_WORDS : PySem.W.nsIn K mainGlobals "WORDS" = some (some (.ref cK_WORDS)))
    (aC_MOST : PySem.W.nsIn K mainGlobals "MOST" = some (some (.int 1000000000000 tK_MOST)))
    (a0 : PySem.W.findIn K (.ref C_BadOffset) "__init__" = some (some (.ref f0)))
    (i0 : PySem.W.isFn K (.ref f0) = true)
    (l0 : K.lookup f0 = some ⟨oc0, od0, .func (PySem.W.fnOf "__init__" "BadOffset.__init__" (defArgs s_BadOffset___init__) (defBody s_BadOffset___init__) (defScope s_BadOffset___init__) .none kV0 dc0 pm0 an0 cd0 ct0), sl0⟩)
    (c0 : PySem.W.codeIn K cd0 "BadOffset.__init__" = true)
    (k0 : PySem.W.keepIn K (.ref f0) = true)
    (a1 : PySem.W.findIn K (.ref C_BadScheme) "__init__" = some (some (.ref f1)))
    (i1 : PySem.W.isFn K (.ref f1) = true)
    (l1 : K.lookup f1 = some ⟨oc1, od1, .func (PySem.W.fnOf "__init__" "BadScheme.__init__" (defArgs s_BadScheme___init__) (defBody s_BadScheme___init__) (defScope s_BadScheme___init__) .none kV1 dc1 pm1 an1 cd1 ct1), sl1⟩)
    (c1 : PySem.W.codeIn K cd1 "BadScheme.__init__" = true)
    (k1 : PySem.W.keepIn K (.ref f1) = true)
    (a2 : PySem.W.findIn K (.ref C_UnknownSort) "__init__" = some (some (.ref f2)))
    (i2 : PySem.W.isFn K (.ref f2) = true)
    (l2 : K.lookup f2 = some ⟨oc2, od2, .func (PySem.W.fnOf "__init__" "UnknownSort.__init__" (defArgs s_UnknownSort___init__) (defBody s_UnknownSort___init__) (defScope s_UnknownSort___init__) .none kV2 dc2 pm2 an2 cd2 ct2), sl2⟩)
    (c2 : PySem.W.codeIn K cd2 "UnknownSort.__init__" = true)
    (k2 : PySem.W.keepIn K (.ref f2) = true)
    (a3 : PySem.W.findIn K (.ref C_BadRow) "__init__" = some (some (.ref f3)))
    (i3 : PySem.W.isFn K (.ref f3) = true)
    (l3 : K.lookup f3 = some ⟨oc3, od3, .func (PySem.W.fnOf "__init__" "BadRow.__init__" (defArgs s_BadRow___init__) (defBody s_BadRow___init__) (defScope s_BadRow___init__) .none kV3 dc3 pm3 an3 cd3 ct3), sl3⟩)
    (c3 : PySem.W.codeIn K cd3 "BadRow.__init__" = true)
    (k3 : PySem.W.keepIn K (.ref f3) = true)
    (a4 : PySem.W.findIn K (.ref C_BadNumber) "__init__" = some (some (.ref f4)))
    (i4 : PySem.W.isFn K (.ref f4) = true)
    (l4 : K.lookup f4 = some ⟨oc4, od4, .func (PySem.W.fnOf "__init__" "BadNumber.__init__" (defArgs s_BadNumber___init__) (defBody s_BadNumber___init__) (defScope s_BadNumber___init__) .none kV4 dc4 pm4 an4 cd4 ct4), sl4⟩)
    (c4 : PySem.W.codeIn K cd4 "BadNumber.__init__" = true)
    (k4 : PySem.W.keepIn K (.ref f4) = true)
    (a5 : PySem.W.findIn K (.ref C_BadLay) "__init__" = some (some (.ref f5)))
    (i5 : PySem.W.isFn K (.ref f5) = true)
    (l5 : K.lookup f5 = some ⟨oc5, od5, .func (PySem.W.fnOf "__init__" "BadLay.__init__" (defArgs s_BadLay___init__) (defBody s_BadLay___init__) (defScope s_BadLay___init__) .none kV5 dc5 pm5 an5 cd5 ct5), sl5⟩)
    (c5 : PySem.W.codeIn K cd5 "BadLay.__init__" = true)
    (k5 : PySem.W.keepIn K (.ref f5) = true)
    (a6 : PySem.W.nsIn K mainGlobals "possible" = some (some (.ref f6)))
    (l6 : K.lookup f6 = some ⟨oc6, od6, .func (PySem.W.fnOf "possible" "possible" (defArgs s_possible) (defBody s_possible) (defScope s_possible) .none kV6 dc6 pm6 an6 cd6 ct6), sl6⟩)
    (c6 : PySem.W.codeIn K cd6 "possible" = true)
    (k6 : PySem.W.keepIn K (.ref f6) = true)
    (a7 : PySem.W.nsIn K mainGlobals "zone_of" = some (some (.ref f7)))
    (l7 : K.lookup f7 = some ⟨oc7, od7, .func (PySem.W.fnOf "zone_of" "zone_of" (defArgs s_zone_of) (defBody s_zone_of) (defScope s_zone_of) .none kV7 dc7 pm7 an7 cd7 ct7), sl7⟩)
    (c7 : PySem.W.codeIn K cd7 "zone_of" = true)
    (k7 : PySem.W.keepIn K (.ref f7) = true)
    (a8 : PySem.W.findIn K (.ref C_Offset) "__init__" = some (some (.ref f8)))
    (i8 : PySem.W.isFn K (.ref f8) = true)
    (l8 : K.lookup f8 = some ⟨oc8, od8, .func (PySem.W.fnOf "__init__" "Offset.__init__" (defArgs s_Offset___init__) (defBody s_Offset___init__) (defScope s_Offset___init__) .none kV8 dc8 pm8 an8 cd8 ct8), sl8⟩)
    (c8 : PySem.W.codeIn K cd8 "Offset.__init__" = true)
    (k8 : PySem.W.keepIn K (.ref f8) = true)
    (a9 : PySem.W.findIn K (.ref C_Offset) "__neg__" = some (some (.ref f9)))
    (i9 : PySem.W.isFn K (.ref f9) = true)
    (l9 : K.lookup f9 = some ⟨oc9, od9, .func (PySem.W.fnOf "__neg__" "Offset.__neg__" (defArgs s_Offset___neg__) (defBody s_Offset___neg__) (defScope s_Offset___neg__) .none kV9 dc9 pm9 an9 cd9 ct9), sl9⟩)
    (c9 : PySem.W.codeIn K cd9 "Offset.__neg__" = true)
    (k9 : PySem.W.keepIn K (.ref f9) = true)
    (a10 : PySem.W.findIn K (.ref C_Offset) "__eq__" = some (some (.ref f10)))
    (i10 : PySem.W.isFn K (.ref f10) = true)
    (l10 : K.lookup f10 = some ⟨oc10, od10, .func (PySem.W.fnOf "__eq__" "Offset.__eq__" (defArgs s_Offset___eq__) (defBody s_Offset___eq__) (defScope s_Offset___eq__) .none kV10 dc10 pm10 an10 cd10 ct10), sl10⟩)
    (c10 : PySem.W.codeIn K cd10 "Offset.__eq__" = true)
    (k10 : PySem.W.keepIn K (.ref f10) = true)
    (a11 : PySem.W.nsIn K mainGlobals "is_integer" = some (some (.ref f11)))
    (l11 : K.lookup f11 = some ⟨oc11, od11, .func (PySem.W.fnOf "is_integer" "is_integer" (defArgs s_is_integer) (defBody s_is_integer) (defScope s_is_integer) .none kV11 dc11 pm11 an11 cd11 ct11), sl11⟩)
    (c11 : PySem.W.codeIn K cd11 "is_integer" = true)
    (k11 : PySem.W.keepIn K (.ref f11) = true)
    (a12 : PySem.W.nsIn K mainGlobals "bad_column" = some (some (.ref f12)))
    (l12 : K.lookup f12 = some ⟨oc12, od12, .func (PySem.W.fnOf "bad_column" "bad_column" (defArgs s_bad_column) (defBody s_bad_column) (defScope s_bad_column) .none kV12 dc12 pm12 an12 cd12 ct12), sl12⟩)
    (c12 : PySem.W.codeIn K cd12 "bad_column" = true)
    (k12 : PySem.W.keepIn K (.ref f12) = true)
    (a13 : PySem.W.findIn K (.ref C_Table) "__init__" = some (some (.ref f13)))
    (i13 : PySem.W.isFn K (.ref f13) = true)
    (l13 : K.lookup f13 = some ⟨oc13, od13, .func (PySem.W.fnOf "__init__" "Table.__init__" (defArgs s_Table___init__) (defBody s_Table___init__) (defScope s_Table___init__) .none kV13 dc13 pm13 an13 cd13 ct13), sl13⟩)
    (c13 : PySem.W.codeIn K cd13 "Table.__init__" = true)
    (k13 : PySem.W.keepIn K (.ref f13) = true)
    (a14 : PySem.W.findIn K (.ref C_Table) "__len__" = some (some (.ref f14)))
    (i14 : PySem.W.isFn K (.ref f14) = true)
    (l14 : K.lookup f14 = some ⟨oc14, od14, .func (PySem.W.fnOf "__len__" "Table.__len__" (defArgs s_Table___len__) (defBody s_Table___len__) (defScope s_Table___len__) .none kV14 dc14 pm14 an14 cd14 ct14), sl14⟩)
    (c14 : PySem.W.codeIn K cd14 "Table.__len__" = true)
    (k14 : PySem.W.keepIn K (.ref f14) = true)
    (a15 : PySem.W.findIn K (.ref C_Table) "record" = some (some (.ref f15)))
    (i15 : PySem.W.isFn K (.ref f15) = true)
    (l15 : K.lookup f15 = some ⟨oc15, od15, .func (PySem.W.fnOf "record" "Table.record" (defArgs s_Table_record) (defBody s_Table_record) (defScope s_Table_record) .none kV15 dc15 pm15 an15 cd15 ct15), sl15⟩)
    (c15 : PySem.W.codeIn K cd15 "Table.record" = true)
    (k15 : PySem.W.keepIn K (.ref f15) = true)
    (a16 : PySem.W.findIn K (.ref C_Table) "__eq__" = some (some (.ref f16)))
    (i16 : PySem.W.isFn K (.ref f16) = true)
    (l16 : K.lookup f16 = some ⟨oc16, od16, .func (PySem.W.fnOf "__eq__" "Table.__eq__" (defArgs s_Table___eq__) (defBody s_Table___eq__) (defScope s_Table___eq__) .none kV16 dc16 pm16 an16 cd16 ct16), sl16⟩)
    (c16 : PySem.W.codeIn K cd16 "Table.__eq__" = true)
    (k16 : PySem.W.keepIn K (.ref f16) = true)
    (a17 : PySem.W.nsIn K mainGlobals "seat_of" = some (some (.ref f17)))
    (l17 : K.lookup f17 = some ⟨oc17, od17, .func (PySem.W.fnOf "seat_of" "seat_of" (defArgs s_seat_of) (defBody s_seat_of) (defScope s_seat_of) .none kV17 dc17 pm17 an17 cd17 ct17), sl17⟩)
    (c17 : PySem.W.codeIn K cd17 "seat_of" = true)
    (k17 : PySem.W.keepIn K (.ref f17) = true)
    (a18 : PySem.W.nsIn K mainGlobals "seats_of" = some (some (.ref f18)))
    (l18 : K.lookup f18 = some ⟨oc18, od18, .func (PySem.W.fnOf "seats_of" "seats_of" (defArgs s_seats_of) (defBody s_seats_of) (defScope s_seats_of) .none kV18 dc18 pm18 an18 cd18 ct18), sl18⟩)
    (c18 : PySem.W.codeIn K cd18 "seats_of" = true)
    (k18 : PySem.W.keepIn K (.ref f18) = true)
    (a19 : PySem.W.nsIn K mainGlobals "is_numbering" = some (some (.ref f19)))
    (l19 : K.lookup f19 = some ⟨oc19, od19, .func (PySem.W.fnOf "is_numbering" "is_numbering" (defArgs s_is_numbering) (defBody s_is_numbering) (defScope s_is_numbering) .none kV19 dc19 pm19 an19 cd19 ct19), sl19⟩)
    (c19 : PySem.W.codeIn K cd19 "is_numbering" = true)
    (k19 : PySem.W.keepIn K (.ref f19) = true)
    (a20 : PySem.W.nsIn K mainGlobals "is_sorted" = some (some (.ref f20)))
    (l20 : K.lookup f20 = some ⟨oc20, od20, .func (PySem.W.fnOf "is_sorted" "is_sorted" (defArgs s_is_sorted) (defBody s_is_sorted) (defScope s_is_sorted) .none kV20 dc20 pm20 an20 cd20 ct20), sl20⟩)
    (c20 : PySem.W.codeIn K cd20 "is_sorted" = true)
    (k20 : PySem.W.keepIn K (.ref f20) = true)
    (a21 : PySem.W.nsIn K mainGlobals "ranks_of" = some (some (.ref f21)))
    (l21 : K.lookup f21 = some ⟨oc21, od21, .func (PySem.W.fnOf "ranks_of" "ranks_of" (defArgs s_ranks_of) (defBody s_ranks_of) (defScope s_ranks_of) .none kV21 dc21 pm21 an21 cd21 ct21), sl21⟩)
    (c21 : PySem.W.codeIn K cd21 "ranks_of" = true)
    (k21 : PySem.W.keepIn K (.ref f21) = true)
    (a22 : PySem.W.findIn K (.ref C_Lay) "__init__" = some (some (.ref f22)))
    (i22 : PySem.W.isFn K (.ref f22) = true)
    (l22 : K.lookup f22 = some ⟨oc22, od22, .func (PySem.W.fnOf "__init__" "Lay.__init__" (defArgs s_Lay___init__) (defBody s_Lay___init__) (defScope s_Lay___init__) .none kV22 dc22 pm22 an22 cd22 ct22), sl22⟩)
    (c22 : PySem.W.codeIn K cd22 "Lay.__init__" = true)
    (k22 : PySem.W.keepIn K (.ref f22) = true)
    (a23 : PySem.W.findIn K (.ref C_Lay) "order" = some (some (.ref f23)))
    (i23 : PySem.W.isFn K (.ref f23) = true)
    (l23 : K.lookup f23 = some ⟨oc23, od23, .func (PySem.W.fnOf "order" "Lay.order" (defArgs s_Lay_order) (defBody s_Lay_order) (defScope s_Lay_order) .none kV23 dc23 pm23 an23 cd23 ct23), sl23⟩)
    (c23 : PySem.W.codeIn K cd23 "Lay.order" = true)
    (k23 : PySem.W.keepIn K (.ref f23) = true)
    (a24 : PySem.W.findIn K (.ref C_Lay) "inspect_rows" = some (some (.ref f24)))
    (i24 : PySem.W.isFn K (.ref f24) = true)
    (l24 : K.lookup f24 = some ⟨oc24, od24, .func (PySem.W.fnOf "inspect_rows" "Lay.inspect_rows" (defArgs s_Lay_inspect_rows) (defBody s_Lay_inspect_rows) (defScope s_Lay_inspect_rows) .none kV24 dc24 pm24 an24 cd24 ct24), sl24⟩)
    (c24 : PySem.W.codeIn K cd24 "Lay.inspect_rows" = true)
    (k24 : PySem.W.keepIn K (.ref f24) = true)
    (a25 : PySem.W.findIn K (.ref C_Lay) "offset" = some (some (.ref f25)))
    (i25 : PySem.W.isFn K (.ref f25) = true)
    (l25 : K.lookup f25 = some ⟨oc25, od25, .func (PySem.W.fnOf "offset" "Lay.offset" (defArgs s_Lay_offset) (defBody s_Lay_offset) (defScope s_Lay_offset) .none kV25 dc25 pm25 an25 cd25 ct25), sl25⟩)
    (c25 : PySem.W.codeIn K cd25 "Lay.offset" = true)
    (k25 : PySem.W.keepIn K (.ref f25) = true)
    (a26 : PySem.W.findIn K (.ref C_Lay) "__eq__" = some (some (.ref f26)))
    (i26 : PySem.W.isFn K (.ref f26) = true)
    (l26 : K.lookup f26 = some ⟨oc26, od26, .func (PySem.W.fnOf "__eq__" "Lay.__eq__" (defArgs s_Lay___eq__) (defBody s_Lay___eq__) (defScope s_Lay___eq__) .none kV26 dc26 pm26 an26 cd26 ct26), sl26⟩)
    (c26 : PySem.W.codeIn K cd26 "Lay.__eq__" = true)
    (k26 : PySem.W.keepIn K (.ref f26) = true)
    (a27 : PySem.W.nsIn K mainGlobals "groups_of" = some (some (.ref f27)))
    (l27 : K.lookup f27 = some ⟨oc27, od27, .func (PySem.W.fnOf "groups_of" "groups_of" (defArgs s_groups_of) (defBody s_groups_of) (defScope s_groups_of) .none kV27 dc27 pm27 an27 cd27 ct27), sl27⟩)
    (c27 : PySem.W.codeIn K cd27 "groups_of" = true)
    (k27 : PySem.W.keepIn K (.ref f27) = true)
    (a28 : PySem.W.nsIn K mainGlobals "factorial" = some (some (.ref f28)))
    (l28 : K.lookup f28 = some ⟨oc28, od28, .func (PySem.W.fnOf "factorial" "factorial" (defArgs s_factorial) (defBody s_factorial) (defScope s_factorial) .none kV28 dc28 pm28 an28 cd28 ct28), sl28⟩)
    (c28 : PySem.W.codeIn K cd28 "factorial" = true)
    (k28 : PySem.W.keepIn K (.ref f28) = true)
    (a29 : PySem.W.nsIn K mainGlobals "all_groups" = some (some (.ref f29)))
    (l29 : K.lookup f29 = some ⟨oc29, od29, .func (PySem.W.fnOf "all_groups" "all_groups" (defArgs s_all_groups) (defBody s_all_groups) (defScope s_all_groups) .none kV29 dc29 pm29 an29 cd29 ct29), sl29⟩)
    (c29 : PySem.W.codeIn K cd29 "all_groups" = true)
    (k29 : PySem.W.keepIn K (.ref f29) = true)
    (a30 : PySem.W.nsIn K mainGlobals "first_lay" = some (some (.ref f30)))
    (l30 : K.lookup f30 = some ⟨oc30, od30, .func (PySem.W.fnOf "first_lay" "first_lay" (defArgs s_first_lay) (defBody s_first_lay) (defScope s_first_lay) .none kV30 dc30 pm30 an30 cd30 ct30), sl30⟩)
    (c30 : PySem.W.codeIn K cd30 "first_lay" = true)
    (k30 : PySem.W.keepIn K (.ref f30) = true)
    (a31 : PySem.W.nsIn K mainGlobals "lay_count" = some (some (.ref f31)))
    (l31 : K.lookup f31 = some ⟨oc31, od31, .func (PySem.W.fnOf "lay_count" "lay_count" (defArgs s_lay_count) (defBody s_lay_count) (defScope s_lay_count) .none kV31 dc31 pm31 an31 cd31 ct31), sl31⟩)
    (c31 : PySem.W.codeIn K cd31 "lay_count" = true)
    (k31 : PySem.W.keepIn K (.ref f31) = true)
    (a32 : PySem.W.nsIn K mainGlobals "order_at" = some (some (.ref f32)))
    (l32 : K.lookup f32 = some ⟨oc32, od32, .func (PySem.W.fnOf "order_at" "order_at" (defArgs s_order_at) (defBody s_order_at) (defScope s_order_at) .none kV32 dc32 pm32 an32 cd32 ct32), sl32⟩)
    (c32 : PySem.W.codeIn K cd32 "order_at" = true)
    (k32 : PySem.W.keepIn K (.ref f32) = true)
    (a33 : PySem.W.nsIn K mainGlobals "lay_at" = some (some (.ref f33)))
    (l33 : K.lookup f33 = some ⟨oc33, od33, .func (PySem.W.fnOf "lay_at" "lay_at" (defArgs s_lay_at) (defBody s_lay_at) (defScope s_lay_at) .none kV33 dc33 pm33 an33 cd33 ct33), sl33⟩)
    (c33 : PySem.W.codeIn K cd33 "lay_at" = true)
    (k33 : PySem.W.keepIn K (.ref f33) = true)
    (a34 : PySem.W.nsIn K mainGlobals "plain_row" = some (some (.ref f34)))
    (l34 : K.lookup f34 = some ⟨oc34, od34, .func (PySem.W.fnOf "plain_row" "plain_row" (defArgs s_plain_row) (defBody s_plain_row) (defScope s_plain_row) .none kV34 dc34 pm34 an34 cd34 ct34), sl34⟩)
    (c34 : PySem.W.codeIn K cd34 "plain_row" = true)
    (k34 : PySem.W.keepIn K (.ref f34) = true)
    (a35 : PySem.W.nsIn K mainGlobals "rising_rows" = some (some (.ref f35)))
    (l35 : K.lookup f35 = some ⟨oc35, od35, .func (PySem.W.fnOf "rising_rows" "rising_rows" (defArgs s_rising_rows) (defBody s_rising_rows) (defScope s_rising_rows) .none kV35 dc35 pm35 an35 cd35 ct35), sl35⟩)
    (c35 : PySem.W.codeIn K cd35 "rising_rows" = true)
    (k35 : PySem.W.keepIn K (.ref f35) = true)
    (a36 : PySem.W.nsIn K mainGlobals "showing" = some (some (.ref f36)))
    (l36 : K.lookup f36 = some ⟨oc36, od36, .func (PySem.W.fnOf "showing" "showing" (defArgs s_showing) (defBody s_showing) (defScope s_showing) .none kV36 dc36 pm36 an36 cd36 ct36), sl36⟩)
    (c36 : PySem.W.codeIn K cd36 "showing" = true)
    (k36 : PySem.W.keepIn K (.ref f36) = true)
    (a37 : PySem.W.nsIn K mainGlobals "is_name" = some (some (.ref f37)))
    (l37 : K.lookup f37 = some ⟨oc37, od37, .func (PySem.W.fnOf "is_name" "is_name" (defArgs s_is_name) (defBody s_is_name) (defScope s_is_name) .none kV37 dc37 pm37 an37 cd37 ct37), sl37⟩)
    (c37 : PySem.W.codeIn K cd37 "is_name" = true)
    (k37 : PySem.W.keepIn K (.ref f37) = true)
    (a38 : PySem.W.nsIn K mainGlobals "first_double" = some (some (.ref f38)))
    (l38 : K.lookup f38 = some ⟨oc38, od38, .func (PySem.W.fnOf "first_double" "first_double" (defArgs s_first_double) (defBody s_first_double) (defScope s_first_double) .none kV38 dc38 pm38 an38 cd38 ct38), sl38⟩)
    (c38 : PySem.W.codeIn K cd38 "first_double" = true)
    (k38 : PySem.W.keepIn K (.ref f38) = true)
    (a39 : PySem.W.findIn K (.ref C_Sort) "__init__" = some (some (.ref f39)))
    (i39 : PySem.W.isFn K (.ref f39) = true)
    (l39 : K.lookup f39 = some ⟨oc39, od39, .func (PySem.W.fnOf "__init__" "Sort.__init__" (defArgs s_Sort___init__) (defBody s_Sort___init__) (defScope s_Sort___init__) .none kV39 dc39 pm39 an39 cd39 ct39), sl39⟩)
    (c39 : PySem.W.codeIn K cd39 "Sort.__init__" = true)
    (k39 : PySem.W.keepIn K (.ref f39) = true)
    (a40 : PySem.W.findIn K (.ref C_Sort) "__eq__" = some (some (.ref f40)))
    (i40 : PySem.W.isFn K (.ref f40) = true)
    (l40 : K.lookup f40 = some ⟨oc40, od40, .func (PySem.W.fnOf "__eq__" "Sort.__eq__" (defArgs s_Sort___eq__) (defBody s_Sort___eq__) (defScope s_Sort___eq__) .none kV40 dc40 pm40 an40 cd40 ct40), sl40⟩)
    (c40 : PySem.W.codeIn K cd40 "Sort.__eq__" = true)
    (k40 : PySem.W.keepIn K (.ref f40) = true)
    (a41 : PySem.W.findIn K (.ref C_Scheme) "__init__" = some (some (.ref f41)))
    (i41 : PySem.W.isFn K (.ref f41) = true)
    (l41 : K.lookup f41 = some ⟨oc41, od41, .func (PySem.W.fnOf "__init__" "Scheme.__init__" (defArgs s_Scheme___init__) (defBody s_Scheme___init__) (defScope s_Scheme___init__) .none kV41 dc41 pm41 an41 cd41 ct41), sl41⟩)
    (c41 : PySem.W.codeIn K cd41 "Scheme.__init__" = true)
    (k41 : PySem.W.keepIn K (.ref f41) = true)
    (a42 : PySem.W.findIn K (.ref C_Scheme) "inspect" = some (some (.ref f42)))
    (i42 : PySem.W.isFn K (.ref f42) = true)
    (l42 : K.lookup f42 = some ⟨oc42, od42, .func (PySem.W.fnOf "inspect" "Scheme.inspect" (defArgs s_Scheme_inspect) (defBody s_Scheme_inspect) (defScope s_Scheme_inspect) .none kV42 dc42 pm42 an42 cd42 ct42), sl42⟩)
    (c42 : PySem.W.codeIn K cd42 "Scheme.inspect" = true)
    (k42 : PySem.W.keepIn K (.ref f42) = true)
    (a43 : PySem.W.findIn K (.ref C_Scheme) "columns" = some (some (.ref f43)))
    (i43 : PySem.W.isFn K (.ref f43) = true)
    (l43 : K.lookup f43 = some ⟨oc43, od43, .func (PySem.W.fnOf "columns" "Scheme.columns" (defArgs s_Scheme_columns) (defBody s_Scheme_columns) (defScope s_Scheme_columns) .none kV43 dc43 pm43 an43 cd43 ct43), sl43⟩)
    (c43 : PySem.W.codeIn K cd43 "Scheme.columns" = true)
    (k43 : PySem.W.keepIn K (.ref f43) = true)
    (a44 : PySem.W.findIn K (.ref C_Scheme) "sort_names" = some (some (.ref f44)))
    (i44 : PySem.W.isFn K (.ref f44) = true)
    (l44 : K.lookup f44 = some ⟨oc44, od44, .func (PySem.W.fnOf "sort_names" "Scheme.sort_names" (defArgs s_Scheme_sort_names) (defBody s_Scheme_sort_names) (defScope s_Scheme_sort_names) .none kV44 dc44 pm44 an44 cd44 ct44), sl44⟩)
    (c44 : PySem.W.codeIn K cd44 "Scheme.sort_names" = true)
    (k44 : PySem.W.keepIn K (.ref f44) = true)
    (a45 : PySem.W.findIn K (.ref C_Scheme) "sort_named" = some (some (.ref f45)))
    (i45 : PySem.W.isFn K (.ref f45) = true)
    (l45 : K.lookup f45 = some ⟨oc45, od45, .func (PySem.W.fnOf "sort_named" "Scheme.sort_named" (defArgs s_Scheme_sort_named) (defBody s_Scheme_sort_named) (defScope s_Scheme_sort_named) .none kV45 dc45 pm45 an45 cd45 ct45), sl45⟩)
    (c45 : PySem.W.codeIn K cd45 "Scheme.sort_named" = true)
    (k45 : PySem.W.keepIn K (.ref f45) = true)
    (a46 : PySem.W.findIn K (.ref C_Scheme) "__eq__" = some (some (.ref f46)))
    (i46 : PySem.W.isFn K (.ref f46) = true)
    (l46 : K.lookup f46 = some ⟨oc46, od46, .func (PySem.W.fnOf "__eq__" "Scheme.__eq__" (defArgs s_Scheme___eq__) (defBody s_Scheme___eq__) (defScope s_Scheme___eq__) .none kV46 dc46 pm46 an46 cd46 ct46), sl46⟩)
    (c46 : PySem.W.codeIn K cd46 "Scheme.__eq__" = true)
    (k46 : PySem.W.keepIn K (.ref f46) = true)
    (a47 : PySem.W.nsIn K mainGlobals "_law_begin" = some (some (.ref f47)))
    (l47 : K.lookup f47 = some ⟨oc47, od47, .func (PySem.W.fnOf "_law_begin" "_law_begin" (defArgs s__law_begin) (defBody s__law_begin) (defScope s__law_begin) .none kV47 dc47 pm47 an47 cd47 ct47), sl47⟩)
    (c47 : PySem.W.codeIn K cd47 "_law_begin" = true)
    (k47 : PySem.W.keepIn K (.ref f47) = true)
    (a48 : PySem.W.nsIn K mainGlobals "_law_draw" = some (some (.ref f48)))
    (l48 : K.lookup f48 = some ⟨oc48, od48, .func (PySem.W.fnOf "_law_draw" "_law_draw" (defArgs s__law_draw) (defBody s__law_draw) (defScope s__law_draw) .none kV48 dc48 pm48 an48 cd48 ct48), sl48⟩)
    (c48 : PySem.W.codeIn K cd48 "_law_draw" = true)
    (k48 : PySem.W.keepIn K (.ref f48) = true)
    (a49 : PySem.W.nsIn K mainGlobals "_law_name" = some (some (.ref f49)))
    (l49 : K.lookup f49 = some ⟨oc49, od49, .func (PySem.W.fnOf "_law_name" "_law_name" (defArgs s__law_name) (defBody s__law_name) (defScope s__law_name) .none kV49 dc49 pm49 an49 cd49 ct49), sl49⟩)
    (c49 : PySem.W.codeIn K cd49 "_law_name" = true)
    (k49 : PySem.W.keepIn K (.ref f49) = true)
    (a50 : PySem.W.nsIn K mainGlobals "_law_names" = some (some (.ref f50)))
    (l50 : K.lookup f50 = some ⟨oc50, od50, .func (PySem.W.fnOf "_law_names" "_law_names" (defArgs s__law_names) (defBody s__law_names) (defScope s__law_names) .none kV50 dc50 pm50 an50 cd50 ct50), sl50⟩)
    (c50 : PySem.W.codeIn K cd50 "_law_names" = true)
    (k50 : PySem.W.keepIn K (.ref f50) = true)
    (a51 : PySem.W.nsIn K mainGlobals "_law_spec" = some (some (.ref f51)))
    (l51 : K.lookup f51 = some ⟨oc51, od51, .func (PySem.W.fnOf "_law_spec" "_law_spec" (defArgs s__law_spec) (defBody s__law_spec) (defScope s__law_spec) .none kV51 dc51 pm51 an51 cd51 ct51), sl51⟩)
    (c51 : PySem.W.codeIn K cd51 "_law_spec" = true)
    (k51 : PySem.W.keepIn K (.ref f51) = true)
    (a52 : PySem.W.nsIn K mainGlobals "_law_scheme" = some (some (.ref f52)))
    (l52 : K.lookup f52 = some ⟨oc52, od52, .func (PySem.W.fnOf "_law_scheme" "_law_scheme" (defArgs s__law_scheme) (defBody s__law_scheme) (defScope s__law_scheme) .none kV52 dc52 pm52 an52 cd52 ct52), sl52⟩)
    (c52 : PySem.W.codeIn K cd52 "_law_scheme" = true)
    (k52 : PySem.W.keepIn K (.ref f52) = true)
    (a53 : PySem.W.nsIn K mainGlobals "_law_key" = some (some (.ref f53)))
    (l53 : K.lookup f53 = some ⟨oc53, od53, .func (PySem.W.fnOf "_law_key" "_law_key" (defArgs s__law_key) (defBody s__law_key) (defScope s__law_key) .none kV53 dc53 pm53 an53 cd53 ct53), sl53⟩)
    (c53 : PySem.W.codeIn K cd53 "_law_key" = true)
    (k53 : PySem.W.keepIn K (.ref f53) = true)
    (a54 : PySem.W.nsIn K mainGlobals "_law_hall" = some (some (.ref f54)))
    (l54 : K.lookup f54 = some ⟨oc54, od54, .func (PySem.W.fnOf "_law_hall" "_law_hall" (defArgs s__law_hall) (defBody s__law_hall) (defScope s__law_hall) .none kV54 dc54 pm54 an54 cd54 ct54), sl54⟩)
    (c54 : PySem.W.codeIn K cd54 "_law_hall" = true)
    (k54 : PySem.W.keepIn K (.ref f54) = true)
    (a55 : PySem.W.nsIn K mainGlobals "_law_whole" = some (some (.ref f55)))
    (l55 : K.lookup f55 = some ⟨oc55, od55, .func (PySem.W.fnOf "_law_whole" "_law_whole" (defArgs s__law_whole) (defBody s__law_whole) (defScope s__law_whole) .none kV55 dc55 pm55 an55 cd55 ct55), sl55⟩)
    (c55 : PySem.W.codeIn K cd55 "_law_whole" = true)
    (k55 : PySem.W.keepIn K (.ref f55) = true)
    (a56 : PySem.W.nsIn K mainGlobals "_law_triple" = some (some (.ref f56)))
    (l56 : K.lookup f56 = some ⟨oc56, od56, .func (PySem.W.fnOf "_law_triple" "_law_triple" (defArgs s__law_triple) (defBody s__law_triple) (defScope s__law_triple) .none kV56 dc56 pm56 an56 cd56 ct56), sl56⟩)
    (c56 : PySem.W.codeIn K cd56 "_law_triple" = true)
    (k56 : PySem.W.keepIn K (.ref f56) = true)
    (a57 : PySem.W.nsIn K mainGlobals "_law_seat_list" = some (some (.ref f57)))
    (l57 : K.lookup f57 = some ⟨oc57, od57, .func (PySem.W.fnOf "_law_seat_list" "_law_seat_list" (defArgs s__law_seat_list) (defBody s__law_seat_list) (defScope s__law_seat_list) .none kV57 dc57 pm57 an57 cd57 ct57), sl57⟩)
    (c57 : PySem.W.codeIn K cd57 "_law_seat_list" = true)
    (k57 : PySem.W.keepIn K (.ref f57) = true)
    (a58 : PySem.W.nsIn K mainGlobals "_law_fits" = some (some (.ref f58)))
    (l58 : K.lookup f58 = some ⟨oc58, od58, .func (PySem.W.fnOf "_law_fits" "_law_fits" (defArgs s__law_fits) (defBody s__law_fits) (defScope s__law_fits) .none kV58 dc58 pm58 an58 cd58 ct58), sl58⟩)
    (c58 : PySem.W.codeIn K cd58 "_law_fits" = true)
    (k58 : PySem.W.keepIn K (.ref f58) = true)
    (a59 : PySem.W.nsIn K mainGlobals "_law_seen" = some (some (.ref f59)))
    (l59 : K.lookup f59 = some ⟨oc59, od59, .func (PySem.W.fnOf "_law_seen" "_law_seen" (defArgs s__law_seen) (defBody s__law_seen) (defScope s__law_seen) .none kV59 dc59 pm59 an59 cd59 ct59), sl59⟩)
    (c59 : PySem.W.codeIn K cd59 "_law_seen" = true)
    (k59 : PySem.W.keepIn K (.ref f59) = true)
    (a60 : PySem.W.nsIn K mainGlobals "_law_right" = some (some (.ref f60)))
    (l60 : K.lookup f60 = some ⟨oc60, od60, .func (PySem.W.fnOf "_law_right" "_law_right" (defArgs s__law_right) (defBody s__law_right) (defScope s__law_right) .none kV60 dc60 pm60 an60 cd60 ct60), sl60⟩)
    (c60 : PySem.W.codeIn K cd60 "_law_right" = true)
    (k60 : PySem.W.keepIn K (.ref f60) = true)
    (a61 : PySem.W.nsIn K mainGlobals "_law_refused" = some (some (.ref f61)))
    (l61 : K.lookup f61 = some ⟨oc61, od61, .func (PySem.W.fnOf "_law_refused" "_law_refused" (defArgs s__law_refused) (defBody s__law_refused) (defScope s__law_refused) .none kV61 dc61 pm61 an61 cd61 ct61), sl61⟩)
    (c61 : PySem.W.codeIn K cd61 "_law_refused" = true)
    (k61 : PySem.W.keepIn K (.ref f61) = true)
    (a62 : PySem.W.nsIn K mainGlobals "law" = some (some (.ref f62)))
    (l62 : K.lookup f62 = some ⟨oc62, od62, .func (PySem.W.fnOf "law" "law" (defArgs s_law) (defBody s_law) (defScope s_law) .none kV62 dc62 pm62 an62 cd62 ct62), sl62⟩)
    (c62 : PySem.W.codeIn K cd62 "law" = true)
    (k62 : PySem.W.keepIn K (.ref f62) = true)
    (z_abs : PySem.W.nsIn K mainGlobals "abs" = some none)
    (z_all : PySem.W.nsIn K mainGlobals "all" = some none)
    (z_bool : PySem.W.nsIn K mainGlobals "bool" = some none)
    (z_dict : PySem.W.nsIn K mainGlobals "dict" = some none)
    (z_enumerate : PySem.W.nsIn K mainGlobals "enumerate" = some none)
    (z_int : PySem.W.nsIn K mainGlobals "int" = some none)
    (z_isinstance : PySem.W.nsIn K mainGlobals "isinstance" = some none)
    (z_len : PySem.W.nsIn K mainGlobals "len" = some none)
    (z_list : PySem.W.nsIn K mainGlobals "list" = some none)
    (z_max : PySem.W.nsIn K mainGlobals "max" = some none)
    (z_range : PySem.W.nsIn K mainGlobals "range" = some none)
    (z_reversed : PySem.W.nsIn K mainGlobals "reversed" = some none)
    (z_sorted : PySem.W.nsIn K mainGlobals "sorted" = some none)
    (z_str : PySem.W.nsIn K mainGlobals "str" = some none)
    (z_tuple : PySem.W.nsIn K mainGlobals "tuple" = some none)
    (z_zip : PySem.W.nsIn K mainGlobals "zip" = some none)
    (ex_WindowError : PySem.W.subIn K (.ref C_WindowError) (.type "BaseException") = some true)
    (ty_WindowError : PySem.W.typeIn K (.ref C_WindowError) = some (.type "type"))
    (hd_WindowError : PySem.W.hasDictIn K C_WindowError = true)
    (ex_BadScheme : PySem.W.subIn K (.ref C_BadScheme) (.type "BaseException") = some true)
    (ty_BadScheme : PySem.W.typeIn K (.ref C_BadScheme) = some (.type "type"))
    (hd_BadScheme : PySem.W.hasDictIn K C_BadScheme = true)
    (xL_BadScheme : K.lookup C_BadScheme = some (excClassObj nm_BadScheme q_BadScheme C_BadScheme N_BadScheme bs_BadScheme bm_BadScheme true sn_BadScheme sub_BadScheme ab_BadScheme col_BadScheme dd_BadScheme m0_BadScheme m1_BadScheme m2_BadScheme m3_BadScheme m5_BadScheme "ValueError.__new__"))
    (bmr_BadScheme : PySem.HandSPX.refsVE bm_BadScheme = true)
    (sa_BadScheme : PySem.W.findIn K (.ref C_BadScheme) "__setattr__" = some (some (.builtin "object.__setattr__")))
    (kc_BadScheme : PySem.W.keepIn K (.ref C_BadScheme) = true)
    (ga_BadScheme : PySem.W.findIn K (.ref C_BadScheme) "__getattribute__" = some (some (.builtin "BaseException.__getattribute__")))
    (gg_BadScheme : PySem.W.findIn K (.ref C_BadScheme) "__getattr__" = some none)
    (tI_BadScheme : PySem.W.typeIn K (.ref f1) = some (.type "function"))
    (nf_BadScheme_word : PySem.W.findIn K (.ref C_BadScheme) "word" = some none)
    (ex_BadRow : PySem.W.subIn K (.ref C_BadRow) (.type "BaseException") = some true)
    (ty_BadRow : PySem.W.typeIn K (.ref C_BadRow) = some (.type "type"))
    (hd_BadRow : PySem.W.hasDictIn K C_BadRow = true)
    (xL_BadRow : K.lookup C_BadRow = some (excClassObj nm_BadRow q_BadRow C_BadRow N_BadRow bs_BadRow bm_BadRow true sn_BadRow sub_BadRow ab_BadRow col_BadRow dd_BadRow m0_BadRow m1_BadRow m2_BadRow m3_BadRow m5_BadRow "ValueError.__new__"))
    (bmr_BadRow : PySem.HandSPX.refsVE bm_BadRow = true)
    (sa_BadRow : PySem.W.findIn K (.ref C_BadRow) "__setattr__" = some (some (.builtin "object.__setattr__")))
    (kc_BadRow : PySem.W.keepIn K (.ref C_BadRow) = true)
    (ga_BadRow : PySem.W.findIn K (.ref C_BadRow) "__getattribute__" = some (some (.builtin "BaseException.__getattribute__")))
    (gg_BadRow : PySem.W.findIn K (.ref C_BadRow) "__getattr__" = some none)
    (tI_BadRow : PySem.W.typeIn K (.ref f3) = some (.type "function"))
    (nf_BadRow_number : PySem.W.findIn K (.ref C_BadRow) "number" = some none)
    (nf_BadRow_column : PySem.W.findIn K (.ref C_BadRow) "column" = some none)
    (ca_BadRow : PySem.W.findIn K (.ref C_BadRow) "__class__" = some (some (.builtin "object.__class__")))
    (cn_BadRow : PySem.W.specialIn K (.builtin "object.__class__") "__get__" = some (some (.builtin "getset_descriptor.__get__")))
    (ct_BadRow : PySem.W.takesIn K (.builtin "object.__class__") = some true)
    (cm_BadRow : PySem.W.mroIn K C_BadRow (.type "object") = some true)
    (ke_BadRow_WindowError : PySem.W.kitOne K (.ref C_BadRow) (.ref C_WindowError) = some true)
    (su_BadRow_BadRow : PySem.W.subIn K (.ref C_BadRow) (.ref C_BadRow) = some true)
    (is_BadRow_BadRow : PySem.W.isIn K (.ref C_BadRow) C_BadRow = true)
    (su_BadRow_WindowError : PySem.W.subIn K (.ref C_BadRow) (.ref C_WindowError) = some true)
    (is_BadRow_WindowError : PySem.W.isIn K (.ref C_BadRow) C_WindowError = true)
    (ex_BadNumber : PySem.W.subIn K (.ref C_BadNumber) (.type "BaseException") = some true)
    (ty_BadNumber : PySem.W.typeIn K (.ref C_BadNumber) = some (.type "type"))
    (hd_BadNumber : PySem.W.hasDictIn K C_BadNumber = true)
    (xL_BadNumber : K.lookup C_BadNumber = some (excClassObj nm_BadNumber q_BadNumber C_BadNumber N_BadNumber bs_BadNumber bm_BadNumber true sn_BadNumber sub_BadNumber ab_BadNumber col_BadNumber dd_BadNumber m0_BadNumber m1_BadNumber m2_BadNumber m3_BadNumber m5_BadNumber "ValueError.__new__"))
    (bmr_BadNumber : PySem.HandSPX.refsVE bm_BadNumber = true)
    (sa_BadNumber : PySem.W.findIn K (.ref C_BadNumber) "__setattr__" = some (some (.builtin "object.__setattr__")))
    (kc_BadNumber : PySem.W.keepIn K (.ref C_BadNumber) = true)
    (ga_BadNumber : PySem.W.findIn K (.ref C_BadNumber) "__getattribute__" = some (some (.builtin "BaseException.__getattribute__")))
    (gg_BadNumber : PySem.W.findIn K (.ref C_BadNumber) "__getattr__" = some none)
    (tI_BadNumber : PySem.W.typeIn K (.ref f4) = some (.type "function"))
    (nf_BadNumber_number : PySem.W.findIn K (.ref C_BadNumber) "number" = some none)
    (ca_BadNumber : PySem.W.findIn K (.ref C_BadNumber) "__class__" = some (some (.builtin "object.__class__")))
    (cn_BadNumber : PySem.W.specialIn K (.builtin "object.__class__") "__get__" = some (some (.builtin "getset_descriptor.__get__")))
    (ct_BadNumber : PySem.W.takesIn K (.builtin "object.__class__") = some true)
    (cm_BadNumber : PySem.W.mroIn K C_BadNumber (.type "object") = some true)
    (ke_BadNumber_WindowError : PySem.W.kitOne K (.ref C_BadNumber) (.ref C_WindowError) = some true)
    (su_BadNumber_UnknownSort : PySem.W.subIn K (.ref C_BadNumber) (.ref C_UnknownSort) = some false)
    (su_BadNumber_BadNumber : PySem.W.subIn K (.ref C_BadNumber) (.ref C_BadNumber) = some true)
    (is_BadNumber_BadNumber : PySem.W.isIn K (.ref C_BadNumber) C_BadNumber = true)
    (su_BadNumber_WindowError : PySem.W.subIn K (.ref C_BadNumber) (.ref C_WindowError) = some true)
    (is_BadNumber_WindowError : PySem.W.isIn K (.ref C_BadNumber) C_WindowError = true)
    (ex_UnknownSort : PySem.W.subIn K (.ref C_UnknownSort) (.type "BaseException") = some true)
    (ty_UnknownSort : PySem.W.typeIn K (.ref C_UnknownSort) = some (.type "type"))
    (hd_UnknownSort : PySem.W.hasDictIn K C_UnknownSort = true)
    (xL_UnknownSort : K.lookup C_UnknownSort = some (excClassObj nm_UnknownSort q_UnknownSort C_UnknownSort N_UnknownSort bs_UnknownSort bm_UnknownSort true sn_UnknownSort sub_UnknownSort ab_UnknownSort col_UnknownSort dd_UnknownSort m0_UnknownSort m1_UnknownSort m2_UnknownSort m3_UnknownSort m5_UnknownSort "ValueError.__new__"))
    (bmr_UnknownSort : PySem.HandSPX.refsVE bm_UnknownSort = true)
    (sa_UnknownSort : PySem.W.findIn K (.ref C_UnknownSort) "__setattr__" = some (some (.builtin "object.__setattr__")))
    (kc_UnknownSort : PySem.W.keepIn K (.ref C_UnknownSort) = true)
    (ga_UnknownSort : PySem.W.findIn K (.ref C_UnknownSort) "__getattribute__" = some (some (.builtin "BaseException.__getattribute__")))
    (gg_UnknownSort : PySem.W.findIn K (.ref C_UnknownSort) "__getattr__" = some none)
    (tI_UnknownSort : PySem.W.typeIn K (.ref f2) = some (.type "function"))
    (nf_UnknownSort_name : PySem.W.findIn K (.ref C_UnknownSort) "name" = some none)
    (ca_UnknownSort : PySem.W.findIn K (.ref C_UnknownSort) "__class__" = some (some (.builtin "object.__class__")))
    (cn_UnknownSort : PySem.W.specialIn K (.builtin "object.__class__") "__get__" = some (some (.builtin "getset_descriptor.__get__")))
    (ct_UnknownSort : PySem.W.takesIn K (.builtin "object.__class__") = some true)
    (cm_UnknownSort : PySem.W.mroIn K C_UnknownSort (.type "object") = some true)
    (ke_UnknownSort_WindowError : PySem.W.kitOne K (.ref C_UnknownSort) (.ref C_WindowError) = some true)
    (su_UnknownSort_UnknownSort : PySem.W.subIn K (.ref C_UnknownSort) (.ref C_UnknownSort) = some true)
    (is_UnknownSort_UnknownSort : PySem.W.isIn K (.ref C_UnknownSort) C_UnknownSort = true)
    (su_UnknownSort_WindowError : PySem.W.subIn K (.ref C_UnknownSort) (.ref C_WindowError) = some true)
    (is_UnknownSort_WindowError : PySem.W.isIn K (.ref C_UnknownSort) C_WindowError = true)
    (ex_BadLay : PySem.W.subIn K (.ref C_BadLay) (.type "BaseException") = some true)
    (ty_BadLay : PySem.W.typeIn K (.ref C_BadLay) = some (.type "type"))
    (hd_BadLay : PySem.W.hasDictIn K C_BadLay = true)
    (xL_BadLay : K.lookup C_BadLay = some (excClassObj nm_BadLay q_BadLay C_BadLay N_BadLay bs_BadLay bm_BadLay true sn_BadLay sub_BadLay ab_BadLay col_BadLay dd_BadLay m0_BadLay m1_BadLay m2_BadLay m3_BadLay m5_BadLay "ValueError.__new__"))
    (bmr_BadLay : PySem.HandSPX.refsVE bm_BadLay = true)
    (sa_BadLay : PySem.W.findIn K (.ref C_BadLay) "__setattr__" = some (some (.builtin "object.__setattr__")))
    (kc_BadLay : PySem.W.keepIn K (.ref C_BadLay) = true)
    (ga_BadLay : PySem.W.findIn K (.ref C_BadLay) "__getattribute__" = some (some (.builtin "BaseException.__getattribute__")))
    (gg_BadLay : PySem.W.findIn K (.ref C_BadLay) "__getattr__" = some none)
    (tI_BadLay : PySem.W.typeIn K (.ref f5) = some (.type "function"))
    (nf_BadLay_name : PySem.W.findIn K (.ref C_BadLay) "name" = some none)
    (ca_BadLay : PySem.W.findIn K (.ref C_BadLay) "__class__" = some (some (.builtin "object.__class__")))
    (cn_BadLay : PySem.W.specialIn K (.builtin "object.__class__") "__get__" = some (some (.builtin "getset_descriptor.__get__")))
    (ct_BadLay : PySem.W.takesIn K (.builtin "object.__class__") = some true)
    (cm_BadLay : PySem.W.mroIn K C_BadLay (.type "object") = some true)
    (ke_BadLay_WindowError : PySem.W.kitOne K (.ref C_BadLay) (.ref C_WindowError) = some true)
    (su_BadLay_BadLay : PySem.W.subIn K (.ref C_BadLay) (.ref C_BadLay) = some true)
    (is_BadLay_BadLay : PySem.W.isIn K (.ref C_BadLay) C_BadLay = true)
    (su_BadLay_WindowError : PySem.W.subIn K (.ref C_BadLay) (.ref C_WindowError) = some true)
    (is_BadLay_WindowError : PySem.W.isIn K (.ref C_BadLay) C_WindowError = true)
    (pg_Sort : PySem.W.plainGet K C_Sort Str.empty = true)
    (hd_Sort : PySem.W.hasDictIn K C_Sort = true)
    (po_Sort : PySem.W.plainOver K C_Sort = true)
    (sa_Sort : PySem.W.findIn K (.ref C_Sort) "__setattr__" = some (some (.builtin "object.__setattr__")))
    (mk_Sort : PySem.W.makesIn K C_Sort = true)
    (kc_Sort : PySem.W.keepIn K (.ref C_Sort) = true)
    (nf_Sort_name : PySem.W.findIn K (.ref C_Sort) "name" = some none)
    (nf_Sort_key : PySem.W.findIn K (.ref C_Sort) "key" = some none)
    (nf_Sort_part : PySem.W.findIn K (.ref C_Sort) "part" = some none)
    (nf_Sort_descending : PySem.W.findIn K (.ref C_Sort) "descending" = some none)
    (ca_Sort : PySem.W.findIn K (.ref C_Sort) "__class__" = some (some (.builtin "object.__class__")))
    (cn_Sort : PySem.W.specialIn K (.builtin "object.__class__") "__get__" = some (some (.builtin "getset_descriptor.__get__")))
    (ct_Sort : PySem.W.takesIn K (.builtin "object.__class__") = some true)
    (cm_Sort : PySem.W.mroIn K C_Sort (.type "object") = some true)
    (nt_Sort : PySem.W.notFirst K C_Sort (.ref C_Sort) = true)
    (pg_Scheme : PySem.W.plainGet K C_Scheme Str.empty = true)
    (hd_Scheme : PySem.W.hasDictIn K C_Scheme = true)
    (po_Scheme : PySem.W.plainOver K C_Scheme = true)
    (sa_Scheme : PySem.W.findIn K (.ref C_Scheme) "__setattr__" = some (some (.builtin "object.__setattr__")))
    (mk_Scheme : PySem.W.makesIn K C_Scheme = true)
    (kc_Scheme : PySem.W.keepIn K (.ref C_Scheme) = true)
    (nf_Scheme_sorts : PySem.W.findIn K (.ref C_Scheme) "sorts" = some none)
    (nf_Scheme_part_columns : PySem.W.findIn K (.ref C_Scheme) "part_columns" = some none)
    (nf_Scheme_value_columns : PySem.W.findIn K (.ref C_Scheme) "value_columns" = some none)
    (nf_Scheme_mark_columns : PySem.W.findIn K (.ref C_Scheme) "mark_columns" = some none)
    (ca_Scheme : PySem.W.findIn K (.ref C_Scheme) "__class__" = some (some (.builtin "object.__class__")))
    (cn_Scheme : PySem.W.specialIn K (.builtin "object.__class__") "__get__" = some (some (.builtin "getset_descriptor.__get__")))
    (ct_Scheme : PySem.W.takesIn K (.builtin "object.__class__") = some true)
    (cm_Scheme : PySem.W.mroIn K C_Scheme (.type "object") = some true)
    (ne_Scheme : PySem.W.findIn K (.ref C_Scheme) "__ne__" = some (some (.builtin "object.__ne__")))
    (ob_Scheme : PySem.W.subIn K (.ref C_Scheme) (.type "object") = some true)
    (nt_Scheme : PySem.W.notFirst K C_Scheme (.ref C_Scheme) = true)
    (pg_Table : PySem.W.plainGet K C_Table Str.empty = true)
    (hd_Table : PySem.W.hasDictIn K C_Table = true)
    (po_Table : PySem.W.plainOver K C_Table = true)
    (sa_Table : PySem.W.findIn K (.ref C_Table) "__setattr__" = some (some (.builtin "object.__setattr__")))
    (mk_Table : PySem.W.makesIn K C_Table = true)
    (kc_Table : PySem.W.keepIn K (.ref C_Table) = true)
    (nf_Table_scheme : PySem.W.findIn K (.ref C_Table) "scheme" = some none)
    (nf_Table_records : PySem.W.findIn K (.ref C_Table) "records" = some none)
    (ca_Table : PySem.W.findIn K (.ref C_Table) "__class__" = some (some (.builtin "object.__class__")))
    (cn_Table : PySem.W.specialIn K (.builtin "object.__class__") "__get__" = some (some (.builtin "getset_descriptor.__get__")))
    (ct_Table : PySem.W.takesIn K (.builtin "object.__class__") = some true)
    (cm_Table : PySem.W.mroIn K C_Table (.type "object") = some true)
    (ne_Table : PySem.W.findIn K (.ref C_Table) "__ne__" = some (some (.builtin "object.__ne__")))
    (ob_Table : PySem.W.subIn K (.ref C_Table) (.type "object") = some true)
    (nt_Table : PySem.W.notFirst K C_Table (.ref C_Table) = true)
    (pg_Lay : PySem.W.plainGet K C_Lay Str.empty = true)
    (hd_Lay : PySem.W.hasDictIn K C_Lay = true)
    (po_Lay : PySem.W.plainOver K C_Lay = true)
    (sa_Lay : PySem.W.findIn K (.ref C_Lay) "__setattr__" = some (some (.builtin "object.__setattr__")))
    (mk_Lay : PySem.W.makesIn K C_Lay = true)
    (kc_Lay : PySem.W.keepIn K (.ref C_Lay) = true)
    (nf_Lay_table : PySem.W.findIn K (.ref C_Lay) "table" = some none)
    (nf_Lay_orders : PySem.W.findIn K (.ref C_Lay) "orders" = some none)
    (nf_Lay_seats : PySem.W.findIn K (.ref C_Lay) "seats" = some none)
    (nf_Lay_spots : PySem.W.findIn K (.ref C_Lay) "spots" = some none)
    (nf_Lay_ranks : PySem.W.findIn K (.ref C_Lay) "ranks" = some none)
    (ca_Lay : PySem.W.findIn K (.ref C_Lay) "__class__" = some (some (.builtin "object.__class__")))
    (cn_Lay : PySem.W.specialIn K (.builtin "object.__class__") "__get__" = some (some (.builtin "getset_descriptor.__get__")))
    (ct_Lay : PySem.W.takesIn K (.builtin "object.__class__") = some true)
    (cm_Lay : PySem.W.mroIn K C_Lay (.type "object") = some true)
    (ne_Lay : PySem.W.findIn K (.ref C_Lay) "__ne__" = some (some (.builtin "object.__ne__")))
    (ob_Lay : PySem.W.subIn K (.ref C_Lay) (.type "object") = some true)
    (nt_Lay : PySem.W.notFirst K C_Lay (.ref C_Lay) = true)
    (nt_Lay_dict : PySem.W.notFirst K C_Lay (.type "dict") = true)
    (ki_Lay_dict : PySem.W.kitOne K (.type "dict") (.ref C_Lay) = some false)
    (ex_BadOffset : PySem.W.subIn K (.ref C_BadOffset) (.type "BaseException") = some true)
    (ty_BadOffset : PySem.W.typeIn K (.ref C_BadOffset) = some (.type "type"))
    (hd_BadOffset : PySem.W.hasDictIn K C_BadOffset = true)
    (xL_BadOffset : K.lookup C_BadOffset = some (excClassObj nm_BadOffset q_BadOffset C_BadOffset N_BadOffset bs_BadOffset bm_BadOffset true sn_BadOffset sub_BadOffset ab_BadOffset col_BadOffset dd_BadOffset m0_BadOffset m1_BadOffset m2_BadOffset m3_BadOffset m5_BadOffset "ValueError.__new__"))
    (bmr_BadOffset : PySem.HandSPX.refsVE bm_BadOffset = true)
    (sa_BadOffset : PySem.W.findIn K (.ref C_BadOffset) "__setattr__" = some (some (.builtin "object.__setattr__")))
    (kc_BadOffset : PySem.W.keepIn K (.ref C_BadOffset) = true)
    (ga_BadOffset : PySem.W.findIn K (.ref C_BadOffset) "__getattribute__" = some (some (.builtin "BaseException.__getattribute__")))
    (gg_BadOffset : PySem.W.findIn K (.ref C_BadOffset) "__getattr__" = some none)
    (tI_BadOffset : PySem.W.typeIn K (.ref f0) = some (.type "function"))
    (nf_BadOffset_rows : PySem.W.findIn K (.ref C_BadOffset) "rows" = some none)
    (nf_BadOffset_groups : PySem.W.findIn K (.ref C_BadOffset) "groups" = some none)
    (nf_BadOffset_distance : PySem.W.findIn K (.ref C_BadOffset) "distance" = some none)
    (su_BadOffset_BadOffset : PySem.W.subIn K (.ref C_BadOffset) (.ref C_BadOffset) = some true)
    (is_BadOffset_BadOffset : PySem.W.isIn K (.ref C_BadOffset) C_BadOffset = true)
    (pg_Offset : PySem.W.plainGet K C_Offset Str.empty = true)
    (hd_Offset : PySem.W.hasDictIn K C_Offset = true)
    (po_Offset : PySem.W.plainOver K C_Offset = true)
    (sa_Offset : PySem.W.findIn K (.ref C_Offset) "__setattr__" = some (some (.builtin "object.__setattr__")))
    (mk_Offset : PySem.W.makesIn K C_Offset = true)
    (kc_Offset : PySem.W.keepIn K (.ref C_Offset) = true)
    (nf_Offset_rows : PySem.W.findIn K (.ref C_Offset) "rows" = some none)
    (nf_Offset_groups : PySem.W.findIn K (.ref C_Offset) "groups" = some none)
    (nf_Offset_distance : PySem.W.findIn K (.ref C_Offset) "distance" = some none)
    (nf_Offset_zone : PySem.W.findIn K (.ref C_Offset) "zone" = some none)
    (ca_Offset : PySem.W.findIn K (.ref C_Offset) "__class__" = some (some (.builtin "object.__class__")))
    (cn_Offset : PySem.W.specialIn K (.builtin "object.__class__") "__get__" = some (some (.builtin "getset_descriptor.__get__")))
    (ct_Offset : PySem.W.takesIn K (.builtin "object.__class__") = some true)
    (cm_Offset : PySem.W.mroIn K C_Offset (.type "object") = some true)
    (ne_Offset : PySem.W.findIn K (.ref C_Offset) "__ne__" = some (some (.builtin "object.__ne__")))
    (ob_Offset : PySem.W.subIn K (.ref C_Offset) (.type "object") = some true)
    (nt_Offset : PySem.W.notFirst K C_Offset (.ref C_Offset) = true)
    (lK_WORDS : K.lookup cK_WORDS = some ⟨.type "tuple", none, .seq it_WORDS nn_WORDS, sl_WORDS⟩)
    (vK_WORDS : Vals [V.str "rows", V.str "groups", V.str "keys", V.str "self", V.str "ties", V.str "group", V.str "all", V.str "none", V.str "sum", V.str "count", V.str "by", V.str "not"] it_WORDS.toList)
    (kt_bool_int : PySem.W.kitOne K (.type "bool") (.type "int") = some true)
    (kt_int_bool : PySem.W.kitOne K (.type "int") (.type "bool") = some false)
    (kt_NoneType_int : PySem.W.kitOne K (.type "NoneType") (.type "int") = some false)
    (kt_str_int : PySem.W.kitOne K (.type "str") (.type "int") = some false)
    : ∃ fd : FuncData, (∀ (s : Shared) (v : Value), BindsTo s fd ⟨[v], []⟩ [("_law_script", v)]) ∧ ∀ base : Heap, K.In base → base.Ns mainGlobals mg → FnOk l.prog w K mg base CX0 12 fa fd ["_law_script"] (spLaw K) := by
  have e := hfa.symm.trans (PySem.W.mg_of X G a62)
  cases e
  have F0 := fun_mk (st := s_BadOffset___init__) l0 c0 k0
  have b0 := F0.binds (ps := ["self", "rows", "groups", "distance"]) fun _ _ _ _ _ _ us hl => match us, hl with | [_, _, _, _], _ => rfl
  have F1 := fun_mk (st := s_BadScheme___init__) l1 c1 k1
  have b1 := F1.binds (ps := ["self", "word"]) fun _ _ _ _ _ _ us hl => match us, hl with | [_, _], _ => rfl
  have F2 := fun_mk (st := s_UnknownSort___init__) l2 c2 k2
  have b2 := F2.binds (ps := ["self", "name"]) fun _ _ _ _ _ _ us hl => match us, hl with | [_, _], _ => rfl
  have F3 := fun_mk (st := s_BadRow___init__) l3 c3 k3
  have b3 := F3.binds (ps := ["self", "number", "column"]) fun _ _ _ _ _ _ us hl => match us, hl with | [_, _, _], _ => rfl
  have F4 := fun_mk (st := s_BadNumber___init__) l4 c4 k4
  have b4 := F4.binds (ps := ["self", "number"]) fun _ _ _ _ _ _ us hl => match us, hl with | [_, _], _ => rfl
  have F5 := fun_mk (st := s_BadLay___init__) l5 c5 k5
  have b5 := F5.binds (ps := ["self", "name"]) fun _ _ _ _ _ _ us hl => match us, hl with | [_, _], _ => rfl
  have F6 := fun_mk (st := s_possible) l6 c6 k6
  have b6 := F6.binds (ps := ["rows", "groups", "distance"]) fun _ _ _ _ _ _ us hl => match us, hl with | [_, _, _], _ => rfl
  have F7 := fun_mk (st := s_zone_of) l7 c7 k7
  have b7 := F7.binds (ps := ["rows", "groups"]) fun _ _ _ _ _ _ us hl => match us, hl with | [_, _], _ => rfl
  have F8 := fun_mk (st := s_Offset___init__) l8 c8 k8
  have b8 := F8.binds (ps := ["self", "rows", "groups", "distance"]) fun _ _ _ _ _ _ us hl => match us, hl with | [_, _, _, _], _ => rfl
  have F9 := fun_mk (st := s_Offset___neg__) l9 c9 k9
  have b9 := F9.binds (ps := ["self"]) fun _ _ _ _ _ _ us hl => match us, hl with | [_], _ => rfl
  have F10 := fun_mk (st := s_Offset___eq__) l10 c10 k10
  have b10 := F10.binds (ps := ["self", "other"]) fun _ _ _ _ _ _ us hl => match us, hl with | [_, _], _ => rfl
  have F11 := fun_mk (st := s_is_integer) l11 c11 k11
  have b11 := F11.binds (ps := ["thing"]) fun _ _ _ _ _ _ us hl => match us, hl with | [_], _ => rfl
  have F12 := fun_mk (st := s_bad_column) l12 c12 k12
  have b12 := F12.binds (ps := ["scheme", "row"]) fun _ _ _ _ _ _ us hl => match us, hl with | [_, _], _ => rfl
  have F13 := fun_mk (st := s_Table___init__) l13 c13 k13
  have b13 := F13.binds (ps := ["self", "scheme", "rows"]) fun _ _ _ _ _ _ us hl => match us, hl with | [_, _, _], _ => rfl
  have F14 := fun_mk (st := s_Table___len__) l14 c14 k14
  have b14 := F14.binds (ps := ["self"]) fun _ _ _ _ _ _ us hl => match us, hl with | [_], _ => rfl
  have F15 := fun_mk (st := s_Table_record) l15 c15 k15
  have b15 := F15.binds (ps := ["self", "number"]) fun _ _ _ _ _ _ us hl => match us, hl with | [_, _], _ => rfl
  have F16 := fun_mk (st := s_Table___eq__) l16 c16 k16
  have b16 := F16.binds (ps := ["self", "other"]) fun _ _ _ _ _ _ us hl => match us, hl with | [_, _], _ => rfl
  have F17 := fun_mk (st := s_seat_of) l17 c17 k17
  have b17 := F17.binds (ps := ["sort", "row"]) fun _ _ _ _ _ _ us hl => match us, hl with | [_, _], _ => rfl
  have F18 := fun_mk (st := s_seats_of) l18 c18 k18
  have b18 := F18.binds (ps := ["table", "sort"]) fun _ _ _ _ _ _ us hl => match us, hl with | [_, _], _ => rfl
  have F19 := fun_mk (st := s_is_numbering) l19 c19 k19
  have b19 := F19.binds (ps := ["order", "many"]) fun _ _ _ _ _ _ us hl => match us, hl with | [_, _], _ => rfl
  have F20 := fun_mk (st := s_is_sorted) l20 c20 k20
  have b20 := F20.binds (ps := ["order", "seats"]) fun _ _ _ _ _ _ us hl => match us, hl with | [_, _], _ => rfl
  have F21 := fun_mk (st := s_ranks_of) l21 c21 k21
  have b21 := F21.binds (ps := ["order", "seats"]) fun _ _ _ _ _ _ us hl => match us, hl with | [_, _], _ => rfl
  have F22 := fun_mk (st := s_Lay___init__) l22 c22 k22
  have b22 := F22.binds (ps := ["self", "table", "orders"]) fun _ _ _ _ _ _ us hl => match us, hl with | [_, _, _], _ => rfl
  have F23 := fun_mk (st := s_Lay_order) l23 c23 k23
  have b23 := F23.binds (ps := ["self", "sort"]) fun _ _ _ _ _ _ us hl => match us, hl with | [_, _], _ => rfl
  have F24 := fun_mk (st := s_Lay_inspect_rows) l24 c24 k24
  have b24 := F24.binds (ps := ["self", "row", "other"]) fun _ _ _ _ _ _ us hl => match us, hl with | [_, _, _], _ => rfl
  have F25 := fun_mk (st := s_Lay_offset) l25 c25 k25
  have b25 := F25.binds (ps := ["self", "sort", "row", "other"]) fun _ _ _ _ _ _ us hl => match us, hl with | [_, _, _, _], _ => rfl
  have F26 := fun_mk (st := s_Lay___eq__) l26 c26 k26
  have b26 := F26.binds (ps := ["self", "other"]) fun _ _ _ _ _ _ us hl => match us, hl with | [_, _], _ => rfl
  have F27 := fun_mk (st := s_groups_of) l27 c27 k27
  have b27 := F27.binds (ps := ["table", "name"]) fun _ _ _ _ _ _ us hl => match us, hl with | [_, _], _ => rfl
  have F28 := fun_mk (st := s_factorial) l28 c28 k28
  have b28 := F28.binds (ps := ["many"]) fun _ _ _ _ _ _ us hl => match us, hl with | [_], _ => rfl
  have F29 := fun_mk (st := s_all_groups) l29 c29 k29
  have b29 := F29.binds (ps := ["table"]) fun _ _ _ _ _ _ us hl => match us, hl with | [_], _ => rfl
  have F30 := fun_mk (st := s_first_lay) l30 c30 k30
  have b30 := F30.binds (ps := ["table"]) fun _ _ _ _ _ _ us hl => match us, hl with | [_], _ => rfl
  have F31 := fun_mk (st := s_lay_count) l31 c31 k31
  have b31 := F31.binds (ps := ["table"]) fun _ _ _ _ _ _ us hl => match us, hl with | [_], _ => rfl
  have F32 := fun_mk (st := s_order_at) l32 c32 k32
  have b32 := F32.binds (ps := ["group", "number"]) fun _ _ _ _ _ _ us hl => match us, hl with | [_, _], _ => rfl
  have F33 := fun_mk (st := s_lay_at) l33 c33 k33
  have b33 := F33.binds (ps := ["table", "number"]) fun _ _ _ _ _ _ us hl => match us, hl with | [_, _], _ => rfl
  have F34 := fun_mk (st := s_plain_row) l34 c34 k34
  have b34 := F34.binds (ps := ["scheme"]) fun _ _ _ _ _ _ us hl => match us, hl with | [_], _ => rfl
  have F35 := fun_mk (st := s_rising_rows) l35 c35 k35
  have b35 := F35.binds (ps := ["scheme", "sort", "offset"]) fun _ _ _ _ _ _ us hl => match us, hl with | [_, _, _], _ => rfl
  have F36 := fun_mk (st := s_showing) l36 c36 k36
  have b36 := F36.binds (ps := ["scheme", "sort", "offset"]) fun _ _ _ _ _ _ us hl => match us, hl with | [_, _, _], _ => rfl
  have F37 := fun_mk (st := s_is_name) l37 c37 k37
  have b37 := F37.binds (ps := ["thing"]) fun _ _ _ _ _ _ us hl => match us, hl with | [_], _ => rfl
  have F38 := fun_mk (st := s_first_double) l38 c38 k38
  have b38 := F38.binds (ps := ["words"]) fun _ _ _ _ _ _ us hl => match us, hl with | [_], _ => rfl
  have F39 := fun_mk (st := s_Sort___init__) l39 c39 k39
  have F40 := fun_mk (st := s_Sort___eq__) l40 c40 k40
  have b40 := F40.binds (ps := ["self", "other"]) fun _ _ _ _ _ _ us hl => match us, hl with | [_, _], _ => rfl
  have F41 := fun_mk (st := s_Scheme___init__) l41 c41 k41
  have F42 := fun_mk (st := s_Scheme_inspect) l42 c42 k42
  have b42 := F42.binds (ps := ["self"]) fun _ _ _ _ _ _ us hl => match us, hl with | [_], _ => rfl
  have F43 := fun_mk (st := s_Scheme_columns) l43 c43 k43
  have b43 := F43.binds (ps := ["self"]) fun _ _ _ _ _ _ us hl => match us, hl with | [_], _ => rfl
  have F44 := fun_mk (st := s_Scheme_sort_names) l44 c44 k44
  have b44 := F44.binds (ps := ["self"]) fun _ _ _ _ _ _ us hl => match us, hl with | [_], _ => rfl
  have F45 := fun_mk (st := s_Scheme_sort_named) l45 c45 k45
  have b45 := F45.binds (ps := ["self", "name"]) fun _ _ _ _ _ _ us hl => match us, hl with | [_, _], _ => rfl
  have F46 := fun_mk (st := s_Scheme___eq__) l46 c46 k46
  have b46 := F46.binds (ps := ["self", "other"]) fun _ _ _ _ _ _ us hl => match us, hl with | [_, _], _ => rfl
  have F47 := fun_mk (st := s__law_begin) l47 c47 k47
  have b47 := F47.binds (ps := ["_law_script"]) fun _ _ _ _ _ _ us hl => match us, hl with | [_], _ => rfl
  have F48 := fun_mk (st := s__law_draw) l48 c48 k48
  have b48 := F48.binds (ps := ["_law_draws", "_law_many"]) fun _ _ _ _ _ _ us hl => match us, hl with | [_, _], _ => rfl
  have F49 := fun_mk (st := s__law_name) l49 c49 k49
  have b49 := F49.binds (ps := ["_law_draws", "_law_taken"]) fun _ _ _ _ _ _ us hl => match us, hl with | [_, _], _ => rfl
  have F50 := fun_mk (st := s__law_names) l50 c50 k50
  have b50 := F50.binds (ps := ["_law_draws", "_law_taken", "_law_many"]) fun _ _ _ _ _ _ us hl => match us, hl with | [_, _, _], _ => rfl
  have F51 := fun_mk (st := s__law_spec) l51 c51 k51
  have b51 := F51.binds (ps := ["_law_draws", "_law_most"]) fun _ _ _ _ _ _ us hl => match us, hl with | [_, _], _ => rfl
  have F52 := fun_mk (st := s__law_scheme) l52 c52 k52
  have b52 := F52.binds (ps := ["_law_spec_here"]) fun _ _ _ _ _ _ us hl => match us, hl with | [_], _ => rfl
  have F53 := fun_mk (st := s__law_key) l53 c53 k53
  have b53 := F53.binds (ps := ["_law_one", "_law_row"]) fun _ _ _ _ _ _ us hl => match us, hl with | [_, _], _ => rfl
  have F54 := fun_mk (st := s__law_hall) l54 c54 k54
  have b54 := F54.binds (ps := ["_law_one", "_law_row"]) fun _ _ _ _ _ _ us hl => match us, hl with | [_, _], _ => rfl
  have F55 := fun_mk (st := s__law_whole) l55 c55 k55
  have b55 := F55.binds (ps := ["_law_x"]) fun _ _ _ _ _ _ us hl => match us, hl with | [_], _ => rfl
  have F56 := fun_mk (st := s__law_triple) l56 c56 k56
  have b56 := F56.binds (ps := ["_law_draws"]) fun _ _ _ _ _ _ us hl => match us, hl with | [_], _ => rfl
  have F57 := fun_mk (st := s__law_seat_list) l57 c57 k57
  have b57 := F57.binds (ps := ["_law_one", "_law_rows", "_law_order"]) fun _ _ _ _ _ _ us hl => match us, hl with | [_, _, _], _ => rfl
  have F58 := fun_mk (st := s__law_fits) l58 c58 k58
  have b58 := F58.binds (ps := ["_law_one", "_law_rows", "_law_order"]) fun _ _ _ _ _ _ us hl => match us, hl with | [_, _, _], _ => rfl
  have F59 := fun_mk (st := s__law_seen) l59 c59 k59
  have b59 := F59.binds (ps := ["_law_one", "_law_rows", "_law_order", "_law_r", "_law_j"]) fun _ _ _ _ _ _ us hl => match us, hl with | [_, _, _, _, _], _ => rfl
  have F60 := fun_mk (st := s__law_right) l60 c60 k60
  have b60 := F60.binds (ps := ["_law_spec_here", "_law_one", "_law_triple_here"]) fun _ _ _ _ _ _ us hl => match us, hl with | [_, _, _], _ => rfl
  have F61 := fun_mk (st := s__law_refused) l61 c61 k61
  have b61 := F61.binds (ps := ["_law_spec_here"]) fun _ _ _ _ _ _ us hl => match us, hl with | [_], _ => rfl
  have F62 := fun_mk (st := s_law) l62 c62 k62
  have b62 := F62.binds (ps := ["_law_script"]) fun _ _ _ _ _ _ us hl => match us, hl with | [_], _ => rfl
  let T : Txt K mg := {
    f_BadOffset___init__ := f0,
    d_BadOffset___init__ := _,
    F_BadOffset___init__ := F0,
    b_BadOffset___init__ := b0,
    f_BadScheme___init__ := f1,
    d_BadScheme___init__ := _,
    F_BadScheme___init__ := F1,
    b_BadScheme___init__ := b1,
    f_UnknownSort___init__ := f2,
    d_UnknownSort___init__ := _,
    F_UnknownSort___init__ := F2,
    b_UnknownSort___init__ := b2,
    f_BadRow___init__ := f3,
    d_BadRow___init__ := _,
    F_BadRow___init__ := F3,
    b_BadRow___init__ := b3,
    f_BadNumber___init__ := f4,
    d_BadNumber___init__ := _,
    F_BadNumber___init__ := F4,
    b_BadNumber___init__ := b4,
    f_BadLay___init__ := f5,
    d_BadLay___init__ := _,
    F_BadLay___init__ := F5,
    b_BadLay___init__ := b5,
    f_possible := f6,
    d_possible := _,
    F_possible := F6,
    b_possible := b6,
    g_possible := PySem.W.mg_of X G a6,
    f_zone_of := f7,
    d_zone_of := _,
    F_zone_of := F7,
    b_zone_of := b7,
    g_zone_of := PySem.W.mg_of X G a7,
    f_Offset___init__ := f8,
    d_Offset___init__ := _,
    F_Offset___init__ := F8,
    b_Offset___init__ := b8,
    f_Offset___neg__ := f9,
    d_Offset___neg__ := _,
    F_Offset___neg__ := F9,
    b_Offset___neg__ := b9,
    f_Offset___eq__ := f10,
    d_Offset___eq__ := _,
    F_Offset___eq__ := F10,
    b_Offset___eq__ := b10,
    f_is_integer := f11,
    d_is_integer := _,
    F_is_integer := F11,
    b_is_integer := b11,
    g_is_integer := PySem.W.mg_of X G a11,
    f_bad_column := f12,
    d_bad_column := _,
    F_bad_column := F12,
    b_bad_column := b12,
    g_bad_column := PySem.W.mg_of X G a12,
    f_Table___init__ := f13,
    d_Table___init__ := _,
    F_Table___init__ := F13,
    b_Table___init__ := b13,
    f_Table___len__ := f14,
    d_Table___len__ := _,
    F_Table___len__ := F14,
    b_Table___len__ := b14,
    f_Table_record := f15,
    d_Table_record := _,
    F_Table_record := F15,
    b_Table_record := b15,
    f_Table___eq__ := f16,
    d_Table___eq__ := _,
    F_Table___eq__ := F16,
    b_Table___eq__ := b16,
    f_seat_of := f17,
    d_seat_of := _,
    F_seat_of := F17,
    b_seat_of := b17,
    g_seat_of := PySem.W.mg_of X G a17,
    f_seats_of := f18,
    d_seats_of := _,
    F_seats_of := F18,
    b_seats_of := b18,
    g_seats_of := PySem.W.mg_of X G a18,
    f_is_numbering := f19,
    d_is_numbering := _,
    F_is_numbering := F19,
    b_is_numbering := b19,
    g_is_numbering := PySem.W.mg_of X G a19,
    f_is_sorted := f20,
    d_is_sorted := _,
    F_is_sorted := F20,
    b_is_sorted := b20,
    g_is_sorted := PySem.W.mg_of X G a20,
    f_ranks_of := f21,
    d_ranks_of := _,
    F_ranks_of := F21,
    b_ranks_of := b21,
    g_ranks_of := PySem.W.mg_of X G a21,
    f_Lay___init__ := f22,
    d_Lay___init__ := _,
    F_Lay___init__ := F22,
    b_Lay___init__ := b22,
    f_Lay_order := f23,
    d_Lay_order := _,
    F_Lay_order := F23,
    b_Lay_order := b23,
    f_Lay_inspect_rows := f24,
    d_Lay_inspect_rows := _,
    F_Lay_inspect_rows := F24,
    b_Lay_inspect_rows := b24,
    f_Lay_offset := f25,
    d_Lay_offset := _,
    F_Lay_offset := F25,
    b_Lay_offset := b25,
    f_Lay___eq__ := f26,
    d_Lay___eq__ := _,
    F_Lay___eq__ := F26,
    b_Lay___eq__ := b26,
    f_groups_of := f27,
    d_groups_of := _,
    F_groups_of := F27,
    b_groups_of := b27,
    g_groups_of := PySem.W.mg_of X G a27,
    f_factorial := f28,
    d_factorial := _,
    F_factorial := F28,
    b_factorial := b28,
    g_factorial := PySem.W.mg_of X G a28,
    f_all_groups := f29,
    d_all_groups := _,
    F_all_groups := F29,
    b_all_groups := b29,
    g_all_groups := PySem.W.mg_of X G a29,
    f_first_lay := f30,
    d_first_lay := _,
    F_first_lay := F30,
    b_first_lay := b30,
    g_first_lay := PySem.W.mg_of X G a30,
    f_lay_count := f31,
    d_lay_count := _,
    F_lay_count := F31,
    b_lay_count := b31,
    g_lay_count := PySem.W.mg_of X G a31,
    f_order_at := f32,
    d_order_at := _,
    F_order_at := F32,
    b_order_at := b32,
    g_order_at := PySem.W.mg_of X G a32,
    f_lay_at := f33,
    d_lay_at := _,
    F_lay_at := F33,
    b_lay_at := b33,
    g_lay_at := PySem.W.mg_of X G a33,
    f_plain_row := f34,
    d_plain_row := _,
    F_plain_row := F34,
    b_plain_row := b34,
    g_plain_row := PySem.W.mg_of X G a34,
    f_rising_rows := f35,
    d_rising_rows := _,
    F_rising_rows := F35,
    b_rising_rows := b35,
    g_rising_rows := PySem.W.mg_of X G a35,
    f_showing := f36,
    d_showing := _,
    F_showing := F36,
    b_showing := b36,
    g_showing := PySem.W.mg_of X G a36,
    f_is_name := f37,
    d_is_name := _,
    F_is_name := F37,
    b_is_name := b37,
    g_is_name := PySem.W.mg_of X G a37,
    f_first_double := f38,
    d_first_double := _,
    F_first_double := F38,
    b_first_double := b38,
    g_first_double := PySem.W.mg_of X G a38,
    f_Sort___init__ := f39,
    d_Sort___init__ := _,
    F_Sort___init__ := F39,
    kn_Sort___init__ := kb_mkN F39 (fun _ _ _ _ _ _ us ws hl hm => match us, ws, hl, hm with | [_, _, _], [_, _], _, _ => rfl),
    f_Sort___eq__ := f40,
    d_Sort___eq__ := _,
    F_Sort___eq__ := F40,
    b_Sort___eq__ := b40,
    f_Scheme___init__ := f41,
    d_Scheme___init__ := _,
    F_Scheme___init__ := F41,
    kn_Scheme___init__ := kb_mkN F41 (fun _ _ _ _ _ _ us ws hl hm => match us, ws, hl, hm with | [_, _], [_, _, _], _, _ => rfl),
    f_Scheme_inspect := f42,
    d_Scheme_inspect := _,
    F_Scheme_inspect := F42,
    b_Scheme_inspect := b42,
    f_Scheme_columns := f43,
    d_Scheme_columns := _,
    F_Scheme_columns := F43,
    b_Scheme_columns := b43,
    f_Scheme_sort_names := f44,
    d_Scheme_sort_names := _,
    F_Scheme_sort_names := F44,
    b_Scheme_sort_names := b44,
    f_Scheme_sort_named := f45,
    d_Scheme_sort_named := _,
    F_Scheme_sort_named := F45,
    b_Scheme_sort_named := b45,
    f_Scheme___eq__ := f46,
    d_Scheme___eq__ := _,
    F_Scheme___eq__ := F46,
    b_Scheme___eq__ := b46,
    f__law_begin := f47,
    d__law_begin := _,
    F__law_begin := F47,
    b__law_begin := b47,
    g__law_begin := PySem.W.mg_of X G a47,
    f__law_draw := f48,
    d__law_draw := _,
    F__law_draw := F48,
    b__law_draw := b48,
    g__law_draw := PySem.W.mg_of X G a48,
    f__law_name := f49,
    d__law_name := _,
    F__law_name := F49,
    b__law_name := b49,
    g__law_name := PySem.W.mg_of X G a49,
    f__law_names := f50,
    d__law_names := _,
    F__law_names := F50,
    b__law_names := b50,
    g__law_names := PySem.W.mg_of X G a50,
    f__law_spec := f51,
    d__law_spec := _,
    F__law_spec := F51,
    b__law_spec := b51,
    g__law_spec := PySem.W.mg_of X G a51,
    f__law_scheme := f52,
    d__law_scheme := _,
    F__law_scheme := F52,
    b__law_scheme := b52,
    g__law_scheme := PySem.W.mg_of X G a52,
    f__law_key := f53,
    d__law_key := _,
    F__law_key := F53,
    b__law_key := b53,
    g__law_key := PySem.W.mg_of X G a53,
    f__law_hall := f54,
    d__law_hall := _,
    F__law_hall := F54,
    b__law_hall := b54,
    g__law_hall := PySem.W.mg_of X G a54,
    f__law_whole := f55,
    d__law_whole := _,
    F__law_whole := F55,
    b__law_whole := b55,
    g__law_whole := PySem.W.mg_of X G a55,
    f__law_triple := f56,
    d__law_triple := _,
    F__law_triple := F56,
    b__law_triple := b56,
    g__law_triple := PySem.W.mg_of X G a56,
    f__law_seat_list := f57,
    d__law_seat_list := _,
    F__law_seat_list := F57,
    b__law_seat_list := b57,
    g__law_seat_list := PySem.W.mg_of X G a57,
    f__law_fits := f58,
    d__law_fits := _,
    F__law_fits := F58,
    b__law_fits := b58,
    g__law_fits := PySem.W.mg_of X G a58,
    f__law_seen := f59,
    d__law_seen := _,
    F__law_seen := F59,
    b__law_seen := b59,
    g__law_seen := PySem.W.mg_of X G a59,
    f__law_right := f60,
    d__law_right := _,
    F__law_right := F60,
    b__law_right := b60,
    g__law_right := PySem.W.mg_of X G a60,
    f__law_refused := f61,
    d__law_refused := _,
    F__law_refused := F61,
    b__law_refused := b61,
    g__law_refused := PySem.W.mg_of X G a61,
    f_law := fa,
    d_law := _,
    F_law := F62,
    b_law := b62,
    g_law := PySem.W.mg_of X G a62,
    z_abs := PySem.W.mg_none_of X G z_abs,
    z_all := PySem.W.mg_none_of X G z_all,
    z_bool := PySem.W.mg_none_of X G z_bool,
    z_dict := PySem.W.mg_none_of X G z_dict,
    z_enumerate := PySem.W.mg_none_of X G z_enumerate,
    z_int := PySem.W.mg_none_of X G z_int,
    z_isinstance := PySem.W.mg_none_of X G z_isinstance,
    z_len := PySem.W.mg_none_of X G z_len,
    z_list := PySem.W.mg_none_of X G z_list,
    z_max := PySem.W.mg_none_of X G z_max,
    z_range := PySem.W.mg_none_of X G z_range,
    z_reversed := PySem.W.mg_none_of X G z_reversed,
    z_sorted := PySem.W.mg_none_of X G z_sorted,
    z_str := PySem.W.mg_none_of X G z_str,
    z_tuple := PySem.W.mg_none_of X G z_tuple,
    z_zip := PySem.W.mg_none_of X G z_zip,
    C_WindowError := C_WindowError,
    g_WindowError := PySem.W.mg_of X G aC_WindowError,
    C_BadScheme := C_BadScheme,
    g_BadScheme := PySem.W.mg_of X G aC_BadScheme,
    ox_BadScheme := ⟨⟨nm_BadScheme, q_BadScheme, N_BadScheme, bs_BadScheme, bm_BadScheme, sn_BadScheme, sub_BadScheme, ab_BadScheme, col_BadScheme, dd_BadScheme, m0_BadScheme, m1_BadScheme, m2_BadScheme, m3_BadScheme, m5_BadScheme, xL_BadScheme, bmr_BadScheme⟩, sa_BadScheme, ex_BadScheme, ty_BadScheme, kc_BadScheme⟩,
    xf_BadScheme := ⟨ga_BadScheme, gg_BadScheme, ex_BadScheme, hd_BadScheme⟩,
    iC_BadScheme := a1,
    tI_BadScheme := tI_BadScheme,
    nf_BadScheme_word := nf_BadScheme_word,
    C_BadRow := C_BadRow,
    g_BadRow := PySem.W.mg_of X G aC_BadRow,
    ox_BadRow := ⟨⟨nm_BadRow, q_BadRow, N_BadRow, bs_BadRow, bm_BadRow, sn_BadRow, sub_BadRow, ab_BadRow, col_BadRow, dd_BadRow, m0_BadRow, m1_BadRow, m2_BadRow, m3_BadRow, m5_BadRow, xL_BadRow, bmr_BadRow⟩, sa_BadRow, ex_BadRow, ty_BadRow, kc_BadRow⟩,
    xf_BadRow := ⟨ga_BadRow, gg_BadRow, ex_BadRow, hd_BadRow⟩,
    iC_BadRow := a3,
    tI_BadRow := tI_BadRow,
    nf_BadRow_number := nf_BadRow_number,
    nf_BadRow_column := nf_BadRow_column,
    ec_BadRow := ⟨ga_BadRow, gg_BadRow, ex_BadRow, hd_BadRow, ca_BadRow, cn_BadRow, ct_BadRow, cm_BadRow⟩,
    ke_BadRow_WindowError := ke_BadRow_WindowError,
    em_BadRow_BadRow := PySem.W.exm_ref ex_BadRow hd_BadRow ty_BadRow su_BadRow_BadRow,
    is_BadRow_BadRow := is_BadRow_BadRow,
    em_BadRow_WindowError := PySem.W.exm_ref ex_WindowError hd_WindowError ty_WindowError su_BadRow_WindowError,
    is_BadRow_WindowError := is_BadRow_WindowError,
    C_BadNumber := C_BadNumber,
    g_BadNumber := PySem.W.mg_of X G aC_BadNumber,
    ox_BadNumber := ⟨⟨nm_BadNumber, q_BadNumber, N_BadNumber, bs_BadNumber, bm_BadNumber, sn_BadNumber, sub_BadNumber, ab_BadNumber, col_BadNumber, dd_BadNumber, m0_BadNumber, m1_BadNumber, m2_BadNumber, m3_BadNumber, m5_BadNumber, xL_BadNumber, bmr_BadNumber⟩, sa_BadNumber, ex_BadNumber, ty_BadNumber, kc_BadNumber⟩,
    xf_BadNumber := ⟨ga_BadNumber, gg_BadNumber, ex_BadNumber, hd_BadNumber⟩,
    iC_BadNumber := a4,
    tI_BadNumber := tI_BadNumber,
    nf_BadNumber_number := nf_BadNumber_number,
    ec_BadNumber := ⟨ga_BadNumber, gg_BadNumber, ex_BadNumber, hd_BadNumber, ca_BadNumber, cn_BadNumber, ct_BadNumber, cm_BadNumber⟩,
    ke_BadNumber_WindowError := ke_BadNumber_WindowError,
    em_BadNumber_UnknownSort := PySem.W.exm_ref ex_UnknownSort hd_UnknownSort ty_UnknownSort su_BadNumber_UnknownSort,
    em_BadNumber_BadNumber := PySem.W.exm_ref ex_BadNumber hd_BadNumber ty_BadNumber su_BadNumber_BadNumber,
    is_BadNumber_BadNumber := is_BadNumber_BadNumber,
    em_BadNumber_WindowError := PySem.W.exm_ref ex_WindowError hd_WindowError ty_WindowError su_BadNumber_WindowError,
    is_BadNumber_WindowError := is_BadNumber_WindowError,
    C_UnknownSort := C_UnknownSort,
    g_UnknownSort := PySem.W.mg_of X G aC_UnknownSort,
    ox_UnknownSort := ⟨⟨nm_UnknownSort, q_UnknownSort, N_UnknownSort, bs_UnknownSort, bm_UnknownSort, sn_UnknownSort, sub_UnknownSort, ab_UnknownSort, col_UnknownSort, dd_UnknownSort, m0_UnknownSort, m1_UnknownSort, m2_UnknownSort, m3_UnknownSort, m5_UnknownSort, xL_UnknownSort, bmr_UnknownSort⟩, sa_UnknownSort, ex_UnknownSort, ty_UnknownSort, kc_UnknownSort⟩,
    xf_UnknownSort := ⟨ga_UnknownSort, gg_UnknownSort, ex_UnknownSort, hd_UnknownSort⟩,
    iC_UnknownSort := a2,
    tI_UnknownSort := tI_UnknownSort,
    nf_UnknownSort_name := nf_UnknownSort_name,
    ec_UnknownSort := ⟨ga_UnknownSort, gg_UnknownSort, ex_UnknownSort, hd_UnknownSort, ca_UnknownSort, cn_UnknownSort, ct_UnknownSort, cm_UnknownSort⟩,
    ke_UnknownSort_WindowError := ke_UnknownSort_WindowError,
    em_UnknownSort_UnknownSort := PySem.W.exm_ref ex_UnknownSort hd_UnknownSort ty_UnknownSort su_UnknownSort_UnknownSort,
    is_UnknownSort_UnknownSort := is_UnknownSort_UnknownSort,
    em_UnknownSort_WindowError := PySem.W.exm_ref ex_WindowError hd_WindowError ty_WindowError su_UnknownSort_WindowError,
    is_UnknownSort_WindowError := is_UnknownSort_WindowError,
    C_BadLay := C_BadLay,
    g_BadLay := PySem.W.mg_of X G aC_BadLay,
    ox_BadLay := ⟨⟨nm_BadLay, q_BadLay, N_BadLay, bs_BadLay, bm_BadLay, sn_BadLay, sub_BadLay, ab_BadLay, col_BadLay, dd_BadLay, m0_BadLay, m1_BadLay, m2_BadLay, m3_BadLay, m5_BadLay, xL_BadLay, bmr_BadLay⟩, sa_BadLay, ex_BadLay, ty_BadLay, kc_BadLay⟩,
    xf_BadLay := ⟨ga_BadLay, gg_BadLay, ex_BadLay, hd_BadLay⟩,
    iC_BadLay := a5,
    tI_BadLay := tI_BadLay,
    nf_BadLay_name := nf_BadLay_name,
    ec_BadLay := ⟨ga_BadLay, gg_BadLay, ex_BadLay, hd_BadLay, ca_BadLay, cn_BadLay, ct_BadLay, cm_BadLay⟩,
    ke_BadLay_WindowError := ke_BadLay_WindowError,
    em_BadLay_BadLay := PySem.W.exm_ref ex_BadLay hd_BadLay ty_BadLay su_BadLay_BadLay,
    is_BadLay_BadLay := is_BadLay_BadLay,
    em_BadLay_WindowError := PySem.W.exm_ref ex_WindowError hd_WindowError ty_WindowError su_BadLay_WindowError,
    is_BadLay_WindowError := is_BadLay_WindowError,
    C_Sort := C_Sort,
    g_Sort := PySem.W.mg_of X G aC_Sort,
    c_Sort := ⟨pg_Sort, hd_Sort, po_Sort, sa_Sort⟩,
    m_Sort := ⟨mk_Sort, a39, i39, kc_Sort⟩,
    nf_Sort_name := nf_Sort_name,
    nf_Sort_key := nf_Sort_key,
    nf_Sort_part := nf_Sort_part,
    nf_Sort_descending := nf_Sort_descending,
    mt_Sort___eq__ := ⟨a40, i40, k40⟩,
    ca_Sort := ca_Sort,
    cn_Sort := cn_Sort,
    ct_Sort := ct_Sort,
    cm_Sort := cm_Sort,
    nt_Sort := nt_Sort,
    C_Scheme := C_Scheme,
    g_Scheme := PySem.W.mg_of X G aC_Scheme,
    c_Scheme := ⟨pg_Scheme, hd_Scheme, po_Scheme, sa_Scheme⟩,
    m_Scheme := ⟨mk_Scheme, a41, i41, kc_Scheme⟩,
    nf_Scheme_sorts := nf_Scheme_sorts,
    nf_Scheme_part_columns := nf_Scheme_part_columns,
    nf_Scheme_value_columns := nf_Scheme_value_columns,
    nf_Scheme_mark_columns := nf_Scheme_mark_columns,
    mt_Scheme_inspect := ⟨a42, i42, k42⟩,
    mt_Scheme_columns := ⟨a43, i43, k43⟩,
    mt_Scheme_sort_names := ⟨a44, i44, k44⟩,
    mt_Scheme_sort_named := ⟨a45, i45, k45⟩,
    mt_Scheme___eq__ := ⟨a46, i46, k46⟩,
    ca_Scheme := ca_Scheme,
    cn_Scheme := cn_Scheme,
    ct_Scheme := ct_Scheme,
    cm_Scheme := cm_Scheme,
    ne_Scheme := ne_Scheme,
    ob_Scheme := ob_Scheme,
    nt_Scheme := nt_Scheme,
    C_Table := C_Table,
    g_Table := PySem.W.mg_of X G aC_Table,
    c_Table := ⟨pg_Table, hd_Table, po_Table, sa_Table⟩,
    m_Table := ⟨mk_Table, a13, i13, kc_Table⟩,
    nf_Table_scheme := nf_Table_scheme,
    nf_Table_records := nf_Table_records,
    mt_Table___len__ := ⟨a14, i14, k14⟩,
    mt_Table_record := ⟨a15, i15, k15⟩,
    mt_Table___eq__ := ⟨a16, i16, k16⟩,
    ca_Table := ca_Table,
    cn_Table := cn_Table,
    ct_Table := ct_Table,
    cm_Table := cm_Table,
    ne_Table := ne_Table,
    ob_Table := ob_Table,
    nt_Table := nt_Table,
    C_Lay := C_Lay,
    g_Lay := PySem.W.mg_of X G aC_Lay,
    c_Lay := ⟨pg_Lay, hd_Lay, po_Lay, sa_Lay⟩,
    m_Lay := ⟨mk_Lay, a22, i22, kc_Lay⟩,
    nf_Lay_table := nf_Lay_table,
    nf_Lay_orders := nf_Lay_orders,
    nf_Lay_seats := nf_Lay_seats,
    nf_Lay_spots := nf_Lay_spots,
    nf_Lay_ranks := nf_Lay_ranks,
    mt_Lay_order := ⟨a23, i23, k23⟩,
    mt_Lay_inspect_rows := ⟨a24, i24, k24⟩,
    mt_Lay_offset := ⟨a25, i25, k25⟩,
    mt_Lay___eq__ := ⟨a26, i26, k26⟩,
    ca_Lay := ca_Lay,
    cn_Lay := cn_Lay,
    ct_Lay := ct_Lay,
    cm_Lay := cm_Lay,
    ne_Lay := ne_Lay,
    ob_Lay := ob_Lay,
    nt_Lay := nt_Lay,
    nt_Lay_dict := nt_Lay_dict,
    ki_Lay_dict := ki_Lay_dict,
    C_BadOffset := C_BadOffset,
    g_BadOffset := PySem.W.mg_of X G aC_BadOffset,
    ox_BadOffset := ⟨⟨nm_BadOffset, q_BadOffset, N_BadOffset, bs_BadOffset, bm_BadOffset, sn_BadOffset, sub_BadOffset, ab_BadOffset, col_BadOffset, dd_BadOffset, m0_BadOffset, m1_BadOffset, m2_BadOffset, m3_BadOffset, m5_BadOffset, xL_BadOffset, bmr_BadOffset⟩, sa_BadOffset, ex_BadOffset, ty_BadOffset, kc_BadOffset⟩,
    xf_BadOffset := ⟨ga_BadOffset, gg_BadOffset, ex_BadOffset, hd_BadOffset⟩,
    iC_BadOffset := a0,
    tI_BadOffset := tI_BadOffset,
    nf_BadOffset_rows := nf_BadOffset_rows,
    nf_BadOffset_groups := nf_BadOffset_groups,
    nf_BadOffset_distance := nf_BadOffset_distance,
    em_BadOffset_BadOffset := PySem.W.exm_ref ex_BadOffset hd_BadOffset ty_BadOffset su_BadOffset_BadOffset,
    is_BadOffset_BadOffset := is_BadOffset_BadOffset,
    C_Offset := C_Offset,
    g_Offset := PySem.W.mg_of X G aC_Offset,
    c_Offset := ⟨pg_Offset, hd_Offset, po_Offset, sa_Offset⟩,
    m_Offset := ⟨mk_Offset, a8, i8, kc_Offset⟩,
    nf_Offset_rows := nf_Offset_rows,
    nf_Offset_groups := nf_Offset_groups,
    nf_Offset_distance := nf_Offset_distance,
    nf_Offset_zone := nf_Offset_zone,
    mt_Offset___neg__ := ⟨a9, i9, k9⟩,
    mt_Offset___eq__ := ⟨a10, i10, k10⟩,
    ca_Offset := ca_Offset,
    cn_Offset := cn_Offset,
    ct_Offset := ct_Offset,
    cm_Offset := cm_Offset,
    ne_Offset := ne_Offset,
    ob_Offset := ob_Offset,
    nt_Offset := nt_Offset,
    t_LETTERS := tK_LETTERS,
    g_LETTERS := PySem.W.mg_of X G aC_LETTERS,
    a_WORDS := cK_WORDS,
    g_WORDS := PySem.W.mg_of X G aC_WORDS,
    q_WORDS := fun H => sqt_const lK_WORDS vK_WORDS (by decide),
    y_WORDS := fun H => .inr (.inl ⟨rfl, _, lK_WORDS, rfl, rfl⟩),
    t_MOST := tK_MOST,
    g_MOST := PySem.W.mg_of X G aC_MOST,
    kt_bool_int := kt_bool_int,
    kt_int_bool := kt_int_bool,
    kt_NoneType_int := kt_NoneType_int,
    kt_str_int := kt_str_int }
  exact ⟨PySem.W.fnOf "law" "law" (defArgs s_law) (defBody s_law) (defScope s_law) .none kV62 dc62 pm62 an62 cd62 ct62, fun s v => .of_eq rfl, fun base _ _ => ok_law T⟩
end Wr
open PySem PySem.W PyProof.Rows
set_option maxRecDepth 100000 in
set_option maxHeartbeats 0 in
theorem PySem.Challenge.cw_windowrows_k49_whole_showing_holds : PySem.Challenge.rw_windowrows_k49_whole_showing.Holds := by
  w_on; o_law; k_head; (case hw => w_witness2)
  k_fill
  refine L2.walk_of (l := PySem.Challenge.rw_windowrows_k49_whole_showing) (n := 63) (k := 12) (x := "_law_script") (CX := fun _ => L2.CX0) (sp := fun w => Wr.spLaw _) rfl (by decide) rfl ⟨rfl, by decide, by decide⟩ (fun w h Y => PySem.W.kIn_of Y) ?F (fun _ _ a ns hl _ hS => ⟨a, ns, rfl, hS, hl, fun _ => rfl⟩) (fun _ _ _ _ _ h => h)
  case F =>
    intro w mg fa h KX G hmg
    refine' Wr.all_mk KX G hmg ?aC_WindowError ?aC_BadScheme ?aC_BadRow ?aC_BadNumber ?aC_UnknownSort ?aC_BadLay ?aC_Sort ?aC_Scheme ?aC_Table ?aC_Lay ?aC_BadOffset ?aC_Offset ?aC_LETTERS ?aC_WORDS ?aC_MOST ?a0 ?i0 ?l0 ?c0 ?k0 ?a1 ?i1 ?l1 ?c1 ?k1 ?a2 ?i2 ?l2 ?c2 ?k2 ?a3 ?i3 ?l3 ?c3 ?k3 ?a4 ?i4 ?l4 ?c4 ?k4 ?a5 ?i5 ?l5 ?c5 ?k5 ?a6 ?l6 ?c6 ?k6 ?a7 ?l7 ?c7 ?k7 ?a8 ?i8 ?l8 ?c8 ?k8 ?a9 ?i9 ?l9 ?c9 ?k9 ?a10 ?i10 ?l10 ?c10 ?k10 ?a11 ?l11 ?c11 ?k11 ?a12 ?l12 ?c12 ?k12 ?a13 ?i13 ?l13 ?c13 ?k13 ?a14 ?i14 ?l14 ?c14 ?k14 ?a15 ?i15 ?l15 ?c15 ?k15 ?a16 ?i16 ?l16 ?c16 ?k16 ?a17 ?l17 ?c17 ?k17 ?a18 ?l18 ?c18 ?k18 ?a19 ?l19 ?c19 ?k19 ?a20 ?l20 ?c20 ?k20 ?a21 ?l21 ?c21 ?k21 ?a22 ?i22 ?l22 ?c22 ?k22 ?a23 ?i23 ?l23 ?c23 ?k23 ?a24 ?i24 ?l24 ?c24 ?k24 ?a25 ?i25 ?l25 ?c25 ?k25 ?a26 ?i26 ?l26 ?c26 ?k26 ?a27 ?l27 ?c27 ?k27 ?a28 ?l28 ?c28 ?k28 ?a29 ?l29 ?c29 ?k29 ?a30 ?l30 ?c30 ?k30 ?a31 ?l31 ?c31 ?k31 ?a32 ?l32 ?c32 ?k32 ?a33 ?l33 ?c33 ?k33 ?a34 ?l34 ?c34 ?k34 ?a35 ?l35 ?c35 ?k35 ?a36 ?l36 ?c36 ?k36 ?a37 ?l37 ?c37 ?k37 ?a38 ?l38 ?c38 ?k38 ?a39 ?i39 ?l39 ?c39 ?k39 ?a40 ?i40 ?l40 ?c40 ?k40 ?a41 ?i41 ?l41 ?c41 ?k41 ?a42 ?i42 ?l42 ?c42 ?k42 ?a43 ?i43 ?l43 ?c43 ?k43 ?a44 ?i44 ?l44 ?c44 ?k44 ?a45 ?i45 ?l45 ?c45 ?k45 ?a46 ?i46 ?l46 ?c46 ?k46 ?a47 ?l47 ?c47 ?k47 ?a48 ?l48 ?c48 ?k48 ?a49 ?l49 ?c49 ?k49 ?a50 ?l50 ?c50 ?k50 ?a51 ?l51 ?c51 ?k51 ?a52 ?l52 ?c52 ?k52 ?a53 ?l53 ?c53 ?k53 ?a54 ?l54 ?c54 ?k54 ?a55 ?l55 ?c55 ?k55 ?a56 ?l56 ?c56 ?k56 ?a57 ?l57 ?c57 ?k57 ?a58 ?l58 ?c58 ?k58 ?a59 ?l59 ?c59 ?k59 ?a60 ?l60 ?c60 ?k60 ?a61 ?l61 ?c61 ?k61 ?a62 ?l62 ?c62 ?k62 ?z_abs ?z_all ?z_bool ?z_dict ?z_enumerate ?z_int ?z_isinstance ?z_len ?z_list ?z_max ?z_range ?z_reversed ?z_sorted ?z_str ?z_tuple ?z_zip ?ex_WindowError ?ty_WindowError ?hd_WindowError ?ex_BadScheme ?ty_BadScheme ?hd_BadScheme ?xL_BadScheme ?bmr_BadScheme ?sa_BadScheme ?kc_BadScheme ?ga_BadScheme ?gg_BadScheme ?tI_BadScheme ?nf_BadScheme_word ?ex_BadRow ?ty_BadRow ?hd_BadRow ?xL_BadRow ?bmr_BadRow ?sa_BadRow ?kc_BadRow ?ga_BadRow ?gg_BadRow ?tI_BadRow ?nf_BadRow_number ?nf_BadRow_column ?ca_BadRow ?cn_BadRow ?ct_BadRow ?cm_BadRow ?ke_BadRow_WindowError ?su_BadRow_BadRow ?is_BadRow_BadRow ?su_BadRow_WindowError ?is_BadRow_WindowError ?ex_BadNumber ?ty_BadNumber ?hd_BadNumber ?xL_BadNumber ?bmr_BadNumber ?sa_BadNumber ?kc_BadNumber ?ga_BadNumber ?gg_BadNumber ?tI_BadNumber ?nf_BadNumber_number ?ca_BadNumber ?cn_BadNumber ?ct_BadNumber ?cm_BadNumber ?ke_BadNumber_WindowError ?su_BadNumber_UnknownSort ?su_BadNumber_BadNumber ?is_BadNumber_BadNumber ?su_BadNumber_WindowError ?is_BadNumber_WindowError ?ex_UnknownSort ?ty_UnknownSort ?hd_UnknownSort ?xL_UnknownSort ?bmr_UnknownSort ?sa_UnknownSort ?kc_UnknownSort ?ga_UnknownSort ?gg_UnknownSort ?tI_UnknownSort ?nf_UnknownSort_name ?ca_UnknownSort ?cn_UnknownSort ?ct_UnknownSort ?cm_UnknownSort ?ke_UnknownSort_WindowError ?su_UnknownSort_UnknownSort ?is_UnknownSort_UnknownSort ?su_UnknownSort_WindowError ?is_UnknownSort_WindowError ?ex_BadLay ?ty_BadLay ?hd_BadLay ?xL_BadLay ?bmr_BadLay ?sa_BadLay ?kc_BadLay ?ga_BadLay ?gg_BadLay ?tI_BadLay ?nf_BadLay_name ?ca_BadLay ?cn_BadLay ?ct_BadLay ?cm_BadLay ?ke_BadLay_WindowError ?su_BadLay_BadLay ?is_BadLay_BadLay ?su_BadLay_WindowError ?is_BadLay_WindowError ?pg_Sort ?hd_Sort ?po_Sort ?sa_Sort ?mk_Sort ?kc_Sort ?nf_Sort_name ?nf_Sort_key ?nf_Sort_part ?nf_Sort_descending ?ca_Sort ?cn_Sort ?ct_Sort ?cm_Sort ?nt_Sort ?pg_Scheme ?hd_Scheme ?po_Scheme ?sa_Scheme ?mk_Scheme ?kc_Scheme ?nf_Scheme_sorts ?nf_Scheme_part_columns ?nf_Scheme_value_columns ?nf_Scheme_mark_columns ?ca_Scheme ?cn_Scheme ?ct_Scheme ?cm_Scheme ?ne_Scheme ?ob_Scheme ?nt_Scheme ?pg_Table ?hd_Table ?po_Table ?sa_Table ?mk_Table ?kc_Table ?nf_Table_scheme ?nf_Table_records ?ca_Table ?cn_Table ?ct_Table ?cm_Table ?ne_Table ?ob_Table ?nt_Table ?pg_Lay ?hd_Lay ?po_Lay ?sa_Lay ?mk_Lay ?kc_Lay ?nf_Lay_table ?nf_Lay_orders ?nf_Lay_seats ?nf_Lay_spots ?nf_Lay_ranks ?ca_Lay ?cn_Lay ?ct_Lay ?cm_Lay ?ne_Lay ?ob_Lay ?nt_Lay ?nt_Lay_dict ?ki_Lay_dict ?ex_BadOffset ?ty_BadOffset ?hd_BadOffset ?xL_BadOffset ?bmr_BadOffset ?sa_BadOffset ?kc_BadOffset ?ga_BadOffset ?gg_BadOffset ?tI_BadOffset ?nf_BadOffset_rows ?nf_BadOffset_groups ?nf_BadOffset_distance ?su_BadOffset_BadOffset ?is_BadOffset_BadOffset ?pg_Offset ?hd_Offset ?po_Offset ?sa_Offset ?mk_Offset ?kc_Offset ?nf_Offset_rows ?nf_Offset_groups ?nf_Offset_distance ?nf_Offset_zone ?ca_Offset ?cn_Offset ?ct_Offset ?cm_Offset ?ne_Offset ?ob_Offset ?nt_Offset ?lK_WORDS ?vK_WORDS ?kt_bool_int ?kt_int_bool ?kt_NoneType_int ?kt_str_int
    (case aC_WindowError => k_is)
    (case aC_BadScheme => k_is)
    (case aC_BadRow => k_is)
    (case aC_BadNumber => k_is)
    (case aC_UnknownSort => k_is)
    (case aC_BadLay => k_is)
    (case aC_Sort => k_is)
    (case aC_Scheme => k_is)
    (case aC_Table => k_is)
    (case aC_Lay => k_is)
    (case aC_BadOffset => k_is)
    (case aC_Offset => k_is)
    (case aC_LETTERS => k_is)
    (case aC_WORDS => k_is)
    (case aC_MOST => k_is)
    (case a0 => k_is)
    (case i0 => k_is)
    (case l0 => k_is)
    (case c0 => k_is)
    (case k0 => k_is)
    (case a1 => k_is)
    (case i1 => k_is)
    (case l1 => k_is)
    (case c1 => k_is)
    (case k1 => k_is)
    (case a2 => k_is)
    (case i2 => k_is)
    (case l2 => k_is)
    (case c2 => k_is)
    (case k2 => k_is)
    (case a3 => k_is)
    (case i3 => k_is)
    (case l3 => k_is)
    (case c3 => k_is)
    (case k3 => k_is)
    (case a4 => k_is)
    (case i4 => k_is)
    (case l4 => k_is)
    (case c4 => k_is)
    (case k4 => k_is)
    (case a5 => k_is)
    (case i5 => k_is)
    (case l5 => k_is)
    (case c5 => k_is)
    (case k5 => k_is)
    (case a6 => k_is)
    (case l6 => k_is)
    (case c6 => k_is)
    (case k6 => k_is)
    (case a7 => k_is)
    (case l7 => k_is)
    (case c7 => k_is)
    (case k7 => k_is)
    (case a8 => k_is)
    (case i8 => k_is)
    (case l8 => k_is)
    (case c8 => k_is)
    (case k8 => k_is)
    (case a9 => k_is)
    (case i9 => k_is)
    (case l9 => k_is)
    (case c9 => k_is)
    (case k9 => k_is)
    (case a10 => k_is)
    (case i10 => k_is)
    (case l10 => k_is)
    (case c10 => k_is)
    (case k10 => k_is)
    (case a11 => k_is)
    (case l11 => k_is)
    (case c11 => k_is)
    (case k11 => k_is)
    (case a12 => k_is)
    (case l12 => k_is)
    (case c12 => k_is)
    (case k12 => k_is)
    (case a13 => k_is)
    (case i13 => k_is)
    (case l13 => k_is)
    (case c13 => k_is)
    (case k13 => k_is)
    (case a14 => k_is)
    (case i14 => k_is)
    (case l14 => k_is)
    (case c14 => k_is)
    (case k14 => k_is)
    (case a15 => k_is)
    (case i15 => k_is)
    (case l15 => k_is)
    (case c15 => k_is)
    (case k15 => k_is)
    (case a16 => k_is)
    (case i16 => k_is)
    (case l16 => k_is)
    (case c16 => k_is)
    (case k16 => k_is)
    (case a17 => k_is)
    (case l17 => k_is)
    (case c17 => k_is)
    (case k17 => k_is)
    (case a18 => k_is)
    (case l18 => k_is)
    (case c18 => k_is)
    (case k18 => k_is)
    (case a19 => k_is)
    (case l19 => k_is)
    (case c19 => k_is)
    (case k19 => k_is)
    (case a20 => k_is)
    (case l20 => k_is)
    (case c20 => k_is)
    (case k20 => k_is)
    (case a21 => k_is)
    (case l21 => k_is)
    (case c21 => k_is)
    (case k21 => k_is)
    (case a22 => k_is)
    (case i22 => k_is)
    (case l22 => k_is)
    (case c22 => k_is)
    (case k22 => k_is)
    (case a23 => k_is)
    (case i23 => k_is)
    (case l23 => k_is)
    (case c23 => k_is)
    (case k23 => k_is)
    (case a24 => k_is)
    (case i24 => k_is)
    (case l24 => k_is)
    (case c24 => k_is)
    (case k24 => k_is)
    (case a25 => k_is)
    (case i25 => k_is)
    (case l25 => k_is)
    (case c25 => k_is)
    (case k25 => k_is)
    (case a26 => k_is)
    (case i26 => k_is)
    (case l26 => k_is)
    (case c26 => k_is)
    (case k26 => k_is)
    (case a27 => k_is)
    (case l27 => k_is)
    (case c27 => k_is)
    (case k27 => k_is)
    (case a28 => k_is)
    (case l28 => k_is)
    (case c28 => k_is)
    (case k28 => k_is)
    (case a29 => k_is)
    (case l29 => k_is)
    (case c29 => k_is)
    (case k29 => k_is)
    (case a30 => k_is)
    (case l30 => k_is)
    (case c30 => k_is)
    (case k30 => k_is)
    (case a31 => k_is)
    (case l31 => k_is)
    (case c31 => k_is)
    (case k31 => k_is)
    (case a32 => k_is)
    (case l32 => k_is)
    (case c32 => k_is)
    (case k32 => k_is)
    (case a33 => k_is)
    (case l33 => k_is)
    (case c33 => k_is)
    (case k33 => k_is)
    (case a34 => k_is)
    (case l34 => k_is)
    (case c34 => k_is)
    (case k34 => k_is)
    (case a35 => k_is)
    (case l35 => k_is)
    (case c35 => k_is)
    (case k35 => k_is)
    (case a36 => k_is)
    (case l36 => k_is)
    (case c36 => k_is)
    (case k36 => k_is)
    (case a37 => k_is)
    (case l37 => k_is)
    (case c37 => k_is)
    (case k37 => k_is)
    (case a38 => k_is)
    (case l38 => k_is)
    (case c38 => k_is)
    (case k38 => k_is)
    (case a39 => k_is)
    (case i39 => k_is)
    (case l39 => k_is)
    (case c39 => k_is)
    (case k39 => k_is)
    (case a40 => k_is)
    (case i40 => k_is)
    (case l40 => k_is)
    (case c40 => k_is)
    (case k40 => k_is)
    (case a41 => k_is)
    (case i41 => k_is)
    (case l41 => k_is)
    (case c41 => k_is)
    (case k41 => k_is)
    (case a42 => k_is)
    (case i42 => k_is)
    (case l42 => k_is)
    (case c42 => k_is)
    (case k42 => k_is)
    (case a43 => k_is)
    (case i43 => k_is)
    (case l43 => k_is)
    (case c43 => k_is)
    (case k43 => k_is)
    (case a44 => k_is)
    (case i44 => k_is)
    (case l44 => k_is)
    (case c44 => k_is)
    (case k44 => k_is)
    (case a45 => k_is)
    (case i45 => k_is)
    (case l45 => k_is)
    (case c45 => k_is)
    (case k45 => k_is)
    (case a46 => k_is)
    (case i46 => k_is)
    (case l46 => k_is)
    (case c46 => k_is)
    (case k46 => k_is)
    (case a47 => k_is)
    (case l47 => k_is)
    (case c47 => k_is)
    (case k47 => k_is)
    (case a48 => k_is)
    (case l48 => k_is)
    (case c48 => k_is)
    (case k48 => k_is)
    (case a49 => k_is)
    (case l49 => k_is)
    (case c49 => k_is)
    (case k49 => k_is)
    (case a50 => k_is)
    (case l50 => k_is)
    (case c50 => k_is)
    (case k50 => k_is)
    (case a51 => k_is)
    (case l51 => k_is)
    (case c51 => k_is)
    (case k51 => k_is)
    (case a52 => k_is)
    (case l52 => k_is)
    (case c52 => k_is)
    (case k52 => k_is)
    (case a53 => k_is)
    (case l53 => k_is)
    (case c53 => k_is)
    (case k53 => k_is)
    (case a54 => k_is)
    (case l54 => k_is)
    (case c54 => k_is)
    (case k54 => k_is)
    (case a55 => k_is)
    (case l55 => k_is)
    (case c55 => k_is)
    (case k55 => k_is)
    (case a56 => k_is)
    (case l56 => k_is)
    (case c56 => k_is)
    (case k56 => k_is)
    (case a57 => k_is)
    (case l57 => k_is)
    (case c57 => k_is)
    (case k57 => k_is)
    (case a58 => k_is)
    (case l58 => k_is)
    (case c58 => k_is)
    (case k58 => k_is)
    (case a59 => k_is)
    (case l59 => k_is)
    (case c59 => k_is)
    (case k59 => k_is)
    (case a60 => k_is)
    (case l60 => k_is)
    (case c60 => k_is)
    (case k60 => k_is)
    (case a61 => k_is)
    (case l61 => k_is)
    (case c61 => k_is)
    (case k61 => k_is)
    (case a62 => k_is)
    (case l62 => k_is)
    (case c62 => k_is)
    (case k62 => k_is)
    (case z_abs => k_is)
    (case z_all => k_is)
    (case z_bool => k_is)
    (case z_dict => k_is)
    (case z_enumerate => k_is)
    (case z_int => k_is)
    (case z_isinstance => k_is)
    (case z_len => k_is)
    (case z_list => k_is)
    (case z_max => k_is)
    (case z_range => k_is)
    (case z_reversed => k_is)
    (case z_sorted => k_is)
    (case z_str => k_is)
    (case z_tuple => k_is)
    (case z_zip => k_is)
    (case ex_WindowError => k_is)
    (case ty_WindowError => k_is)
    (case hd_WindowError => k_is)
    (case ex_BadScheme => k_is)
    (case ty_BadScheme => k_is)
    (case hd_BadScheme => k_is)
    (case xL_BadScheme => k_is)
    (case bmr_BadScheme => decide +kernel)
    (case sa_BadScheme => k_is)
    (case kc_BadScheme => k_is)
    (case ga_BadScheme => k_is)
    (case gg_BadScheme => k_is)
    (case tI_BadScheme => k_is)
    (case nf_BadScheme_word => k_is)
    (case ex_BadRow => k_is)
    (case ty_BadRow => k_is)
    (case hd_BadRow => k_is)
    (case xL_BadRow => k_is)
    (case bmr_BadRow => decide +kernel)
    (case sa_BadRow => k_is)
    (case kc_BadRow => k_is)
    (case ga_BadRow => k_is)
    (case gg_BadRow => k_is)
    (case tI_BadRow => k_is)
    (case nf_BadRow_number => k_is)
    (case nf_BadRow_column => k_is)
    (case ca_BadRow => k_is)
    (case cn_BadRow => k_is)
    (case ct_BadRow => k_is)
    (case cm_BadRow => k_is)
    (case ke_BadRow_WindowError => kit_is)
    (case su_BadRow_BadRow => first | rfl | k_is)
    (case is_BadRow_BadRow => first | k_is | rfl)
    (case su_BadRow_WindowError => first | rfl | k_is)
    (case is_BadRow_WindowError => first | k_is | rfl)
    (case ex_BadNumber => k_is)
    (case ty_BadNumber => k_is)
    (case hd_BadNumber => k_is)
    (case xL_BadNumber => k_is)
    (case bmr_BadNumber => decide +kernel)
    (case sa_BadNumber => k_is)
    (case kc_BadNumber => k_is)
    (case ga_BadNumber => k_is)
    (case gg_BadNumber => k_is)
    (case tI_BadNumber => k_is)
    (case nf_BadNumber_number => k_is)
    (case ca_BadNumber => k_is)
    (case cn_BadNumber => k_is)
    (case ct_BadNumber => k_is)
    (case cm_BadNumber => k_is)
    (case ke_BadNumber_WindowError => kit_is)
    (case su_BadNumber_UnknownSort => first | rfl | k_is)
    (case su_BadNumber_BadNumber => first | rfl | k_is)
    (case is_BadNumber_BadNumber => first | k_is | rfl)
    (case su_BadNumber_WindowError => first | rfl | k_is)
    (case is_BadNumber_WindowError => first | k_is | rfl)
    (case ex_UnknownSort => k_is)
    (case ty_UnknownSort => k_is)
    (case hd_UnknownSort => k_is)
    (case xL_UnknownSort => k_is)
    (case bmr_UnknownSort => decide +kernel)
    (case sa_UnknownSort => k_is)
    (case kc_UnknownSort => k_is)
    (case ga_UnknownSort => k_is)
    (case gg_UnknownSort => k_is)
    (case tI_UnknownSort => k_is)
    (case nf_UnknownSort_name => k_is)
    (case ca_UnknownSort => k_is)
    (case cn_UnknownSort => k_is)
    (case ct_UnknownSort => k_is)
    (case cm_UnknownSort => k_is)
    (case ke_UnknownSort_WindowError => kit_is)
    (case su_UnknownSort_UnknownSort => first | rfl | k_is)
    (case is_UnknownSort_UnknownSort => first | k_is | rfl)
    (case su_UnknownSort_WindowError => first | rfl | k_is)
    (case is_UnknownSort_WindowError => first | k_is | rfl)
    (case ex_BadLay => k_is)
    (case ty_BadLay => k_is)
    (case hd_BadLay => k_is)
    (case xL_BadLay => k_is)
    (case bmr_BadLay => decide +kernel)
    (case sa_BadLay => k_is)
    (case kc_BadLay => k_is)
    (case ga_BadLay => k_is)
    (case gg_BadLay => k_is)
    (case tI_BadLay => k_is)
    (case nf_BadLay_name => k_is)
    (case ca_BadLay => k_is)
    (case cn_BadLay => k_is)
    (case ct_BadLay => k_is)
    (case cm_BadLay => k_is)
    (case ke_BadLay_WindowError => kit_is)
    (case su_BadLay_BadLay => first | rfl | k_is)
    (case is_BadLay_BadLay => first | k_is | rfl)
    (case su_BadLay_WindowError => first | rfl | k_is)
    (case is_BadLay_WindowError => first | k_is | rfl)
    (case pg_Sort => k_is)
    (case hd_Sort => k_is)
    (case po_Sort => k_is)
    (case sa_Sort => k_is)
    (case mk_Sort => k_is)
    (case kc_Sort => k_is)
    (case nf_Sort_name => k_is)
    (case nf_Sort_key => k_is)
    (case nf_Sort_part => k_is)
    (case nf_Sort_descending => k_is)
    (case ca_Sort => k_is)
    (case cn_Sort => k_is)
    (case ct_Sort => k_is)
    (case cm_Sort => k_is)
    (case nt_Sort => k_is)
    (case pg_Scheme => k_is)
    (case hd_Scheme => k_is)
    (case po_Scheme => k_is)
    (case sa_Scheme => k_is)
    (case mk_Scheme => k_is)
    (case kc_Scheme => k_is)
    (case nf_Scheme_sorts => k_is)
    (case nf_Scheme_part_columns => k_is)
    (case nf_Scheme_value_columns => k_is)
    (case nf_Scheme_mark_columns => k_is)
    (case ca_Scheme => k_is)
    (case cn_Scheme => k_is)
    (case ct_Scheme => k_is)
    (case cm_Scheme => k_is)
    (case ne_Scheme => k_is)
    (case ob_Scheme => k_is)
    (case nt_Scheme => k_is)
    (case pg_Table => k_is)
    (case hd_Table => k_is)
    (case po_Table => k_is)
    (case sa_Table => k_is)
    (case mk_Table => k_is)
    (case kc_Table => k_is)
    (case nf_Table_scheme => k_is)
    (case nf_Table_records => k_is)
    (case ca_Table => k_is)
    (case cn_Table => k_is)
    (case ct_Table => k_is)
    (case cm_Table => k_is)
    (case ne_Table => k_is)
    (case ob_Table => k_is)
    (case nt_Table => k_is)
    (case pg_Lay => k_is)
    (case hd_Lay => k_is)
    (case po_Lay => k_is)
    (case sa_Lay => k_is)
    (case mk_Lay => k_is)
    (case kc_Lay => k_is)
    (case nf_Lay_table => k_is)
    (case nf_Lay_orders => k_is)
    (case nf_Lay_seats => k_is)
    (case nf_Lay_spots => k_is)
    (case nf_Lay_ranks => k_is)
    (case ca_Lay => k_is)
    (case cn_Lay => k_is)
    (case ct_Lay => k_is)
    (case cm_Lay => k_is)
    (case ne_Lay => k_is)
    (case ob_Lay => k_is)
    (case nt_Lay => k_is)
    (case nt_Lay_dict => k_is)
    (case ki_Lay_dict => kit_is)
    (case ex_BadOffset => k_is)
    (case ty_BadOffset => k_is)
    (case hd_BadOffset => k_is)
    (case xL_BadOffset => k_is)
    (case bmr_BadOffset => decide +kernel)
    (case sa_BadOffset => k_is)
    (case kc_BadOffset => k_is)
    (case ga_BadOffset => k_is)
    (case gg_BadOffset => k_is)
    (case tI_BadOffset => k_is)
    (case nf_BadOffset_rows => k_is)
    (case nf_BadOffset_groups => k_is)
    (case nf_BadOffset_distance => k_is)
    (case su_BadOffset_BadOffset => first | rfl | k_is)
    (case is_BadOffset_BadOffset => first | k_is | rfl)
    (case pg_Offset => k_is)
    (case hd_Offset => k_is)
    (case po_Offset => k_is)
    (case sa_Offset => k_is)
    (case mk_Offset => k_is)
    (case kc_Offset => k_is)
    (case nf_Offset_rows => k_is)
    (case nf_Offset_groups => k_is)
    (case nf_Offset_distance => k_is)
    (case nf_Offset_zone => k_is)
    (case ca_Offset => k_is)
    (case cn_Offset => k_is)
    (case ct_Offset => k_is)
    (case cm_Offset => k_is)
    (case ne_Offset => k_is)
    (case ob_Offset => k_is)
    (case nt_Offset => k_is)
    (case lK_WORDS => k_is)
    (case vK_WORDS => exact (.cons ⟨_, rfl⟩ (.cons ⟨_, rfl⟩ (.cons ⟨_, rfl⟩ (.cons ⟨_, rfl⟩ (.cons ⟨_, rfl⟩ (.cons ⟨_, rfl⟩ (.cons ⟨_, rfl⟩ (.cons ⟨_, rfl⟩ (.cons ⟨_, rfl⟩ (.cons ⟨_, rfl⟩ (.cons ⟨_, rfl⟩ (.cons ⟨_, rfl⟩ .nil)))))))))))))
    (case kt_bool_int => kit_is)
    (case kt_int_bool => kit_is)
    (case kt_NoneType_int => kit_is)
    (case kt_str_int => kit_is)
