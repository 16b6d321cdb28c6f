import PyProof.Rows.All
import Wide.All
import OpenK.AllK
import Wide.FinOn
import HandS.ForMost
import HandS.Wide
import HandS.IsInst
import HandS.Defaults
import HandS.Codes
import PyProof.InstNe
import HandS.Style
import PyProof.ReprRoads
import PyProof.ReprLen
import HandS.ForExc
import HandS.ExcInit
import HandS.ExcField
import HandS.ExcIs
import PyProof.NeKinds
import HandS.Text
import HandS.Codes
import HandS.Walk
import HandS.OwnEq
import HandS.Strs
import PyProof.StrLawsRepr
import HandS.Iter
import HandS.Conv
import HandS.MakeKw
import HandS.MakeKwOnly
import HandS.Star
import HandS.TryMany
import HandS.Deep
import HandS.DictTup
import HandS.TupAny
import HandS.Set
import HandS.SetFor
import HandS.SetBool
import HandS.TupSets
import PyProof.FactsAll.set_2
import KE.KDictDisplayH
import HandS.DictComp
import HandS.DeepEq
import HandS.Finally
import HandS.SortRule
import HandS.TupLe
import HandS.DictEq
import HandS.SortInts
import HandS.Zip
import HandS.SortInts
import KE.KEqDict
import KE.KDictKeyed
import KE.DataMinMax
import KE.KDictWalk
import HandS.SortKw
import KE.KOpsOwn
import HandS.Flow
import KE.KStateDown
import HandS.Head2
import HandS.HeadEnd
import HandS.HeadHook1
import HandS.HeadHook2
import PySem.Challenge.RW_windowrows_k85_closure_and_chain
set_option Elab.async false
set_option linter.all false
set_option maxRecDepth 100000
set_option maxHeartbeats 2000000
namespace Wr
open PySem PySem.Spec PyProof.Rows L2
/-! ### the head by one run: facts of the top read off the last heap -/
noncomputable section
/-- the whole heap, the text's own objects first (no walk along the names: that walk, with its eraseDups, cost 5.7 GB of kernel memory at 1,200 objects) -/
def asN (n : Nat) : List Addr := (List.range n).reverse
theorem frG_none {g : Addr → Option Obj} {a : Addr} (h : g a = none) : ∀ as : List Addr, (He.frG g as).lookup a = none
  | [] => rfl
  | b :: r => by
    have ih := frG_none h r
    unfold He.frG at ih ⊢
    cases hb : g b with
    | none => rw [List.filterMap_cons, hb]; exact ih
    | some ob =>
      rw [List.filterMap_cons, hb]
      show (match a == b with | true => some ob | false => (He.frG g r).lookup a) = none
      cases q : (a == b) with
      | true => rw [← beq_iff_eq.mp q, h] at hb; cases hb
      | false => exact ih
theorem frG_get {g : Addr → Option Obj} {a : Addr} : ∀ as : List Addr, a ∈ as → (He.frG g as).lookup a = g a
  | [], h => nomatch h
  | b :: r, h => by
    cases hg : g a with
    | none => exact frG_none hg _
    | some o =>
      cases hb : g b with
      | none =>
        have m : a ∈ r := by
          rcases List.mem_cons.mp h with e | m
          · rw [← e, hg] at hb; cases hb
          · exact m
        have ih := frG_get (g := g) r m
        unfold He.frG at ih ⊢
        rw [List.filterMap_cons, hb]
        exact ih.trans hg
      | some ob =>
        unfold He.frG
        rw [List.filterMap_cons, hb]
        show (match a == b with | true => some ob | false => (He.frG g r).lookup a) = some o
        cases q : (a == b) with
        | true =>
          rw [← beq_iff_eq.mp q, hg] at hb
          exact hb.symm
        | false =>
          rcases List.mem_cons.mp h with e | m
          · rw [e, beq_self_eq_true] at q; cases q
          · exact (frG_get r m).trans hg
theorem frN_get {g : Addr → Option Obj} {a n : Nat} (h : Nat.blt a n = true) : (He.frG g (asN n)).lookup a = g a := by
  have lt : a < n := by
    have z : Nat.ble (a + 1) n = true := h
    exact Nat.le_of_ble_eq_true z
  exact frG_get _ (List.mem_reverse.mpr (List.mem_range.mpr lt))
/-! looking names up quickly: texts are compared by a number each (equal texts of 18 signs cost 6 MB of kernel memory when decided sign by sign) -/
def keyQ (x : Str) : Value → Bool
  | .str s _ => PySem.W.Fast.sEq s x
  | _ => false
theorem keyQ_eq {x : Str} {k : Value} : keyQ x k = k.isStr x := by
  cases k with
  | str s t =>
    show PySem.W.Fast.sEq s x = (s == x)
    rw [Bool.eq_iff_iff, PySem.W.Fast.sEq_iff, beq_iff_eq]
  | _ => rfl
/-- the first entry of that name, if any; none: an entry hides its key -/
def firstQ (x : Str) : List DictEntry → Option Value
  | [] => none
  | e :: r => (match keyQ x e.key with
    | true => some e.val
    | false => firstQ x r)
theorem firstQ_eq {x : Str} : ∀ es : List DictEntry, firstQ x es = (es.find? fun e => e.key.isStr x).map (·.val)
  | [] => rfl
  | e :: r => by
    unfold firstQ
    rw [keyQ_eq, List.find?_cons]
    cases e.key.isStr x with
    | true => rfl
    | false => exact firstQ_eq r
def dictQ (x : Str) (es : List DictEntry) : Option (Option Value) := match firstQ x es with
  | some v => some (some v)
  | none => (match es.any (·.refKey) with
    | true => none
    | false => some none)
def nsQ (K : PySem.W.Frag) (D : Addr) (x : Str) : Option (Option Value) := (K.lookup D).bind fun o => match o.data with
  | .dict es _ => dictQ x es.toList
  | _ => none
theorem nsQ_eq : nsQ = PySem.W.nsIn := by
  funext K D x
  unfold nsQ PySem.W.nsIn
  cases K.lookup D with
  | none => rfl
  | some o =>
    obtain ⟨c, d, dt, sl⟩ := o
    cases dt with
    | dict es n =>
      show dictQ x es.toList = _
      unfold dictQ
      rw [firstQ_eq]
      dsimp only
      cases es.toList.find? fun e => e.key.isStr x with
      | some e => rfl
      | none => cases es.toList.any (·.refKey) <;> rfl
    | _ => rfl
def ownQ (K : PySem.W.Frag) (x : Str) : Value → Option (Option Value)
  | .ref a => (PySem.W.clsIn K a).bind fun cd => nsQ K cd.ns x
  | v => PySem.W.ownIn K x v
theorem ownQ_eq {K : PySem.W.Frag} {x : Str} {v : Value} : ownQ K x v = PySem.W.ownIn K x v := by
  cases v with
  | ref a =>
    show (PySem.W.clsIn K a).bind _ = PySem.W.ownIn K x (.ref a)
    unfold PySem.W.clsIn PySem.W.ownIn
    rw [nsQ_eq]
    dsimp only
    cases K.lookup a with
    | none => rfl
    | some o =>
      obtain ⟨c, d, dt, sl⟩ := o
      cases dt <;> rfl
  | _ => rfl
def walkQ (K : PySem.W.Frag) (x : Str) : List Value → Option (Option Value)
  | [] => some none
  | c :: r => (ownQ K x c).bind fun z => match z with
    | some v => some (some v)
    | none => walkQ K x r
theorem walkQ_eq {K : PySem.W.Frag} {x : Str} : ∀ cs : List Value, walkQ K x cs = PySem.W.alongIn K x cs
  | [] => rfl
  | c :: r => by
    unfold walkQ PySem.W.alongIn
    rw [ownQ_eq]
    cases PySem.W.ownIn K x c with
    | none => rfl
    | some z =>
      cases z with
      | some v => rfl
      | none => exact walkQ_eq r
def findQ (K : PySem.W.Frag) (t : Value) (x : Str) : Option (Option Value) := match t with
  | .ref a => (PySem.W.clsIn K a).bind fun cd => walkQ K x cd.mro
  | t => PySem.W.findIn K t x
theorem findQ_eq : findQ = PySem.W.findIn := by
  funext K t x
  cases t with
  | ref a =>
    show (PySem.W.clsIn K a).bind _ = PySem.W.findIn K (.ref a) x
    unfold PySem.W.clsIn PySem.W.findIn
    dsimp only
    cases K.lookup a with
    | none => rfl
    | some o =>
      obtain ⟨c, d, dt, sl⟩ := o
      cases dt with
      | cls cd => exact walkQ_eq _
      | _ => rfl
  | _ => rfl
/-- the ways of looking names up: the library's own, and the quick ones -/
structure RdX where
  N : PySem.W.Frag → Addr → Str → Option (Option Value)
  F : PySem.W.Frag → Value → Str → Option (Option Value)
def RdX.ga (R : RdX) (K : PySem.W.Frag) (x : Str) : Addr := match R.N K mainGlobals x with
  | some (some (.ref a)) => a
  | _ => 0
def RdX.ma (R : RdX) (K : PySem.W.Frag) (C : Addr) (m : Str) : Addr := match R.F K (.ref C) m with
  | some (some (.ref a)) => a
  | _ => 0
def RdX.fA (R : RdX) (K : PySem.W.Frag) (p : Str × Option Str) : Addr := match p.2 with
  | none => R.ga K p.1
  | some m => R.ma K (R.ga K p.1) m
def Rl : RdX := ⟨PySem.W.nsIn, PySem.W.findIn⟩
def Rq : RdX := ⟨nsQ, findQ⟩
theorem Rq_eq : Rq = Rl := by
  unfold Rq Rl
  rw [nsQ_eq, findQ_eq]
/-! the defs: their objects and their codes' are read off the heap itself, not off the list (a walk along 1,000 pairs costs 9 MB) -/
abbrev FnQ : Type := Option (Value × Str × Str × Arguments × FuncBody × Scope × Addr × List (Str × Addr) × Addr)
def miniV (g : Addr → Option Obj) : Value → PySem.W.Frag
  | .ref c => (match g c with
    | some o => [(c, o)]
    | none => [])
  | _ => []
def refN (n : Nat) : Value → Bool
  | .ref c => Nat.blt c n
  | _ => false
def fnQ (R : RdX) (K : PySem.W.Frag) (g : Addr → Option Obj) (d : He.DefD) : FnQ := match g (R.fA K d.at_) with
  | some ⟨oc, _, .func fd, _⟩ => some (oc, fd.name, fd.qualname, fd.params, fd.body, fd.scope, fd.globals, fd.closure, fd.builtins)
  | _ => none
def valQ (d : He.DefD) : FnQ := some (.type "function", d.name, d.qual, d.params, .stmts d.body, d.scope, mainGlobals, [], builtinsNs)
def okQ (R : RdX) (K : PySem.W.Frag) (g : Addr → Option Obj) (n : Nat) (d : He.DefD) : Bool := Nat.blt (R.fA K d.at_) n && (match g (R.fA K d.at_) with
  | some ⟨_, _, .func fd, _⟩ => refN n fd.code && (PySem.W.codeIn (miniV g fd.code) fd.code d.qual && (He.dflB K fd.defaults (d.dvs K) && He.kwdB K fd.kwdefaults (d.kws K)))
  | _ => false)
theorem codeIn_mini {K : PySem.W.Frag} {g : Addr → Option Obj} {n : Nat} {v : Value} {q : Str} (hk : ∀ a, Nat.blt a n = true → K.lookup a = g a) (r : refN n v = true) (c : PySem.W.codeIn (miniV g v) v q = true) : PySem.W.codeIn K v q = true := by
  cases v with
  | ref a =>
    have e : (miniV g (.ref a)).lookup a = K.lookup a := by
      rw [hk a r]
      show List.lookup a (match g a with | some o => [(a, o)] | none => []) = g a
      cases g a with
      | none => rfl
      | some o =>
        show (match a == a with | true => some o | false => List.lookup a []) = some o
        rw [beq_self_eq_true]
    unfold PySem.W.codeIn at c ⊢
    dsimp only at c ⊢
    rw [e] at c
    exact c
  | _ => cases r
def DefSaid (K : PySem.W.Frag) (d : He.DefD) : Prop := (∃ fd, FunD K d.name d.qual d.params d.body d.scope (d.dvs K) (d.kws K) (He.fAd K d.at_) fd) ∧ PySem.W.isFn K (.ref (He.fAd K d.at_)) = true
theorem def_said {K : PySem.W.Frag} {g : Addr → Option Obj} {n : Nat} {d : He.DefD} (hk : ∀ a, Nat.blt a n = true → K.lookup a = g a) (e : fnQ Rl K g d = valQ d) (c : okQ Rl K g n d = true) : DefSaid K d := by
  obtain ⟨lt, c2⟩ := Bool.and_eq_true_iff.mp c
  have lk := hk _ lt
  have lk : K.lookup (He.fAd K d.at_) = g (He.fAd K d.at_) := lk
  unfold fnQ at e
  change (match g (He.fAd K d.at_) with
    | some ⟨_, _, .func fd, _⟩ => refN n fd.code && (PySem.W.codeIn (miniV g fd.code) fd.code d.qual && (He.dflB K fd.defaults (d.dvs K) && He.kwdB K fd.kwdefaults (d.kws K)))
    | _ => false) = true at c2
  change (match g (He.fAd K d.at_) with
    | some ⟨oc, _, .func fd, _⟩ => some (oc, fd.name, fd.qualname, fd.params, fd.body, fd.scope, fd.globals, fd.closure, fd.builtins)
    | _ => none) = valQ d at e
  cases q : g (He.fAd K d.at_) with
  | none =>
    rw [q] at c2
    cases c2
  | some o =>
    obtain ⟨oc, od, dt, osl⟩ := o
    rw [q] at c2 e
    cases dt with
    | func fd =>
      obtain ⟨n1, n2, n3, n4, n5, n6, n7, n8, n9, n10, n11, n12, n13, n14, n15⟩ := fd
      have e2 : (some (oc, n1, n2, n3, n4, n5, n6, n7, n15) : FnQ) = some (.type "function", d.name, d.qual, d.params, .stmts d.body, d.scope, mainGlobals, [], builtinsNs) := e
      simp only [Option.some.injEq, Prod.mk.injEq] at e2
      obtain ⟨h0, h1, h2, h3, h4, h5, h6, h7, h8⟩ := e2
      subst h0 h1 h2 h3 h4 h5 h6 h7 h8
      have c3 : (refN n n13 && (PySem.W.codeIn (miniV g n13) n13 d.qual && (He.dflB K n8 (d.dvs K) && He.kwdB K n9 (d.kws K)))) = true := c2
      obtain ⟨k0, k1⟩ := Bool.and_eq_true_iff.mp c3
      obtain ⟨k1, k2⟩ := Bool.and_eq_true_iff.mp k1
      obtain ⟨k3, k4⟩ := Bool.and_eq_true_iff.mp k2
      have lk := lk.trans q
      refine ⟨⟨_, ⟨_, od, n8, n9, n10, n11, n12, n13, n14, osl, rfl, lk, codeIn_mini hk k0 k1, He.dflB_ok k3, He.kwdB_ok k4⟩, ?_⟩, ?_⟩
      · unfold PySem.W.keepIn
        dsimp only
        rw [lk]
      · unfold PySem.W.isFn PySem.W.typeIn
        dsimp only
        rw [lk]
        exact beq_self_eq_true _
    | _ => cases c2
structure SaysQ (fn : List He.DefD) (K : PySem.W.Frag) : Prop where
  fn : ∀ d ∈ fn, DefSaid K d
theorem SaysQ.def_ {fn : List He.DefD} {K : PySem.W.Frag} (c : SaysQ fn K) (i : Nat) {d : He.DefD} (h : fn[i]? = some d := by rfl) : DefSaid K d := c.fn d (List.mem_of_getElem? h)
abbrev AlQ : Type := Bool × Bool × List FnQ
abbrev XB : Type := RdX → PySem.W.Frag → List Bool
def obsX (R : RdX) (n : Nat) (fn : List He.DefD) (xB : XB) (g : Addr → Option Obj) : AlQ := ((xB R (He.frG g (asN n))).all id, fn.all fun d => okQ R (He.frG g (asN n)) g n d, fn.map fun d => fnQ R (He.frG g (asN n)) g d)
theorem said_of {n : Nat} {fn : List He.DefD} {xB : XB} {g : Addr → Option Obj} (e : obsX Rq n fn xB g = (true, true, fn.map valQ)) : SaysQ fn (He.frG g (asN n)) ∧ (xB Rl (He.frG g (asN n))).all id = true := by
  rw [Rq_eq] at e
  have e1 := congrArg (fun z : AlQ => z.1) e
  have e2 := congrArg (fun z : AlQ => z.2.1) e
  have e3 := congrArg (fun z : AlQ => z.2.2) e
  dsimp only [obsX] at e1 e2 e3
  refine ⟨⟨fun d hd => def_said (fun a z => frN_get z) ?_ (List.all_eq_true.mp e2 d hd)⟩, e1⟩
  exact List.map_inj_left.mp e3 d hd
def hookX (n : Nat) (fn : List He.DefD) (xB : XB) : PySem.W.Hook where
  α := AlQ
  obs := fun s => obsX Rq n fn xB s.heap.get?
  val := fun _ => (true, true, fn.map valQ)
  says := fun _ h => ∃ K, PySem.W.Frag.In K h ∧ SaysQ fn K ∧ (xB Rl K).all id = true
  of := fun w s e => ⟨_, He.frG_in, said_of e⟩
  keeps := fun w h h' ⟨K, i, r⟩ kp => ⟨K, fun a o e => kp a o (i a o e), r⟩
def obX (n : Nat) (fn : List He.DefD) (xB : XB) (s : PySem.W.SharedT) : AlQ := obsX Rq n fn xB (HandSHeadRun.getT s)
theorem obX_eq {n : Nat} {fn : List He.DefD} {xB : XB} (s : PySem.W.SharedT) : obX n fn xB s = (hookX n fn xB).obs s.abs := by
  have e : HandSHeadRun.getT s = s.abs.heap.get? := funext (HandSHeadRun.getT_eq s)
  show obsX Rq n fn xB (HandSHeadRun.getT s) = obsX Rq n fn xB s.abs.heap.get?
  rw [e]
end
theorem ax_ {xs : List Bool} (h : xs.all id = true) (i : Nat) {b : Bool} (e : xs[i]? = some b := by rfl) : b = true := List.all_eq_true.mp h b (List.mem_of_getElem? e)
theorem fun_of_D {K : PySem.W.Frag} {x q : Str} {st : Stmt} {f : Addr} {fd : FuncData} {kws : List (Str × V)} (D : FunD K x q (defArgs st) (defBody st) (defScope st) [] kws f fd) : Fun K x q st f fd := by
  obtain ⟨oc, od, dV, kV, doc, pm, an, cdv, ct, osl, e, lk, cd, dv, kw⟩ := D.ex
  have z : dV = .none := by
    rcases dv with ⟨_, z⟩ | ⟨z, _⟩
    · exact z
    · exact absurd rfl z
  subst z
  exact ⟨⟨oc, od, kV, doc, pm, an, cdv, ct, osl, e, lk, cd⟩, D.kp⟩
/-- f(e, .., k = v, ..), all parameters written, of a def with positional defaults -/
theorem FunD_kb1 {K : PySem.W.Frag} {x qual : Str} {params : Arguments} {body : List Stmt} {scope : Scope} {dvs : List V} {f : Addr} {fd : FuncData} {ps : List Str} (F : FunD K x qual params body scope dvs [] f fd) (n : Nat) (ks : List Str) (g : {α : Type} → List α → List α → List α) (hd : dvs ≠ [])
    (hrel : ∀ {vs zs : List V} {us ws : List Value}, Vals vs us → Vals zs ws → Vals (g vs zs) (g us ws))
    (h : ∀ (T : Addr) (kV doc pm : Value) (an : Option Addr) (cdv ct : Value) (us its ws : List Value), us.length = n → its.length = dvs.length → ws.length = ks.length →
      ∃ k, bindArgs (PySem.W.fnOf x qual params body scope (.ref T) kV doc pm an cdv ct) ⟨us, ks.zip ws⟩ = seqItems? (.ref T) >>= k ∧ k (some its.toArray) = pure (ps.zip (g us ws))) : KBn K fd ps n ks (fun us ws => g us ws) (fun vs zs => g vs zs) := by
  obtain ⟨oc, od, dV, kV, doc, pm, an, cdv, ct, osl, rfl, lk, hcd, hD, hK⟩ := F.ex
  rcases hD with ⟨e, _⟩ | ⟨_, T, o, its, m, rfl, lT, oT, rT⟩
  · exact absurd e hd
  · refine ⟨fun s us ws X l1 l2 => ?_, fun r1 r2 => hrel r1 r2⟩
    obtain ⟨k, e1, e2⟩ := h T kV doc pm an cdv ct us its ws l1 rT.length.symm l2
    refine BindsTo.of_looks fun M => ?_
    rw [e1]
    exact looks_items X lT oT (.of_pure e2)
def oexB (K : PySem.W.Frag) (C : Addr) : Bool := match List.lookup C K with
  | some ⟨.type "type", _, .cls cd, sl⟩ => match cd.mro, sl.toList with
    | .ref C' :: bm, [_, _, _, _, some (.builtin n), _] => decide (C' = C) && (decide (n = "ValueError.__new__") && (!cd.hasDel && (cd.hasDict && PySem.HandSPX.refsVE bm)))
    | _, _ => false
  | _ => false
theorem oexB_ok {K : PySem.W.Frag} {C : Addr} (h : oexB K C = true) : ∃ nm q N bs bm sn sub ab col dd k0 k1 k2 k3 k5, List.lookup C K = some (excClassObj nm q C N bs bm true sn sub ab col dd k0 k1 k2 k3 k5 "ValueError.__new__") ∧ PySem.HandSPX.refsVE bm = true := by
  unfold oexB at h
  split at h
  · next dd cd sl e =>
    split at h
    · next C' bm k0 k1 k2 k3 n k5 e1 e2 =>
      simp only [Bool.and_eq_true, decide_eq_true_eq, Bool.not_eq_true'] at h
      obtain ⟨rfl, rfl, h3, h4, h5⟩ := h
      obtain ⟨nm, bs, mro, N, q, hd, sn, sub, ab, col, hl⟩ := cd
      dsimp only at e1 h3 h4
      subst e1 h3 h4
      refine ⟨nm, q, N, bs, bm, sn, sub, ab, col, dd, k0, k1, k2, k3, k5, ?_, h5⟩
      rw [e]
      have es : sl = #[k0, k1, k2, k3, some (.builtin "ValueError.__new__"), k5] := by
        rw [← Array.toArray_toList (xs := sl), e2]
      rw [es]
    · cases h
  · cases h
/-- a written constant: a tuple of texts and ints -/
def relB1 : V → Value → Bool
  | .str a, .str b _ => decide (a = b)
  | .int i, .int j _ => decide (i = j)
  | _, _ => false
def relsB1 : List V → List Value → Bool
  | [], [] => true
  | v :: vs, u :: us => relB1 v u && relsB1 vs us
  | _, _ => false
theorem relB1_ok {v : V} {u : Value} (h : relB1 v u = true) : RelV v u := by
  unfold relB1 at h
  split at h
  · have e := of_decide_eq_true h
    subst e
    exact ⟨_, rfl⟩
  · have e := of_decide_eq_true h
    subst e
    exact ⟨_, rfl⟩
  · cases h
theorem relsB1_ok : ∀ {vs : List V} {us : List Value}, relsB1 vs us = true → Vals vs us
  | [], [], _ => .nil
  | [], _ :: _, h => nomatch h
  | _ :: _, [], h => nomatch h
  | v :: vs, u :: us, h => by
    have h := Bool.and_eq_true_iff.mp h
    exact .cons (relB1_ok h.1) (relsB1_ok h.2)
def tupB (K : PySem.W.Frag) (C : Addr) (vs : List V) : Bool := match List.lookup C K with
  | some ⟨.type "tuple", none, .seq it _, _⟩ => relsB1 vs it.toList
  | _ => false
theorem tupB_ok {K : PySem.W.Frag} {C : Addr} {vs : List V} (h : tupB K C vs = true) : ∃ it n sl, List.lookup C K = some ⟨.type "tuple", none, .seq it n, sl⟩ ∧ Vals vs it.toList := by
  unfold tupB at h
  split at h
  · next it n sl e => exact ⟨it, n, sl, e, relsB1_ok h⟩
  · cases h
/-- where a keyword-only default stands -/
def kwA (K : PySem.W.Frag) (f : Addr) (x : Str) : Addr := match List.lookup f K with
  | some ⟨_, _, .func fd, _⟩ => match fd.kwdefaults with
    | .ref D => match PySem.W.nsIn K D x with
      | some (some (.ref a)) => a
      | _ => 0
    | _ => 0
  | _ => 0
/-- a written constant of the top: an int, a text -/
def ctI (K : PySem.W.Frag) (x : Str) (i : Int) : Bool := match PySem.W.nsIn K mainGlobals x with
  | some (some (.int j _)) => decide (j = i)
  | _ => false
theorem ctI_ok {K : PySem.W.Frag} {x : Str} {i : Int} (h : ctI K x i = true) : ∃ t, PySem.W.nsIn K mainGlobals x = some (some (.int i t)) := by
  unfold ctI at h
  split at h
  · next j t e =>
    have z := of_decide_eq_true h
    subst z
    exact ⟨t, e⟩
  · cases h
def ctS (K : PySem.W.Frag) (x z : Str) : Bool := match PySem.W.nsIn K mainGlobals x with
  | some (some (.str y _)) => decide (y = z)
  | _ => false
theorem ctS_ok {K : PySem.W.Frag} {x z : Str} (h : ctS K x z = true) : ∃ t, PySem.W.nsIn K mainGlobals x = some (some (.str z t)) := by
  unfold ctS at h
  split at h
  · next y t e =>
    have z := of_decide_eq_true h
    subst z
    exact ⟨t, e⟩
  · cases h
def top (i : Nat) : Stmt := PySem.Challenge.pw_windowrows_k85_closure_and_chain.main.body.getD i (.Pass ⟨0, 0, 0, 0⟩)
abbrev s_BadScheme___init__ : Stmt := inClass (top 3) 0
theorem sc_BadScheme___init__ : FnScope ["self", "word"] ["self", "word"] (defScope s_BadScheme___init__) := ⟨rfl, rfl, rfl, by decide +kernel, rfl, by decide +kernel, by decide +kernel⟩
abbrev s_UnknownColumn___init__ : Stmt := inClass (top 4) 0
theorem sc_UnknownColumn___init__ : FnScope ["self", "name"] ["self", "name"] (defScope s_UnknownColumn___init__) := ⟨rfl, rfl, rfl, by decide +kernel, rfl, by decide +kernel, by decide +kernel⟩
abbrev s_BadUnique___init__ : Stmt := inClass (top 5) 0
theorem sc_BadUnique___init__ : FnScope ["self", "index"] ["self", "index"] (defScope s_BadUnique___init__) := ⟨rfl, rfl, rfl, by decide +kernel, rfl, by decide +kernel, by decide +kernel⟩
abbrev s_BadFix___init__ : Stmt := inClass (top 6) 0
theorem sc_BadFix___init__ : FnScope ["self", "index"] ["self", "index"] (defScope s_BadFix___init__) := ⟨rfl, rfl, rfl, by decide +kernel, rfl, by decide +kernel, by decide +kernel⟩
abbrev s_known : Stmt := top 8
theorem sc_known : FnScope ["scheme", "columns", "names", "column"] ["scheme", "columns"] (defScope s_known) := ⟨rfl, rfl, rfl, by decide +kernel, rfl, by decide +kernel, by decide +kernel⟩
abbrev s_usable : Stmt := top 9
theorem sc_usable : FnScope ["scheme", "columns", "plain", "strong", "one"] ["scheme", "columns"] (defScope s_usable) := ⟨rfl, rfl, rfl, by decide +kernel, rfl, by decide +kernel, by decide +kernel⟩
abbrev s_Facts___init__ : Stmt := inClass (top 10) 0
theorem sc_Facts___init__ : FnScope ["self", "scheme", "unique", "fixes", "index", "columns", "column"] ["self", "scheme", "unique", "fixes"] (defScope s_Facts___init__) := ⟨rfl, rfl, rfl, by decide +kernel, rfl, by decide +kernel, by decide +kernel⟩
abbrev s_Facts_reached : Stmt := inClass (top 10) 1
theorem sc_Facts_reached : FnScope ["self", "columns", "found", "steps", "grown", "index", "needed", "column", "one"] ["self", "columns"] (defScope s_Facts_reached) := ⟨rfl, rfl, rfl, by decide +kernel, rfl, by decide +kernel, by decide +kernel⟩
abbrev s_Facts_closure : Stmt := inClass (top 10) 2
theorem sc_Facts_closure : FnScope ["self", "columns", "found", "one"] ["self", "columns"] (defScope s_Facts_closure) := ⟨rfl, rfl, rfl, by decide +kernel, rfl, by decide +kernel, by decide +kernel⟩
abbrev s_Facts_chain : Stmt := inClass (top 10) 3
theorem sc_Facts_chain : FnScope ["self", "columns"] ["self", "columns"] (defScope s_Facts_chain) := ⟨rfl, rfl, rfl, by decide +kernel, rfl, by decide +kernel, by decide +kernel⟩
abbrev s_Facts_no_twins : Stmt := inClass (top 10) 4
theorem sc_Facts_no_twins : FnScope ["self", "columns", "found", "needed", "one"] ["self", "columns"] (defScope s_Facts_no_twins) := ⟨rfl, rfl, rfl, by decide +kernel, rfl, by decide +kernel, by decide +kernel⟩
abbrev s_is_name : Stmt := top 14
theorem sc_is_name : FnScope ["thing", "letter"] ["thing"] (defScope s_is_name) := ⟨rfl, rfl, rfl, by decide +kernel, rfl, by decide +kernel, by decide +kernel⟩
abbrev s_first_double : Stmt := top 15
theorem sc_first_double : FnScope ["words", "known", "word"] ["words"] (defScope s_first_double) := ⟨rfl, rfl, rfl, by decide +kernel, rfl, by decide +kernel, by decide +kernel⟩
abbrev s_Sort___init__ : Stmt := inClass (top 16) 0
theorem sc_Sort___init__ : FnScope ["self", "name", "key", "part", "descending"] ["self", "name", "key", "part", "descending"] (defScope s_Sort___init__) := ⟨rfl, rfl, rfl, by decide +kernel, rfl, by decide +kernel, by decide +kernel⟩
abbrev s_Sort___eq__ : Stmt := inClass (top 16) 1
theorem sc_Sort___eq__ : FnScope ["self", "other"] ["self", "other"] (defScope s_Sort___eq__) := ⟨rfl, rfl, rfl, by decide +kernel, rfl, by decide +kernel, by decide +kernel⟩
abbrev s_Scheme___init__ : Stmt := inClass (top 17) 0
theorem sc_Scheme___init__ : FnScope ["self", "sorts", "parts", "values", "marks"] ["self", "sorts", "parts", "values", "marks"] (defScope s_Scheme___init__) := ⟨rfl, rfl, rfl, by decide +kernel, rfl, by decide +kernel, by decide +kernel⟩
abbrev s_Scheme_inspect : Stmt := inClass (top 17) 1
theorem sc_Scheme_inspect : FnScope ["self", "names", "columns", "word", "words", "one"] ["self"] (defScope s_Scheme_inspect) := ⟨rfl, rfl, rfl, by decide +kernel, rfl, by decide +kernel, by decide +kernel⟩
abbrev s_Scheme_columns : Stmt := inClass (top 17) 2
theorem sc_Scheme_columns : FnScope ["self", "keys", "one"] ["self"] (defScope s_Scheme_columns) := ⟨rfl, rfl, rfl, by decide +kernel, rfl, by decide +kernel, by decide +kernel⟩
abbrev s_Scheme_sort_names : Stmt := inClass (top 17) 3
theorem sc_Scheme_sort_names : FnScope ["self", "one"] ["self"] (defScope s_Scheme_sort_names) := ⟨rfl, rfl, rfl, by decide +kernel, rfl, by decide +kernel, by decide +kernel⟩
abbrev s_Scheme___eq__ : Stmt := inClass (top 17) 5
theorem sc_Scheme___eq__ : FnScope ["self", "other"] ["self", "other"] (defScope s_Scheme___eq__) := ⟨rfl, rfl, rfl, by decide +kernel, rfl, by decide +kernel, by decide +kernel⟩
abbrev s__law_begin : Stmt := top 19
theorem sc__law_begin : FnScope ["_law_script", "_law_cells", "_law_cell"] ["_law_script"] (defScope s__law_begin) := ⟨rfl, rfl, rfl, by decide +kernel, rfl, by decide +kernel, by decide +kernel⟩
abbrev s__law_draw : Stmt := top 20
theorem sc__law_draw : FnScope ["_law_draws", "_law_many", "_law_turn", "_law_at", "_law_cell", "_law_got", "_law_first", "_law_salt", "_law_second", "_law_mixed", "_law_third"] ["_law_draws", "_law_many"] (defScope s__law_draw) := ⟨rfl, rfl, rfl, by decide +kernel, rfl, by decide +kernel, by decide +kernel⟩
abbrev s__law_name : Stmt := top 21
theorem sc__law_name : FnScope ["_law_draws", "_law_taken", "_law_letters", "_law_words", "_law_spots", "_law_step", "_law_last", "_law_word", "_law_k", "_law_spot"] ["_law_draws", "_law_taken"] (defScope s__law_name) := ⟨rfl, rfl, rfl, by decide +kernel, rfl, by decide +kernel, by decide +kernel⟩
abbrev s__law_names : Stmt := top 22
theorem sc__law_names : FnScope ["_law_draws", "_law_taken", "_law_many", "_law_found", "_law_k"] ["_law_draws", "_law_taken", "_law_many"] (defScope s__law_names) := ⟨rfl, rfl, rfl, by decide +kernel, rfl, by decide +kernel, by decide +kernel⟩
abbrev s__law_spec : Stmt := top 23
theorem sc__law_spec : FnScope ["_law_draws", "_law_most", "_law_halls", "_law_worths", "_law_flags", "_law_fallings", "_law_where", "_law_columns_here", "_law_called", "_law_sorts", "_law_k", "_law_one"] ["_law_draws", "_law_most"] (defScope s__law_spec) := ⟨rfl, rfl, rfl, by decide +kernel, rfl, by decide +kernel, by decide +kernel⟩
abbrev s__law_scheme : Stmt := top 24
theorem sc__law_scheme : FnScope ["_law_spec_here", "_law_sorts", "_law_one"] ["_law_spec_here"] (defScope s__law_scheme) := ⟨rfl, rfl, rfl, by decide +kernel, rfl, by decide +kernel, by decide +kernel⟩
abbrev s__law_whole : Stmt := top 25
theorem sc__law_whole : FnScope ["_law_x"] ["_law_x"] (defScope s__law_whole) := ⟨rfl, rfl, rfl, by decide +kernel, rfl, by decide +kernel, by decide +kernel⟩
abbrev s__law_columns : Stmt := top 26
theorem sc__law_columns : FnScope ["_law_spec_here", "_law_one"] ["_law_spec_here"] (defScope s__law_columns) := ⟨rfl, rfl, rfl, by decide +kernel, rfl, by decide +kernel, by decide +kernel⟩
abbrev s__law_left : Stmt := top 27
theorem sc__law_left : FnScope ["_law_draws", "_law_spec_here", "_law_strong", "_law_plain", "_law_found", "_law_word", "_law_one"] ["_law_draws", "_law_spec_here"] (defScope s__law_left) := ⟨rfl, rfl, rfl, by decide +kernel, rfl, by decide +kernel, by decide +kernel⟩
abbrev s__law_fact_lists : Stmt := top 28
theorem sc__law_fact_lists : FnScope ["_law_draws", "_law_spec_here", "_law_columns_here", "_law_pairs", "_law_k", "_law_singles"] ["_law_draws", "_law_spec_here"] (defScope s__law_fact_lists) := ⟨rfl, rfl, rfl, by decide +kernel, rfl, by decide +kernel, by decide +kernel⟩
abbrev s__law_facts : Stmt := top 29
theorem sc__law_facts : FnScope ["_law_spec_here", "_law_lists", "_law_pairs", "_law_one"] ["_law_spec_here", "_law_lists"] (defScope s__law_facts) := ⟨rfl, rfl, rfl, by decide +kernel, rfl, by decide +kernel, by decide +kernel⟩
abbrev s__law_closed : Stmt := top 30
theorem sc__law_closed : FnScope ["_law_lists", "_law_given", "_law_found", "_law_turn", "_law_left_here", "_law_right", "_law_word"] ["_law_lists", "_law_given"] (defScope s__law_closed) := ⟨rfl, rfl, rfl, by decide +kernel, rfl, by decide +kernel, by decide +kernel⟩
abbrev s__law_ask : Stmt := top 31
theorem sc__law_ask : FnScope ["_law_facts_here", "_law_which", "_law_given"] ["_law_facts_here", "_law_which", "_law_given"] (defScope s__law_ask) := ⟨rfl, rfl, rfl, by decide +kernel, rfl, by decide +kernel, by decide +kernel⟩
abbrev s__law_asked_right : Stmt := top 32
theorem sc__law_asked_right : FnScope ["_law_draws", "_law_spec_here", "_law_facts_here", "_law_lists", "_law_given", "_law_closed_here", "_law_due", "_law_twins", "_law_first", "_law_which", "_law_told", "_law_kept", "_law_word", "_law_one"] ["_law_draws", "_law_spec_here", "_law_facts_here", "_law_lists", "_law_given"] (defScope s__law_asked_right) := ⟨rfl, rfl, rfl, by decide +kernel, rfl, by decide +kernel, by decide +kernel⟩
abbrev s__law_refused : Stmt := top 33
theorem sc__law_refused : FnScope ["_law_facts_here", "_law_given", "_law_strange", "_law_found", "_law_which", "e"] ["_law_facts_here", "_law_given", "_law_strange"] (defScope s__law_refused) := ⟨rfl, rfl, rfl, by decide +kernel, rfl, by decide +kernel, by decide +kernel⟩
abbrev s__law_closure : Stmt := top 34
theorem sc__law_closure : FnScope ["_law_facts_here", "_law_given"] ["_law_facts_here", "_law_given"] (defScope s__law_closure) := ⟨rfl, rfl, rfl, by decide +kernel, rfl, by decide +kernel, by decide +kernel⟩
abbrev s__law_chain : Stmt := top 35
theorem sc__law_chain : FnScope ["_law_facts_here", "_law_given"] ["_law_facts_here", "_law_given"] (defScope s__law_chain) := ⟨rfl, rfl, rfl, by decide +kernel, rfl, by decide +kernel, by decide +kernel⟩
abbrev s__law_no_twins : Stmt := top 36
theorem sc__law_no_twins : FnScope ["_law_facts_here", "_law_given"] ["_law_facts_here", "_law_given"] (defScope s__law_no_twins) := ⟨rfl, rfl, rfl, by decide +kernel, rfl, by decide +kernel, by decide +kernel⟩
abbrev s__law_walked : Stmt := top 37
theorem sc__law_walked : FnScope ["_law_lists", "_law_given", "_law_chain_here", "_law_found", "_law_step", "_law_left_here", "_law_right", "_law_word"] ["_law_lists", "_law_given", "_law_chain_here"] (defScope s__law_walked) := ⟨rfl, rfl, rfl, by decide +kernel, rfl, by decide +kernel, by decide +kernel⟩
abbrev s_law : Stmt := top 38
theorem sc_law : FnScope ["_law_script", "_law_draws", "_law_spec_here", "_law_lists", "_law_facts_here", "_law_columns_here", "_law_asked", "_law_at", "_law_which", "_law_singles", "_law_pairs", "_law_some", "_law_one", "_law_held", "_law_strange", "_law_spot", "_law_bad", "_law_j", "_law_k"] ["_law_script"] (defScope s_law) := ⟨rfl, rfl, rfl, by decide +kernel, rfl, by decide +kernel, by decide +kernel⟩
def nm0 : List Str := ["_wall", "WindowError", "BadScheme", "UnknownColumn", "BadUnique", "BadFix", "known", "usable", "Facts", "LETTERS", "WORDS", "is_name", "first_double", "Sort", "Scheme", "_law_begin", "_law_draw", "_law_name", "_law_names", "_law_spec", "_law_scheme", "_law_whole", "_law_columns", "_law_left", "_law_fact_lists", "_law_facts", "_law_closed", "_law_ask", "_law_asked_right", "_law_refused"]
def nm1 : List Str := ["_law_closure", "_law_chain", "_law_no_twins", "_law_walked"]
def nms : List Str := nm0 ++ nm1
def fd0 : He.DefD := ⟨("BadScheme", some "__init__"), "__init__", "BadScheme.__init__", defArgs s_BadScheme___init__, defBody s_BadScheme___init__, defScope s_BadScheme___init__, [], []⟩
def fd1 : He.DefD := ⟨("UnknownColumn", some "__init__"), "__init__", "UnknownColumn.__init__", defArgs s_UnknownColumn___init__, defBody s_UnknownColumn___init__, defScope s_UnknownColumn___init__, [], []⟩
def fd2 : He.DefD := ⟨("BadUnique", some "__init__"), "__init__", "BadUnique.__init__", defArgs s_BadUnique___init__, defBody s_BadUnique___init__, defScope s_BadUnique___init__, [], []⟩
def fd3 : He.DefD := ⟨("BadFix", some "__init__"), "__init__", "BadFix.__init__", defArgs s_BadFix___init__, defBody s_BadFix___init__, defScope s_BadFix___init__, [], []⟩
def fd4 : He.DefD := ⟨("known", none), "known", "known", defArgs s_known, defBody s_known, defScope s_known, [], []⟩
def fd5 : He.DefD := ⟨("usable", none), "usable", "usable", defArgs s_usable, defBody s_usable, defScope s_usable, [], []⟩
def fd6 : He.DefD := ⟨("Facts", some "__init__"), "__init__", "Facts.__init__", defArgs s_Facts___init__, defBody s_Facts___init__, defScope s_Facts___init__, [], [("unique", .adr fun K => kwA K (He.ma K (He.ga K "Facts") "__init__") "unique"), ("fixes", .adr fun K => kwA K (He.ma K (He.ga K "Facts") "__init__") "fixes")]⟩
def fd7 : He.DefD := ⟨("Facts", some "reached"), "reached", "Facts.reached", defArgs s_Facts_reached, defBody s_Facts_reached, defScope s_Facts_reached, [], []⟩
def fd8 : He.DefD := ⟨("Facts", some "closure"), "closure", "Facts.closure", defArgs s_Facts_closure, defBody s_Facts_closure, defScope s_Facts_closure, [], []⟩
def fd9 : He.DefD := ⟨("Facts", some "chain"), "chain", "Facts.chain", defArgs s_Facts_chain, defBody s_Facts_chain, defScope s_Facts_chain, [], []⟩
def fd10 : He.DefD := ⟨("Facts", some "no_twins"), "no_twins", "Facts.no_twins", defArgs s_Facts_no_twins, defBody s_Facts_no_twins, defScope s_Facts_no_twins, [], []⟩
def fd11 : He.DefD := ⟨("is_name", none), "is_name", "is_name", defArgs s_is_name, defBody s_is_name, defScope s_is_name, [], []⟩
def fd12 : He.DefD := ⟨("first_double", none), "first_double", "first_double", defArgs s_first_double, defBody s_first_double, defScope s_first_double, [], []⟩
def fd13 : He.DefD := ⟨("Sort", some "__init__"), "__init__", "Sort.__init__", defArgs s_Sort___init__, defBody s_Sort___init__, defScope s_Sort___init__, [], []⟩
def fd14 : He.DefD := ⟨("Sort", some "__eq__"), "__eq__", "Sort.__eq__", defArgs s_Sort___eq__, defBody s_Sort___eq__, defScope s_Sort___eq__, [], []⟩
def fd15 : He.DefD := ⟨("Scheme", some "__init__"), "__init__", "Scheme.__init__", defArgs s_Scheme___init__, defBody s_Scheme___init__, defScope s_Scheme___init__, [], []⟩
def fd16 : He.DefD := ⟨("Scheme", some "inspect"), "inspect", "Scheme.inspect", defArgs s_Scheme_inspect, defBody s_Scheme_inspect, defScope s_Scheme_inspect, [], []⟩
def fd17 : He.DefD := ⟨("Scheme", some "columns"), "columns", "Scheme.columns", defArgs s_Scheme_columns, defBody s_Scheme_columns, defScope s_Scheme_columns, [], []⟩
def fd18 : He.DefD := ⟨("Scheme", some "sort_names"), "sort_names", "Scheme.sort_names", defArgs s_Scheme_sort_names, defBody s_Scheme_sort_names, defScope s_Scheme_sort_names, [], []⟩
def fd19 : He.DefD := ⟨("Scheme", some "__eq__"), "__eq__", "Scheme.__eq__", defArgs s_Scheme___eq__, defBody s_Scheme___eq__, defScope s_Scheme___eq__, [], []⟩
def fd20 : He.DefD := ⟨("_law_begin", none), "_law_begin", "_law_begin", defArgs s__law_begin, defBody s__law_begin, defScope s__law_begin, [], []⟩
def fd21 : He.DefD := ⟨("_law_draw", none), "_law_draw", "_law_draw", defArgs s__law_draw, defBody s__law_draw, defScope s__law_draw, [], []⟩
def fd22 : He.DefD := ⟨("_law_name", none), "_law_name", "_law_name", defArgs s__law_name, defBody s__law_name, defScope s__law_name, [], []⟩
def fd23 : He.DefD := ⟨("_law_names", none), "_law_names", "_law_names", defArgs s__law_names, defBody s__law_names, defScope s__law_names, [], []⟩
def fd24 : He.DefD := ⟨("_law_spec", none), "_law_spec", "_law_spec", defArgs s__law_spec, defBody s__law_spec, defScope s__law_spec, [], []⟩
def fd25 : He.DefD := ⟨("_law_scheme", none), "_law_scheme", "_law_scheme", defArgs s__law_scheme, defBody s__law_scheme, defScope s__law_scheme, [], []⟩
def fd26 : He.DefD := ⟨("_law_whole", none), "_law_whole", "_law_whole", defArgs s__law_whole, defBody s__law_whole, defScope s__law_whole, [], []⟩
def fd27 : He.DefD := ⟨("_law_columns", none), "_law_columns", "_law_columns", defArgs s__law_columns, defBody s__law_columns, defScope s__law_columns, [], []⟩
def fd28 : He.DefD := ⟨("_law_left", none), "_law_left", "_law_left", defArgs s__law_left, defBody s__law_left, defScope s__law_left, [], []⟩
def fd29 : He.DefD := ⟨("_law_fact_lists", none), "_law_fact_lists", "_law_fact_lists", defArgs s__law_fact_lists, defBody s__law_fact_lists, defScope s__law_fact_lists, [], []⟩
def fd30 : He.DefD := ⟨("_law_facts", none), "_law_facts", "_law_facts", defArgs s__law_facts, defBody s__law_facts, defScope s__law_facts, [], []⟩
def fd31 : He.DefD := ⟨("_law_closed", none), "_law_closed", "_law_closed", defArgs s__law_closed, defBody s__law_closed, defScope s__law_closed, [], []⟩
def fd32 : He.DefD := ⟨("_law_ask", none), "_law_ask", "_law_ask", defArgs s__law_ask, defBody s__law_ask, defScope s__law_ask, [], []⟩
def fd33 : He.DefD := ⟨("_law_asked_right", none), "_law_asked_right", "_law_asked_right", defArgs s__law_asked_right, defBody s__law_asked_right, defScope s__law_asked_right, [], []⟩
def fd34 : He.DefD := ⟨("_law_refused", none), "_law_refused", "_law_refused", defArgs s__law_refused, defBody s__law_refused, defScope s__law_refused, [], []⟩
def fd35 : He.DefD := ⟨("_law_closure", none), "_law_closure", "_law_closure", defArgs s__law_closure, defBody s__law_closure, defScope s__law_closure, [], []⟩
def fd36 : He.DefD := ⟨("_law_chain", none), "_law_chain", "_law_chain", defArgs s__law_chain, defBody s__law_chain, defScope s__law_chain, [], []⟩
def fd37 : He.DefD := ⟨("_law_no_twins", none), "_law_no_twins", "_law_no_twins", defArgs s__law_no_twins, defBody s__law_no_twins, defScope s__law_no_twins, [], []⟩
def fd38 : He.DefD := ⟨("_law_walked", none), "_law_walked", "_law_walked", defArgs s__law_walked, defBody s__law_walked, defScope s__law_walked, [], []⟩
def fd39 : He.DefD := ⟨("law", none), "law", "law", defArgs s_law, defBody s_law, defScope s_law, [], []⟩
def fns0 : List He.DefD := [fd0, fd1, fd2, fd3, fd4, fd5, fd6, fd7, fd8, fd9, fd10, fd11, fd12, fd13, fd14, fd15, fd16, fd17, fd18, fd19, fd20, fd21, fd22, fd23, fd24, fd25, fd26, fd27, fd28, fd29]
def fns1 : List He.DefD := [fd30, fd31, fd32, fd33, fd34, fd35, fd36, fd37, fd38, fd39]
def fns : List He.DefD := fns0 ++ fns1
def xB0 (R : RdX) (K : PySem.W.Frag) : List Bool := [
  He.eqO (R.F K (.ref (R.ga K "BadScheme")) "__init__") (some (some (.ref (R.ma K (R.ga K "BadScheme") "__init__")))),
  He.eqO (R.F K (.ref (R.ga K "UnknownColumn")) "__init__") (some (some (.ref (R.ma K (R.ga K "UnknownColumn") "__init__")))),
  He.eqO (R.F K (.ref (R.ga K "BadUnique")) "__init__") (some (some (.ref (R.ma K (R.ga K "BadUnique") "__init__")))),
  He.eqO (R.F K (.ref (R.ga K "BadFix")) "__init__") (some (some (.ref (R.ma K (R.ga K "BadFix") "__init__")))),
  He.eqO (R.N K mainGlobals "known") (some (some (.ref (R.ga K "known")))),
  He.eqO (R.N K mainGlobals "usable") (some (some (.ref (R.ga K "usable")))),
  He.eqO (R.F K (.ref (R.ga K "Facts")) "__init__") (some (some (.ref (R.ma K (R.ga K "Facts") "__init__")))),
  tupB K (kwA K (R.ma K (R.ga K "Facts") "__init__") "unique") [],
  tupB K (kwA K (R.ma K (R.ga K "Facts") "__init__") "fixes") [],
  He.eqO (R.F K (.ref (R.ga K "Facts")) "reached") (some (some (.ref (R.ma K (R.ga K "Facts") "reached")))),
  He.eqO (R.F K (.ref (R.ga K "Facts")) "closure") (some (some (.ref (R.ma K (R.ga K "Facts") "closure")))),
  He.eqO (R.F K (.ref (R.ga K "Facts")) "chain") (some (some (.ref (R.ma K (R.ga K "Facts") "chain")))),
  He.eqO (R.F K (.ref (R.ga K "Facts")) "no_twins") (some (some (.ref (R.ma K (R.ga K "Facts") "no_twins")))),
  He.eqO (R.N K mainGlobals "is_name") (some (some (.ref (R.ga K "is_name")))),
  He.eqO (R.N K mainGlobals "first_double") (some (some (.ref (R.ga K "first_double")))),
  He.eqO (R.F K (.ref (R.ga K "Sort")) "__init__") (some (some (.ref (R.ma K (R.ga K "Sort") "__init__")))),
  He.eqO (R.F K (.ref (R.ga K "Sort")) "__eq__") (some (some (.ref (R.ma K (R.ga K "Sort") "__eq__")))),
  He.eqO (R.F K (.ref (R.ga K "Scheme")) "__init__") (some (some (.ref (R.ma K (R.ga K "Scheme") "__init__")))),
  He.eqO (R.F K (.ref (R.ga K "Scheme")) "inspect") (some (some (.ref (R.ma K (R.ga K "Scheme") "inspect")))),
  He.eqO (R.F K (.ref (R.ga K "Scheme")) "columns") (some (some (.ref (R.ma K (R.ga K "Scheme") "columns"))))]
def xB1 (R : RdX) (K : PySem.W.Frag) : List Bool := [
  He.eqO (R.F K (.ref (R.ga K "Scheme")) "sort_names") (some (some (.ref (R.ma K (R.ga K "Scheme") "sort_names")))),
  He.eqO (R.F K (.ref (R.ga K "Scheme")) "__eq__") (some (some (.ref (R.ma K (R.ga K "Scheme") "__eq__")))),
  He.eqO (R.N K mainGlobals "_law_begin") (some (some (.ref (R.ga K "_law_begin")))),
  He.eqO (R.N K mainGlobals "_law_draw") (some (some (.ref (R.ga K "_law_draw")))),
  He.eqO (R.N K mainGlobals "_law_name") (some (some (.ref (R.ga K "_law_name")))),
  He.eqO (R.N K mainGlobals "_law_names") (some (some (.ref (R.ga K "_law_names")))),
  He.eqO (R.N K mainGlobals "_law_spec") (some (some (.ref (R.ga K "_law_spec")))),
  He.eqO (R.N K mainGlobals "_law_scheme") (some (some (.ref (R.ga K "_law_scheme")))),
  He.eqO (R.N K mainGlobals "_law_whole") (some (some (.ref (R.ga K "_law_whole")))),
  He.eqO (R.N K mainGlobals "_law_columns") (some (some (.ref (R.ga K "_law_columns")))),
  He.eqO (R.N K mainGlobals "_law_left") (some (some (.ref (R.ga K "_law_left")))),
  He.eqO (R.N K mainGlobals "_law_fact_lists") (some (some (.ref (R.ga K "_law_fact_lists")))),
  He.eqO (R.N K mainGlobals "_law_facts") (some (some (.ref (R.ga K "_law_facts")))),
  He.eqO (R.N K mainGlobals "_law_closed") (some (some (.ref (R.ga K "_law_closed")))),
  He.eqO (R.N K mainGlobals "_law_ask") (some (some (.ref (R.ga K "_law_ask")))),
  He.eqO (R.N K mainGlobals "_law_asked_right") (some (some (.ref (R.ga K "_law_asked_right")))),
  He.eqO (R.N K mainGlobals "_law_refused") (some (some (.ref (R.ga K "_law_refused")))),
  He.eqO (R.N K mainGlobals "_law_closure") (some (some (.ref (R.ga K "_law_closure")))),
  He.eqO (R.N K mainGlobals "_law_chain") (some (some (.ref (R.ga K "_law_chain")))),
  He.eqO (R.N K mainGlobals "_law_no_twins") (some (some (.ref (R.ga K "_law_no_twins"))))]
def xB2 (R : RdX) (K : PySem.W.Frag) : List Bool := [
  He.eqO (R.N K mainGlobals "_law_walked") (some (some (.ref (R.ga K "_law_walked")))),
  He.eqO (R.N K mainGlobals "law") (some (some (.ref (R.ga K "law")))),
  He.eqO (R.N K mainGlobals "WindowError") (some (some (.ref (R.ga K "WindowError")))),
  decide (PySem.W.subIn K (.ref (R.ga K "WindowError")) (.type "BaseException") = some true),
  decide (PySem.W.typeIn K (.ref (R.ga K "WindowError")) = some (.type "type")),
  PySem.W.hasDictIn K (R.ga K "WindowError"),
  He.eqO (R.N K mainGlobals "BadScheme") (some (some (.ref (R.ga K "BadScheme")))),
  decide (PySem.W.subIn K (.ref (R.ga K "BadScheme")) (.type "BaseException") = some true),
  decide (PySem.W.typeIn K (.ref (R.ga K "BadScheme")) = some (.type "type")),
  PySem.W.hasDictIn K (R.ga K "BadScheme"),
  oexB K (R.ga K "BadScheme"),
  decide (R.F K (.ref (R.ga K "BadScheme")) "__setattr__" = some (some (.builtin "object.__setattr__"))),
  PySem.W.keepIn K (.ref (R.ga K "BadScheme")),
  decide (R.F K (.ref (R.ga K "BadScheme")) "__getattribute__" = some (some (.builtin "BaseException.__getattribute__"))),
  decide (R.F K (.ref (R.ga K "BadScheme")) "__getattr__" = some none),
  decide (PySem.W.typeIn K (.ref (R.ma K (R.ga K "BadScheme") "__init__")) = some (.type "function")),
  decide (R.F K (.ref (R.ga K "BadScheme")) "word" = some none),
  He.eqO (R.N K mainGlobals "Sort") (some (some (.ref (R.ga K "Sort")))),
  PySem.W.plainGet K (R.ga K "Sort") Str.empty,
  PySem.W.hasDictIn K (R.ga K "Sort")]
def xB3 (R : RdX) (K : PySem.W.Frag) : List Bool := [
  PySem.W.plainOver K (R.ga K "Sort"),
  decide (R.F K (.ref (R.ga K "Sort")) "__setattr__" = some (some (.builtin "object.__setattr__"))),
  PySem.W.makesIn K (R.ga K "Sort"),
  PySem.W.keepIn K (.ref (R.ga K "Sort")),
  decide (R.F K (.ref (R.ga K "Sort")) "name" = some none),
  decide (R.F K (.ref (R.ga K "Sort")) "key" = some none),
  decide (R.F K (.ref (R.ga K "Sort")) "part" = some none),
  decide (R.F K (.ref (R.ga K "Sort")) "descending" = some none),
  decide (R.F K (.ref (R.ga K "Sort")) "__class__" = some (some (.builtin "object.__class__"))),
  decide (PySem.W.specialIn K (.builtin "object.__class__") "__get__" = some (some (.builtin "getset_descriptor.__get__"))),
  decide (PySem.W.takesIn K (.builtin "object.__class__") = some true),
  decide (PySem.W.mroIn K (R.ga K "Sort") (.type "object") = some true),
  PySem.W.notFirst K (R.ga K "Sort") (.ref (R.ga K "Sort")),
  He.eqO (R.N K mainGlobals "Scheme") (some (some (.ref (R.ga K "Scheme")))),
  PySem.W.plainGet K (R.ga K "Scheme") Str.empty,
  PySem.W.hasDictIn K (R.ga K "Scheme"),
  PySem.W.plainOver K (R.ga K "Scheme"),
  decide (R.F K (.ref (R.ga K "Scheme")) "__setattr__" = some (some (.builtin "object.__setattr__"))),
  PySem.W.makesIn K (R.ga K "Scheme"),
  PySem.W.keepIn K (.ref (R.ga K "Scheme"))]
def xB4 (R : RdX) (K : PySem.W.Frag) : List Bool := [
  decide (R.F K (.ref (R.ga K "Scheme")) "sorts" = some none),
  decide (R.F K (.ref (R.ga K "Scheme")) "part_columns" = some none),
  decide (R.F K (.ref (R.ga K "Scheme")) "value_columns" = some none),
  decide (R.F K (.ref (R.ga K "Scheme")) "mark_columns" = some none),
  decide (R.F K (.ref (R.ga K "Scheme")) "__class__" = some (some (.builtin "object.__class__"))),
  decide (PySem.W.mroIn K (R.ga K "Scheme") (.type "object") = some true),
  decide (R.F K (.ref (R.ga K "Scheme")) "__ne__" = some (some (.builtin "object.__ne__"))),
  decide (PySem.W.subIn K (.ref (R.ga K "Scheme")) (.type "object") = some true),
  PySem.W.notFirst K (R.ga K "Scheme") (.ref (R.ga K "Scheme")),
  He.eqO (R.N K mainGlobals "UnknownColumn") (some (some (.ref (R.ga K "UnknownColumn")))),
  decide (PySem.W.subIn K (.ref (R.ga K "UnknownColumn")) (.type "BaseException") = some true),
  decide (PySem.W.typeIn K (.ref (R.ga K "UnknownColumn")) = some (.type "type")),
  PySem.W.hasDictIn K (R.ga K "UnknownColumn"),
  oexB K (R.ga K "UnknownColumn"),
  decide (R.F K (.ref (R.ga K "UnknownColumn")) "__setattr__" = some (some (.builtin "object.__setattr__"))),
  PySem.W.keepIn K (.ref (R.ga K "UnknownColumn")),
  decide (R.F K (.ref (R.ga K "UnknownColumn")) "__getattribute__" = some (some (.builtin "BaseException.__getattribute__"))),
  decide (R.F K (.ref (R.ga K "UnknownColumn")) "__getattr__" = some none),
  decide (PySem.W.typeIn K (.ref (R.ma K (R.ga K "UnknownColumn") "__init__")) = some (.type "function")),
  decide (R.F K (.ref (R.ga K "UnknownColumn")) "name" = some none)]
def xB5 (R : RdX) (K : PySem.W.Frag) : List Bool := [
  decide (PySem.W.subIn K (.ref (R.ga K "UnknownColumn")) (.ref (R.ga K "UnknownColumn")) = some true),
  PySem.W.isIn K (.ref (R.ga K "UnknownColumn")) (R.ga K "UnknownColumn"),
  He.eqO (R.N K mainGlobals "BadUnique") (some (some (.ref (R.ga K "BadUnique")))),
  decide (PySem.W.subIn K (.ref (R.ga K "BadUnique")) (.type "BaseException") = some true),
  decide (PySem.W.typeIn K (.ref (R.ga K "BadUnique")) = some (.type "type")),
  PySem.W.hasDictIn K (R.ga K "BadUnique"),
  oexB K (R.ga K "BadUnique"),
  decide (R.F K (.ref (R.ga K "BadUnique")) "__setattr__" = some (some (.builtin "object.__setattr__"))),
  PySem.W.keepIn K (.ref (R.ga K "BadUnique")),
  decide (R.F K (.ref (R.ga K "BadUnique")) "__getattribute__" = some (some (.builtin "BaseException.__getattribute__"))),
  decide (R.F K (.ref (R.ga K "BadUnique")) "__getattr__" = some none),
  decide (PySem.W.typeIn K (.ref (R.ma K (R.ga K "BadUnique") "__init__")) = some (.type "function")),
  decide (R.F K (.ref (R.ga K "BadUnique")) "index" = some none),
  decide (PySem.W.subIn K (.ref (R.ga K "BadUnique")) (.ref (R.ga K "BadUnique")) = some true),
  PySem.W.isIn K (.ref (R.ga K "BadUnique")) (R.ga K "BadUnique"),
  He.eqO (R.N K mainGlobals "BadFix") (some (some (.ref (R.ga K "BadFix")))),
  decide (PySem.W.subIn K (.ref (R.ga K "BadFix")) (.type "BaseException") = some true),
  decide (PySem.W.typeIn K (.ref (R.ga K "BadFix")) = some (.type "type")),
  PySem.W.hasDictIn K (R.ga K "BadFix"),
  oexB K (R.ga K "BadFix")]
def xB6 (R : RdX) (K : PySem.W.Frag) : List Bool := [
  decide (R.F K (.ref (R.ga K "BadFix")) "__setattr__" = some (some (.builtin "object.__setattr__"))),
  PySem.W.keepIn K (.ref (R.ga K "BadFix")),
  decide (R.F K (.ref (R.ga K "BadFix")) "__getattribute__" = some (some (.builtin "BaseException.__getattribute__"))),
  decide (R.F K (.ref (R.ga K "BadFix")) "__getattr__" = some none),
  decide (PySem.W.typeIn K (.ref (R.ma K (R.ga K "BadFix") "__init__")) = some (.type "function")),
  decide (R.F K (.ref (R.ga K "BadFix")) "index" = some none),
  decide (PySem.W.subIn K (.ref (R.ga K "BadFix")) (.ref (R.ga K "BadFix")) = some true),
  PySem.W.isIn K (.ref (R.ga K "BadFix")) (R.ga K "BadFix"),
  He.eqO (R.N K mainGlobals "Facts") (some (some (.ref (R.ga K "Facts")))),
  PySem.W.plainGet K (R.ga K "Facts") Str.empty,
  PySem.W.hasDictIn K (R.ga K "Facts"),
  PySem.W.plainOver K (R.ga K "Facts"),
  decide (R.F K (.ref (R.ga K "Facts")) "__setattr__" = some (some (.builtin "object.__setattr__"))),
  PySem.W.makesIn K (R.ga K "Facts"),
  PySem.W.keepIn K (.ref (R.ga K "Facts")),
  decide (R.F K (.ref (R.ga K "Facts")) "scheme" = some none),
  decide (R.F K (.ref (R.ga K "Facts")) "unique_sets" = some none),
  decide (R.F K (.ref (R.ga K "Facts")) "fix_pairs" = some none),
  decide (R.F K (.ref (R.ga K "Facts")) "__class__" = some (some (.builtin "object.__class__"))),
  decide (PySem.W.mroIn K (R.ga K "Facts") (.type "object") = some true)]
def xB7 (R : RdX) (K : PySem.W.Frag) : List Bool := [
  ctS K "LETTERS" "abcdefghijklmnopqrstuvwxyz",
  He.eqO (R.N K mainGlobals "WORDS") (some (some (.ref (R.ga K "WORDS")))),
  tupB K (R.ga K "WORDS") [V.str "rows", V.str "groups", V.str "keys", V.str "self", V.str "ties", V.str "group", V.str "all", V.str "none", V.str "sum", V.str "count", V.str "by", V.str "not"],
  decide (PySem.W.kitOne K (.type "bool") (.type "int") = some true),
  decide (PySem.W.kitOne K (.type "int") (.type "bool") = some false),
  He.eqO (R.N K mainGlobals "abs") (some none),
  He.eqO (R.N K mainGlobals "all") (some none),
  He.eqO (R.N K mainGlobals "bool") (some none),
  He.eqO (R.N K mainGlobals "enumerate") (some none),
  He.eqO (R.N K mainGlobals "int") (some none),
  He.eqO (R.N K mainGlobals "isinstance") (some none),
  He.eqO (R.N K mainGlobals "len") (some none),
  He.eqO (R.N K mainGlobals "list") (some none),
  He.eqO (R.N K mainGlobals "range") (some none),
  He.eqO (R.N K mainGlobals "set") (some none),
  He.eqO (R.N K mainGlobals "sorted") (some none),
  He.eqO (R.N K mainGlobals "str") (some none),
  He.eqO (R.N K mainGlobals "tuple") (some none)]
def xB (R : RdX) (K : PySem.W.Frag) : List Bool := xB0 R K ++ xB1 R K ++ xB2 R K ++ xB3 R K ++ xB4 R K ++ xB5 R K ++ xB6 R K ++ xB7 R K
theorem run_top (w : World) : HandSHeadRun.RunEq (PySem.W.OpenLaw.row PySem.Challenge.rw_windowrows_k85_closure_and_chain) (PySem.W.view (PySem.W.OpenLaw.row PySem.Challenge.rw_windowrows_k85_closure_and_chain).prog [38]) (hookX 2500 fns xB) (obX 2500 fns xB) 20000 nms w := by
  intro os
  kernel_rfl
end Wr
/-! ### == and != of two tuples, both answers -/
namespace TC
open PySem PySem.SeqAt
open AutoSeq1 (wpAny_loadPart')
open MeetsSeq MeetsSeq2 MeetsSeq3 SeqRoads2
section
variable {prog : Program} {w : World} {A : Around} {R : Result → Shared → Prop}
/-- the loop of the comparison: I i as long as all were equal, N when two were not -/
theorem ne_body (l b : Addr) (items items2 : Array Value) (n n2 : Nat) (dd dd2 : Option Addr) (sl sl2 : Array (Option Value)) (I : Nat → Shared → Prop) (N : Shared → Prop)
    (turn : ∀ i (h1 : i < items.size) (h2 : i < items2.size) s, I i s → wpAny (model prog w) A.in1 (eqBool items[i] items2[i]) (fun r s' => (r = true ∧ I (i + 1) s') ∨ (r = false ∧ N s')) (fun e s' => R (.error e) s') s)
    (fin : ∀ s, I (min items.size items2.size) s → R (.ok (.ret (.bool (items.size != items2.size)))) s) (diff : ∀ s, N s → R (.ok (.ret (.bool true))) s) {s : Shared}
    (g1 : s.heap.get? l = some { cls := .type "tuple", dict := dd, data := .seq items n, slots := sl }) (g2 : s.heap.get? b = some { cls := .type "tuple", dict := dd2, data := .seq items2 n2, slots := sl2 }) (h : I 0 s) :
    wpAny (model prog w) A.in1 (Builtin.«tuple.__ne__» ⟨[.ref l, .ref b], []⟩) (GQ.FinOf prog w A R) (fun e s' => R (.error e) s') s := by
  have f2 := AutoSeq1.sub_tuple_tuple
  have hZ : (items.toList.zip items2.toList).length = min items.size items2.size := by simp
  have h0 := h
  obtain ⟨hp, g, d, tk, os⟩ := s
  wp_walk using wpAny_loadPart' g1, wpAny_loadPart' g2, wpAny_forIn_list _ (fun rest b s' => b.1 = none ∧ ∃ i, rest = (items.toList.zip items2.toList).drop i ∧ i ≤ min items.size items2.size ∧ I i s') _
  case turn =>
    rintro ⟨y, x⟩ rest b s' ⟨hb', i, hz, hi, hI⟩
    have hlt : i < (items.toList.zip items2.toList).length := Nat.lt_of_not_le fun z => by rw [List.drop_of_length_le z] at hz; cases hz
    rw [List.drop_eq_getElem_cons hlt] at hz
    have h1 : i < items.size := by omega
    have h2 : i < items2.size := by omega
    have e1 : (y, x) = (items.toList.zip items2.toList)[i] := (List.cons.inj hz).1
    have hy : y = items[i] := by simpa using congrArg Prod.fst e1
    have hx : x = items2[i] := by simpa using congrArg Prod.snd e1
    subst hy hx
    refine wpAny_bind (wpAny_mono (turn i h1 h2 s' hI) (fun r s2 q2 => ?_) fun _ _ x => x)
    rcases q2 with ⟨rfl, q2⟩ | ⟨rfl, q2⟩
    · wp_walk
      exact ⟨rfl, i + 1, (List.cons.inj hz).2, by omega, q2⟩
    · have hR := diff s2 q2
      wp_walk
      exact hR
  case fin =>
    rintro ⟨b1, b2⟩ s' ⟨hb', i, hz, hi, hI⟩
    simp only at hb'
    subst hb'
    have hge : (items.toList.zip items2.toList).length ≤ i := Nat.le_of_not_lt fun z => by rw [List.drop_eq_getElem_cons z] at hz; cases hz
    have hR := fin s' ((show i = min items.size items2.size by omega) ▸ hI)
    wp_walk
    simpa [Builtin.Tuple.tupleCompareSizes] using hR
  case h =>
    exact ⟨rfl, 0, rfl, Nat.zero_le _, h0⟩
end
section
variable {prog : Program} {w : World} {A : Around} {E : Value → Shared → Prop} {s : Shared}
theorem rc_ne {l b : Addr} {items items2 : Array Value} {Q : Value → Shared → Prop} (hu : A.units < cLine) (I : Nat → Shared → Prop) (N : Shared → Prop) (hl : s.heap.IsTuple l items) (hb : s.heap.IsTuple b items2)
    (turn : ∀ i (h1 : i < items.size) (h2 : i < items2.size) s, I i s → wpAny (model prog w) A.in1 (eqBool items[i] items2[i]) (fun r s' => (r = true ∧ I (i + 1) s') ∨ (r = false ∧ N s')) E s)
    (fin : ∀ s, I (min items.size items2.size) s → Q (.bool (items.size != items2.size)) s) (diff : ∀ s, N s → Q (.bool true) s) (h : I 0 s) : wpAny (model prog w) A (richCompare .NotEq (.ref l) (.ref b)) Q E s := by
  rcases id hl with ⟨⟨c1, d1, t1, z1⟩, y1, y2, n1, y3⟩
  rcases id hb with ⟨⟨c2, d2, t2, z2⟩, x1, x2, n2, x3⟩
  cases (show c1 = _ from y2)
  cases (show t1 = _ from y3)
  cases (show c2 = _ from x2)
  cases (show t2 = _ from x3)
  exact wpAny_richCompare_same_room (op := .NotEq) ⟨_, y1, rfl⟩ ⟨_, x1, rfl⟩ F.slot_tuple_ne (GQ.call_here F.slot_tuple_ne ⟨_, y1, rfl⟩ F.entry_tuple_ne (F.args_tuple_ne_2 _ _)
    (ne_body (R := wants (fun v s' => v ≠ .notImplemented ∧ Q v s') E) l b items items2 n1 n2 d1 d2 z1 z2 I N turn (fun s' q => ⟨(fun x => nomatch x), fin s' q⟩) (fun s' q => ⟨(fun x => nomatch x), diff s' q⟩) y1 x1 h)) hu
end
end TC
namespace TC
open PySem PySem.Spec PyProof.Rows L2
/-- two lists, item by item, by a test -/
def eqP (e : Addr → Addr → Bool) : List Addr → List Addr → Bool
  | [], [] => true
  | a :: as, b :: bs => e a b && eqP e as bs
  | _, _ => false
theorem eqP_all {e : Addr → Addr → Bool} : ∀ {as bs : List Addr}, as.length = bs.length → (∀ (i : Nat) (a b : Addr), as[i]? = some a → bs[i]? = some b → e a b = true) → eqP e as bs = true
  | [], [], _, _ => rfl
  | [], _ :: _, h, _ => by cases h
  | _ :: _, [], h, _ => by cases h
  | a :: as, b :: bs, h, hs => by
    show (e a b && eqP e as bs) = true
    rw [hs 0 a b rfl rfl, eqP_all (Nat.succ.inj h) fun i x y h1 h2 => hs (i + 1) x y h1 h2]
    rfl
theorem eqP_len {e : Addr → Addr → Bool} : ∀ {as bs : List Addr}, as.length ≠ bs.length → eqP e as bs = false
  | [], [], h => absurd rfl h
  | [], _ :: _, _ => rfl
  | _ :: _, [], _ => rfl
  | a :: as, b :: bs, h => by
    show (e a b && eqP e as bs) = false
    rw [eqP_len fun z => h (by rw [List.length_cons, List.length_cons, z]), Bool.and_false]
theorem eqP_no {e : Addr → Addr → Bool} : ∀ {as bs : List Addr} {i : Nat} {a b : Addr}, as[i]? = some a → bs[i]? = some b → e a b = false → eqP e as bs = false
  | a :: as, b :: bs, 0, _, _, h1, h2, h => by
    cases h1
    cases h2
    show (e a b && eqP e as bs) = false
    rw [h, Bool.false_and]
  | a :: as, b :: bs, i + 1, x, y, h1, h2, h => by
    show (e a b && eqP e as bs) = false
    rw [eqP_no (as := as) (bs := bs) (i := i) h1 h2 h, Bool.and_false]
  | [], _, i, _, _, h1, _, _ => by cases h1
  | _ :: _, [], i, _, _, _, h2, _ => by cases h2
/-- != of two tuples of instances of the class at C, by its own ==, which leaves the heap as it is -/
def rNeTO (K : PySem.W.Frag) (C : Addr) (sp : Sp) (E : XK) : R2 := fun x y H Q => ∃ (a b : Addr) (as bs : List Addr) (e : Addr → Addr → Bool), x = .ref a ∧ y = .ref b ∧ SqT K H a (as.map V.ref) ∧ SqT K H b (bs.map V.ref) ∧ (∀ p, e p p = true) ∧
  (∀ p ∈ as, ∀ q ∈ bs, (∃ d f, H p = some (.ins C d f)) ∧ (∃ d f, H q = some (.ins C d f)) ∧ sp [.ref p, .ref q] H (fun v H' => v = .bl (e p q) ∧ H' = H) E) ∧ Q (.bl (!eqP e as bs)) H
section
variable {X : Cx} {CX : CXT} {E : XK} {C g : Addr} {k : Nat} {fd : FuncData} {ps : List Str} {sp : Sp}
theorem own_eq {pins : List (Addr × Obj)} {σ : L2.St} {H : Hp} {s : Shared} {p q : Addr} {r : Bool} (hs : PySem.W.findIn X.K (.ref C) "__eq__" = some (some (.ref g))) (hf : PySem.W.isFn X.K (.ref g) = true) (F : FnOk X.prog X.w X.K X.mg X.base CX k g fd ps sp) (hr : Room (k + 1) X.A) (hb : Binds X.K fd ps [])
    (hx : Passes CX X E) (I : Inv X pins σ H s) (hp : ∃ d f, H p = some (.ins C d f)) (hq : ∃ d f, H q = some (.ins C d f)) (h : sp [.ref p, .ref q] H (fun v H' => v = .bl r ∧ H' = H) E) (same : p = q → r = true) :
    wpAny (model X.prog X.w) X.A.in1 (eqBool (.ref p) (.ref q)) (fun z s' => z = r ∧ Inv X pins σ H s') X.xe s := by
  by_cases e : p = q
  · subst e
    exact SeqAt.EqAt.same (A := X.A.in1) (s := s) (.ref p) X.prog X.w X.xe _ ⟨(same rfl).symm, I⟩
  refine GQ.eqBool_refG e ?_
  obtain ⟨dp, fp, hp⟩ := hp
  obtain ⟨dq, fq, hq⟩ := hq
  obtain ⟨mp, yp, _⟩ := ins_get I.hok hp
  obtain ⟨mq, yq, _⟩ := ins_get I.hok hq
  obtain ⟨op, yp, _⟩ := yp.look
  obtain ⟨oq, yq, _⟩ := yq.look
  obtain ⟨m, fr⟩ := I.fr
  refine PySem.W.cmp_K (op := .Eq) (tb := .ref C) hr.in1.units0 fr I.ok.mod.kin yp yq.type (by simp [PySem.W.notFirst]) hs hf ?_
  have two : Vals [V.ref p, V.ref q] [Value.ref p, Value.ref q] := .cons rfl (.cons rfl .nil)
  have args := hb s [.ref p, .ref q] I.kIn (by rw [List.append_nil, ← two.length]; exact F.len _ _ _ _ h)
  rw [List.append_nil] at args
  refine wpAny_call (codeAny_mono (F.run X.A.in1 X.stack s H ⟨[.ref p, .ref q], []⟩ [.ref p, .ref q] _ _ E hr.in1 I.env0.in1 args two h) fun o s' y => ?_)
  match o, y with
  | .error er, y => exact hx pins σ H s er s' I y
  | .ok (.ret z), y =>
    obtain ⟨v, H', J, rv, ev, eH⟩ := I.after y
    subst ev
    subst eH
    cases rv
    exact ⟨_, rfl, rfl, J⟩
  | .ok .next, y => exact False.elim y
  | .ok .brk, y => exact False.elim y
  | .ok .cont, y => exact False.elim y
theorem vals_refs : ∀ {as : List Addr} {us : List Value}, Vals (as.map V.ref) us → us = as.map Value.ref
  | [], _, r => by cases r; rfl
  | a :: as, _, r => by
    cases r with
    | cons h t =>
      cases (show _ = Value.ref a from h)
      rw [vals_refs t]
      rfl
theorem op_neTO (hs : PySem.W.findIn X.K (.ref C) "__eq__" = some (some (.ref g))) (hf : PySem.W.isFn X.K (.ref g) = true) (F : FnOk X.prog X.w X.K X.mg X.base CX k g fd ps sp) (hr : Room (k + 1) X.A) (hb : Binds X.K fd ps []) (hx : Passes CX X E) :
    OpR X (compareOp .NotEq) (rNeTO X.K C sp E) := by
  intro pins s σ H x y v u Q I rx ry h
  obtain ⟨a, b, as, bs, e, rfl, rfl, ha, hb', refl, each, q⟩ := h
  cases (show v = Value.ref a from rx)
  cases (show u = Value.ref b from ry)
  obtain ⟨us, ru, ta, _⟩ := I.tuple ha
  obtain ⟨ws, rw_, tb, _⟩ := I.tuple hb'
  have eu := vals_refs ru
  have ew := vals_refs rw_
  subst eu
  subst ew
  have z1 : (as.map Value.ref).toArray.size = as.length := by simp
  have z2 : (bs.map Value.ref).toArray.size = bs.length := by simp
  show wpAny _ _ (richCompare .NotEq (.ref a) (.ref b)) _ _ _
  refine rc_ne hr.units0 (fun i s' => Inv X pins σ H s' ∧ ∀ (j : Nat) (p r : Addr), j < i → as[j]? = some p → bs[j]? = some r → e p r = true) (fun s' => Inv X pins σ H s' ∧ eqP e as bs = false) ta tb (fun i h1 h2 s' J => ?_) (fun s' J => ?_) (fun s' J => ?_) ⟨I, fun j p r hj => absurd hj (Nat.not_lt_zero _)⟩
  · rw [z1] at h1
    rw [z2] at h2
    have g1 : (as.map Value.ref).toArray[i] = Value.ref as[i] := by simp
    have g2 : (bs.map Value.ref).toArray[i] = Value.ref bs[i] := by simp
    rw [g1, g2]
    obtain ⟨y1, y2, y3⟩ := each as[i] (List.getElem_mem h1) bs[i] (List.getElem_mem h2)
    refine wpAny_mono (own_eq hs hf F hr hb hx J.1 y1 y2 y3 fun z => by rw [z]; exact refl _) (fun r s2 y => ?_) fun _ _ y => y
    obtain ⟨er, J2⟩ := y
    cases hr' : e as[i] bs[i] with
    | true =>
      rw [hr'] at er
      refine .inl ⟨er, J2, fun j p r hj hp hq => ?_⟩
      rcases Nat.lt_or_ge j i with c | c
      · exact J.2 j p r c hp hq
      · have : j = i := by omega
        subst this
        rw [List.getElem?_eq_getElem h1] at hp
        rw [List.getElem?_eq_getElem h2] at hq
        cases hp
        cases hq
        exact hr'
    | false =>
      rw [hr'] at er
      exact .inr ⟨er, J2, eqP_no (List.getElem?_eq_getElem h1) (List.getElem?_eq_getElem h2) hr'⟩
  · refine ⟨.bl (!eqP e as bs), H, J.1, ?_, q⟩
    rw [z1, z2] at *
    by_cases c : as.length = bs.length
    · rw [eqP_all c fun i p r hp hq => J.2 i p r (by have := (List.getElem?_eq_some_iff.mp hp).1; omega) hp hq]
      show Value.bool _ = Value.bool _
      rw [c]
      simp
    · rw [eqP_len c]
      show Value.bool _ = Value.bool _
      simp [c]
  · rw [J.2] at q
    exact ⟨.bl true, H, J.1, rfl, q⟩
end
end TC
/-! ### == of lists of dicts, both answers; != of lists and tuples that hold dicts, where all are equal -/
namespace DQ
open PySem PySem.SeqAt
open AutoSeq1 (wpAny_loadPart')
open MeetsSeq MeetsSeq2 MeetsSeq3
section
variable {prog : Program} {w : World}
/-- list.__ne__'s loop from place i on, where all items are equal -/
theorem ne_from {l b : Addr} {its its2 : Array Value} {n n2 : Nat} {dd dd2 : Option Addr} {sl sl2 : Array (Option Value)} (hz : its.size = its2.size) {A : Around} {R : Result → Shared → Prop} {s : Shared}
    (g1 : s.heap.get? l = some { cls := .type "list", dict := dd, data := .seq its n, slots := sl }) (g2 : s.heap.get? b = some { cls := .type "list", dict := dd2, data := .seq its2 n2, slots := sl2 })
    (each : ∀ j (h1 : j < its.size) (h2 : j < its2.size), EqP prog w A.in1 s its[j] its2[j] true) (out : R (.ok (.ret (.bool false))) s) :
    ∀ (k i : Nat), its.size - i = k → wpAny (model prog w) A.in1 (Builtin.«list.__eq__.loop» ⟨[.ref l, .ref b, rawInt i, rawInt 3], []⟩) (GQ.FinOf prog w A R) (fun e s' => R (.error e) s') s
  | 0, i, hk => by
    obtain ⟨hp, g, d, tk, os⟩ := s
    have o1 : its[((i : Nat) : Int).toNat]? = none := Array.getElem?_eq_none (by omega)
    have o2 : its2[((i : Nat) : Int).toNat]? = none := Array.getElem?_eq_none (by omega)
    wp_walk using wpAny_loadPart' g1, wpAny_loadPart' g2
    rw [o1, o2]
    wp_walk using wpAny_loadPart' g1, wpAny_loadPart' g2
    show R (.ok (.ret (.bool (its.size != its2.size)))) _
    rw [hz, bne_self_eq_false]
    exact out
  | k + 1, i, hk => by
    have step := ne_from hz g1 g2 each out k (i + 1) (by omega)
    have h1 : i < its.size := by omega
    have h2 : i < its2.size := by omega
    have eq := each i h1 h2
    obtain ⟨hp, g, d, tk, os⟩ := s
    have o1 : its[((i : Nat) : Int).toNat]? = some its[i] := by rw [Int.toNat_natCast]; exact Array.getElem?_eq_getElem h1
    have o2 : its2[((i : Nat) : Int).toNat]? = some its2[i] := by rw [Int.toNat_natCast]; exact Array.getElem?_eq_getElem h2
    wp_walk using wpAny_loadPart' g1, wpAny_loadPart' g2
    rw [o1, o2]
    refine wpAny_bind (eq _ _ ?_)
    wp_walk
    rw [show ((i : Int) + 1) = ((i + 1 : Nat) : Int) from rfl]
    refine ⟨plainId_quiet plain_eq_loop _, codeAny_builtin entry_eq_loop ?_⟩
    rw [Around.under_plainId plain_eq_loop _]
    exact step
theorem ne_lists {l b : Addr} {its its2 : Array Value} {n n2 : Nat} {dd dd2 : Option Addr} {sl sl2 : Array (Option Value)} (hz : its.size = its2.size) {A : Around} {R : Result → Shared → Prop} {s : Shared}
    (g1 : s.heap.get? l = some { cls := .type "list", dict := dd, data := .seq its n, slots := sl }) (g2 : s.heap.get? b = some { cls := .type "list", dict := dd2, data := .seq its2 n2, slots := sl2 })
    (each : ∀ j (h1 : j < its.size) (h2 : j < its2.size), EqP prog w A.in1 s its[j] its2[j] true) (out : R (.ok (.ret (.bool false))) s) :
    wpAny (model prog w) A.in1 (Builtin.«list.__ne__» ⟨[.ref l, .ref b], []⟩) (GQ.FinOf prog w A R) (fun e s' => R (.error e) s') s := by
  have run := ne_from hz g1 g2 each out _ 0 rfl
  have f3 := AutoSeq1.sub_list_list
  have f4 : ¬ (its.size != its2.size) = true := by rw [hz, bne_self_eq_false]; exact Bool.false_ne_true
  obtain ⟨hp, g, d, tk, os⟩ := s
  wp_walk using wpAny_loadPart' g1, wpAny_loadPart' g2
  refine ⟨plainId_quiet plain_eq_loop _, codeAny_builtin entry_eq_loop ?_⟩
  rw [Around.under_plainId plain_eq_loop _]
  exact run
theorem rc_neL {A : Around} {s : Shared} {l b : Addr} {its its2 : Array Value} (hl : s.heap.IsList l its) (hb : s.heap.IsList b its2) (hz : its.size = its2.size) (hu : A.units < cLine)
    (each : ∀ j (h1 : j < its.size) (h2 : j < its2.size), EqP prog w A.in1 s its[j] its2[j] true) (E Q : Value → Shared → Prop) (h : Q (.bool false) s) : wpAny (model prog w) A (richCompare .NotEq (.ref l) (.ref b)) Q E s := by
  rcases id hl with ⟨⟨c1, d1, t1, z1⟩, y1, y2, n1, y3⟩
  rcases id hb with ⟨⟨c2, d2, t2, z2⟩, x1, x2, n2, x3⟩
  cases (show c1 = _ from y2)
  cases (show t1 = _ from y3)
  cases (show c2 = _ from x2)
  cases (show t2 = _ from x3)
  exact wpAny_richCompare_same_room (op := .NotEq) ⟨_, y1, rfl⟩ ⟨_, x1, rfl⟩ F.slot_list_ne (GQ.call_here F.slot_list_ne ⟨_, y1, rfl⟩ F.entry_list_ne (F.args_list_ne_2 _ _)
    (ne_lists (R := wants (fun v s' => v ≠ .notImplemented ∧ Q v s') E) hz y1 x1 each ⟨(fun x => nomatch x), h⟩)) hu
end
end DQ
namespace DQ
open PySem PySem.Spec PyProof.Rows L2
/-- the keys of a dict looked up in another one, the values compared -/
inductive Hits (F : V → V → Bool → Prop) (ls : List (Key × V)) : List (Key × V) → Bool → Prop
  | nil : Hits F ls [] true
  | miss {k : Key} {v : V} {r : List (Key × V)} : valV ls k = none → Hits F ls ((k, v) :: r) false
  | hit {k : Key} {v y : V} {r : List (Key × V)} {e b : Bool} : valV ls k = some y → F v y e → Hits F ls r b → Hits F ls ((k, v) :: r) (e && b)
/-- two lists, or two dicts, with the answer of == -/
def EqO (K : PySem.W.Frag) (H : Hp) (F : V → V → Bool → Prop) (x y : V) (b : Bool) : Prop := ∃ a c, x = .ref a ∧ y = .ref c ∧ (a = c → b = true) ∧
  ((∃ xs ys : List V, SqL K H a xs ∧ SqL K H c ys ∧ xs.length = ys.length ∧ ∃ e : Nat → Bool, (∀ (j : Nat) (u v : V), xs[j]? = some u → ys[j]? = some v → F u v (e j)) ∧ b = (List.range xs.length).all e) ∨
   (∃ xs ys : List V, SqL K H a xs ∧ SqL K H c ys ∧ xs.length ≠ ys.length ∧ b = false) ∨
   (∃ (ks ls : List (Key × V)) (r : Bool), H a = some (.dK ks) ∧ H c = some (.dK ls) ∧ (ks.length = ls.length → Hits F ls ks r) ∧ b = (ks.length == ls.length && r)))
def EqB (K : PySem.W.Frag) (H : Hp) : Nat → V → V → Bool → Prop
  | 0 => fun _ _ _ => False
  | n + 1 => fun x y b => (flatV x = true ∧ flatV y = true ∧ b = eqV x y) ∨ EqO K H (EqB K H n) x y b
section
variable {P : Program} {w : World} {A : Around} {s : Shared} {F : V → V → Bool → Prop}
theorem hits_of (ih : ∀ x y b v u, F x y b → RelV x v → RelV y u → SeqAt.EqP P w A s v u b) {ls : List (Key × V)} {vb : List (Key × Value)} (rb : KV ls vb) {ks : List (Key × V)} {r : Bool} (h : Hits F ls ks r) : ∀ {va : List (Key × Value)}, KV ks va → PySem.W.KeqHitsP P w A s vb va r := by
  induction h with
  | nil =>
    intro va ra
    cases ra
    exact .nil
  | @miss k v rest hm =>
    intro va ra
    cases ra with
    | @cons p q ps qs h t =>
      obtain ⟨key, v'⟩ := q
      cases (show k = key from h.1)
      refine .miss ?_
      have z := rb.val k
      rw [hm] at z
      cases hv : valueAt vb k with
      | none => rfl
      | some u => rw [hv] at z; exact (show False from z).elim
  | @hit k v y rest e b hm hf hr k2 =>
    intro va ra
    cases ra with
    | @cons p q ps qs h t =>
      obtain ⟨key, v'⟩ := q
      cases (show k = key from h.1)
      have z := rb.val k
      rw [hm] at z
      obtain ⟨y', hy, ry⟩ := z.some_of
      exact .hit hy (ih _ _ _ _ _ hf h.2 ry) (k2 t)
end
section
variable {X : Cx} {pins : List (Addr × Obj)} {σ : L2.St} {H : Hp} {s : Shared}
theorem vals_at : ∀ {xs : List V} {us : List Value}, Vals xs us → ∀ (j : Nat) (h : j < us.length), ∃ x, xs[j]? = some x ∧ RelV x us[j]
  | _, _, .nil, j, h => absurd h (Nat.not_lt_zero j)
  | _, _, .cons r t, 0, _ => ⟨_, rfl, r⟩
  | _, _, .cons r t, j + 1, h => vals_at t j (Nat.lt_of_succ_lt_succ h)
theorem eqO_run (I : Inv X pins σ H s) {A : Around} {F : V → V → Bool → Prop} (hu : A.units < cLine) (ih : ∀ x y b v u, F x y b → RelV x v → RelV y u → SeqAt.EqP X.prog X.w A.in1 s v u b) {x y : V} {b : Bool} {v u : Value} (h : EqO X.K H F x y b) (rx : RelV x v) (ry : RelV y u)
    (E Q : Value → Shared → Prop) (q : Q (.bool b) s) : wpAny (model X.prog X.w) A (richCompare .Eq v u) Q E s := by
  obtain ⟨a, c, rfl, rfl, _, h⟩ := h
  cases (show v = Value.ref a from rx)
  cases (show u = Value.ref c from ry)
  rcases h with ⟨xs, ys, ha, hb, hl, e, he, rfl⟩ | ⟨xs, ys, ha, hb, hl, rfl⟩ | ⟨ks, ls, r, ha, hb, hh, rfl⟩
  · obtain ⟨us, r1, p1, _⟩ := I.list ha
    obtain ⟨ws, r2, p2, _⟩ := I.list hb
    have hz : us.toArray.size = ws.toArray.size := by
      rw [List.size_toArray, List.size_toArray, ← r1.length, ← r2.length]
      exact hl
    refine SeqAt.rcP_lists (e := e) p1.isList p2.isList hz hu (fun j h1 h2 => ?_) E Q ?_
    · rw [List.size_toArray] at h1 h2
      obtain ⟨x1, e1, v1⟩ := vals_at r1 j h1
      obtain ⟨x2, e2, v2⟩ := vals_at r2 j h2
      have k := ih _ _ _ _ _ (he j x1 x2 e1 e2) v1 v2
      simpa using k
    · rw [List.size_toArray, ← r1.length]
      exact q
  · obtain ⟨us, r1, p1, _⟩ := I.list ha
    obtain ⟨ws, r2, p2, _⟩ := I.list hb
    refine SeqAt.RcAt.lists_lengths p1.isList p2.isList ?_ hu _ _ E Q q
    rw [List.size_toArray, List.size_toArray, ← r1.length, ← r2.length]
    exact bne_iff_ne.mpr hl
  · obtain ⟨_, ya, va, ra, da⟩ := (show ObjOk X.prog X.w H s.heap a (.dK ks) from I.hok a _ ha)
    obtain ⟨_, yb, vb, rb, db⟩ := (show ObjOk X.prog X.w H s.heap c (.dK ls) from I.hok c _ hb)
    have l1 : va.length = ks.length := ra.length.symm
    have l2 : vb.length = ls.length := rb.length.symm
    refine PySem.W.rcP_dicts (knd := mixKind X.prog X.w) (r := r) ya yb da db hu (fun z => hits_of ih rb (hh (by rw [← l1, ← l2]; exact z)) ra) E Q ?_
    rw [l1, l2]
    exact q
theorem eqB_run (I : Inv X pins σ H s) : ∀ (n : Nat) (A : Around), A.units + n < cLine → ∀ (x y : V) (b : Bool) (v u : Value), EqB X.K H n x y b → RelV x v → RelV y u → SeqAt.EqP X.prog X.w A s v u b
  | 0, _, _, _, _, _, _, _, h, _, _ => (show False from h).elim
  | n + 1, A, hu, x, y, b, v, u, h, rx, ry => by
    rcases h with ⟨f1, f2, rfl⟩ | h
    · exact (eqAt_V rx ry f1 f2).eqP
    · have step := eqO_run I (A := A) (by omega) (eqB_run I n A.in1 (by show A.units + 1 + n < cLine; omega)) h rx ry
      obtain ⟨a, c, rfl, rfl, hac, _⟩ := h
      cases (show v = Value.ref a from rx)
      cases (show u = Value.ref c from ry)
      by_cases e : a = c
      · cases hac e
        subst e
        exact (SeqAt.EqAt.same _).eqP
      · exact SeqAt.eqP_refs e step
end
section
variable {X : Cx}
def rEqO (K : PySem.W.Frag) : R2 := fun x y H Q => ∃ (n : Nat) (b : Bool), n ≤ 60 ∧ EqO K H (EqB K H n) x y b ∧ Q (.bl b) H
theorem op_eqB (hu : X.A.units + 64 < cLine) : OpR X (compareOp .Eq) (rEqO X.K) := by
  intro pins s σ H x y v u Q I rx ry h
  obtain ⟨n, b, hn, h, q⟩ := h
  exact eqO_run I (A := X.A) (by omega) (eqB_run I n X.A.in1 (by show X.A.units + 1 + n < cLine; omega)) h rx ry _ _ ⟨.bl b, H, I, rfl, q⟩
/-- != of two lists, or of two tuples, of equal things -/
def rNeO (K : PySem.W.Frag) : R2 := fun x y H Q => ∃ (a c : Addr) (xs ys : List V) (n : Nat), x = .ref a ∧ y = .ref c ∧ n ≤ 60 ∧ ((SqL K H a xs ∧ SqL K H c ys) ∨ (SqT K H a xs ∧ SqT K H c ys)) ∧ xs.length = ys.length ∧
  (∀ (j : Nat) (u v : V), xs[j]? = some u → ys[j]? = some v → EqB K H n u v true) ∧ Q (.bl false) H
theorem op_neB (hu : X.A.units + 64 < cLine) : OpR X (compareOp .NotEq) (rNeO X.K) := by
  intro pins s σ H x y v u Q I rx ry h
  obtain ⟨a, c, xs, ys, n, rfl, rfl, hn, hs, hl, he, q⟩ := h
  cases (show v = Value.ref a from rx)
  cases (show u = Value.ref c from ry)
  show wpAny _ _ (richCompare .NotEq (.ref a) (.ref c)) _ _ _
  have each : ∀ {us ws : List Value}, Vals xs us → Vals ys ws → ∀ {s' : Shared}, Inv X pins σ H s' → ∀ (j : Nat) (h1 : j < us.length) (h2 : j < ws.length), SeqAt.EqP X.prog X.w X.A.in1 s' us[j] ws[j] true := fun r1 r2 s' J j h1 h2 => by
    obtain ⟨x1, e1, v1⟩ := vals_at r1 j h1
    obtain ⟨x2, e2, v2⟩ := vals_at r2 j h2
    exact eqB_run J n X.A.in1 (by show X.A.units + 1 + n < cLine; omega) _ _ _ _ _ (he j x1 x2 e1 e2) v1 v2
  rcases hs with ⟨h1, h2⟩ | ⟨h1, h2⟩
  · obtain ⟨us, r1, p1, _⟩ := I.list h1
    obtain ⟨ws, r2, p2, _⟩ := I.list h2
    refine rc_neL p1.isList p2.isList (by rw [List.size_toArray, List.size_toArray, ← r1.length, ← r2.length]; exact hl) (by omega) (fun j z1 z2 => ?_) _ _ ⟨.bl false, H, I, rfl, q⟩
    rw [List.size_toArray] at z1 z2
    simpa using each r1 r2 I j z1 z2
  · obtain ⟨us, r1, t1, _⟩ := I.tuple h1
    obtain ⟨ws, r2, t2, _⟩ := I.tuple h2
    have hz : us.toArray.size = ws.toArray.size := by rw [List.size_toArray, List.size_toArray, ← r1.length, ← r2.length]; exact hl
    refine TC.rc_ne (by omega) (fun _ s' => Inv X pins σ H s') (fun _ => False) t1 t2 (fun j z1 z2 s' J => ?_) (fun s' J => ?_) (fun _ z => z.elim) I
    · rw [List.size_toArray] at z1 z2
      have k := each r1 r2 J j z1 z2
      have k : SeqAt.EqP X.prog X.w X.A.in1 s' us.toArray[j] ws.toArray[j] true := by simpa using k
      exact k _ _ (.inl ⟨rfl, J⟩)
    · rw [hz, bne_self_eq_false]
      exact ⟨.bl false, H, J, rfl, q⟩
end
end DQ
/-! ### != of lists and dicts, nested, both answers -/
namespace DQ
open PySem PySem.SeqAt
open AutoSeq1 (wpAny_loadPart')
open MeetsSeq MeetsSeq2 MeetsSeq3
section
variable {prog : Program} {w : World}
def allFrom (e : Nat → Bool) : Nat → Nat → Bool
  | 0, _ => true
  | k + 1, i => e i && allFrom e k (i + 1)
theorem allFrom_range (e : Nat → Bool) : ∀ k i, allFrom e k i = (List.range k).all fun j => e (i + j)
  | 0, _ => rfl
  | k + 1, i => by
    unfold allFrom
    rw [allFrom_range e k (i + 1), List.range_succ_eq_map, List.all_cons, List.all_map]
    congr 1
    refine congrArg (fun f => (List.range k).all f) (funext fun j => ?_)
    show e (i + 1 + j) = e (i + (j + 1))
    rw [show i + 1 + j = i + (j + 1) by omega]
theorem neB_from {l b : Addr} {its its2 : Array Value} {n n2 : Nat} {dd dd2 : Option Addr} {sl sl2 : Array (Option Value)} {e : Nat → Bool} (hz : its.size = its2.size) {A : Around} {R : Result → Shared → Prop} {s : Shared}
    (g1 : s.heap.get? l = some { cls := .type "list", dict := dd, data := .seq its n, slots := sl }) (g2 : s.heap.get? b = some { cls := .type "list", dict := dd2, data := .seq its2 n2, slots := sl2 })
    (each : ∀ j (h1 : j < its.size) (h2 : j < its2.size), EqP prog w A.in1 s its[j] its2[j] (e j)) :
    ∀ (k i : Nat), its.size - i = k → R (.ok (.ret (.bool (!allFrom e k i)))) s → wpAny (model prog w) A.in1 (Builtin.«list.__eq__.loop» ⟨[.ref l, .ref b, rawInt i, rawInt 3], []⟩) (GQ.FinOf prog w A R) (fun e s' => R (.error e) s') s
  | 0, i, hk, out => by
    obtain ⟨hp, g, d, tk, os⟩ := s
    have o1 : its[((i : Nat) : Int).toNat]? = none := Array.getElem?_eq_none (by omega)
    have o2 : its2[((i : Nat) : Int).toNat]? = none := Array.getElem?_eq_none (by omega)
    wp_walk using wpAny_loadPart' g1, wpAny_loadPart' g2
    rw [o1, o2]
    wp_walk using wpAny_loadPart' g1, wpAny_loadPart' g2
    show R (.ok (.ret (.bool (its.size != its2.size)))) _
    rw [hz, bne_self_eq_false]
    exact out
  | k + 1, i, hk, out => by
    have h1 : i < its.size := by omega
    have h2 : i < its2.size := by omega
    have eq := each i h1 h2
    have step := neB_from (R := R) hz g1 g2 each k (i + 1) (by omega)
    unfold allFrom at out
    obtain ⟨hp, g, d, tk, os⟩ := s
    have o1 : its[((i : Nat) : Int).toNat]? = some its[i] := by rw [Int.toNat_natCast]; exact Array.getElem?_eq_getElem h1
    have o2 : its2[((i : Nat) : Int).toNat]? = some its2[i] := by rw [Int.toNat_natCast]; exact Array.getElem?_eq_getElem h2
    wp_walk using wpAny_loadPart' g1, wpAny_loadPart' g2
    rw [o1, o2]
    refine wpAny_bind (eq _ _ ?_)
    cases he : e i with
    | true =>
      rw [he, Bool.true_and] at out
      have step := step out
      wp_walk
      rw [show ((i : Int) + 1) = ((i + 1 : Nat) : Int) from rfl]
      refine ⟨plainId_quiet plain_eq_loop _, codeAny_builtin entry_eq_loop ?_⟩
      rw [Around.under_plainId plain_eq_loop _]
      exact step
    | false =>
      rw [he, Bool.false_and] at out
      wp_walk using wpAny_loadPart' g1, wpAny_loadPart' g2
      rw [o1, o2]
      wp_walk using wpAny_loadPart' g1, wpAny_loadPart' g2
      exact out
theorem rc_neLB {A : Around} {s : Shared} {l b : Addr} {its its2 : Array Value} {e : Nat → Bool} (hl : s.heap.IsList l its) (hb : s.heap.IsList b its2) (hz : its.size = its2.size) (hu : A.units < cLine)
    (each : ∀ j (h1 : j < its.size) (h2 : j < its2.size), EqP prog w A.in1 s its[j] its2[j] (e j)) (E Q : Value → Shared → Prop) (h : Q (.bool (!(List.range its.size).all e)) s) : wpAny (model prog w) A (richCompare .NotEq (.ref l) (.ref b)) Q E s := by
  rcases id hl with ⟨⟨c1, d1, t1, z1⟩, y1, y2, n1, y3⟩
  rcases id hb with ⟨⟨c2, d2, t2, z2⟩, x1, x2, n2, x3⟩
  cases (show c1 = _ from y2)
  cases (show t1 = _ from y3)
  cases (show c2 = _ from x2)
  cases (show t2 = _ from x3)
  refine wpAny_richCompare_same_room (op := .NotEq) ⟨_, y1, rfl⟩ ⟨_, x1, rfl⟩ F.slot_list_ne (GQ.call_here F.slot_list_ne ⟨_, y1, rfl⟩ F.entry_list_ne (F.args_list_ne_2 _ _) ?_) hu
  have run := neB_from (R := wants (fun v s' => v ≠ .notImplemented ∧ Q v s') E) hz y1 x1 each its.size 0 rfl (by
    rw [allFrom_range]
    refine ⟨(fun x => nomatch x), ?_⟩
    rw [show (fun j => e (0 + j)) = e from funext fun j => by rw [Nat.zero_add]]
    exact h)
  have f3 := AutoSeq1.sub_list_list
  have f4 : ¬ (its.size != its2.size) = true := by rw [hz, bne_self_eq_false]; exact Bool.false_ne_true
  obtain ⟨hp, g, d, tk, os⟩ := s
  wp_walk using wpAny_loadPart' y1, wpAny_loadPart' x1
  refine ⟨plainId_quiet plain_eq_loop _, codeAny_builtin entry_eq_loop ?_⟩
  rw [Around.under_plainId plain_eq_loop _]
  exact run
end
end DQ
namespace PySem.W
open PySem PyProof.Rows
section
variable {prog : Program} {w : World} {A : Around} {s : Shared} {K : Type} [DecidableEq K] {knd : KeyKind prog w K}
theorem ne_dictsB {a b : Addr} {ka kb : List (K × Value)} {r : Bool} (ha : (a == sysModules) = false) (hb : (b == sysModules) = false)
    (da : s.heap.DictOf knd a ka) (db : s.heap.DictOf knd b kb) (hu : A.units < cLine) (hits : ka.length = kb.length → KeqHitsP prog w A.in1 s kb ka r) (E Q : Value → Shared → Prop) (h : Q (.bool (!(ka.length == kb.length && r))) s) : wpAny (model prog w) A (richCompare .NotEq (.ref a) (.ref b)) Q E s := by
  refine wpAny_richCompare_same_room (op := .NotEq) da.typeIs db.typeIs PySem.F.slot_dict_ne (wpAny_call_entry PySem.F.slot_dict_ne da.typeIs PySem.F.entry_dict_ne ?_ (PySem.F.args_dict_ne_2 _ _)) hu
  refine wpAny_bind (m := Builtin.Dict.dictSlotArgs "__ne__" ⟨[.ref a, .ref b], []⟩) ?_
  unfold Builtin.Dict.dictSlotArgs
  refine wpAny_bind (wpAny_notOrdered_dict da.typeIs (wpAny_pure ?_))
  refine wpAny_bind (wpAny_isInstance (T := "dict") db.typeIs PySem.F.sub_dict_dict ?_)
  rw [if_neg (by decide)]
  refine wpAny_bind (wpAny_pure (wpAny_bind (wpAny_pure ?_)))
  refine wpAny_bind (samePairsP ha hb da db hits ?_)
  refine wpAny_pure ⟨_, rfl, (fun x => nomatch x), ?_⟩
  cases hr : (ka.length == kb.length && r) with
  | true => rw [hr] at h; exact h
  | false => rw [hr] at h; exact h
end
end PySem.W
namespace DQ
open PySem PySem.Spec PyProof.Rows L2
section
variable {X : Cx} {pins : List (Addr × Obj)} {σ : L2.St} {H : Hp} {s : Shared}
theorem neO_run (I : Inv X pins σ H s) {A : Around} {F : V → V → Bool → Prop} (hu : A.units < cLine) (ih : ∀ x y b v u, F x y b → RelV x v → RelV y u → SeqAt.EqP X.prog X.w A.in1 s v u b) {x y : V} {b : Bool} {v u : Value} (h : EqO X.K H F x y b) (rx : RelV x v) (ry : RelV y u)
    (E Q : Value → Shared → Prop) (q : Q (.bool (!b)) s) : wpAny (model X.prog X.w) A (richCompare .NotEq v u) Q E s := by
  obtain ⟨a, c, rfl, rfl, _, h⟩ := h
  cases (show v = Value.ref a from rx)
  cases (show u = Value.ref c from ry)
  rcases h with ⟨xs, ys, ha, hb, hl, e, he, rfl⟩ | ⟨xs, ys, ha, hb, hl, rfl⟩ | ⟨ks, ls, r, ha, hb, hh, rfl⟩
  · obtain ⟨us, r1, p1, _⟩ := I.list ha
    obtain ⟨ws, r2, p2, _⟩ := I.list hb
    have hz : us.toArray.size = ws.toArray.size := by
      rw [List.size_toArray, List.size_toArray, ← r1.length, ← r2.length]
      exact hl
    refine rc_neLB (e := e) p1.isList p2.isList hz hu (fun j h1 h2 => ?_) E Q ?_
    · rw [List.size_toArray] at h1 h2
      obtain ⟨x1, e1, v1⟩ := vals_at r1 j h1
      obtain ⟨x2, e2, v2⟩ := vals_at r2 j h2
      have k := ih _ _ _ _ _ (he j x1 x2 e1 e2) v1 v2
      simpa using k
    · rw [List.size_toArray, ← r1.length]
      exact q
  · obtain ⟨us, r1, p1, _⟩ := I.list ha
    obtain ⟨ws, r2, p2, _⟩ := I.list hb
    refine SeqAt.RcNeAt.lists_lengths p1.isList p2.isList ?_ hu _ _ E Q q
    rw [List.size_toArray, List.size_toArray, ← r1.length, ← r2.length]
    exact bne_iff_ne.mpr hl
  · obtain ⟨_, ya, va, ra, da⟩ := (show ObjOk X.prog X.w H s.heap a (.dK ks) from I.hok a _ ha)
    obtain ⟨_, yb, vb, rb, db⟩ := (show ObjOk X.prog X.w H s.heap c (.dK ls) from I.hok c _ hb)
    have l1 : va.length = ks.length := ra.length.symm
    have l2 : vb.length = ls.length := rb.length.symm
    refine PySem.W.ne_dictsB (knd := mixKind X.prog X.w) (r := r) ya yb da db hu (fun z => hits_of ih rb (hh (by rw [← l1, ← l2]; exact z)) ra) E Q ?_
    rw [l1, l2]
    exact q
def rNeX (K : PySem.W.Frag) : R2 := fun x y H Q => ∃ (n : Nat) (b : Bool), n ≤ 60 ∧ EqO K H (EqB K H n) x y b ∧ Q (.bl (!b)) H
theorem op_neX (hu : X.A.units + 64 < cLine) : OpR X (compareOp .NotEq) (rNeX X.K) := by
  intro pins s σ H x y v u Q I rx ry h
  obtain ⟨n, b, hn, h, q⟩ := h
  exact neO_run I (A := X.A) (by omega) (eqB_run I n X.A.in1 (by show X.A.units + 1 + n < cLine; omega)) h rx ry _ _ ⟨.bl (!b), H, I, rfl, q⟩
end
end DQ
/-! ### rows: dicts by texts; repr of a list of rows; len of an own object -/
namespace DQ
open PySem PySem.Spec PyProof.Rows L2
def rowK (r : List (Str × V)) : List (Key × V) := r.map fun p => (Sum.inr p.1, p.2)
def flatD : V → PyData
  | .bl b => .bool b
  | .int i => .int i
  | .str x => .str x
  | _ => .none
def rowD (r : List (Str × V)) : PyData := .dict (r.map fun p => (.str p.1, flatD p.2))
theorem reads_flat {h : Heap} {v : V} {u : Value} (r : RelV v u) (f : flatV v = true) : Reads h u (flatD v) [] := by
  cases v with
  | non => cases (show u = Value.none from r); exact .none
  | bl b => cases (show u = Value.bool b from r); exact .bool b
  | int i => obtain ⟨t, rfl⟩ := (show ∃ t, u = Value.int i t from r); exact .int i t
  | str x => obtain ⟨t, rfl⟩ := (show ∃ t, u = Value.str x t from r); exact .str x t
  | byt b => cases f
  | flt b => cases f
  | ref a => cases f
  | ty n => cases f
theorem reads_row {P : Program} {w : World} {h : Heap} : ∀ {r : List (Str × V)} {vs : List (Key × Value)} {es : List DictEntry}, (∀ p ∈ r, flatV p.2 = true) → KV (rowK r) vs → Pairs (mixKind P w) es vs →
    ReadsAll h (es.map (·.key)) ((r.map fun p => (PyData.str p.1, flatD p.2)).map (·.1)) [] ∧ ReadsAll h (es.map (·.val)) ((r.map fun p => (PyData.str p.1, flatD p.2)).map (·.2)) []
  | [], _, _, _, rel, ps => by
    cases rel
    cases ps
    exact ⟨.nil, .nil⟩
  | p :: r, _, _, hf, rel, ps => by
    cases rel with
    | cons h1 t1 =>
      cases ps with
      | cons k1 v1 t2 =>
        obtain ⟨a1, a2⟩ := reads_row (h := h) (fun q hq => hf q (List.mem_cons_of_mem _ hq)) t1 t2
        obtain ⟨e1, r1⟩ := h1
        rw [← e1, mixKind_is] at k1
        rcases keyIs_shape k1 with ⟨i, t, z, _⟩ | ⟨x, t, z, ek⟩
        · cases z
        · cases z
          refine ⟨ReadsAll.cons (as := []) (bs := []) (by dsimp only; rw [ek]; exact .str _ _) a1, ReadsAll.cons (as := []) (bs := []) ?_ a2⟩
          dsimp only
          rw [v1]
          exact reads_flat r1 (hf p List.mem_cons_self)
section
variable {X : Cx} {pins : List (Addr × Obj)} {σ : L2.St} {H : Hp} {s : Shared}
theorem reads_dict (I : Inv X pins σ H s) {a : Addr} {r : List (Str × V)} (h : H a = some (.dK (rowK r))) (hf : ∀ p ∈ r, flatV p.2 = true) : Reads s.heap (.ref a) (rowD r) [a] ∧ a ≠ sysModules := by
  obtain ⟨_, ys, vs, rel, o, es, ep, g1, g2, g3, _, g4, _⟩ := dk_of I.hok h
  obtain ⟨a1, a2⟩ := reads_row (h := s.heap) hf rel g4
  exact ⟨.dict (as := []) (bs := []) g1 g2.1 g3 a1 a2, beq_eq_false_iff_ne.mp ys⟩
theorem reads_rows (I : Inv X pins σ H s) : ∀ {as : List Addr} {rs : List (List (Str × V))}, as.length = rs.length → (∀ (j : Nat) (a : Addr) (r : List (Str × V)), as[j]? = some a → rs[j]? = some r → H a = some (.dK (rowK r)) ∧ ∀ p ∈ r, flatV p.2 = true) →
    ∃ bs, ReadsAll s.heap (as.map Value.ref) (rs.map rowD) bs ∧ sysModules ∉ bs
  | [], [], _, _ => ⟨[], .nil, fun h => nomatch h⟩
  | [], _ :: _, h, _ => by cases h
  | _ :: _, [], h, _ => by cases h
  | a :: as, r :: rs, hl, hh => by
    obtain ⟨bs, h1, h2⟩ := reads_rows I (as := as) (rs := rs) (Nat.succ.inj hl) fun j x y e1 e2 => hh (j + 1) x y e1 e2
    obtain ⟨g1, g2⟩ := hh 0 a r rfl rfl
    obtain ⟨k1, k2⟩ := reads_dict I g1 g2
    refine ⟨[a] ++ bs, .cons k1 h1, fun z => ?_⟩
    rcases List.mem_append.mp z with y | y
    · exact k2 (List.mem_singleton.mp y).symm
    · exact h2 y
end
section
variable {X : Cx} {CX : CXT} {k : Nat} {g C : Addr} {fd : FuncData} {ps : List Str} {sp : Sp} {E : XK}
def rReprRows (K : PySem.W.Frag) : List V → Hp → VK → Prop := fun xs H Q => ∃ (a : Addr) (as : List Addr) (rs : List (List (Str × V))), xs = [.ref a] ∧ SqL K H a (as.map V.ref) ∧ as.length = rs.length ∧
  (∀ (j : Nat) (b : Addr) (r : List (Str × V)), as[j]? = some b → rs[j]? = some r → H b = some (.dK (rowK r)) ∧ ∀ p ∈ r, flatV p.2 = true) ∧ PyData.showableAll (rs.map rowD) = true ∧ PyData.depthAll (rs.map rowD) ≤ 1 ∧ (PyData.list (rs.map rowD)).shown.length ≤ sizeLine ∧ Q (.str (PyData.list (rs.map rowD)).shown) H
theorem call_reprRows (hG : X.A.guards = some []) (hu : X.A.units + 64 < cLine) : CallR X (.builtin "repr") (rReprRows X.K) := by
  intro pins s σ H xs us Q I r h
  obtain ⟨a, as, rs, rfl, hs, hl, hr, hsh, hdp, hz, q⟩ := h
  obtain ⟨u, rfl, ru⟩ := vals1 r
  cases (show u = Value.ref a from ru)
  obtain ⟨its, rv, pl, _⟩ := I.list hs
  have ei := TC.vals_refs rv
  subst ei
  obtain ⟨o, n, ho, hc, hd, hdat⟩ := pl
  obtain ⟨bs0, ra, ns⟩ := reads_rows I hl hr
  have hz' : (listText (PyData.shownAll (rs.map rowD))).length ≤ sizeLine := hz
  obtain ⟨bs, hb, hk⟩ := ReprAllK.of_readsAll (prog := X.prog) (w := X.w) ra hsh (fun _ => ns) fun t ht => Nat.le_trans (listText_mem_le ht) hz'
  have rl : Reads s.heap (.ref a) (.list (rs.map rowD)) (a :: bs0) := .list ho hc hdat ra
  have hna : a ∉ bs := not_mem_of_deeper rl (Nat.lt_succ_self _) hb
  refine call_repr_slot (idr := "list.__repr__") (T := "list") (by omega) ⟨o, ho, hc⟩ F.slot_list_repr.toG ?_
  have out : ∀ (h' : Heap) (u tk : Nat), (∀ b x, s.heap.get? b = some x → h'.get? b = some x) → ∃ x t, Value.str (listText (PyData.shownAll (rs.map rowD))) u = .str x t ∧ EP X pins σ Q (.str (listText (PyData.shownAll (rs.map rowD))) u) { s with heap := h', toks := tk } := fun h' u tk hk' => ⟨_, _, rfl, .str _, H, I.kept hk', ⟨u, rfl⟩, q⟩
  cases has : as with
  | nil =>
    subst has
    cases rs with
    | cons r rs => cases hl
    | nil =>
      have out := out s.heap
      exact call_list_repr_empty ⟨o, ho, hc⟩ ho hdat (out _ _ fun _ _ e => e)
  | cons b as' =>
    subst has
    exact call_list_reprK (d := PyData.depthAll (rs.map rowD)) (x := .ref b) (l := as'.map Value.ref) ho hc hdat hna (by simpa using hk.length_eq) (fun i y e => hk.item i y (by simpa using e)) hG (fun b _ => Clear.nil b) (by show X.A.units + 1 + _ < cLine; omega) (fun _ _ e => e) out hz'
/-- len(o): the class's own __len__ -/
def rLenO (C : Addr) (sp : Sp) (E : XK) : List V → Hp → VK → Prop := fun xs H Q => ∃ (a dx : Addr) (fs : List (Str × V)), xs = [.ref a] ∧ H a = some (.ins C dx fs) ∧ sp [.ref a] H (fun v H' => ∃ n : Nat, v = .int n ∧ n ≤ 1000000 ∧ Q (.int n) H') E
theorem call_lenO (hs : PySem.W.findIn X.K (.ref C) "__len__" = some (some (.ref g))) (hf : PySem.W.isFn X.K (.ref g) = true) (F : FnOk X.prog X.w X.K X.mg X.base CX k g fd ps sp) (hr : Room (k + 1) X.A) (hb : Binds X.K fd ps []) (hx : Passes CX X E) : CallR X (.builtin "len") (rLenO C sp E) := by
  intro pins s σ H xs us Q I r h
  obtain ⟨a, dx, fs, rfl, ha, q⟩ := h
  obtain ⟨u, rfl, ru⟩ := vals1 r
  cases (show u = Value.ref a from ru)
  obtain ⟨mp, yp, _⟩ := ins_get I.hok ha
  obtain ⟨op, yp, _⟩ := yp.look
  obtain ⟨m, fr⟩ := I.fr
  refine PySem.W.len_K fr I.ok.mod.kin yp hs hf ?_
  have one : Vals [V.ref a] [Value.ref a] := .cons rfl .nil
  have args := hb s [.ref a] I.kIn (by rw [List.append_nil, ← one.length]; exact F.len _ _ _ _ q)
  rw [List.append_nil] at args
  refine wpAny_call (codeAny_mono (F.run X.A.in1 X.stack s H ⟨[.ref a], []⟩ [.ref a] _ _ E hr.in1 I.env0.in1 args one q) fun o s' y => ?_)
  match o, y with
  | .error er, y => exact hx pins σ H s er s' I y
  | .ok (.ret z), y =>
    obtain ⟨v, H', J, rv, n, rfl, hn, q'⟩ := I.after y
    obtain ⟨t, rfl⟩ := (show ∃ t, z = Value.int (n : Int) t from rv)
    refine ⟨⟨by omega, by omega⟩, .int n, H', ?_, ⟨_, rfl⟩, q'⟩
    exact J.kept (t' := s'.toks + 1) fun _ _ e => e
  | .ok .next, y => exact False.elim y
  | .ok .brk, y => exact False.elim y
  | .ok .cont, y => exact False.elim y
end
end DQ
/-! ### sorted(xs), xs a list of tuples of ints of one length: lexicographic, any number of them -/
namespace SrT
open PySem PySem.Spec PyProof.Rows L2
def lexL : List Int → List Int → Bool
  | [], [] => false
  | [], _ :: _ => true
  | _ :: _, [] => false
  | x :: xs, y :: ys => if x = y then lexL xs ys else decide (x < y)
theorem lexL_asym : ∀ xs ys : List Int, lexL xs ys = true → lexL ys xs = false
  | [], [], h => rfl
  | [], _ :: _, _ => rfl
  | _ :: _, [], h => by cases h
  | x :: xs, y :: ys, h => by
    unfold lexL at h ⊢
    by_cases e : x = y
    · rw [if_pos e] at h
      rw [if_pos e.symm]
      exact lexL_asym xs ys h
    · rw [if_neg e] at h
      rw [if_neg fun z => e z.symm]
      have := of_decide_eq_true h
      exact decide_eq_false (by omega)
theorem lexL_tr : ∀ xs ys zs : List Int, lexL ys xs = false → lexL zs ys = false → lexL zs xs = false
  | [], ys, zs, h1, h2 => by cases zs <;> rfl
  | x :: xs, [], zs, h1, h2 => by cases h1
  | x :: xs, y :: ys, [], h1, h2 => by cases h2
  | x :: xs, y :: ys, z :: zs, h1, h2 => by
    unfold lexL at h1 h2 ⊢
    by_cases e1 : y = x
    · rw [if_pos e1] at h1
      by_cases e2 : z = y
      · rw [if_pos e2] at h2
        rw [if_pos (e2.trans e1)]
        exact lexL_tr xs ys zs h1 h2
      · rw [if_neg e2] at h2
        have := of_decide_eq_false h2
        rw [if_neg (by omega)]
        exact decide_eq_false (by omega)
    · rw [if_neg e1] at h1
      have a := of_decide_eq_false h1
      by_cases e2 : z = y
      · rw [if_neg (by omega)]
        exact decide_eq_false (by omega)
      · rw [if_neg e2] at h2
        have := of_decide_eq_false h2
        rw [if_neg (by omega)]
        exact decide_eq_false (by omega)
theorem swoL {α : Type} (k : α → List Int) : SrtO.Swo fun v u => lexL (k v) (k u) := ⟨fun x y h => lexL_asym _ _ h, fun x y z h1 h2 => lexL_tr _ _ _ h1 h2⟩
/-- equal in the order: equal -/
theorem lexL_eq : ∀ {xs ys : List Int}, lexL xs ys = false → lexL ys xs = false → xs = ys
  | [], [], _, _ => rfl
  | [], _ :: _, h, _ => by cases h
  | _ :: _, [], _, h => by cases h
  | x :: xs, y :: ys, h1, h2 => by
    unfold lexL at h1 h2
    by_cases e : x = y
    · rw [if_pos e] at h1
      rw [if_pos e.symm] at h2
      rw [e, lexL_eq h1 h2]
    · rw [if_neg e] at h1
      rw [if_neg fun z => e z.symm] at h2
      have := of_decide_eq_false h1
      have := of_decide_eq_false h2
      omega
section
variable {prog : Program} {w : World} {A : Around} {s : Shared}
theorem lex_go {Q : Bool → Shared → Prop} {b : Bool} {xs : List Value} {ns : List Int} (hx : IntsAre xs ns) : ∀ (i : Nat) {ys : List Value} {ms : List Int}, IntsAre ys ms → ns.length = ms.length → Q (lexL ns ms) s → PySem.W.KatLex prog w A b false Q (xs.zip ys) i s := by
  induction hx with
  | nil =>
    intro i ys ms hy hl h
    cases hy with
    | nil => exact PySem.W.kat_nil h
    | cons q u hy => cases hl
  | @cons p t xs ns hx ih =>
    intro i ys ms hy hl h
    cases hy with
    | nil => cases hl
    | @cons q u ys ms hy =>
      have hl := Nat.succ.inj hl
      refine PySem.W.kat_cons (wpAny_eqBool_int ?_)
      unfold lexL at h
      by_cases e : p = q
      · rw [if_pos e] at h
        rw [beq_iff_eq.mpr e]
        exact PySem.W.kat_yes (ih (i + 1) hy hl h)
      · rw [if_neg e] at h
        rw [beq_eq_false_iff_ne.mpr e]
        exact PySem.W.kat_no (TS.oneLt_ints _ h)
theorem first_of {h : Heap} {k : Value → List Int} : ∀ {vs : List Value}, (∀ v ∈ vs, TS.TupInts h v (k v) ∧ 1 ≤ (k v).length) → ∃ fs, PySem.W.KatTups h vs fs ∧ fs.length = vs.length ∧ ∀ f ∈ fs, ∃ n t, f = Value.int n t
  | [], _ => ⟨[], .nil, rfl, fun _ z => (nomatch z)⟩
  | v :: vs, x => by
    obtain ⟨fs, h1, h2, h3⟩ := first_of fun u hu => x u (List.mem_cons_of_mem _ hu)
    obtain ⟨⟨a, its, e, ⟨o, ho, hc, n, hd⟩, i⟩, l⟩ := x v List.mem_cons_self
    generalize k v = ns at i l
    cases hl : its.toList with
    | nil =>
      rw [hl] at i
      cases i
      cases l
    | cons y r =>
      rw [hl] at i
      cases i with
      | cons m t i =>
        refine ⟨.int m t :: fs, ?_, by rw [List.length_cons, List.length_cons, h2], fun f hf => ?_⟩
        · rw [e]
          refine .cons ho hc hd ?_ h1
          rw [← Array.getElem?_toList, hl]
          rfl
        · rcases List.mem_cons.mp hf with z | z
          · exact ⟨m, t, z⟩
          · exact h3 f z
theorem cmp_tup {vs : List Value} {k : Value → List Int} {d : Nat} (hp : ∀ v ∈ vs, TS.TupInts s.heap v (k v) ∧ (k v).length = d) : SrtO.Cmp prog w A s (tuples' true) (fun p => p.1 ∈ vs) (SrtO.lt2 fun v u => lexL (k v) (k u)) := by
  intro p q h1 h2
  obtain ⟨⟨a, xs, e, ⟨o, ho, hc, n, hd⟩, i⟩, l⟩ := hp _ h1
  obtain ⟨⟨a', ys, e', ⟨o', ho', hc', n', hd'⟩, i'⟩, l'⟩ := hp _ h2
  show wpAny (model prog w) A (keyLt' (tuples' true) p.1 q.1) (fun r s' => s' = s ∧ r = lexL (k p.1) (k q.1)) _ s
  generalize k p.1 = ns at i l ⊢
  generalize k q.1 = ms at i' l' ⊢
  rw [e, e']
  refine PySem.W.kat_lt ho hd ho' hd' ?_
  have z1 := i.length
  have z2 := i'.length
  rw [Array.length_toList] at z1 z2
  rw [decide_eq_false (show ¬ xs.size < ys.size by omega)]
  exact lex_go i 0 i' (by omega) ⟨rfl, rfl⟩
theorem sortable_tup {a : Addr} {vs : List Value} {k : Value → List Int} {d : Nat} (hd : 1 ≤ d) (h0 : 0 < vs.length) (hp : ∀ v ∈ vs, TS.TupInts s.heap v (k v) ∧ (k v).length = d) (ha : ∀ o, s.heap.get? a = some o → o.cls ≠ .type "tuple") : SrtO.SortableO prog w A s a vs fun v u => lexL (k v) (k u) := by
  intro h' kp
  have hp' : ∀ v ∈ vs, TS.TupInts h' v (k v) ∧ (k v).length = d := fun v hm => ⟨(hp v hm).1.keeps fun b o e c => kp b o (fun z => by rw [z] at e; exact ha o e c) e, (hp v hm).2⟩
  obtain ⟨fs, h1, h2, h3⟩ := first_of fun v hm => ⟨(hp' v hm).1, by rw [(hp' v hm).2]; exact hd⟩
  refine ⟨tuples' true, fun Q E hq => ?_, cmp_tup (s := { s with heap := h' }) hp'⟩
  refine PySem.W.kat_kind (T := .type "int") h1 (by omega) (fun f hm => ?_) (by rfl) ?_
  · obtain ⟨x, t, e⟩ := h3 f hm
    rw [e]
    exact PySem.W.Looks.now
  · rw [show (Value.type "int" != Value.type "tuple") = true by decide +kernel]
    exact hq
end
end SrT
namespace L2
open PySem PySem.Spec PyProof.Rows
abbrev ltT (k : V → List Int) (x y : V) : Bool := SrT.lexL (k x) (k y)
def rSortTT (K : PySem.W.Frag) : List V → Hp → VK → Prop := fun vs H Q => ∃ (a : Addr) (xs : List V) (k : V → List Int) (d : Nat), vs = [V.ref a] ∧ SqL K H a xs ∧ 1 ≤ d ∧ (∀ x ∈ xs, (k x).length = d ∧ ∃ t, x = V.ref t ∧ H t = some (.tup ((k x).map V.int))) ∧
  ∀ ys p, SrtO.Srtd (ltT k) ys → SrtO.Stb (ltT k) ys xs → H p = none → Q (.ref p) (upd H p (.lst ys))
theorem ints_are : ∀ {ns : List Int} {us : List Value}, Vals (ns.map V.int) us → IntsAre us ns
  | [], _, r => by cases r; exact .nil
  | n :: ns, _, r => by
    cases r with
    | cons h t =>
      obtain ⟨tk, e⟩ := h
      rw [e]
      exact .cons n tk (ints_are t)
section
variable {X : Cx}
theorem cr_sortTT : CallR X (.builtin "sorted") (rSortTT X.K) := by
  intro pins s σ H vs us Q I r h
  obtain ⟨a, xs, k, d, rfl, hs, hd1, hx, q⟩ := h
  obtain ⟨its, rv, hl, hz⟩ := I.list hs
  obtain ⟨u, rfl, ru⟩ := vals1 r
  obtain rfl : u = Value.ref a := ru
  obtain ⟨e1, e2⟩ := refs_back rv fun x m => by
    obtain ⟨_, t, e, _⟩ := hx x m
    exact ⟨t, e⟩
  have hp : ∀ v ∈ its, TS.TupInts s.heap v (k (backV v)) ∧ (k (backV v)).length = d := fun v hv => by
    obtain ⟨t, rfl⟩ := e2 v hv
    have hm : V.ref t ∈ xs := by rw [e1]; exact List.mem_map.mpr ⟨_, hv, rfl⟩
    obtain ⟨hk, t', e, ht⟩ := hx _ hm
    cases e
    obtain ⟨_, its2, r2, o, ho, hc, n, hd⟩ := I.hok _ _ ht
    exact ⟨⟨t, _, rfl, ⟨o, ho, hc, n, hd⟩, by show IntsAre _ (k (.ref t)); simpa using ints_are r2⟩, hk⟩
  refine SrtO.sorted_ord (SrT.swoL fun u => k (backV u)) hl.isList (by rw [← rv.length]; exact hz) (fun h2 h₁ b hb kk => ?_) fun out hs' hb => ?_
  · refine SrT.sortable_tup (s := { s with heap := h₁ }) (k := fun u => k (backV u)) hd1 (by omega) (fun v hv => ⟨(hp v hv).1.keeps fun b o e _ => (kk b o e).2, (hp v hv).2⟩) fun o e => ?_
    have e' := e.symm.trans hb
    cases e'
    exact fun c => absurd (Value.type.inj c) (by decide)
  · have h3 : ∀ u ∈ out, ∃ a, u = Value.ref a := fun u hu => e2 u (hb.perm.mem_iff.mp hu)
    obtain ⟨n, hn⟩ := sortedAll_at s.heap its out.toArray
    have hb' : SrtO.Stb (ltT k) (out.map backV) xs := by
      rw [e1]
      exact SrtO.Stb.map (SrT.swoL k) backV hb
    refine ⟨.ref (s.heap.objs.size + 1), upd H (s.heap.objs.size + 1) (.lst (out.map backV)), I.laid (t' := s.toks) (fun b o e => sortedAll_old e) (Nat.le_succ _) ⟨?_, out, n, vals_back h3, hn⟩, rfl, q _ _ (SrtO.srtd_map hs') hb' (I.hok.fresh (Nat.le_succ _))⟩
    rw [hb'.len]
    exact hz
end
end L2
namespace Wr
open PySem PySem.Spec PyProof.Rows L2
open DQ (rowK rowD flatD Hits)
/-! ### readings, one lemma a construct: what is left to be shown behind it -/
section
variable {σ : L2.St} {H : Hp} {Q : VK} {QB : Bool → Hp → Prop} {QA : List V → Hp → Prop} {D : Ends} {t u : TS} {te ta tb : TE} {tt tu : TT} {i j : Int} {v : V} {K : PySem.W.Frag}
theorem r_seq (h : t { D with nx := u D } σ H) : tSeq t u D σ H := h
theorem r_next (h : D.nx σ H) : tNext D σ H := h
theorem r_asg {g : TG} (h : te σ H fun x H1 => g x σ H1 D.nx) : tAsg te g D σ H := h
theorem r_drop (h : te σ H fun _ H1 => D.nx σ H1) : tDrop te D σ H := h
theorem r_ret (h : te σ H D.rt) : tRet te D σ H := h
theorem r_ifs (h : tt σ H fun b H1 => if b = true then t D σ H1 else u D σ H1) : tIfS tt t u D σ H := h
theorem r_gname {n : Nat} {QS : L2.St → Hp → Prop} (h : QS (σ.set n (some v)) H) : gName n v σ H QS := h
theorem r_gsub {to ti : TE} {s : TSet} {QS : L2.St → Hp → Prop} (h : to σ H fun o H1 => ti σ H1 fun i H2 => s o i v H2 fun H3 => QS σ H3) : gSub to ti s v σ H QS := h
theorem r_gtup {n : Nat} {tg : TGs} {a : Addr} {xs : List V} {QS : L2.St → Hp → Prop} (h1 : SqT K H a xs) (h2 : xs.length = n) (h : tg xs σ H QS) : gTup K n tg (.ref a) σ H QS := ⟨a, xs, rfl, h1, h2, h⟩
theorem r_gcons {g : TG} {tg : TGs} {xs : List V} {QS : L2.St → Hp → Prop} (h : g v σ H fun s' H' => tg xs s' H' QS) : gCons g tg (v :: xs) σ H QS := ⟨v, xs, rfl, h⟩
theorem r_gnil {QS : L2.St → Hp → Prop} (h : QS σ H) : gNil [] σ H QS := ⟨rfl, h⟩
theorem r_var {n : Nat} (e : σ[n]? = some (some v)) (h : Q v H) : tVar n σ H Q := ⟨v, e, h⟩
theorem r_c (h : Q v H) : tC v σ H Q := h
theorem r_op {r : R2} (h : ta σ H fun x H1 => tb σ H1 fun y H2 => r x y H2 Q) : tOp r ta tb σ H Q := h
theorem r_un {r : V → Hp → VK → Prop} (h : ta σ H fun x H1 => r x H1 Q) : tUn r ta σ H Q := h
theorem r_I {C : Int → Int → Prop} {g : Int → Int → V} (c : C i j) (h : Q (g i j) H) : rI C g (.int i) (.int j) H Q := ⟨i, j, rfl, rfl, c, h⟩
theorem r_I0 {g : Int → Int → V} (h : Q (g i j) H) : rI0 g (.int i) (.int j) H Q := ⟨i, j, rfl, rfl, h⟩
theorem r_U {g : Int → V} (h : Q (g i) H) : rU g (.int i) H Q := ⟨i, rfl, h⟩
theorem r_test (h : te σ H fun x H1 => ∃ k, x = .bl k ∧ QB k H1) : tTest te σ H QB := h
theorem r_tB (h : te σ H fun x H1 => ∃ k, x = .bl k ∧ QB k H1) : tB te σ H QB := h
theorem r_bl {b : Bool} {F : Bool → Prop} (h : F b) : ∃ k, V.bl b = .bl k ∧ F k := ⟨b, rfl, h⟩
theorem r_and (h : tt σ H fun c H1 => if c = true then tu σ H1 QB else QB false H1) : tAnd tt tu σ H QB := h
theorem r_or (h : tt σ H fun c H1 => if c = true then QB true H1 else tu σ H1 QB) : tOr tt tu σ H QB := h
theorem r_not (h : tt σ H fun c H1 => QB (!c) H1) : tNot tt σ H QB := h
theorem r_andV (h : ta σ H fun x H1 => ∃ c, x = .bl c ∧ if c = true then tb σ H1 Q else Q (.bl false) H1) : tAndV ta tb σ H Q := h
theorem r_orV (h : ta σ H fun x H1 => ∃ c, x = .bl c ∧ if c = true then Q (.bl true) H1 else tb σ H1 Q) : tOrV ta tb σ H Q := h
theorem r_notV (h : ta σ H fun x H1 => ∃ c, x = .bl c ∧ Q (.bl (!c)) H1) : tNotV ta σ H Q := h
theorem r_ife (h : tt σ H fun c H1 => if c = true then ta σ H1 Q else tb σ H1 Q) : tIf tt ta tb σ H Q := h
theorem eq_dint : decide (V.int i = V.int j) = decide (i = j) := by
  by_cases e : i = j
  · rw [e, decide_eq_true rfl, decide_eq_true rfl]
  · rw [decide_eq_false e, decide_eq_false fun z => e (V.int.inj z)]
theorem eq_dbl {a b : Bool} : decide (V.bl a = V.bl b) = (a == b) := by cases a <;> cases b <;> rfl
theorem eq_dstr {a b : Str} : decide (V.str a = V.str b) = decide (a = b) := by
  by_cases e : a = b
  · rw [e, decide_eq_true rfl, decide_eq_true rfl]
  · rw [decide_eq_false e, decide_eq_false fun z => e (V.str.inj z)]
theorem r_eqI (h : Q (.bl (decide (i = j))) H) : rEq (.int i) (.int j) H Q := ⟨rfl, by rw [eq_dint]; exact h⟩
theorem r_neI (h : Q (.bl (!decide (i = j))) H) : rNe (.int i) (.int j) H Q := ⟨rfl, by rw [eq_dint]; exact h⟩
theorem r_eqB {a b : Bool} (h : Q (.bl (a == b)) H) : rEq (.bl a) (.bl b) H Q := ⟨rfl, by rw [eq_dbl]; exact h⟩
theorem r_neB {a b : Bool} (h : Q (.bl (!(a == b))) H) : rNe (.bl a) (.bl b) H Q := ⟨rfl, by rw [eq_dbl]; exact h⟩
theorem r_eqS {a b : Str} (h : Q (.bl (decide (a = b))) H) : rEq (.str a) (.str b) H Q := ⟨rfl, by rw [eq_dstr]; exact h⟩
theorem r_neS {a b : Str} (h : Q (.bl (!decide (a = b))) H) : rNe (.str a) (.str b) H Q := ⟨rfl, by rw [eq_dstr]; exact h⟩
theorem r_ixL {p : Addr} {xs : List V} (h1 : SqL K H p xs) (h2 : atI xs i = some v) (h : Q v H) : rIxL K (.ref p) (.int i) H Q := ⟨p, xs, i, v, rfl, rfl, h1, h2, h⟩
theorem r_ixT {p : Addr} {xs : List V} (h1 : SqT K H p xs) (h2 : atI xs i = some v) (h : Q v H) : rIxT K (.ref p) (.int i) H Q := ⟨p, xs, i, v, rfl, rfl, h1, h2, h⟩
theorem r_setL {p : Addr} {xs : List V} {n : Nat} {QH : Hp → Prop} (h1 : H p = some (.lst xs)) (h2 : ixN xs.length i = some n) (h : QH (upd H p (.lst (xs.set n v)))) : rSetL (.ref p) (.int i) v H QH := ⟨p, xs, i, n, rfl, rfl, h1, h2, h⟩
theorem r_nil (h : QA [] H) : tNil σ H QA := h
theorem r_cons {tr : TA} (h : te σ H fun x H1 => tr σ H1 fun xs H2 => QA (x :: xs) H2) : tCons te tr σ H QA := h
theorem r_cb {r : List V → Hp → VK → Prop} {ts : TA} (h : ts σ H fun vs H1 => r vs H1 Q) : tCB r ts σ H Q := h
theorem r_call {sp : Sp} {dvs : List V} {E : XK} {ts : TA} (h : ts σ H fun vs H1 => sp (vs ++ dvs) H1 Q E) : tCall sp dvs E ts σ H Q := h
theorem r_lst {ts : TA} (h : ts σ H fun xs H1 => xs.length ≤ sizeLine ∧ ∀ p, H1 p = none → Q (.ref p) (upd H1 p (.lst xs))) : tLst ts σ H Q := h
theorem r_tup {ts : TA} (h : ts σ H fun xs H1 => xs.length ≤ sizeLine ∧ ∀ p, H1 p = none → Q (.ref p) (upd H1 p (.tup xs))) : tTup ts σ H Q := h
theorem r_new {n : Nat} {F : Addr → Prop} (h1 : Nat.ble n 1000 = true) (h : ∀ p, H p = none → F p) : n ≤ sizeLine ∧ ∀ p, H p = none → F p := ⟨Nat.le_of_lt (small1000 (Nat.le_of_ble_eq_true h1)), h⟩
theorem r_ite {c : Prop} [Decidable c] {A B : Prop} (h1 : c → A) (h2 : ¬ c → B) : if decide c = true then A else B := by
  by_cases e : c
  · rw [decide_eq_true e]; exact iteT (h1 e)
  · rw [decide_eq_false e]; exact iteF (h2 e)
theorem r_iten {c : Prop} [Decidable c] {A B : Prop} (h1 : ¬ c → A) (h2 : c → B) : if (!decide c) = true then A else B := by
  by_cases e : c
  · rw [decide_eq_true e]; exact iteF (h2 e)
  · rw [decide_eq_false e]; exact iteT (h1 e)
theorem r_iteb {b : Bool} {A B : Prop} (h1 : b = true → A) (h2 : b = false → B) : if b = true then A else B := by
  cases b
  · exact iteF (h2 rfl)
  · exact iteT (h1 rfl)
theorem r_itebn {b : Bool} {A B : Prop} (h1 : b = false → A) (h2 : b = true → B) : if (!b) = true then A else B := by
  cases b
  · exact iteT (h1 rfl)
  · exact iteF (h2 rfl)
theorem iteNT {A B : Prop} (h : B) : if (!true) = true then A else B := iteF h
theorem iteNF {A B : Prop} (h : A) : if (!false) = true then A else B := iteT h
/-- int(n), abs(n), len(list) by words of their own -/
def rInt1 : List V → Hp → VK → Prop := fun xs H Q => ∃ i, xs = [.int i] ∧ Q (.int i) H
def rIntB : List V → Hp → VK → Prop := fun xs H Q => ∃ k, xs = [.bl k] ∧ Q (.int (if k then 1 else 0)) H
def rAbs1 : List V → Hp → VK → Prop := fun xs H Q => ∃ i, xs = [.int i] ∧ Q (.int (if i < 0 then -i else i)) H
def rLenL (K : PySem.W.Frag) : List V → Hp → VK → Prop := fun xs H Q => ∃ p ys, xs = [.ref p] ∧ (SqL K H p ys ∨ SqT K H p ys) ∧ Q (.int ys.length) H
theorem c_int1 {X : Cx} : CallR X (.type "int") rInt1 := fun pins s σ H xs us Q I r h => call_int1 pins s σ H xs us Q I r (Or.inl h)
theorem c_intB {X : Cx} : CallR X (.type "int") rIntB := fun pins s σ H xs us Q I r h => call_int1 pins s σ H xs us Q I r (Or.inr h)
theorem c_abs {X : Cx} : CallR X (.builtin "abs") rAbs1 := call_abs
theorem c_len {X : Cx} : CallR X (.builtin "len") (rLenL X.K) := call_len_seq
theorem r_int1 (h : Q (.int i) H) : rInt1 [.int i] H Q := ⟨i, rfl, h⟩
theorem r_intB {b : Bool} (h : Q (.int (if b then 1 else 0)) H) : rIntB [.bl b] H Q := ⟨b, rfl, h⟩
theorem r_abs1 (h : Q (.int (if i < 0 then -i else i)) H) : rAbs1 [.int i] H Q := ⟨i, rfl, h⟩
theorem r_lenL {p : Addr} {xs : List V} (h1 : SqL K H p xs) (h : Q (.int xs.length) H) : rLenL K [.ref p] H Q := ⟨p, xs, rfl, .inl h1, h⟩
theorem r_lenT {p : Addr} {xs : List V} (h1 : SqT K H p xs) (h : Q (.int xs.length) H) : rLenL K [.ref p] H Q := ⟨p, xs, rfl, .inr h1, h⟩
theorem r_bm {T : String} {r : V → List V → Hp → VK → Prop} {to : TE} {ts : TA} (h : to σ H fun x H1 => tyV K T x H1 ∧ ts σ H1 fun xs H2 => r x xs H2 Q) : tBM K T r to ts σ H Q := h
theorem r_tyL {p : Addr} {xs : List V} {A : Prop} (h1 : SqL K H p xs) (h : A) : tyV K "list" (.ref p) H ∧ A := ⟨Or.inl ⟨rfl, xs, h1⟩, h⟩
theorem r_app {p : Addr} {xs : List V} (h1 : H p = some (.lst xs)) (h2 : xs.length < sizeLine) (h : Q .non (upd H p (.lst (xs ++ [v])))) : rAppend (.ref p) [v] H Q := ⟨p, xs, v, rfl, rfl, h1, h2, h⟩
theorem r_isi {x c : V} {tv uv : Value} {b : Bool} (h1 : ClsV c uv) (h2 : TyX K H x tv) (h3 : PySem.W.kitOne K tv uv = some b) (h : Q (.bl b) H) : rIsi K [x, c] H Q := ⟨x, c, tv, uv, b, rfl, h1, h2, h3, h⟩
end
theorem bit_ok {b : Bool} : -(2 ^ 64) < (if b then (1 : Int) else 0) ∧ (if b then (1 : Int) else 0) < 2 ^ 64 := by cases b <;> decide
def kAt (ns : List Int) (i : Nat) : Int := ns.getD i 0
theorem ati_n {ns : List Int} {j : Nat} (h : j < ns.length) : atI (ns.map V.int) (j : Int) = some (.int (kAt ns j)) := atI_nat (by
  rw [List.getElem?_map, List.getElem?_eq_getElem h]
  show some (V.int ns[j]) = _
  rw [kAt, List.getD_eq_getElem?_getD, List.getElem?_eq_getElem h]
  rfl)
theorem ati_int {ns : List Int} {i : Int} (h0 : 0 ≤ i) (h1 : i < ns.length) : atI (ns.map V.int) i = some (.int (kAt ns i.toNat)) := by
  have e := ati_n (ns := ns) (j := i.toNat) (by omega)
  rw [Int.toNat_of_nonneg h0] at e
  exact e
theorem ati_last {ns : List Int} (h : 0 < ns.length) : atI (ns.map V.int) (-1) = some (.int (kAt ns (ns.length - 1))) := by
  unfold atI ixN
  rw [if_neg (by decide), if_pos (by rw [List.length_map]; omega), List.length_map]
  show (ns.map V.int)[((-1 : Int) + ns.length).toNat]? = _
  rw [show ((-1 : Int) + ns.length).toNat = ns.length - 1 by omega, List.getElem?_map, List.getElem?_eq_getElem (by omega)]
  rw [kAt, List.getD_eq_getElem?_getD, List.getElem?_eq_getElem (by omega)]
  rfl
theorem ixn_in {n : Nat} {i : Int} (h0 : 0 ≤ i) (h1 : i < n) : ixN n i = some i.toNat := by
  unfold ixN
  rw [if_pos h0, if_pos h1]
theorem same_new {H : Hp} {p : Addr} {o : HO} (h : H p = none) : Same H (upd H p o) := fun b x e => by
  rw [upd_ne (ne_of_none e h)]
  exact e
theorem nox_K {CX : CXT} {P : Program} {w : World} {K : PySem.W.Frag} {mg : Str → Option Value} {base : Heap} {N : List Str} {qual : Str} {sc : Scope} {f : Addr} {cd : Value} {A : Around} {outer : List Env} {s : Shared} {H : Hp} {E : XK} : (cxOf CX P w K mg base N qual sc f cd A outer s H E).nox.K = K := rfl
theorem cx_K {CX : CXT} {P : Program} {w : World} {K : PySem.W.Frag} {mg : Str → Option Value} {base : Heap} {N : List Str} {qual : Str} {sc : Scope} {f : Addr} {cd : Value} {A : Around} {outer : List Env} {s : Shared} {H : Hp} {E : XK} : (cxOf CX P w K mg base N qual sc f cd A outer s H E).K = K := rfl
section
variable {H : Hp} {Q : VK} {i j : Int} {K : PySem.W.Frag}
/-- % and // and * that hand on a letter -/
theorem r_mod (c : 0 < j) (h : ∀ k : Int, 0 ≤ k → k < j → k = i % j → Q (.int k) H) : rI (fun _ j => 0 < j) (fun i j => .int (i % j)) (.int i) (.int j) H Q :=
  ⟨i, j, rfl, rfl, c, h _ (Int.emod_nonneg _ (by omega)) (Int.emod_lt_of_pos _ c) rfl⟩
theorem r_fdiv (c : 0 < j) (c2 : j < 2 ^ 200) (h : ∀ k : Int, (0 ≤ i → 0 ≤ k) → k = i / j → Q (.int k) H) : rI CDivW (fun i j => .int (i / j)) (.int i) (.int j) H Q :=
  ⟨i, j, rfl, rfl, wide_div (b := 201) c (by omega) (by decide) (by decide), h _ (fun z => Int.ediv_nonneg z (by omega)) rfl⟩
theorem r_mul (c : CMul i j) (h : ∀ k : Int, k = i * j → Q (.int k) H) : rI CMul (fun i j => .int (i * j)) (.int i) (.int j) H Q := ⟨i, j, rfl, rfl, c, h _ rfl⟩
theorem r_lenI {p : Addr} {ns : List Int} (h1 : H p = some (.lst (ns.map V.int))) (h : Q (.int ns.length) H) : rLenL K [.ref p] H Q := ⟨p, _, rfl, .inl (.inl (.inl h1)), by rw [List.length_map]; exact h⟩
end
theorem bl_to {a b : Bool} {Q : VK} {H : Hp} (q : Q (.bl b) H) (e : a = b) : Q (.bl a) H := e ▸ q
/-! ### comprehensions by words of their own -/
def lcGo (J : It) (g : TG) (tt : TT) (te : TE) (vs : List Nat) (σ : L2.St) (Q : VK) (H1 : Hp) : Prop :=
  ∀ D, H1 D = none → ∃ W : Nat → Nat → Hp → Prop, (∃ m, W 0 m (upd H1 D (.lst []))) ∧
    ∀ i m H, W i m H → (J.stop i H ∧ Q (.ref D) H) ∨
      (J.go i H ∧ ∃ Nx : Hp → Prop, (∀ H', Nx H' → ∃ m', m' < m ∧ W (i + 1) m' H') ∧
        ∀ x H', J.yld i H x H' → g x (wipe σ vs) H' fun σ2 H2 => wipe σ2 vs = wipe σ vs ∧ tt σ2 H2 fun b H3 =>
          if b = true then te σ2 H3 fun y H4 => ∃ acc, H4 D = some (.lst acc) ∧ acc.length < sizeLine ∧ Nx (upd H4 D (.lst (acc ++ [y]))) else Nx H3)
section
variable {σ : L2.St} {H : Hp} {Q : VK} {te tl : TE} {K : PySem.W.Frag} {a : Addr} {xs : List V}
theorem r_lc {wi : TI} {g : TG} {tt : TT} {vs : List Nat} (h : wi σ H fun J H1 => lcGo J g tt te vs σ Q H1) : tLc wi g tt te vs σ H Q := h
theorem r_il {R : It → Hp → Prop} (h : tl σ H fun x H1 => ∃ a, x = .ref a ∧ (∃ xs, SqL K H1 a xs) ∧ R (Itl K a) H1) : iList K tl σ H R := h
theorem r_it {R : It → Hp → Prop} (h : tl σ H fun x H1 => ∃ a, x = .ref a ∧ (∃ xs, SqT K H1 a xs) ∧ R (Itt K a) H1) : iTup K tl σ H R := h
theorem r_itl {F : Addr → Prop} (hS : SqL K H a xs) (h : F a) : ∃ b, V.ref a = .ref b ∧ (∃ xs, SqL K H b xs) ∧ F b := ⟨a, rfl, ⟨xs, hS⟩, h⟩
theorem r_itt {F : Addr → Prop} (hS : SqT K H a xs) (h : F a) : ∃ b, V.ref a = .ref b ∧ (∃ xs, SqT K H b xs) ∧ F b := ⟨a, rfl, ⟨xs, hS⟩, h⟩
theorem r_rng1 {ta : TA} {R : It → Hp → Prop} (h : ta σ H fun vs H1 => ∃ j : Int, vs = [.int j] ∧ -(2 ^ 62) ≤ j ∧ j < 2 ^ 62 ∧ R (Itr 0 j.toNat) H1) : iRng1 ta σ H R := h
theorem r_rng2 {ta : TA} {R : It → Hp → Prop} (h : ta σ H fun vs H1 => ∃ i j : Int, vs = [.int i, .int j] ∧ (-(2 ^ 62) ≤ i ∧ i < 2 ^ 62 ∧ -(2 ^ 62) ≤ j ∧ j < 2 ^ 62) ∧ R (Itr i (j - i).toNat) H1) : iRng2 ta σ H R := h
theorem r_upto {j : Int} {F : Int → Prop} (h1 : -1000000 ≤ j) (h2 : j ≤ 1000000) (h : F j) : ∃ k : Int, [V.int j] = [.int k] ∧ -(2 ^ 62) ≤ k ∧ k < 2 ^ 62 ∧ F k := ⟨j, rfl, by omega, by omega, h⟩
theorem r_from {i j : Int} {F : Int → Int → Prop} (h0 : -1000000 ≤ i ∧ i ≤ 1000000) (h1 : -1000000 ≤ j ∧ j ≤ 1000000) (h : F i j) : ∃ i' j' : Int, [V.int i, V.int j] = [.int i', .int j'] ∧ (-(2 ^ 62) ≤ i' ∧ i' < 2 ^ 62 ∧ -(2 ^ 62) ≤ j' ∧ j' < 2 ^ 62) ∧ F i' j' := ⟨i, j, rfl, by omega, h⟩
theorem r_for {wi : TI} {g : TG} {tb : TS} {D : Ends} (h : wi σ H fun J H1 => ∃ W : Nat → Nat → L2.St → Hp → Prop, (∃ m, W 0 m σ H1) ∧ ∀ i m σ H, W i m σ H →
      (J.stop i H ∧ D.nx σ H) ∨ (J.go i H ∧ ∃ N : L2.St → Hp → Prop, (∀ σ' H', N σ' H' → ∃ m', m' < m ∧ W (i + 1) m' σ' H') ∧
        ∀ x H', J.yld i H x H' → g x σ H' fun σ2 H2 => tb { D with nx := N, ct := N, bk := D.nx } σ2 H2)) : tFor wi g tb D σ H := h
theorem wipe1 {n : Nat} {x : V} : wipe ((wipe σ [n]).set n (some x)) [n] = wipe σ [n] := by
  show ((σ.set n none).set n (some x)).set n none = σ.set n none
  rw [List.set_set, List.set_set]
/-- [e for x in xs], e a value by a function of x, the heap only grows aside -/
theorem lc_map {n : Nat} (f : V → V) (hS : SqL K H a xs) (hz : xs.length ≤ 1000) (he : ∀ (x : V) (H' : Hp) (QQ : VK), x ∈ xs → Same H H' → QQ (f x) H' → te ((wipe σ [n]).set n (some x)) H' QQ)
    (hq : ∀ D, H D = none → Q (.ref D) (upd H D (.lst (xs.map f)))) : lcGo (Itl K a) (gName n) tYes te [n] σ Q H := by
  intro D hD
  refine lc_list (K := K) (a := a) (xs := xs) (fun i H' => H' = upd H D (.lst ((xs.take i).map f))) rfl (fun i H' _ e => by subst e; exact (same_new hD).seq hS) ?_ ?_
  · rintro i x H' hx rfl
    refine ⟨wipe1, ?_⟩
    show te _ _ _
    refine he x _ _ (List.mem_of_getElem? hx) (same_new hD) ⟨(xs.take i).map f, upd_same, ?_, ?_⟩
    · rw [List.length_map, List.length_take]
      exact small1000 (by omega)
    · rw [upd_upd, List.take_add_one, hx, List.map_append]
      rfl
  · rintro H' rfl
    rw [List.take_length]
    exact hq D hD
end
section
variable {σ : L2.St} {H : Hp} {Q : VK} {te : TE} {K : PySem.W.Frag} {QO : Option Int → Hp → Prop}
theorem r_sl {r : V → Option Int → Option Int → Hp → VK → Prop} {tl th : TO} (h : te σ H fun x H1 => tl σ H1 fun l H2 => th σ H2 fun u H3 => r x l u H3 Q) : tSl r te tl th σ H Q := h
theorem r_np (h : QO none H) : tNoPart σ H QO := h
theorem r_pt (h : te σ H fun x H1 => ∃ i, x = .int i ∧ QO (some i) H1) : tPart te σ H QO := h
theorem r_pti {i : Int} {F : Int → Prop} (h : F i) : ∃ k, V.int i = .int k ∧ F k := ⟨i, rfl, h⟩
theorem r_slL {a : Addr} {xs : List V} {lo hi : Option Int} (hS : SqL K H a xs) (h : ∀ p, H p = none → Q (.ref p) (upd H p (.lst (cutV xs lo hi)))) : rSlL K (.ref a) lo hi H Q := ⟨a, xs, rfl, hS, h⟩
end
theorem cut_none {xs : List V} {n : Nat} (h : xs.length ≤ n) : cutV xs none (some (n : Int)) = xs := by
  unfold cutV
  rw [HT.sIx_none, show HT.sIx xs.length xs.length (some (n : Int)) = min n xs.length from HT.sIx_nat xs.length xs.length n]
  rw [List.drop_zero, Nat.sub_zero, Nat.min_eq_right h, List.take_length]
/-! ### the draws of a script -/
structure Drw (H : Hp) (d c r : Addr) : Prop where
  dc : d ≠ c
  dr : d ≠ r
  cr : c ≠ r
  ex : ∃ (ns rs : List Int) (t : Int), H d = some (.lst [.ref c, .ref r, .int t]) ∧ H c = some (.lst (ns.map V.int)) ∧ H r = some (.lst (rs.map V.int)) ∧ ns.length = rs.length ∧ 0 < ns.length ∧ 0 ≤ t ∧ ∀ x ∈ rs, 0 ≤ x
def Ext (d r : Addr) (H H' : Hp) : Prop := ∀ b o, H b = some o → b ≠ d → b ≠ r → H' b = some o
theorem Ext.refl {d r : Addr} {H : Hp} : Ext d r H H := fun _ _ e _ _ => e
theorem Ext.trans {d r : Addr} {H H1 H2 : Hp} (a : Ext d r H H1) (b : Ext d r H1 H2) : Ext d r H H2 := fun x o e n1 n2 => b x o (a x o e n1 n2) n1 n2
theorem Ext.of {d r : Addr} {H H' : Hp} (s : Same H H') : Ext d r H H' := fun b o e _ _ => s b o e
theorem Drw.same {H H' : Hp} {d c r : Addr} (D : Drw H d c r) (s : Same H H') : Drw H' d c r := by
  obtain ⟨dc, dr, cr, ns, rs, t, h1, h2, h3, h⟩ := D
  exact ⟨dc, dr, cr, ns, rs, t, s _ _ h1, s _ _ h2, s _ _ h3, h⟩
theorem Drw.new {H : Hp} {d c r p : Addr} {o : HO} (D : Drw H d c r) (h : H p = none) : Drw (upd H p o) d c r := D.same (same_new h)
theorem Drw.ned {H : Hp} {d c r p : Addr} (D : Drw H d c r) (h : H p = none) : p ≠ d := by
  obtain ⟨_, _, _, _, _, _, h1, _⟩ := D
  exact (ne_of_none h1 h).symm
theorem Drw.ner {H : Hp} {d c r p : Addr} (D : Drw H d c r) (h : H p = none) : p ≠ r := by
  obtain ⟨_, _, _, _, _, _, _, _, h1, _⟩ := D
  exact (ne_of_none h1 h).symm
theorem Drw.nec {H : Hp} {d c r p : Addr} (D : Drw H d c r) (h : H p = none) : p ≠ c := by
  obtain ⟨_, _, _, _, _, _, _, h1, _⟩ := D
  exact (ne_of_none h1 h).symm
theorem getD_left {xs : List Int} {y : Int} {i : Nat} (h : i < xs.length) : (xs ++ [y]).getD i 0 = xs.getD i 0 := by
  rw [List.getD_eq_getElem?_getD, List.getD_eq_getElem?_getD, List.getElem?_append_left h]
theorem getD_end {xs : List Int} {y : Int} : (xs ++ [y]).getD xs.length 0 = y := by
  rw [List.getD_eq_getElem?_getD, List.getElem?_append_right (Nat.le_refl _), Nat.sub_self]
  rfl
theorem Drw.back {H H' : Hp} {d c r p : Addr} (D : Drw H d c r) (e : Ext d r H H') (h : H' p = none) (D' : Drw H' d c r := by assumption) : H p = none := by
  cases q : H p with
  | none => rfl
  | some o =>
    have z := e p o q (D'.ned h) (D'.ner h)
    rw [h] at z
    cases z
theorem Drw.put {H : Hp} {d c r p : Addr} {o : HO} (D : Drw H d c r) (h1 : p ≠ d) (h2 : p ≠ r) (h3 : p ≠ c) : Drw (upd H p o) d c r := by
  obtain ⟨dc, dr, cr, ns, rs, t, g1, g2, g3, h⟩ := D
  exact ⟨dc, dr, cr, ns, rs, t, (upd_ne h1.symm).trans g1, (upd_ne h3.symm).trans g2, (upd_ne h2.symm).trans g3, h⟩
def spDraw : Sp := fun vs H Q _ => ∃ (d c r : Addr) (m : Int), vs = [.ref d, .int m] ∧ Drw H d c r ∧ 0 < m ∧ m < 2 ^ 200 ∧ ∀ (k : Int) (H' : Hp), 0 ≤ k → k < m → Drw H' d c r → Ext d r H H' → Q (.int k) H'
def spBegin (K : PySem.W.Frag) : Sp := fun vs H Q _ => ∃ (a : Addr) (ns : List Int), vs = [.ref a] ∧ SqL K H a (ns.map V.int) ∧ ns.length ≤ 63 ∧
  ∀ (d c r : Addr) (H' : Hp), Drw H' d c r → Same H H' → H d = none → H c = none → H r = none → Q (.ref d) H'
def restOf (v : V) : V := match v with
  | .int x => .int ((if x < 0 then -x else x) * (if decide ((10 : Int) ^ 18 ≤ (if x < 0 then -x else x)) then 1 else 0))
  | w => w
def restI (x : Int) : Int := (if x < 0 then -x else x) * (if decide ((10 : Int) ^ 18 ≤ (if x < 0 then -x else x)) then 1 else 0)
theorem rest_map (ns : List Int) : (ns.map V.int).map restOf = (ns.map restI).map V.int := by
  rw [List.map_map, List.map_map]
  rfl
theorem rest_nn (x : Int) : 0 ≤ restI x := by
  unfold restI
  refine Int.mul_nonneg ?_ ?_
  · split <;> omega
  · split <;> omega
/-! ### calls by keywords alone -/
section
variable {X : Cx} {CX : CXT} {k : Nat} {f : Addr} {fd : FuncData} {ps ks : List Str} {sp : Sp} {E : XK} {x : Str} {p pos : Pos} {kws : List Keyword} {tk : TA} {g : List Value → List Value → List Value} {gV : List V → List V → List V}
theorem pe_callN0 (F : FnOk X.prog X.w X.K X.mg X.base CX k f fd ps sp) (hr : Room k X.A) (hg : Gl X x) (hm : X.mg x = some (.ref f)) (hk : PySem.W.keepIn X.K (.ref f) = true) (hb : KBn X.K fd ps 0 ks g gV) (hx : Passes CX X E) (hkw : PK X kws tk)
    (hall : (backToKw pos (keywordEach kws X.env)).all (fun q => q.1.isSome) = true := by rfl) (hks : (backToKw pos (keywordEach kws X.env)).filterMap (fun q => q.1) = ks := by rfl) (hdb : (x == ("__debug__" : Str)) = false := by decide)
    (hpl : ((backTo pos (starEach [] X.env)).any (fun q => q.1) || (backToKw pos (keywordEach kws X.env)).any (fun q => q.1.isNone)) = false := by rfl) :
    PE X (.Call (.Name x p) [] kws pos) (tCallN 0 ks.length sp gV E tNil tk) := by
  refine ⟨fun pins s σ H Q I h => wpAny_Call_Name_kw (ld_glob I hg hm ?_ hdb)⟩
  refine PySem.W.callWith_KW0 (h₀ := X.base) I.ok.mod.kin hk hall (thn (hkw.run pos pins s σ H _ I h) fun ws s2 hh => ?_) hpl
  obtain ⟨zs, H2, I2, rz, l1, l2, q2⟩ := hh
  refine ⟨I2.kIn, ?_⟩
  rw [hks]
  exact run_fnN (us := []) (vs := []) F hr hb hx I2 .nil rz rfl l2 q2
theorem r_callN {n m : Nat} {ts : TA} {σ : L2.St} {H : Hp} {Q : VK} (h : ts σ H fun vs H1 => tk σ H1 fun zs H2 => vs.length = n ∧ zs.length = m ∧ sp (gV vs zs) H2 Q E) : tCallN n m sp gV E ts tk σ H Q := h
end
theorem kb_mk {K : PySem.W.Frag} {x qual : Str} {st : Stmt} {f : Addr} {fd : FuncData} {ps ks : List Str} {g : List Value → List Value → List Value} {gV : List V → List V → List V} (F : Fun K x qual st f fd)
    (h : ∀ (kV doc pm : Value) (an : Option Addr) (cdv ct : Value) (ws : List Value), ws.length = ks.length → bindArgs (PySem.W.fnOf x qual (defArgs st) (defBody st) (defScope st) .none kV doc pm an cdv ct) ⟨[], ks.zip ws⟩ = pure (ps.zip (g [] ws)))
    (hrel : ∀ {vs : List V} {us : List Value} {zs : List V} {ws : List Value}, Vals vs us → Vals zs ws → Vals (gV vs zs) (g us ws)) : KBn K fd ps 0 ks g gV := by
  obtain ⟨oc, od, kV, doc, pm, an, cdv, ct, osl, rfl, lk, hcd⟩ := F.ex
  refine ⟨fun s us ws _ l1 l2 => ?_, hrel⟩
  have e : us = [] := List.length_eq_zero_iff.mp l1
  subst e
  exact .of_eq (h kV doc pm an cdv ct ws l2)
section
variable {σ : L2.St} {H : Hp} {D : Ends} {ta : TA}
theorem r_par {i j : Nat} (h : ta σ H fun vs H1 => ∃ v w, vs = [v, w] ∧ D.nx ((σ.set i (some v)).set j (some w)) H1) : tPar i j ta D σ H := h
theorem r_par3 {i j l : Nat} (h : ta σ H fun vs H1 => ∃ u v w, vs = [u, v, w] ∧ D.nx (((σ.set i (some u)).set j (some v)).set l (some w)) H1) : tPar3 i j l ta D σ H := h
theorem r_two {a b : V} {F : V → V → Prop} (h : F a b) : ∃ v w, [a, b] = [v, w] ∧ F v w := ⟨a, b, rfl, h⟩
theorem r_three {a b c : V} {F : V → V → V → Prop} (h : F a b c) : ∃ u v w, [a, b, c] = [u, v, w] ∧ F u v w := ⟨a, b, c, rfl, h⟩
end
/-- [e for x in range(..)], e draws -/
theorem lc_draws {σ : L2.St} {H : Hp} {Q : VK} {te : TE} {n m : Nat} {lo : Int} {d c r : Addr} {P : Int → Prop} (hm : m ≤ 1000) (D0 : Drw H d c r)
    (he : ∀ (i : Nat) (H' : Hp) (QQ : VK), i < m → Drw H' d c r → Ext d r H H' → (∀ (k : Int) (H'' : Hp), P k → Drw H'' d c r → Ext d r H' H'' → QQ (.int k) H'') → te ((wipe σ [n]).set n (some (.int (lo + i)))) H' QQ)
    (hq : ∀ (l : Addr) (ss : List Int) (H' : Hp), ss.length = m → (∀ x ∈ ss, P x) → H l = none → H' l = some (.lst (ss.map V.int)) → Drw H' d c r → Ext d r H H' → Q (.ref l) H') : lcGo (Itr lo m) (gName n) tYes te [n] σ Q H := by
  intro l nl
  have ld := D0.ned nl
  have lr := D0.ner nl
  have lc := D0.nec nl
  refine lc_range (fun i H' => ∃ ss : List Int, ss.length = i ∧ (∀ x ∈ ss, P x) ∧ H' l = some (.lst (ss.map V.int)) ∧ Drw H' d c r ∧ Ext d r H H') ⟨[], rfl, fun x hx => (nomatch hx), upd_same, D0.new nl, Ext.of (same_new nl)⟩ ?_ ?_
  · rintro i H' hi ⟨ss, hl, hp, hs, D1, E1⟩
    refine ⟨wipe1, ?_⟩
    show te _ _ _
    refine he i H' _ hi D1 E1 fun k H'' hk D2 E2 => ⟨ss.map V.int, E2 _ _ hs ld lr, ?_, ?_⟩
    · rw [List.length_map]
      exact small1000 (by omega)
    · refine ⟨ss ++ [k], by rw [List.length_append, hl]; rfl, fun x hx => ?_, by rw [upd_same, List.map_append]; rfl, D2.put ld lr lc, fun b o e n1 n2 => ?_⟩
      · rcases List.mem_append.mp hx with z | z
        · exact hp x z
        · rw [List.mem_singleton.mp z]; exact hk
      · rw [upd_ne (ne_of_none e nl)]
        exact E2 b o (E1 b o e n1 n2) n1 n2
  · rintro H' ⟨ss, hl, hp, hs, D1, E1⟩
    exact hq l ss H' hl hp nl hs D1 E1
section
variable {σ : L2.St} {H : Hp} {D : Ends} {te : TE} {Q : VK}
theorem r_aug {i : Nat} {ti : TIp} {x : V} (e : σ[i]? = some (some x)) (h : te σ H fun y H1 => ti x y H1 fun z H2 => D.nx (σ.set i (some z)) H2) : tAug i te ti D σ H := ⟨x, e, h⟩
theorem r_ext2 {l b : Addr} {xs zs : List V} (h1 : H l = some (.lst xs)) (h2 : H b = some (.lst zs)) (hz : xs.length + zs.length ≤ 1000) (h : Q (.ref l) (upd H l (.lst (xs ++ zs)))) : rExt2 (.ref l) (.ref b) H Q := ⟨l, b, xs, zs, rfl, rfl, h1, h2, Nat.le_of_lt (small1000 hz), h⟩
theorem r_ipI {f : Int → Int → Int} {i j : Int} (h : Q (.int (f i j)) H) : ipI f (.int i) (.int j) H Q := ⟨i, j, rfl, rfl, h⟩
end
/-! ### operators of own classes: by the class's own def -/
section
open PySem.W
variable {prog : Program} {w : World} {A : Around} {E : Value → Shared → Prop} {s : Shared} {K : PySem.W.Frag} {x C f : Addr} {ox : Obj} {od : Option Obj} {b tb : Value}
theorem check_obj {M : Model} {rest : List Value} {Q : Unit → Shared → Prop} (X : K.In s.heap) (I : InstAt s.heap x ox C od) (hob : subIn K (.ref C) (.type "object") = some true) (ha : argsOk "object.__ne__" ⟨.ref x :: rest, []⟩) (hq : Q () s) :
    wpAny M A (checkBuiltinCall "object.__ne__" ⟨.ref x :: rest, []⟩) Q E s := by
  simp only [checkBuiltinCall, F.cmpKind_ne, F.cmpSplit_ne]
  refine wpAny_bind ?_
  unfold isInstance
  refine wpAny_bind (I.type.here ((looks_subIn X hob).here ?_))
  simp only [Bool.not_true, Bool.false_eq_true, if_false]
  cases hsig : Manifest.signature? "object.__ne__" with
  | none => exact wpAny_pure hq
  | some sig =>
    simp only [argsOk, hsig] at ha
    show wpAny M A (Bind.checkArgs "object.__ne__" sig ⟨.ref x :: rest, []⟩) Q E _
    rw [show Bind.checkArgs "object.__ne__" sig ⟨.ref x :: rest, []⟩ = pure () from ha]
    exact wpAny_pure hq
theorem bound_ne {M : Model} {args : List Value} {Q : Option Value → Shared → Prop} (X : K.In s.heap) (I : InstAt s.heap x ox C od) (hs : findIn K (.ref C) "__ne__" = some (some (.builtin "object.__ne__")))
    (h : wpAny M A (call (.builtin "object.__ne__") (.ref x :: args)) (fun v => Q (some v)) E s) : wpAny M A (callSpecialIfBound? (.ref x) "__ne__" args) Q E s := by
  simp only [callSpecialIfBound?, bindSpecialIfBound?]
  have hb : bindSpecial (.builtin "object.__ne__") (.ref x) = pure (.builtin "object.__ne__", [.ref x]) := F.cmp_object.ne.bind _
  have fin : wpAny M A (call (.builtin "object.__ne__") ([.ref x] ++ args) >>= fun v => pure (some v)) Q E s := wpAny_bind (wpAny_mono h (fun v s' h' => wpAny_pure h') fun _ _ h' => h')
  refine wpAny_holding (wpAny_bind (wpAny_bind (wpAny_bind (I.type.here ((looks_findIn X hs).here ?_)))))
  refine wpAny_bind (wpAny_askSetting (wpAny_ite ?_))
  rw [hb]
  split
  · exact wpAny_bind (wpAny_pure (wpAny_pure (by exact fin)))
  · exact wpAny_tryCatch (wpAny_bind (wpAny_pure (wpAny_pure (by exact fin))))
theorem ne_own {Q : Value → Shared → Prop} (hu : A.units + 1 < cLine) (X : K.In s.heap) (I : InstAt s.heap x ox C od) (hb : Looks (model prog w) s.heap (typeOf b) tb) (hn : notFirst K C tb = true)
    (hne : findIn K (.ref C) "__ne__" = some (some (.builtin "object.__ne__"))) (hob : subIn K (.ref C) (.type "object") = some true) (hs : findIn K (.ref C) "__eq__" = some (some (.ref f))) (hf : isFn K (.ref f) = true)
    (h : wpAny (model prog w) A.in1 (call (.ref f) [.ref x, b]) (fun v s' => ∃ k, v = .bool k ∧ Q (.bool (!k)) s') E s) : wpAny (model prog w) A (richCompare .NotEq (.ref x) b) Q E s := by
  have one : wpAny (model prog w) A (tryCompare (.ref x) (cmpInfo .NotEq).2.1 b) (fun r s' => ∃ v, r = some v ∧ Q v s') E s := by
    unfold tryCompare
    refine wpAny_bind (bound_ne X I hne (wpAny_call (codeAny_call_builtin F.cmp_object.ne.plain F.cmpEntry_ne (check_obj X I hob (F.cmpArgs_ne _ _) ?_))))
    unfold Builtin.«object.__ne__»
    repeat (first
      | with_reducible refine wpAny_cRoomFor hu ?_
      | (refine wpAny_bind (m := callSpecialIfBound? (.ref x) (Str.ofString "__eq__") [b])
          (ifBound_K X I hs hf (wpAny_mono h (fun r s' hr => by
            obtain ⟨k, rfl, hq⟩ := hr
            repeat (first | exact wpAny_pure ⟨_, rfl, hq⟩ | (refine wpAny_bind (m := truthy (.bool _)) (wpAny_truthy_bool ?_)) | wp_step)) fun _ _ e => e)))
      | wp_step)
  unfold richCompare
  simp only [oneThing_ref]
  refine wpAny_holding (wpAny_bind (wpAny_cRoomFor (Nat.lt_of_succ_lt hu) ?_))
  refine wpAny_bind (I.type.here (wpAny_bind (hb.here ?_)))
  split
  · rename_i q
    have e : subIn K tb (.ref C) = some false := by
      rcases Bool.or_eq_true_iff.mp hn with e | e
      · rw [beq_iff_eq.mp e] at q; simp at q
      · exact beq_iff_eq.mp e
    refine wpAny_bind ((looks_subIn X e).here ?_)
    simp only [Bool.false_eq_true, if_false]
    refine wpAny_bind (wpAny_mono one (fun r s' z => ?_) fun _ _ e => e)
    obtain ⟨v, rfl, hq⟩ := z
    exact wpAny_pure hq
  · refine wpAny_bind (wpAny_pure ?_)
    simp only [Bool.false_eq_true, if_false]
    refine wpAny_bind (wpAny_mono one (fun r s' z => ?_) fun _ _ e => e)
    obtain ⟨v, rfl, hq⟩ := z
    exact wpAny_pure hq
theorem neg_own {M : Model} {Q : Value → Shared → Prop} (X : K.In s.heap) (I : InstAt s.heap x ox C od) (hs : findIn K (.ref C) "__neg__" = some (some (.ref f))) (hf : isFn K (.ref f) = true)
    (h : wpAny M A (call (.ref f) [.ref x]) Q E s) : wpAny M A (unaryOp .USub (.ref x)) Q E s := by
  unfold unaryOp
  refine wpAny_holding ?_
  dsimp only
  rw [if_neg (by decide)]
  exact wpAny_bind (special_fn X I hs (beq_iff_eq.mp hf) (wpAny_mono h (fun _ _ z => wpAny_pure z) fun _ _ z => z))
end
section
variable {X : Cx} {CX : CXT} {k : Nat} {g C : Addr} {fd : FuncData} {ps : List Str} {sp : Sp} {E : XK}
theorem cmpb {P : Value → Shared → Prop} {z : V} {v : Value} {s' : Shared} (r : RelV z v) (h : P v s') : PySem.W.CmpBack P v s' := by
  cases z with
  | non => cases (show v = Value.none from r); exact h
  | bl b => cases (show v = Value.bool b from r); exact h
  | int i => obtain ⟨t, rfl⟩ := (show ∃ t, v = Value.int i t from r); exact h
  | str x => obtain ⟨t, rfl⟩ := (show ∃ t, v = Value.str x t from r); exact h
  | byt b => obtain ⟨t, rfl⟩ := (show ∃ t, v = Value.bytes b t from r); exact h
  | flt b => obtain ⟨t, rfl⟩ := (show ∃ t, v = Value.float b t from r); exact h
  | ref a => cases (show v = Value.ref a from r); exact h
  | ty n => cases (show v = Value.type n from r); exact h
/-- what an own operator of the class at C asks: the left one is an instance, the right one's type is known and not below C -/
def rCmpO (K : PySem.W.Frag) (C : Addr) (sp : Sp) (E : XK) : R2 := fun x y H Q => ∃ a dx fs t, x = .ref a ∧ H a = some (.ins C dx fs) ∧ TyX K H y t ∧ PySem.W.notFirst K C t = true ∧ sp [x, y] H Q E
def rNeO (K : PySem.W.Frag) (C : Addr) (sp : Sp) (E : XK) : R2 := fun x y H Q => ∃ a dx fs t, x = .ref a ∧ H a = some (.ins C dx fs) ∧ TyX K H y t ∧ PySem.W.notFirst K C t = true ∧ sp [x, y] H (fun v H' => ∃ b, v = .bl b ∧ Q (.bl (!b)) H') E
def rAddO (C : Addr) (sp : Sp) (E : XK) : R2 := fun x y H Q => ∃ a dx fs b dy gs, x = .ref a ∧ y = .ref b ∧ H a = some (.ins C dx fs) ∧ H b = some (.ins C dy gs) ∧ sp [x, y] H Q E
def rNegO (C : Addr) (sp : Sp) (E : XK) : V → Hp → VK → Prop := fun x H Q => ∃ a dx fs, x = .ref a ∧ H a = some (.ins C dx fs) ∧ sp [x] H Q E
theorem inst_at {pins : List (Addr × Obj)} {σ : L2.St} {H : Hp} {s : Shared} {a dx : Addr} {fs : List (Str × V)} (I : Inv X pins σ H s) (h : H a = some (.ins C dx fs)) : ∃ ox od, PySem.W.InstAt s.heap a ox C od := by
  obtain ⟨mA, O, _⟩ := ins_get I.hok h
  obtain ⟨od, J, _⟩ := O.look
  exact ⟨_, _, J⟩
theorem op_cmpO {op : CmpOp} (hop : ∀ a b, compareOp op a b = richCompare op a b) (hs : PySem.W.findIn X.K (.ref C) (cmpInfo op).2.1 = some (some (.ref g))) (hf : PySem.W.isFn X.K (.ref g) = true) (F : FnOk X.prog X.w X.K X.mg X.base CX k g fd ps sp) (hr : Room k X.A) (hb : Binds X.K fd ps []) (hx : Passes CX X E) :
    OpR X (compareOp op) (rCmpO X.K C sp E) := by
  intro pins s σ H x y v u Q I rx ry h
  obtain ⟨a, dx, fs, t, rfl, ha, ty, hn, q⟩ := h
  cases (show v = Value.ref a from rx)
  obtain ⟨ox, od, J⟩ := inst_at I ha
  obtain ⟨P, Z, p, _⟩ := kit_of I ry ty
  obtain ⟨m, hF⟩ := I.fr
  rw [hop]
  refine PySem.W.cmp_K (op := op) (tb := t) hr.units0 hF I.ok.mod.kin J (Z.ty _ _ I.kIn p) hn hs hf ?_
  refine wpAny_mono (run_fn (ds := []) (dvs := []) (vs := [.ref a, y]) F hr hb .nil hx I (.cons rfl (.cons ry .nil)) (by rw [List.append_nil]; exact q)) (fun w s' z => ?_) fun _ _ e => e
  obtain ⟨z', H', I', rz, qz⟩ := z
  exact cmpb rz ⟨z', H', I', rz, qz⟩
theorem op_eqO (hs : PySem.W.findIn X.K (.ref C) "__eq__" = some (some (.ref g))) (hf : PySem.W.isFn X.K (.ref g) = true) (F : FnOk X.prog X.w X.K X.mg X.base CX k g fd ps sp) (hr : Room k X.A) (hb : Binds X.K fd ps []) (hx : Passes CX X E) :
    OpR X (compareOp .Eq) (rCmpO X.K C sp E) := op_cmpO (fun _ _ => rfl) hs hf F hr hb hx
theorem op_neO (hs : PySem.W.findIn X.K (.ref C) "__eq__" = some (some (.ref g))) (hf : PySem.W.isFn X.K (.ref g) = true) (hne : PySem.W.findIn X.K (.ref C) "__ne__" = some (some (.builtin "object.__ne__"))) (hob : PySem.W.subIn X.K (.ref C) (.type "object") = some true)
    (F : FnOk X.prog X.w X.K X.mg X.base CX k g fd ps sp) (hr : Room (k + 1) X.A) (hb : Binds X.K fd ps []) (hx : Passes CX X E) : OpR X (compareOp .NotEq) (rNeO X.K C sp E) := by
  intro pins s σ H x y v u Q I rx ry h
  obtain ⟨a, dx, fs, t, rfl, ha, ty, hn, q⟩ := h
  cases (show v = Value.ref a from rx)
  obtain ⟨ox, od, J⟩ := inst_at I ha
  obtain ⟨P, Z, p, _⟩ := kit_of I ry ty
  have hu := hr.units
  show wpAny _ _ (richCompare .NotEq _ _) _ _ _
  refine ne_own (by omega) I.kIn J (Z.ty _ _ I.kIn p) hn hne hob hs hf ?_
  have r2 : Vals [V.ref a, y] [Value.ref a, u] := .cons rfl (.cons ry .nil)
  have hl : ([Value.ref a, u] ++ []).length = ps.length := by
    rw [List.append_nil, ← r2.length]
    exact F.len _ _ _ _ q
  refine wpAny_call (codeAny_mono (F.run X.A.in1 X.stack s H ⟨[.ref a, u], []⟩ [.ref a, u] _ _ E hr.in1 I.env0.in1 (by have z := hb s [.ref a, u] I.kIn hl; rw [List.append_nil] at z; exact z) r2 q) fun r s' hq => ?_)
  cases r with
  | error e => exact hx pins σ H s e s' I hq
  | ok fl =>
    cases fl with
    | ret z =>
      obtain ⟨v', H', I', rv, b, rfl, qz⟩ := I.after hq
      cases rv
      exact ⟨b, rfl, .bl (!b), H', I', rfl, qz⟩
    | next => exact False.elim hq
    | brk => exact False.elim hq
    | cont => exact False.elim hq
theorem op_binO {op : Operator} (hc : PySem.W.selfFirst X.K C = true) (hs : PySem.W.findIn X.K (.ref C) (PySem.dunder op.info.2) = some (some (.ref g))) (hf : PySem.W.isFn X.K (.ref g) = true) (F : FnOk X.prog X.w X.K X.mg X.base CX k g fd ps sp) (hr : Room k X.A) (hb : Binds X.K fd ps []) (hx : Passes CX X E) :
    OpR X (binaryOp op) (rAddO C sp E) := by
  intro pins s σ H x y v u Q I rx ry h
  obtain ⟨a, dx, fs, b, dy, gs, rfl, rfl, ha, hb', q⟩ := h
  cases (show v = Value.ref a from rx)
  cases (show u = Value.ref b from ry)
  obtain ⟨ox, od, J⟩ := inst_at I ha
  obtain ⟨oy, oe, J'⟩ := inst_at I hb'
  obtain ⟨m, hF⟩ := I.fr
  refine PySem.W.binop_K (op := op) hF I.ok.mod.kin J J'.type hc hs hf ?_
  refine wpAny_mono (run_fn (ds := []) (dvs := []) (vs := [.ref a, .ref b]) F hr hb .nil hx I (.cons rfl (.cons rfl .nil)) (by rw [List.append_nil]; exact q)) (fun w s' z => ?_) fun _ _ e => e
  obtain ⟨z', H', I', rz, qz⟩ := z
  exact cmpb rz ⟨z', H', I', rz, qz⟩
theorem un_negO (hs : PySem.W.findIn X.K (.ref C) "__neg__" = some (some (.ref g))) (hf : PySem.W.isFn X.K (.ref g) = true) (F : FnOk X.prog X.w X.K X.mg X.base CX k g fd ps sp) (hr : Room k X.A) (hb : Binds X.K fd ps []) (hx : Passes CX X E) :
    UnR X (unaryOp .USub) (rNegO C sp E) := by
  intro pins s σ H x v Q I rx h
  obtain ⟨a, dx, fs, rfl, ha, q⟩ := h
  cases (show v = Value.ref a from rx)
  obtain ⟨ox, od, J⟩ := inst_at I ha
  exact neg_own I.kIn J hs hf (run_fn (ds := []) (dvs := []) (vs := [.ref a]) F hr hb .nil hx I (.cons rfl .nil) (by rw [List.append_nil]; exact q))
/-- v in x, x of an own class with its own __contains__, which hands back a truth -/
def rInO (C : Addr) (sp : Sp) (E : XK) : R2 := fun x y H Q => ∃ a dx fs, y = .ref a ∧ H a = some (.ins C dx fs) ∧ sp [y, x] H (fun v H' => ∃ b, v = .bl b ∧ Q (.bl b) H') E
theorem op_inO (hs : PySem.W.findIn X.K (.ref C) "__contains__" = some (some (.ref g))) (hf : PySem.W.isFn X.K (.ref g) = true) (F : FnOk X.prog X.w X.K X.mg X.base CX k g fd ps sp) (hr : Room k X.A) (hb : Binds X.K fd ps []) (hx : Passes CX X E) :
    OpR X (compareOp .In) (rInO C sp E) := by
  intro pins s σ H x y v u Q I rx ry h
  obtain ⟨a, dx, fs, rfl, ha, q⟩ := h
  cases (show u = Value.ref a from ry)
  obtain ⟨ox, od, J⟩ := inst_at I ha
  obtain ⟨m, hF⟩ := I.fr
  refine PySem.W.in_K hF I.ok.mod.kin J hs hf (wpAny_mono (run_fn (ds := []) (dvs := []) (vs := [.ref a, x]) F hr hb .nil hx I (.cons rfl (.cons rx .nil)) (by rw [List.append_nil]; exact q)) (fun w s' z => ?_) fun _ _ e => e)
  obtain ⟨z', H', I', rz, b, rfl, qz⟩ := z
  cases rz
  exact wpAny_truthy_bool ⟨.bl b, H', I', rfl, qz⟩
end
/-! ### fields, methods, new instances -/
section
variable {σ : L2.St} {H : Hp} {Q : VK} {K : PySem.W.Frag} {te ta tv : TE} {a C dx : Addr} {fs : List (Str × V)} {f : Str} {v : V} {D : Ends}
theorem r_fld (h : ta σ H fun x H1 => ∃ a C dx fs v, x = .ref a ∧ H1 a = some (.ins C dx fs) ∧ Cls K C ∧ NoAttr K C f ∧ fs.lookup f = some v ∧ Q v H1) : tFld K ta f σ H Q := h
theorem r_get {F : V → Prop} (e : H a = some (.ins C dx fs)) (c : Cls K C) (n : NoAttr K C f) (l : fs.lookup f = some v) (h : F v) : ∃ a' C dx fs v, V.ref a = .ref a' ∧ H a' = some (.ins C dx fs) ∧ Cls K C ∧ NoAttr K C f ∧ fs.lookup f = some v ∧ F v := ⟨a, C, dx, fs, v, rfl, e, c, n, l, h⟩
theorem r_sfld (h : tv σ H fun y H1 => ta σ H1 fun x H2 => ∃ a C dx fs, x = .ref a ∧ H2 a = some (.ins C dx fs) ∧ Cls K C ∧ NoAttr K C f ∧ fs.length < 1000 ∧ D.nx σ (upd H2 a (.ins C dx (putF f y fs)))) : sFld K ta tv f D σ H := h
theorem r_put {F : Hp → Prop} {y : V} (e : H a = some (.ins C dx fs)) (c : Cls K C) (n : NoAttr K C f) (l : fs.length < 1000) (h : F (upd H a (.ins C dx (putF f y fs)))) : ∃ a' C dx fs, V.ref a = .ref a' ∧ H a' = some (.ins C dx fs) ∧ Cls K C ∧ NoAttr K C f ∧ fs.length < 1000 ∧ F (upd H a' (.ins C dx (putF f y fs))) := ⟨a, C, dx, fs, rfl, e, c, n, l, h⟩
theorem r_meth {m : Str} {sp : Sp} {dvs : List V} {E : XK} {ts : TA} (h : ta σ H fun x H1 => ∃ a dx fs, x = .ref a ∧ H1 a = some (.ins C dx fs) ∧ fs.lookup m = none ∧ ts σ H1 fun vs H2 => sp (x :: (vs ++ dvs)) H2 Q E) : tMeth C m sp dvs E ta ts σ H Q := h
theorem r_who {m : Str} {A : Prop} (e : H a = some (.ins C dx fs)) (l : fs.lookup m = none) (h : A) : ∃ a' dx fs, V.ref a = .ref a' ∧ H a' = some (.ins C dx fs) ∧ fs.lookup m = none ∧ A := ⟨a, dx, fs, rfl, e, l, h⟩
theorem r_make {sp : Sp} {dvs : List V} {E : XK} {ts : TA} (h : ts σ H fun vs H1 => ∀ x dx, H1 x = none → H1 dx = none → dx ≠ x → sp (.ref x :: (vs ++ dvs)) (upd (upd H1 dx (.own x)) x (.ins C dx [])) (fun v H2 => v = .non ∧ Q (.ref x) H2) E) : tMake C sp dvs E ts σ H Q := h
end
theorem same_make {H H' : Hp} {x dx C : Addr} (nx : H x = none) (nd : H dx = none) (s : ∀ b o, (upd (upd H dx (.own x)) x (.ins C dx [])) b = some o → b ≠ x → H' b = some o) : Same H H' := fun b o e =>
  s b o (by rw [upd_ne (ne_of_none e nx), upd_ne (ne_of_none e nd)]; exact e) (ne_of_none e nx)
/-! ### defs that may ask repr of lists and tuples: called where no repr is under way -/
structure FnG (P : Program) (w : World) (K : PySem.W.Frag) (mg : Str → Option Value) (base : Heap) (CX : CXT) (k : Nat) (f : Addr) (fd : FuncData) (ps : List Str) (sp : Sp) : Prop where
  len : ∀ vs H Q E, sp vs H Q E → vs.length = ps.length
  run : ∀ (A : Around) (outer : List Env) (s : Shared) (H : Hp) (args : Args) (us : List Value) (vs : List V) (Q : VK) (E : XK), A.guards = some [] → Room k A → Env0 P w K mg base A outer s H →
    BindsTo s fd args (ps.zip us) → Vals vs us → sp vs H Q E → codeAny (model P w) A (.call (.ref f) args) (CR CX outer P w H s Q E) s
section
variable {P : Program} {w : World} {K : PySem.W.Frag} {mg : Str → Option Value} {base : Heap}
theorem okG {x qual : Str} {st : Stmt} {f : Addr} {fd : FuncData} {N ps : List Str} {k : Nat} {sp : Sp} (F : Fun K x qual st f fd) (S : FnScope N ps (defScope st)) (len : ∀ vs H Q E, sp vs H Q E → vs.length = ps.length)
    (hbody : ∀ (cdv : Value) (A : Around) (outer : List Env) (s : Shared) (H : Hp) (vs : List V) (Q : VK) (E : XK), A.guards = some [] → Room k (A.deeper (envOfC qual (defScope st) s.heap.objs.size f cdv)) → sp vs H Q E →
      ∃ t, PSs (cxOf CX0 P w K mg base N qual (defScope st) f cdv A outer s H E).nox (defBody st) t ∧ t { nx := fun _ H' => Q .non H', rt := Q } (start N vs) H) : FnG P w K mg base CX0 (k + 1) f fd ps sp := by
  obtain ⟨oc, od, kV, doc, pm, an, cdv, ct, osl, rfl, lk, hcd⟩ := F.ex
  refine ⟨len, fun A outer s H args us vs Q E hG hr e0 hb r hsp => ?_⟩
  -- the body's reading is kept for this around alone: elsewhere the promise is not asked
  have inn : K.In s.heap := e0.mod.kin.keeps fun b o e => (e0.bs b o e).1
  have nol : s.heap.NoLimit := e0.mod.nolimit.keeps fun b o e => (e0.bs b o e).1
  have par : ∀ y ∈ ps.zip us, (defScope st).names.lookup y.1 = some .local ∨ ((defScope st).names.lookup y.1 = some .cell ∧ ((cellsFrom (s.heap.objs.size + 1) (defScope st).names []).lookup y.1).isSome = true) := by
    intro y hy
    have hm : y.1 ∈ ps := (List.of_mem_zip (show (y.1, y.2) ∈ ps.zip us from hy)).1
    exact (S.par y.1 hm).imp (fun z => z) fun z => ⟨z, PySem.W.cellsFrom_some _ _ _ (.inl z)⟩
  obtain ⟨t, ht, hq⟩ := hbody cdv A outer s H vs Q E hG (hr.deeper _) hsp
  refine codeAny_call_function hr.depth (inn _ _ lk) rfl S.co S.gen rfl (PySem.W.codeRec_of inn hcd) (hb _ _ _ _ ?_)
  refine wpAny_newFunctionEnv_cells S.kind par fun env he s1 x => ?_
  subst he
  refine ⟨nol.keeps x.toInCall.keep, codeAny_func ?_⟩
  have I := inv_start (CX := CX0) (E := E) S hr.hd e0 (len _ _ _ _ hsp) r x
  refine wpAny_mono (ht.nox.run [] s1 (start N vs) H _ I hq) (fun fl s' hs => ?_) fun e s' hs => hs
  cases fl with
  | ret u =>
    obtain ⟨v, σ', H', J, rv, q⟩ := hs
    exact ⟨v, H', J.os, J.bare, J.base, J.hok, rv, q⟩
  | next =>
    obtain ⟨σ', H', J, q⟩ := hs
    exact ⟨V.non, H', J.os, J.bare, J.base, J.hok, rfl, q⟩
  | brk => exact False.elim hs.choose_spec.choose_spec.2
  | cont => exact False.elim hs.choose_spec.choose_spec.2
theorem deeper_guards {A : Around} {env : Env} (h : A.guards = some []) : (A.deeper env).guards = some [] := h
end
section
variable {X : Cx} {CX : CXT} {k : Nat} {f : Addr} {fd : FuncData} {ps : List Str} {sp : Sp} {dvs : List V} {ds : List Value} {E : XK} {x : Str} {p pos : Pos} {e : Expr} {es : List Expr} {t : TA}
theorem pe_callG (hG : X.A.guards = some []) (F : FnG X.prog X.w X.K X.mg X.base CX k f fd ps sp) (hr : Room k X.A) (hg : Gl X x) (hm : X.mg x = some (.ref f)) (hk : PySem.W.keepIn X.K (.ref f) = true) (hb : Binds X.K fd ps ds) (hd : Vals dvs ds) (hx : Passes CX X E)
    (ha : PA X (e :: es) t) (hdb : (x == ("__debug__" : Str)) = false := by decide) (he : starEach (e :: es) X.env = (false, eval e X.env) :: starEach es X.env := by rfl) (hpl : (backTo pos (starEach es X.env)).any (fun q => q.1) = false := by rfl) :
    PE X (.Call (.Name x p) (e :: es) [] pos) (tCall sp dvs E t) := by
  refine ⟨fun pins s σ H Q I h => wpAny_Call_Name_kw (ld_glob I hg hm ?_ hdb)⟩
  refine PySem.W.callWith_K (h₀ := X.base) I.ok.mod.kin hk (thn (ha.run pos pins s σ H _ I h) fun us s1 hh => ?_) he hpl
  obtain ⟨vs, H1, I1, r, q⟩ := hh
  refine ⟨I1.kIn, ?_⟩
  have r2 : Vals (vs ++ dvs) (us ++ ds) := r.append hd
  have hl : (us ++ ds).length = ps.length := by rw [← r2.length]; exact F.len _ _ _ _ q
  refine wpAny_call (codeAny_mono (F.run X.A X.stack s1 H1 ⟨us, []⟩ (us ++ ds) (vs ++ dvs) Q E hG hr I1.env0 (hb s1 us I1.kIn hl) r2 q) fun r s' hq => ?_)
  match r, hq with
  | .error e, hq => exact hx pins σ H1 s1 e s' I1 hq
  | .ok (.ret u), hq => exact I1.after hq
  | .ok .next, hq => exact False.elim hq
  | .ok .brk, hq => exact False.elim hq
  | .ok .cont, hq => exact False.elim hq
/-- repr of a list or a tuple of plain things -/
def rRepr (K : PySem.W.Frag) : List V → Hp → VK → Prop := fun xs H Q => ∃ (a : Addr) (d : PyData), xs = [.ref a] ∧ Dp K H (.ref a) d ∧ d.showable = true ∧ d.hasDict = false ∧ d.depth ≤ 20 ∧ d.shown.length ≤ sizeLine ∧ Q (.str d.shown) H
theorem call_repr (hG : X.A.guards = some []) (hu : X.A.units + 64 < cLine) : CallR X (.builtin "repr") (rRepr X.K) := by
  intro pins s σ H xs us Q I r h
  obtain ⟨a, d, rfl, hd, hs, hn, hdp, hz, q⟩ := h
  obtain ⟨u, rfl, ru⟩ := vals1 r
  cases (show u = Value.ref a from ru)
  obtain ⟨as, rd⟩ := Dp.reads I d _ _ hd rfl
  exact repr_of_reads' rd hs (fun z => by rw [hn] at z; cases z) hG (by omega) (fun _ _ z => z) (fun h' u tk hk => ⟨.str d.shown, H, I.kept hk, ⟨u, rfl⟩, q⟩) hz
end
/-! ### the law's own call, of a def of that kind -/
section
variable {P : Program} {w : World} {K : PySem.W.Frag} {mg mb : Str → Option Value} {k : Nat} {fa a : Addr} {fd : FuncData} {x : Str} {sp : Sp} {s : Shared} {vs : List Value} {ns : List Int}
/-- the script alone may be tracked: where it is, what of it is known -/
structure Alone (P : Program) (w : World) (K : PySem.W.Frag) (s : Shared) (a : Addr) (ns : List Int) (H : Hp) : Prop where
  only : Only H
  seq : SqL K H a (ns.map V.int)
  ok : HOk P w H s.heap
  at_ : ∀ b u, H b = some u → b = a
  out : ∀ u, H a = some u → K.lookup a = none
theorem alone_ex (inn : K.In s.heap) (ha : s.heap.get? a = some { cls := .type "list", data := .seq vs.toArray }) (hi : IntsAre vs ns) (hl : ns.length ≤ sizeLine) : ∃ H, Alone P w K s a ns H := by
  have rv := vals_ints hi
  cases hk : K.lookup a with
  | some o =>
    obtain rfl : o = { cls := .type "list", data := .seq vs.toArray } := Option.some.inj ((inn a o hk).symm.trans ha)
    refine ⟨fun _ => none, fun _ => .inl rfl, .inr ⟨_, vs.toArray, _, hk, rfl, rfl, rfl, ?_, ?_⟩, fun _ _ z => (by cases z), fun _ _ z => (by cases z), fun _ z => (by cases z)⟩
    · rw [List.size_toArray, hi.length]; exact hl
    · rw [List.toList_toArray]; exact rv
  | none =>
    have one : ∀ b u, (upd (fun _ => none) a (.frz { cls := .type "list", data := .seq vs.toArray } (.lst (ns.map V.int)))) b = some u → b = a := fun b u z => by
      by_cases hb : b = a
      · exact hb
      · rw [upd_ne hb] at z; cases z
    refine ⟨upd (fun _ => none) a (.frz { cls := .type "list", data := .seq vs.toArray } (.lst (ns.map V.int))), fun b => ?_, .inl (.inr ⟨_, upd_same⟩), fun b u z => ?_, one, fun _ _ => hk⟩
    · by_cases hb : b = a
      · subst hb; exact .inr ⟨_, _, upd_same⟩
      · exact .inl (upd_ne hb)
    · obtain rfl := one b u z
      rw [upd_same] at z
      cases z
      exact ⟨ha, by rw [List.length_map]; exact hl, vs, _, rv, ha⟩
theorem law_callG (inn : K.In s.heap) (hns : s.heap.Ns mainGlobals mg) (hb : s.heap.Ns builtinsNs mb) (hbb : ∀ x : Str, x ≠ "__name__" → mb x = bootBuiltins x) (hlim : s.heap.NoLimit) (hg : s.gens = #[])
    (ha : s.heap.get? a = some { cls := .type "list", data := .seq vs.toArray }) (hi : IntsAre vs ns) (hl : ns.length ≤ sizeLine) (hr : Room k callerA)
    (F : ∀ base : Heap, K.In base → base.Ns mainGlobals mg → FnG P w K mg base CX0 k fa fd [x] sp) (hbind : ∀ (s : Shared) (u : Value), BindsTo s fd ⟨[u], []⟩ [(x, u)])
    (hsp : ∀ H : Hp, Only H → SqL K H a (ns.map V.int) → sp [.ref a] H (fun v _ => v = .bl true) fun _ _ _ => False) :
    codeAny (model P w) callerA (.call (.ref fa) ⟨[.ref a], []⟩) (fun r s' => r = .ok (.ret (.bool true)) ∧ OldK s.heap s'.heap ∧ s'.os = s.os ∧ AllBare s'.gens) s := by
  obtain ⟨H, N⟩ := alone_ex (P := P) (w := w) inn ha hi hl
  -- a dict is not the script: it is not tracked
  have free : ∀ {b : Addr} {o : Obj}, s.heap.get? b = some o → (∀ its n, o.data ≠ .seq its n) → H b = none := fun {b o} e z => by
    cases q : H b with
    | none => rfl
    | some u =>
      obtain rfl := N.at_ b u q
      rw [ha] at e
      cases e
      exact absurd rfl (z _ _)
  have space : ∀ {b : Addr} {m : Str → Option Value}, s.heap.Ns b m → (hidT s.heap H).Ns b m := fun {b m} z => by
    obtain ⟨o, es, ep, e, d, r⟩ := z
    exact ⟨o, es, ep, hidT_get e (free e fun _ _ y => by rw [d] at y; cases y), d, r⟩
  have inb : K.In (hidT s.heap H) := fun b o e => hidT_get (inn b o e) (by
    cases q : H b with
    | none => rfl
    | some u =>
      obtain rfl := N.at_ b u q
      rw [N.out u q] at e
      cases e)
  have md : Mod K mg (hidT s.heap H) := by
    obtain ⟨mc, l1, l2⟩ := hlim
    exact ⟨inb, space hns, ⟨mb, space hb, hbb⟩, mc, space l1, l2⟩
  have e0 : Env0 P w K mg (hidT s.heap H) callerA [] s H := ⟨rfl, md, fun _ _ e => of_hidT e, Nat.le_of_eq (hidT_size _ _), trivial, fun _ z => (nomatch z), N.ok, .of_eq hg⟩
  refine codeAny_mono ((F _ inb (space hns)).run callerA [] s H ⟨[.ref a], []⟩ [.ref a] [.ref a] _ _ rfl hr e0 (hbind s (.ref a)) (.cons rfl .nil) (hsp H N.only N.seq)) fun r s' h => ?_
  match r, h with
  | .error e, h => exact False.elim h
  | .ok .next, h => exact False.elim h
  | .ok .brk, h => exact False.elim h
  | .ok .cont, h => exact False.elim h
  | .ok (.ret u), h =>
    obtain ⟨v, H', os, bare, un, ok', r', q⟩ := h
    obtain rfl : v = .bl true := q
    obtain rfl : u = Value.bool true := r'
    refine ⟨rfl, OldK.of_keep fun b o e => ?_, os, bare⟩
    cases q : H b with
    | none => exact un.keep b o e q (fun z => (nomatch z)) (fun z => (nomatch z))
    | some u =>
      rcases N.only b with z | ⟨ob, xs, z⟩
      · rw [q] at z; cases z
      · have e1 : s.heap.get? b = some ob := (show ObjOk P w H s.heap b (.frz ob (.lst xs)) from N.ok b _ z).1
        have e2 : s'.heap.get? b = some ob := (show ObjOk P w H' s'.heap b (.frz ob (.lst xs)) from ok' b _ (un.frzs b ob _ z)).1
        exact (Option.some.inj (e.symm.trans e1)) ▸ e2
end
theorem walk_ofG {l : PySem.W.OpenLaw} {n k : Nat} {q : Program} {loose : List Str} {XP : (Str → Option Value) → Heap → Prop} {YP : World → Heap → Prop} {d : DefRec} {K : Params → PySem.W.Frag} {sp : World → Sp} {x : Str}
    (hn : l.most = some n) (hn2 : n ≤ sizeLine) (hdf : d.params.defaults = []) (hr : Room k callerA) (hY : ∀ (w : World) (h : Heap), YP w h → (K w.params).In h)
    (F : ∀ (w : World) (mg : Str → Option Value) (fa : Addr) (h : Heap), (K w.params).In h → h.Ns mainGlobals mg → mg d.name = some (.ref fa) →
      ∃ fd : FuncData, (∀ (s : Shared) (u : Value), BindsTo s fd ⟨[u], []⟩ [(x, u)]) ∧ ∀ base : Heap, (K w.params).In base → base.Ns mainGlobals mg → FnG l.prog w (K w.params) mg base CX0 k fa fd [x] (sp w))
    (hsp : ∀ (w : World) (H : Hp) (a : Addr) (ns : List Int), ns.length ≤ n → Only H → SqL (K w.params) H a (ns.map V.int) → sp w [.ref a] H (fun v _ => v = .bl true) fun _ _ _ => False) :
    PySem.W.WalkO q loose XP YP l.row.toRowW d [] (fun f vs => PySem.call f vs) := by
  refine Att.attach_call hn hdf fun w s0 s1 mg mb fa o pm cd doc a vs ns G Y ho hd hcd hmg hobj hints hlen hg => ?_
  obtain ⟨fd, hb, hF⟩ := F w mg fa _ (hY w _ Y) G.T.g hmg
  exact law_callG (hY w _ Y) G.T.g G.T.b G.T.builtins G.T.nolimit hg hobj hints (Nat.le_trans hlen hn2) hr hF hb fun H hO hS => hsp w H a ns hlen hO hS
/-! ### new instances whose __init__ may raise, within a try: what is raised is wished for at the slots -/
section
variable {X : Cx} {CX : CXT} {k : Nat} {f C : Addr} {fd : FuncData} {ps ks : List Str} {sp : Sp} {x : Str} {p pos : Pos} {e : Expr} {es : List Expr} {kws : List Keyword} {t tk : TA} {g : List Value → List Value → List Value} {gV : List V → List V → List V}
theorem run_makeA {pins : List (Addr × Obj)} {σ : L2.St} {H : Hp} {s : Shared} {Q : VK} {E : XK} {us : List Value} {kw : List (Str × Value)} {fu : Value → List Value} {fv : V → List V} (M : Mk X.K C f) (F : FnOk X.prog X.w X.K X.mg X.base CX k f fd ps sp) (hr : Room (k + 1) X.A)
    (hb : ∀ (s' : Shared) (v : Value), X.K.In s'.heap → BindsTo s' fd ⟨v :: us, kw⟩ (ps.zip (fu v))) (rr : ∀ a : Addr, Vals (fv (.ref a)) (fu (.ref a))) (hx : PassesAt CX X σ E) (I : Inv X pins σ H s)
    (h : ∀ x dx, H x = none → H dx = none → dx ≠ x → sp (fv (.ref x)) (upd (upd H dx (.own x)) x (.ins C dx [])) (fun v H2 => v = .non ∧ Q (.ref x) H2) E) :
    wpAny (model X.prog X.w) X.A (call (.ref C) us kw) (EP X pins σ Q) X.xe s := by
  have I2 := Inv.made (C := C) I
  have hq := h (s.heap.objs.size + 1) s.heap.objs.size (I.hok.fresh (Nat.le_succ _)) (I.hok.fresh (Nat.le_refl _)) (Nat.ne_of_lt (Nat.lt_succ_self _))
  refine wpAny_call (make_map (f := f) I.kIn M.makes M.init (beq_iff_eq.mp M.fn) (codeAny_mono (F.run _ X.stack _ _ ⟨Value.ref (s.heap.objs.size + 1) :: us, kw⟩ (fu (.ref (s.heap.objs.size + 1))) (fv (.ref (s.heap.objs.size + 1))) _ E
    (hr.make C us kw) (I2.env0.make C us kw) (hb _ _ I2.kIn) (rr _) hq) fun r s' z => ?_))
  match r, z with
  | .error e, z => exact hx pins _ _ e s' I2 z
  | .ok .next, z => exact False.elim z
  | .ok .brk, z => exact False.elim z
  | .ok .cont, z => exact False.elim z
  | .ok (.ret u), z =>
    obtain ⟨v, H', I3, rv, rfl, q3⟩ := I2.after z
    exact ⟨rv, .ref (s.heap.objs.size + 1), H', I3, rfl, q3⟩
def tMakeS (C : Addr) (sp : Sp) (E : L2.St → XK) (t : TA) : TE := fun σ H Q => t σ H fun vs H1 => ∀ x dx, H1 x = none → H1 dx = none → dx ≠ x → sp (.ref x :: vs) (upd (upd H1 dx (.own x)) x (.ins C dx [])) (fun v H2 => v = .non ∧ Q (.ref x) H2) (E σ)
def tMakeKS (C : Addr) (m : Nat) (sp : Sp) (gV : List V → List V → List V) (E : L2.St → XK) (tk : TA) : TE := fun σ H Q => tk σ H fun zs H1 => zs.length = m ∧ ∀ x dx, H1 x = none → H1 dx = none → dx ≠ x → sp (gV [.ref x] zs) (upd (upd H1 dx (.own x)) x (.ins C dx [])) (fun v H2 => v = .non ∧ Q (.ref x) H2) (E σ)
theorem pe_makeS {E : L2.St → XK} (M : Mk X.K C f) (F : FnOk X.prog X.w X.K X.mg X.base CX k f fd ps sp) (hr : Room (k + 1) X.A) (hg : Gl X x) (hm : X.mg x = some (.ref C)) (hb : Binds X.K fd ps []) (hx : ∀ σ, PassesAt CX X σ (E σ)) (ha : PA X (e :: es) t)
    (hdb : (x == ("__debug__" : Str)) = false := by decide) (he : starEach (e :: es) X.env = (false, eval e X.env) :: starEach es X.env := by rfl) (hpl : (backTo pos (starEach es X.env)).any (fun q => q.1) = false := by rfl) :
    PE X (.Call (.Name x p) (e :: es) [] pos) (tMakeS C sp E t) := by
  refine ⟨fun pins s σ H Q I h => wpAny_Call_Name_kw (ld_glob I hg hm ?_ hdb)⟩
  refine PySem.W.callWith_K (h₀ := X.base) I.ok.mod.kin M.kp (thn (ha.run pos pins s σ H _ I h) fun us s1 hh => ?_) he hpl
  obtain ⟨vs, H1, I1, r, q⟩ := hh
  refine ⟨I1.kIn, ?_⟩
  have hq := q (s1.heap.objs.size + 1) s1.heap.objs.size (I1.hok.fresh (Nat.le_succ _)) (I1.hok.fresh (Nat.le_refl _)) (Nat.ne_of_lt (Nat.lt_succ_self _))
  have hl := F.len _ _ _ _ hq
  have hl2 : vs.length = us.length := r.length
  refine run_makeA (fu := fun v => v :: us) (fv := fun v => v :: vs) M F hr (fun s' v inn => ?_) (fun a => .cons rfl r) (hx σ) I1 q
  have z := hb s' (v :: us) inn (by rw [List.append_nil, List.length_cons, ← hl2]; exact hl)
  rw [List.append_nil] at z
  exact z
theorem pe_makeKS {E : L2.St → XK} (M : Mk X.K C f) (F : FnOk X.prog X.w X.K X.mg X.base CX k f fd ps sp) (hr : Room (k + 1) X.A) (hg : Gl X x) (hm : X.mg x = some (.ref C)) (hb : KBn X.K fd ps 1 ks g gV) (hx : ∀ σ, PassesAt CX X σ (E σ)) (hkw : PK X kws tk)
    (hall : (backToKw pos (keywordEach kws X.env)).all (fun q => q.1.isSome) = true := by rfl) (hks : (backToKw pos (keywordEach kws X.env)).filterMap (fun q => q.1) = ks := by rfl) (hdb : (x == ("__debug__" : Str)) = false := by decide)
    (hpl : ((backTo pos (starEach [] X.env)).any (fun q => q.1) || (backToKw pos (keywordEach kws X.env)).any (fun q => q.1.isNone)) = false := by rfl) :
    PE X (.Call (.Name x p) [] kws pos) (tMakeKS C ks.length sp gV E tk) := by
  refine ⟨fun pins s σ H Q I h => wpAny_Call_Name_kw (ld_glob I hg hm ?_ hdb)⟩
  refine PySem.W.callWith_KW0 (h₀ := X.base) I.ok.mod.kin M.kp hall (thn (hkw.run pos pins s σ H _ I h) fun ws s2 hh => ?_) hpl
  obtain ⟨zs, H2, I2, rz, l2, q2⟩ := hh
  refine ⟨I2.kIn, ?_⟩
  rw [hks]
  exact run_makeA (fu := fun v => g [v] ws) (fv := fun v => gV [v] zs) M F hr (fun s' v inn => hb.to s' [v] ws inn rfl (rz.length.symm.trans l2)) (fun a => hb.rel (.cons rfl .nil) rz) (hx σ) I2 q2
theorem kb_mk1 {K : PySem.W.Frag} {x qual : Str} {st : Stmt} {f : Addr} {fd : FuncData} {ps ks : List Str} {g : List Value → List Value → List Value} {gV : List V → List V → List V} (F : Fun K x qual st f fd)
    (h : ∀ (kV doc pm : Value) (an : Option Addr) (cdv ct : Value) (v : Value) (ws : List Value), ws.length = ks.length → bindArgs (PySem.W.fnOf x qual (defArgs st) (defBody st) (defScope st) .none kV doc pm an cdv ct) ⟨[v], ks.zip ws⟩ = pure (ps.zip (g [v] ws)))
    (hrel : ∀ {vs : List V} {us : List Value} {zs : List V} {ws : List Value}, Vals vs us → Vals zs ws → Vals (gV vs zs) (g us ws)) : KBn K fd ps 1 ks g gV := by
  obtain ⟨oc, od, kV, doc, pm, an, cdv, ct, osl, rfl, lk, hcd⟩ := F.ex
  refine ⟨fun s us ws _ l1 l2 => ?_, hrel⟩
  match us, l1 with
  | [v], _ => exact .of_eq (h kV doc pm an cdv ct v ws l2)
/-- isinstance(e, C), e the caught exception, where its class is C or below it -/
def rIsEp (K : PySem.W.Frag) (cls : Value) (a : Addr) : List V → Hp → VK → Prop := fun xs H Q => ∃ C' : Addr, xs = [.ref a, .ref C'] ∧ PySem.W.isIn K cls C' = true ∧ Q (.bl true) H
theorem call_isEp {a : Addr} {oe : Obj} {cls : Value} {d : Option Addr} {pn : List (Addr × Obj)} (hz : Zc cls d oe) : CallR (X.suite a ((a, oe) :: pn)) (.builtin "isinstance") (rIsEp X.K cls a) := by
  intro pins s σ H xs us Q I r h
  obtain ⟨C', rfl, e, q⟩ := h
  obtain ⟨u1, u2, rfl, r1, r2⟩ := vals2 r
  cases (show u1 = Value.ref a from r1)
  cases (show u2 = Value.ref C' from r2)
  obtain ⟨hget, _⟩ := I.pin (a, oe) (List.mem_append.mpr (.inl List.mem_cons_self))
  exact PySem.W.isi_call I.kIn (fun M A Q E s k q => wpAny_typeOf_ref (k _ _ hget) (by rw [hz.1]; exact q)) e (fun z => nomatch z) ⟨.bl true, H, I, rfl, q⟩
end
section
variable {σ : L2.St} {H : Hp} {Q : VK} {K : PySem.W.Frag} {C : Addr} {sp : Sp} {D : Ends}
theorem r_makeS {E : L2.St → XK} {t : TA} (h : t σ H fun vs H1 => ∀ x dx, H1 x = none → H1 dx = none → dx ≠ x → sp (.ref x :: vs) (upd (upd H1 dx (.own x)) x (.ins C dx [])) (fun v H2 => v = .non ∧ Q (.ref x) H2) (E σ)) : tMakeS C sp E t σ H Q := h
theorem r_makeKS {m : Nat} {gV : List V → List V → List V} {E : L2.St → XK} {tk : TA} (h : tk σ H fun zs H1 => zs.length = m ∧ ∀ x dx, H1 x = none → H1 dx = none → dx ≠ x → sp (gV [.ref x] zs) (upd (upd H1 dx (.own x)) x (.ins C dx [])) (fun v H2 => v = .non ∧ Q (.ref x) H2) (E σ)) : tMakeKS C m sp gV E tk σ H Q := h
theorem r_xf {a : Addr} {cls : Value} {d : Option Addr} {f : Str} {te : TE} (h : te σ H fun x H1 => x = .ref a ∧ cls = .ref C ∧ ∃ (dd : Addr) (fs : List (Str × V)) (v : V), d = some dd ∧ H1 dd = some (.xd fs) ∧ fs.lookup f = some v ∧ Q v H1) : tXf a cls d C f te σ H Q := h
theorem r_isEp {cls : Value} {a C' : Addr} (e : PySem.W.isIn K cls C' = true) (h : Q (.bl true) H) : rIsEp K cls a [.ref a, .ref C'] H Q := ⟨C', rfl, e, h⟩
/-- self.f = e in an exception's __init__: the first field, a later one -/
theorem r_ost {f : Str} {to te : TE} (h : te σ H fun y H1 => to σ H1 fun x H2 => ∃ a C : Addr, x = .ref a ∧ OexC K C ∧ PySem.W.findIn K (.ref C) f = some none ∧
  ((H2 a = some (exo a C none) ∧ ∀ dx, H2 dx = none → dx ≠ a → D.nx σ (upd (upd H2 dx (exd dx [(f, y)])) a (exo a C (some dx)))) ∨
    ∃ (dx : Addr) (fs : List (Str × V)), H2 a = some (exo a C (some dx)) ∧ H2 dx = some (exd dx fs) ∧ fs.length ≤ 900 ∧ D.nx σ (upd H2 dx (exd dx ((f, y) :: fs))))) : tOst K f to te D σ H := h
theorem r_ost1 {a : Addr} {f : Str} {F G : Addr → Addr → Prop} {Z : Addr → Addr → Prop} (T : OexC K C) (n : PySem.W.findIn K (.ref C) f = some none) (ha : H a = some (exo a C none)) (h : F a C) : ∃ a' C : Addr, V.ref a = .ref a' ∧ OexC K C ∧ PySem.W.findIn K (.ref C) f = some none ∧ ((H a' = some (exo a' C none) ∧ F a' C) ∨ G a' C) := ⟨a, C, rfl, T, n, .inl ⟨ha, h⟩⟩
end
/-! ### wrappers that name the written part: for comprehensions, try bodies, suites -/
section
variable {X : Cx} {K : PySem.W.Frag} {o e : Expr} {f : Str} {ta te : TE} {pos : Pos}
theorem pe_fldK (ha : PE X o ta) (hK : X.K = K := by rfl) (hb : attributeBase o f X.env (eval o X.env) = eval o X.env := by rfl) : PE X (.Attribute o f pos) (tFld K ta f) := by
  subst hK
  exact pe_fld ha hb
end
/-! ### a + b by an own def that may raise, within a try -/
def tBinS (C : Addr) (sp : Sp) (E : L2.St → XK) (ta tb : TE) : TE := fun σ H Q => ta σ H fun x H1 => tb σ H1 fun y H2 => ∃ a dx fs b dy gs, x = .ref a ∧ y = .ref b ∧ H2 a = some (.ins C dx fs) ∧ H2 b = some (.ins C dy gs) ∧ sp [x, y] H2 Q (E σ)
section
variable {X : Cx} {CX : CXT} {k : Nat} {g C : Addr} {fd : FuncData} {ps : List Str} {sp : Sp} {a b : Expr} {ta tb : TE} {pos : Pos} {op : Operator}
theorem pe_binS {E : L2.St → XK} (hc : PySem.W.selfFirst X.K C = true) (hs : PySem.W.findIn X.K (.ref C) (PySem.dunder op.info.2) = some (some (.ref g))) (hf : PySem.W.isFn X.K (.ref g) = true) (F : FnOk X.prog X.w X.K X.mg X.base CX k g fd ps sp) (hr : Room k X.A) (hb : Binds X.K fd ps []) (hx : ∀ σ, PassesAt CX X σ (E σ))
    (h1 : PE X a ta) (h2 : PE X b tb) : PE X (.BinOp a op b pos) (tBinS C sp E ta tb) := by
  refine ⟨fun pins s σ H Q I h => wpAny_BinOp (binT h1 h2 I h fun v u s2 x y H2 I2 rx ry q => ?_)⟩
  obtain ⟨p, dx, fs, r, dy, gs, rfl, rfl, ha, hb', q⟩ := q
  cases (show v = Value.ref p from rx)
  cases (show u = Value.ref r from ry)
  obtain ⟨ox, od, J⟩ := inst_at I2 ha
  obtain ⟨oy, oe, J'⟩ := inst_at I2 hb'
  obtain ⟨m, hF⟩ := I2.fr
  refine PySem.W.binop_K (op := op) hF I2.ok.mod.kin J J'.type hc hs hf (wpAny_mono (run_fnS (us := [.ref p, .ref r]) (vs := [.ref p, .ref r]) F hr hb (hx σ) I2 (.cons rfl (.cons rfl .nil)) q) (fun w s' z => ?_) fun _ _ e => e)
  obtain ⟨z', H', I', rz, qz⟩ := z
  exact cmpb rz ⟨z', H', I', rz, qz⟩
end
theorem r_binS {σ : L2.St} {H : Hp} {Q : VK} {C : Addr} {sp : Sp} {E : L2.St → XK} {ta tb : TE} (h : ta σ H fun x H1 => tb σ H1 fun y H2 => ∃ a dx fs b dy gs, x = .ref a ∧ y = .ref b ∧ H2 a = some (.ins C dx fs) ∧ H2 b = some (.ins C dy gs) ∧ sp [x, y] H2 Q (E σ)) : tBinS C sp E ta tb σ H Q := h
/-! ### ends: None or an int -/
def endV : Option Int → V
  | none => .non
  | some i => .int i
def endD : Option Int → PyData
  | none => .none
  | some i => .int i
/-- a small end: what repr takes -/
def EndOk (e : Option Int) : Prop := ∀ i, e = some i → -(10 ^ 60) < i ∧ i < 10 ^ 60
theorem log_ok {i : Int} (h : -(10 ^ 60) < i ∧ i < 10 ^ 60) : i.natAbs.log2 < 1920 := by
  have h1 : i.natAbs < 2 ^ 200 := by
    have : i.natAbs < 10 ^ 60 := by omega
    exact Nat.lt_trans this (by decide)
  have h2 : i.natAbs.log2 < 200 := by
    by_cases e : i.natAbs = 0
    · rw [e]; decide
    · exact (Nat.log2_lt e).mpr h1
  omega
theorem dp_end {K : PySem.W.Frag} {H : Hp} (e : Option Int) : Dp K H (endV e) (endD e) := by
  cases e with
  | none => exact .non
  | some i => exact .int i
theorem show_end {e : Option Int} (h : EndOk e) : (endD e).showable = true := by
  cases e with
  | none => rfl
  | some i => exact decide_eq_true (log_ok (h i rfl))
theorem len_end {e : Option Int} (h : EndOk e) : ((endD e).shown).length ≤ 2000 := by
  cases e with
  | none => decide +kernel
  | some i => exact Nat.le_trans (PyProof.Rows.int_text_len_1921 (log_ok (h i rfl))) (by decide)
section
variable {H : Hp} {Q : VK} {K : PySem.W.Frag} {X : Cx}
def rIsNo : R2 := fun x y H Q => y = .non ∧ Q (.bl (decide (x = .non))) H
def rNotNo : R2 := fun x y H Q => y = .non ∧ Q (.bl (!decide (x = .non))) H
theorem o_isN : OpR X (compareOp .Is) rIsNo := op_isN
theorem o_notN : OpR X (compareOp .IsNot) rNotNo := op_notN
theorem r_isNe {e : Option Int} (h : Q (.bl (!e.isSome)) H) : rIsNo (endV e) .non H Q := by
  cases e with
  | none => exact ⟨rfl, h⟩
  | some i => exact ⟨rfl, h⟩
theorem r_notNe {e : Option Int} (h : Q (.bl e.isSome) H) : rNotNo (endV e) .non H Q := by
  cases e with
  | none => exact ⟨rfl, h⟩
  | some i => exact ⟨rfl, h⟩
theorem r_isNi {i : Int} (h : Q (.bl false) H) : rIsNo (.int i) .non H Q := ⟨rfl, h⟩
theorem r_isNn (h : Q (.bl true) H) : rIsNo .non .non H Q := ⟨rfl, h⟩
theorem r_isNr {a : Addr} (h : Q (.bl false) H) : rIsNo (.ref a) .non H Q := ⟨rfl, h⟩
theorem r_notNi {i : Int} (h : Q (.bl true) H) : rNotNo (.int i) .non H Q := ⟨rfl, h⟩
theorem r_notNn (h : Q (.bl false) H) : rNotNo .non .non H Q := ⟨rfl, h⟩
theorem r_notNr {a : Addr} (h : Q (.bl true) H) : rNotNo (.ref a) .non H Q := ⟨rfl, h⟩
/-- repr of a list of two ends -/
theorem r_repr2 {a : Addr} {b c : Option Int} (h : H a = some (.lst [endV b, endV c])) (hb : EndOk b) (hc : EndOk c) (q : Q (.str (PyData.list [endD b, endD c]).shown) H) : rRepr K [.ref a] H Q := by
  refine ⟨a, .list [endD b, endD c], rfl, .lst (SqL.of h) (.cons (dp_end b) (.cons (dp_end c) .nil)), ?_, ?_, ?_, ?_, q⟩
  · show ((endD b).showable && ((endD c).showable && true)) = true
    rw [show_end hb, show_end hc]; rfl
  · cases b <;> cases c <;> rfl
  · cases b <;> cases c <;> exact Nat.le_of_ble_eq_true rfl
  · have h1 := len_end hb
    have h2 := len_end hc
    have h3 := listText_len_le (PyData.shownAll [endD b, endD c])
    have h4 : (PyData.shownAll [endD b, endD c]).length = 2 := rfl
    have h5 : ((PyData.shownAll [endD b, endD c]).map (fun t => t.length)).sum = (endD b).shown.length + ((endD c).shown.length + 0) := rfl
    show (listText (PyData.shownAll [endD b, endD c])).length ≤ sizeLine
    rw [h5, h4] at h3
    exact Nat.le_trans h3 (Nat.le_trans (show _ ≤ 5000 by omega) (by decide))
end
/-! ### stretches -/
def turnedB : Option Int → Option Int → Bool
  | some a, some b => decide (b < a)
  | _, _ => false
def loB : Option Int → Int → Bool
  | none, _ => true
  | some a, n => decide (a ≤ n)
def hiB : Option Int → Int → Bool
  | none, _ => true
  | some b, n => decide (n ≤ b)
def inB (lo hi : Option Int) (n : Int) : Bool := loB lo n && hiB hi n
def strF (lo hi : Option Int) : List (Str × V) := putF "high" (endV hi) (putF "low" (endV lo) [])
theorem n_lh : ¬ (("low" : Str) = "high") := by decide +kernel
theorem str_low (lo hi : Option Int) : (strF lo hi).lookup ("low" : Str) = some (endV lo) := by
  unfold strF
  rw [lookup_putF, if_neg n_lh, lookup_putF, if_pos rfl]
theorem str_high (lo hi : Option Int) : (strF lo hi).lookup ("high" : Str) = some (endV hi) := by
  unfold strF
  rw [lookup_putF, if_pos rfl]
theorem str_no (lo hi : Option Int) {m : Str} (h1 : ¬ m = "high") (h2 : ¬ m = "low") : (strF lo hi).lookup m = none := by
  unfold strF
  rw [lookup_putF, if_neg h1, lookup_putF, if_neg h2]
  rfl
theorem putF_len (f : Str) (v : V) : ∀ fs : List (Str × V), (putF f v fs).length ≤ fs.length + 1
  | [] => Nat.le_refl _
  | (g, x) :: r => by
    unfold putF
    split
    · show r.length + 1 ≤ r.length + 1 + 1
      omega
    · show (putF f v r).length + 1 ≤ r.length + 1 + 1
      have := putF_len f v r
      omega
def StrAt (C : Addr) (H : Hp) (p : Addr) (lo hi : Option Int) : Prop := ∃ dx, H p = some (.ins C dx (strF lo hi))
theorem StrAt.same {C : Addr} {H H' : Hp} {p : Addr} {lo hi : Option Int} (h : StrAt C H p lo hi) (s : Same H H') : StrAt C H' p lo hi := by
  obtain ⟨dx, e⟩ := h
  exact ⟨dx, s _ _ e⟩
/-- what is no list is not among the draws -/
theorem Ext.keep {d c r : Addr} {H H' : Hp} {b : Addr} {o : HO} (e : Ext d r H H') (D : Drw H d c r) (h : H b = some o) (n : ∀ xs, o ≠ .lst xs) : H' b = some o := by
  obtain ⟨_, _, _, _, _, _, h1, _, h3, _⟩ := D
  exact e b o h (ne_of h h1 (n _)) (ne_of h h3 (n _))
theorem StrAt.ext {C : Addr} {H H' : Hp} {p d c r : Addr} {lo hi : Option Int} (h : StrAt C H p lo hi) (e : Ext d r H H') (D : Drw H d c r) : StrAt C H' p lo hi := by
  obtain ⟨dx, z⟩ := h
  exact ⟨dx, e.keep D z fun _ q => nomatch q⟩
/-- the dict of a TurnedStretch -/
def turnF (lo hi : Option Int) : List (Str × V) := [("high", endV hi), ("low", endV lo)]
theorem turn_low (lo hi : Option Int) : (turnF lo hi).lookup ("low" : Str) = some (endV lo) := by
  unfold turnF
  rw [lookup_put, if_neg n_lh, lookup_put, if_pos rfl]
theorem turn_high (lo hi : Option Int) : (turnF lo hi).lookup ("high" : Str) = some (endV hi) := by
  unfold turnF
  rw [lookup_put, if_pos rfl]
def spTInit (C : Addr) : Sp := fun vs H Q _ => ∃ (a : Addr) (lo hi : Option Int), vs = [.ref a, endV lo, endV hi] ∧ H a = some (exo a C none) ∧
  ∀ (dx : Addr) (H' : Hp), H dx = none → H' a = some (exo a C (some dx)) → H' dx = some (exd dx (turnF lo hi)) → (∀ b o, H b = some o → b ≠ a → H' b = some o) → Q .non H'
def spSInit (C CT : Addr) : Sp := fun vs H Q E => ∃ (p dx : Addr) (lo hi : Option Int), vs = [.ref p, endV lo, endV hi] ∧ H p = some (.ins C dx []) ∧
  (turnedB lo hi = true → ∀ (d : Addr) (H' : Hp), H d = none → H' d = some (.xd (turnF lo hi)) → Same H H' → E (.ref CT) (some d) H') ∧
  (turnedB lo hi = false → ∀ H', StrAt C H' p lo hi → (∀ b o, H b = some o → b ≠ p → H' b = some o) → Q .non H')
def spSIn (C : Addr) : Sp := fun vs H Q _ => ∃ (p : Addr) (lo hi : Option Int) (n : Int), vs = [.ref p, .int n] ∧ StrAt C H p lo hi ∧ Q (.bl (inB lo hi n)) H
/-! ### flat data: None, truths, ints, texts, in a list or a tuple; repr and == of these -/
def vD : V → PyData
  | .non => .none
  | .bl b => .bool b
  | .int i => .int i
  | .str x => .str x
  | _ => .none
def okD : V → Prop
  | .non => True
  | .bl _ => True
  | .int i => -(10 ^ 60) < i ∧ i < 10 ^ 60
  | .str x => (reprText x).length ≤ 1000 ∧ PyData.strOk x = true
  | _ => False
/-- what may be compared: no bound on ints -/
def eqD : V → Prop
  | .non => True
  | .bl _ => True
  | .int _ => True
  | .str x => PyData.strOk x = true
  | _ => False
theorem okD.eq {v : V} (h : okD v) : eqD v := by
  cases v <;> first | exact trivial | exact h.2 | exact h.elim
theorem log_okI {i : Int} (h : -(10 ^ 60) < i ∧ i < 10 ^ 60) : i.natAbs.log2 < 1920 := by
  have h1 : i.natAbs < 2 ^ 200 := by
    have : i.natAbs < 10 ^ 60 := by omega
    exact Nat.lt_trans this (by decide)
  have h2 : i.natAbs.log2 < 200 := by
    by_cases e : i.natAbs = 0
    · rw [e]; decide
    · exact (Nat.log2_lt e).mpr h1
  omega
theorem dp_vD {K : PySem.W.Frag} {H : Hp} {v : V} (h : eqD v) : Dp K H v (vD v) := by
  cases v with
  | non => exact .non
  | bl b => exact .bl b
  | int i => exact .int i
  | str x => exact .str x
  | byt b => exact h.elim
  | flt b => exact h.elim
  | ref a => exact h.elim
  | ty n => exact h.elim
theorem dpAll_vD {K : PySem.W.Frag} {H : Hp} : ∀ {vs : List V}, (∀ v ∈ vs, eqD v) → DpAll K H vs (vs.map vD)
  | [], _ => .nil
  | v :: vs, h => .cons (dp_vD (h v List.mem_cons_self)) (dpAll_vD fun w hw => h w (List.mem_cons_of_mem _ hw))
theorem show_vD : ∀ {vs : List V}, (∀ v ∈ vs, okD v) → PyData.showableAll (vs.map vD) = true
  | [], _ => rfl
  | v :: vs, h => by
    have h1 := h v List.mem_cons_self
    have e : (vD v).showable = true := by
      cases v <;> first | rfl | exact decide_eq_true (log_okI h1)
    show ((vD v).showable && PyData.showableAll (vs.map vD)) = true
    rw [e, show_vD fun w hw => h w (List.mem_cons_of_mem _ hw)]
    rfl
theorem dict_vD : ∀ (vs : List V), PyData.hasDictAll (vs.map vD) = false
  | [] => rfl
  | v :: vs => by
    show ((vD v).hasDict || PyData.hasDictAll (vs.map vD)) = false
    rw [dict_vD vs]
    cases v <;> rfl
theorem depth_vD : ∀ (vs : List V), PyData.depthAll (vs.map vD) = 0
  | [] => rfl
  | v :: vs => by
    show max (vD v).depth (PyData.depthAll (vs.map vD)) = 0
    rw [depth_vD vs]
    cases v <;> rfl
theorem len_vD : ∀ {vs : List V}, (∀ v ∈ vs, okD v) → (PyData.shownAll (vs.map vD)).length = vs.length ∧ ((PyData.shownAll (vs.map vD)).map (fun t => t.length)).sum ≤ 2000 * vs.length
  | [], _ => ⟨rfl, Nat.le_refl _⟩
  | v :: vs, h => by
    obtain ⟨i1, i2⟩ := len_vD (vs := vs) fun w hw => h w (List.mem_cons_of_mem _ hw)
    have h1 := h v List.mem_cons_self
    have e : ((vD v).shown).length ≤ 2000 := by
      cases v with
      | non => decide +kernel
      | bl b => cases b <;> decide +kernel
      | int i => exact Nat.le_trans (PyProof.Rows.int_text_len_1921 (log_okI h1)) (by decide)
      | str x => exact Nat.le_trans h1.1 (by decide)
      | byt b => exact h1.elim
      | flt b => exact h1.elim
      | ref a => exact h1.elim
      | ty n => exact h1.elim
    refine ⟨?_, ?_⟩
    · show (PyData.shownAll (vs.map vD)).length + 1 = vs.length + 1
      rw [i1]
    · show (((vD v).shown).length :: (PyData.shownAll (vs.map vD)).map (fun t => t.length)).sum ≤ 2000 * (vs.length + 1)
      rw [List.sum_cons]
      omega
section
variable {H : Hp} {Q : VK} {K : PySem.W.Frag} {a b : Addr} {vs ws : List V}
def tupD (vs : List V) : PyData := .tuple (vs.map vD)
def lstD (vs : List V) : PyData := .list (vs.map vD)
theorem r_reprT (h : SqT K H a vs) (hv : ∀ v ∈ vs, okD v) (hl : vs.length ≤ 50) (q : Q (.str (tupD vs).shown) H) : rRepr K [.ref a] H Q := by
  refine ⟨a, tupD vs, rfl, .tup h (dpAll_vD fun v hw => (hv v hw).eq), show_vD hv, dict_vD vs, ?_, ?_, q⟩
  · show PyData.depthAll (vs.map vD) + 1 ≤ 20
    rw [depth_vD]
    decide
  · obtain ⟨i1, i2⟩ := len_vD hv
    have h3 := tupleText_len_le (PyData.shownAll (vs.map vD))
    rw [i1] at h3
    exact Nat.le_trans h3 (Nat.le_trans (show _ ≤ 200000 by omega) (by decide))
theorem r_reprL (h : SqL K H a vs) (hv : ∀ v ∈ vs, okD v) (hl : vs.length ≤ 50) (q : Q (.str (lstD vs).shown) H) : rRepr K [.ref a] H Q := by
  refine ⟨a, lstD vs, rfl, .lst h (dpAll_vD fun v hw => (hv v hw).eq), show_vD hv, dict_vD vs, ?_, ?_, q⟩
  · show PyData.depthAll (vs.map vD) + 1 ≤ 20
    rw [depth_vD]
    decide
  · obtain ⟨i1, i2⟩ := len_vD hv
    have h3 := listText_len_le (PyData.shownAll (vs.map vD))
    rw [i1] at h3
    exact Nat.le_trans h3 (Nat.le_trans (show _ ≤ 200000 by omega) (by decide))
theorem lay_vD : ∀ {vs : List V}, (∀ v ∈ vs, eqD v) → PyData.canLayAll0 (vs.map vD) = true
  | [], _ => rfl
  | v :: vs, h => by
    have h1 := h v List.mem_cons_self
    have e : (vD v).canLay0 = true := by cases v <;> first | rfl | exact h1
    show ((vD v).canLay0 && PyData.canLayAll0 (vs.map vD)) = true
    rw [e, lay_vD fun w hw => h w (List.mem_cons_of_mem _ hw)]
    rfl
theorem shaped_tup (h : ∀ v ∈ vs, eqD v) : SeqAt.shaped (tupD vs) = true := by
  unfold SeqAt.shaped
  rw [show (tupD vs).canLay0 = true from lay_vD h]
  show decide (PyData.depthAll (vs.map vD) + 1 ≤ 64) = true
  rw [depth_vD]
  rfl
theorem shaped_lst (h : ∀ v ∈ vs, eqD v) : SeqAt.shaped (lstD vs) = true := by
  unfold SeqAt.shaped
  rw [show (lstD vs).canLay0 = true from lay_vD h]
  show decide (PyData.depthAll (vs.map vD) + 1 ≤ 64) = true
  rw [depth_vD]
  rfl
/-- equality of flat data of the same kinds, place by place -/
def sameKind : V → V → Bool
  | .int _, .bl _ => false
  | .bl _, .int _ => false
  | _, _ => true
theorem eqv_vD {x y : V} (hx : eqD x) (hy : eqD y) (k : sameKind x y = true) : PyData.eqv (vD x) (vD y) = decide (x = y) := by
  cases x <;> cases y <;> first
    | exact hx.elim
    | exact hy.elim
    | (cases k; done)
    | rfl
    | (rw [decide_eq_false fun z => nomatch z]; rfl)
    | skip
  · rename_i a b
    show (a == b) = _
    rw [eq_dbl]
  · rename_i a b
    show (a == b) = _
    rw [eq_dint]
    exact (Bool.beq_eq_decide_eq a b)
  · rename_i a b
    show (a == b) = _
    rw [eq_dstr]
    exact (Bool.beq_eq_decide_eq a b)
theorem eqv_all : ∀ {vs ws : List V}, (∀ v ∈ vs, eqD v) → (∀ v ∈ ws, eqD v) → (∀ p ∈ vs.zip ws, sameKind p.1 p.2 = true) → PyData.eqvAll (vs.map vD) (ws.map vD) = decide (vs = ws)
  | [], [], _, _, _ => rfl
  | [], w :: ws, _, _, _ => by rw [decide_eq_false fun z => nomatch z]; rfl
  | v :: vs, [], _, _, _ => by rw [decide_eq_false fun z => nomatch z]; rfl
  | v :: vs, w :: ws, h1, h2, h3 => by
    show (PyData.eqv (vD v) (vD w) && PyData.eqvAll (vs.map vD) (ws.map vD)) = _
    rw [eqv_vD (h1 v List.mem_cons_self) (h2 w List.mem_cons_self) (h3 (v, w) List.mem_cons_self), eqv_all (fun x hx => h1 x (List.mem_cons_of_mem _ hx)) (fun x hx => h2 x (List.mem_cons_of_mem _ hx)) fun p hp => h3 p (List.mem_cons_of_mem _ hp), Bool.eq_iff_iff, Bool.and_eq_true, decide_eq_true_eq, decide_eq_true_eq, decide_eq_true_eq, List.cons.injEq]
theorem r_neTT (h1 : SqT K H a vs) (h2 : SqT K H b ws) (e1 : ∀ v ∈ vs, eqD v) (e2 : ∀ v ∈ ws, eqD v) (k : ∀ p ∈ vs.zip ws, sameKind p.1 p.2 = true) (q : Q (.bl (!decide (vs = ws))) H) : rNeD K (.ref a) (.ref b) H Q := by
  refine ⟨tupD vs, tupD ws, .tup h1 (dpAll_vD e1), .tup h2 (dpAll_vD e2), shaped_tup e1, shaped_tup e2, ?_⟩
  show Q (.bl (!PyData.eqvAll (vs.map vD) (ws.map vD))) H
  rw [eqv_all e1 e2 k]
  exact q
theorem r_eqTT (h1 : SqT K H a vs) (h2 : SqT K H b ws) (e1 : ∀ v ∈ vs, eqD v) (e2 : ∀ v ∈ ws, eqD v) (k : ∀ p ∈ vs.zip ws, sameKind p.1 p.2 = true) (q : Q (.bl (decide (vs = ws))) H) : rEqD K (.ref a) (.ref b) H Q := by
  refine ⟨tupD vs, tupD ws, .tup h1 (dpAll_vD e1), .tup h2 (dpAll_vD e2), shaped_tup e1, shaped_tup e2, ?_⟩
  show Q (.bl (PyData.eqvAll (vs.map vD) (ws.map vD))) H
  rw [eqv_all e1 e2 k]
  exact q
theorem r_neLL (h1 : SqL K H a vs) (h2 : SqL K H b ws) (e1 : ∀ v ∈ vs, eqD v) (e2 : ∀ v ∈ ws, eqD v) (k : ∀ p ∈ vs.zip ws, sameKind p.1 p.2 = true) (q : Q (.bl (!decide (vs = ws))) H) : rNeD K (.ref a) (.ref b) H Q := by
  refine ⟨lstD vs, lstD ws, .lst h1 (dpAll_vD e1), .lst h2 (dpAll_vD e2), shaped_lst e1, shaped_lst e2, ?_⟩
  show Q (.bl (!PyData.eqvAll (vs.map vD) (ws.map vD))) H
  rw [eqv_all e1 e2 k]
  exact q
end
/-! ### texts whose signs are signs -/
theorem sok_app {x y : Str} (hx : PyData.strOk x = true) (hy : PyData.strOk y = true) : PyData.strOk (x ++ y) = true := by
  show (x.cps ++ y.cps).all _ = true
  rw [Array.all_append]
  exact Bool.and_eq_true_iff.mpr ⟨hx, hy⟩
theorem sok_of (s : String) : PyData.strOk (Str.ofString s) = true := by
  rw [Str.ofString_eq_toList]
  show Array.all _ _ = true
  rw [List.all_toArray, List.all_map, List.all_eq_true]
  intro c _
  refine decide_eq_true ?_
  have := c.valid
  rcases this with z | z
  · exact Nat.lt_trans z (by decide)
  · exact z.2
theorem sok_join : ∀ {ts : List Str}, (∀ t ∈ ts, PyData.strOk t = true) → PyData.strOk (Str.join ", " ts) = true
  | [], _ => by decide +kernel
  | [x], h => h x List.mem_cons_self
  | x :: y :: r, h => by
    show PyData.strOk (x ++ (", " : Str) ++ Str.join ", " (y :: r)) = true
    exact sok_app (sok_app (h x List.mem_cons_self) (sok_of ", ")) (sok_join fun t ht => h t (List.mem_cons_of_mem _ ht))
theorem sok_tup {ts : List Str} (h : ∀ t ∈ ts, PyData.strOk t = true) : PyData.strOk (tupleText ts) = true := by
  unfold tupleText
  exact sok_app (sok_app (sok_of "(") (sok_join h)) (sok_of _)
theorem sok_from : ∀ {ts : List Str} {k : Nat} {acc : Str}, PyData.strOk acc = true → (∀ t ∈ ts, PyData.strOk t = true) → PyData.strOk (textFrom k acc ts) = true
  | [], _, _, ha, _ => ha
  | t :: ts, k, acc, ha, h => by
    unfold textFrom
    refine sok_from ?_ fun x hx => h x (List.mem_cons_of_mem _ hx)
    split
    · exact sok_app (sok_app ha (sok_of ", ")) (h t List.mem_cons_self)
    · exact sok_app ha (h t List.mem_cons_self)
theorem sok_lst {ts : List Str} (h : ∀ t ∈ ts, PyData.strOk t = true) : PyData.strOk (listText ts) = true := by
  unfold listText
  exact sok_app (sok_from (sok_of "[") h) (sok_of "]")
/-- a text whose repr is a text of signs (the laws' own words are) -/
def okR : V → Prop
  | .str x => PyData.strOk (reprText x) = true
  | _ => True
theorem sok_all : ∀ {vs : List V}, (∀ v ∈ vs, okR v) → ∀ t ∈ PyData.shownAll (vs.map vD), PyData.strOk t = true
  | [], _, t, ht => (nomatch ht)
  | v :: vs, h, t, ht => by
    have ht : t ∈ (vD v).shown :: PyData.shownAll (vs.map vD) := ht
    rcases List.mem_cons.mp ht with e | e
    · rw [e]
      cases v with
      | bl b => cases b <;> decide +kernel
      | int i => exact sok_of _
      | str x => exact h _ List.mem_cons_self
      | non => exact sok_of "None"
      | byt b => exact sok_of "None"
      | flt b => exact sok_of "None"
      | ref a => exact sok_of "None"
      | ty n => exact sok_of "None"
    · exact sok_all (fun w hw => h w (List.mem_cons_of_mem _ hw)) t e
theorem sok_tupD {vs : List V} (h : ∀ v ∈ vs, okR v) : PyData.strOk (tupD vs).shown = true := sok_tup (sok_all h)
theorem sok_lstD {vs : List V} (h : ∀ v ∈ vs, okR v) : PyData.strOk (lstD vs).shown = true := sok_lst (sok_all h)
/-! ### a list or a tuple, read alike; comprehensions over tuples and ranges -/
def SqA (K : PySem.W.Frag) (H : Hp) (p : Addr) (xs : List V) : Prop := SqL K H p xs ∨ SqT K H p xs
theorem same_tup {K : PySem.W.Frag} {H H' : Hp} {a : Addr} {xs : List V} (e : Same H H') (h : SqT K H a xs) : SqT K H' a xs := by
  rcases h with (h | ⟨o, h⟩) | h
  · exact .inl (.inl (e _ _ h))
  · exact .inl (.inr ⟨o, e _ _ h⟩)
  · exact .inr h
theorem SqA.same {K : PySem.W.Frag} {H H' : Hp} {a : Addr} {xs : List V} (h : SqA K H a xs) (e : Same H H') : SqA K H' a xs := h.imp (fun z => e.seq z) fun z => same_tup e z
theorem kAt_all {ns : List Int} {P : Int → Prop} (h : ∀ x ∈ ns, P x) {j : Nat} (hj : j < ns.length) : P (kAt ns j) := by
  have e : kAt ns j = ns[j] := by rw [kAt, List.getD_eq_getElem?_getD, List.getElem?_eq_getElem hj]; rfl
  rw [e]
  exact h _ (List.getElem_mem hj)
section
variable {σ : L2.St} {H : Hp} {Q : VK} {te : TE} {K : PySem.W.Frag} {a p : Addr} {xs : List V} {i : Int} {v : V}
theorem r_ixA (h : SqA K H p xs) (e : atI xs i = some v) (q : Q v H) : rIx K (.ref p) (.int i) H Q := by
  rcases h with h | h
  · exact .inl (r_ixL h e q)
  · exact .inr (.inl (r_ixT h e q))
def rTupA (K : PySem.W.Frag) : List V → Hp → VK → Prop := fun xs H Q => ∃ p ys, xs = [.ref p] ∧ ((SqL K H p ys ∧ ∀ l, H l = none → Q (.ref l) (upd H l (.tup ys))) ∨ (SqT K H p ys ∧ Q (.ref p) H))
theorem c_tupA {X : Cx} : CallR X (.type "tuple") (rTupA X.K) := call_tuple_of
theorem r_tupL (h : SqL K H p xs) (q : ∀ l, H l = none → Q (.ref l) (upd H l (.tup xs))) : rTupA K [.ref p] H Q := ⟨p, xs, rfl, .inl ⟨h, q⟩⟩
theorem r_tupA (h : SqA K H p xs) (q : ∀ l H', SqT K H' l xs → Same H H' → Q (.ref l) H') : rTupA K [.ref p] H Q := by
  rcases h with h | h
  · exact ⟨p, xs, rfl, .inl ⟨h, fun l nl => q l _ (SqT.of upd_same) (same_new nl)⟩⟩
  · exact ⟨p, xs, rfl, .inr ⟨h, q p H h (Same.refl H)⟩⟩
def rListA (K : PySem.W.Frag) : List V → Hp → VK → Prop := fun xs H Q => ∃ p ys, xs = [.ref p] ∧ (SqL K H p ys ∨ SqT K H p ys) ∧ ∀ l, H l = none → Q (.ref l) (upd H l (.lst ys))
theorem c_listA {X : Cx} : CallR X (.type "list") (rListA X.K) := call_list_of
theorem r_listA (h : SqA K H p xs) (q : ∀ l, H l = none → Q (.ref l) (upd H l (.lst xs))) : rListA K [.ref p] H Q := ⟨p, xs, rfl, h, q⟩
theorem r_catT {b : Addr} {ys : List V} (h1 : SqT K H a xs) (h2 : SqT K H b ys) (n1 : xs ≠ []) (n2 : ys ≠ []) (hz : xs.length + ys.length ≤ 1000) (q : ∀ p, H p = none → Q (.ref p) (upd H p (.tup (xs ++ ys)))) : rCatT K (.ref a) (.ref b) H Q :=
  ⟨a, b, xs, ys, rfl, rfl, h1, h2, n1, Nat.le_of_lt (small1000 hz), fun z => absurd z n2, fun _ => q⟩
theorem lc_mapT {n : Nat} (f : V → V) (hS : SqT K H a xs) (hz : xs.length ≤ 1000) (he : ∀ (x : V) (H' : Hp) (QQ : VK), x ∈ xs → Same H H' → QQ (f x) H' → te ((wipe σ [n]).set n (some x)) H' QQ)
    (hq : ∀ D, H D = none → Q (.ref D) (upd H D (.lst (xs.map f)))) : lcGo (Itt K a) (gName n) tYes te [n] σ Q H := by
  intro D hD
  refine lc_tup (K := K) (a := a) (xs := xs) (fun i H' => H' = upd H D (.lst ((xs.take i).map f))) rfl (fun i H' _ e => by subst e; exact same_tup (same_new hD) hS) ?_ ?_
  · rintro i x H' hx rfl
    refine ⟨wipe1, ?_⟩
    show te _ _ _
    refine he x _ _ (List.mem_of_getElem? hx) (same_new hD) ⟨(xs.take i).map f, upd_same, ?_, ?_⟩
    · rw [List.length_map, List.length_take]
      exact small1000 (by omega)
    · rw [upd_upd, List.take_add_one, hx, List.map_append]
      rfl
  · rintro H' rfl
    rw [List.take_length]
    exact hq D hD
theorem lc_mapR {n m : Nat} {lo : Int} (f : Nat → V) (hm : m ≤ 1000) (he : ∀ (i : Nat) (H' : Hp) (QQ : VK), i < m → Same H H' → QQ (f i) H' → te ((wipe σ [n]).set n (some (.int (lo + i)))) H' QQ)
    (hq : ∀ D, H D = none → Q (.ref D) (upd H D (.lst ((List.range m).map f)))) : lcGo (Itr lo m) (gName n) tYes te [n] σ Q H := by
  intro D hD
  refine lc_range (fun i H' => H' = upd H D (.lst ((List.range i).map f))) rfl ?_ ?_
  · rintro i H' hi rfl
    refine ⟨wipe1, ?_⟩
    show te _ _ _
    refine he i _ _ hi (same_new hD) ⟨(List.range i).map f, upd_same, ?_, ?_⟩
    · rw [List.length_map, List.length_range]
      exact small1000 (by omega)
    · rw [upd_upd, List.range_succ, List.map_append]
      rfl
  · rintro H' rfl
    exact hq D hD
end
/-! ### xs != [] of any items; comprehensions with any target -/
def rNeE (K : PySem.W.Frag) : R2 := fun x y H Q => ∃ a b xs, x = .ref a ∧ y = .ref b ∧ SqL K H a xs ∧ SqL K H b [] ∧ Q (.bl (!xs.isEmpty)) H
theorem op_neE {X : Cx} (hu : X.A.units < cLine) : OpR X (compareOp .NotEq) (rNeE X.K) := by
  intro pins s σ H x y v u Q I rx ry h
  obtain ⟨a, b, xs, rfl, rfl, h1, h2, q⟩ := h
  cases (show v = Value.ref a from rx)
  cases (show u = Value.ref b from ry)
  obtain ⟨its, r1, ⟨o1, n1, g1, c1, _, d1⟩, _⟩ := I.list h1
  obtain ⟨its2, r2, ⟨o2, n2, g2, c2, _, d2⟩, _⟩ := I.list h2
  cases r2
  show wpAny _ _ (richCompare .NotEq _ _) _ _ _
  cases r1 with
  | nil => exact SeqAt.RcNeAt.lists (e := fun _ => true) ⟨o1, g1, c1, n1, d1⟩ ⟨o2, g2, c2, n2, d2⟩ rfl hu (fun j h1 _ => absurd h1 (Nat.not_lt_zero j)) _ _ _ _ ⟨.bl false, H, I, rfl, q⟩
  | cons ra rb => exact SeqAt.RcNeAt.lists_lengths ⟨o1, g1, c1, n1, d1⟩ ⟨o2, g2, c2, n2, d2⟩ rfl hu _ _ _ _ ⟨.bl true, H, I, rfl, q⟩
section
variable {σ : L2.St} {H : Hp} {Q : VK} {te : TE} {K : PySem.W.Frag} {a b : Addr} {xs : List V}
theorem r_neE (h1 : SqL K H a xs) (h2 : SqL K H b []) (q : Q (.bl (!xs.isEmpty)) H) : rNeE K (.ref a) (.ref b) H Q := ⟨a, b, xs, rfl, rfl, h1, h2, q⟩
/-- [e for target in xs], e a value by a function of the item -/
theorem lc_mapG {g : TG} {vs : List Nat} (f : V → V) (hS : SqL K H a xs) (hz : xs.length ≤ 1000) (he : ∀ (x : V) (H' : Hp) (QQ : VK), x ∈ xs → Same H H' → QQ (f x) H' → g x (wipe σ vs) H' fun σ2 H2 => wipe σ2 vs = wipe σ vs ∧ te σ2 H2 QQ)
    (hq : ∀ D, H D = none → Q (.ref D) (upd H D (.lst (xs.map f)))) : lcGo (Itl K a) g tYes te vs σ Q H := by
  intro D hD
  refine lc_list (K := K) (a := a) (xs := xs) (fun i H' => H' = upd H D (.lst ((xs.take i).map f))) rfl (fun i H' _ e => by subst e; exact (same_new hD).seq hS) ?_ ?_
  · rintro i x H' hx rfl
    refine he x _ _ (List.mem_of_getElem? hx) (same_new hD) ⟨(xs.take i).map f, upd_same, ?_, ?_⟩
    · rw [List.length_map, List.length_take]
      exact small1000 (by omega)
    · rw [upd_upd, List.take_add_one, hx, List.map_append]
      rfl
  · rintro H' rfl
    rw [List.take_length]
    exact hq D hD
end
section
variable {σ : L2.St} {H : Hp} {Q : VK} {te : TE} {tt : TT} {K : PySem.W.Frag} {a : Addr} {xs : List V}
/-- [x for x in xs if test]: what passes the test -/
theorem lc_filt {n : Nat} (f : V → Bool) (hS : SqL K H a xs) (hz : xs.length ≤ 1000) (ht : ∀ (x : V) (H' : Hp) (QT : Bool → Hp → Prop), x ∈ xs → Same H H' → QT (f x) H' → tt ((wipe σ [n]).set n (some x)) H' QT)
    (he : ∀ (x : V) (H' : Hp) (QQ : VK), x ∈ xs → Same H H' → QQ x H' → te ((wipe σ [n]).set n (some x)) H' QQ) (hq : ∀ D, H D = none → Q (.ref D) (upd H D (.lst (xs.filter f)))) : lcGo (Itl K a) (gName n) tt te [n] σ Q H := by
  intro D hD
  refine lc_list (K := K) (a := a) (xs := xs) (fun i H' => H' = upd H D (.lst ((xs.take i).filter f))) rfl (fun i H' _ e => by subst e; exact (same_new hD).seq hS) ?_ ?_
  · rintro i x H' hx rfl
    have hx' := List.mem_of_getElem? hx
    refine ⟨wipe1, ht x _ _ hx' (same_new hD) ?_⟩
    cases hf : f x with
    | true =>
      refine he x _ _ hx' (same_new hD) ⟨(xs.take i).filter f, upd_same, ?_, ?_⟩
      · refine small1000 (Nat.le_trans (List.length_filter_le _ _) ?_)
        rw [List.length_take]
        omega
      · rw [upd_upd, List.take_add_one, hx, List.filter_append]
        show _ = upd H D (.lst (_ ++ List.filter f [x]))
        rw [List.filter_cons, if_pos hf]
        rfl
    | false =>
      show _ = _
      rw [List.take_add_one, hx, List.filter_append]
      show _ = upd H D (.lst (_ ++ List.filter f [x]))
      rw [List.filter_cons, if_neg (by rw [hf]; exact Bool.false_ne_true)]
      show _ = upd H D (.lst (_ ++ []))
      rw [List.append_nil]
  · rintro H' rfl
    rw [List.take_length]
    exact hq D hD
end
theorem sort1 {ns : List Int} {a : Int} (h : ns.Perm [a]) : ns = [a] := List.perm_singleton.mp h
theorem sort2 {ns : List Int} {a b : Int} (h : ns.Perm [a, b]) (hp : ns.Pairwise (· ≤ ·)) : ns = if b < a then [b, a] else [a, b] := by
  obtain ⟨x, y, rfl⟩ : ∃ x y, ns = [x, y] := by
    match ns, h.length_eq with
    | [x, y], _ => exact ⟨x, y, rfl⟩
  have hxy : x ≤ y := by
    have := List.rel_of_pairwise_cons hp (List.mem_singleton_self y)
    exact this
  have hx : x ∈ [a, b] := h.mem_iff.mp List.mem_cons_self
  simp only [List.mem_cons, List.mem_nil_iff, or_false] at hx
  rcases hx with rfl | rfl
  · have hy := List.perm_singleton.mp h.cons_inv
    cases hy
    rw [if_neg (by omega)]
  · have hy := List.perm_singleton.mp (h.trans (List.Perm.swap _ _ _)).cons_inv
    cases hy
    split
    · rfl
    · have : x = a := by omega
      rw [this]
section
variable {σ : L2.St} {H : Hp} {Q : VK} {te : TE} {tt : TT} {K : PySem.W.Frag} {a : Addr} {xs : List V}
/-- the same over a tuple -/
theorem lc_filtT {n : Nat} (f : V → Bool) (hS : SqT K H a xs) (hz : xs.length ≤ 1000) (ht : ∀ (x : V) (H' : Hp) (QT : Bool → Hp → Prop), x ∈ xs → Same H H' → QT (f x) H' → tt ((wipe σ [n]).set n (some x)) H' QT)
    (he : ∀ (x : V) (H' : Hp) (QQ : VK), x ∈ xs → Same H H' → QQ x H' → te ((wipe σ [n]).set n (some x)) H' QQ) (hq : ∀ D, H D = none → Q (.ref D) (upd H D (.lst (xs.filter f)))) : lcGo (Itt K a) (gName n) tt te [n] σ Q H := by
  intro D hD
  refine lc_tup (K := K) (a := a) (xs := xs) (fun i H' => H' = upd H D (.lst ((xs.take i).filter f))) rfl (fun i H' _ e => by subst e; exact same_tup (same_new hD) hS) ?_ ?_
  · rintro i x H' hx rfl
    have hx' := List.mem_of_getElem? hx
    refine ⟨wipe1, ht x _ _ hx' (same_new hD) ?_⟩
    cases hf : f x with
    | true =>
      refine he x _ _ hx' (same_new hD) ⟨(xs.take i).filter f, upd_same, ?_, ?_⟩
      · refine small1000 (Nat.le_trans (List.length_filter_le _ _) ?_)
        rw [List.length_take]
        omega
      · rw [upd_upd, List.take_add_one, hx, List.filter_append]
        show _ = upd H D (.lst (_ ++ List.filter f [x]))
        rw [List.filter_cons, if_pos hf]
        rfl
    | false =>
      show _ = _
      rw [List.take_add_one, hx, List.filter_append]
      show _ = upd H D (.lst (_ ++ List.filter f [x]))
      rw [List.filter_cons, if_neg (by rw [hf]; exact Bool.false_ne_true)]
      show _ = upd H D (.lst (_ ++ []))
      rw [List.append_nil]
  · rintro H' rfl
    rw [List.take_length]
    exact hq D hD
end
/-! ### constants of the top; binding by place and by keywords -/
theorem sqt_const {K : PySem.W.Frag} {H : Hp} {a : Addr} {od : Option Addr} {its : Array Value} {n : Nat} {sl : Array (Option Value)} {vs : List V} (h : K.lookup a = some ⟨.type "tuple", od, .seq its n, sl⟩) (r : Vals vs its.toList) (hl : vs.length ≤ 1000) : SqT K H a vs := by
  refine .inr ⟨_, its, n, h, rfl, rfl, ?_, r⟩
  have e : its.size = vs.length := (Array.length_toList (xs := its)).symm.trans r.length.symm
  rw [e]
  exact Nat.le_of_lt (small1000 hl)
theorem kb_mkN {K : PySem.W.Frag} {x qual : Str} {st : Stmt} {f : Addr} {fd : FuncData} {ps ks : List Str} {n : Nat} (F : Fun K x qual st f fd)
    (h : ∀ (kV doc pm : Value) (an : Option Addr) (cdv ct : Value) (us ws : List Value), us.length = n → ws.length = ks.length → bindArgs (PySem.W.fnOf x qual (defArgs st) (defBody st) (defScope st) .none kV doc pm an cdv ct) ⟨us, ks.zip ws⟩ = pure (ps.zip (us ++ ws))) :
    KBn K fd ps n ks (fun us ws => us ++ ws) (fun vs zs => vs ++ zs) := by
  obtain ⟨oc, od, kV, doc, pm, an, cdv, ct, osl, rfl, lk, hcd⟩ := F.ex
  exact ⟨fun s us ws _ l1 l2 => .of_eq (h kV doc pm an cdv ct us ws l1 l2), fun r1 r2 => r1.append r2⟩
theorem r_makeN {C : Addr} {n m : Nat} {sp : Sp} {gV : List V → List V → List V} {E : XK} {t tk : TA} {σ : L2.St} {H : Hp} {Q : VK} (h : t σ H fun vs H1 => tk σ H1 fun zs H2 => vs.length = n ∧ zs.length = m ∧ ∀ x dx, H2 x = none → H2 dx = none → dx ≠ x → sp (gV (.ref x :: vs) zs) (upd (upd H2 dx (.own x)) x (.ins C dx [])) (fun v H3 => v = .non ∧ Q (.ref x) H3) E) : tMakeN C n m sp gV E t tk σ H Q := h
theorem r_inT {K : PySem.W.Frag} {H : Hp} {Q : VK} {neg : Bool} {x : V} {p : Addr} {xs : List V} (h : SqT K H p xs) (h1 : flatV x = true) (h2 : xs.all flatV = true) (q : Q (.bl (if neg then !inV x xs else inV x xs)) H) : rIn K neg x (.ref p) H Q := ⟨p, xs, rfl, .inr h, h1, h2, q⟩
theorem r_inL {K : PySem.W.Frag} {H : Hp} {Q : VK} {neg : Bool} {x : V} {p : Addr} {xs : List V} (h : SqL K H p xs) (h1 : flatV x = true) (h2 : xs.all flatV = true) (q : Q (.bl (if neg then !inV x xs else inV x xs)) H) : rIn K neg x (.ref p) H Q := ⟨p, xs, rfl, .inl h, h1, h2, q⟩
/-! ### isinstance of a caught error with attributes of its own: both answers -/
section
open PySem.W PySem.Calls
variable {prog : Program} {w : World} {A : Around} {E : Value → Shared → Prop} {st : Shared} {K : PySem.W.Frag} {x D : Addr} {ob : Obj} {dob : Option Obj}
/-- e.__class__ of an error, whatever its own dict holds -/
theorem cls_of_error {Q : Option Value → Shared → Prop} (C : ExcC K D) (X : K.In st.heap) (I : PySem.W.InstAt st.heap x ob D dob) (h : Q (some (.ref D)) { st with toks := st.toks + 1 }) : wpAny (model prog w) A (getAttr? (.ref x) "__class__") Q E st := by
  have found : findObj K D dob "__class__" = some (.bind (.builtin "getset_descriptor.__get__") (.builtin "object.__class__")) := by
    obtain ⟨cd, hc, _⟩ := any_some C.hd
    unfold findObj; rw [hc, Option.bind_some, C.ha, Option.bind_some]; simp [C.hn, C.ht]
  obtain ⟨hp, g, d, t, os⟩ := st
  have T0 := I.type (M := model prog w)
  have T1 := looks_findIn (M := model prog w) X C.hg
  have T2 := looks_findIn (M := model prog w) X C.hk
  have T3 := looks_find (M := model prog w) X I found
  have isB : Looks (model prog w) hp (isInstance (.ref x) (.type "BaseException")) true := T0.andThen (looks_subIn X C.hs)
  have z2 : (Value.builtin "BaseException.__getattribute__" == Value.builtin "object.__getattribute__") = false := by decide +kernel
  have z1 : (onTheHeap (Value.ref D) && Value.builtin "BaseException.__getattribute__" == Value.builtin "object.__getattribute__") = false := by rw [z2] <;> rfl
  have z0 : (false && onTheHeap (Value.builtin "BaseException.__getattribute__")) = false := rfl
  unfold getAttr? getAttrBy?; unfold getAttrBy
  refine wpAny_bind (wpAny_mkText (wpAny_bind (wpAny_attempt (wpAny_holding (wpAny_bind (T0.at (wpAny_bind (T1.at ?_))))))))
  show wpAny _ _ (if (onTheHeap (Value.ref D) && Value.builtin "BaseException.__getattribute__" == Value.builtin "object.__getattribute__") = true then _ else _) _ _ _; rw [z1, if_neg Bool.false_ne_true]
  unfold getAttrByItsOwn; unfold hookBefore
  refine wpAny_bind ?_
  rw [if_pos (show onTheHeap (Value.ref D) = true from rfl)]; refine T2.at ?_
  refine wpAny_bind (wpAny_attempt (wpAny_holding ?_)); unfold callGetattribute
  rw [z0, if_neg Bool.false_ne_true]
  unfold boundAndCalled; rw [PySem.F.excAttr_ValueError.ga.bind (.ref x)]
  refine wpAny_bind (wpAny_pure ?_)
  show wpAny _ _ (call (.builtin "BaseException.__getattribute__") [.ref x, .str "__class__" t]) _ _ _; refine wpAny_call (codeAny_call_builtin PySem.F.excAttr_ValueError.ga.plain PySem.F.entry_bexc_ga ?_)
  refine @check_slot (model prog w) _ _ ⟨hp, g, d, t + 1, os⟩ "BaseException.__getattribute__" "BaseException" "__getattribute__" (.ref x) [.str "__class__" t] [] _ (by decide +kernel) (by decide +kernel) isB (PySem.F.args_bexc_ga (.ref x) (.str "__class__" t)) ?_
  unfold Builtin.«object.__getattribute__»; refine wpAny_bind (wpAny_of_eq (a := ((Value.ref x : Value), [Value.str "__class__" t])) (by first | rfl | (simp only [slotArgs]; rfl)) ?_)
  refine wpAny_bind (wpAny_pure (wpAny_bind (T0.at (wpAny_bind (T3.at ?_)))))
  show wpAny _ _ (holding [Value.builtin "object.__class__"] (call (.builtin "getset_descriptor.__get__") [.builtin "object.__class__", .ref x, .ref D]) >>= ret) _ _ _; refine wpAny_bind (wpAny_holding (wpAny_call (class_get (s := ⟨hp, g, d, t + 1, os⟩) (ox := ob) (od := dob) X I C.hm ?_)))
  refine wpAny_pure ?_; show wpAny _ _ (handedOut (.ref D)) _ _ _; rw [handedOut_of (v := .ref D) rfl]
  first | exact wpAny_pure (wpAny_pure h) | exact wpAny_pure h | exact wpAny_pure (wpAny_bind (wpAny_pure (wpAny_pure h)))
theorem kit_error (C : ExcC K D) : PySem.W.KitX K (.ref x) (.ref D) (fun h => PySem.W.InstAt h x ob D dob) where
  ty := fun _ _ _ I => I.type
  it := fun _ _ X _ => by
    obtain ⟨cd, hc, _⟩ := any_some C.hd
    unfold clsIn at hc
    split at hc
    · rename_i ho
      intro A' Q' E' s' k q
      unfold isType loadHead; exact wpAny_bind (wpAny_loadPart (k _ _ (X _ _ ho)) (wpAny_pure q))
    · cases hc
  ne := fun h tp dd its n sl X htp => by
    obtain ⟨cd, hc, _⟩ := any_some C.hd
    refine Bool.eq_false_iff.mpr fun q => ?_
    obtain rfl : D = tp := Value.ref.inj (beq_iff_eq.mp q)
    unfold clsIn at hc
    split at hc
    · rename_i ho; cases (X _ _ ho).symm.trans htp
    · cases hc
  ca := fun X I k => cls_of_error C X I k
end
def rIsX (K : PySem.W.Frag) (cls : Value) (d : Option Addr) (a : Addr) : List V → Hp → VK → Prop := fun xs H Q => ∃ (D dd : Addr) (fs : List (Str × V)) (c : V) (cv : Value) (b : Bool), cls = .ref D ∧ ExcC K D ∧ d = some dd ∧ H dd = some (.xd fs) ∧ xs = [.ref a, c] ∧ ClsV c cv ∧ PySem.W.kitOne K (.ref D) cv = some b ∧ Q (.bl b) H
theorem call_isX {X : Cx} {a : Addr} {oe : Obj} {cls : Value} {d : Option Addr} {pn : List (Addr × Obj)} (hz : Zc cls d oe) (hf : ∃ vs, oe.data = .fields vs) : CallR (X.suite a ((a, oe) :: pn)) (.builtin "isinstance") (rIsX X.K cls d a) := by
  intro pins s σ H xs us Q I r h
  obtain ⟨D, dd, fs, c, cv, b, rfl, C, rfl, ea, rfl, hc, e, q⟩ := h
  obtain ⟨u1, u2, rfl, r1, r2⟩ := vals2 r
  cases (show u1 = Value.ref a from r1)
  cases hc.eq r2
  obtain ⟨ha, _⟩ := I.pin (a, oe) (List.mem_append_left _ List.mem_cons_self)
  obtain ⟨vs, hv⟩ := hf
  have ho : ObjOk X.prog X.w H s.heap dd (.xd fs) := I.hok dd _ ea
  obtain ⟨mA, hns, _⟩ := ho
  obtain ⟨od, ho, _⟩ := lookIn_ns hns
  have J : PySem.W.InstAt s.heap a oe D (some od) := ⟨ha, hz.1, by unfold PySem.W.notCls; rw [hv] <;> rfl, by rw [hz.2]; exact ho⟩
  exact PySem.W.kia_one (kit_error C) I.kIn J e (fun z => nomatch z) fun tk => ⟨.bl b, H, I.kept (t' := tk) fun _ _ z => z, rfl, q⟩
theorem r_isX {K : PySem.W.Frag} {a D dd : Addr} {fs : List (Str × V)} {c : V} {cv : Value} {b : Bool} {H : Hp} {Q : VK} (C : ExcC K D) (hd : H dd = some (.xd fs)) (hc : ClsV c cv) (e : PySem.W.kitOne K (.ref D) cv = some b) (q : Q (.bl b) H) : rIsX K (.ref D) (some dd) a [.ref a, c] H Q := ⟨D, dd, fs, c, cv, b, rfl, C, rfl, hd, rfl, hc, e, q⟩
/-! ### several except clauses, each with a name -/
/-- the clauses' wishes: class, slot of the name, suite -/
def wManyA (K : PySem.W.Frag) (Wout : WX) (D : Ends) : List (Value × Nat × (Addr → Value → Option Addr → TS)) → WX
  | [] => Wout
  | (c, i, ts) :: r => fun cls d σ H => ∃ b, PySem.W.exmOne K cls c = some b ∧ (b = true → ∀ a, H a = none → ts a cls d { D with nx := fun σ' H' => D.nx (σ'.set i none) H', bk := fun σ' H' => D.bk (σ'.set i none) H', ct := fun σ' H' => D.ct (σ'.set i none) H' } (σ.set i (some (.ref a))) H) ∧ (b = false → wManyA K Wout D r cls d σ H)
inductive HdsA (X : Cx) : List ExceptHandler → List (Value × Nat × (Addr → Value → Option Addr → TS)) → Prop
  | nil : HdsA X [] []
  | cons {x n : Str} {c : Value} {i : Nat} {ts : Addr → Value → Option Addr → TS} {b₀ : Stmt} {suite : List Stmt} {np pos' : Pos} {hds : List ExceptHandler} {l : List (Value × Nat × (Addr → Value → Option Addr → TS))} (hi : X.N[i]? = some n) (hln : X.env.kindOf n = some .local) (hc : Names X x c)
      (hsu : ∀ (a : Addr) (oe : Obj) (cls : Value) (d : Option Addr) (pn : List (Addr × Obj)), Zc cls d oe → (∃ vs, oe.data = .fields vs) → PSs (X.suite a ((a, oe) :: pn)) (b₀ :: suite) (ts a cls d)) (r : HdsA X hds l) :
      HdsA X (.ExceptHandler (some (.Name x np)) (some n) (b₀ :: suite) pos' :: hds) ((c, i, ts) :: l)
theorem ps_try_manyA {X : Cx} {body : List Stmt} {h₀ : ExceptHandler} {hds : List ExceptHandler} {l : List (Value × Nat × (Addr → Value → Option Addr → TS))} {pos : Pos} {tb : WX → TS} {Wout : WX} (hs : X.stack = X.env :: X.outer) (hf : X.env.frame = some X.env.locals) (hN : X.N.Nodup) (tk : Takes X Wout)
    (hb : ∀ (W : WX) (pn : List (Addr × Obj)) (xe : Value → Shared → Prop), Takes (X.tr pn xe) W → PassesOwn (model X.prog X.w) X.A X.env xe → PSs (X.tr pn xe) body (tb W))
    (hh : HdsA X (h₀ :: hds) l) : PS X (.Try body (h₀ :: hds) [] [] pos) (fun D σ H => tb (wManyA X.K Wout D l) D σ H) := by
  refine ⟨fun pins s σ H D I h => ?_⟩
  have ok := I.ok; have hfr : X.A.frames = some (X.env :: X.outer) := by rw [ok.frames, hs]
  refine wpAny_Try_except ?_
  refine wpAny_mono ((hb (wManyA X.K Wout D l) (X.pn ++ pins) (fun e s₁ => wpAny (model X.prog X.w) X.A (noteFrame e X.env) (fun _ s₂ => wpAny (model X.prog X.w) X.A (setFlight e none) (fun _ s₃ =>
    wpAny (model X.prog X.w) X.A (handleBy e X.env (h₀ :: hds)) (SP X pins D) X.xe s₃) X.xe s₂) X.xe s₁) (fun u s' xx => ?_) PassesOwn.looking).run [] s σ H D (I.toTry _) h) (fun f s1 hsp => ?_) (fun e s1 he => he)
  · obtain ⟨a, B, sI, pins', σ', H', cls, d, rfl, J', nb, up, sky, na, os, ag, w⟩ := xx
    have J : Inv X pins σ' H' sI := J'.ofTry ok; have sky' : Sky B (X.env :: X.outer) a (Zc cls d) X.env.locals s'.heap := by rw [← hs]; exact sky
    show wpAny (model X.prog X.w) X.A (noteFrame (.ref a) X.env) _ _ _; refine Sky.land Zc.steady hfr hf sky' fun h3 fl3 up3 => ?_
    have J3 : Inv X pins σ' H' { s' with heap := h3 } := J.landed nb fl3.1 (up.trans up3) os ag; obtain ⟨oe3, vs3, he3, hz3, hd3⟩ := fl3.there
    have nfr : a ∉ frs (X.env :: X.outer) := fun hm => by
      obtain ⟨_, o', e', hnf⟩ := fl3.2.2.1.mem hm
      rw [he3] at e'; cases e'; exact hnf _ hd3
    have nL : a ≠ X.env.locals := fun z => nfr (List.mem_filterMap.mpr ⟨X.env, List.mem_cons_self, by rw [hf, z]⟩); have nF : a ∉ X.fs := fun hm => by
      obtain ⟨e, he, q⟩ := List.mem_filterMap.mp hm; exact nfr (List.mem_filterMap.mpr ⟨e, List.mem_cons_of_mem _ he, q⟩)
    have S3 := J3.suite he3 hd3 na nL nF; clear h hb; suffices go : ∀ {hds' : List ExceptHandler} {l' : List (Value × Nat × (Addr → Value → Option Addr → TS))}, HdsA X hds' l' → wManyA X.K Wout D l' cls d σ' H' →
        wpAny (model X.prog X.w) X.A (handleBy (.ref a) X.env hds') (SP X pins D) X.xe { s' with heap := h3 } from go hh w
    intro hds' l' hk
    induction hk with
    | nil =>
      intro w; refine wpAny_handleBy_nil ?_
      obtain ⟨k1, k2, k3, oe, vs, T, oT, ts', he, hz, hd, h1, hr⟩ := id fl3; unfold PySem.passOn
      refine wpAny_bind (wpAny_field he hd h1 ?_); rw [if_neg (show ¬ ((Value.ref T == Value.none) = true) from by simp)]
      have fin : wpAny (model X.prog X.w) X.A (setFlight (.ref a) X.env.frame) (fun _ s4 => wpAny (model X.prog X.w) X.A (throw (.ref a) : Sem Flow) (SP X pins D) X.xe s4) X.xe { s' with heap := h3 } := by
        rw [hf]; refine HandSPX.setFlight_upZ fl3 fun h4 hh4 up4 => wpAny_throw (tk _ _ ?_)
        exact ⟨a, B, sI, pins, σ', H', cls, d, rfl, J, nb, (up.trans up3).trans up4, .inr (.inr (by rw [hs]; exact hh4)), na, os, ag, w⟩
      first | exact wpAny_bind (wpAny_pure (wpAny_bind fin)) | exact wpAny_bind fin
    | @cons x n c i ts b₀ suite np pos' hds2 l2 hi hln hc hsu r ih =>
      intro w; obtain ⟨b, hb1, hyes, hno⟩ := w
      refine wpAny_handleBy_cons (codeAny_handlers_test ?_) (by intro q; cases q); have LT : PySem.W.Looks (model X.prog X.w) h3 (typeOf (.ref a)) cls := fun A Q E s k q => wpAny_typeOf_ref (k _ _ he3) (by rw [hz3.1]; exact q)
      have LM := PySem.W.exm_one (M := model X.prog X.w) (J3.kIn) LT hb1; have test : ∀ {Q : Value → Shared → Prop} {E : Value → Shared → Prop}, Q c { s' with heap := h3 } → wpAny (model X.prog X.w) (X.A.mark (some (.ref a))) (eval (.Name x np) X.env) Q E { s' with heap := h3 } := fun {Q E} q => by
        obtain ⟨hg, hdbg, hm | ⟨hm, hv, hnn⟩⟩ := hc
        · exact ld_glob (X := X.suite a ((a, oe3) :: (X.pn ++ pins))) S3 hg hm q hdbg
        · exact ld_blt (X := X.suite a ((a, oe3) :: (X.pn ++ pins))) S3 hg hm hv q hnn hdbg
      refine test (LM.here ?_)
      cases b with
      | false => exact ih (hno rfl)
      | true =>
        refine codeAny_handlers_suite_as ?_; refine HandSPX.lands_againZ fl3 fun h4 fl4 up4 => ?_
        have J4 : Inv X pins σ' H' { s' with heap := h4 } := J.landed nb fl4.1 ((up.trans up3).trans up4) os ag; obtain ⟨oe4, vs4, he4, hz4, hd4⟩ := fl4.there
        have S4 := J4.suite he4 hd4 na nL nF
        have hloc : Loc X.env.scope n := .inl hln; refine store_ok (X := X.suite a ((a, oe4) :: (X.pn ++ pins))) (v := .ref a) S4 hN hi hloc rfl (fun s5 S5 => ?_) (.inr hln)
        refine wpAny_mono ((hsu a oe4 cls d (X.pn ++ pins) hz4 ⟨_, hd4⟩).run [] s5 _ H' _ S5 (hyes rfl a na)) (fun f s6 hsp => ?_) (fun _ _ z => False.elim z)
        have end_ : ∀ {σ6 : L2.St} {H6 : Hp} {Q : Shared → Prop}, Inv (X.suite a ((a, oe4) :: (X.pn ++ pins))) [] σ6 H6 s6 → (∀ s7, Inv X pins (σ6.set i none) H6 s7 → Q s7) →
            wpAny (model X.prog X.w) X.A (do bindName X.env n .none; unbindBehindTheSuite X.env n pos') (fun _ s7 => Q s7) X.xe s6 := fun {σ6 H6 Q} S6 hq => gone_ok (S6.unsuite ok) hN hi hln hq
        cases f with
        | next => obtain ⟨σ6, H6, S6, q6⟩ := hsp; exact end_ S6 fun s7 J7 => ⟨_, _, J7, q6⟩
        | brk => obtain ⟨σ6, H6, S6, q6⟩ := hsp; exact end_ S6 fun s7 J7 => ⟨_, _, J7, q6⟩
        | cont => obtain ⟨σ6, H6, S6, q6⟩ := hsp; exact end_ S6 fun s7 J7 => ⟨_, _, J7, q6⟩
        | ret u => obtain ⟨v6, σ6, H6, S6, r6, q6⟩ := hsp; exact end_ S6 fun s7 J7 => ⟨_, _, _, J7, r6, q6⟩
  · cases f with
    | next => obtain ⟨σ', H', J', q⟩ := hsp; exact wpAny_execs_nil ⟨σ', H', J'.ofTry ok, q⟩
    | brk => obtain ⟨σ', H', J', q⟩ := hsp; exact ⟨σ', H', J'.ofTry ok, q⟩
    | cont => obtain ⟨σ', H', J', q⟩ := hsp; exact ⟨σ', H', J'.ofTry ok, q⟩
    | ret u => obtain ⟨v, σ', H', J', r, q⟩ := hsp; exact ⟨v, σ', H', J'.ofTry ok, r, q⟩
/-! ### C(e, .., k = v, ..) within a try, where __init__ may raise -/
def tMakeNS (C : Addr) (n m : Nat) (sp : Sp) (gV : List V → List V → List V) (E : L2.St → XK) (t tk : TA) : TE := fun σ H Q => t σ H fun vs H1 => tk σ H1 fun zs H2 => vs.length = n ∧ zs.length = m ∧ ∀ x dx, H2 x = none → H2 dx = none → dx ≠ x → sp (gV (.ref x :: vs) zs) (upd (upd H2 dx (.own x)) x (.ins C dx [])) (fun v H3 => v = .non ∧ Q (.ref x) H3) (E σ)
theorem pe_makeNS {X : Cx} {CX : CXT} {k n : Nat} {f C : Addr} {fd : FuncData} {ps ks : List Str} {sp : Sp} {x : Str} {p pos : Pos} {e : Expr} {es : List Expr} {kws : List Keyword} {t tk : TA} {g : List Value → List Value → List Value} {gV : List V → List V → List V} {E : L2.St → XK}
    (M : Mk X.K C f) (F : FnOk X.prog X.w X.K X.mg X.base CX k f fd ps sp) (hr : Room (k + 1) X.A) (hg : Gl X x) (hm : X.mg x = some (.ref C)) (hb : KBn X.K fd ps (n + 1) ks g gV) (hx : ∀ σ, PassesAt CX X σ (E σ)) (ha : PA X (e :: es) t) (hkw : PK X kws tk)
    (hall : (backToKw pos (keywordEach kws X.env)).all (fun q => q.1.isSome) = true := by rfl) (hks : (backToKw pos (keywordEach kws X.env)).filterMap (fun q => q.1) = ks := by rfl) (hdb : (x == ("__debug__" : Str)) = false := by decide)
    (he : starEach (e :: es) X.env = (false, eval e X.env) :: starEach es X.env := by rfl) (hpl : ((backTo pos (starEach (e :: es) X.env)).any (fun q => q.1) || (backToKw pos (keywordEach kws X.env)).any (fun q => q.1.isNone)) = false := by rfl) :
    PE X (.Call (.Name x p) (e :: es) kws pos) (tMakeNS C n ks.length sp gV E t tk) := by
  refine ⟨fun pins s σ H Q I h => wpAny_Call_Name_kw (ld_glob I hg hm ?_ hdb)⟩
  refine PySem.W.callWith_KW (h₀ := X.base) I.ok.mod.kin M.kp hall (thn (ha.run pos pins s σ H _ I h) fun us s1 hh => ?_) hpl he
  obtain ⟨vs, H1, I1, r, q⟩ := hh
  refine thn (hkw.run pos pins s1 σ H1 _ I1 q) fun ws s2 hw => ?_
  obtain ⟨zs, H2, I2, rz, l1, l2, q2⟩ := hw
  refine ⟨I2.kIn, ?_⟩
  rw [hks]
  exact run_makeA (fu := fun v => g (v :: us) ws) (fv := fun v => gV (v :: vs) zs) M F hr (fun s' v inn => hb.to s' (v :: us) ws inn (congrArg Nat.succ (r.length.symm.trans l1)) (rz.length.symm.trans l2)) (fun a => hb.rel (.cons rfl r) rz) (hx σ) I2 q2
theorem r_makeNS {C : Addr} {n m : Nat} {sp : Sp} {gV : List V → List V → List V} {E : L2.St → XK} {t tk : TA} {σ : L2.St} {H : Hp} {Q : VK} (h : t σ H fun vs H1 => tk σ H1 fun zs H2 => vs.length = n ∧ zs.length = m ∧ ∀ x dx, H2 x = none → H2 dx = none → dx ≠ x → sp (gV (.ref x :: vs) zs) (upd (upd H2 dx (.own x)) x (.ins C dx [])) (fun v H3 => v = .non ∧ Q (.ref x) H3) (E σ)) : tMakeNS C n m sp gV E t tk σ H Q := h
/-! ### short texts of signs -/
def Wd (z : Str) : Prop := PyData.strOk z = true ∧ z.length ≤ 30
theorem at_strs {ws : List Str} {k : Int} (h0 : 0 ≤ k) (h1 : k < ws.length) : ∃ z, atI (ws.map V.str) k = some (.str z) ∧ z ∈ ws := by
  have hk : k.toNat < ws.length := by omega
  have e : atI (ws.map V.str) (k.toNat : Int) = some (.str ws[k.toNat]) := atI_nat (by rw [List.getElem?_map, List.getElem?_eq_getElem hk]; rfl)
  rw [Int.toNat_of_nonneg h0] at e
  exact ⟨_, e, List.getElem_mem hk⟩
theorem r_lenS {H : Hp} {Q : VK} {K : PySem.W.Frag} {p : Addr} {ws : List Str} (h1 : H p = some (.lst (ws.map V.str))) (h : Q (.int ws.length) H) : rLenL K [.ref p] H Q := ⟨p, _, rfl, .inl (.inl (.inl h1)), by rw [List.length_map]; exact h⟩
theorem len_app (x y : Str) : (x ++ y).length = x.length + y.length := by
  show (x.cps ++ y.cps).size = _
  rw [Array.size_append]
  rfl
theorem cut_sok {z : Str} {lo hi : Option Int} (h : PyData.strOk z = true) : PyData.strOk (cutS z lo hi) = true := by
  show Array.all _ _ = true
  have h : z.cps.all (fun c => decide (c < 0x110000)) = true := h
  rw [← Array.all_toList] at h ⊢
  rw [List.all_eq_true] at h ⊢
  intro x hx
  exact h x (List.mem_of_mem_drop (List.mem_of_mem_take (by simpa [cutS] using hx)))
theorem cut_lenS {z : Str} {lo hi : Option Int} : (cutS z lo hi).length ≤ z.length := by
  show (List.toArray _).size ≤ z.cps.size
  rw [List.size_toArray, List.length_take, List.length_drop, Array.length_toList]
  omega
theorem join_ok : ∀ {ys : List Str}, (∀ y ∈ ys, PyData.strOk y = true ∧ y.length = 1) → PyData.strOk (Str.join "" ys) = true ∧ (Str.join "" ys).length = ys.length
  | [], _ => by decide +kernel
  | [x], h => h x List.mem_cons_self
  | x :: y :: r, h => by
    obtain ⟨i1, i2⟩ := join_ok (ys := y :: r) fun z hz => h z (List.mem_cons_of_mem _ hz)
    obtain ⟨h1, h2⟩ := h x List.mem_cons_self
    show PyData.strOk (x ++ ("" : Str) ++ Str.join "" (y :: r)) = true ∧ (x ++ ("" : Str) ++ Str.join "" (y :: r)).length = _
    refine ⟨sok_app (sok_app h1 (sok_of "")) i1, ?_⟩
    rw [len_app, len_app, i2, h2]
    show 1 + 0 + (r.length + 1) = r.length + 1 + 1
    omega
/-- [e for x in range(..)], e draws: items of any kind -/
theorem lc_drawsG {σ : L2.St} {H : Hp} {Q : VK} {te : TE} {n m : Nat} {lo : Int} {d c r : Addr} {P : V → Prop} (hm : m ≤ 1000) (D0 : Drw H d c r)
    (he : ∀ (i : Nat) (H' : Hp) (QQ : VK), i < m → Drw H' d c r → Ext d r H H' → (∀ (v : V) (H'' : Hp), P v → Drw H'' d c r → Ext d r H' H'' → QQ v H'') → te ((wipe σ [n]).set n (some (.int (lo + i)))) H' QQ)
    (hq : ∀ (l : Addr) (ss : List V) (H' : Hp), ss.length = m → (∀ x ∈ ss, P x) → H l = none → H' l = some (.lst ss) → Drw H' d c r → Ext d r H H' → Q (.ref l) H') : lcGo (Itr lo m) (gName n) tYes te [n] σ Q H := by
  intro l nl
  have ld := D0.ned nl
  have lr := D0.ner nl
  have lc := D0.nec nl
  refine lc_range (fun i H' => ∃ ss : List V, ss.length = i ∧ (∀ x ∈ ss, P x) ∧ H' l = some (.lst ss) ∧ Drw H' d c r ∧ Ext d r H H') ⟨[], rfl, fun x hx => (nomatch hx), upd_same, D0.new nl, Ext.of (same_new nl)⟩ ?_ ?_
  · rintro i H' hi ⟨ss, hl, hp, hs, D1, E1⟩
    refine ⟨wipe1, ?_⟩
    show te _ _ _
    refine he i H' _ hi D1 E1 fun k H'' hk D2 E2 => ⟨ss, E2 _ _ hs ld lr, small1000 (by omega), ?_⟩
    refine ⟨ss ++ [k], by rw [List.length_append, hl]; rfl, fun x hx => ?_, upd_same, D2.put ld lr lc, fun b o e n1 n2 => ?_⟩
    · rcases List.mem_append.mp hx with z | z
      · exact hp x z
      · rw [List.mem_singleton.mp z]; exact hk
    · rw [upd_ne (ne_of_none e nl)]
      exact E2 b o (E1 b o e n1 n2) n1 n2
  · rintro H' ⟨ss, hl, hp, hs, D1, E1⟩
    exact hq l ss H' hl hp nl hs D1 E1
theorem strs_of : ∀ {ss : List V}, (∀ x ∈ ss, ∃ z : Str, x = .str z ∧ PyData.strOk z = true ∧ z.length = 1) → ∃ ys : List Str, ss = ys.map V.str ∧ ∀ y ∈ ys, PyData.strOk y = true ∧ y.length = 1
  | [], _ => ⟨[], rfl, fun _ h => nomatch h⟩
  | x :: ss, h => by
    obtain ⟨ys, e, hy⟩ := strs_of (ss := ss) fun z hz => h z (List.mem_cons_of_mem _ hz)
    obtain ⟨z, rfl, hz⟩ := h x List.mem_cons_self
    refine ⟨z :: ys, by rw [e]; rfl, fun y hm => ?_⟩
    rcases List.mem_cons.mp hm with rfl | hm
    · exact hz
    · exact hy y hm
theorem sum_ones : ∀ {ys : List Str}, (∀ y ∈ ys, y.length = 1) → (ys.map (fun y => y.length)).sum = ys.length
  | [], _ => rfl
  | y :: ys, h => by
    rw [List.map_cons, List.sum_cons, sum_ones fun z hz => h z (List.mem_cons_of_mem _ hz), h y List.mem_cons_self, List.length_cons]
    omega
theorem cut_two (z : Str) {k : Int} (h0 : 0 ≤ k) (h1 : k < z.length) : (cutS z none (some k)).length + (cutS z (some (k + 1)) none).length + 1 = z.length := by
  have e1 : HT.sIx z.length z.length (some k) = k.toNat := by
    have := HT.sIx_nat z.length z.length k.toNat
    rw [Int.toNat_of_nonneg h0] at this
    rw [this]; omega
  have e2 : HT.sIx z.length 0 (some (k + 1)) = k.toNat + 1 := by
    have := HT.sIx_nat z.length 0 (k.toNat + 1)
    rw [show ((k.toNat + 1 : Nat) : Int) = k + 1 by omega] at this
    rw [this]; omega
  show (List.toArray _).size + (List.toArray _).size + 1 = _
  rw [List.size_toArray, List.size_toArray, List.length_take, List.length_take, List.length_drop, List.length_drop, Array.length_toList, e1, e2, HT.sIx_none, HT.sIx_none]
  show min (k.toNat - 0) (z.length - 0) + min (z.length - (k.toNat + 1)) (z.length - (k.toNat + 1)) + 1 = z.length
  omega
theorem cut_two0 (z : Str) {k : Int} (h0 : 0 ≤ k) (h1 : k < z.length) : (cutS z none (some k)).length + (cutS z (some k) none).length = z.length := by
  have e1 : HT.sIx z.length z.length (some k) = k.toNat := by
    have := HT.sIx_nat z.length z.length k.toNat
    rw [Int.toNat_of_nonneg h0] at this
    rw [this]; omega
  have e2 : HT.sIx z.length 0 (some k) = k.toNat := by
    have := HT.sIx_nat z.length 0 k.toNat
    rw [Int.toNat_of_nonneg h0] at this
    rw [this]; omega
  show (List.toArray _).size + (List.toArray _).size = _
  rw [List.size_toArray, List.size_toArray, List.length_take, List.length_take, List.length_drop, List.length_drop, Array.length_toList, e1, e2, HT.sIx_none, HT.sIx_none]
  show min (k.toNat - 0) (z.length - 0) + min (z.length - k.toNat) (z.length - k.toNat) = z.length
  omega
/-! ### names: words of letters -/
def wordsS : List Str := ["rows", "groups", "keys", "self", "ties", "group", "all", "none", "sum", "count", "by", "not"]
def lettersT : Str := "abcdefghijklmnopqrstuvwxyz"
def letB (c : Nat) : Bool := decide (c ∈ lettersT.cps.toList)
theorem letB_iff {c : Nat} : letB c = true ↔ 97 ≤ c ∧ c ≤ 122 := by
  have e : lettersT.cps.toList = (List.range 26).map (97 + ·) := by decide +kernel
  unfold letB
  rw [decide_eq_true_iff, e, List.mem_map]
  constructor
  · rintro ⟨k, hk, rfl⟩
    have := List.mem_range.mp hk
    omega
  · intro h
    exact ⟨c - 97, List.mem_range.mpr (by omega), by omega⟩
def isNameB (z : Str) : Bool := decide (1 ≤ z.length ∧ z.length ≤ 8) && (!inV (.str z) (wordsS.map V.str) && z.cps.toList.all letB)
theorem inV_strs {z : Str} {ws : List Str} : inV (.str z) (ws.map V.str) = decide (z ∈ ws) := by
  unfold inV
  rw [List.any_map, Bool.eq_iff_iff, List.any_eq_true, decide_eq_true_iff]
  constructor
  · rintro ⟨x, hx, e⟩
    have e : (x == z) = true := e
    rw [← eq_of_beq e]
    exact hx
  · intro h
    exact ⟨z, h, show (z == z) = true from beq_self_eq_true z⟩
theorem flat_strsV (ws : List Str) : (ws.map V.str).all flatV = true := by
  rw [List.all_map]
  exact List.all_eq_true.mpr fun _ _ => rfl
theorem nodup_len {α : Type} [DecidableEq α] : ∀ {l m : List α}, l.Nodup → (∀ x ∈ l, x ∈ m) → l.length ≤ m.length
  | [], _, _, _ => Nat.zero_le _
  | x :: l, m, hn, h => by
    obtain ⟨h1, h2⟩ := List.nodup_cons.mp hn
    have hx := h x List.mem_cons_self
    have i := nodup_len (l := l) (m := m.erase x) h2 fun y hy => (List.mem_erase_of_ne (show y ≠ x from fun z => h1 (by rw [← z]; exact hy))).mpr (h y (List.mem_cons_of_mem _ hy))
    rw [List.length_erase_of_mem hx] at i
    have := List.length_pos_of_mem hx
    show l.length + 1 ≤ m.length
    omega
/-- what the law tries, letter by letter -/
def cand (pre : List Nat) (last : Int) (j : Nat) : Str := SX.S (pre ++ [97 + ((last + j) % 26).toNat])
theorem cand_inj {pre : List Nat} {last : Int} {i j : Nat} (hi : i < 26) (hj : j < 26) (h : cand pre last i = cand pre last j) : i = j := by
  have h := List.append_cancel_left (SX.S_inj h)
  injection h with h
  omega
theorem cands_nodup (pre : List Nat) (last : Int) : ((List.range 26).map (cand pre last)).Nodup := by
  rw [List.nodup_iff_pairwise_ne, List.pairwise_map]
  refine List.Pairwise.imp_of_mem ?_ (List.nodup_iff_pairwise_ne.mp List.nodup_range)
  intro i j hi hj hne e
  exact hne (cand_inj (List.mem_range.mp hi) (List.mem_range.mp hj) e)
theorem words_pre : ∀ a ∈ wordsS, ∀ b ∈ wordsS, a.cps.toList.dropLast = b.cps.toList.dropLast → a = b := by decide +kernel
theorem cand_words {pre : List Nat} {last : Int} {i j : Nat} (hi : i < 26) (hj : j < 26) (h1 : cand pre last i ∈ wordsS) (h2 : cand pre last j ∈ wordsS) : i = j := by
  refine cand_inj hi hj (words_pre _ h1 _ h2 ?_)
  show (pre ++ [97 + ((last + i) % 26).toNat]).dropLast = (pre ++ [97 + ((last + j) % 26).toNat]).dropLast
  rw [List.dropLast_concat, List.dropLast_concat]
/-- at most one of the words can be met -/
theorem cand_free {pre : List Nat} {last : Int} {ts : List Str} (hl : ts.length ≤ 20) (h : ∀ j, j < 26 → cand pre last j ∈ wordsS ∨ cand pre last j ∈ ts) : False := by
  obtain ⟨m, lm, hm⟩ : ∃ m : List Str, m.length ≤ ts.length + 1 ∧ ∀ j, j < 26 → cand pre last j ∈ m := by
    by_cases c : ∃ j, j < 26 ∧ cand pre last j ∈ wordsS
    · obtain ⟨j, hj, hw⟩ := c
      refine ⟨cand pre last j :: ts, Nat.le_refl _, fun k hk => ?_⟩
      rcases h k hk with z | z
      · rw [cand_words hk hj z hw]; exact List.mem_cons_self
      · exact List.mem_cons_of_mem _ z
    · exact ⟨ts, Nat.le_succ _, fun k hk => (h k hk).resolve_left fun z => c ⟨k, hk, z⟩⟩
  have i := nodup_len (cands_nodup pre last) (m := m) fun x hx => by
    obtain ⟨j, hj, rfl⟩ := List.mem_map.mp hx
    exact hm j (List.mem_range.mp hj)
  rw [List.length_map, List.length_range] at i
  omega
theorem cand_name {pre : List Nat} {last : Int} {j : Nat} (hp : ∀ c ∈ pre, letB c = true) (hl : pre.length ≤ 7) (hw : ¬ cand pre last j ∈ wordsS) : isNameB (cand pre last j) = true := by
  unfold isNameB
  have h1 : (cand pre last j).length = pre.length + 1 := by
    unfold cand
    rw [SX.S_len, List.length_append]
    rfl
  rw [inV_strs, decide_eq_false hw, decide_eq_true ⟨by omega, by omega⟩]
  show (pre ++ [97 + ((last + j) % 26).toNat]).all letB = true
  rw [List.all_append, List.all_eq_true.mpr hp]
  show (letB _ && true) = true
  rw [letB_iff.mpr (by omega)]
  rfl
theorem isName_len {z : Str} (h : isNameB z = true) : z.length ≤ 8 ∧ 1 ≤ z.length := by
  unfold isNameB at h
  have := of_decide_eq_true (Bool.and_eq_true_iff.mp h).1
  omega
theorem isName_sok {z : Str} (h : isNameB z = true) : PyData.strOk z = true := by
  unfold isNameB at h
  have h := (Bool.and_eq_true_iff.mp (Bool.and_eq_true_iff.mp h).2).2
  show z.cps.all _ = true
  rw [← Array.all_toList, List.all_eq_true]
  intro c hc
  have := letB_iff.mp (List.all_eq_true.mp h c hc)
  exact decide_eq_true (by omega)
/-- the first word that stands for the second time -/
def dblFrom : List Str → List Str → Option Str
  | _, [] => none
  | seen, w :: r => if w ∈ seen then some w else dblFrom (seen ++ [w]) r
theorem dbl_cons (seen : List Str) (w : Str) (r : List Str) : dblFrom seen (w :: r) = if w ∈ seen then some w else dblFrom (seen ++ [w]) r := rfl
theorem dbl_none : ∀ {seen ws : List Str}, (seen ++ ws).Nodup → dblFrom seen ws = none
  | _, [], _ => rfl
  | seen, w :: r, h => by
    unfold dblFrom
    have hn : ¬ w ∈ seen := fun z => (List.nodup_append.mp h).2.2 w z w List.mem_cons_self rfl
    rw [if_neg hn]
    refine dbl_none ?_
    rw [List.append_assoc]
    exact h
theorem join_ones : ∀ (cs : List Nat), Str.join "" (cs.map fun c => SX.S [c]) = SX.S cs
  | [] => by decide +kernel
  | [x] => rfl
  | x :: y :: r => by
    have i := join_ones (y :: r)
    show SX.S [x] ++ ("" : Str) ++ Str.join "" ((y :: r).map fun c => SX.S [c]) = _
    rw [i, show ("" : Str) = SX.S [] by decide +kernel, SX.S_cat, SX.S_cat]
    rfl
/-! ### v not in x, x of an own class; is, is not of truths; max of two ints -/
def rNiO (C : Addr) (sp : Sp) (E : XK) : R2 := fun x y H Q => ∃ a dx fs, y = .ref a ∧ H a = some (.ins C dx fs) ∧ sp [y, x] H (fun v H' => ∃ b, v = .bl b ∧ Q (.bl (!b)) H') E
section
variable {X : Cx} {CX : CXT} {k : Nat} {g C : Addr} {fd : FuncData} {ps : List Str} {sp : Sp} {E : XK}
theorem op_niO (hs : PySem.W.findIn X.K (.ref C) "__contains__" = some (some (.ref g))) (hf : PySem.W.isFn X.K (.ref g) = true) (F : FnOk X.prog X.w X.K X.mg X.base CX k g fd ps sp) (hr : Room k X.A) (hb : Binds X.K fd ps []) (hx : Passes CX X E) :
    OpR X (compareOp .NotIn) (rNiO C sp E) := by
  intro pins s σ H x y v u Q I rx ry h
  obtain ⟨a, dx, fs, rfl, ha, q⟩ := h
  cases (show u = Value.ref a from ry)
  obtain ⟨ox, od, J⟩ := inst_at I ha
  obtain ⟨m, hF⟩ := I.fr
  refine PySem.W.notIn_K hF I.ok.mod.kin J hs hf (wpAny_mono (run_fn (ds := []) (dvs := []) (vs := [.ref a, x]) F hr hb .nil hx I (.cons rfl (.cons rx .nil)) (by rw [List.append_nil]; exact q)) (fun w s' z => ?_) fun _ _ e => e)
  obtain ⟨z', H', I', rz, b, rfl, qz⟩ := z
  cases rz
  exact wpAny_truthy_bool ⟨.bl (!b), H', I', rfl, qz⟩
end
section
variable {σ : L2.St} {H : Hp} {Q : VK} {K : PySem.W.Frag}
theorem r_isBl {a b : Bool} (h : Q (.bl (decide (a = b))) H) : rIsB (.bl a) (.bl b) H Q := ⟨a, b, rfl, rfl, h⟩
theorem r_notBl {a b : Bool} (h : Q (.bl (!decide (a = b))) H) : rNotB (.bl a) (.bl b) H Q := ⟨a, b, rfl, rfl, h⟩
def rMax2 : List V → Hp → VK → Prop := fun xs H Q => ∃ i j, xs = [.int i, .int j] ∧ Q (.int (if j > i then j else i)) H
theorem c_max2 {X : Cx} (hc : X.calm = true) : CallR X (.builtin "max") rMax2 := call_max2 hc
theorem r_max2 {i j : Int} (h : ∀ m : Int, i ≤ m → j ≤ m → (m = i ∨ m = j) → m = max i j → Q (.int m) H) : rMax2 [.int i, .int j] H Q := by
  refine ⟨i, j, rfl, h _ ?_ ?_ ?_ ?_⟩
  all_goals split
  all_goals omega
end
/-! ### comprehensions that make a new tuple for each item -/
theorem lc_tups {σ : L2.St} {H : Hp} {Q : VK} {te : TE} {K : PySem.W.Frag} {a : Addr} {xs : List V} {n : Nat} (f : V → List V) (hS : SqL K H a xs) (hz : xs.length ≤ 1000)
    (he : ∀ (x : V) (H' : Hp) (QQ : VK), x ∈ xs → Same H H' → (∀ u H'', H' u = none → H'' u = some (.tup (f x)) → Same H' H'' → QQ (.ref u) H'') → te ((wipe σ [n]).set n (some x)) H' QQ)
    (hq : ∀ D (us : List Addr) H', H D = none → us.length = xs.length → H' D = some (.lst (us.map V.ref)) → (∀ (j : Nat) (u : Addr) (x : V), us[j]? = some u → xs[j]? = some x → H' u = some (.tup (f x))) → Same H H' → Q (.ref D) H') : lcGo (Itl K a) (gName n) tYes te [n] σ Q H := by
  intro D nD
  refine lc_list (K := K) (a := a) (xs := xs) (fun i H' => ∃ us : List Addr, us.length = i ∧ H' D = some (.lst (us.map V.ref)) ∧ (∀ (j : Nat) (u : Addr) (x : V), us[j]? = some u → xs[j]? = some x → H' u = some (.tup (f x))) ∧ Same H H') ⟨[], rfl, upd_same, fun j u x h => (by cases h), same_new nD⟩ (fun i H' _ ⟨_, _, _, _, s⟩ => s.seq hS) ?_ ?_
  · rintro i x H4 hx ⟨us, hl, hD4, hu, s4⟩
    refine ⟨wipe1, ?_⟩
    show te _ _ _
    refine he x H4 _ (List.mem_of_getElem? hx) s4 fun u H5 nu hu5 s5 => ?_
    have hD5 := s5 _ _ hD4
    have hi : i < xs.length := (List.getElem?_eq_some_iff.mp hx).1
    refine ⟨_, hD5, small1000 (by rw [List.length_map, hl]; omega), us ++ [u], by rw [List.length_append, hl]; rfl, by rw [upd_same, List.map_append]; rfl, fun j v y h1 h2 => ?_, fun b o e => (upd_ne (ne_of_none e nD)).trans (s5 _ _ (s4 _ _ e))⟩
    rcases Nat.lt_or_ge j us.length with hj | hj
    · rw [List.getElem?_append_left hj] at h1
      have z := s5 _ _ (hu j v y h1 h2)
      exact (upd_ne (ne_of z hD5 fun q => nomatch q)).trans z
    · rw [List.getElem?_append_right hj] at h1
      cases hk : j - us.length with
      | zero =>
        rw [hk] at h1
        cases h1
        have : j = i := by omega
        rw [this, hx] at h2
        cases h2
        exact (upd_ne (ne_of hu5 hD5 fun q => nomatch q)).trans hu5
      | succ m => rw [hk] at h1; cases h1
  · rintro H4 ⟨us, hl, hD4, hu, s4⟩
    exact hq D us H4 nD hl hD4 hu s4
theorem three_of {α : Type} {us : List α} (h : us.length = 3) : ∃ a b c, us = [a, b, c] := by
  match us, h with
  | [a, b, c], _ => exact ⟨a, b, c, rfl⟩
/-! ### two lists, place by place -/
structure All2 {α β : Type} (P : α → β → Prop) (as : List α) (bs : List β) : Prop where
  len : as.length = bs.length
  at_ : ∀ (j : Nat) (a : α) (b : β), as[j]? = some a → bs[j]? = some b → P a b
theorem All2.nil {α β : Type} {P : α → β → Prop} : All2 P ([] : List α) ([] : List β) := ⟨rfl, fun j a b h => by cases h⟩
theorem All2.imp {α β : Type} {P Q : α → β → Prop} {as : List α} {bs : List β} (h : All2 P as bs) (f : ∀ a b, P a b → Q a b) : All2 Q as bs := ⟨h.len, fun j a b h1 h2 => f a b (h.at_ j a b h1 h2)⟩
theorem All2.snoc {α β : Type} {P : α → β → Prop} {as : List α} {bs : List β} {a : α} {b : β} (h : All2 P as bs) (p : P a b) : All2 P (as ++ [a]) (bs ++ [b]) := by
  refine ⟨by rw [List.length_append, List.length_append, h.len]; rfl, fun j x y h1 h2 => ?_⟩
  rcases Nat.lt_or_ge j as.length with hj | hj
  · rw [List.getElem?_append_left hj] at h1
    rw [List.getElem?_append_left (by rw [← h.len]; exact hj)] at h2
    exact h.at_ j x y h1 h2
  · rw [List.getElem?_append_right hj] at h1
    rw [List.getElem?_append_right (by rw [← h.len]; exact hj), ← h.len] at h2
    cases hz : j - as.length with
    | zero =>
      rw [hz] at h1 h2
      cases h1
      cases h2
      exact p
    | succ n => rw [hz] at h1; cases h1
theorem All2.get {α β : Type} {P : α → β → Prop} {as : List α} {bs : List β} (h : All2 P as bs) {j : Nat} {a : α} (ha : as[j]? = some a) : ∃ b, bs[j]? = some b ∧ P a b := by
  have hj : j < bs.length := by rw [← h.len]; exact (List.getElem?_eq_some_iff.mp ha).1
  exact ⟨bs[j], List.getElem?_eq_getElem hj, h.at_ j a _ ha (List.getElem?_eq_getElem hj)⟩
theorem All2.map {α β : Type} {γ : Type} {P : α → β → Prop} {as : List α} {bs : List β} {f : α → γ} {k : β → γ} (h : All2 P as bs) (e : ∀ a b, P a b → f a = k b) : as.map f = bs.map k := by
  apply List.ext_getElem?
  intro j
  rw [List.getElem?_map, List.getElem?_map]
  cases ha : as[j]? with
  | none =>
    have : bs[j]? = none := by
      rw [List.getElem?_eq_none_iff] at ha ⊢
      rw [← h.len]
      exact ha
    rw [this]
    rfl
  | some a =>
    obtain ⟨b, hb, p⟩ := h.get ha
    rw [hb]
    exact congrArg some (e a b p)
/-- a field of the instance at an address -/
def fldV (H : Hp) (f : Str) : V → V
  | .ref u => match H u with
    | some (.ins _ _ fs) => (fs.lookup f).getD .non
    | _ => .non
  | _ => .non
theorem fld_at {H : Hp} {f : Str} {u C dx : Addr} {fs : List (Str × V)} {v : V} (h : H u = some (.ins C dx fs)) (l : fs.lookup f = some v) : fldV H f (.ref u) = v := by
  simp only [fldV, h]
  rw [l]
  rfl
section
variable {σ : L2.St} {H : Hp} {Q : VK} {K : PySem.W.Frag} {tr : TA} {te : TE} {QA : List V → Hp → Prop}
theorem r_star (h : te σ H fun x H1 => ∃ p xs, x = V.ref p ∧ (SqT K H1 p xs ∨ SqL K H1 p xs) ∧ tr σ H1 fun ys H2 => QA (xs ++ ys) H2) : StX.tStar K te tr σ H QA := h
theorem r_stT {a : Addr} {xs : List V} {F : List V → Prop} (h1 : SqT K H a xs) (h : F xs) : ∃ p xs, V.ref a = .ref p ∧ (SqT K H p xs ∨ SqL K H p xs) ∧ F xs := ⟨a, xs, rfl, .inl h1, h⟩
theorem r_stL {a : Addr} {xs : List V} {F : List V → Prop} (h1 : SqL K H a xs) (h : F xs) : ∃ p xs, V.ref a = .ref p ∧ (SqT K H p xs ∨ SqL K H p xs) ∧ F xs := ⟨a, xs, rfl, .inr h1, h⟩
end
/-! ### dicts, chains, texts sign by sign: readings -/
section
variable {σ : L2.St} {H : Hp} {Q : VK} {K : PySem.W.Frag} {ta tb tc te td ty tv : TE} {D : Ends}
theorem r_dnew (h : ∀ p, H p = none → Q (.ref p) (upd H p (.dK []))) : tDNewK σ H Q := h
theorem r_din (h : ty σ H fun y H1 => td σ H1 fun x H2 => ∃ a o, x = .ref a ∧ DGet H2 a y o ∧ Q (.bl o.isSome) H2) : tDIn ty td σ H Q := h
theorem r_dput (h : tv σ H fun v H1 => td σ H1 fun x H2 => ty σ H2 fun y H3 => ∃ a H4, x = .ref a ∧ DPut H3 a y v H4 ∧ D.nx σ H4) : sDPut td ty tv D σ H := h
theorem r_dinS {d : Addr} {kvs : List (Key × V)} {w : Str} {F : Option V → Prop} (e : H d = some (.dK kvs)) (h : F (valV kvs (Sum.inr w))) : ∃ a o, V.ref d = .ref a ∧ DGet H a (.str w) o ∧ F o := ⟨d, _, rfl, DGet.k (k := Sum.inr w) e, h⟩
theorem r_dputS {d : Addr} {kvs : List (Key × V)} {w : Str} {v : V} {F : Hp → Prop} (e : H d = some (.dK kvs)) (hl : kvs.length ≤ 1000) (h : F (upd H d (.dK (putK kvs (Sum.inr w) v)))) : ∃ a H4, V.ref d = .ref a ∧ DPut H a (.str w) v H4 ∧ F H4 := ⟨d, _, rfl, DPut.k (k := Sum.inr w) e (small1000 hl), h⟩
theorem r_chain {r r' : R2} (h : ta σ H fun x H1 => tb σ H1 fun y H2 => r x y H2 fun z H3 => ∃ k, z = .bl k ∧ (if k = true then tc σ H3 fun w' H4 => r' y w' H4 Q else Q (.bl false) H3)) : tChain r r' ta tb tc σ H Q := h
theorem r_is {R : It → Hp → Prop} (h : te σ H fun v H1 => ∃ x, v = .str x ∧ R (Its x) H1) : iStr te σ H R := h
theorem r_iss {z : Str} {F : Str → Prop} (h : F z) : ∃ x, V.str z = .str x ∧ F x := ⟨z, rfl, h⟩
theorem putK_len {kvs : List (Key × V)} {k : Key} {v : V} : (putK kvs k v).length ≤ kvs.length + 1 := by
  unfold putK
  split
  · rw [List.length_map]; omega
  · rw [List.length_append]; exact Nat.le_refl _
/-- [e for c in s], e by the sign -/
theorem lc_strM {n : Nat} {z : Str} (f : Nat → V) (hz : z.length ≤ 1000) (he : ∀ (c : Nat) (H' : Hp) (QQ : VK), Same H H' → QQ (f c) H' → te ((wipe σ [n]).set n (some (.str ⟨#[c]⟩))) H' QQ)
    (hq : ∀ D, H D = none → Q (.ref D) (upd H D (.lst (z.cps.toList.map f)))) : lcGo (Its z) (gName n) tYes te [n] σ Q H := by
  intro D hD
  have hz : z.cps.toList.length ≤ 1000 := by rw [Array.length_toList]; exact hz
  refine lc_it walk_str (fun i H' => H' = upd H D (.lst ((z.cps.toList.take i).map f))) rfl (fun _ _ _ _ => trivial) ?_ ?_
  · rintro i x H1 H2 hi rfl ⟨rfl, c, hc, rfl⟩
    refine ⟨wipe1, ?_⟩
    show te _ _ _
    refine he c _ _ (same_new hD) ⟨_, upd_same, ?_, ?_⟩
    · rw [List.length_map, List.length_take]
      exact small1000 (by omega)
    · have hc : z.cps.toList[i]? = some c := by rw [Array.getElem?_toList]; exact hc
      rw [upd_upd, List.take_add_one, hc, List.map_append]
      rfl
  · rintro H' rfl
    rw [show z.cps.size = z.cps.toList.length from (Array.length_toList).symm, List.take_length]
    exact hq D hD
end
theorem r_mko {C : Addr} {sp : Sp} {dvs : List V} {t : TA} {σ : L2.St} {H : Hp} {Q : XK} (h : t σ H fun vs H1 => vs.length ≤ 1000 ∧ ∀ a, H1 a = none → sp (.ref a :: (vs ++ dvs)) (upd H1 a (exo a C none)) (fun v H2 => v = .non ∧ ∃ (d : Addr) (fs : List (Str × V)), H2 a = some (exo a C (some d)) ∧ H2 d = some (exd d fs) ∧ H1 d = none ∧ Q (.ref C) (some d) (upd (del H2 a) d (.xd fs))) (fun _ _ _ => False)) : tMkO C sp dvs t σ H Q := h
theorem r_m0 {r : V → List V → Hp → VK → Prop} {to : TE} {σ : L2.St} {H : Hp} {Q : VK} (h : to σ H fun x H1 => (∃ a, x = .str a) ∧ r x [] H1 Q) : tM0 r to σ H Q := h
/-! ### dicts by tuples of keys; range as a tuple: readings -/
section
variable {σ : L2.St} {H : Hp} {Q : VK} {K : PySem.W.Frag} {ta tb tc te td ty tv : TE} {D : Ends}
theorem r_dnewT (h : ∀ p, H p = none → Q (.ref p) (upd H p (.dT []))) : tDNewT σ H Q := h
theorem r_dnin (h : ty σ H fun y H1 => td σ H1 fun x H2 => ∃ a o, x = .ref a ∧ DGet H2 a y o ∧ Q (.bl (!o.isSome)) H2) : tDNotIn ty td σ H Q := h
theorem r_dgt (h : td σ H fun x H1 => ty σ H1 fun y H2 => ∃ a v, x = .ref a ∧ DGet H2 a y (some v) ∧ Q v H2) : tDGet td ty σ H Q := h
theorem r_tupRg (h : ta σ H fun x H1 => ∃ n, x = .int n ∧ RgOk 0 n ∧ ∀ q, H1 q = none → Q (.ref q) (upd H1 q (.tup (rgV 0 n)))) : tTupRg (tRg1 ta) σ H Q := h
theorem r_dinT {d t : Addr} {kvs : List (List Key × V)} {k : List Key} {F : Option V → Prop} (e : H d = some (.dT kvs)) (et : H t = some (.tup (k.map kV))) (h : F (valV kvs k)) : ∃ a o, V.ref d = .ref a ∧ DGet H a (.ref t) o ∧ F o := ⟨d, _, rfl, DGet.t e et, h⟩
theorem r_dgetT {d t : Addr} {kvs : List (List Key × V)} {k : List Key} {v : V} {F : V → Prop} (e : H d = some (.dT kvs)) (et : H t = some (.tup (k.map kV))) (hv : valV kvs k = some v) (h : F v) : ∃ a v, V.ref d = .ref a ∧ DGet H a (.ref t) (some v) ∧ F v := ⟨d, _, rfl, hv ▸ DGet.t e et, h⟩
theorem r_dputT {d t : Addr} {kvs : List (List Key × V)} {k : List Key} {v : V} {F : Hp → Prop} (e : H d = some (.dT kvs)) (et : H t = some (.tup (k.map kV))) (hl : kvs.length ≤ 100000) (h : F (upd H d (.dT (putK kvs k v)))) : ∃ a H4, V.ref d = .ref a ∧ DPut H a (.ref t) v H4 ∧ F H4 := ⟨d, _, rfl, DPut.t e et (by rw [sizeLine_eq]; omega), h⟩
theorem putT_len {kvs : List (List Key × V)} {k : List Key} {v : V} : (putK kvs k v).length ≤ kvs.length + 1 := by
  unfold putK
  split
  · rw [List.length_map]; omega
  · rw [List.length_append]; exact Nat.le_refl _
end
theorem pi_listK {X : Cx} {tg l : Expr} {tl : TE} {K : PySem.W.Frag} (hl : PE X l tl) (hK : X.K = K := by rfl) : PI X tg l (iList K tl) := hK ▸ pi_list hl
/-! ### the matching by prices: a pure form of the search -/
namespace Hg
def fset {α : Type} (f : Nat → α) (i : Nat) (x : α) : Nat → α := fun k => if k = i then x else f k
theorem fset_same {α : Type} {f : Nat → α} {i : Nat} {x : α} : fset f i x i = x := if_pos rfl
theorem fset_ne {α : Type} {f : Nat → α} {i k : Nat} {x : α} (h : k ≠ i) : fset f i x k = f k := if_neg h
end Hg
/-! ### lists by their items' function; a few owned objects -/
open Hg (fset fset_same fset_ne)
def lsF (g : Nat → V) (n : Nat) : List V := (List.range n).map g
theorem lsF_len {g : Nat → V} {n : Nat} : (lsF g n).length = n := by rw [lsF, List.length_map, List.length_range]
theorem lsF_get {g : Nat → V} {n k : Nat} (h : k < n) : (lsF g n)[k]? = some (g k) := by rw [lsF, List.getElem?_map, List.getElem?_range h]; rfl
theorem at_lsF {g : Nat → V} {n k : Nat} (h : k < n) : atI (lsF g n) (k : Int) = some (g k) := atI_nat (lsF_get h)
theorem ixn_lsF {g : Nat → V} {n k : Nat} (h : k < n) : ixN (lsF g n).length (k : Int) = some k := by
  rw [ixn_in (by omega) (by rw [lsF_len]; omega), Int.toNat_natCast]
theorem set_lsF {g : Nat → V} {n k : Nat} {x : V} : (lsF g n).set k x = lsF (fset g k x) n := by
  refine List.ext_getElem? fun i => ?_
  rw [List.getElem?_set, lsF_len]
  by_cases hi : i < n
  · rw [lsF_get hi, lsF_get hi]
    by_cases e : k = i
    · subst e
      rw [if_pos rfl, if_pos hi, fset_same]
    · rw [if_neg e, fset_ne (Ne.symm e)]
  · have h1 : (lsF g n)[i]? = none := List.getElem?_eq_none (by rw [lsF_len]; omega)
    have h2 : (lsF (fset g k x) n)[i]? = none := List.getElem?_eq_none (by rw [lsF_len]; omega)
    rw [h1, h2]
    split
    · split
      · omega
      · rfl
    · rfl
theorem lsF_congr {g g' : Nat → V} {n : Nat} (h : ∀ k, k < n → g k = g' k) : lsF g n = lsF g' n := List.map_congr_left fun k hk => h k (List.mem_range.mp hk)
theorem lsF_rep {v : V} {n : Nat} : (List.replicate n [v]).flatten = lsF (fun _ => v) n := by
  rw [lsF, List.map_const', List.length_range]
  induction n with
  | zero => rfl
  | succ n ih => rw [List.replicate_succ, List.flatten_cons, ih, List.replicate_succ]; rfl
theorem fset_map {α : Type} {f : Nat → α} {i : Nat} {x : α} {k : α → V} : (fset (fun j => k (f j)) i (k x)) = fun j => k (fset f i x j) := by
  funext j
  unfold fset
  split <;> rfl
def intF (f : Nat → Int) (n : Nat) : List V := lsF (fun k => .int (f k)) n
def natF (f : Nat → Nat) (n : Nat) : List V := lsF (fun k => .int (f k : Int)) n
def optV : Option Int → V
  | none => .non
  | some l => .int l
def optF (f : Nat → Option Int) (n : Nat) : List V := lsF (fun k => optV (f k)) n
def boolF (f : Nat → Bool) (n : Nat) : List V := lsF (fun k => .bl (f k)) n
theorem set_intF {f : Nat → Int} {n k : Nat} {x : Int} : (intF f n).set k (.int x) = intF (fset f k x) n := by rw [intF, set_lsF, intF, fset_map (k := V.int)]
theorem set_natF {f : Nat → Nat} {n k : Nat} {x : Nat} : (natF f n).set k (.int (x : Int)) = natF (fset f k x) n := by rw [natF, set_lsF, natF, fset_map (k := fun m : Nat => V.int (m : Int))]
theorem set_optF {f : Nat → Option Int} {n k : Nat} {x : Int} : (optF f n).set k (.int x) = optF (fset f k (some x)) n := by
  rw [optF, set_lsF, optF, ← fset_map (k := optV)]
  rfl
theorem set_boolF {f : Nat → Bool} {n k : Nat} {x : Bool} : (boolF f n).set k (.bl x) = boolF (fset f k x) n := by rw [boolF, set_lsF, boolF, fset_map (k := V.bl)]
structure Hs (l : List (Addr × HO)) (rows : List Addr) (n : Nat) (w : Nat → Nat → Int) (H : Hp) : Prop where
  nd : (l.map (·.1)).Nodup
  at_ : ∀ e ∈ l, H e.1 = some e.2
  len : rows.length = n
  row : ∀ i r, rows[i]? = some r → r ∉ l.map (·.1) ∧ H r = some (.lst (intF (w i) n))
theorem Hs.get {l : List (Addr × HO)} {rows : List Addr} {n : Nat} {w : Nat → Nat → Int} {H : Hp} (h : Hs l rows n w H) (i : Nat) {a : Addr} {o : HO} (e : l[i]? = some (a, o)) : H a = some o := h.at_ _ (List.mem_of_getElem? e)
theorem Hs.put {l : List (Addr × HO)} {rows : List Addr} {n : Nat} {w : Nat → Nat → Int} {H : Hp} (h : Hs l rows n w H) (i : Nat) {a : Addr} {o o' : HO} (e : l[i]? = some (a, o)) : Hs (l.set i (a, o')) rows n w (upd H a o') := by
  have hi : i < l.length := (List.getElem?_eq_some_iff.mp e).1
  have em : (l.set i (a, o')).map (·.1) = l.map (·.1) := by
    rw [List.map_set]
    refine List.ext_getElem? fun j => ?_
    rw [List.getElem?_set]
    split
    · next y =>
      subst y
      rw [List.length_map, if_pos hi, List.getElem?_map, e]
      rfl
    · rfl
  refine ⟨by rw [em]; exact h.nd, fun x hx => ?_, h.len, fun j r hr => ?_⟩
  · obtain ⟨j, hj⟩ := List.getElem?_of_mem hx
    rw [List.getElem?_set] at hj
    split at hj
    · next y =>
      subst y
      cases hj
      exact upd_same
    · next y =>
      have ne : x.1 ≠ a := fun z => y (by
        have e1 : (l.map (·.1))[i]? = some a := by rw [List.getElem?_map, e]; rfl
        have e2 : (l.map (·.1))[j]? = some a := by rw [List.getElem?_map, hj, ← z]; rfl
        have hj' : j < (l.map (·.1)).length := (List.getElem?_eq_some_iff.mp e2).1
        have hi' : i < (l.map (·.1)).length := (List.getElem?_eq_some_iff.mp e1).1
        exact (List.getElem?_inj hi' h.nd).mp (e1.trans e2.symm))
      rw [upd_ne ne]
      exact h.at_ x (List.mem_of_getElem? hj)
  · obtain ⟨h1, h2⟩ := h.row j r hr
    refine ⟨by rw [em]; exact h1, ?_⟩
    rw [upd_ne (fun z => h1 (by rw [z]; exact List.mem_map.mpr ⟨_, List.mem_of_getElem? e, rfl⟩))]
    exact h2
theorem Hs.same {l : List (Addr × HO)} {rows : List Addr} {n : Nat} {w : Nat → Nat → Int} {H H' : Hp} (h : Hs l rows n w H) (s : Same H H') : Hs l rows n w H' := ⟨h.nd, fun e he => s _ _ (h.at_ e he), h.len, fun i r hr => ⟨(h.row i r hr).1, s _ _ (h.row i r hr).2⟩⟩
theorem Hs.push {l : List (Addr × HO)} {rows : List Addr} {n : Nat} {w : Nat → Nat → Int} {H H' : Hp} {a : Addr} {o : HO} (h : Hs l rows n w H) (na : H a = none) (s : Same H H') (ha : H' a = some o) : Hs (l ++ [(a, o)]) rows n w H' := by
  have nin : a ∉ l.map (·.1) := fun z => by
    obtain ⟨e, he, q⟩ := List.mem_map.mp z
    have y := h.at_ e he
    rw [q, na] at y
    cases y
  refine ⟨?_, fun e he => ?_, h.len, fun i r hr => ?_⟩
  · rw [List.map_append, List.nodup_append]
    exact ⟨h.nd, List.nodup_cons.mpr ⟨List.not_mem_nil, List.nodup_nil⟩, fun x hx y hy z => nin (by have q : y = a := List.mem_singleton.mp hy; rw [← q, ← z]; exact hx)⟩
  · rcases List.mem_append.mp he with z | z
    · exact s _ _ (h.at_ e z)
    · rw [List.mem_singleton.mp z]; exact ha
  · obtain ⟨h1, h2⟩ := h.row i r hr
    refine ⟨fun z => ?_, s _ _ h2⟩
    rw [List.map_append] at z
    rcases List.mem_append.mp z with y | y
    · exact h1 y
    · have q : r = a := List.mem_singleton.mp y
      rw [q, na] at h2
      cases h2
theorem r_lenR {H : Hp} {Q : VK} {K : PySem.W.Frag} {p : Addr} {as : List Addr} (h1 : H p = some (.lst (as.map V.ref))) (h : Q (.int as.length) H) : rLenL K [.ref p] H Q := ⟨p, _, rfl, .inl (.inl (.inl h1)), by rw [List.length_map]; exact h⟩
theorem r_rep {H : Hp} {Q : VK} {a : Addr} {v : V} {k : Nat} (ha : H a = some (.lst [v])) (hk : k ≤ 1000) (h : ∀ p, H p = none → Q (.ref p) (upd H p (.lst (lsF (fun _ => v) k)))) : rRep (.ref a) (.int (k : Int)) H Q := by
  refine ⟨a, k, [v], rfl, rfl, ha, by omega, by omega, ?_, fun p hp => ?_⟩
  · rw [Int.toNat_natCast, List.length_singleton, Nat.one_mul]
    exact Nat.le_of_lt (small1000 hk)
  · rw [Int.toNat_natCast, lsF_rep]
    exact h p hp
theorem r_while {c : TT} {tb : TS} {D : Ends} {σ : L2.St} {H : Hp} (Pv : Nat → L2.St → Hp → Prop) (h0 : ∃ m, Pv m σ H)
    (hs : ∀ m σ H, Pv m σ H → c σ H fun b H1 => if b = true then ∃ N : L2.St → Hp → Prop, (∀ σ' H', N σ' H' → ∃ m', m' < m ∧ Pv m' σ' H') ∧ tb { D with nx := N, ct := N, bk := D.nx } σ H1 else D.nx σ H1) : tWhile c tb D σ H := ⟨Pv, h0, hs⟩
/-! ### comprehensions that make a new list for each item -/
theorem lc_lsts {σ : L2.St} {H : Hp} {Q : VK} {te : TE} {K : PySem.W.Frag} {a : Addr} {xs : List V} {n : Nat} (f : V → List V) (hS : SqL K H a xs) (hz : xs.length ≤ 1000)
    (he : ∀ (x : V) (H' : Hp) (QQ : VK), x ∈ xs → Same H H' → (∀ u, H' u = none → QQ (.ref u) (upd H' u (.lst (f x)))) → te ((wipe σ [n]).set n (some x)) H' QQ)
    (hq : ∀ D (us : List Addr) H', H D = none → us.length = xs.length → us.Nodup → (∀ u ∈ us, H u = none ∧ u ≠ D) → H' D = some (.lst (us.map V.ref)) → (∀ (j : Nat) (u : Addr) (x : V), us[j]? = some u → xs[j]? = some x → H' u = some (.lst (f x))) → Same H H' → Q (.ref D) H') : lcGo (Itl K a) (gName n) tYes te [n] σ Q H := by
  intro D nD
  refine lc_list (K := K) (a := a) (xs := xs) (fun i H' => ∃ us : List Addr, us.length = i ∧ us.Nodup ∧ (∀ u ∈ us, H u = none ∧ u ≠ D) ∧ H' D = some (.lst (us.map V.ref)) ∧ (∀ (j : Nat) (u : Addr) (x : V), us[j]? = some u → xs[j]? = some x → H' u = some (.lst (f x))) ∧ Same H H') ⟨[], rfl, List.nodup_nil, fun u h => (by cases h), upd_same, fun j u x h => (by cases h), same_new nD⟩ (fun i H' _ ⟨_, _, _, _, _, _, s⟩ => s.seq hS) ?_ ?_
  · rintro i x H4 hx ⟨us, hl, hnd, hf, hD4, hu, s4⟩
    refine ⟨wipe1, ?_⟩
    show te _ _ _
    refine he x H4 _ (List.mem_of_getElem? hx) s4 fun u nu => ?_
    have uD : D ≠ u := ne_of_none hD4 nu
    have hD5 : (upd H4 u (.lst (f x))) D = some (.lst (us.map V.ref)) := (upd_ne uD).trans hD4
    have hi : i < xs.length := (List.getElem?_eq_some_iff.mp hx).1
    have nin : u ∉ us := fun hm => by
      obtain ⟨j, hj⟩ := List.getElem?_of_mem hm
      have hj' : j < us.length := (List.getElem?_eq_some_iff.mp hj).1
      have z := hu j u _ hj (List.getElem?_eq_getElem (show j < xs.length by omega))
      rw [nu] at z
      cases z
    refine ⟨_, hD5, small1000 (by rw [List.length_map, hl]; omega), us ++ [u], by rw [List.length_append, hl]; rfl, ?_, ?_, by rw [upd_same, List.map_append]; rfl, fun j v y h1 h2 => ?_, fun b o e => (upd_ne (ne_of_none e nD)).trans ((upd_ne (ne_of_none (s4 _ _ e) nu)).trans (s4 _ _ e))⟩
    · rw [List.nodup_append]
      exact ⟨hnd, (List.nodup_cons.mpr ⟨List.not_mem_nil, List.nodup_nil⟩), fun b hb c hc e => nin (by rw [← List.mem_singleton.mp hc, ← e]; exact hb)⟩
    · intro v hv
      rcases List.mem_append.mp hv with z | z
      · exact hf v z
      · rw [List.mem_singleton.mp z]
        exact ⟨s4.free nu, uD.symm⟩
    rcases Nat.lt_or_ge j us.length with hj | hj
    · rw [List.getElem?_append_left hj] at h1
      have z := hu j v y h1 h2
      have vm := List.mem_of_getElem? h1
      rw [upd_ne (hf v vm).2, upd_ne (ne_of_none z nu)]
      exact z
    · rw [List.getElem?_append_right hj] at h1
      cases hk : j - us.length with
      | zero =>
        rw [hk] at h1
        cases h1
        have : j = i := by omega
        rw [this, hx] at h2
        cases h2
        rw [upd_ne uD.symm]
        exact upd_same
      | succ m => rw [hk] at h1; cases h1
  · rintro H4 ⟨us, hl, hnd, hf, hD4, hu, s4⟩
    exact hq D us H4 nD hl hnd hf hD4 hu s4
/-- the items of the list or tuple at an address -/
def itemsOf (H : Hp) : V → List V
  | .ref u => match H u with
    | some (.lst xs) => xs
    | some (.tup xs) => xs
    | _ => []
  | _ => []
theorem items_tup {H : Hp} {u : Addr} {xs : List V} (h : H u = some (.tup xs)) : itemsOf H (.ref u) = xs := by simp only [itemsOf, h]
theorem items_lst {H : Hp} {u : Addr} {xs : List V} (h : H u = some (.lst xs)) : itemsOf H (.ref u) = xs := by simp only [itemsOf, h]
theorem lsF_succ {f : Nat → V} {n : Nat} : lsF f (n + 1) = lsF f n ++ [f n] := by rw [lsF, List.range_succ, List.map_append]; rfl
theorem lc_enum {σ : L2.St} {H : Hp} {Q : VK} {te : TE} {K : PySem.W.Frag} {a : Addr} {xs : List V} {n1 n2 : Nat} (f : Nat → V) (hS : SqL K H a xs) (hz : xs.length ≤ 1000) (hw : ∀ x y, wipe (((wipe σ [n1, n2]).set n1 (some x)).set n2 (some y)) [n1, n2] = wipe σ [n1, n2])
    (he : ∀ (i : Nat) (x : V) (H' : Hp) (QQ : VK), xs[i]? = some x → Same H H' → QQ (f i) H' → te (((wipe σ [n1, n2]).set n1 (some (.int (i : Int)))).set n2 (some x)) H' QQ)
    (hq : ∀ D H', H D = none → Same H H' → H' D = some (.lst (lsF f xs.length)) → Q (.ref D) H') : lcGo (Ite K a) (gTup K 2 (gCons (gName n1) (gCons (gName n2) gNil))) tYes te [n1, n2] σ Q H := by
  intro D nD
  refine lc_it (walk_enum (K := K) (a := a) (xs := xs)) (fun i H' => H' D = some (.lst (lsF f i)) ∧ Same H H') ⟨upd_same, same_new nD⟩ (fun i H' _ ⟨_, s⟩ => s.seq hS) ?_ ?_
  · rintro i v H1 H2 hi ⟨h1, s1⟩ ⟨T, x, y, rfl, nT, rfl, hx, hy⟩
    cases hx
    refine r_gtup (SqT.of upd_same) rfl ?_
    refine ⟨_, _, rfl, ?_⟩
    show gCons (gName n2) gNil _ _ _ _
    refine ⟨_, _, rfl, ?_⟩
    unfold gName
    refine ⟨rfl, hw _ _, ?_⟩
    show te _ _ _
    have hD : (upd H1 T (.tup [.int (i : Int), y])) D = some (.lst (lsF f i)) := (upd_ne (ne_of_none h1 nT)).trans h1
    refine he i y _ _ hy (s1.trans (same_new nT)) ⟨_, hD, small1000 (by rw [lsF_len]; omega), by rw [upd_same, lsF_succ], fun b o e => (upd_ne (ne_of_none e nD)).trans ((upd_ne (ne_of_none (s1 _ _ e) nT)).trans (s1 _ _ e))⟩
  · rintro H1 ⟨h1, s1⟩
    exact hq D H1 nD s1 h1
/-! ### o.m(e, ..) of an own method that may raise, within a try -/
def tMethT (C : Addr) (m : Str) (sp : Sp) (E : L2.St → XK) (ta : TE) (t : TA) : TE := fun σ H Q => ta σ H fun x H1 => ∃ a dx fs, x = .ref a ∧ H1 a = some (.ins C dx fs) ∧ fs.lookup m = none ∧ t σ H1 fun vs H2 => sp (x :: vs) H2 Q (E σ)
section
variable {X : Cx} {CX : CXT} {k : Nat} {f C : Addr} {fd : FuncData} {ps : List Str} {sp : Sp} {m : Str} {pos apos : Pos} {e o : Expr} {es : List Expr} {ta : TE} {t : TA}
theorem pe_methT {E : L2.St → XK} {pl : Sem Bool} (he : PE X o ta) (c : Cls X.K C) (hm : Meth X.K C m f) (F : FnOk X.prog X.w X.K X.mg X.base CX k f fd ps sp) (hr : Room k X.A) (hb : Binds X.K fd ps []) (hx : ∀ σ, PassesAt CX X σ (E σ)) (ha : PA X (e :: es) t)
    (hst : starEach (e :: es) X.env = (false, eval e X.env) :: starEach es X.env := by rfl) (hpl : (backTo pos (starEach es X.env)).any (fun q => q.1) = false := by rfl)
    (ht : eval (.Call (.Attribute o m apos) (e :: es) [] pos) X.env = (eval o X.env >>= fun ov => standAt apos.atName >>= fun _ => holding [ov] (getMethod ov m pl) >>= fun q => callWith pos q.1 q.2 (backTo pos (starEach (e :: es) X.env)) (backToKw pos (keywordEach [] X.env))) := by rfl) :
    PE X (.Call (.Attribute o m apos) (e :: es) [] pos) (tMethT C m sp E ta t) := by
  refine ⟨fun pins s σ H Q I h => PySem.W.methodCall_KW (pl := pl) (thn (he.run pins s σ H _ I h) fun u s1 w1 => ?_) ht⟩
  obtain ⟨x, H1, I1, rx, a, dx, fs, rfl, ea, l, q⟩ := w1
  cases (show u = Value.ref a from rx)
  refine getmeth_ok I1 ea c hm l (PySem.W.callWith_K (first := [.ref a]) (h₀ := X.base) I.ok.mod.kin hm.kp (thn (ha.run pos pins s1 σ H1 _ I1 q) fun us s2 w2 => ?_) hst hpl)
  obtain ⟨vs, H2, I2, r, q2⟩ := w2
  have two : Vals (V.ref a :: vs) (Value.ref a :: us) := .cons rfl r
  exact ⟨I2.kIn, run_fnS F hr hb (hx σ) I2 two q2⟩
end
theorem r_methT {σ : L2.St} {H : Hp} {Q : VK} {C : Addr} {m : Str} {sp : Sp} {E : L2.St → XK} {ta : TE} {t : TA} (h : ta σ H fun x H1 => ∃ a dx fs, x = .ref a ∧ H1 a = some (.ins C dx fs) ∧ fs.lookup m = none ∧ t σ H1 fun vs H2 => sp (x :: vs) H2 Q (E σ)) : tMethT C m sp E ta t σ H Q := h
theorem vals_rev : ∀ {vs : List V} {us : List Value}, Vals vs us → Vals vs.reverse us.reverse
  | [], _, r => by cases r; exact .nil
  | v :: vs, _, r => by
    cases r with
    | cons h t =>
      rw [List.reverse_cons, List.reverse_cons]
      exact (vals_rev t).append (.cons h .nil)
theorem r_dget {σ : L2.St} {H : Hp} {Q : VK} {td ty : TE} (h : td σ H fun x H1 => ty σ H1 fun y H2 => ∃ a v, x = .ref a ∧ DGet H2 a y (some v) ∧ Q v H2) : tDGet td ty σ H Q := h
theorem r_enum {σ : L2.St} {H : Hp} {K : PySem.W.Frag} {ta : TA} {R : It → Hp → Prop} (h : ta σ H fun vs H1 => ∃ a xs, vs = [.ref a] ∧ SqL K H1 a xs ∧ R (Ite K a) H1) : iEnum K ta σ H R := h
theorem r_iks {σ : L2.St} {H : Hp} {td : TE} {R : It → Hp → Prop} (h : td σ H fun x H1 => ∃ d o, x = .ref d ∧ ((∃ kvs, H1 d = some (.frz o (.dK kvs)) ∧ R (Itk d o kvs) H1) ∨ ∃ kvs, H1 d = some (.frz o (.dT kvs)) ∧ R (Itkt d o kvs) H1)) : iKeys td σ H R := h
theorem r_revL {σ : L2.St} {H : Hp} {Q : VK} {K : PySem.W.Frag} {te : TE} (h : te σ H fun x H1 => ∃ a xs, x = .ref a ∧ SqL K H1 a xs ∧ ∀ p, H1 p = none → Q (.ref p) (upd H1 p (.lst xs.reverse))) : tRevL K te σ H Q := h
theorem r_bm0 {σ : L2.St} {H : Hp} {Q : VK} {K : PySem.W.Frag} {T : String} {r : V → List V → Hp → VK → Prop} {to : TE} (h : to σ H fun x H1 => tyV K T x H1 ∧ r x [] H1 Q) : tBM0 K T r to σ H Q := h
theorem kit_self {K : PySem.W.Frag} {v : Value} : PySem.W.kitOne K v v = some true := by
  unfold PySem.W.kitOne
  rw [if_pos (beq_self_eq_true v)]
/-! ### sorted(xs) of a list or a tuple of texts -/
namespace SrS
open PySem PySem.Spec PyProof.Rows L2
def rSortedSA (K : PySem.W.Frag) : List V → Hp → VK → Prop := fun vs H Q => ∃ (a : Addr) (xs : List Str), vs = [V.ref a] ∧ (SqL K H a (xs.map V.str) ∨ SqT K H a (xs.map V.str)) ∧ xs.length < 64 ∧
  ∀ (ys : List Str) (p : Addr), ys.Perm xs → sortedS ys = true → H p = none → Q (.ref p) (upd H p (.lst (ys.map V.str)))
section
variable {X : Cx}
theorem cr_sortedSA : CallR X (.builtin "sorted") (rSortedSA X.K) := by
  intro pins s σ H vs us Q I r h
  obtain ⟨a, xs, rfl, hs, h64, q⟩ := h
  rcases hs with hs | hs
  · exact cr_sortedS pins s σ H _ us Q I r ⟨a, xs, rfl, hs, h64, q⟩
  obtain ⟨its, rv, ⟨o, ho, hc, n, hd⟩, hz⟩ := I.tuple hs
  rw [Vals.ref1 r]
  have hS := rv.strs
  have hl : its.length = xs.length := by
    have z := rv.length
    rw [List.length_map] at z
    exact z.symm
  refine Calls.call_function_entry PyProof.Rows.kind_sorted PyProof.Rows.plain_sorted PyProof.Rows.entry_sorted (PyProof.Rows.args_sorted1 _) ?_
  unfold Builtin.«sorted»
  refine wpAny_bind (m := checkCount "sorted" 1 1 _) (wpAny_pure ?_)
  refine wpAny_bind (wpAny_collect_seq (A := X.A.in1) a (.inr rfl) ho hc hd (fun h' hk => ?_) (by rw [List.size_toArray, hl, sizeLine_eq]; omega))
  have ei : its.toArray.toList = its := by simp
  rw [ei]
  have I1 : Inv X pins σ H { s with heap := h' } := I.kept (t' := s.toks) hk
  refine wpAny_bind (wpAny_newList ?_ (by rw [hl, sizeLine_eq]; omega))
  have hoL : (h'.push (seqObj "list" its.toArray 0)).get? h'.objs.size = some (seqObj "list" its.toArray 0) := Heap.get?_push_size _ rfl
  show wpAny _ _ _ _ _ { s with heap := h'.push (seqObj "list" its.toArray 0) }
  refine wpAny_bind (wpAny_holding (wpAny_call_entry PyProof.Rows.slot_list_sort ⟨_, hoL, rfl⟩ PyProof.Rows.entry_list_sort
    (list_sort_treeK (s := { s with heap := h'.push (seqObj "list" its.toArray 0) }) strKind_oneLt hoL hS.keysOf (fun v₁ v₂ rest e => keyKind_strs (by rw [← e]; exact hS)) (by rw [hl]; exact h64) fun st' hp hs => ⟨_, rfl, ?_⟩) (PyProof.Rows.args_list_sort _)))
  obtain ⟨ys, g1, g2, g3⟩ := sorted_out_str hS hp hs
  obtain ⟨ep, he'⟩ := PyProof.Rows.sortedHeap_at (vs := its) (out := (arrOf st').map (·.2)) hoL
  have hlen : (ys.map V.str).length ≤ sizeLine := by
    rw [List.length_map, g2.length_eq]
    exact Nat.le_trans (Nat.le_of_lt h64) (by decide)
  refine wpAny_pure ⟨_, rfl, .ref h'.objs.size, upd H h'.objs.size (.lst (ys.map V.str)), I1.laid (t' := s.toks) (fun b u e => ?_) (Nat.le_refl _)
    (show ObjOk X.prog X.w _ _ _ (.lst (ys.map V.str)) from ⟨hlen, ((arrOf st').map (·.2)).toList, ep, vals_of_strs g1, by rw [Array.toArray_toList]; exact he'⟩), rfl, q ys _ g2 g3 (I1.hok.fresh (Nat.le_refl _))⟩
  have hb : b < h'.objs.size := Heap.lt_size e
  rw [PyProof.Rows.sortedHeap_old (Nat.ne_of_lt hb) (by rw [size_push']; exact Nat.lt_succ_of_lt hb)]
  exact Heap.get?_push_of_some _ e
end
end SrS
/-! ### min(xs) of a list of texts; texts in order -/
namespace MnS
open PySem PySem.Spec PyProof.Rows L2
theorem lt_antisym : ∀ (a b : List Nat), ltCps a b = false → ltCps b a = false → a = b
  | [], [], _, _ => rfl
  | [], _ :: _, h, _ => nomatch h
  | _ :: _, [], _, h => nomatch h
  | a :: r, b :: t, h1, h2 => by
    have h1 : (decide (a < b) || (a == b && ltCps r t)) = false := h1
    have h2 : (decide (b < a) || (b == a && ltCps t r)) = false := h2
    obtain ⟨x1, x2⟩ := Bool.or_eq_false_iff.mp h1
    obtain ⟨y1, y2⟩ := Bool.or_eq_false_iff.mp h2
    have e : a = b := by
      have := of_decide_eq_false x1
      have := of_decide_eq_false y1
      omega
    subst e
    rw [beq_self_eq_true, Bool.true_and] at x2 y2
    rw [lt_antisym r t x2 y2]
theorem le_trans : ∀ (a b c : List Nat), ltCps b a = false → ltCps c b = false → ltCps c a = false
  | [], _, c, _, _ => by cases c <;> rfl
  | a :: r, [], c, h1, _ => nomatch h1
  | a :: r, b :: t, [], _, h2 => nomatch h2
  | a :: r, b :: t, c :: u, h1, h2 => by
    have h1 : (decide (b < a) || (b == a && ltCps t r)) = false := h1
    have h2 : (decide (c < b) || (c == b && ltCps u t)) = false := h2
    obtain ⟨x1, x2⟩ := Bool.or_eq_false_iff.mp h1
    obtain ⟨y1, y2⟩ := Bool.or_eq_false_iff.mp h2
    have x1 := of_decide_eq_false x1
    have y1 := of_decide_eq_false y1
    show (decide (c < a) || (c == a && ltCps u r)) = false
    rw [Bool.or_eq_false_iff]
    refine ⟨decide_eq_false (by omega), ?_⟩
    by_cases e : c = a
    · subst e
      have e2 : b = c := by omega
      subst e2
      rw [beq_self_eq_true, Bool.true_and] at x2 y2 ⊢
      exact le_trans r t u x2 y2
    · rw [beq_eq_false_iff_ne.mpr e, Bool.false_and]
theorem le_of_lt : ∀ (a b : List Nat), ltCps a b = true → ltCps b a = false
  | [], [], h => nomatch h
  | [], _ :: _, _ => rfl
  | _ :: _, [], h => nomatch h
  | a :: r, b :: t, h => by
    have h : (decide (a < b) || (a == b && ltCps r t)) = true := h
    show (decide (b < a) || (b == a && ltCps t r)) = false
    rw [Bool.or_eq_false_iff]
    rcases Bool.or_eq_true_iff.mp h with z | z
    · have z := of_decide_eq_true z
      exact ⟨decide_eq_false (by omega), by rw [beq_eq_false_iff_ne.mpr (by omega), Bool.false_and]⟩
    · obtain ⟨e, z⟩ := Bool.and_eq_true_iff.mp z
      have e := beq_iff_eq.mp e
      subst e
      rw [beq_self_eq_true, Bool.true_and] at z
      exact ⟨decide_eq_false (by omega), by rw [beq_self_eq_true, Bool.true_and]; exact le_of_lt r t z⟩
def leS (x y : Str) : Prop := ltCps y.cps.toList x.cps.toList = false
theorem leS_trans {x y z : Str} (h : leS x y) (k : leS y z) : leS x z := le_trans _ _ _ h k
theorem leS_anti {x y : Str} (h : leS x y) (k : leS y x) : x = y := by
  have e := lt_antisym _ _ k h
  obtain ⟨a⟩ := x
  obtain ⟨b⟩ := y
  have e : a.toList = b.toList := e
  rw [Array.toList_inj.mp e]
theorem leS_refl (x : Str) : leS x x := by
  cases h : ltCps x.cps.toList x.cps.toList with
  | false => exact h
  | true => exact le_of_lt _ _ h
/-- the least of a list -/
def IsMin (m : Str) (xs : List Str) : Prop := m ∈ xs ∧ ∀ y ∈ xs, leS m y
theorem IsMin.uniq {m n : Str} {xs : List Str} (h : IsMin m xs) (k : IsMin n xs) : m = n := leS_anti (h.2 n k.1) (k.2 m h.1)
theorem rising_head : ∀ (p : Str) (l : List Str), risingS p l = true → ∀ y ∈ l, leS p y
  | _, [], _, y, hy => nomatch hy
  | p, x :: r, h, y, hy => by
    have h : (!ltCps x.cps.toList p.cps.toList && risingS x r) = true := h
    obtain ⟨h1, h2⟩ := Bool.and_eq_true_iff.mp h
    have h1 : leS p x := by
      unfold leS
      cases e : ltCps x.cps.toList p.cps.toList with
      | false => rfl
      | true => rw [e] at h1; exact nomatch h1
    rcases List.mem_cons.mp hy with rfl | hy
    · exact h1
    · exact leS_trans h1 (rising_head x r h2 y hy)
theorem sorted_head {x : Str} {r xs : List Str} (h : sortedS (x :: r) = true) (p : (x :: r).Perm xs) : IsMin x xs := by
  refine ⟨p.mem_iff.mp List.mem_cons_self, fun y hy => ?_⟩
  rcases List.mem_cons.mp (p.mem_iff.mpr hy) with rfl | hy
  · exact leS_refl _
  · exact rising_head x r h y hy
section
variable {prog : Program} {w : World} {A : Around} {E : Value → Shared → Prop} {s : Shared} {l : Addr}
theorem arg_le (f : Nat → Str) : ∀ k, argBest (fun i j => decide ((f i).cps.toList < (f j).cps.toList)) k ≤ k ∧ ∀ j, j ≤ k → leS (f (argBest (fun i j => decide ((f i).cps.toList < (f j).cps.toList)) k)) (f j)
  | 0 => ⟨Nat.le_refl _, fun j hj => by rw [Nat.le_zero.mp hj]; exact leS_refl _⟩
  | k + 1 => by
    obtain ⟨h1, h2⟩ := arg_le f k
    show (if decide ((f (k + 1)).cps.toList < (f (argBest _ k)).cps.toList) = true then k + 1 else argBest _ k) ≤ k + 1 ∧ ∀ j, j ≤ k + 1 → leS (f (if decide ((f (k + 1)).cps.toList < (f (argBest _ k)).cps.toList) = true then k + 1 else argBest _ k)) (f j)
    rw [← ltCps_eq]
    cases c : ltCps (f (k + 1)).cps.toList (f (argBest (fun i j => decide ((f i).cps.toList < (f j).cps.toList)) k)).cps.toList with
    | true =>
      rw [if_pos rfl]
      refine ⟨Nat.le_refl _, fun j hj => ?_⟩
      have z : leS (f (k + 1)) (f (argBest (fun i j => decide ((f i).cps.toList < (f j).cps.toList)) k)) := le_of_lt _ _ c
      rcases Nat.lt_or_ge k j with y | y
      · rw [show j = k + 1 by omega]
        exact leS_refl _
      · exact leS_trans z (h2 j y)
    | false =>
      rw [if_neg Bool.false_ne_true]
      refine ⟨by omega, fun j hj => ?_⟩
      rcases Nat.lt_or_ge k j with y | y
      · rw [show j = k + 1 by omega]
        exact c
      · exact h2 j y
theorem strs_at : ∀ {its : List Value} {xs : List Str}, StrsAre its xs → ∀ (i : Nat) (v : Value), its[i]? = some v → ∃ t, v = .str (xs.getD i "") t := by
  intro its xs h i v hv
  induction h generalizing i with
  | nil => cases hv
  | cons y t r ih =>
    cases i with
    | zero =>
      cases hv
      exact ⟨_, rfl⟩
    | succ i => exact ih i hv
theorem min_strs {its : List Value} {xs : List Str} {Q : Value → Shared → Prop} (hh : A.handled = none) (hl : s.heap.IsList l its.toArray) (hi : StrsAre its xs) (hne : 0 < xs.length)
    (h : ∀ h' tk M t', (∀ b o, s.heap.get? b = some o → h'.get? b = some o) → IsMin M xs → Q (.str M t') { s with heap := h', toks := tk }) : wpAny (model prog w) A (call (.builtin "min") [.ref l]) Q E s := by
  have hlt : l < s.heap.objs.size := by obtain ⟨_, e, _⟩ := hl; exact Heap.lt_size e
  have ln : its.length = xs.length := hi.length
  refine call_min_walk (wpAny_pyIter_list hl ?_)
  refine ⟨_, [s.heap.objs.size, l], _, _, _, _, fun i j => decide ((xs.getD i "").cps.toList < (xs.getD j "").cps.toList), rfl, Walks.list (A := A.in1) hh _ l (Nat.ne_of_lt hlt) its.toArray, ⟨⟨_, Heap.get?_push_size _ rfl, rfl, rfl⟩, hl.push _⟩, fun b hb => ?_, by rw [List.size_toArray]; omega, ?_, fun v h' tk hP hk => ?_⟩
  · show b < (s.heap.push _).objs.size
    rw [Heap.size_push]
    rcases List.mem_cons.mp hb with rfl | hb
    · exact Nat.lt_succ_self _
    · rcases List.mem_cons.mp hb with rfl | hb
      · exact Nat.lt_succ_of_lt hlt
      · cases hb
  · intro i j vi vj s2 Q2 E2 hi2 hj2 hq
    obtain ⟨t, rfl⟩ := strs_at hi i vi (by rw [← List.getElem?_toArray]; exact hi2)
    obtain ⟨u, rfl⟩ := strs_at hi j vj (by rw [← List.getElem?_toArray]; exact hj2)
    exact PyProof.Rows.lt_str hq
  · obtain ⟨t, rfl⟩ := strs_at hi _ v (by rw [← List.getElem?_toArray]; exact hP)
    obtain ⟨h1, h2⟩ := arg_le (fun i => xs.getD i "") (its.toArray.size - 1)
    rw [List.size_toArray] at h1 h2
    refine h h' tk _ t (old_kept hk) ⟨?_, fun y hy => ?_⟩
    · rw [List.size_toArray]
      rw [List.getD_eq_getElem?_getD, List.getElem?_eq_getElem (by omega)]
      exact List.getElem_mem _
    · obtain ⟨j, hj⟩ := List.getElem?_of_mem hy
      have jl := (List.getElem?_eq_some_iff.mp hj).1
      have z := h2 j (by omega)
      rw [List.getD_eq_getElem?_getD (l := xs) (i := j), hj] at z
      rw [List.size_toArray]
      exact z
end
section
variable {X : Cx}
def rMinS (K : PySem.W.Frag) : List V → Hp → VK → Prop := fun vs H Q => ∃ (a : Addr) (xs : List Str), vs = [V.ref a] ∧ SqL K H a (xs.map V.str) ∧ 0 < xs.length ∧ ∀ m, IsMin m xs → Q (.str m) H
theorem cr_minS (hc : X.calm = true) : CallR X (.builtin "min") (rMinS X.K) := by
  intro pins s σ H vs us Q I r h
  obtain ⟨a, xs, rfl, hs, hne, q⟩ := h
  obtain ⟨its, rv, hl, _⟩ := I.list hs
  rw [Vals.ref1 r]
  exact min_strs (I.ok.hd hc) hl.isList rv.strs hne fun h' tk m t' hk h1 => ⟨.str m, H, I.kept hk, ⟨_, rfl⟩, q m h1⟩
end
end MnS
/-! ### set(list of texts), sorted(set): rules -/
namespace SeS
open PySem PySem.Spec PyProof.Rows L2
abbrev ns0 (w : World) : Obj := { cls := .type "set", dict := none, data := .set #[] 0 (.fresh 0 0 (!w.params.followText "set-order")) }
def kS (p : Int × Value) : Str := match p.2 with
  | .str z _ => z
  | _ => Str.empty
def GoodS (w : World) (p : Int × Value) : Prop := ∃ (z : Str) (u : Tok), p.2 = Value.str z u ∧ p.1 = hashStr w z
/-- the set of the texts M at a -/
def SetS (w : World) (h : Heap) (a : Addr) (M : List Str) : Prop :=
  ∃ (o : Obj) (xs : Array (Int × Value)) (ep : Nat) (t : SetTable), (h.get? a = some o ∧ o.ExactSet ∧ o.data = .set xs ep t) ∧ ((∀ p ∈ xs.toList, GoodS w p) ∧ (xs.toList.map kS).Nodup ∧ ∀ z, z ∈ M ↔ z ∈ xs.toList.map kS) ∧
    xs.size < scanBound ∧ t.fits xs.size = true ∧ Ris t.place.toList ∧ (w.params.followText "set-order" = true ∨ t.led = true)
section
variable {P : Program} {w : World} {h h' : Heap} {a : Addr} {M : List Str}
theorem SetS.at_ (R : SetS w h a M) (k : ∀ o, h.get? a = some o → h'.get? a = some o) : SetS w h' a M := by
  obtain ⟨o, xs, ep, t, ⟨g, r⟩, z⟩ := R
  exact ⟨o, xs, ep, t, ⟨k o g, r⟩, z⟩
theorem SetS.as {M' : List Str} (R : SetS w h a M) (e : ∀ z, z ∈ M' ↔ z ∈ M) : SetS w h a M' := by
  obtain ⟨o, xs, ep, t, r, ⟨z1, z2, z3⟩, z⟩ := R
  exact ⟨o, xs, ep, t, r, ⟨z1, z2, fun y => (e y).trans (z3 y)⟩, z⟩
theorem is_s (z : Str) (u : Tok) : (PySem.strKind P w).is z (.str z u) = true := by
  show Value.isStrOf z (.str z u) = true
  simp [Value.isStrOf]
theorem elems_s {l : List (Int × Value)} (g : ∀ p ∈ l, GoodS w p) : ElemsOf (PySem.strKind P w) l := fun p hp => by
  obtain ⟨z, u, e1, e2⟩ := g p hp
  refine ⟨⟨z, ?_, e2⟩, ?_⟩
  · rw [e1]
    exact is_s z u
  · rw [e1]
    rfl
theorem is_kS {p : Int × Value} (g : GoodS w p) (z : Str) : (PySem.strKind P w).is z p.2 = true ↔ kS p = z := by
  obtain ⟨y, u, e, _⟩ := g
  unfold kS
  rw [e]
  exact ⟨fun c => (PySem.strKind P w).inj _ _ _ (is_s (P := P) (w := w) y u) c, fun c => c ▸ is_s y u⟩
theorem mem_kS {l : List (Int × Value)} (g : ∀ p ∈ l, GoodS w p) (z : Str) : z ∈ l.map kS ↔ ∃ p ∈ l, (PySem.strKind P w).is z p.2 = true := by
  rw [List.mem_map]
  exact ⟨fun ⟨p, hp, c⟩ => ⟨p, hp, (is_kS (g p hp) z).mpr c⟩, fun ⟨p, hp, c⟩ => ⟨p, hp, (is_kS (g p hp) z).mp c⟩⟩
theorem nodup_le : ∀ {l m : List Str}, l.Nodup → (∀ x ∈ l, x ∈ m) → l.length ≤ m.length
  | [], _, _, _ => Nat.zero_le _
  | x :: l, m, d, s => by
    obtain ⟨d1, d2⟩ := List.nodup_cons.mp d
    have k := nodup_le (l := l) (m := m.erase x) d2 fun y hy => (List.mem_erase_of_ne fun c => d1 (by rw [← c]; exact hy)).mpr (s y (List.mem_cons_of_mem _ hy))
    have hx := s x List.mem_cons_self
    rw [List.length_erase_of_mem hx] at k
    have := List.length_pos_of_mem hx
    rw [List.length_cons]
    omega
end
section
variable {P : Program} {w : World} {A : Around} {E : Value → Shared → Prop} {s : Shared} {a : Addr} {M : List Str}
theorem put_at {h : Heap} {a : Addr} {o : Obj} {xs ys : Array (Int × Value)} {ep : Nat} {t t2 : SetTable} (ho : h.get? a = some o) (hd : o.data = .set xs ep t) :
    (h.update a (Obj.putSet ys t2)).get? a = some { o with data := .set ys (ep + 1) t2 } := by
  have e := putSet_of ys t2 hd
  have z := Heap.get?_update_self (Obj.putSet ys t2) ho (by rw [e]; rfl)
  rwa [e] at z
theorem tail_s {g : Bool → Sem Unit} (hg : ∀ (b : Bool) (s1 : Shared) (R : Unit → Shared → Prop), R () s1 → wpAny (model P w) A (g b) R E s1)
    {o : Obj} {xs : Array (Int × Value)} {ep : Nat} {t : SetTable} (ho : s.heap.get? a = some o ∧ o.ExactSet ∧ o.data = .set xs ep t)
    {ys : Array (Int × Value)} {t2 : SetTable} {M' : List Str} (gd : (∀ p ∈ ys.toList, GoodS w p) ∧ (ys.toList.map kS).Nodup ∧ ∀ z, z ∈ M' ↔ z ∈ ys.toList.map kS)
    (lb : ys.size < scanBound) (ft : t2.fits ys.size = true) (ri : Ris t2.place.toList) (ld : w.params.followText "set-order" = true ∨ t2.led = true) {dm : Bool} {R : Option Bool → Shared → Prop}
    (fin : ∀ h', Heap.SameBut a s.heap h' → SetS w h' a M' → R (some true) { s with heap := h' }) :
    wpAny (model P w) A (do
        storeSet a ys t2
        if (!dm && t2.tooFull) = true then do
            g (relayAll t2 ys (SetTable.grown ys.size)).2.2
            storeSet a (relayAll t2 ys (SetTable.grown ys.size)).1 (relayAll t2 ys (SetTable.grown ys.size)).2.1
            pure (some true)
          else pure (some true)) R E s := by
  obtain ⟨ho, hx, hd⟩ := ho
  refine wpAny_bind (wpAny_storeSet_of ho hd ?_ (fits_of_scanBound lb))
  have o1 := put_at (ys := ys) (t2 := t2) ho hd
  have b1 := Heap.SameBut.update s.heap a (Obj.putSet ys t2)
  by_cases c : (!dm && t2.tooFull) = true
  · rw [if_pos c]
    have pm := relayAll_perm t2 ys (SetTable.grown ys.size)
    have f3 := relayAll_fits t2 ys (SetTable.grown ys.size)
    have r3 := relayAll_ris t2 ys (SetTable.grown ys.size)
    have l3 := relayAll_led t2 ys (SetTable.grown ys.size)
    generalize relayAll t2 ys (SetTable.grown ys.size) = Z at pm f3 r3 l3 ⊢
    obtain ⟨zs, t3, gv⟩ := Z
    dsimp only at pm f3 r3 l3 ⊢
    have sz : zs.size = ys.size := by
      have k := pm.length_eq
      rwa [Array.length_toList, Array.length_toList] at k
    have lb2 : zs.size < scanBound := sz ▸ lb
    refine wpAny_bind (hg _ _ _ ?_)
    refine wpAny_bind (wpAny_storeSet_of o1 rfl ?_ (fits_of_scanBound lb2))
    have o2 := put_at (ys := zs) (t2 := t3) o1 rfl
    have pk := pm.map kS
    refine wpAny_pure (fin _ (b1.trans (Heap.SameBut.update _ a _)) ⟨_, zs, _, t3, ⟨o2, hx, rfl⟩, ⟨fun p hp => gd.1 p (pm.mem_iff.mp hp), pk.nodup_iff.mpr gd.2.1, fun z => (gd.2.2 z).trans pk.mem_iff.symm⟩, lb2, f3, r3, ?_⟩)
    rcases ld with z | z
    · exact .inl z
    · exact .inr (by rw [l3]; exact z)
  · rw [if_neg c]
    exact wpAny_pure (fin _ b1 ⟨_, ys, _, t2, ⟨o1, hx, rfl⟩, gd, lb, ft, ri, ld⟩)
theorem add_s {z : Str} {u : Tok} {Q : Bool → Shared → Prop} (R : SetS w s.heap a M) (room : M.length + 1 < scanBound)
    (hQ : ∀ h' b, Heap.SameBut a s.heap h' → SetS w h' a (M ++ [z]) → Q b { s with heap := h' }) :
    wpAny (model P w) A (setAddHashed a (.str z u) ((PySem.strKind P w).hash z)) Q E s := by
  obtain ⟨o, xs, ep, t, ⟨ho, hx, hd⟩, ⟨g1, g2, g3⟩, lb, ft, ri, ld⟩ := R
  have iz : (PySem.strKind P w).is z (.str z u) = true := is_s z u
  have sc : (Value.str z u).scannable = true := rfl
  have el : ElemsOf (PySem.strKind P w) xs.toList := elems_s g1
  have szM : xs.size ≤ M.length := by
    have k := nodup_le g2 fun x hx => (g3 x).mpr hx
    rwa [List.length_map, Array.length_toList] at k
  unfold setAddHashed setAddHashedIn
  refine wpAny_holding (wpAny_bind (wpAny_setState_of ho hd ft ?_))
  dsimp only
  rw [byScan_of sc lb el]
  simp only [↓reduceIte]
  unfold setAddByScan
  refine wpAny_bind (wpAny_bind (wpAny_rule ?_))
  refine wpAny_bind (wpAny_setScan_of iz ho hd ft el ?_)
  cases hf : List.findIdx? (fun e => (PySem.strKind P w).is z e.2) xs.toList with
  | some j =>
    dsimp only
    obtain ⟨hj, pj, _⟩ := List.findIdx?_eq_some_iff_getElem.mp hf
    have zM : z ∈ M := (g3 z).mpr ((mem_kS (P := P) g1 z).mpr ⟨xs.toList[j], List.getElem_mem hj, pj⟩)
    refine wpAny_pure (wpAny_pure (hQ s.heap _ (Heap.SameBut.refl a s.heap) ⟨o, xs, ep, t, ⟨ho, hx, hd⟩, ⟨g1, g2, fun y => ?_⟩, lb, ft, ri, ld⟩))
    rw [List.mem_append, List.mem_singleton, ← g3 y]
    exact ⟨fun c => c.elim id fun e => e ▸ zM, .inl⟩
  | none =>
    dsimp only
    have nz : z ∉ xs.toList.map kS := fun c => by
      obtain ⟨p, hp, e⟩ := (mem_kS (P := P) g1 z).mp c
      have k := List.findIdx?_eq_none_iff.mp hf p hp
      rw [e] at k
      cases k
    have gv : ∀ (b : Bool) {s1 : Shared} {R : Unit → Shared → Prop}, R () s1 → wpAny (model P w) A (match b with | true => rule "set.scan.the-table-gave-way" | false => pure ()) R E s1 :=
      fun b s1 R k => by
        cases b
        · exact wpAny_pure k
        · exact wpAny_rule k
    have pm := layNew_perm t xs ((PySem.strKind P w).hash z) (.str z u)
    have f1 := layNew_fits t xs ((PySem.strKind P w).hash z) (.str z u)
    have r1 := layNew_ris t xs ((PySem.strKind P w).hash z) (.str z u) ri
    have l1 := layNew_led t xs ((PySem.strKind P w).hash z) (.str z u)
    generalize layNew t xs ((PySem.strKind P w).hash z) (.str z u) = Z at pm f1 r1 l1 ⊢
    obtain ⟨ys, t1, dm, gave⟩ := Z
    dsimp only at pm f1 r1 l1 ⊢
    rw [Array.toList_push] at pm
    have pc : ys.toList.Perm (((PySem.strKind P w).hash z, Value.str z u) :: xs.toList) := pm.trans (List.perm_append_singleton _ _)
    have pk : (ys.toList.map kS).Perm (z :: xs.toList.map kS) := pc.map kS
    have gd : (∀ p ∈ ys.toList, GoodS w p) ∧ (ys.toList.map kS).Nodup ∧ ∀ y, y ∈ M ++ [z] ↔ y ∈ ys.toList.map kS := by
      refine ⟨fun p hp => ?_, pk.nodup_iff.mpr (List.nodup_cons.mpr ⟨nz, g2⟩), fun y => ?_⟩
      · rcases List.mem_cons.mp (pc.mem_iff.mp hp) with c | c
        · rw [c]
          exact ⟨z, u, rfl, rfl⟩
        · exact g1 p c
      · rw [pk.mem_iff, List.mem_append, List.mem_singleton, List.mem_cons, g3 y]
        exact Or.comm
    have lb1 : ys.size < scanBound := by
      have k := pc.length_eq
      rw [List.length_cons, Array.length_toList, Array.length_toList] at k
      omega
    have ld1 : w.params.followText "set-order" = true ∨ t1.led = true := by
      rcases ld with c | c
      · exact .inl c
      · exact .inr (by rw [l1]; exact c)
    refine wpAny_bind (gv _ ?_)
    split
    · refine wpAny_bind ?_
      rw [hashByValue_scannable 8 sc]
      refine wpAny_pure (tail_s (fun b s1 R k => ?_) ⟨ho, hx, hd⟩ gd lb1 ?_ ?_ ?_ fun h' sb r => ?_)
      · cases b
        · exact wpAny_pure k
        · exact wpAny_rule k
      · first | exact f1 | (split <;> first | exact f1 | exact SetTable.fits_plain_off f1)
      · first | exact r1 | (split <;> exact r1)
      · first | exact ld1 | (split <;> exact ld1)
      · dsimp only
        exact wpAny_pure (hQ h' _ sb r)
    · refine wpAny_bind (wpAny_pure ?_)
      simp only [↓reduceIte]
      refine tail_s (fun b s1 R k => ?_) ⟨ho, hx, hd⟩ gd lb1 f1 r1 ld1 fun h' sb r => ?_
      · cases b
        · exact wpAny_pure k
        · exact wpAny_rule k
      · dsimp only
        exact wpAny_pure (hQ h' _ sb r)
theorem update_s {I : Addr} {fp wr : List Addr} {G : Array GenState → Array GenState → Prop} {n : Nat} {Pv : Nat → Value → Prop} {St : Nat → Shared → Prop} {R : Result → Shared → Prop}
    (W : WalksS P w A.in1 I fp wr G n Pv St) (S : Addr) (hSf : S ∉ fp) (zs : List Str) (hn : n = zs.length) (hb : zs.length + 1 < scanBound) (hval : ∀ i v, Pv i v → ∃ z t, zs[i]? = some z ∧ v = .str z t) :
    ∀ (k i : Nat) (s : Shared), n - i = k → i ≤ n → St i s → SetS w s.heap S (zs.take i) →
      (∀ s', Moved (S :: wr) G s s' → SetS w s'.heap S zs → R (.ok (.ret .none)) s') →
      codeAny (model P w) A (.builtin "set.update.loop" ⟨[.ref S, .ref I], []⟩) R s := by
  have nwr : S ∉ wr := fun c => hSf (W.sub _ c)
  have sub1 : ∀ b ∈ wr, b ∈ S :: wr := fun b c => List.mem_cons_of_mem _ c
  intro k
  induction k with
  | zero =>
    intro i s hk hi st hS fin
    obtain rfl : i = n := by omega
    refine codeAny_builtin F.entry_set_update_loop ?_
    rw [Around.under_plainId F.plain_set_update_loop _]
    show wpAny _ A.in1 (pyNext (.ref I) >>= _) _ _ s
    refine wpAny_bind (W.done s _ _ st fun s' mv => ?_)
    show wpAny _ A.in1 (ret Value.none) _ _ s'
    rw [List.take_of_length_le (by omega)] at hS
    exact wpAny_pure (fin s' (mv.mono sub1) (hS.at_ fun o e => mv.heap S o nwr e))
  | succ k ih =>
    intro i s hk hi st hS fin
    have il : i < n := by omega
    refine codeAny_builtin F.entry_set_update_loop ?_
    rw [Around.under_plainId F.plain_set_update_loop _]
    show wpAny _ A.in1 (pyNext (.ref I) >>= _) _ _ s
    refine wpAny_bind (W.item i s _ _ il st fun v s' pv1 st' mv => ?_)
    obtain ⟨z, t, hz, rfl⟩ := hval i v pv1
    have hS1 : SetS w s'.heap S (zs.take i) := hS.at_ fun o e => mv.heap S o nwr e
    show wpAny _ A.in1 (holding [Value.str z t] (setAdd S (.str z t)) >>= _) _ _ s'
    refine wpAny_bind (wpAny_holding ?_)
    unfold setAdd
    refine wpAny_holding ?_
    refine wpAny_bind ((PySem.strKind P w).pyHash (k := z) (is_s z t) ?_)
    refine add_s (s := { s' with toks := s'.toks + 1 }) hS1 (by rw [List.length_take]; omega) fun h' b sb hS2 => ?_
    have hS3 : SetS w h' S (zs.take (i + 1)) := by
      rw [List.take_add_one, hz]
      exact hS2
    refine wpAny_pure ⟨plainId_quiet F.plain_set_update_loop _, ih (i + 1) _ (by omega) il (W.frame _ s' _ _ st' (Nat.le_succ _) fun c hc o e => ?_) hS3 fun s'' mv2 hS4 => ?_⟩
    · rw [sb.2 c (fun y : c = S => hSf (by rw [← y]; exact hc))]
      exact e
    · refine fin s'' (Moved.trans W.gtrans ((mv.mono sub1).then_heap (Nat.le_succ _) fun c o hc e => ?_) mv2) hS4
      rw [sb.2 c (fun y : c = S => hc (by rw [y]; exact List.mem_cons_self))]
      exact e
theorem new_s {h : Heap} (ho : h.get? a = some (ns0 w)) : SetS w h a [] :=
  ⟨_, #[], 0, _, ⟨ho, ⟨rfl, rfl, rfl⟩, rfl⟩, ⟨fun p c => (by simp at c), by simp, fun z => by simp⟩, by decide, by rfl, List.Pairwise.nil, by
    show _ ∨ (!w.params.followText "set-order") = true
    cases w.params.followText "set-order"
    · exact .inr rfl
    · exact .inl rfl⟩
set_option maxRecDepth 100000 in
set_option maxHeartbeats 3200000 in
theorem call_set_s {l : Addr} {its : Array Value} (zs : List Str) {Q : Value → Shared → Prop} (hh : A.handled = none) (hl : s.heap.IsList l its) (hit : StrsAre its.toList zs) (hb : zs.length + 1 < scanBound)
    (q : ∀ (h' : Heap) (tk : Nat), SetS w h' s.heap.objs.size zs → (∀ b o, s.heap.get? b = some o → h'.get? b = some o) → Q (.ref s.heap.objs.size) { s with heap := h', toks := tk }) :
    wpAny (model P w) A (call (.type "set") [.ref l]) Q E s := by
  have nI : its.size = zs.length := by rw [← StrsAre.len_eq hit, Array.length_toList]
  obtain ⟨_, _, mro1⟩ := F.called_set.mro
  have f1 := F.called_set.made
  have f2 := F.called_set.sub
  refine wpAny_call (codeAny_of_tree ?_)
  show wpAny _ _ (callAny (.type "set") _) _ _ _
  refine wpAny_pure ⟨Code.quiet_builtin _ (by decide +kernel), codeAny_builtin F.entry_type_call ?_⟩
  rw [Around.under_plain (weight_type_call_type "set" [.ref l] []) rfl]
  have f3 := F.called_set.notType
  have f4 := F.called_set.canCreate
  have f5 := F.typeCall_set_1 (.ref l)
  repeat (any_goals (first | assumption | wp_step))
  refine codeAny_mono (code_set_led1 (.ref l) (E := E) (Q₁ := fun v t => v = .ref s.heap.objs.size ∧ t = { s with heap := s.heap.push (ns0 w) }) ⟨rfl, rfl⟩) fun r1 t1 hr1 => ?_
  cases r1 with
  | error e => exact hr1
  | ok fl =>
    cases fl with
    | ret v =>
      obtain ⟨rfl, rfl⟩ := hr1
      have gS : (s.heap.push (ns0 w)).get? s.heap.objs.size = some (ns0 w) := Heap.get?_push_size _ rfl
      have tS : Shared.TypeIs { s with heap := s.heap.push (ns0 w) } (.ref s.heap.objs.size) "set" := ⟨_, gS, rfl⟩
      have f6 := F.called_set.init.lookup
      have f7 := F.called_set.init.bind (.ref s.heap.objs.size)
      repeat (any_goals (first | assumption | wp_step))
      refine codeAny_mono (codeAny_call_builtin (R := wants (fun v t => v = .none ∧ ∃ h' tk, t = { s with heap := h', toks := tk } ∧ SetS w h' s.heap.objs.size zs ∧
          (∀ b o, s.heap.get? b = some o → h'.get? b = some o)) E) F.called_set.init.plain F.entry_set_init (check_set_init_1 tS ?_)) fun r2 t2 hr2 => ?_
      · obtain ⟨ol, hol, cl1, nl, dl1⟩ := hl
        obtain ⟨ocl, odi, oda, osl⟩ := ol
        simp only at cl1 dl1
        subst cl1; subst dl1
        have hol2 : (s.heap.push (ns0 w)).get? l = some { cls := .type "list", dict := odi, data := .seq its nl, slots := osl } := Heap.get?_push_of_some _ hol
        have g1 := F.sub_list_set
        have g2 := F.sub_list_frozenset
        have g3 : (Value.type "list" == Value.type "dict") = false := by decide
        have hl2 : (s.heap.push (ns0 w)).IsList l its := ⟨_, hol2, rfl, nl, rfl⟩
        unfold Builtin.«set.__init__» noKeywords Builtin.Frozenset.updateFrom
        generalize hPI : pyIter = PI
        wp_walk
        subst hPI
        refine wpAny_pyIter_list hl2 ?_
        refine wpAny_bind (wpAny_runValue ?_)
        have lS : l < s.heap.objs.size := Heap.lt_size hol
        have h3 : A.in1.in1.in1.handled = none := by simp [hh]
        have nI2 : l ≠ (s.heap.push (ns0 w)).objs.size := by
          rw [Heap.size_push]
          exact Nat.ne_of_lt (Nat.lt_succ_of_lt lS)
        have nSf : s.heap.objs.size ∉ [(s.heap.push (ns0 w)).objs.size, l] := by
          rw [Heap.size_push]
          simp only [List.mem_cons, List.not_mem_nil, or_false, not_or]
          exact ⟨Nat.ne_of_lt (Nat.lt_succ_self _), Nat.ne_of_gt lS⟩
        have vals : ∀ (i : Nat) (v : Value), its[i]? = some v → ∃ z t, zs[i]? = some z ∧ v = .str z t := fun i v hv => by
          have hi : i < zs.length := by rw [← nI]; exact (Array.getElem?_eq_some_iff.mp hv).1
          obtain ⟨t, e⟩ := SS.strs_at hit i v (by rw [Array.getElem?_toList]; exact hv)
          exact ⟨zs[i], t, List.getElem?_eq_getElem hi, by rw [e, List.getD_eq_getElem?_getD, List.getElem?_eq_getElem hi]; rfl⟩
        refine update_s ((Walks.list h3 _ l nI2 its).toS) s.heap.objs.size nSf zs nI hb vals (its.size - 0) 0 _ (by omega) (Nat.zero_le _)
          ⟨⟨_, Heap.get?_push_size _ rfl, rfl, rfl⟩, (hl2.push _)⟩ ?hS0 ?hR
        case hS0 =>
          have gg : ((s.heap.push (ns0 w)).push { cls := .type "list_iterator", data := .fields #[.ref l, .int 0 0] }).get? s.heap.objs.size = some (ns0 w) := Heap.get?_push_of_some _ gS
          exact new_s gg
        case hR =>
          intro t' mv hS'
          obtain ⟨h', g', d', tk', os'⟩ := t'
          have eg : g' = s.gens := mv.gens
          have ed : d' = s.drawn := mv.drawn
          have eo : os' = s.os := mv.os
          subst eg ed eo
          show wpAny _ _ _ _ _ _
          refine wpAny_pure ?_
          show wpAny _ _ (ret Value.none) _ _ _
          refine wpAny_pure ⟨rfl, h', tk', rfl, hS', fun b o e => ?_⟩
          have b0 : b < s.heap.objs.size := Heap.lt_size e
          have b1 : b ≠ s.heap.objs.size := Nat.ne_of_lt b0
          have b2 : b ≠ (s.heap.push (ns0 w)).objs.size := by
            rw [Heap.size_push]
            exact Nat.ne_of_lt (Nat.lt_succ_of_lt b0)
          exact mv.heap b o (by simp only [List.mem_cons, List.not_mem_nil, or_false, not_or]; exact ⟨b1, b2⟩) (Heap.get?_push_of_some _ (Heap.get?_push_of_some _ e))
      · cases r2 with
        | error e => exact hr2
        | ok fl2 =>
          cases fl2 with
          | ret v =>
            obtain ⟨rfl, h', tk, rfl, hS', hk'⟩ := hr2
            repeat (any_goals (first | assumption | wp_step))
            exact q _ _ hS' hk'
          | _ => exact hr2.elim
    | _ => exact hr1.elim
theorem strs_of : ∀ (vs : List Value), (∀ v ∈ vs, ∃ z u, v = Value.str z u) → StrsAre vs (vs.map fun v => kS (0, v))
  | [], _ => .nil
  | v :: vs, g => by
    obtain ⟨z, u, rfl⟩ := g v List.mem_cons_self
    exact .cons _ _ (strs_of vs fun y hy => g y (List.mem_cons_of_mem _ hy))
theorem sorted_s {Q : Value → Shared → Prop} (R : SetS w s.heap a M) (hh : A.handled = none) (h64 : M.length < 64)
    (hQ : ∀ (s' : Shared) (p : Addr) (out : Array Value) (c : Nat) (ys : List Str), (∀ b o, s.heap.get? b = some o → s'.heap.get? b = some o) → s'.gens = s.gens → s'.os = s.os → s.heap.objs.size ≤ p →
      s'.heap.get? p = some (seqObj "list" out c) → StrsAre out.toList ys → sortedS ys = true → ys.Nodup → (∀ z, z ∈ ys ↔ z ∈ M) → Q (.ref p) s') :
    wpAny (model P w) A (call (.builtin "sorted") [.ref a]) Q E s := by
  obtain ⟨o, xs, ep, t, ⟨ho, hx, hd⟩, ⟨g1, g2, g3⟩, lb, ft, ri, ld⟩ := R
  have szM : xs.size ≤ M.length := by
    have k := nodup_le g2 fun x hx => (g3 x).mpr hx
    rwa [List.length_map, Array.length_toList] at k
  refine Calls.call_function_entry kind_sorted plain_sorted entry_sorted (args_sorted1 _) ?_
  unfold Builtin.«sorted»
  refine wpAny_bind (m := checkCount "sorted" 1 1 _) (wpAny_pure ?_)
  refine wpAny_bind (collect_set (A := A.in1) hh ⟨o, ho, hx.1, hd⟩ ft lb ri ld fun s1 vs k1 hz e1 e2 pm => ?_)
  have lv : vs.length = xs.size := by rw [pm.length_eq, List.length_map, Array.length_toList]
  have lv64 : vs.length < 64 := by omega
  have hS := strs_of vs fun v hv => by
    obtain ⟨p, hp, c⟩ := List.mem_map.mp (pm.mem_iff.mp hv)
    obtain ⟨z, u, h1, _⟩ := g1 p hp
    exact ⟨z, u, c ▸ h1⟩
  have pk : (vs.map fun v => kS (0, v)).Perm (xs.toList.map kS) := by
    have k := pm.map fun v => kS (0, v)
    rw [List.map_map] at k
    exact k
  refine wpAny_bind (wpAny_newList ?_ (by rw [sizeLine_eq]; omega))
  have hoL : (s1.heap.push (seqObj "list" vs.toArray 0)).get? s1.heap.objs.size = some (seqObj "list" vs.toArray 0) := Heap.get?_push_size _ rfl
  show wpAny _ _ _ _ _ { s1 with heap := s1.heap.push (seqObj "list" vs.toArray 0) }
  refine wpAny_bind (wpAny_holding (wpAny_call_entry slot_list_sort ⟨_, hoL, rfl⟩ entry_list_sort
    (list_sort_treeK (s := { s1 with heap := s1.heap.push (seqObj "list" vs.toArray 0) }) strKind_oneLt hoL hS.keysOf (fun v₁ v₂ rest e => keyKind_strs (by rw [← e]; exact hS)) lv64 fun st' hp hs => ⟨_, rfl, ?_⟩) (args_list_sort _)))
  obtain ⟨ys, q1, q2, q3⟩ := sorted_out_str hS hp hs
  obtain ⟨c, hc⟩ := sortedHeap_at (vs := vs) (out := (arrOf st').map (·.2)) hoL
  have pn : ys.Perm (xs.toList.map kS) := q2.trans pk
  refine wpAny_pure ⟨_, rfl, hQ _ s1.heap.objs.size _ c ys (fun b y e => ?_) e1 e2 hz hc q1 q3 (pn.nodup_iff.mpr g2) fun z => pn.mem_iff.trans (g3 z).symm⟩
  have k := k1 b y e
  have lt := Heap.lt_size k
  rw [sortedHeap_old (Nat.ne_of_lt lt) (by rw [size_push']; exact Nat.lt_succ_of_lt lt)]
  exact Heap.get?_push_of_some _ k
end
/-- a set of texts as a tracked object -/
def SetSO (w : World) (a : Addr) (M : List Str) : HO := .ext fun h => SetS w h a M
section
variable {X : Cx}
theorem so_new {w : World} {P : Program} {H : Hp} {h : Heap} {a : Addr} {M : List Str} (R : SetS w h a M) : ObjOk P w H h a (SetSO w a M) := by
  have ⟨o, _, _, _, ho, _⟩ := R
  exact ⟨R, ⟨o, ho.1⟩, fun h1 h2 p k => SetS.at_ p k⟩
theorem so_get {pins : List (Addr × Obj)} {σ : L2.St} {H : Hp} {s : Shared} {a : Addr} {M : List Str} (I : L2.Inv X pins σ H s) (ha : H a = some (SetSO X.w a M)) : SetS X.w s.heap a M := (I.hok a _ ha).1
/-- set(xs), xs a list of texts -/
def rSetS (K : PySem.W.Frag) (w : World) : List V → Hp → VK → Prop := fun vs H Q => ∃ (l : Addr) (zs : List Str), vs = [V.ref l] ∧ SqL K H l (zs.map V.str) ∧ zs.length ≤ 1000 ∧ ∀ a, H a = none → Q (.ref a) (upd H a (SetSO w a zs))
theorem cr_setS (hc : X.calm = true) : CallR X (.type "set") (rSetS X.K X.w) := by
  intro pins s σ H vs us Q I r h
  obtain ⟨l, zs, rfl, hl, h1, q⟩ := h
  rw [Vals.ref1 r]
  obtain ⟨its, rv, pl, hz⟩ := I.list hl
  have hn : H s.heap.objs.size = none := I.hok.fresh (Nat.le_refl _)
  refine call_set_s (P := X.prog) (w := X.w) zs (I.ok.hd hc) pl.isList rv.strs (by unfold scanBound; omega) fun h' tk R k => ?_
  exact ⟨.ref s.heap.objs.size, upd H s.heap.objs.size (SetSO X.w s.heap.objs.size zs), I.laid (t' := tk) k (Nat.le_refl _) (so_new R), rfl, q _ hn⟩
/-- sorted(set of texts) -/
def rSortedSS (w : World) : List V → Hp → VK → Prop := fun vs H Q => ∃ (a : Addr) (M : List Str), vs = [V.ref a] ∧ H a = some (SetSO w a M) ∧ M.length < 64 ∧
  ∀ (ys : List Str) (p : Addr), sortedS ys = true → ys.Nodup → (∀ z, z ∈ ys ↔ z ∈ M) → H p = none → Q (.ref p) (upd H p (.lst (ys.map V.str)))
theorem cr_sortedSS (hc : X.calm = true) : CallR X (.builtin "sorted") (rSortedSS X.w) := by
  intro pins s σ H vs us Q I r h
  obtain ⟨a, M, rfl, ha, h64, q⟩ := h
  have R := so_get I ha
  rw [Vals.ref1 r]
  refine sorted_s R (I.ok.hd hc) h64 fun s' p out c ys k g o hp hg hi hs hn hm => ?_
  have ly : ys.length ≤ M.length := nodup_le hn fun z hz => (hm z).mp hz
  have hlen : (ys.map V.str).length ≤ sizeLine := by rw [List.length_map, sizeLine_eq]; omega
  have np : H p = none := I.hok.fresh hp
  have J : L2.Inv X pins σ (upd H p (.lst (ys.map V.str))) { s with heap := s'.heap, gens := s'.gens, drawn := s'.drawn, toks := s'.toks } :=
    I.call (ch := []) (Un.laid k hp np) (I.hok.laid k hp ⟨hlen, out.toList, c, vals_of_strs hi, by rw [Array.toArray_toList]; exact hg⟩) (by rw [g]; exact I.bare) (fun _ z => nomatch z)
  have e : s' = { s with heap := s'.heap, gens := s'.gens, drawn := s'.drawn, toks := s'.toks } := by
    cases s'
    cases s
    cases o
    rfl
  rw [e]
  exact ⟨.ref p, _, J, rfl, q ys p hs hn hm np⟩
end
end SeS
/-! ### xs == [] of any items -/
def rEqE (K : PySem.W.Frag) : R2 := fun x y H Q => ∃ a b xs, x = .ref a ∧ y = .ref b ∧ SqL K H a xs ∧ SqL K H b [] ∧ Q (.bl xs.isEmpty) H
theorem op_eqE {X : Cx} (hu : X.A.units < cLine) : OpR X (compareOp .Eq) (rEqE X.K) := by
  intro pins s σ H x y v u Q I rx ry h
  obtain ⟨a, b, xs, rfl, rfl, h1, h2, q⟩ := h
  cases (show v = Value.ref a from rx)
  cases (show u = Value.ref b from ry)
  obtain ⟨its, r1, ⟨o1, n1, g1, c1, _, d1⟩, _⟩ := I.list h1
  obtain ⟨its2, r2, ⟨o2, n2, g2, c2, _, d2⟩, _⟩ := I.list h2
  cases r2
  show wpAny _ _ (richCompare .Eq _ _) _ _ _
  cases r1 with
  | nil => exact SeqAt.RcAt.lists (e := fun _ => true) ⟨o1, g1, c1, n1, d1⟩ ⟨o2, g2, c2, n2, d2⟩ rfl hu (fun j h1 _ => absurd h1 (Nat.not_lt_zero j)) _ _ _ _ ⟨.bl true, H, I, rfl, q⟩
  | cons ra rb => exact SeqAt.RcAt.lists_lengths ⟨o1, g1, c1, n1, d1⟩ ⟨o2, g2, c2, n2, d2⟩ rfl hu _ _ _ _ ⟨.bl false, H, I, rfl, q⟩
theorem r_eqE {K : PySem.W.Frag} {H : Hp} {Q : VK} {a b : Addr} {xs : List V} (h1 : SqL K H a xs) (h2 : SqL K H b []) (q : Q (.bl xs.isEmpty) H) : rEqE K (.ref a) (.ref b) H Q := ⟨a, b, xs, rfl, rfl, h1, h2, q⟩
structure Txt_0 (K : PySem.W.Frag) (mg : Str → Option Value) where
  f_BadScheme___init__ : Addr
  d_BadScheme___init__ : FuncData
  F_BadScheme___init__ : Fun K "__init__" "BadScheme.__init__" s_BadScheme___init__ f_BadScheme___init__ d_BadScheme___init__
  b_BadScheme___init__ : Binds K d_BadScheme___init__ ["self", "word"] []
  f_UnknownColumn___init__ : Addr
  d_UnknownColumn___init__ : FuncData
  F_UnknownColumn___init__ : Fun K "__init__" "UnknownColumn.__init__" s_UnknownColumn___init__ f_UnknownColumn___init__ d_UnknownColumn___init__
  b_UnknownColumn___init__ : Binds K d_UnknownColumn___init__ ["self", "name"] []
  f_BadUnique___init__ : Addr
  d_BadUnique___init__ : FuncData
  F_BadUnique___init__ : Fun K "__init__" "BadUnique.__init__" s_BadUnique___init__ f_BadUnique___init__ d_BadUnique___init__
  b_BadUnique___init__ : Binds K d_BadUnique___init__ ["self", "index"] []
  f_BadFix___init__ : Addr
  d_BadFix___init__ : FuncData
  F_BadFix___init__ : Fun K "__init__" "BadFix.__init__" s_BadFix___init__ f_BadFix___init__ d_BadFix___init__
  b_BadFix___init__ : Binds K d_BadFix___init__ ["self", "index"] []
  f_known : Addr
  d_known : FuncData
  F_known : Fun K "known" "known" s_known f_known d_known
  b_known : Binds K d_known ["scheme", "columns"] []
  g_known : mg "known" = some (.ref f_known)
  f_usable : Addr
  d_usable : FuncData
  F_usable : Fun K "usable" "usable" s_usable f_usable d_usable
  b_usable : Binds K d_usable ["scheme", "columns"] []
  g_usable : mg "usable" = some (.ref f_usable)
  f_Facts___init__ : Addr
  d_Facts___init__ : FuncData
  F_Facts___init__ : Fun K "__init__" "Facts.__init__" s_Facts___init__ f_Facts___init__ d_Facts___init__
  f_Facts_reached : Addr
  d_Facts_reached : FuncData
  F_Facts_reached : Fun K "reached" "Facts.reached" s_Facts_reached f_Facts_reached d_Facts_reached
  b_Facts_reached : Binds K d_Facts_reached ["self", "columns"] []
  f_Facts_closure : Addr
  d_Facts_closure : FuncData
  F_Facts_closure : Fun K "closure" "Facts.closure" s_Facts_closure f_Facts_closure d_Facts_closure
  f_Facts_chain : Addr
  d_Facts_chain : FuncData
  F_Facts_chain : Fun K "chain" "Facts.chain" s_Facts_chain f_Facts_chain d_Facts_chain
  f_Facts_no_twins : Addr
  d_Facts_no_twins : FuncData
  F_Facts_no_twins : Fun K "no_twins" "Facts.no_twins" s_Facts_no_twins f_Facts_no_twins d_Facts_no_twins
  f_is_name : Addr
  d_is_name : FuncData
  F_is_name : Fun K "is_name" "is_name" s_is_name f_is_name d_is_name
  b_is_name : Binds K d_is_name ["thing"] []
  g_is_name : mg "is_name" = some (.ref f_is_name)
  f_first_double : Addr
  d_first_double : FuncData
  F_first_double : Fun K "first_double" "first_double" s_first_double f_first_double d_first_double
  b_first_double : Binds K d_first_double ["words"] []
  g_first_double : mg "first_double" = some (.ref f_first_double)
  f_Sort___init__ : Addr
  d_Sort___init__ : FuncData
  F_Sort___init__ : Fun K "__init__" "Sort.__init__" s_Sort___init__ f_Sort___init__ d_Sort___init__
  kn_Sort___init__ : KBn K d_Sort___init__ ["self", "name", "key", "part", "descending"] 3 ["part", "descending"] (fun us ws => us ++ ws) (fun vs zs => vs ++ zs)
  f_Sort___eq__ : Addr
  d_Sort___eq__ : FuncData
  F_Sort___eq__ : Fun K "__eq__" "Sort.__eq__" s_Sort___eq__ f_Sort___eq__ d_Sort___eq__
  b_Sort___eq__ : Binds K d_Sort___eq__ ["self", "other"] []
structure Txt_1 (K : PySem.W.Frag) (mg : Str → Option Value) extends Txt_0 K mg where
  f_Scheme___init__ : Addr
  d_Scheme___init__ : FuncData
  F_Scheme___init__ : Fun K "__init__" "Scheme.__init__" s_Scheme___init__ f_Scheme___init__ d_Scheme___init__
  kn_Scheme___init__ : KBn K d_Scheme___init__ ["self", "sorts", "parts", "values", "marks"] 2 ["parts", "values", "marks"] (fun us ws => us ++ ws) (fun vs zs => vs ++ zs)
  f_Scheme_inspect : Addr
  d_Scheme_inspect : FuncData
  F_Scheme_inspect : Fun K "inspect" "Scheme.inspect" s_Scheme_inspect f_Scheme_inspect d_Scheme_inspect
  b_Scheme_inspect : Binds K d_Scheme_inspect ["self"] []
  f_Scheme_columns : Addr
  d_Scheme_columns : FuncData
  F_Scheme_columns : Fun K "columns" "Scheme.columns" s_Scheme_columns f_Scheme_columns d_Scheme_columns
  b_Scheme_columns : Binds K d_Scheme_columns ["self"] []
  f_Scheme_sort_names : Addr
  d_Scheme_sort_names : FuncData
  F_Scheme_sort_names : Fun K "sort_names" "Scheme.sort_names" s_Scheme_sort_names f_Scheme_sort_names d_Scheme_sort_names
  b_Scheme_sort_names : Binds K d_Scheme_sort_names ["self"] []
  f_Scheme___eq__ : Addr
  d_Scheme___eq__ : FuncData
  F_Scheme___eq__ : Fun K "__eq__" "Scheme.__eq__" s_Scheme___eq__ f_Scheme___eq__ d_Scheme___eq__
  b_Scheme___eq__ : Binds K d_Scheme___eq__ ["self", "other"] []
  f__law_begin : Addr
  d__law_begin : FuncData
  F__law_begin : Fun K "_law_begin" "_law_begin" s__law_begin f__law_begin d__law_begin
  b__law_begin : Binds K d__law_begin ["_law_script"] []
  g__law_begin : mg "_law_begin" = some (.ref f__law_begin)
  f__law_draw : Addr
  d__law_draw : FuncData
  F__law_draw : Fun K "_law_draw" "_law_draw" s__law_draw f__law_draw d__law_draw
  b__law_draw : Binds K d__law_draw ["_law_draws", "_law_many"] []
  g__law_draw : mg "_law_draw" = some (.ref f__law_draw)
  f__law_name : Addr
  d__law_name : FuncData
  F__law_name : Fun K "_law_name" "_law_name" s__law_name f__law_name d__law_name
  b__law_name : Binds K d__law_name ["_law_draws", "_law_taken"] []
  g__law_name : mg "_law_name" = some (.ref f__law_name)
  f__law_names : Addr
  d__law_names : FuncData
  F__law_names : Fun K "_law_names" "_law_names" s__law_names f__law_names d__law_names
  b__law_names : Binds K d__law_names ["_law_draws", "_law_taken", "_law_many"] []
  g__law_names : mg "_law_names" = some (.ref f__law_names)
  f__law_spec : Addr
  d__law_spec : FuncData
  F__law_spec : Fun K "_law_spec" "_law_spec" s__law_spec f__law_spec d__law_spec
  b__law_spec : Binds K d__law_spec ["_law_draws", "_law_most"] []
  g__law_spec : mg "_law_spec" = some (.ref f__law_spec)
  f__law_scheme : Addr
  d__law_scheme : FuncData
  F__law_scheme : Fun K "_law_scheme" "_law_scheme" s__law_scheme f__law_scheme d__law_scheme
  b__law_scheme : Binds K d__law_scheme ["_law_spec_here"] []
  g__law_scheme : mg "_law_scheme" = some (.ref f__law_scheme)
  f__law_whole : Addr
  d__law_whole : FuncData
  F__law_whole : Fun K "_law_whole" "_law_whole" s__law_whole f__law_whole d__law_whole
  b__law_whole : Binds K d__law_whole ["_law_x"] []
  g__law_whole : mg "_law_whole" = some (.ref f__law_whole)
  f__law_columns : Addr
  d__law_columns : FuncData
  F__law_columns : Fun K "_law_columns" "_law_columns" s__law_columns f__law_columns d__law_columns
  b__law_columns : Binds K d__law_columns ["_law_spec_here"] []
  g__law_columns : mg "_law_columns" = some (.ref f__law_columns)
structure Txt_2 (K : PySem.W.Frag) (mg : Str → Option Value) extends Txt_1 K mg where
  f__law_left : Addr
  d__law_left : FuncData
  F__law_left : Fun K "_law_left" "_law_left" s__law_left f__law_left d__law_left
  b__law_left : Binds K d__law_left ["_law_draws", "_law_spec_here"] []
  g__law_left : mg "_law_left" = some (.ref f__law_left)
  f__law_fact_lists : Addr
  d__law_fact_lists : FuncData
  F__law_fact_lists : Fun K "_law_fact_lists" "_law_fact_lists" s__law_fact_lists f__law_fact_lists d__law_fact_lists
  b__law_fact_lists : Binds K d__law_fact_lists ["_law_draws", "_law_spec_here"] []
  g__law_fact_lists : mg "_law_fact_lists" = some (.ref f__law_fact_lists)
  f__law_facts : Addr
  d__law_facts : FuncData
  F__law_facts : Fun K "_law_facts" "_law_facts" s__law_facts f__law_facts d__law_facts
  b__law_facts : Binds K d__law_facts ["_law_spec_here", "_law_lists"] []
  g__law_facts : mg "_law_facts" = some (.ref f__law_facts)
  f__law_closed : Addr
  d__law_closed : FuncData
  F__law_closed : Fun K "_law_closed" "_law_closed" s__law_closed f__law_closed d__law_closed
  b__law_closed : Binds K d__law_closed ["_law_lists", "_law_given"] []
  g__law_closed : mg "_law_closed" = some (.ref f__law_closed)
  f__law_ask : Addr
  d__law_ask : FuncData
  F__law_ask : Fun K "_law_ask" "_law_ask" s__law_ask f__law_ask d__law_ask
  b__law_ask : Binds K d__law_ask ["_law_facts_here", "_law_which", "_law_given"] []
  g__law_ask : mg "_law_ask" = some (.ref f__law_ask)
  f__law_asked_right : Addr
  d__law_asked_right : FuncData
  F__law_asked_right : Fun K "_law_asked_right" "_law_asked_right" s__law_asked_right f__law_asked_right d__law_asked_right
  b__law_asked_right : Binds K d__law_asked_right ["_law_draws", "_law_spec_here", "_law_facts_here", "_law_lists", "_law_given"] []
  g__law_asked_right : mg "_law_asked_right" = some (.ref f__law_asked_right)
  f__law_refused : Addr
  d__law_refused : FuncData
  F__law_refused : Fun K "_law_refused" "_law_refused" s__law_refused f__law_refused d__law_refused
  b__law_refused : Binds K d__law_refused ["_law_facts_here", "_law_given", "_law_strange"] []
  g__law_refused : mg "_law_refused" = some (.ref f__law_refused)
  f__law_closure : Addr
  d__law_closure : FuncData
  F__law_closure : Fun K "_law_closure" "_law_closure" s__law_closure f__law_closure d__law_closure
  b__law_closure : Binds K d__law_closure ["_law_facts_here", "_law_given"] []
  g__law_closure : mg "_law_closure" = some (.ref f__law_closure)
  f__law_chain : Addr
  d__law_chain : FuncData
  F__law_chain : Fun K "_law_chain" "_law_chain" s__law_chain f__law_chain d__law_chain
  b__law_chain : Binds K d__law_chain ["_law_facts_here", "_law_given"] []
  g__law_chain : mg "_law_chain" = some (.ref f__law_chain)
  f__law_no_twins : Addr
  d__law_no_twins : FuncData
  F__law_no_twins : Fun K "_law_no_twins" "_law_no_twins" s__law_no_twins f__law_no_twins d__law_no_twins
  b__law_no_twins : Binds K d__law_no_twins ["_law_facts_here", "_law_given"] []
  g__law_no_twins : mg "_law_no_twins" = some (.ref f__law_no_twins)
  f__law_walked : Addr
  d__law_walked : FuncData
  F__law_walked : Fun K "_law_walked" "_law_walked" s__law_walked f__law_walked d__law_walked
  b__law_walked : Binds K d__law_walked ["_law_lists", "_law_given", "_law_chain_here"] []
  g__law_walked : mg "_law_walked" = some (.ref f__law_walked)
  f_law : Addr
  d_law : FuncData
  F_law : Fun K "law" "law" s_law f_law d_law
  b_law : Binds K d_law ["_law_script"] []
  g_law : mg "law" = some (.ref f_law)
structure Txt_3 (K : PySem.W.Frag) (mg : Str → Option Value) extends Txt_2 K mg where
  e_Facts___init___unique : Addr
  eq_Facts___init___unique : ∀ H, SqT K H e_Facts___init___unique []
  e_Facts___init___fixes : Addr
  eq_Facts___init___fixes : ∀ H, SqT K H e_Facts___init___fixes []
  ds_Facts___init__ : List Value
  rds_Facts___init__ : Vals [(V.ref e_Facts___init___unique), (V.ref e_Facts___init___fixes)] ds_Facts___init__
  bd_Facts___init__ : Binds K d_Facts___init__ ["self", "scheme", "unique", "fixes"] ds_Facts___init__
  mv_Facts___init___U : List Value
  kn_Facts___init___U : KBn K d_Facts___init__ ["self", "scheme", "unique", "fixes"] 2 ["unique"] (fun us ws => us ++ ws ++ mv_Facts___init___U) (fun us ws => us ++ ws ++ [(V.ref e_Facts___init___fixes)])
  mv_Facts___init___X : List Value
  kn_Facts___init___X : KBn K d_Facts___init__ ["self", "scheme", "unique", "fixes"] 2 ["fixes"] (fun us ws => us ++ mv_Facts___init___X ++ ws) (fun us ws => us ++ [(V.ref e_Facts___init___unique)] ++ ws)
  mv_Facts___init___UX : List Value
  kn_Facts___init___UX : KBn K d_Facts___init__ ["self", "scheme", "unique", "fixes"] 2 ["unique", "fixes"] (fun us ws => us ++ ws) (fun us ws => us ++ ws)
  z_abs : mg "abs" = none
  z_all : mg "all" = none
  z_bool : mg "bool" = none
  z_enumerate : mg "enumerate" = none
  z_int : mg "int" = none
  z_isinstance : mg "isinstance" = none
  z_len : mg "len" = none
  z_list : mg "list" = none
  z_range : mg "range" = none
  z_set : mg "set" = none
  z_sorted : mg "sorted" = none
  z_str : mg "str" = none
  z_tuple : mg "tuple" = none
  C_WindowError : Addr
  C_BadScheme : Addr
  C_Sort : Addr
  C_Scheme : Addr
  C_UnknownColumn : Addr
  C_BadUnique : Addr
  C_BadFix : Addr
  C_Facts : Addr
  g_WindowError : mg "WindowError" = some (.ref C_WindowError)
  g_BadScheme : mg "BadScheme" = some (.ref C_BadScheme)
  ox_BadScheme : OexC K C_BadScheme
  xf_BadScheme : XfC K C_BadScheme
  iC_BadScheme : PySem.W.findIn K (.ref C_BadScheme) "__init__" = some (some (.ref f_BadScheme___init__))
  tI_BadScheme : PySem.W.typeIn K (.ref f_BadScheme___init__) = some (.type "function")
  nf_BadScheme_word : PySem.W.findIn K (.ref C_BadScheme) "word" = some none
  g_Sort : mg "Sort" = some (.ref C_Sort)
  c_Sort : Cls K C_Sort
  m_Sort : Mk K C_Sort f_Sort___init__
  nf_Sort_name : NoAttr K C_Sort "name"
  nf_Sort_key : NoAttr K C_Sort "key"
  nf_Sort_part : NoAttr K C_Sort "part"
  nf_Sort_descending : NoAttr K C_Sort "descending"
  mt_Sort___eq__ : Meth K C_Sort "__eq__" f_Sort___eq__
  ca_Sort : PySem.W.findIn K (.ref C_Sort) "__class__" = some (some (.builtin "object.__class__"))
  cn_Sort : PySem.W.specialIn K (.builtin "object.__class__") "__get__" = some (some (.builtin "getset_descriptor.__get__"))
  ct_Sort : PySem.W.takesIn K (.builtin "object.__class__") = some true
  cm_Sort : PySem.W.mroIn K C_Sort (.type "object") = some true
  nt_Sort : PySem.W.notFirst K C_Sort (.ref C_Sort) = true
  g_Scheme : mg "Scheme" = some (.ref C_Scheme)
  c_Scheme : Cls K C_Scheme
  m_Scheme : Mk K C_Scheme f_Scheme___init__
  nf_Scheme_sorts : NoAttr K C_Scheme "sorts"
  nf_Scheme_part_columns : NoAttr K C_Scheme "part_columns"
  nf_Scheme_value_columns : NoAttr K C_Scheme "value_columns"
structure Txt (K : PySem.W.Frag) (mg : Str → Option Value) extends Txt_3 K mg where
  nf_Scheme_mark_columns : NoAttr K C_Scheme "mark_columns"
  mt_Scheme_inspect : Meth K C_Scheme "inspect" f_Scheme_inspect
  mt_Scheme_columns : Meth K C_Scheme "columns" f_Scheme_columns
  mt_Scheme_sort_names : Meth K C_Scheme "sort_names" f_Scheme_sort_names
  mt_Scheme___eq__ : Meth K C_Scheme "__eq__" f_Scheme___eq__
  ca_Scheme : PySem.W.findIn K (.ref C_Scheme) "__class__" = some (some (.builtin "object.__class__"))
  cn_Scheme : PySem.W.specialIn K (.builtin "object.__class__") "__get__" = some (some (.builtin "getset_descriptor.__get__"))
  ct_Scheme : PySem.W.takesIn K (.builtin "object.__class__") = some true
  cm_Scheme : PySem.W.mroIn K C_Scheme (.type "object") = some true
  ne_Scheme : PySem.W.findIn K (.ref C_Scheme) "__ne__" = some (some (.builtin "object.__ne__"))
  ob_Scheme : PySem.W.subIn K (.ref C_Scheme) (.type "object") = some true
  nt_Scheme : PySem.W.notFirst K C_Scheme (.ref C_Scheme) = true
  g_UnknownColumn : mg "UnknownColumn" = some (.ref C_UnknownColumn)
  ox_UnknownColumn : OexC K C_UnknownColumn
  xf_UnknownColumn : XfC K C_UnknownColumn
  iC_UnknownColumn : PySem.W.findIn K (.ref C_UnknownColumn) "__init__" = some (some (.ref f_UnknownColumn___init__))
  tI_UnknownColumn : PySem.W.typeIn K (.ref f_UnknownColumn___init__) = some (.type "function")
  nf_UnknownColumn_name : PySem.W.findIn K (.ref C_UnknownColumn) "name" = some none
  em_UnknownColumn_UnknownColumn : PySem.W.exmOne K (.ref C_UnknownColumn) (.ref C_UnknownColumn) = some true
  is_UnknownColumn_UnknownColumn : PySem.W.isIn K (.ref C_UnknownColumn) C_UnknownColumn = true
  g_BadUnique : mg "BadUnique" = some (.ref C_BadUnique)
  ox_BadUnique : OexC K C_BadUnique
  xf_BadUnique : XfC K C_BadUnique
  iC_BadUnique : PySem.W.findIn K (.ref C_BadUnique) "__init__" = some (some (.ref f_BadUnique___init__))
  tI_BadUnique : PySem.W.typeIn K (.ref f_BadUnique___init__) = some (.type "function")
  nf_BadUnique_index : PySem.W.findIn K (.ref C_BadUnique) "index" = some none
  em_BadUnique_BadUnique : PySem.W.exmOne K (.ref C_BadUnique) (.ref C_BadUnique) = some true
  is_BadUnique_BadUnique : PySem.W.isIn K (.ref C_BadUnique) C_BadUnique = true
  g_BadFix : mg "BadFix" = some (.ref C_BadFix)
  ox_BadFix : OexC K C_BadFix
  xf_BadFix : XfC K C_BadFix
  iC_BadFix : PySem.W.findIn K (.ref C_BadFix) "__init__" = some (some (.ref f_BadFix___init__))
  tI_BadFix : PySem.W.typeIn K (.ref f_BadFix___init__) = some (.type "function")
  nf_BadFix_index : PySem.W.findIn K (.ref C_BadFix) "index" = some none
  em_BadFix_BadFix : PySem.W.exmOne K (.ref C_BadFix) (.ref C_BadFix) = some true
  is_BadFix_BadFix : PySem.W.isIn K (.ref C_BadFix) C_BadFix = true
  g_Facts : mg "Facts" = some (.ref C_Facts)
  c_Facts : Cls K C_Facts
  m_Facts : Mk K C_Facts f_Facts___init__
  nf_Facts_scheme : NoAttr K C_Facts "scheme"
  nf_Facts_unique_sets : NoAttr K C_Facts "unique_sets"
  nf_Facts_fix_pairs : NoAttr K C_Facts "fix_pairs"
  mt_Facts_reached : Meth K C_Facts "reached" f_Facts_reached
  mt_Facts_closure : Meth K C_Facts "closure" f_Facts_closure
  mt_Facts_chain : Meth K C_Facts "chain" f_Facts_chain
  mt_Facts_no_twins : Meth K C_Facts "no_twins" f_Facts_no_twins
  ca_Facts : PySem.W.findIn K (.ref C_Facts) "__class__" = some (some (.builtin "object.__class__"))
  cn_Facts : PySem.W.specialIn K (.builtin "object.__class__") "__get__" = some (some (.builtin "getset_descriptor.__get__"))
  ct_Facts : PySem.W.takesIn K (.builtin "object.__class__") = some true
  cm_Facts : PySem.W.mroIn K C_Facts (.type "object") = some true
  t_LETTERS : Tok
  g_LETTERS : mg "LETTERS" = some (.str "abcdefghijklmnopqrstuvwxyz" t_LETTERS)
  a_WORDS : Addr
  g_WORDS : mg "WORDS" = some (.ref a_WORDS)
  q_WORDS : ∀ H, SqT K H a_WORDS [V.str "rows", V.str "groups", V.str "keys", V.str "self", V.str "ties", V.str "group", V.str "all", V.str "none", V.str "sum", V.str "count", V.str "by", V.str "not"]
  y_WORDS : ∀ H, tyV K "tuple" (.ref a_WORDS) H
  kt_bool_int : PySem.W.kitOne K (.type "bool") (.type "int") = some true
  kt_int_bool : PySem.W.kitOne K (.type "int") (.type "bool") = some false

def partV : Option Str → V
  | none => .non
  | some z => .str z
structure Srt where
  nm : Str
  ky : Str
  pt : Option Str
  ds : Bool
structure Sch where
  ss : List Srt
  ps : List Str
  vs : List Str
  ms : List Str
def srtF (s : Srt) : List (Str × V) := putF "descending" (.bl s.ds) (putF "part" (partV s.pt) (putF "key" (.str s.ky) (putF "name" (.str s.nm) [])))
theorem srt_name (s : Srt) : (srtF s).lookup ("name" : Str) = some (.str s.nm) := by
  unfold srtF
  rw [lookup_putF, if_neg (by decide +kernel), lookup_putF, if_neg (by decide +kernel), lookup_putF, if_neg (by decide +kernel), lookup_putF, if_pos rfl]
theorem srt_key (s : Srt) : (srtF s).lookup ("key" : Str) = some (.str s.ky) := by
  unfold srtF
  rw [lookup_putF, if_neg (by decide +kernel), lookup_putF, if_neg (by decide +kernel), lookup_putF, if_pos rfl]
theorem srt_part (s : Srt) : (srtF s).lookup ("part" : Str) = some (partV s.pt) := by
  unfold srtF
  rw [lookup_putF, if_neg (by decide +kernel), lookup_putF, if_pos rfl]
theorem srt_desc (s : Srt) : (srtF s).lookup ("descending" : Str) = some (.bl s.ds) := by
  unfold srtF
  rw [lookup_putF, if_pos rfl]
def SortAt (C : Addr) (H : Hp) (p : Addr) (s : Srt) : Prop := ∃ dx, H p = some (.ins C dx (srtF s))
theorem SortAt.same {C : Addr} {H H' : Hp} {p : Addr} {s : Srt} (h : SortAt C H p s) (e : Same H H') : SortAt C H' p s := by
  obtain ⟨dx, z⟩ := h
  exact ⟨dx, e _ _ z⟩
theorem SortAt.put {C : Addr} {H : Hp} {p D : Addr} {s : Srt} {o o' : HO} (h : SortAt C H p s) (hD : H D = some o) (n : ∀ C dx fs, o ≠ .ins C dx fs) : SortAt C (upd H D o') p s := by
  obtain ⟨dx, e⟩ := h
  exact ⟨dx, (upd_ne (ne_of e hD fun z => n _ _ _ z.symm)).trans e⟩
def schF (tS tP tV tM : Addr) : List (Str × V) := putF "mark_columns" (.ref tM) (putF "value_columns" (.ref tV) (putF "part_columns" (.ref tP) (putF "sorts" (.ref tS) [])))
theorem sch_sorts (a b c d : Addr) : (schF a b c d).lookup ("sorts" : Str) = some (.ref a) := by
  unfold schF
  rw [lookup_putF, if_neg (by decide +kernel), lookup_putF, if_neg (by decide +kernel), lookup_putF, if_neg (by decide +kernel), lookup_putF, if_pos rfl]
theorem sch_parts (a b c d : Addr) : (schF a b c d).lookup ("part_columns" : Str) = some (.ref b) := by
  unfold schF
  rw [lookup_putF, if_neg (by decide +kernel), lookup_putF, if_neg (by decide +kernel), lookup_putF, if_pos rfl]
theorem sch_values (a b c d : Addr) : (schF a b c d).lookup ("value_columns" : Str) = some (.ref c) := by
  unfold schF
  rw [lookup_putF, if_neg (by decide +kernel), lookup_putF, if_pos rfl]
theorem sch_marks (a b c d : Addr) : (schF a b c d).lookup ("mark_columns" : Str) = some (.ref d) := by
  unfold schF
  rw [lookup_putF, if_pos rfl]
theorem sch_no (a b c d : Addr) {m : Str} (h1 : ¬ m = "mark_columns") (h2 : ¬ m = "value_columns") (h3 : ¬ m = "part_columns") (h4 : ¬ m = "sorts") : (schF a b c d).lookup m = none := by
  unfold schF
  rw [lookup_putF, if_neg h1, lookup_putF, if_neg h2, lookup_putF, if_neg h3, lookup_putF, if_neg h4]
  rfl
/-- a Scheme stands at p -/
structure SchAt (K : PySem.W.Frag) (CC CS : Addr) (H : Hp) (p : Addr) (s : Sch) : Prop where
  ex : ∃ dx tS tP tV tM as, H p = some (.ins CC dx (schF tS tP tV tM)) ∧ SqT K H tS (as.map V.ref) ∧ All2 (SortAt CS H) as s.ss ∧ SqT K H tP (s.ps.map V.str) ∧ SqT K H tV (s.vs.map V.str) ∧ SqT K H tM (s.ms.map V.str)
theorem SchAt.same {K : PySem.W.Frag} {CC CS : Addr} {H H' : Hp} {p : Addr} {s : Sch} (h : SchAt K CC CS H p s) (e : Same H H') : SchAt K CC CS H' p s := by
  obtain ⟨dx, tS, tP, tV, tM, as, h0, h1, h2, h3, h4, h5⟩ := h
  exact ⟨dx, tS, tP, tV, tM, as, e _ _ h0, same_tup e h1, h2.imp fun _ _ z => z.same e, same_tup e h3, same_tup e h4, same_tup e h5⟩
def Sch.names (s : Sch) : List Str := s.ss.map Srt.nm
def Sch.cols (s : Sch) : List Str := s.ps ++ (s.ss.map Srt.ky ++ (s.vs ++ s.ms))
def badWord (ws : List Str) : Option Str := ws.find? fun w => !isNameB w
def partBad (ps : List Str) (s : Srt) : Bool := match s.pt with
  | none => false
  | some z => !decide (z ∈ ps)
def badPart (ps : List Str) (ss : List Srt) : Option Str := (ss.find? (partBad ps)).bind Srt.pt
def orO : Option Str → Option Str → Option Str
  | some w, _ => some w
  | none, y => y
def Sch.bad (s : Sch) : Option Str := orO (badWord (s.names ++ s.cols)) (orO (dblFrom [] s.names) (orO (dblFrom [] s.cols) (badPart s.ps s.ss)))
structure Sch.small (s : Sch) : Prop where
  l1 : s.ss.length ≤ 20
  l2 : s.ps.length ≤ 20
  l3 : s.vs.length ≤ 20
  l4 : s.ms.length ≤ 20
  w : ∀ z ∈ s.names ++ s.cols, z.length ≤ 1000
theorem find_take {α : Type} {f : α → Bool} {l : List α} {i : Nat} {x : α} (h : ∀ y ∈ l.take i, f y = false) (hx : l[i]? = some x) (hf : f x = true) : l.find? f = some x := by
  have hi := (List.getElem?_eq_some_iff.mp hx).1
  have e : l = l.take i ++ (x :: l.drop (i + 1)) := by
    rw [← (List.getElem?_eq_some_iff.mp hx).2, List.getElem_cons_drop, List.take_append_drop]
  rw [e, List.find?_append, List.find?_eq_none.mpr fun y hy => by rw [h y hy]; exact Bool.false_ne_true, List.find?_cons, hf]
  rfl
theorem take_snoc {α : Type} {l : List α} {i : Nat} {x y : α} (hx : l[i]? = some x) (hy : y ∈ l.take (i + 1)) : y ∈ l.take i ∨ y = x := by
  rw [List.take_add_one, hx] at hy
  rcases List.mem_append.mp hy with z | z
  · exact .inl z
  · exact .inr (List.mem_singleton.mp z)
def spIsName : Sp := fun vs H Q _ => ∃ z : Str, vs = [.str z] ∧ z.length ≤ 1000 ∧ ∀ H', Same H H' → Q (.bl (isNameB z)) H'
def spFirstD : Sp := fun vs H Q _ => ∃ (p : Addr) (ws : List Str), vs = [.ref p] ∧ H p = some (.lst (ws.map V.str)) ∧ ws.length ≤ 200 ∧ ∀ H', Same H H' → Q (partV (dblFrom [] ws)) H'
def spBSInit (C : Addr) : Sp := fun vs H Q _ => ∃ (a : Addr) (z : Str), vs = [.ref a, .str z] ∧ H a = some (exo a C none) ∧
  ∀ (dx : Addr) (H' : Hp), H dx = none → H' a = some (exo a C (some dx)) → H' dx = some (exd dx [("word", .str z)]) → (∀ b o, H b = some o → b ≠ a → H' b = some o) → Q .non H'
def spSortInit (C : Addr) : Sp := fun vs H Q _ => ∃ (p dx : Addr) (s : Srt), vs = [.ref p, .str s.nm, .str s.ky, partV s.pt, .bl s.ds] ∧ H p = some (.ins C dx []) ∧
  ∀ H', SortAt C H' p s → (∀ b o, H b = some o → b ≠ p → H' b = some o) → Q .non H'
def spNamesOf (K : PySem.W.Frag) (CC CS : Addr) : Sp := fun vs H Q _ => ∃ (p : Addr) (s : Sch), vs = [.ref p] ∧ SchAt K CC CS H p s ∧ s.small ∧ ∀ l H', H l = none → Same H H' → H' l = some (.lst (s.names.map V.str)) → Q (.ref l) H'
def spColsOf (K : PySem.W.Frag) (CC CS : Addr) : Sp := fun vs H Q _ => ∃ (p : Addr) (s : Sch), vs = [.ref p] ∧ SchAt K CC CS H p s ∧ s.small ∧ ∀ l H', H l = none → Same H H' → H' l = some (.lst (s.cols.map V.str)) → Q (.ref l) H'
def spInspect (K : PySem.W.Frag) (CC CS CB : Addr) : Sp := fun vs H Q E => ∃ (p : Addr) (s : Sch), vs = [.ref p] ∧ SchAt K CC CS H p s ∧ s.small ∧
  (∀ w, s.bad = some w → ∀ (d : Addr) (H' : Hp), H d = none → H' d = some (.xd [("word", .str w)]) → Same H H' → E (.ref CB) (some d) H') ∧ (s.bad = none → ∀ H', Same H H' → Q .non H')
/-- Scheme(sorts, parts = .., values = .., marks = ..): lists or tuples -/
def spSchInit (K : PySem.W.Frag) (CC CS CB : Addr) : Sp := fun vs H Q E => ∃ (p dx aS aP aV aM : Addr) (s : Sch) (as : List Addr), vs = [.ref p, .ref aS, .ref aP, .ref aV, .ref aM] ∧ H p = some (.ins CC dx []) ∧ SqA K H aS (as.map V.ref) ∧ All2 (SortAt CS H) as s.ss ∧ SqA K H aP (s.ps.map V.str) ∧ SqA K H aV (s.vs.map V.str) ∧ SqA K H aM (s.ms.map V.str) ∧ s.small ∧
  (∀ w, s.bad = some w → ∀ (d : Addr) (H' : Hp), H d = none → H' d = some (.xd [("word", .str w)]) → (∀ b o, H b = some o → b ≠ p → H' b = some o) → E (.ref CB) (some d) H') ∧
  (s.bad = none → ∀ H', SchAt K CC CS H' p s → (∀ b o, H b = some o → b ≠ p → H' b = some o) → Q .non H')
/-! ### the steps of reading as equations: simp goes along the head of the goal alone -/
structure Pr (P : Prop) : Type where
  mk ::
def Nw (P : Prop) (_ : Pr P) : Prop := P
theorem Nw.eq {P R : Prop} (h : R → P) (e : P = R) : Nw P ⟨⟩ = Nw R ⟨⟩ := by subst e; rfl
theorem Nw.eq2 {P R : Prop} (h : R → P) (e : P → R) : Nw P ⟨⟩ = Nw R ⟨⟩ := propext ⟨e, h⟩
theorem Nw.to {P : Prop} (h : Nw P ⟨⟩) : P := h
theorem Nw.of {P : Prop} (h : P) : Nw P ⟨⟩ := h
set_option linter.defProp false
@[simp ↓ low] def n_seq := fun x0 x1 x2 x3 x4 => Nw.eq (@r_seq x0 x1 x2 x3 x4) rfl
@[simp ↓ low] def n_next := fun x0 x1 x2 => Nw.eq (@r_next x0 x1 x2) rfl
@[simp ↓ low] def n_asg := fun x0 x1 x2 x3 x4 => Nw.eq (@r_asg x0 x1 x2 x3 x4) rfl
@[simp ↓ low] def n_drop := fun x0 x1 x2 x3 => Nw.eq (@r_drop x0 x1 x2 x3) rfl
@[simp ↓ low] def n_ret := fun x0 x1 x2 x3 => Nw.eq (@r_ret x0 x1 x2 x3) rfl
@[simp ↓] def n_ifs := fun x0 x1 x2 x3 x4 x5 => Nw.eq (@r_ifs x0 x1 x2 x3 x4 x5) rfl
@[simp ↓] def n_gsub := fun x0 x1 x2 x3 x4 x5 x6 => Nw.eq (@r_gsub x0 x1 x2 x3 x4 x5 x6) rfl
@[simp ↓] def n_gcons := fun x0 x1 x2 x3 x4 x5 x6 => Nw.eq2 (@r_gcons x0 x1 x2 x3 x4 x5 x6) (fun h => by
  first
  | (obtain ⟨k, e, h⟩ := h; cases e; exact h)
  | (obtain ⟨v, r, e, h⟩ := h; cases e; exact h)
  | (obtain ⟨u, v, w, e, h⟩ := h; cases e; exact h)
  | (obtain ⟨i, j, e1, e2, h⟩ := h; cases e1; cases e2; exact h)
  | (obtain ⟨e, h⟩ := h; exact h)
  | (obtain ⟨e, h⟩ := h; rw [eq_dint] at h; exact h)
  | (obtain ⟨e, h⟩ := h; rw [eq_dbl] at h; exact h)
  | (obtain ⟨e, h⟩ := h; rw [eq_dstr] at h; exact h))
@[simp ↓] def n_gnil := fun x0 x1 x2 => Nw.eq2 (@r_gnil x0 x1 x2) (fun h => by
  first
  | (obtain ⟨k, e, h⟩ := h; cases e; exact h)
  | (obtain ⟨v, r, e, h⟩ := h; cases e; exact h)
  | (obtain ⟨u, v, w, e, h⟩ := h; cases e; exact h)
  | (obtain ⟨i, j, e1, e2, h⟩ := h; cases e1; cases e2; exact h)
  | (obtain ⟨e, h⟩ := h; exact h)
  | (obtain ⟨e, h⟩ := h; rw [eq_dint] at h; exact h)
  | (obtain ⟨e, h⟩ := h; rw [eq_dbl] at h; exact h)
  | (obtain ⟨e, h⟩ := h; rw [eq_dstr] at h; exact h))
@[simp ↓] def n_c := fun x0 x1 x2 x3 => Nw.eq (@r_c x0 x1 x2 x3) rfl
@[simp ↓] def n_op := fun x0 x1 x2 x3 x4 x5 => Nw.eq (@r_op x0 x1 x2 x3 x4 x5) rfl
@[simp ↓] def n_un := fun x0 x1 x2 x3 x4 => Nw.eq (@r_un x0 x1 x2 x3 x4) rfl
@[simp ↓] def n_I0 := fun x0 x1 x2 x3 x4 => Nw.eq2 (@r_I0 x0 x1 x2 x3 x4) (fun h => by
  first
  | (obtain ⟨k, e, h⟩ := h; cases e; exact h)
  | (obtain ⟨v, r, e, h⟩ := h; cases e; exact h)
  | (obtain ⟨u, v, w, e, h⟩ := h; cases e; exact h)
  | (obtain ⟨i, j, e1, e2, h⟩ := h; cases e1; cases e2; exact h)
  | (obtain ⟨e, h⟩ := h; exact h)
  | (obtain ⟨e, h⟩ := h; rw [eq_dint] at h; exact h)
  | (obtain ⟨e, h⟩ := h; rw [eq_dbl] at h; exact h)
  | (obtain ⟨e, h⟩ := h; rw [eq_dstr] at h; exact h))
@[simp ↓] def n_U := fun x0 x1 x2 x3 => Nw.eq2 (@r_U x0 x1 x2 x3) (fun h => by
  first
  | (obtain ⟨k, e, h⟩ := h; cases e; exact h)
  | (obtain ⟨v, r, e, h⟩ := h; cases e; exact h)
  | (obtain ⟨u, v, w, e, h⟩ := h; cases e; exact h)
  | (obtain ⟨i, j, e1, e2, h⟩ := h; cases e1; cases e2; exact h)
  | (obtain ⟨e, h⟩ := h; exact h)
  | (obtain ⟨e, h⟩ := h; rw [eq_dint] at h; exact h)
  | (obtain ⟨e, h⟩ := h; rw [eq_dbl] at h; exact h)
  | (obtain ⟨e, h⟩ := h; rw [eq_dstr] at h; exact h))
@[simp ↓] def n_test := fun x0 x1 x2 x3 => Nw.eq (@r_test x0 x1 x2 x3) rfl
@[simp ↓] def n_tB := fun x0 x1 x2 x3 => Nw.eq (@r_tB x0 x1 x2 x3) rfl
@[simp ↓] def n_bl := fun x0 x1 => Nw.eq2 (@r_bl x0 x1) (fun h => by
  first
  | (obtain ⟨k, e, h⟩ := h; cases e; exact h)
  | (obtain ⟨v, r, e, h⟩ := h; cases e; exact h)
  | (obtain ⟨u, v, w, e, h⟩ := h; cases e; exact h)
  | (obtain ⟨i, j, e1, e2, h⟩ := h; cases e1; cases e2; exact h)
  | (obtain ⟨e, h⟩ := h; exact h)
  | (obtain ⟨e, h⟩ := h; rw [eq_dint] at h; exact h)
  | (obtain ⟨e, h⟩ := h; rw [eq_dbl] at h; exact h)
  | (obtain ⟨e, h⟩ := h; rw [eq_dstr] at h; exact h))
@[simp ↓] def n_and := fun x0 x1 x2 x3 x4 => Nw.eq (@r_and x0 x1 x2 x3 x4) rfl
@[simp ↓] def n_or := fun x0 x1 x2 x3 x4 => Nw.eq (@r_or x0 x1 x2 x3 x4) rfl
@[simp ↓] def n_not := fun x0 x1 x2 x3 => Nw.eq (@r_not x0 x1 x2 x3) rfl
@[simp ↓] def n_andV := fun x0 x1 x2 x3 x4 => Nw.eq (@r_andV x0 x1 x2 x3 x4) rfl
@[simp ↓] def n_orV := fun x0 x1 x2 x3 x4 => Nw.eq (@r_orV x0 x1 x2 x3 x4) rfl
@[simp ↓] def n_notV := fun x0 x1 x2 x3 => Nw.eq (@r_notV x0 x1 x2 x3) rfl
@[simp ↓] def n_ife := fun x0 x1 x2 x3 x4 x5 => Nw.eq (@r_ife x0 x1 x2 x3 x4 x5) rfl
@[simp ↓] def n_eqI := fun x0 x1 x2 x3 => Nw.eq2 (@r_eqI x0 x1 x2 x3) (fun h => by
  first
  | (obtain ⟨k, e, h⟩ := h; cases e; exact h)
  | (obtain ⟨v, r, e, h⟩ := h; cases e; exact h)
  | (obtain ⟨u, v, w, e, h⟩ := h; cases e; exact h)
  | (obtain ⟨i, j, e1, e2, h⟩ := h; cases e1; cases e2; exact h)
  | (obtain ⟨e, h⟩ := h; exact h)
  | (obtain ⟨e, h⟩ := h; rw [eq_dint] at h; exact h)
  | (obtain ⟨e, h⟩ := h; rw [eq_dbl] at h; exact h)
  | (obtain ⟨e, h⟩ := h; rw [eq_dstr] at h; exact h))
@[simp ↓] def n_neI := fun x0 x1 x2 x3 => Nw.eq2 (@r_neI x0 x1 x2 x3) (fun h => by
  first
  | (obtain ⟨k, e, h⟩ := h; cases e; exact h)
  | (obtain ⟨v, r, e, h⟩ := h; cases e; exact h)
  | (obtain ⟨u, v, w, e, h⟩ := h; cases e; exact h)
  | (obtain ⟨i, j, e1, e2, h⟩ := h; cases e1; cases e2; exact h)
  | (obtain ⟨e, h⟩ := h; exact h)
  | (obtain ⟨e, h⟩ := h; rw [eq_dint] at h; exact h)
  | (obtain ⟨e, h⟩ := h; rw [eq_dbl] at h; exact h)
  | (obtain ⟨e, h⟩ := h; rw [eq_dstr] at h; exact h))
@[simp ↓] def n_eqB := fun x0 x1 x2 x3 => Nw.eq2 (@r_eqB x0 x1 x2 x3) (fun h => by
  first
  | (obtain ⟨k, e, h⟩ := h; cases e; exact h)
  | (obtain ⟨v, r, e, h⟩ := h; cases e; exact h)
  | (obtain ⟨u, v, w, e, h⟩ := h; cases e; exact h)
  | (obtain ⟨i, j, e1, e2, h⟩ := h; cases e1; cases e2; exact h)
  | (obtain ⟨e, h⟩ := h; exact h)
  | (obtain ⟨e, h⟩ := h; rw [eq_dint] at h; exact h)
  | (obtain ⟨e, h⟩ := h; rw [eq_dbl] at h; exact h)
  | (obtain ⟨e, h⟩ := h; rw [eq_dstr] at h; exact h))
@[simp ↓] def n_neB := fun x0 x1 x2 x3 => Nw.eq2 (@r_neB x0 x1 x2 x3) (fun h => by
  first
  | (obtain ⟨k, e, h⟩ := h; cases e; exact h)
  | (obtain ⟨v, r, e, h⟩ := h; cases e; exact h)
  | (obtain ⟨u, v, w, e, h⟩ := h; cases e; exact h)
  | (obtain ⟨i, j, e1, e2, h⟩ := h; cases e1; cases e2; exact h)
  | (obtain ⟨e, h⟩ := h; exact h)
  | (obtain ⟨e, h⟩ := h; rw [eq_dint] at h; exact h)
  | (obtain ⟨e, h⟩ := h; rw [eq_dbl] at h; exact h)
  | (obtain ⟨e, h⟩ := h; rw [eq_dstr] at h; exact h))
@[simp ↓] def n_eqS := fun x0 x1 x2 x3 => Nw.eq2 (@r_eqS x0 x1 x2 x3) (fun h => by
  first
  | (obtain ⟨k, e, h⟩ := h; cases e; exact h)
  | (obtain ⟨v, r, e, h⟩ := h; cases e; exact h)
  | (obtain ⟨u, v, w, e, h⟩ := h; cases e; exact h)
  | (obtain ⟨i, j, e1, e2, h⟩ := h; cases e1; cases e2; exact h)
  | (obtain ⟨e, h⟩ := h; exact h)
  | (obtain ⟨e, h⟩ := h; rw [eq_dint] at h; exact h)
  | (obtain ⟨e, h⟩ := h; rw [eq_dbl] at h; exact h)
  | (obtain ⟨e, h⟩ := h; rw [eq_dstr] at h; exact h))
@[simp ↓] def n_neS := fun x0 x1 x2 x3 => Nw.eq2 (@r_neS x0 x1 x2 x3) (fun h => by
  first
  | (obtain ⟨k, e, h⟩ := h; cases e; exact h)
  | (obtain ⟨v, r, e, h⟩ := h; cases e; exact h)
  | (obtain ⟨u, v, w, e, h⟩ := h; cases e; exact h)
  | (obtain ⟨i, j, e1, e2, h⟩ := h; cases e1; cases e2; exact h)
  | (obtain ⟨e, h⟩ := h; exact h)
  | (obtain ⟨e, h⟩ := h; rw [eq_dint] at h; exact h)
  | (obtain ⟨e, h⟩ := h; rw [eq_dbl] at h; exact h)
  | (obtain ⟨e, h⟩ := h; rw [eq_dstr] at h; exact h))
@[simp ↓] def n_nil := fun x0 x1 x2 => Nw.eq (@r_nil x0 x1 x2) rfl
@[simp ↓] def n_cons := fun x0 x1 x2 x3 x4 => Nw.eq (@r_cons x0 x1 x2 x3 x4) rfl
@[simp ↓] def n_cb := fun x0 x1 x2 x3 x4 => Nw.eq (@r_cb x0 x1 x2 x3 x4) rfl
@[simp ↓] def n_call := fun x0 x1 x2 x3 x4 x5 x6 => Nw.eq (@r_call x0 x1 x2 x3 x4 x5 x6) rfl
@[simp ↓] def n_lst := fun x0 x1 x2 x3 => Nw.eq (@r_lst x0 x1 x2 x3) rfl
@[simp ↓] def n_tup := fun x0 x1 x2 x3 => Nw.eq (@r_tup x0 x1 x2 x3) rfl
@[simp ↓] def n_int1 := fun x0 x1 x2 => Nw.eq2 (@r_int1 x0 x1 x2) (fun h => by
  first
  | (obtain ⟨k, e, h⟩ := h; cases e; exact h)
  | (obtain ⟨v, r, e, h⟩ := h; cases e; exact h)
  | (obtain ⟨u, v, w, e, h⟩ := h; cases e; exact h)
  | (obtain ⟨i, j, e1, e2, h⟩ := h; cases e1; cases e2; exact h)
  | (obtain ⟨e, h⟩ := h; exact h)
  | (obtain ⟨e, h⟩ := h; rw [eq_dint] at h; exact h)
  | (obtain ⟨e, h⟩ := h; rw [eq_dbl] at h; exact h)
  | (obtain ⟨e, h⟩ := h; rw [eq_dstr] at h; exact h))
@[simp ↓] def n_intB := fun x0 x1 x2 => Nw.eq2 (@r_intB x0 x1 x2) (fun h => by
  first
  | (obtain ⟨k, e, h⟩ := h; cases e; exact h)
  | (obtain ⟨v, r, e, h⟩ := h; cases e; exact h)
  | (obtain ⟨u, v, w, e, h⟩ := h; cases e; exact h)
  | (obtain ⟨i, j, e1, e2, h⟩ := h; cases e1; cases e2; exact h)
  | (obtain ⟨e, h⟩ := h; exact h)
  | (obtain ⟨e, h⟩ := h; rw [eq_dint] at h; exact h)
  | (obtain ⟨e, h⟩ := h; rw [eq_dbl] at h; exact h)
  | (obtain ⟨e, h⟩ := h; rw [eq_dstr] at h; exact h))
@[simp ↓] def n_abs1 := fun x0 x1 x2 => Nw.eq2 (@r_abs1 x0 x1 x2) (fun h => by
  first
  | (obtain ⟨k, e, h⟩ := h; cases e; exact h)
  | (obtain ⟨v, r, e, h⟩ := h; cases e; exact h)
  | (obtain ⟨u, v, w, e, h⟩ := h; cases e; exact h)
  | (obtain ⟨i, j, e1, e2, h⟩ := h; cases e1; cases e2; exact h)
  | (obtain ⟨e, h⟩ := h; exact h)
  | (obtain ⟨e, h⟩ := h; rw [eq_dint] at h; exact h)
  | (obtain ⟨e, h⟩ := h; rw [eq_dbl] at h; exact h)
  | (obtain ⟨e, h⟩ := h; rw [eq_dstr] at h; exact h))
@[simp ↓] def n_bm := fun x0 x1 x2 x3 x4 x5 x6 x7 => Nw.eq (@r_bm x0 x1 x2 x3 x4 x5 x6 x7) rfl
@[simp ↓] def n_sl := fun x0 x1 x2 x3 x4 x5 x6 => Nw.eq (@r_sl x0 x1 x2 x3 x4 x5 x6) rfl
@[simp ↓] def n_np := fun x0 x1 x2 => Nw.eq (@r_np x0 x1 x2) rfl
@[simp ↓] def n_pt := fun x0 x1 x2 x3 => Nw.eq (@r_pt x0 x1 x2 x3) rfl
@[simp ↓] def n_pti := fun x0 x1 => Nw.eq2 (@r_pti x0 x1) (fun h => by
  first
  | (obtain ⟨k, e, h⟩ := h; cases e; exact h)
  | (obtain ⟨v, r, e, h⟩ := h; cases e; exact h)
  | (obtain ⟨u, v, w, e, h⟩ := h; cases e; exact h)
  | (obtain ⟨i, j, e1, e2, h⟩ := h; cases e1; cases e2; exact h)
  | (obtain ⟨e, h⟩ := h; exact h)
  | (obtain ⟨e, h⟩ := h; rw [eq_dint] at h; exact h)
  | (obtain ⟨e, h⟩ := h; rw [eq_dbl] at h; exact h)
  | (obtain ⟨e, h⟩ := h; rw [eq_dstr] at h; exact h))
@[simp ↓] def n_lc := fun x0 x1 x2 x3 x4 x5 x6 x7 => Nw.eq (@r_lc x0 x1 x2 x3 x4 x5 x6 x7) rfl
@[simp ↓] def n_il := fun x0 x1 x2 x3 x4 => Nw.eq (@r_il x0 x1 x2 x3 x4) rfl
@[simp ↓] def n_it := fun x0 x1 x2 x3 x4 => Nw.eq (@r_it x0 x1 x2 x3 x4) rfl
@[simp ↓] def n_rng1 := fun x0 x1 x2 x3 => Nw.eq (@r_rng1 x0 x1 x2 x3) rfl
@[simp ↓] def n_rng2 := fun x0 x1 x2 x3 => Nw.eq (@r_rng2 x0 x1 x2 x3) rfl
@[simp ↓] def n_callN := fun x0 x1 x2 x3 x4 x5 x6 x7 x8 x9 => Nw.eq (@r_callN x0 x1 x2 x3 x4 x5 x6 x7 x8 x9) rfl
@[simp ↓] def n_fld := fun x0 x1 x2 x3 x4 x5 => Nw.eq (@r_fld x0 x1 x2 x3 x4 x5) rfl
@[simp ↓ low] def n_sfld := fun x0 x1 x2 x3 x4 x5 x6 => Nw.eq (@r_sfld x0 x1 x2 x3 x4 x5 x6) rfl
@[simp ↓] def n_meth := fun x0 x1 x2 x3 x4 x5 x6 x7 x8 x9 => Nw.eq (@r_meth x0 x1 x2 x3 x4 x5 x6 x7 x8 x9) rfl
@[simp ↓] def n_make := fun x0 x1 x2 x3 x4 x5 x6 x7 => Nw.eq (@r_make x0 x1 x2 x3 x4 x5 x6 x7) rfl
@[simp ↓] def n_ipI := fun x0 x1 x2 x3 x4 => Nw.eq2 (@r_ipI x0 x1 x2 x3 x4) (fun h => by
  first
  | (obtain ⟨k, e, h⟩ := h; cases e; exact h)
  | (obtain ⟨v, r, e, h⟩ := h; cases e; exact h)
  | (obtain ⟨u, v, w, e, h⟩ := h; cases e; exact h)
  | (obtain ⟨i, j, e1, e2, h⟩ := h; cases e1; cases e2; exact h)
  | (obtain ⟨e, h⟩ := h; exact h)
  | (obtain ⟨e, h⟩ := h; rw [eq_dint] at h; exact h)
  | (obtain ⟨e, h⟩ := h; rw [eq_dbl] at h; exact h)
  | (obtain ⟨e, h⟩ := h; rw [eq_dstr] at h; exact h))
@[simp ↓ low] def n_par := fun x0 x1 x2 x3 x4 x5 => Nw.eq (@r_par x0 x1 x2 x3 x4 x5) rfl
@[simp ↓ low] def n_par3 := fun x0 x1 x2 x3 x4 x5 x6 => Nw.eq (@r_par3 x0 x1 x2 x3 x4 x5 x6) rfl
@[simp ↓] def n_two := fun x0 x1 x2 => Nw.eq2 (@r_two x0 x1 x2) (fun h => by
  first
  | (obtain ⟨k, e, h⟩ := h; cases e; exact h)
  | (obtain ⟨v, r, e, h⟩ := h; cases e; exact h)
  | (obtain ⟨u, v, w, e, h⟩ := h; cases e; exact h)
  | (obtain ⟨i, j, e1, e2, h⟩ := h; cases e1; cases e2; exact h)
  | (obtain ⟨e, h⟩ := h; exact h)
  | (obtain ⟨e, h⟩ := h; rw [eq_dint] at h; exact h)
  | (obtain ⟨e, h⟩ := h; rw [eq_dbl] at h; exact h)
  | (obtain ⟨e, h⟩ := h; rw [eq_dstr] at h; exact h))
@[simp ↓] def n_three := fun x0 x1 x2 x3 => Nw.eq2 (@r_three x0 x1 x2 x3) (fun h => by
  first
  | (obtain ⟨k, e, h⟩ := h; cases e; exact h)
  | (obtain ⟨v, r, e, h⟩ := h; cases e; exact h)
  | (obtain ⟨u, v, w, e, h⟩ := h; cases e; exact h)
  | (obtain ⟨i, j, e1, e2, h⟩ := h; cases e1; cases e2; exact h)
  | (obtain ⟨e, h⟩ := h; exact h)
  | (obtain ⟨e, h⟩ := h; rw [eq_dint] at h; exact h)
  | (obtain ⟨e, h⟩ := h; rw [eq_dbl] at h; exact h)
  | (obtain ⟨e, h⟩ := h; rw [eq_dstr] at h; exact h))
@[simp ↓] def n_binS := fun x0 x1 x2 x3 x4 x5 x6 x7 => Nw.eq (@r_binS x0 x1 x2 x3 x4 x5 x6 x7) rfl
@[simp ↓] def n_makeS := fun x0 x1 x2 x3 x4 x5 x6 => Nw.eq (@r_makeS x0 x1 x2 x3 x4 x5 x6) rfl
@[simp ↓] def n_makeKS := fun x0 x1 x2 x3 x4 x5 x6 x7 x8 => Nw.eq (@r_makeKS x0 x1 x2 x3 x4 x5 x6 x7 x8) rfl
@[simp ↓] def n_xf := fun x0 x1 x2 x3 x4 x5 x6 x7 x8 => Nw.eq (@r_xf x0 x1 x2 x3 x4 x5 x6 x7 x8) rfl
@[simp ↓] def n_ost := fun x0 x1 x2 x3 x4 x5 x6 => Nw.eq (@r_ost x0 x1 x2 x3 x4 x5 x6) rfl
@[simp ↓] def n_isNi := fun x0 x1 x2 => Nw.eq2 (@r_isNi x0 x1 x2) (fun h => by
  first
  | (obtain ⟨k, e, h⟩ := h; cases e; exact h)
  | (obtain ⟨v, r, e, h⟩ := h; cases e; exact h)
  | (obtain ⟨u, v, w, e, h⟩ := h; cases e; exact h)
  | (obtain ⟨i, j, e1, e2, h⟩ := h; cases e1; cases e2; exact h)
  | (obtain ⟨e, h⟩ := h; exact h)
  | (obtain ⟨e, h⟩ := h; rw [eq_dint] at h; exact h)
  | (obtain ⟨e, h⟩ := h; rw [eq_dbl] at h; exact h)
  | (obtain ⟨e, h⟩ := h; rw [eq_dstr] at h; exact h))
@[simp ↓] def n_isNn := fun x0 x1 => Nw.eq2 (@r_isNn x0 x1) (fun h => by
  first
  | (obtain ⟨k, e, h⟩ := h; cases e; exact h)
  | (obtain ⟨v, r, e, h⟩ := h; cases e; exact h)
  | (obtain ⟨u, v, w, e, h⟩ := h; cases e; exact h)
  | (obtain ⟨i, j, e1, e2, h⟩ := h; cases e1; cases e2; exact h)
  | (obtain ⟨e, h⟩ := h; exact h)
  | (obtain ⟨e, h⟩ := h; rw [eq_dint] at h; exact h)
  | (obtain ⟨e, h⟩ := h; rw [eq_dbl] at h; exact h)
  | (obtain ⟨e, h⟩ := h; rw [eq_dstr] at h; exact h))
@[simp ↓] def n_isNr := fun x0 x1 x2 => Nw.eq2 (@r_isNr x0 x1 x2) (fun h => by
  first
  | (obtain ⟨k, e, h⟩ := h; cases e; exact h)
  | (obtain ⟨v, r, e, h⟩ := h; cases e; exact h)
  | (obtain ⟨u, v, w, e, h⟩ := h; cases e; exact h)
  | (obtain ⟨i, j, e1, e2, h⟩ := h; cases e1; cases e2; exact h)
  | (obtain ⟨e, h⟩ := h; exact h)
  | (obtain ⟨e, h⟩ := h; rw [eq_dint] at h; exact h)
  | (obtain ⟨e, h⟩ := h; rw [eq_dbl] at h; exact h)
  | (obtain ⟨e, h⟩ := h; rw [eq_dstr] at h; exact h))
@[simp ↓] def n_notNi := fun x0 x1 x2 => Nw.eq2 (@r_notNi x0 x1 x2) (fun h => by
  first
  | (obtain ⟨k, e, h⟩ := h; cases e; exact h)
  | (obtain ⟨v, r, e, h⟩ := h; cases e; exact h)
  | (obtain ⟨u, v, w, e, h⟩ := h; cases e; exact h)
  | (obtain ⟨i, j, e1, e2, h⟩ := h; cases e1; cases e2; exact h)
  | (obtain ⟨e, h⟩ := h; exact h)
  | (obtain ⟨e, h⟩ := h; rw [eq_dint] at h; exact h)
  | (obtain ⟨e, h⟩ := h; rw [eq_dbl] at h; exact h)
  | (obtain ⟨e, h⟩ := h; rw [eq_dstr] at h; exact h))
@[simp ↓] def n_notNn := fun x0 x1 => Nw.eq2 (@r_notNn x0 x1) (fun h => by
  first
  | (obtain ⟨k, e, h⟩ := h; cases e; exact h)
  | (obtain ⟨v, r, e, h⟩ := h; cases e; exact h)
  | (obtain ⟨u, v, w, e, h⟩ := h; cases e; exact h)
  | (obtain ⟨i, j, e1, e2, h⟩ := h; cases e1; cases e2; exact h)
  | (obtain ⟨e, h⟩ := h; exact h)
  | (obtain ⟨e, h⟩ := h; rw [eq_dint] at h; exact h)
  | (obtain ⟨e, h⟩ := h; rw [eq_dbl] at h; exact h)
  | (obtain ⟨e, h⟩ := h; rw [eq_dstr] at h; exact h))
@[simp ↓] def n_notNr := fun x0 x1 x2 => Nw.eq2 (@r_notNr x0 x1 x2) (fun h => by
  first
  | (obtain ⟨k, e, h⟩ := h; cases e; exact h)
  | (obtain ⟨v, r, e, h⟩ := h; cases e; exact h)
  | (obtain ⟨u, v, w, e, h⟩ := h; cases e; exact h)
  | (obtain ⟨i, j, e1, e2, h⟩ := h; cases e1; cases e2; exact h)
  | (obtain ⟨e, h⟩ := h; exact h)
  | (obtain ⟨e, h⟩ := h; rw [eq_dint] at h; exact h)
  | (obtain ⟨e, h⟩ := h; rw [eq_dbl] at h; exact h)
  | (obtain ⟨e, h⟩ := h; rw [eq_dstr] at h; exact h))
@[simp ↓] def n_makeN := fun x0 x1 x2 x3 x4 x5 x6 x7 x8 x9 x10 => Nw.eq (@r_makeN x0 x1 x2 x3 x4 x5 x6 x7 x8 x9 x10) rfl
@[simp ↓] def n_makeNS := fun x0 x1 x2 x3 x4 x5 x6 x7 x8 x9 x10 => Nw.eq (@r_makeNS x0 x1 x2 x3 x4 x5 x6 x7 x8 x9 x10) rfl
@[simp ↓] def n_star := fun x0 x1 x2 x3 x4 x5 => Nw.eq (@r_star x0 x1 x2 x3 x4 x5) rfl
@[simp ↓ low] def n_dput := fun x0 x1 x2 x3 x4 x5 => Nw.eq (@r_dput x0 x1 x2 x3 x4 x5) rfl
@[simp ↓] def n_dnewT := fun x0 x1 x2 => Nw.eq (@r_dnewT x0 x1 x2) rfl
@[simp ↓] def n_dnin := fun x0 x1 x2 x3 x4 => Nw.eq (@r_dnin x0 x1 x2 x3 x4) rfl
@[simp ↓] def n_dgt := fun x0 x1 x2 x3 x4 => Nw.eq (@r_dgt x0 x1 x2 x3 x4) rfl
@[simp ↓] def n_tupRg := fun x0 x1 x2 x3 => Nw.eq (@r_tupRg x0 x1 x2 x3) rfl
@[simp ↓] def n_din := fun x0 x1 x2 x3 x4 => Nw.eq (@r_din x0 x1 x2 x3 x4) rfl
@[simp ↓] def n_chain := fun x0 x1 x2 x3 x4 x5 x6 x7 => Nw.eq (@r_chain x0 x1 x2 x3 x4 x5 x6 x7) rfl
@[simp ↓] def n_is := fun x0 x1 x2 x3 => Nw.eq (@r_is x0 x1 x2 x3) rfl
@[simp ↓] def n_iss := fun x0 x1 => Nw.eq2 (@r_iss x0 x1) (fun h => by
  first
  | (obtain ⟨k, e, h⟩ := h; cases e; exact h)
  | (obtain ⟨v, r, e, h⟩ := h; cases e; exact h)
  | (obtain ⟨u, v, w, e, h⟩ := h; cases e; exact h)
  | (obtain ⟨i, j, e1, e2, h⟩ := h; cases e1; cases e2; exact h)
  | (obtain ⟨e, h⟩ := h; exact h)
  | (obtain ⟨e, h⟩ := h; rw [eq_dint] at h; exact h)
  | (obtain ⟨e, h⟩ := h; rw [eq_dbl] at h; exact h)
  | (obtain ⟨e, h⟩ := h; rw [eq_dstr] at h; exact h))
@[simp ↓] def n_methT := fun x0 x1 x2 x3 x4 x5 x6 x7 x8 => Nw.eq (@r_methT x0 x1 x2 x3 x4 x5 x6 x7 x8) rfl
@[simp ↓] def n_iks := fun x0 x1 x2 x3 => Nw.eq (@r_iks x0 x1 x2 x3) rfl
@[simp ↓] def n_enum := fun x0 x1 x2 x3 x4 => Nw.eq (@r_enum x0 x1 x2 x3 x4) rfl
@[simp ↓] def n_revL := fun x0 x1 x2 x3 x4 => Nw.eq (@r_revL x0 x1 x2 x3 x4) rfl
@[simp ↓] def n_bm0 := fun x0 x1 x2 x3 x4 x5 x6 => Nw.eq (@r_bm0 x0 x1 x2 x3 x4 x5 x6) rfl
@[simp ↓ low] def n_gname := fun x0 x1 x2 x3 x4 => Nw.eq (@r_gname x0 x1 x2 x3 x4) rfl
section
variable {a bk ct : L2.St → Hp → Prop} {rt : VK} {σ : L2.St} {H : Hp} {t u : TS} {te : TE} {ta : TA} {K : PySem.W.Frag}
@[simp ↓] theorem l_seq : Nw (tSeq t u ⟨a, rt, bk, ct⟩ σ H) ⟨⟩ = Nw (t ⟨u ⟨a, rt, bk, ct⟩, rt, bk, ct⟩ σ H) ⟨⟩ := rfl
@[simp ↓] theorem l_next : Nw (tNext ⟨a, rt, bk, ct⟩ σ H) ⟨⟩ = Nw (a σ H) ⟨⟩ := rfl
@[simp ↓] theorem l_asg {g : TG} : Nw (tAsg te g ⟨a, rt, bk, ct⟩ σ H) ⟨⟩ = Nw (te σ H fun x H1 => g x σ H1 a) ⟨⟩ := rfl
@[simp ↓] theorem l_drop : Nw (tDrop te ⟨a, rt, bk, ct⟩ σ H) ⟨⟩ = Nw (te σ H fun _ H1 => a σ H1) ⟨⟩ := rfl
@[simp ↓] theorem l_ret : Nw (tRet te ⟨a, rt, bk, ct⟩ σ H) ⟨⟩ = Nw (te σ H rt) ⟨⟩ := rfl
@[simp ↓] theorem l_par {i j : Nat} : Nw (tPar i j ta ⟨a, rt, bk, ct⟩ σ H) ⟨⟩ = Nw (ta σ H fun vs H1 => ∃ v w, vs = [v, w] ∧ a ((σ.set i (some v)).set j (some w)) H1) ⟨⟩ := rfl
@[simp ↓] theorem l_par3 {i j l : Nat} : Nw (tPar3 i j l ta ⟨a, rt, bk, ct⟩ σ H) ⟨⟩ = Nw (ta σ H fun vs H1 => ∃ u v w, vs = [u, v, w] ∧ a (((σ.set i (some u)).set j (some v)).set l (some w)) H1) ⟨⟩ := rfl
@[simp ↓] theorem l_dput {tv td ty : TE} : Nw (sDPut td ty tv ⟨a, rt, bk, ct⟩ σ H) ⟨⟩ = Nw (tv σ H fun v H1 => td σ H1 fun x H2 => ty σ H2 fun y H3 => ∃ p H4, x = .ref p ∧ DPut H3 p y v H4 ∧ a σ H4) ⟨⟩ := rfl
@[simp ↓] theorem l_sfld {tv : TE} {f : Str} : Nw (sFld K te tv f ⟨a, rt, bk, ct⟩ σ H) ⟨⟩ = Nw (tv σ H fun y H1 => te σ H1 fun x H2 => ∃ p C dx fs, x = .ref p ∧ H2 p = some (.ins C dx fs) ∧ Cls K C ∧ NoAttr K C f ∧ fs.length < 1000 ∧ a σ (upd H2 p (.ins C dx (putF f y fs)))) ⟨⟩ := rfl
theorem nf_nx (h : Nw (a σ H) ⟨⟩) : Nw ((Ends.mk a rt bk ct).nx σ H) ⟨⟩ := h
end
@[simp ↓] theorem n_var0 {v : V} {l : List (Option V)} {H : Hp} {Q : VK} : Nw (tVar 0 (some v :: l) H Q) ⟨⟩ = Nw (Q v H) ⟨⟩ := Nw.eq2 (fun h => ⟨v, rfl, h⟩) (fun ⟨_, e, h⟩ => by cases e; exact h)
@[simp ↓] theorem n_nam0 { b : Option V} {v : V} {l : List (Option V)} {H : Hp} {Q : L2.St → Hp → Prop} : Nw (gName 0 v (b :: l) H Q) ⟨⟩ = Nw (Q (some v :: l) H) ⟨⟩ := rfl
@[simp ↓] theorem n_var1 {a0 : Option V} {v : V} {l : List (Option V)} {H : Hp} {Q : VK} : Nw (tVar 1 (a0 :: some v :: l) H Q) ⟨⟩ = Nw (Q v H) ⟨⟩ := Nw.eq2 (fun h => ⟨v, rfl, h⟩) (fun ⟨_, e, h⟩ => by cases e; exact h)
@[simp ↓] theorem n_nam1 {a0 b : Option V} {v : V} {l : List (Option V)} {H : Hp} {Q : L2.St → Hp → Prop} : Nw (gName 1 v (a0 :: b :: l) H Q) ⟨⟩ = Nw (Q (a0 :: some v :: l) H) ⟨⟩ := rfl
@[simp ↓] theorem n_var2 {a0 a1 : Option V} {v : V} {l : List (Option V)} {H : Hp} {Q : VK} : Nw (tVar 2 (a0 :: a1 :: some v :: l) H Q) ⟨⟩ = Nw (Q v H) ⟨⟩ := Nw.eq2 (fun h => ⟨v, rfl, h⟩) (fun ⟨_, e, h⟩ => by cases e; exact h)
@[simp ↓] theorem n_nam2 {a0 a1 b : Option V} {v : V} {l : List (Option V)} {H : Hp} {Q : L2.St → Hp → Prop} : Nw (gName 2 v (a0 :: a1 :: b :: l) H Q) ⟨⟩ = Nw (Q (a0 :: a1 :: some v :: l) H) ⟨⟩ := rfl
@[simp ↓] theorem n_var3 {a0 a1 a2 : Option V} {v : V} {l : List (Option V)} {H : Hp} {Q : VK} : Nw (tVar 3 (a0 :: a1 :: a2 :: some v :: l) H Q) ⟨⟩ = Nw (Q v H) ⟨⟩ := Nw.eq2 (fun h => ⟨v, rfl, h⟩) (fun ⟨_, e, h⟩ => by cases e; exact h)
@[simp ↓] theorem n_nam3 {a0 a1 a2 b : Option V} {v : V} {l : List (Option V)} {H : Hp} {Q : L2.St → Hp → Prop} : Nw (gName 3 v (a0 :: a1 :: a2 :: b :: l) H Q) ⟨⟩ = Nw (Q (a0 :: a1 :: a2 :: some v :: l) H) ⟨⟩ := rfl
@[simp ↓] theorem n_var4 {a0 a1 a2 a3 : Option V} {v : V} {l : List (Option V)} {H : Hp} {Q : VK} : Nw (tVar 4 (a0 :: a1 :: a2 :: a3 :: some v :: l) H Q) ⟨⟩ = Nw (Q v H) ⟨⟩ := Nw.eq2 (fun h => ⟨v, rfl, h⟩) (fun ⟨_, e, h⟩ => by cases e; exact h)
@[simp ↓] theorem n_nam4 {a0 a1 a2 a3 b : Option V} {v : V} {l : List (Option V)} {H : Hp} {Q : L2.St → Hp → Prop} : Nw (gName 4 v (a0 :: a1 :: a2 :: a3 :: b :: l) H Q) ⟨⟩ = Nw (Q (a0 :: a1 :: a2 :: a3 :: some v :: l) H) ⟨⟩ := rfl
@[simp ↓] theorem n_var5 {a0 a1 a2 a3 a4 : Option V} {v : V} {l : List (Option V)} {H : Hp} {Q : VK} : Nw (tVar 5 (a0 :: a1 :: a2 :: a3 :: a4 :: some v :: l) H Q) ⟨⟩ = Nw (Q v H) ⟨⟩ := Nw.eq2 (fun h => ⟨v, rfl, h⟩) (fun ⟨_, e, h⟩ => by cases e; exact h)
@[simp ↓] theorem n_nam5 {a0 a1 a2 a3 a4 b : Option V} {v : V} {l : List (Option V)} {H : Hp} {Q : L2.St → Hp → Prop} : Nw (gName 5 v (a0 :: a1 :: a2 :: a3 :: a4 :: b :: l) H Q) ⟨⟩ = Nw (Q (a0 :: a1 :: a2 :: a3 :: a4 :: some v :: l) H) ⟨⟩ := rfl
@[simp ↓] theorem n_var6 {a0 a1 a2 a3 a4 a5 : Option V} {v : V} {l : List (Option V)} {H : Hp} {Q : VK} : Nw (tVar 6 (a0 :: a1 :: a2 :: a3 :: a4 :: a5 :: some v :: l) H Q) ⟨⟩ = Nw (Q v H) ⟨⟩ := Nw.eq2 (fun h => ⟨v, rfl, h⟩) (fun ⟨_, e, h⟩ => by cases e; exact h)
@[simp ↓] theorem n_nam6 {a0 a1 a2 a3 a4 a5 b : Option V} {v : V} {l : List (Option V)} {H : Hp} {Q : L2.St → Hp → Prop} : Nw (gName 6 v (a0 :: a1 :: a2 :: a3 :: a4 :: a5 :: b :: l) H Q) ⟨⟩ = Nw (Q (a0 :: a1 :: a2 :: a3 :: a4 :: a5 :: some v :: l) H) ⟨⟩ := rfl
@[simp ↓] theorem n_var7 {a0 a1 a2 a3 a4 a5 a6 : Option V} {v : V} {l : List (Option V)} {H : Hp} {Q : VK} : Nw (tVar 7 (a0 :: a1 :: a2 :: a3 :: a4 :: a5 :: a6 :: some v :: l) H Q) ⟨⟩ = Nw (Q v H) ⟨⟩ := Nw.eq2 (fun h => ⟨v, rfl, h⟩) (fun ⟨_, e, h⟩ => by cases e; exact h)
@[simp ↓] theorem n_nam7 {a0 a1 a2 a3 a4 a5 a6 b : Option V} {v : V} {l : List (Option V)} {H : Hp} {Q : L2.St → Hp → Prop} : Nw (gName 7 v (a0 :: a1 :: a2 :: a3 :: a4 :: a5 :: a6 :: b :: l) H Q) ⟨⟩ = Nw (Q (a0 :: a1 :: a2 :: a3 :: a4 :: a5 :: a6 :: some v :: l) H) ⟨⟩ := rfl
@[simp ↓] theorem n_var8 {a0 a1 a2 a3 a4 a5 a6 a7 : Option V} {v : V} {l : List (Option V)} {H : Hp} {Q : VK} : Nw (tVar 8 (a0 :: a1 :: a2 :: a3 :: a4 :: a5 :: a6 :: a7 :: some v :: l) H Q) ⟨⟩ = Nw (Q v H) ⟨⟩ := Nw.eq2 (fun h => ⟨v, rfl, h⟩) (fun ⟨_, e, h⟩ => by cases e; exact h)
@[simp ↓] theorem n_nam8 {a0 a1 a2 a3 a4 a5 a6 a7 b : Option V} {v : V} {l : List (Option V)} {H : Hp} {Q : L2.St → Hp → Prop} : Nw (gName 8 v (a0 :: a1 :: a2 :: a3 :: a4 :: a5 :: a6 :: a7 :: b :: l) H Q) ⟨⟩ = Nw (Q (a0 :: a1 :: a2 :: a3 :: a4 :: a5 :: a6 :: a7 :: some v :: l) H) ⟨⟩ := rfl
@[simp ↓] theorem n_var9 {a0 a1 a2 a3 a4 a5 a6 a7 a8 : Option V} {v : V} {l : List (Option V)} {H : Hp} {Q : VK} : Nw (tVar 9 (a0 :: a1 :: a2 :: a3 :: a4 :: a5 :: a6 :: a7 :: a8 :: some v :: l) H Q) ⟨⟩ = Nw (Q v H) ⟨⟩ := Nw.eq2 (fun h => ⟨v, rfl, h⟩) (fun ⟨_, e, h⟩ => by cases e; exact h)
@[simp ↓] theorem n_nam9 {a0 a1 a2 a3 a4 a5 a6 a7 a8 b : Option V} {v : V} {l : List (Option V)} {H : Hp} {Q : L2.St → Hp → Prop} : Nw (gName 9 v (a0 :: a1 :: a2 :: a3 :: a4 :: a5 :: a6 :: a7 :: a8 :: b :: l) H Q) ⟨⟩ = Nw (Q (a0 :: a1 :: a2 :: a3 :: a4 :: a5 :: a6 :: a7 :: a8 :: some v :: l) H) ⟨⟩ := rfl
@[simp ↓] theorem n_var10 {a0 a1 a2 a3 a4 a5 a6 a7 a8 a9 : Option V} {v : V} {l : List (Option V)} {H : Hp} {Q : VK} : Nw (tVar 10 (a0 :: a1 :: a2 :: a3 :: a4 :: a5 :: a6 :: a7 :: a8 :: a9 :: some v :: l) H Q) ⟨⟩ = Nw (Q v H) ⟨⟩ := Nw.eq2 (fun h => ⟨v, rfl, h⟩) (fun ⟨_, e, h⟩ => by cases e; exact h)
@[simp ↓] theorem n_nam10 {a0 a1 a2 a3 a4 a5 a6 a7 a8 a9 b : Option V} {v : V} {l : List (Option V)} {H : Hp} {Q : L2.St → Hp → Prop} : Nw (gName 10 v (a0 :: a1 :: a2 :: a3 :: a4 :: a5 :: a6 :: a7 :: a8 :: a9 :: b :: l) H Q) ⟨⟩ = Nw (Q (a0 :: a1 :: a2 :: a3 :: a4 :: a5 :: a6 :: a7 :: a8 :: a9 :: some v :: l) H) ⟨⟩ := rfl
@[simp ↓] theorem n_var11 {a0 a1 a2 a3 a4 a5 a6 a7 a8 a9 a10 : Option V} {v : V} {l : List (Option V)} {H : Hp} {Q : VK} : Nw (tVar 11 (a0 :: a1 :: a2 :: a3 :: a4 :: a5 :: a6 :: a7 :: a8 :: a9 :: a10 :: some v :: l) H Q) ⟨⟩ = Nw (Q v H) ⟨⟩ := Nw.eq2 (fun h => ⟨v, rfl, h⟩) (fun ⟨_, e, h⟩ => by cases e; exact h)
@[simp ↓] theorem n_nam11 {a0 a1 a2 a3 a4 a5 a6 a7 a8 a9 a10 b : Option V} {v : V} {l : List (Option V)} {H : Hp} {Q : L2.St → Hp → Prop} : Nw (gName 11 v (a0 :: a1 :: a2 :: a3 :: a4 :: a5 :: a6 :: a7 :: a8 :: a9 :: a10 :: b :: l) H Q) ⟨⟩ = Nw (Q (a0 :: a1 :: a2 :: a3 :: a4 :: a5 :: a6 :: a7 :: a8 :: a9 :: a10 :: some v :: l) H) ⟨⟩ := rfl
@[simp ↓] theorem n_var12 {a0 a1 a2 a3 a4 a5 a6 a7 a8 a9 a10 a11 : Option V} {v : V} {l : List (Option V)} {H : Hp} {Q : VK} : Nw (tVar 12 (a0 :: a1 :: a2 :: a3 :: a4 :: a5 :: a6 :: a7 :: a8 :: a9 :: a10 :: a11 :: some v :: l) H Q) ⟨⟩ = Nw (Q v H) ⟨⟩ := Nw.eq2 (fun h => ⟨v, rfl, h⟩) (fun ⟨_, e, h⟩ => by cases e; exact h)
@[simp ↓] theorem n_nam12 {a0 a1 a2 a3 a4 a5 a6 a7 a8 a9 a10 a11 b : Option V} {v : V} {l : List (Option V)} {H : Hp} {Q : L2.St → Hp → Prop} : Nw (gName 12 v (a0 :: a1 :: a2 :: a3 :: a4 :: a5 :: a6 :: a7 :: a8 :: a9 :: a10 :: a11 :: b :: l) H Q) ⟨⟩ = Nw (Q (a0 :: a1 :: a2 :: a3 :: a4 :: a5 :: a6 :: a7 :: a8 :: a9 :: a10 :: a11 :: some v :: l) H) ⟨⟩ := rfl
@[simp ↓] theorem n_var13 {a0 a1 a2 a3 a4 a5 a6 a7 a8 a9 a10 a11 a12 : Option V} {v : V} {l : List (Option V)} {H : Hp} {Q : VK} : Nw (tVar 13 (a0 :: a1 :: a2 :: a3 :: a4 :: a5 :: a6 :: a7 :: a8 :: a9 :: a10 :: a11 :: a12 :: some v :: l) H Q) ⟨⟩ = Nw (Q v H) ⟨⟩ := Nw.eq2 (fun h => ⟨v, rfl, h⟩) (fun ⟨_, e, h⟩ => by cases e; exact h)
@[simp ↓] theorem n_nam13 {a0 a1 a2 a3 a4 a5 a6 a7 a8 a9 a10 a11 a12 b : Option V} {v : V} {l : List (Option V)} {H : Hp} {Q : L2.St → Hp → Prop} : Nw (gName 13 v (a0 :: a1 :: a2 :: a3 :: a4 :: a5 :: a6 :: a7 :: a8 :: a9 :: a10 :: a11 :: a12 :: b :: l) H Q) ⟨⟩ = Nw (Q (a0 :: a1 :: a2 :: a3 :: a4 :: a5 :: a6 :: a7 :: a8 :: a9 :: a10 :: a11 :: a12 :: some v :: l) H) ⟨⟩ := rfl
@[simp ↓] theorem n_var14 {a0 a1 a2 a3 a4 a5 a6 a7 a8 a9 a10 a11 a12 a13 : Option V} {v : V} {l : List (Option V)} {H : Hp} {Q : VK} : Nw (tVar 14 (a0 :: a1 :: a2 :: a3 :: a4 :: a5 :: a6 :: a7 :: a8 :: a9 :: a10 :: a11 :: a12 :: a13 :: some v :: l) H Q) ⟨⟩ = Nw (Q v H) ⟨⟩ := Nw.eq2 (fun h => ⟨v, rfl, h⟩) (fun ⟨_, e, h⟩ => by cases e; exact h)
@[simp ↓] theorem n_nam14 {a0 a1 a2 a3 a4 a5 a6 a7 a8 a9 a10 a11 a12 a13 b : Option V} {v : V} {l : List (Option V)} {H : Hp} {Q : L2.St → Hp → Prop} : Nw (gName 14 v (a0 :: a1 :: a2 :: a3 :: a4 :: a5 :: a6 :: a7 :: a8 :: a9 :: a10 :: a11 :: a12 :: a13 :: b :: l) H Q) ⟨⟩ = Nw (Q (a0 :: a1 :: a2 :: a3 :: a4 :: a5 :: a6 :: a7 :: a8 :: a9 :: a10 :: a11 :: a12 :: a13 :: some v :: l) H) ⟨⟩ := rfl
@[simp ↓] theorem n_var15 {a0 a1 a2 a3 a4 a5 a6 a7 a8 a9 a10 a11 a12 a13 a14 : Option V} {v : V} {l : List (Option V)} {H : Hp} {Q : VK} : Nw (tVar 15 (a0 :: a1 :: a2 :: a3 :: a4 :: a5 :: a6 :: a7 :: a8 :: a9 :: a10 :: a11 :: a12 :: a13 :: a14 :: some v :: l) H Q) ⟨⟩ = Nw (Q v H) ⟨⟩ := Nw.eq2 (fun h => ⟨v, rfl, h⟩) (fun ⟨_, e, h⟩ => by cases e; exact h)
@[simp ↓] theorem n_nam15 {a0 a1 a2 a3 a4 a5 a6 a7 a8 a9 a10 a11 a12 a13 a14 b : Option V} {v : V} {l : List (Option V)} {H : Hp} {Q : L2.St → Hp → Prop} : Nw (gName 15 v (a0 :: a1 :: a2 :: a3 :: a4 :: a5 :: a6 :: a7 :: a8 :: a9 :: a10 :: a11 :: a12 :: a13 :: a14 :: b :: l) H Q) ⟨⟩ = Nw (Q (a0 :: a1 :: a2 :: a3 :: a4 :: a5 :: a6 :: a7 :: a8 :: a9 :: a10 :: a11 :: a12 :: a13 :: a14 :: some v :: l) H) ⟨⟩ := rfl
@[simp ↓] theorem n_var16 {a0 a1 a2 a3 a4 a5 a6 a7 a8 a9 a10 a11 a12 a13 a14 a15 : Option V} {v : V} {l : List (Option V)} {H : Hp} {Q : VK} : Nw (tVar 16 (a0 :: a1 :: a2 :: a3 :: a4 :: a5 :: a6 :: a7 :: a8 :: a9 :: a10 :: a11 :: a12 :: a13 :: a14 :: a15 :: some v :: l) H Q) ⟨⟩ = Nw (Q v H) ⟨⟩ := Nw.eq2 (fun h => ⟨v, rfl, h⟩) (fun ⟨_, e, h⟩ => by cases e; exact h)
@[simp ↓] theorem n_nam16 {a0 a1 a2 a3 a4 a5 a6 a7 a8 a9 a10 a11 a12 a13 a14 a15 b : Option V} {v : V} {l : List (Option V)} {H : Hp} {Q : L2.St → Hp → Prop} : Nw (gName 16 v (a0 :: a1 :: a2 :: a3 :: a4 :: a5 :: a6 :: a7 :: a8 :: a9 :: a10 :: a11 :: a12 :: a13 :: a14 :: a15 :: b :: l) H Q) ⟨⟩ = Nw (Q (a0 :: a1 :: a2 :: a3 :: a4 :: a5 :: a6 :: a7 :: a8 :: a9 :: a10 :: a11 :: a12 :: a13 :: a14 :: a15 :: some v :: l) H) ⟨⟩ := rfl
@[simp ↓] theorem n_var17 {a0 a1 a2 a3 a4 a5 a6 a7 a8 a9 a10 a11 a12 a13 a14 a15 a16 : Option V} {v : V} {l : List (Option V)} {H : Hp} {Q : VK} : Nw (tVar 17 (a0 :: a1 :: a2 :: a3 :: a4 :: a5 :: a6 :: a7 :: a8 :: a9 :: a10 :: a11 :: a12 :: a13 :: a14 :: a15 :: a16 :: some v :: l) H Q) ⟨⟩ = Nw (Q v H) ⟨⟩ := Nw.eq2 (fun h => ⟨v, rfl, h⟩) (fun ⟨_, e, h⟩ => by cases e; exact h)
@[simp ↓] theorem n_nam17 {a0 a1 a2 a3 a4 a5 a6 a7 a8 a9 a10 a11 a12 a13 a14 a15 a16 b : Option V} {v : V} {l : List (Option V)} {H : Hp} {Q : L2.St → Hp → Prop} : Nw (gName 17 v (a0 :: a1 :: a2 :: a3 :: a4 :: a5 :: a6 :: a7 :: a8 :: a9 :: a10 :: a11 :: a12 :: a13 :: a14 :: a15 :: a16 :: b :: l) H Q) ⟨⟩ = Nw (Q (a0 :: a1 :: a2 :: a3 :: a4 :: a5 :: a6 :: a7 :: a8 :: a9 :: a10 :: a11 :: a12 :: a13 :: a14 :: a15 :: a16 :: some v :: l) H) ⟨⟩ := rfl
theorem nf_var {n : Nat} {σ : L2.St} {v : V} {H : Hp} {Q : VK} (e : σ[n]? = some (some v)) (h : Nw (Q v H) ⟨⟩) : Nw (tVar n σ H Q) ⟨⟩ := ⟨v, e, h⟩
theorem nf_aug {i : Nat} {te : TE} {ti : TIp} {x : V} {D : Ends} {σ : L2.St} {H : Hp} (e : σ[i]? = some (some x)) (h : Nw (te σ H fun y H1 => ti x y H1 fun z H2 => D.nx (σ.set i (some z)) H2) ⟨⟩) : Nw (tAug i te ti D σ H) ⟨⟩ := ⟨x, e, h⟩
theorem nf_isNe {e : Option Int} {H : Hp} {Q : VK} (h : Nw (Q (.bl (!e.isSome)) H) ⟨⟩) : Nw (rIsNo (endV e) .non H Q) ⟨⟩ := r_isNe h
theorem nf_notNe {e : Option Int} {H : Hp} {Q : VK} (h : Nw (Q (.bl e.isSome) H) ⟨⟩) : Nw (rNotNo (endV e) .non H Q) ⟨⟩ := r_notNe h
theorem nf_ixL {K : PySem.W.Frag} {H : Hp} {Q : VK} {p : Addr} {xs : List V} {i : Int} {v : V} (h1 : SqL K H p xs) (h2 : atI xs i = some v) (h : Nw (Q v H) ⟨⟩) : Nw (rIxL K (.ref p) (.int i) H Q) ⟨⟩ := r_ixL h1 h2 h
theorem nf_ixT {K : PySem.W.Frag} {H : Hp} {Q : VK} {p : Addr} {xs : List V} {i : Int} {v : V} (h1 : SqT K H p xs) (h2 : atI xs i = some v) (h : Nw (Q v H) ⟨⟩) : Nw (rIxT K (.ref p) (.int i) H Q) ⟨⟩ := r_ixT h1 h2 h
local macro_rules | `(tactic| wtm_at "rd1") => `(tactic| with_reducible first
  | ((show (_ : L2.TE) _ _ _); first | refine r_var rfl ?_ | refine r_c ?_ | refine r_op ?_ | refine r_lst ?_ | refine r_andV ?_ | refine r_orV ?_ | refine r_cb ?_ | refine r_call ?_ | refine r_bm ?_ | refine r_ife ?_ | refine r_sl ?_ | refine r_notV ?_ | refine r_fld ?_ | refine r_lc ?_ | refine r_un ?_ | refine r_tup ?_ | refine r_callN ?_ | refine r_meth ?_ | refine r_make ?_ | refine r_binS ?_ | refine r_makeS ?_ | refine r_makeKS ?_ | refine r_xf ?_ | refine r_makeN ?_ | refine r_makeNS ?_ | refine r_dgt ?_ | refine r_dnewT ?_ | refine r_tupRg ?_)
  | ((show (_ : L2.TA) _ _ _); first | refine r_cons ?_ | refine r_nil ?_ | refine r_star ?_)
  | ((show (_ : L2.TS) _ _ _); first | refine r_seq ?_ | refine r_ifs ?_ | refine r_next ?_ | refine r_asg ?_ | refine r_ret ?_ | refine r_drop ?_ | refine r_sfld ?_ | refine r_par ?_ | refine r_par3 ?_ | refine r_ost ?_ | refine r_dput ?_ | refine r_aug rfl ?_)
  | refine r_bl ?_
  | ((show (_ : L2.TT) _ _ _); first | refine r_test ?_ | refine r_or ?_ | refine r_and ?_ | refine r_tB ?_ | refine r_not ?_ | refine r_dnin ?_)
  | ((show (_ : L2.V → L2.St → L2.Hp → (L2.St → L2.Hp → Prop) → Prop) _ _ _ _); first | refine r_gname ?_ | refine r_gsub ?_)
  | ((show (_ : L2.V → L2.V → L2.Hp → L2.VK → Prop) _ _ _ _); first | refine r_eqI ?_ | refine r_eqS ?_ | refine r_I0 ?_ | refine r_neB ?_ | refine r_neI ?_ | refine r_isNn ?_ | refine r_isNi ?_ | refine r_notNn ?_ | refine r_notNi ?_ | refine r_isNr ?_ | refine r_notNr ?_ | refine r_isNe ?_ | refine r_notNe ?_ | refine r_eqB ?_ | refine r_neS ?_ | refine r_ipI ?_)
  | refine r_pti ?_
  | ((show (_ : L2.TO) _ _ _); first | refine r_np ?_ | refine r_pt ?_)
  | ((show (_ : L2.TI) _ _ _); first | refine r_il ?_ | refine r_it ?_ | refine r_rng1 ?_ | refine r_rng2 ?_)
  | ((show (_ : List L2.V → L2.St → L2.Hp → (L2.St → L2.Hp → Prop) → Prop) _ _ _ _); first | refine r_gcons ?_ | refine r_gnil ?_)
  | ((show (_ : List L2.V → L2.Hp → L2.VK → Prop) _ _ _); first | refine r_int1 ?_ | refine r_intB ?_ | refine r_abs1 ?_)
  | refine r_U ?_
  | refine r_two ?_
  | refine r_three ?_)
local macro_rules | `(tactic| wtm_at "ixs") => `(tactic| first
  | ((with_reducible show rIxL _ (V.ref _) (V.int _) _ _); refine r_ixL (.inl (.inl (by assumption))) (by first | rfl | exact ati_n (by omega) | exact ati_int (by omega) (by omega)) ?_)
  | ((with_reducible show rIxT _ (V.ref _) (V.int _) _ _); refine r_ixT (.inl (.inl (by assumption))) (by first | rfl | exact ati_n (by omega) | exact ati_int (by omega) (by omega)) ?_))
local macro_rules | `(tactic| wtm_at "ixn") => `(tactic| first
  | ((with_reducible show Nw (rIxL _ (V.ref _) (V.int _) _ _) _); refine nf_ixL (.inl (.inl (by assumption))) (by first | rfl | exact ati_n (by omega) | exact ati_int (by omega) (by omega)) ?_)
  | ((with_reducible show Nw (rIxT _ (V.ref _) (V.int _) _ _) _); refine nf_ixT (.inl (.inl (by assumption))) (by first | rfl | exact ati_n (by omega) | exact ati_int (by omega) (by omega)) ?_))
local macro_rules | `(tactic| wtm_at "rd") => `(tactic| ((try refine Nw.to ?_); (repeat (first | simp -dsimp | with_reducible refine nf_var rfl ?_ | ((with_reducible show Nw (Ends.nx _ _ _) _); with_reducible refine nf_nx ?_) | wtm_at "ixn" | with_reducible refine nf_aug rfl ?_ | with_reducible refine nf_isNe ?_ | with_reducible refine nf_notNe ?_)); (refine Nw.of ?_)))
local macro_rules | `(tactic| wtm_at "rdi") => `(tactic| repeat' (first | wtm_at "rd1" | wtm_at "ixs" | with_reducible refine iteT ?_ | with_reducible refine iteF ?_ | with_reducible refine iteNT ?_ | with_reducible refine iteNF ?_ | with_reducible refine r_ite (fun _ => ?_) (fun _ => ?_) | with_reducible refine r_iten (fun _ => ?_) (fun _ => ?_)))
local macro_rules | `(tactic| wtm_at "rd1") => `(tactic| with_reducible first | refine r_din ?_ | refine r_chain ?_ | refine r_is ?_ | refine r_iss ?_ | refine r_methT ?_ | refine r_iks ?_ | refine r_enum ?_ | refine r_revL ?_ | refine r_bm0 ?_)
section
variable {P : Program} {w : World} {K : PySem.W.Frag} {mg : Str → Option Value} {base : Heap}
theorem ok__law_draw (T : Txt K mg) : FnOk P w K mg base CX0 1 T.f__law_draw T.d__law_draw ["_law_draws", "_law_many"] spDraw := by
  refine T.F__law_draw.ok sc__law_draw (fun vs H Q E h => ?_) (fun cdv A outer s H vs Q E hr h => ?_)
  · obtain ⟨d, c, r, m, rfl, _⟩ := h
    rfl
  · obtain ⟨d, c, r, m, rfl, D, m0, m1, q⟩ := h
    obtain ⟨dc, dr, cr, ns, rs, t, h1, h2, h3, hl, hp, ht, hn⟩ := D
    refine ⟨_, (pss_cons (ps_set (i := 2) sc__law_draw.nd rfl (by first | exact Or.inl rfl | exact Or.inr rfl) (pe_ix (r := rIxL K) ix_list (pv 0) pe_int (fun _ _ => rfl)))
      (pss_cons (ps_asg (pe_op op_add (pv 2) pe_int) (pg_sub (pv 0) pe_int set_list))
      (pss_cons (ps_set (i := 3) sc__law_draw.nd rfl (by first | exact Or.inl rfl | exact Or.inr rfl) (pe_op op_mod (pe_callTy c_int1 (by rfl) T.z_int (by decide +kernel) (pa_cons (pv 2) pa_nil)) (pe_callB (r := rLenL K) (id := "len") c_len (by rfl) T.z_len (by decide +kernel) (pa_cons (pe_ix (r := rIxL K) ix_list (pv 0) pe_int (fun _ _ => rfl)) pa_nil))))
      (pss_cons (ps_set (i := 4) sc__law_draw.nd rfl (by first | exact Or.inl rfl | exact Or.inr rfl) (pe_ix (r := rIxL K) ix_list (pe_ix (r := rIxL K) ix_list (pv 0) pe_int (fun _ _ => rfl)) (pv 3) (fun _ _ => rfl)))
      (pss_cons (ps_if (pt_cmpR op_gt (pe_ix (r := rIxL K) ix_list (pe_ix (r := rIxL K) ix_list (pv 0) pe_int (fun _ _ => rfl)) (pv 3) (fun _ _ => rfl)) pe_int (nomark _)) (pss_cons (ps_set (i := 5) sc__law_draw.nd rfl (by first | exact Or.inl rfl | exact Or.inr rfl) (pe_op op_mod (pe_callTy c_int1 (by rfl) T.z_int (by decide +kernel) (pa_cons (pe_ix (r := rIxL K) ix_list (pe_ix (r := rIxL K) ix_list (pv 0) pe_int (fun _ _ => rfl)) (pv 3) (fun _ _ => rfl)) pa_nil)) (pv 1)))
      (pss_cons (ps_asg (pe_op op_fdivW (pe_ix (r := rIxL K) ix_list (pe_ix (r := rIxL K) ix_list (pv 0) pe_int (fun _ _ => rfl)) (pv 3) (fun _ _ => rfl)) (pv 1)) (pg_sub (pe_ix (r := rIxL K) ix_list (pv 0) pe_int (fun _ _ => rfl)) (pv 3) set_list))
      (pss_one (ps_ret (pv 5))))) pss_nil)
      (pss_cons (ps_set (i := 6) sc__law_draw.nd rfl (by first | exact Or.inl rfl | exact Or.inr rfl) (pe_op op_mod (pe_callTy c_int1 (by rfl) T.z_int (by decide +kernel) (pa_cons (pe_op op_mul (pe_op op_add (pe_op op_mod (pe_callTy c_int1 (by rfl) T.z_int (by decide +kernel) (pa_cons (pv 4) pa_nil)) pe_int) pe_int) (pe_op op_add (pv 2) pe_int)) pa_nil)) pe_int))
      (pss_cons (ps_set (i := 7) sc__law_draw.nd rfl (by first | exact Or.inl rfl | exact Or.inr rfl) (pe_op op_add (pe_op op_mod (pe_callTy c_int1 (by rfl) T.z_int (by decide +kernel) (pa_cons (pv 4) pa_nil)) pe_int) (pe_op op_mul pe_int (pv 2))))
      (pss_cons (ps_set (i := 8) sc__law_draw.nd rfl (by first | exact Or.inl rfl | exact Or.inr rfl) (pe_op op_mod (pe_callTy c_int1 (by rfl) T.z_int (by decide +kernel) (pa_cons (pe_op op_add (pe_op op_add (pe_op op_mul (pv 6) (pv 6)) (pe_op op_mul pe_int (pv 6))) (pv 7)) pa_nil)) pe_int))
      (pss_cons (ps_set (i := 9) sc__law_draw.nd rfl (by first | exact Or.inl rfl | exact Or.inr rfl) (pe_op op_add (pe_op op_mul (pe_op op_mod (pe_callTy c_int1 (by rfl) T.z_int (by decide +kernel) (pa_cons (pv 8) pa_nil)) pe_int) pe_int) (pe_op op_mul (pe_op op_fdivW (pv 8) pe_int) pe_int)))
      (pss_cons (ps_set (i := 10) sc__law_draw.nd rfl (by first | exact Or.inl rfl | exact Or.inr rfl) (pe_op op_mod (pe_callTy c_int1 (by rfl) T.z_int (by decide +kernel) (pa_cons (pe_op op_add (pv 9) (pv 6)) pa_nil)) pe_int))
      (pss_cons (ps_if (pt_cmpR op_le (pv 1) pe_int (nomark _)) (pss_one (ps_ret (pe_op op_mod (pe_callTy c_int1 (by rfl) T.z_int (by decide +kernel) (pa_cons (pv 10) pa_nil)) (pv 1)))) pss_nil)
      (pss_one (ps_ret (pe_op op_mod (pe_callTy c_int1 (by rfl) T.z_int (by decide +kernel) (pa_cons (pe_op op_add (pe_op op_mul (pv 10) pe_int) (pv 8)) pa_nil)) (pv 1))))))))))))))), ?_⟩
    try simp only [nox_K, cx_K]
    wtm_at "rd"
    refine r_setL (n := 2) h1 rfl ?_
    have g1 : (upd H d (.lst ([.ref c, .ref r, .int t].set 2 (.int (t + 1))))) d = some (.lst [.ref c, .ref r, .int (t + 1)]) := upd_same
    have g2 : (upd H d (.lst ([.ref c, .ref r, .int t].set 2 (.int (t + 1))))) c = some (.lst (ns.map V.int)) := (upd_ne dc.symm).trans h2
    have g3 : (upd H d (.lst ([.ref c, .ref r, .int t].set 2 (.int (t + 1))))) r = some (.lst (rs.map V.int)) := (upd_ne dr.symm).trans h3
    have e1 : Ext d r H (upd H d (.lst ([.ref c, .ref r, .int t].set 2 (.int (t + 1))))) := fun b o e n1 n2 => (upd_ne n1).trans e
    revert g1 g2 g3 e1
    generalize (upd H d (.lst ([.ref c, .ref r, .int t].set 2 (.int (t + 1))))) = H1
    intro g1 g2 g3 e1
    wtm_at "rd"
    refine r_lenI g2 ?_
    refine r_mod (by omega) fun at_ a0 a1 _ => ?_
    wtm_at "rd"
    refine r_ite (fun c1 => ?_) (fun c1 => ?_)
    · wtm_at "rd"
      refine r_mod m0 fun k k0 k1 _ => ?_
      wtm_at "rd"
      refine r_fdiv m0 m1 fun z z0 _ => ?_
      wtm_at "rd"
      refine r_setL g3 (ixn_in a0 (by rw [List.length_map]; omega)) ?_
      wtm_at "rd"
      refine q k _ k0 k1 ⟨dc, dr, cr, ns, rs.set at_.toNat z, t + 1, (upd_ne dr).trans g1, (upd_ne cr).trans g2, ?_, ?_, hp, by omega, ?_⟩ (fun b o e n1 n2 => (upd_ne n2).trans (e1 b o e n1 n2))
      · rw [upd_same, List.map_set]
      · rw [List.length_set]; exact hl
      · intro x hx
        rcases List.mem_or_eq_of_mem_set hx with e | e
        · exact hn x e
        · rw [e]; exact z0 (by omega)
    · wtm_at "rd"
      refine r_mod (by decide) fun x1 l1 u1 _ => ?_
      wtm_at "rd"
      refine r_mul (.inl ⟨by omega, by omega⟩) fun x2 _ => ?_
      wtm_at "rd"
      refine r_mod (by decide) fun first f0 f1 _ => ?_
      wtm_at "rd"
      refine r_mod (by decide) fun x3 l3 u3 _ => ?_
      wtm_at "rd"
      refine r_mul (.inl ⟨by omega, by omega⟩) fun x4 _ => ?_
      wtm_at "rd"
      refine r_mul (.inl ⟨by omega, by omega⟩) fun x5 _ => ?_
      wtm_at "rd"
      refine r_mul (.inl ⟨by omega, by omega⟩) fun x6 _ => ?_
      wtm_at "rd"
      refine r_mod (by decide) fun second s0 s1 _ => ?_
      wtm_at "rd"
      refine r_mod (by decide) fun x7 l7 u7 _ => ?_
      wtm_at "rd"
      refine r_mul (.inl ⟨by omega, by omega⟩) fun x8 _ => ?_
      wtm_at "rd"
      refine r_fdiv (by decide) (by decide) fun x9 _ _ => ?_
      wtm_at "rd"
      refine r_mul (.inr ⟨by omega, by omega⟩) fun x10 _ => ?_
      wtm_at "rd"
      refine r_mod (by decide) fun third t0 t1 _ => ?_
      wtm_at "rd"
      refine r_ite (fun c2 => ?_) (fun c2 => ?_)
      · wtm_at "rd"
        refine r_mod m0 fun k k0 k1 _ => ?_
        exact q k _ k0 k1 ⟨dc, dr, cr, ns, rs, t + 1, g1, g2, g3, hl, hp, by omega, hn⟩ e1
      · wtm_at "rd"
        refine r_mul (.inl ⟨by omega, by omega⟩) fun x11 _ => ?_
        wtm_at "rd"
        refine r_mod m0 fun k k0 k1 _ => ?_
        exact q k _ k0 k1 ⟨dc, dr, cr, ns, rs, t + 1, g1, g2, g3, hl, hp, by omega, hn⟩ e1
theorem ok__law_begin (T : Txt K mg) : FnOk P w K mg base CX0 1 T.f__law_begin T.d__law_begin ["_law_script"] (spBegin K) := by
  refine T.F__law_begin.ok sc__law_begin (fun vs H Q E h => ?_) (fun cdv A outer s H vs Q E hr h => ?_)
  · obtain ⟨a, ns, rfl, _⟩ := h
    rfl
  obtain ⟨a, ns, rfl, hS, hlen, q⟩ := h
  refine ⟨_, (pss_cons (ps_setLc (i := 1) (own := [("_law_cell", 2)]) (g := gName 2) (tt := tYes) rfl sc__law_begin.nd rfl rfl (sw_true rfl rfl rfl (by decide +kernel)) (pi_list (pe_slice sl_list (pv 0) po_none (po_some pe_int))) (blkOk_by (N := ["_law_script", "_law_cells", "_law_cell"]) (sc := defScope s__law_begin) (by decide +kernel)) (fun _ _ _ _ _ => pg_name (i := 2) sc__law_begin.nd rfl (by first | exact Or.inl rfl | exact Or.inr rfl)) (fun _ _ _ _ _ => pts_nil) (fun _ _ _ _ _ => (pe_callTy c_int1 (by rfl) T.z_int (by decide +kernel) (pa_cons (pv 2) pa_nil))))
      (C8.pss_cut (ps_if (pt_cmpR op_eq (pe_callB (r := rLenL K) (id := "len") c_len (by rfl) T.z_len (by decide +kernel) (pa_cons (pv 1) pa_nil)) pe_int (nomark _)) (pss_one (ps_set (i := 1) sc__law_begin.nd rfl (by first | exact Or.inl rfl | exact Or.inr rfl) (pe_lst (pa_cons pe_int pa_nil)))) pss_nil)
      (pss_one (ps_ret (pe_lst (pa_cons (pv 1) (pa_cons (pe_lc (own := [("_law_cell", 2)]) (g := gName 2) (tt := tYes) rfl sc__law_begin.nd (pi_list (pv 1)) (blkOk_by (N := ["_law_script", "_law_cells", "_law_cell"]) (sc := defScope s__law_begin) (by decide +kernel)) (fun _ _ _ _ _ => pg_name (i := 2) sc__law_begin.nd rfl (by first | exact Or.inl rfl | exact Or.inr rfl)) (fun _ _ _ _ _ => pts_nil) (fun _ _ _ _ _ => (pe_op op_mul (pe_callB c_abs (by rfl) T.z_abs (by decide +kernel) (pa_cons (pv 2) pa_nil)) (pe_callTy c_intB (by rfl) T.z_int (by decide +kernel) (pa_cons (pe_cmpR op_ge (pe_callB c_abs (by rfl) T.z_abs (by decide +kernel) (pa_cons (pv 2) pa_nil)) (pe_op op_pow pe_int pe_int) (nomark _)) pa_nil))))) (pa_cons pe_int pa_nil)))))))), ?_⟩
  try simp only [nox_K, cx_K]
  wtm_at "rd"
  refine r_slL hS fun p np => ?_
  have s1 : Same H (upd H p (.lst (cutV (ns.map V.int) none (some 63)))) := same_new np
  have e0 : cutV (ns.map V.int) none (some 63) = ns.map V.int := cut_none (n := 63) (by rw [List.length_map]; exact hlen)
  rw [e0] at s1 ⊢
  have hp : (upd H p (.lst (ns.map V.int))) p = some (.lst (ns.map V.int)) := upd_same
  refine r_itl (SqL.of hp) ?_
  refine lc_map (fun x => x) (SqL.of hp) (by rw [List.length_map]; omega) (fun x H' QQ hx s' hQ => ?_) (fun c nc => ?_)
  · obtain ⟨y, _, rfl⟩ := List.mem_map.mp hx
    wtm_at "rd"
    exact hQ
  have s2 := s1.trans (same_new (o := .lst ((ns.map V.int).map fun x => x)) nc)
  have hc : (upd (upd H p (.lst (ns.map V.int))) c (.lst ((ns.map V.int).map fun x => x))) c = some (.lst (ns.map V.int)) := by rw [upd_same, List.map_id']
  revert s2 hc
  generalize (upd (upd H p (.lst (ns.map V.int))) c (.lst ((ns.map V.int).map fun x => x))) = H2
  intro s2 hc
  wtm_at "rd"
  refine ⟨fun σ H1 => ∃ (c : Addr) (ms : List Int) (x3 : Option V), σ = [some (.ref a), some (.ref c), x3] ∧ H1 c = some (.lst (ms.map V.int)) ∧ 0 < ms.length ∧ ms.length ≤ 63 ∧ Same H H1 ∧ H c = none, ?_, ?_⟩
  · wtm_at "rd"
    refine r_lenI hc ?_
    wtm_at "rd"
    refine r_ite (fun e => ?_) (fun e => ?_)
    · wtm_at "rd"
      refine r_new rfl fun c2 nc2 => ?_
      wtm_at "rd"
      exact ⟨c2, [0], _, rfl, upd_same, by decide, by decide, s2.trans (same_new nc2), s2.free nc2⟩
    · wtm_at "rd"
      exact ⟨c, ns, _, rfl, hc, by omega, hlen, s2, s1.free nc⟩
  rintro σ H1 ⟨c, ms, x3, rfl, hc, h0, h63, s1, nc⟩
  wtm_at "rd"
  refine r_itl (SqL.of hc) ?_
  refine lc_map restOf (SqL.of hc) (by rw [List.length_map]; omega) (fun x H' QQ hx s' hQ => ?_) (fun r nr => ?_)
  · obtain ⟨y, _, rfl⟩ := List.mem_map.mp hx
    wtm_at "rd"
    refine r_I ⟨by decide, by decide, by decide⟩ ?_
    wtm_at "rd"
    exact r_I (.inr bit_ok) hQ
  have s2 : Same H1 (upd H1 r (.lst ((ms.map V.int).map restOf))) := same_new nr
  wtm_at "rd"
  refine r_new rfl fun d nd => ?_
  have hd : H d = none := (s1.trans s2).free nd
  have hcr : c ≠ r := ne_of_none hc nr
  have hdc : d ≠ c := (ne_of_none (s2 _ _ hc) nd).symm
  have hdr : d ≠ r := (ne_of_none (upd_same (H := H1) (a := r)) nd).symm
  refine q d c r _ ⟨hdc, hdr, hcr, ms, ms.map restI, 0, upd_same, ?_, ?_, ?_, h0, by decide, ?_⟩ ((s1.trans s2).trans (same_new nd)) hd nc (s1.free nr)
  · rw [upd_ne hdc.symm]; exact s2 _ _ hc
  · rw [upd_ne hdr.symm, upd_same, rest_map]
  · rw [List.length_map]
  · intro x hx
    obtain ⟨y, _, rfl⟩ := List.mem_map.mp hx
    exact rest_nn y
end
section
variable {P : Program} {w : World} {K : PySem.W.Frag} {mg : Str → Option Value} {base : Heap}

theorem raise_word {C : Addr} {z : Str} {H : Hp} {Q : XK} (h : ∀ (d : Addr) (H' : Hp), H d = none → H' d = some (.xd [("word", .str z)]) → Same H H' → Q (.ref C) (some d) H') :
    ∀ a, H a = none → spBSInit C (.ref a :: ([V.str z] ++ [])) (upd H a (exo a C none)) (fun v H2 => v = .non ∧ ∃ (d : Addr) (fs : List (Str × V)), H2 a = some (exo a C (some d)) ∧ H2 d = some (exd d fs) ∧ H d = none ∧ Q (.ref C) (some d) (upd (del H2 a) d (.xd fs))) (fun _ _ _ => False) := by
  intro a na
  refine ⟨a, z, rfl, upd_same, fun dx H' nd ha hd hk => ⟨rfl, dx, _, ha, hd, (same_new na).free nd, ?_⟩⟩
  refine h dx _ ((same_new na).free nd) upd_same fun b o e => ?_
  have nb : b ≠ a := ne_of_none e na
  rw [upd_ne (ne_of_none e ((same_new na).free nd)), del_ne nb]
  exact hk b o (by rw [upd_ne nb]; exact e) nb
theorem ok_BadScheme___init__ (T : Txt K mg) : FnOk P w K mg base CX0 1 T.f_BadScheme___init__ T.d_BadScheme___init__ ["self", "word"] (spBSInit T.C_BadScheme) := by
  refine T.F_BadScheme___init__.ok sc_BadScheme___init__ (fun vs H Q E h => ?_) (fun cdv A outer s H vs Q E hr h => ?_)
  · obtain ⟨a, z, rfl, _⟩ := h
    rfl
  obtain ⟨a, z, rfl, ha, q⟩ := h
  refine ⟨_, (pss_one (ps_ost (pv 0) (pv 1))), ?_⟩
  try simp only [nox_K, cx_K]
  wtm_at "rd"
  refine ⟨a, _, rfl, T.ox_BadScheme, T.nf_BadScheme_word, .inl ⟨ha, fun dx nd ne => ?_⟩⟩
  wtm_at "rd"
  refine q dx _ nd upd_same ?_ fun b o e nb => ?_
  · rw [upd_ne ne, upd_same]
  · rw [upd_ne nb, upd_ne (ne_of_none e nd)]
    exact e
theorem ok_is_name (T : Txt K mg) : FnOk P w K mg base CX0 1 T.f_is_name T.d_is_name ["thing"] spIsName := by
  refine T.F_is_name.ok sc_is_name (fun vs H Q E h => ?_) (fun cdv A outer s H vs Q E hr h => ?_)
  · obtain ⟨z, rfl, _⟩ := h
    rfl
  obtain ⟨z, rfl, hz, q⟩ := h
  refine ⟨_, (pss_cons (ps_if (PW.pt (pw_or (pt_not (pt_val (pe_callB call_isi (by rfl) T.z_isinstance (by decide +kernel) (pa_cons (pv 0) (pa_cons (pe_bltn (v := .ty "str") (u := .type "str") (by rfl) T.z_str (by decide +kernel) rfl) pa_nil))))) (pw_or (pt_not (pt_chain op_le op_le pe_int (pe_callB call_len_str (by rfl) T.z_len (by decide +kernel) (pa_cons (pv 0) pa_nil)) pe_int)) (pw_or1 (pt_cmpR op_in_seq (pv 0) (pe_glob (v := .ref T.a_WORDS) rfl T.g_WORDS rfl) (by rfl)))))) (pss_one (ps_ret pe_bl)) pss_nil)
      (pss_one (ps_ret (pe_callB (cr_all rfl) (by rfl) T.z_all (by decide +kernel) (pa_cons (pe_lc (own := [("letter", 1)]) (g := gName 1) (tt := tYes) rfl sc_is_name.nd (pi_str (pv 0)) (blkOk_by (N := ["thing", "letter"]) (sc := defScope s_is_name) (by decide +kernel)) (fun _ _ _ _ _ => pg_name (i := 1) sc_is_name.nd rfl (by first | exact Or.inl rfl | exact Or.inr rfl)) (fun _ _ _ _ _ => pts_nil) (fun _ _ _ _ _ => (pe_cmpR op_in_sign (pv 1) (pe_glob (v := .str "abcdefghijklmnopqrstuvwxyz") rfl T.g_LETTERS ⟨_, rfl⟩) (by rfl)))) pa_nil))))), ?_⟩
  try simp only [nox_K, cx_K]
  have zl : z.length ≤ sizeLine := Nat.le_of_lt (small1000 hz)
  wtm_at "rd"
  refine r_isi (.ty "str") (.base (.str _)) kit_self ?_
  wtm_at "rdi"
  · refine ⟨z, rfl, zl, ?_⟩
    wtm_at "rd"
    refine r_ite (fun e1 => ?_) (fun e1 => ?_)
    · wtm_at "rd"
      refine r_iten (fun e2 => ?_) (fun e2 => ?_)
      · wtm_at "rdi"
        refine bl_to (q _ (Same.refl _)) ?_
        rw [isNameB, decide_eq_false (by omega), Bool.false_and]
      · wtm_at "rd"
        refine r_inT (T.q_WORDS _) rfl rfl ?_
        show ∃ k, V.bl (inV (.str z) (wordsS.map V.str)) = .bl k ∧ _
        wtm_at "rd"
        refine r_iteb (fun e3 => ?_) (fun e3 => ?_)
        · wtm_at "rd"
          refine bl_to (q _ (Same.refl _)) ?_
          rw [isNameB, e3, decide_eq_true (by omega)]
          rfl
        · wtm_at "rd"
          refine lc_strM (fun c => .bl (letB c)) hz (fun c H' QQ s' hQ => ?_) fun D nD => ?_
          · wtm_at "rd"
            exact ⟨c, _, rfl, rfl, hQ⟩
          · wtm_at "rd"
            refine ⟨D, z.cps.toList.map letB, rfl, SqL.of (by rw [upd_same, List.map_map]; try rfl), ?_⟩
            refine bl_to (q _ (same_new nD)) ?_
            rw [isNameB, e3, decide_eq_true (by omega), List.all_map]
            rfl
    · refine ⟨false, rfl, ?_⟩
      wtm_at "rdi"
      refine bl_to (q _ (Same.refl _)) ?_
      rw [isNameB, decide_eq_false (by omega), Bool.false_and]
theorem ok_Sort___init__ (T : Txt K mg) : FnOk P w K mg base CX0 1 T.f_Sort___init__ T.d_Sort___init__ ["self", "name", "key", "part", "descending"] (spSortInit T.C_Sort) := by
  refine T.F_Sort___init__.ok sc_Sort___init__ (fun vs H Q E h => ?_) (fun cdv A outer s H vs Q E hr h => ?_)
  · obtain ⟨p, dx, sr, rfl, _⟩ := h
    rfl
  obtain ⟨p, dx, sr, rfl, hp, q⟩ := h
  refine ⟨_, (pss_cons (ps_fld (pv 0) (pv 1) rfl)
      (pss_cons (ps_fld (pv 0) (pv 2) rfl)
      (pss_cons (ps_fld (pv 0) (pv 3) rfl)
      (pss_one (ps_fld (pv 0) (pv 4) rfl))))), ?_⟩
  try simp only [nox_K, cx_K]
  wtm_at "rd"
  refine r_put hp T.c_Sort T.nf_Sort_name (by decide) ?_
  wtm_at "rd"
  refine r_put upd_same T.c_Sort T.nf_Sort_key (Nat.lt_of_le_of_lt (putF_len _ _ _) (by decide)) ?_
  wtm_at "rd"
  refine r_put upd_same T.c_Sort T.nf_Sort_part (Nat.lt_of_le_of_lt (putF_len _ _ _) (Nat.lt_of_le_of_lt (Nat.succ_le_succ (putF_len _ _ _)) (by decide))) ?_
  wtm_at "rd"
  refine r_put upd_same T.c_Sort T.nf_Sort_descending (Nat.lt_of_le_of_lt (putF_len _ _ _) (Nat.lt_of_le_of_lt (Nat.succ_le_succ (putF_len _ _ _)) (Nat.lt_of_le_of_lt (Nat.succ_le_succ (Nat.succ_le_succ (putF_len _ _ _))) (by decide)))) ?_
  wtm_at "rd"
  refine q _ ⟨dx, upd_same⟩ fun b o e nb => ?_
  rw [upd_ne nb, upd_ne nb, upd_ne nb, upd_ne nb]
  exact e
theorem ok_first_double (T : Txt K mg) : FnOk P w K mg base CX0 1 T.f_first_double T.d_first_double ["words"] spFirstD := by
  refine T.F_first_double.ok sc_first_double (fun vs H Q E h => ?_) (fun cdv A outer s H vs Q E hr h => ?_)
  · obtain ⟨p, ws, rfl, _⟩ := h
    rfl
  obtain ⟨p, ws, rfl, hp, hl, q⟩ := h
  refine ⟨_, (pss_cons (ps_set (i := 1) sc_first_double.nd rfl (by first | exact Or.inl rfl | exact Or.inr rfl) pe_dnewK)
      (pss_cons (ps_for PassesOwn.never rfl (pi_list (pv 0)) (pg_name (i := 2) sc_first_double.nd rfl (by first | exact Or.inl rfl | exact Or.inr rfl)) (pss_cons (ps_if (pt_cmp (pc_din (hu_of hr) (pv 2) (pv 1))) (pss_one (ps_ret (pv 2))) pss_nil)
      (pss_one (ps_dput (hu_of hr) (pv 1) (pv 2) pe_bl rfl))))
      (pss_one (ps_ret pe_non)))), ?_⟩
  try simp only [nox_K, cx_K]
  wtm_at "rd"
  refine r_dnew fun d nd => ?_
  wtm_at "rd"
  refine r_for (r_il ?_)
  wtm_at "rd"
  refine r_itl (SqL.of ((same_new nd) _ _ hp)) ?_
  refine for_list (K := K) (a := p) (xs := ws.map V.str) (fun i σ H' => ∃ (y2 : Option V) (kvs : List (Key × V)), σ = [some (.ref p), some (.ref d), y2] ∧ H' d = some (.dK kvs) ∧ (∀ w, (valV kvs (Sum.inr w)).isSome = decide (w ∈ ws.take i)) ∧ kvs.length ≤ i ∧ Same H H' ∧ dblFrom [] ws = dblFrom (ws.take i) (ws.drop i)) ⟨_, [], rfl, upd_same, fun w => (by rw [List.take_zero]; try rfl), Nat.le_refl _, same_new nd, rfl⟩ (fun i σ H' _ ⟨_, _, _, _, _, _, s, _⟩ => SqL.of (s _ _ hp)) ?_ ?_
  · rintro i v σ H1 hv ⟨y2, kvs, rfl, hd, hval, hkl, s1, hdb⟩
    have hi : i < ws.length := by
      have := (List.getElem?_eq_some_iff.mp hv).1
      rw [List.length_map] at this
      exact this
    have hw : ws[i]? = some ws[i] := List.getElem?_eq_getElem hi
    rw [List.getElem?_map, hw] at hv
    cases hv
    rw [List.drop_eq_getElem_cons hi] at hdb
    rw [dbl_cons] at hdb
    wtm_at "rd"
    refine r_dinS hd ?_
    wtm_at "rd"
    rw [hval]
    refine r_ite (fun e1 => ?_) (fun e1 => ?_)
    · rw [if_pos e1] at hdb
      wtm_at "rd"
      have z := q _ s1
      rw [hdb] at z
      exact z
    · rw [if_neg e1] at hdb
      wtm_at "rd"
      refine r_dputS hd (by omega) ?_
      refine ⟨_, _, rfl, upd_same, fun w => ?_, Nat.le_trans putK_len (by omega), fun b o e => (upd_ne (ne_of_none e nd)).trans (s1 _ _ e), ?_⟩
      · rw [valV_put, List.take_add_one, hw]
        by_cases c : w = ws[i]
        · rw [c, if_pos rfl]
          exact (decide_eq_true (List.mem_append.mpr (.inr List.mem_cons_self))).symm
        · rw [if_neg fun z => c (Sum.inr.inj z), hval, decide_eq_decide, List.mem_append]
          exact ⟨.inl, fun z => z.elim id fun y => absurd (List.mem_singleton.mp y) c⟩
      · rw [hdb, List.take_add_one, hw]
        rfl
  · rintro σ H1 ⟨y2, kvs, rfl, hd, hval, hkl, s1, hdb⟩
    rw [List.length_map, List.drop_length] at hdb
    wtm_at "rd"
    have z := q _ s1
    rw [show dblFrom [] ws = none from hdb] at z
    exact z
section
variable {H : Hp} {p : Addr} {sr : Srt} {F : V → Prop}
theorem r_sname (T : Txt K mg) (o : SortAt T.C_Sort H p sr) (h : F (.str sr.nm)) : ∃ a C dx fs v, V.ref p = .ref a ∧ H a = some (.ins C dx fs) ∧ Cls K C ∧ NoAttr K C "name" ∧ fs.lookup ("name" : Str) = some v ∧ F v := by
  obtain ⟨dx, e⟩ := o
  exact r_get e T.c_Sort T.nf_Sort_name (srt_name sr) h
theorem r_skey (T : Txt K mg) (o : SortAt T.C_Sort H p sr) (h : F (.str sr.ky)) : ∃ a C dx fs v, V.ref p = .ref a ∧ H a = some (.ins C dx fs) ∧ Cls K C ∧ NoAttr K C "key" ∧ fs.lookup ("key" : Str) = some v ∧ F v := by
  obtain ⟨dx, e⟩ := o
  exact r_get e T.c_Sort T.nf_Sort_key (srt_key sr) h
theorem r_spart (T : Txt K mg) (o : SortAt T.C_Sort H p sr) (h : F (partV sr.pt)) : ∃ a C dx fs v, V.ref p = .ref a ∧ H a = some (.ins C dx fs) ∧ Cls K C ∧ NoAttr K C "part" ∧ fs.lookup ("part" : Str) = some v ∧ F v := by
  obtain ⟨dx, e⟩ := o
  exact r_get e T.c_Sort T.nf_Sort_part (srt_part sr) h
end
theorem ok_Scheme_sort_names (T : Txt K mg) : FnOk P w K mg base CX0 1 T.f_Scheme_sort_names T.d_Scheme_sort_names ["self"] (spNamesOf K T.C_Scheme T.C_Sort) := by
  refine T.F_Scheme_sort_names.ok sc_Scheme_sort_names (fun vs H Q E h => ?_) (fun cdv A outer s H vs Q E hr h => ?_)
  · obtain ⟨p, sc, rfl, _⟩ := h
    rfl
  obtain ⟨p, sc, rfl, o, sm, q⟩ := h
  refine ⟨_, (pss_one (ps_ret (pe_lc (own := [("one", 1)]) (g := gName 1) (tt := tYes) rfl sc_Scheme_sort_names.nd (pi_tup (pe_fldK (K := K) (pv 0))) (blkOk_by (N := ["self", "one"]) (sc := defScope s_Scheme_sort_names) (by decide +kernel)) (fun _ _ _ _ _ => pg_name (i := 1) sc_Scheme_sort_names.nd rfl (by first | exact Or.inl rfl | exact Or.inr rfl)) (fun _ _ _ _ _ => pts_nil) (fun _ _ _ _ _ => (pe_fldK (K := K) (pv 1)))))), ?_⟩
  try simp only [nox_K, cx_K]
  obtain ⟨dx, tS, tP, tV, tM, as, e, hS, hA, hP, hV, hM⟩ := o
  have hl : (as.map V.ref).length ≤ 1000 := by rw [List.length_map, hA.len]; exact Nat.le_trans sm.l1 (by decide)
  wtm_at "rd"
  refine r_get e T.c_Scheme T.nf_Scheme_sorts (sch_sorts _ _ _ _) ?_
  refine r_itt hS ?_
  refine lc_mapT (fldV H "name") hS hl (fun v H' QQ hv s' hQ => ?_) fun l nl => ?_
  · obtain ⟨a, ha, rfl⟩ := List.mem_map.mp hv
    obtain ⟨j, hj⟩ := List.getElem?_of_mem ha
    obtain ⟨b, _, hb⟩ := hA.get hj
    have ev : fldV H "name" (.ref a) = .str b.nm := by
      obtain ⟨dx', e'⟩ := hb
      exact fld_at e' (srt_name b)
    rw [ev] at hQ
    wtm_at "rd"
    exact r_sname T (hb.same s') hQ
  · refine q l _ nl (same_new nl) ?_
    rw [upd_same, List.map_map]
    congr 2
    show _ = (sc.ss.map Srt.nm).map V.str
    rw [List.map_map]
    refine hA.map fun a b hb => ?_
    obtain ⟨dx', e'⟩ := hb
    exact fld_at e' (srt_name b)
theorem ok_Scheme_columns (T : Txt K mg) : FnOk P w K mg base CX0 1 T.f_Scheme_columns T.d_Scheme_columns ["self"] (spColsOf K T.C_Scheme T.C_Sort) := by
  refine T.F_Scheme_columns.ok sc_Scheme_columns (fun vs H Q E h => ?_) (fun cdv A outer s H vs Q E hr h => ?_)
  · obtain ⟨p, sc, rfl, _⟩ := h
    rfl
  obtain ⟨p, sc, rfl, o, sm, q⟩ := h
  refine ⟨_, (pss_cons (ps_setLc (i := 1) (own := [("one", 2)]) (g := gName 2) (tt := tYes) rfl sc_Scheme_columns.nd rfl rfl (sw_true rfl rfl rfl (by decide +kernel)) (pi_tup (pe_fldK (K := K) (pv 0))) (blkOk_by (N := ["self", "keys", "one"]) (sc := defScope s_Scheme_columns) (by decide +kernel)) (fun _ _ _ _ _ => pg_name (i := 2) sc_Scheme_columns.nd rfl (by first | exact Or.inl rfl | exact Or.inr rfl)) (fun _ _ _ _ _ => pts_nil) (fun _ _ _ _ _ => (pe_fldK (K := K) (pv 2))))
      (pss_one (ps_ret (pe_lst (StX.pa_star (pe_fldK (K := K) (pv 0)) (StX.pa_star (pv 1) (StX.pa_star (pe_fldK (K := K) (pv 0)) (StX.pa_star (pe_fldK (K := K) (pv 0)) pa_nil)))))))), ?_⟩
  try simp only [nox_K, cx_K]
  obtain ⟨dx, tS, tP, tV, tM, as, e, hS, hA, hP, hV, hM⟩ := o
  have hl : (as.map V.ref).length ≤ 1000 := by rw [List.length_map, hA.len]; exact Nat.le_trans sm.l1 (by decide)
  wtm_at "rd"
  refine r_get e T.c_Scheme T.nf_Scheme_sorts (sch_sorts _ _ _ _) ?_
  refine r_itt hS ?_
  refine lc_mapT (fldV H "key") hS hl (fun v H' QQ hv s' hQ => ?_) fun l nl => ?_
  · obtain ⟨a, ha, rfl⟩ := List.mem_map.mp hv
    obtain ⟨j, hj⟩ := List.getElem?_of_mem ha
    obtain ⟨b, _, hb⟩ := hA.get hj
    have ev : fldV H "key" (.ref a) = .str b.ky := by
      obtain ⟨dx', e'⟩ := hb
      exact fld_at e' (srt_key b)
    rw [ev] at hQ
    wtm_at "rd"
    exact r_skey T (hb.same s') hQ
  have ek : (as.map V.ref).map (fldV H "key") = (sc.ss.map Srt.ky).map V.str := by
    rw [List.map_map, List.map_map]
    refine hA.map fun a b hb => ?_
    obtain ⟨dx', e'⟩ := hb
    exact fld_at e' (srt_key b)
  rw [ek]
  have s1 := same_new (H := H) (o := .lst ((sc.ss.map Srt.ky).map V.str)) nl
  have e := s1 _ _ e
  wtm_at "rd"
  refine r_get e T.c_Scheme T.nf_Scheme_part_columns (sch_parts _ _ _ _) ?_
  refine r_stT (same_tup s1 hP) ?_
  wtm_at "rd"
  refine r_stL (SqL.of upd_same) ?_
  wtm_at "rd"
  refine r_get e T.c_Scheme T.nf_Scheme_value_columns (sch_values _ _ _ _) ?_
  refine r_stT (same_tup s1 hV) ?_
  wtm_at "rd"
  refine r_get e T.c_Scheme T.nf_Scheme_mark_columns (sch_marks _ _ _ _) ?_
  refine r_stT (same_tup s1 hM) ?_
  wtm_at "rd"
  have h1 := sm.l1
  have h2 := sm.l2
  have h3 := sm.l3
  have h4 := sm.l4
  refine ⟨Nat.le_of_lt (small1000 ?_), fun l2 nl2 => ?_⟩
  · simp only [List.length_append, List.length_map, List.length_nil]
    omega
  · refine q l2 _ (s1.free nl2) (s1.trans (same_new nl2)) ?_
    rw [upd_same]
    congr 2
    simp only [Sch.cols, List.map_append, List.append_nil]
theorem sch_who {CC CS : Addr} {H : Hp} {p : Addr} {sc : Sch} {m : Str} {A : Prop} (o : SchAt K CC CS H p sc) (h1 : ¬ m = "mark_columns") (h2 : ¬ m = "value_columns") (h3 : ¬ m = "part_columns") (h4 : ¬ m = "sorts") (h : A) : ∃ a' dx fs, V.ref p = .ref a' ∧ H a' = some (.ins CC dx fs) ∧ fs.lookup m = none ∧ A := by
  obtain ⟨dx, tS, tP, tV, tM, as, e, _⟩ := o
  exact r_who e (sch_no _ _ _ _ h1 h2 h3 h4) h
theorem ok_Scheme_inspect (T : Txt K mg) : FnOk P w K mg base (L2.CX P w) 3 T.f_Scheme_inspect T.d_Scheme_inspect ["self"] (spInspect K T.C_Scheme T.C_Sort T.C_BadScheme) := by
  refine T.F_Scheme_inspect.okX sc_Scheme_inspect (fun vs H Q E h => ?_) (fun cdv A outer s H vs Q E hr h => ?_)
  · obtain ⟨p, sc, rfl, _⟩ := h
    rfl
  obtain ⟨p, sc, rfl, o, sm, qE, q⟩ := h
  refine ⟨_, (pss_cons (ps_set (i := 1) sc_Scheme_inspect.nd rfl (by first | exact Or.inl rfl | exact Or.inr rfl) (pe_meth0 (pv 0) T.c_Scheme T.mt_Scheme_sort_names (ok_Scheme_sort_names T) (hr.mono (by decide)) T.b_Scheme_sort_names .nil pass0))
      (pss_cons (ps_set (i := 2) sc_Scheme_inspect.nd rfl (by first | exact Or.inl rfl | exact Or.inr rfl) (pe_meth0 (pv 0) T.c_Scheme T.mt_Scheme_columns (ok_Scheme_columns T) (hr.mono (by decide)) T.b_Scheme_columns .nil pass0))
      (pss_cons (ps_for (passes_of rfl) rfl (pi_list (pe_op op_cat (pv 1) (pv 2))) (pg_name (i := 3) sc_Scheme_inspect.nd rfl (by first | exact Or.inl rfl | exact Or.inr rfl)) (pss_one (ps_if (pt_not (pt_val (pe_call (ok_is_name T) (hr.mono (by decide)) (by rfl) T.g_is_name T.F_is_name.kp T.b_is_name .nil pass0 (pa_cons (pv 3) pa_nil)))) (pss_one (ps_raise rfl (takes_of rfl rfl rfl rfl) (pmk_oex T.ox_BadScheme T.iC_BadScheme T.tI_BadScheme (ok_BadScheme___init__ T) (hr.mono (by decide)) T.b_BadScheme___init__ .nil pass0 (by rfl) T.g_BadScheme (pa_cons (pv 3) pa_nil)))) pss_nil)))
      (pss_cons (ps_for (passes_of rfl) rfl (pi_tup (pe_tup (pa_cons (pv 1) (pa_cons (pv 2) pa_nil)))) (pg_name (i := 4) sc_Scheme_inspect.nd rfl (by first | exact Or.inl rfl | exact Or.inr rfl)) (pss_cons (ps_set (i := 3) sc_Scheme_inspect.nd rfl (by first | exact Or.inl rfl | exact Or.inr rfl) (pe_call (ok_first_double T) (hr.mono (by decide)) (by rfl) T.g_first_double T.F_first_double.kp T.b_first_double .nil pass0 (pa_cons (pv 4) pa_nil)))
      (pss_one (ps_if (pt_cmpR o_notN (pv 3) pe_non (nomark _)) (pss_one (ps_raise rfl (takes_of rfl rfl rfl rfl) (pmk_oex T.ox_BadScheme T.iC_BadScheme T.tI_BadScheme (ok_BadScheme___init__ T) (hr.mono (by decide)) T.b_BadScheme___init__ .nil pass0 (by rfl) T.g_BadScheme (pa_cons (pv 3) pa_nil)))) pss_nil))))
      (pss_one (ps_for (passes_of rfl) rfl (pi_tup (pe_fldK (K := K) (pv 0))) (pg_name (i := 5) sc_Scheme_inspect.nd rfl (by first | exact Or.inl rfl | exact Or.inr rfl)) (pss_one (ps_if (PW.pt (pw_and (pt_cmpR o_notN (pe_fldK (K := K) (pv 5)) pe_non (nomark _)) (pw_and1 (pt_cmpR op_notIn_seq (pe_fldK (K := K) (pv 5)) (pe_fldK (K := K) (pv 0)) (by rfl))))) (pss_one (ps_raise rfl (takes_of rfl rfl rfl rfl) (pmk_oex T.ox_BadScheme T.iC_BadScheme T.tI_BadScheme (ok_BadScheme___init__ T) (hr.mono (by decide)) T.b_BadScheme___init__ .nil pass0 (by rfl) T.g_BadScheme (pa_cons (pe_fldK (K := K) (pv 5)) pa_nil)))) pss_nil)))))))), ?_⟩
  try simp only [nox_K, cx_K]
  wtm_at "rd"
  refine sch_who o (by decide +kernel) (by decide +kernel) (by decide +kernel) (by decide +kernel) ?_
  wtm_at "rd"
  refine ⟨p, sc, rfl, o, sm, fun ln H1 n1 s1 hn1 => ?_⟩
  have o := o.same s1
  wtm_at "rd"
  refine sch_who o (by decide +kernel) (by decide +kernel) (by decide +kernel) (by decide +kernel) ?_
  wtm_at "rd"
  refine ⟨p, sc, rfl, o, sm, fun lc H2 n2 s2 hc2 => ?_⟩
  have o := o.same s2
  have hn2 := s2 _ _ hn1
  have s2 := s1.trans s2
  have h1 := sm.l1
  have h2 := sm.l2
  have h3 := sm.l3
  have h4 := sm.l4
  have ln' : sc.names.length ≤ 20 := by rw [Sch.names, List.length_map]; exact h1
  have lc' : sc.cols.length ≤ 80 := by
    simp only [Sch.cols, List.length_append, List.length_map]
    omega
  wtm_at "rd"
  refine r_for (r_il ?_)
  wtm_at "rd"
  refine ⟨ln, lc, _, _, rfl, rfl, hn2, hc2, Nat.le_of_lt (small1000 (by rw [List.length_map, List.length_map]; omega)), fun l3 n_l3 => ?_⟩
  rw [← List.map_append]
  generalize eq_l3 : upd _ l3 _ = H3
  have s_l3 : Same _ H3 := eq_l3 ▸ same_new n_l3
  have h_l3 : H3 l3 = some _ := eq_l3 ▸ upd_same
  clear eq_l3
  have o := o.same s_l3
  have hn2 := s_l3 _ _ hn2
  have hc2 := s_l3 _ _ hc2
  have s2 := s2.trans s_l3
  refine r_itl (SqL.of h_l3) ?_
  refine for_list (K := K) (a := l3) (xs := (sc.names ++ sc.cols).map V.str) (fun i σ H' => ∃ (y3 y4 y5 : Option V), σ = [some (.ref p), some (.ref ln), some (.ref lc), y3, y4, y5] ∧ Same H3 H' ∧ ∀ w ∈ (sc.names ++ sc.cols).take i, isNameB w = true) ⟨_, _, _, rfl, Same.refl _, fun w z => (by rw [List.take_zero] at z; cases z)⟩ (fun i σ H' _ ⟨_, _, _, _, s, _⟩ => SqL.of (s _ _ h_l3)) ?_ ?_
  · rintro i v σ H4 hv ⟨y3, y4, y5, rfl, s4, hall⟩
    rw [List.getElem?_map] at hv
    obtain ⟨w, hw, rfl⟩ := Option.map_eq_some_iff.mp hv
    wtm_at "rd"
    refine ⟨w, rfl, sm.w w (List.mem_of_getElem? hw), fun H5 s5 => ?_⟩
    wtm_at "rd"
    refine r_itebn (fun e1 => ?_) (fun e1 => ?_)
    · refine ⟨.str w, rfl, Nat.le_of_ble_eq_true rfl, raise_word fun d H' nd hd s => ?_⟩
      have s6 := ((s2.trans s4).trans s5)
      refine qE w ?_ d H' (s6.free nd) hd (s6.trans s)
      unfold Sch.bad badWord
      rw [find_take (f := fun w => !isNameB w) (fun y hy => by rw [hall y hy]; try rfl) hw (by rw [e1]; try rfl)]
      rfl
    · wtm_at "rd"
      refine ⟨_, _, _, rfl, s4.trans s5, fun y hy => ?_⟩
      rcases take_snoc hw hy with z | z
      · exact hall y z
      · rw [z]; exact e1
  rintro σ H4 ⟨y3, y4, y5, rfl, s4, hall⟩
  rw [List.length_map, List.take_length] at hall
  have b1 : badWord (sc.names ++ sc.cols) = none := List.find?_eq_none.mpr fun y hy => by rw [hall y hy]; exact Bool.false_ne_true
  have o := o.same s4
  have hn4 := s4 _ _ hn2
  have hc4 := s4 _ _ hc2
  have s4 := s2.trans s4
  wtm_at "rd"
  refine r_for (r_it ?_)
  wtm_at "rd"
  refine r_new rfl fun tt n_tt => ?_
  generalize eq_tt : upd _ tt _ = H5
  have s_tt : Same _ H5 := eq_tt ▸ same_new n_tt
  have h_tt : H5 tt = some _ := eq_tt ▸ upd_same
  clear eq_tt
  have o := o.same s_tt
  have hn4 := s_tt _ _ hn4
  have hc4 := s_tt _ _ hc4
  have s4 := s4.trans s_tt
  refine r_itt (SqT.of h_tt) ?_
  refine for_tup (K := K) (a := tt) (xs := [.ref ln, .ref lc]) (fun i σ H' => ∃ (y3 y4 y5 : Option V), σ = [some (.ref p), some (.ref ln), some (.ref lc), y3, y4, y5] ∧ Same H5 H' ∧ (1 ≤ i → dblFrom [] sc.names = none) ∧ (2 ≤ i → dblFrom [] sc.cols = none)) ⟨_, _, _, rfl, Same.refl _, fun z => absurd z (by decide), fun z => absurd z (by decide)⟩ (fun i σ H' _ ⟨_, _, _, _, s, _⟩ => SqT.of (s _ _ h_tt)) ?_ ?_
  · rintro i v σ H6 hv ⟨y3, y4, y5, rfl, s6, hd1, hd2⟩
    have hi : i < 2 := (List.getElem?_eq_some_iff.mp hv).1
    obtain e | e : i = 0 ∨ i = 1 := by omega
    · subst e
      cases hv
      wtm_at "rd"
      refine ⟨ln, sc.names, rfl, s6 _ _ hn4, by omega, fun H7 s7 => ?_⟩
      cases hdb : dblFrom [] sc.names with
      | none =>
        simp only [partV]
        wtm_at "rdi"
        exact ⟨_, _, _, rfl, s6.trans s7, fun _ => trivial, fun z => absurd z (by decide)⟩
      | some w =>
        simp only [partV]
        wtm_at "rd"
        refine ⟨rfl, ?_⟩
        rw [decide_eq_false (fun z => nomatch z)]
        wtm_at "rdi"
        refine ⟨.str w, rfl, Nat.le_of_ble_eq_true rfl, raise_word fun d H' nd hd s => ?_⟩
        have s8 := ((s4.trans s6).trans s7)
        refine qE w ?_ d H' (s8.free nd) hd (s8.trans s)
        unfold Sch.bad
        rw [b1, hdb]
        rfl
    · subst e
      cases hv
      have hd1 := hd1 (Nat.le_refl 1)
      wtm_at "rd"
      refine ⟨lc, sc.cols, rfl, s6 _ _ hc4, by omega, fun H7 s7 => ?_⟩
      cases hdb : dblFrom [] sc.cols with
      | none =>
        simp only [partV]
        wtm_at "rdi"
        exact ⟨_, _, _, rfl, s6.trans s7, fun _ => hd1, fun _ => trivial⟩
      | some w =>
        simp only [partV]
        wtm_at "rd"
        refine ⟨rfl, ?_⟩
        rw [decide_eq_false (fun z => nomatch z)]
        wtm_at "rdi"
        refine ⟨.str w, rfl, Nat.le_of_ble_eq_true rfl, raise_word fun d H' nd hd s => ?_⟩
        have s8 := ((s4.trans s6).trans s7)
        refine qE w ?_ d H' (s8.free nd) hd (s8.trans s)
        unfold Sch.bad
        rw [b1, hd1, hdb]
        rfl
  rintro σ H6 ⟨y3, y4, y5, rfl, s6, hd1, hd2⟩
  have hd1 := hd1 (Nat.le_of_ble_eq_true rfl)
  have hd2 := hd2 (Nat.le_of_ble_eq_true rfl)
  have o := o.same s6
  have s6 := s4.trans s6
  obtain ⟨dx, tS, tP, tV, tM, as, e, hS, hA, hP, hV, hM⟩ := o
  try dsimp only
  refine r_for (r_it ?_)
  wtm_at "rd"
  refine r_get e T.c_Scheme T.nf_Scheme_sorts (sch_sorts _ _ _ _) ?_
  refine r_itt hS ?_
  refine for_tup (K := K) (a := tS) (xs := as.map V.ref) (fun i σ H' => ∃ (y3 y4 y5 : Option V), σ = [some (.ref p), some (.ref ln), some (.ref lc), y3, y4, y5] ∧ H' = H6 ∧ ∀ sr ∈ sc.ss.take i, partBad sc.ps sr = false) ⟨_, _, _, rfl, rfl, fun w z => (by rw [List.take_zero] at z; cases z)⟩ (fun i σ H' _ ⟨_, _, _, _, z, _⟩ => by subst z; exact hS) ?_ ?_
  · rintro i v σ H7 hv ⟨y3, y4, y5, rfl, rfl, hall⟩
    rw [List.getElem?_map] at hv
    obtain ⟨a, ha, rfl⟩ := Option.map_eq_some_iff.mp hv
    obtain ⟨sr, hsr, oa⟩ := hA.get ha
    have next : partBad sc.ps sr = false → ∀ y ∈ sc.ss.take (i + 1), partBad sc.ps y = false := fun z y hy => by
      rcases take_snoc hsr hy with c | c
      · exact hall y c
      · rw [c]; exact z
    wtm_at "rd"
    refine r_spart T oa ?_
    cases hpt : sr.pt with
    | none =>
      simp only [partV]
      wtm_at "rdi"
      exact ⟨_, _, _, rfl, rfl, next (by unfold partBad; rw [hpt])⟩
    | some z =>
      simp only [partV]
      wtm_at "rd"
      refine ⟨rfl, ?_⟩
      rw [decide_eq_false (fun z => nomatch z)]
      wtm_at "rdi"
      refine r_spart T oa ?_
      rw [hpt]
      wtm_at "rd"
      refine r_get e T.c_Scheme T.nf_Scheme_part_columns (sch_parts _ _ _ _) ?_
      refine r_inT hP rfl (flat_strsV _) ?_
      show ∃ k, V.bl (!inV (.str z) (sc.ps.map V.str)) = .bl k ∧ _
      rw [inV_strs]
      wtm_at "rd"
      refine r_iten (fun e1 => ?_) (fun e1 => ?_)
      · refine r_mko ?_
        wtm_at "rd"
        refine r_spart T oa ?_
        rw [hpt]
        wtm_at "rd"
        refine ⟨Nat.le_of_ble_eq_true rfl, raise_word (z := z) fun d H' nd hd s => ?_⟩
        refine qE z ?_ d H' (s6.free nd) hd (s6.trans s)
        unfold Sch.bad badPart
        rw [b1, hd1, hd2, find_take hall hsr (by unfold partBad; rw [hpt]; show (!decide (z ∈ sc.ps)) = true; rw [decide_eq_false e1]; rfl)]
        exact hpt
      · wtm_at "rd"
        exact ⟨_, _, _, rfl, rfl, next (by unfold partBad; rw [hpt]; show (!decide (z ∈ sc.ps)) = false; rw [decide_eq_true e1]; rfl)⟩
  · rintro σ H7 ⟨y3, y4, y5, rfl, rfl, hall⟩
    rw [List.length_map, hA.len, List.take_length] at hall
    wtm_at "rd"
    refine q ?_ _ s6
    unfold Sch.bad badPart
    rw [b1, hd1, hd2, List.find?_eq_none.mpr fun y hy => by rw [hall y hy]; exact Bool.false_ne_true]
    rfl
theorem sqt_put {H : Hp} {a p C dx : Addr} {fs : List (Str × V)} {xs : List V} {o : HO} (e : H p = some (.ins C dx fs)) (h : SqT K H a xs) : SqT K (upd H p o) a xs := by
  rcases h with (h | ⟨u, h⟩) | h
  · exact .inl (.inl ((upd_ne (ne_of h e fun z => nomatch z)).trans h))
  · exact .inl (.inr ⟨u, (upd_ne (ne_of h e fun z => nomatch z)).trans h⟩)
  · exact .inr h
theorem sqa_put {H : Hp} {a p C dx : Addr} {fs : List (Str × V)} {xs : List V} {o : HO} (e : H p = some (.ins C dx fs)) (h : SqA K H a xs) : SqA K (upd H p o) a xs := by
  rcases h with ((h | ⟨u, h⟩) | h) | h
  · exact .inl (.inl (.inl ((upd_ne (ne_of h e fun z => nomatch z)).trans h)))
  · exact .inl (.inl (.inr ⟨u, (upd_ne (ne_of h e fun z => nomatch z)).trans h⟩))
  · exact .inl (.inr h)
  · exact .inr (sqt_put e h)
theorem sort_put {H : Hp} {C CS p dx a : Addr} {sr : Srt} {fs fs' : List (Str × V)} (e : H p = some (.ins C dx fs)) (n : a ≠ p) (h : SortAt CS H a sr) : SortAt CS (upd H p (.ins C dx fs')) a sr := by
  obtain ⟨dy, z⟩ := h
  exact ⟨dy, (upd_ne n).trans z⟩
theorem ok_Scheme___init__ (T : Txt K mg) : FnOk P w K mg base (L2.CX P w) 5 T.f_Scheme___init__ T.d_Scheme___init__ ["self", "sorts", "parts", "values", "marks"] (spSchInit K T.C_Scheme T.C_Sort T.C_BadScheme) := by
  refine T.F_Scheme___init__.okX sc_Scheme___init__ (fun vs H Q E h => ?_) (fun cdv A outer s H vs Q E hr h => ?_)
  · obtain ⟨p, dx, aS, aP, aV, aM, sc, as, rfl, _⟩ := h
    rfl
  obtain ⟨p, dx, aS, aP, aV, aM, sc, as, rfl, hp, hS, hA, hP, hV, hM, sm, qE, q⟩ := h
  refine ⟨_, (pss_cons (ps_fld (pv 0) (pe_callTy c_tupA (by rfl) T.z_tuple (by decide +kernel) (pa_cons (pv 1) pa_nil)) rfl)
      (pss_cons (ps_fld (pv 0) (pe_callTy c_tupA (by rfl) T.z_tuple (by decide +kernel) (pa_cons (pv 2) pa_nil)) rfl)
      (pss_cons (ps_fld (pv 0) (pe_callTy c_tupA (by rfl) T.z_tuple (by decide +kernel) (pa_cons (pv 3) pa_nil)) rfl)
      (pss_cons (ps_fld (pv 0) (pe_callTy c_tupA (by rfl) T.z_tuple (by decide +kernel) (pa_cons (pv 4) pa_nil)) rfl)
      (pss_one (ps_expr (pe_meth0 (pv 0) T.c_Scheme T.mt_Scheme_inspect (ok_Scheme_inspect T) (hr.mono (by decide)) T.b_Scheme_inspect .nil (passes_call (takes_of rfl rfl rfl rfl) fun _ _ _ _ h => h)))))))), ?_⟩
  try simp only [nox_K, cx_K]
  have hA : All2 (fun a sr => a ≠ p ∧ SortAt T.C_Sort H a sr) as sc.ss := hA.imp fun a sr h => ⟨fun z => by
    subst z
    obtain ⟨dy, h⟩ := h
    rw [hp] at h
    have h := congrArg (fun o => match o with | some (HO.ins _ _ fs) => fs.length | _ => 0) h
    have e : (srtF sr).length = 4 := rfl
    exact Nat.noConfusion (show (0 : Nat) = 4 from h.trans e), h⟩
  wtm_at "rd"
  refine r_tupA hS fun tS H1 hS1 s1 => ?_
  have hp := s1 _ _ hp
  have hP := hP.same s1
  have hV := hV.same s1
  have hM := hM.same s1
  have hA : All2 (fun a sr => a ≠ p ∧ SortAt T.C_Sort H1 a sr) as sc.ss := hA.imp fun a sr h => ⟨h.1, h.2.same s1⟩
  wtm_at "rd"
  refine r_put hp T.c_Scheme T.nf_Scheme_sorts (by decide) ?_
  have hS1 := sqt_put (o := .ins T.C_Scheme dx (putF "sorts" (.ref tS) [])) hp hS1
  have hP := sqa_put (o := .ins T.C_Scheme dx (putF "sorts" (.ref tS) [])) hp hP
  have hV := sqa_put (o := .ins T.C_Scheme dx (putF "sorts" (.ref tS) [])) hp hV
  have hM := sqa_put (o := .ins T.C_Scheme dx (putF "sorts" (.ref tS) [])) hp hM
  have hA : All2 (fun a sr => a ≠ p ∧ SortAt T.C_Sort (upd H1 p (.ins T.C_Scheme dx (putF "sorts" (.ref tS) []))) a sr) as sc.ss := hA.imp fun a sr h => ⟨h.1, sort_put hp h.1 h.2⟩
  have k1 : ∀ b o, H b = some o → b ≠ p → (upd H1 p (.ins T.C_Scheme dx (putF "sorts" (.ref tS) []))) b = some o := fun b o e nb => (upd_ne nb).trans (s1 _ _ e)
  have hp1 : (upd H1 p (.ins T.C_Scheme dx (putF "sorts" (.ref tS) []))) p = some (.ins T.C_Scheme dx (putF "sorts" (.ref tS) [])) := upd_same
  clear hp
  revert hS1 hP hV hM hA k1 hp1
  generalize upd H1 p (.ins T.C_Scheme dx (putF "sorts" (.ref tS) [])) = H1'
  intro hS1 hP hV hM hA k1 hp
  wtm_at "rd"
  refine r_tupA hP fun tP H2 hP s2 => ?_
  have hp := s2 _ _ hp
  have hS1 := same_tup s2 hS1
  have hV := hV.same s2
  have hM := hM.same s2
  have hA : All2 (fun a sr => a ≠ p ∧ SortAt T.C_Sort H2 a sr) as sc.ss := hA.imp fun a sr h => ⟨h.1, h.2.same s2⟩
  wtm_at "rd"
  refine r_put hp T.c_Scheme T.nf_Scheme_part_columns (Nat.lt_of_le_of_lt (putF_len _ _ _) (by decide)) ?_
  generalize hz : putF "part_columns" (V.ref tP) (putF "sorts" (.ref tS) []) = fz
  have hS1 := sqt_put (o := .ins T.C_Scheme dx fz) hp hS1
  have hP := sqt_put (o := .ins T.C_Scheme dx fz) hp hP
  have hV := sqa_put (o := .ins T.C_Scheme dx fz) hp hV
  have hM := sqa_put (o := .ins T.C_Scheme dx fz) hp hM
  have hA : All2 (fun a sr => a ≠ p ∧ SortAt T.C_Sort (upd H2 p (.ins T.C_Scheme dx fz)) a sr) as sc.ss := hA.imp fun a sr h => ⟨h.1, sort_put hp h.1 h.2⟩
  have k2 : ∀ b o, H b = some o → b ≠ p → (upd H2 p (.ins T.C_Scheme dx fz)) b = some o := fun b o e nb => (upd_ne nb).trans (s2 _ _ (k1 _ _ e nb))
  have hp2 : (upd H2 p (.ins T.C_Scheme dx fz)) p = some (.ins T.C_Scheme dx fz) := upd_same
  clear hp
  revert hS1 hP hV hM hA k2 hp2
  generalize upd H2 p (.ins T.C_Scheme dx fz) = H2'
  intro hS1 hP hV hM hA k2 hp
  wtm_at "rd"
  refine r_tupA hV fun tV H3 hV s3 => ?_
  have hp := s3 _ _ hp
  have hS1 := same_tup s3 hS1
  have hP := same_tup s3 hP
  have hM := hM.same s3
  have hA : All2 (fun a sr => a ≠ p ∧ SortAt T.C_Sort H3 a sr) as sc.ss := hA.imp fun a sr h => ⟨h.1, h.2.same s3⟩
  wtm_at "rd"
  refine r_put hp T.c_Scheme T.nf_Scheme_value_columns (by rw [← hz]; exact Nat.lt_of_le_of_lt (putF_len _ _ _) (Nat.lt_of_le_of_lt (Nat.succ_le_succ (putF_len _ _ _)) (by decide))) ?_
  generalize hy : putF "value_columns" (V.ref tV) fz = fy
  have hS1 := sqt_put (o := .ins T.C_Scheme dx fy) hp hS1
  have hP := sqt_put (o := .ins T.C_Scheme dx fy) hp hP
  have hV := sqt_put (o := .ins T.C_Scheme dx fy) hp hV
  have hM := sqa_put (o := .ins T.C_Scheme dx fy) hp hM
  have hA : All2 (fun a sr => a ≠ p ∧ SortAt T.C_Sort (upd H3 p (.ins T.C_Scheme dx fy)) a sr) as sc.ss := hA.imp fun a sr h => ⟨h.1, sort_put hp h.1 h.2⟩
  have k3 : ∀ b o, H b = some o → b ≠ p → (upd H3 p (.ins T.C_Scheme dx fy)) b = some o := fun b o e nb => (upd_ne nb).trans (s3 _ _ (k2 _ _ e nb))
  have hp3 : (upd H3 p (.ins T.C_Scheme dx fy)) p = some (.ins T.C_Scheme dx fy) := upd_same
  clear hp
  revert hS1 hP hV hM hA k3 hp3
  generalize upd H3 p (.ins T.C_Scheme dx fy) = H3'
  intro hS1 hP hV hM hA k3 hp
  wtm_at "rd"
  refine r_tupA hM fun tM H4 hM s4 => ?_
  have hp := s4 _ _ hp
  have hS1 := same_tup s4 hS1
  have hP := same_tup s4 hP
  have hV := same_tup s4 hV
  have hA : All2 (fun a sr => a ≠ p ∧ SortAt T.C_Sort H4 a sr) as sc.ss := hA.imp fun a sr h => ⟨h.1, h.2.same s4⟩
  wtm_at "rd"
  refine r_put hp T.c_Scheme T.nf_Scheme_mark_columns (by rw [← hy, ← hz]; exact Nat.lt_of_le_of_lt (putF_len _ _ _) (Nat.lt_of_le_of_lt (Nat.succ_le_succ (putF_len _ _ _)) (Nat.lt_of_le_of_lt (Nat.succ_le_succ (Nat.succ_le_succ (putF_len _ _ _))) (by decide)))) ?_
  have hx : putF "mark_columns" (V.ref tM) fy = schF tS tP tV tM := by rw [← hy, ← hz]; try rfl
  rw [hx]
  have hS1 := sqt_put (o := .ins T.C_Scheme dx (schF tS tP tV tM)) hp hS1
  have hP := sqt_put (o := .ins T.C_Scheme dx (schF tS tP tV tM)) hp hP
  have hV := sqt_put (o := .ins T.C_Scheme dx (schF tS tP tV tM)) hp hV
  have hM := sqt_put (o := .ins T.C_Scheme dx (schF tS tP tV tM)) hp hM
  have hA : All2 (SortAt T.C_Sort (upd H4 p (.ins T.C_Scheme dx (schF tS tP tV tM)))) as sc.ss := hA.imp fun a sr h => sort_put hp h.1 h.2
  have k4 : ∀ b o, H b = some o → b ≠ p → (upd H4 p (.ins T.C_Scheme dx (schF tS tP tV tM))) b = some o := fun b o e nb => (upd_ne nb).trans (s4 _ _ (k3 _ _ e nb))
  have o : SchAt K T.C_Scheme T.C_Sort (upd H4 p (.ins T.C_Scheme dx (schF tS tP tV tM))) p sc := ⟨dx, tS, tP, tV, tM, as, upd_same, hS1, hA, hP, hV, hM⟩
  have free : ∀ d, (upd H4 p (.ins T.C_Scheme dx (schF tS tP tV tM))) d = none → H d = none := fun d hd => by
    cases hh : H d with
    | none => rfl
    | some x =>
      by_cases c : d = p
      · subst c
        rw [upd_same] at hd
        cases hd
      · rw [k4 d x hh c] at hd
        cases hd
  revert o k4 free
  generalize upd H4 p (.ins T.C_Scheme dx (schF tS tP tV tM)) = H5
  intro k4 o free
  wtm_at "rd"
  refine sch_who o (by decide +kernel) (by decide +kernel) (by decide +kernel) (by decide +kernel) ?_
  wtm_at "rd"
  refine ⟨p, sc, rfl, o, sm, fun w hw d H' nd hd s' => ?_, fun hb H' s' => ?_⟩
  · exact qE w hw d H' (free d nd) hd fun b o e nb => s' _ _ (k4 b o e nb)
  · wtm_at "rd"
    exact q hb H' (o.same s') fun b o e nb => s' _ _ (k4 b o e nb)

end

theorem strs_dr {H : Hp} {d c r a : Addr} {ws : List Str} (D : Drw H d c r) (h : H a = some (.lst (ws.map V.str))) : a ≠ d ∧ a ≠ r := by
  obtain ⟨_, _, _, ns, rs, t, h1, h2, h3, hl, hp, _⟩ := D
  refine ⟨ne_of h h1 fun z => ?_, ne_of h h3 fun z => ?_⟩
  · have z := HO.lst.inj z
    cases ws with
    | nil => cases z
    | cons w ws => cases z
  · have z := HO.lst.inj z
    cases ws with
    | nil =>
      cases rs with
      | nil => rw [hl] at hp; exact absurd hp (Nat.lt_irrefl 0)
      | cons x rs => cases z
    | cons w ws =>
      cases rs with
      | nil => cases z
      | cons x rs => cases z
def spName : Sp := fun vs H Q _ => ∃ (d c r tk : Addr) (ts : List Str), vs = [.ref d, .ref tk] ∧ Drw H d c r ∧ H tk = some (.lst (ts.map V.str)) ∧ ts.length ≤ 20 ∧
  ∀ (w : Str) (H' : Hp), isNameB w = true → ¬ w ∈ ts → Drw H' d c r → Ext d r H H' → Q (.str w) H'
/-- all but the draws and one list stay -/
def ExtT (d r t : Addr) (H H' : Hp) : Prop := ∀ b o, H b = some o → b ≠ d → b ≠ r → b ≠ t → H' b = some o
theorem letters_at {k : Int} (h0 : 0 ≤ k) (h1 : k < 26) : atI lettersT.cps.toList k = some (97 + k.toNat) := by
  have e : lettersT.cps.toList = (List.range 26).map (97 + ·) := by decide +kernel
  have z : atI lettersT.cps.toList (k.toNat : Int) = some (97 + k.toNat) := atI_nat (by rw [e, List.getElem?_map, List.getElem?_range (by omega)]; try rfl)
  rw [Int.toNat_of_nonneg h0] at z
  exact z
theorem cut_butlast {xs : List V} : cutV xs none (some (-1)) = xs.dropLast := by
  unfold cutV
  rw [HT.sIx_none, List.drop_zero, Nat.sub_zero]
  have e : HT.sIx xs.length xs.length (some (-1)) = xs.length - 1 := by
    show (if ((-1 : Int)) < 0 then ((-1 : Int) + (xs.length : Int)).toNat else min (-1 : Int).toNat xs.length) = _
    rw [if_pos (by decide)]
    omega
  rw [e, List.dropLast_eq_take]
def letCode (v : V) : V := match v with
  | .int k => .str (SX.S [97 + k.toNat])
  | w => w

theorem ext_put {d r t : Addr} {H H1 : Hp} {o' : HO} (E : Ext d r H H1) (n : H t = none) : Ext d r H (upd H1 t o') := fun b o e n1 n2 => (upd_ne (ne_of_none e n)).trans (E b o e n1 n2)

def spNames2 : Sp := fun vs H Q _ => ∃ (d c r tk : Addr) (ts : List Str) (n : Nat), vs = [.ref d, .ref tk, .int n] ∧ Drw H d c r ∧ H tk = some (.lst (ts.map V.str)) ∧ ts.length + n ≤ 20 ∧
  ∀ (l : Addr) (ws : List Str) (H' : Hp), H l = none → ws.length = n → (∀ w ∈ ws, isNameB w = true) → ws.Nodup → (∀ w ∈ ws, ¬ w ∈ ts) → H' l = some (.lst (ws.map V.str)) → Drw H' d c r → Ext d r H H' → Q (.ref l) H'
/-- [e for x in xs], e draws: items of any kind -/
theorem lc_drawsL {σ : L2.St} {H : Hp} {Q : VK} {te : TE} {n : Nat} {K : PySem.W.Frag} {a : Addr} {xs : List V} {d c r : Addr} {P : V → Prop} (hS : H a = some (.lst xs)) (ad : a ≠ d) (ar : a ≠ r) (hm : xs.length ≤ 1000) (D0 : Drw H d c r)
    (he : ∀ (i : Nat) (x : V) (H' : Hp) (QQ : VK), xs[i]? = some x → Drw H' d c r → Ext d r H H' → (∀ (v : V) (H'' : Hp), P v → Drw H'' d c r → Ext d r H' H'' → QQ v H'') → te ((wipe σ [n]).set n (some x)) H' QQ)
    (hq : ∀ (l : Addr) (ss : List V) (H' : Hp), ss.length = xs.length → (∀ x ∈ ss, P x) → H l = none → H' l = some (.lst ss) → Drw H' d c r → Ext d r H H' → Q (.ref l) H') : lcGo (Itl K a) (gName n) tYes te [n] σ Q H := by
  intro l nl
  have ld := D0.ned nl
  have lr := D0.ner nl
  have lc := D0.nec nl
  refine lc_list (K := K) (a := a) (xs := xs) (fun i H' => ∃ ss : List V, ss.length = i ∧ (∀ x ∈ ss, P x) ∧ H' l = some (.lst ss) ∧ Drw H' d c r ∧ Ext d r H H') ⟨[], rfl, fun x hx => (nomatch hx), upd_same, D0.new nl, Ext.of (same_new nl)⟩ (fun i H' _ ⟨_, _, _, _, _, E⟩ => SqL.of (E _ _ hS ad ar)) ?_ ?_
  · rintro i v H' hi ⟨ss, hl, hp, hs, D1, E1⟩
    have il := (List.getElem?_eq_some_iff.mp hi).1
    refine ⟨wipe1, ?_⟩
    show te _ _ _
    refine he i v H' _ hi D1 E1 fun k H'' hk D2 E2 => ⟨ss, E2 _ _ hs ld lr, small1000 (by omega), ?_⟩
    refine ⟨ss ++ [k], by rw [List.length_append, hl]; try rfl, fun x hx => ?_, upd_same, D2.put ld lr lc, fun b o e n1 n2 => ?_⟩
    · rcases List.mem_append.mp hx with z | z
      · exact hp x z
      · rw [List.mem_singleton.mp z]; exact hk
    · rw [upd_ne (ne_of_none e nl)]
      exact E2 b o (E1 b o e n1 n2) n1 n2
  · rintro H' ⟨ss, hl, hp, hs, D1, E1⟩
    exact hq l ss H' hl hp nl hs D1 E1
section
variable {P : Program} {w : World} {K : PySem.W.Frag} {mg : Str → Option Value} {base : Heap}

theorem ok__law_name (T : Txt K mg) : FnOk P w K mg base CX0 2 T.f__law_name T.d__law_name ["_law_draws", "_law_taken"] spName := by
  refine T.F__law_name.ok sc__law_name (fun vs H Q E h => ?_) (fun cdv A outer s H vs Q E hr h => ?_)
  · obtain ⟨d, c, r, tk, tS, rfl, _⟩ := h
    rfl
  obtain ⟨d, c, r, tk, tS, rfl, D, htk, hl, q⟩ := h
  refine ⟨_, (pss_cons (ps_set (i := 2) sc__law_name.nd rfl (by first | exact Or.inl rfl | exact Or.inr rfl) pe_str)
      (pss_cons (ps_set (i := 3) sc__law_name.nd rfl (by first | exact Or.inl rfl | exact Or.inr rfl) (pe_lst (pa_cons pe_str (pa_cons pe_str (pa_cons pe_str (pa_cons pe_str (pa_cons pe_str (pa_cons pe_str (pa_cons pe_str (pa_cons pe_str (pa_cons pe_str (pa_cons pe_str (pa_cons pe_str (pa_cons pe_str pa_nil))))))))))))))
      (pss_cons (ps_setLc (i := 4) (own := [("_law_k", 8)]) (g := gName 8) (tt := tYes) rfl sc__law_name.nd rfl rfl (sw_true rfl rfl rfl (by decide +kernel)) (pi_range1 (by rfl) T.z_range (pa_cons (pe_op op_add pe_int (pe_call (ok__law_draw T) (hr.mono (by decide)) (by rfl) T.g__law_draw T.F__law_draw.kp T.b__law_draw .nil pass0 (pa_cons (pv 0) (pa_cons pe_int pa_nil)))) pa_nil)) (blkOk_by (N := ["_law_draws", "_law_taken", "_law_letters", "_law_words", "_law_spots", "_law_step", "_law_last", "_law_word", "_law_k", "_law_spot"]) (sc := defScope s__law_name) (by decide +kernel)) (fun _ _ _ _ _ => pg_name (i := 8) sc__law_name.nd rfl (by first | exact Or.inl rfl | exact Or.inr rfl)) (fun _ _ _ _ _ => pts_nil) (fun _ _ _ _ _ => (pe_call (ok__law_draw T) (hr.mono (by decide)) (by rfl) T.g__law_draw T.F__law_draw.kp T.b__law_draw .nil pass0 (pa_cons (pv 0) (pa_cons pe_int pa_nil)))))
      (pss_cons (ps_for PassesOwn.never rfl (pi_range1 (by rfl) T.z_range (pa_cons pe_int pa_nil)) (pg_name (i := 5) sc__law_name.nd rfl (by first | exact Or.inl rfl | exact Or.inr rfl)) (pss_cons (ps_set (i := 6) sc__law_name.nd rfl (by first | exact Or.inl rfl | exact Or.inr rfl) (pe_ix ix_str (pv 2) (pe_op op_mod (pe_callTy c_int1 (by rfl) T.z_int (by decide +kernel) (pa_cons (pe_op op_add (pe_ix (r := rIxL K) ix_list (pv 4) (pe_un un_neg pe_int) (fun _ _ => rfl)) (pv 5)) pa_nil)) pe_int) (fun _ _ => rfl)))
      (pss_cons (ps_set (i := 7) sc__law_name.nd rfl (by first | exact Or.inl rfl | exact Or.inr rfl) (pe_join pe_str (pe_op op_cat (pe_lc (own := [("_law_spot", 9)]) (g := gName 9) (tt := tYes) rfl sc__law_name.nd (pi_list (pe_slice sl_list (pv 4) po_none (po_some (pe_un un_neg pe_int)))) (blkOk_by (N := ["_law_draws", "_law_taken", "_law_letters", "_law_words", "_law_spots", "_law_step", "_law_last", "_law_word", "_law_k", "_law_spot"]) (sc := defScope s__law_name) (by decide +kernel)) (fun _ _ _ _ _ => pg_name (i := 9) sc__law_name.nd rfl (by first | exact Or.inl rfl | exact Or.inr rfl)) (fun _ _ _ _ _ => pts_nil) (fun _ _ _ _ _ => (pe_ix ix_str (pv 2) (pv 9) (fun _ _ => rfl)))) (pe_lst (pa_cons (pv 6) pa_nil)))))
      (pss_one (ps_if (PW.pt (pw_and (pt_cmpR op_notIn_seq (pv 7) (pv 3) (by rfl)) (pw_and1 (pt_cmpR op_notIn_seq (pv 7) (pv 1) (by rfl))))) (pss_one (ps_ret (pv 7))) pss_nil)))))
      (pss_one (ps_ret pe_str)))))), ?_⟩
  try simp only [nox_K, cx_K]
  have nd := strs_dr D htk
  wtm_at "rd"
  refine r_new rfl fun wl n_wl => ?_
  generalize eq_wl : upd _ wl _ = H1
  have s_wl : Same _ H1 := eq_wl ▸ same_new n_wl
  have h_wl : H1 wl = some _ := eq_wl ▸ upd_same
  clear eq_wl
  have D := D.same s_wl
  have htk := s_wl _ _ htk
  have E0 := Ext.of (d := d) (r := r) s_wl
  have h_wl : H1 wl = some (.lst (wordsS.map V.str)) := h_wl
  wtm_at "rd"
  refine ⟨d, c, r, 8, rfl, D, by decide, by decide, fun k H2 k0 k1 D2 E2 => ?_⟩
  have htk := E2 _ _ htk nd.1 nd.2
  have h_wl := E2 _ _ h_wl (strs_dr D h_wl).1 (strs_dr D h_wl).2
  have E2 := E0.trans E2
  wtm_at "rd"
  refine r_upto (by omega) (by omega) ?_
  refine lc_draws (P := fun x => 0 ≤ x ∧ x < 26) (by omega) D2 (fun i H3 QQ hi D3 E3 hQ => ?_) fun sp ss H3 ls hss nsp hsp D3 E3 => ?_
  · wtm_at "rd"
    exact ⟨d, c, r, 26, rfl, D3, by decide, by decide, fun k3 H4 l4 u4 D4 E4 => hQ _ _ ⟨l4, u4⟩ D4 E4⟩
  have htk := E3 _ _ htk nd.1 nd.2
  have h_wl := E3 _ _ h_wl (strs_dr D2 h_wl).1 (strs_dr D2 h_wl).2
  have E3 := E2.trans E3
  have hpos : 0 < ss.length := by omega
  have hlast := kAt_all hss (j := ss.length - 1) (by omega)
  have hpre : ∀ x ∈ (ss.dropLast.map fun k : Int => 97 + k.toNat), letB x = true := fun x hx => by
    obtain ⟨y, hy, rfl⟩ := List.mem_map.mp hx
    have := hss y (List.mem_of_mem_take (by rw [← List.dropLast_eq_take]; exact hy))
    exact letB_iff.mpr (by omega)
  have hprel : (ss.dropLast.map fun k : Int => 97 + k.toNat).length ≤ 7 := by
    rw [List.length_map, List.length_dropLast]
    omega
  wtm_at "rd"
  refine r_for (r_rng1 ?_)
  wtm_at "rd"
  refine r_upto (by decide) (by decide) ?_
  refine for_range (fun i σ H' => ∃ (y5 y6 y7 y8 y9 : Option V), σ = [some (.ref d), some (.ref tk), some (.str lettersT), some (.ref wl), some (.ref sp), y5, y6, y7, y8, y9] ∧ Same H3 H' ∧ ∀ j, j < i → cand (ss.dropLast.map fun k : Int => 97 + k.toNat) (kAt ss (ss.length - 1)) j ∈ wordsS ∨ cand (ss.dropLast.map fun k : Int => 97 + k.toNat) (kAt ss (ss.length - 1)) j ∈ tS) ⟨_, _, _, _, _, rfl, Same.refl _, fun j z => absurd z (Nat.not_lt_zero j)⟩ ?_ ?_
  · rintro i σ H4 hi ⟨y5, y6, y7, y8, y9, rfl, s4, hall⟩
    have hi : i < 26 := hi
    have hsp4 := s4 _ _ hsp
    have hwl4 := s4 _ _ h_wl
    have htk4 := s4 _ _ htk
    wtm_at "rd"
    refine r_ixL (SqL.of hsp4) (ati_last hpos) ?_
    wtm_at "rd"
    refine r_mod (by decide) fun m m0 m1 em => ?_
    wtm_at "rd"
    refine ⟨lettersT, m, _, rfl, rfl, Nat.le_of_lt (small1000 (by decide +kernel)), letters_at m0 m1, ?_⟩
    wtm_at "rd"
    refine ⟨⟨_, rfl⟩, ?_⟩
    wtm_at "rd"
    refine r_slL (SqL.of hsp4) fun b1 n_b1 => ?_
    rw [cut_butlast, ← List.map_dropLast]
    generalize eq_b1 : upd _ b1 _ = H5
    have s_b1 : Same _ H5 := eq_b1 ▸ same_new n_b1
    have h_b1 : H5 b1 = some _ := eq_b1 ▸ upd_same
    clear eq_b1
    have hwl4 := s_b1 _ _ hwl4
    have htk4 := s_b1 _ _ htk4
    have s4 := s4.trans s_b1
    refine r_itl (SqL.of h_b1) ?_
    refine lc_map letCode (SqL.of h_b1) (by rw [List.length_map, List.length_dropLast]; omega) (fun v H' QQ hv _ hQ => ?_) fun b2 n_b2 => ?_
    · obtain ⟨y, hy, rfl⟩ := List.mem_map.mp hv
      have hy := hss y (List.mem_of_mem_take (by rw [← List.dropLast_eq_take]; exact hy))
      wtm_at "rd"
      exact ⟨lettersT, y, _, rfl, rfl, Nat.le_of_lt (small1000 (by decide +kernel)), letters_at hy.1 hy.2, hQ⟩
    have em2 : (ss.dropLast.map V.int).map letCode = ((ss.dropLast.map fun k : Int => 97 + k.toNat).map fun c => SX.S [c]).map V.str := by
      rw [List.map_map, List.map_map, List.map_map]
      rfl
    rw [em2]
    generalize eq_b2 : upd _ b2 _ = H6
    have s_b2 : Same _ H6 := eq_b2 ▸ same_new n_b2
    have h_b2 : H6 b2 = some _ := eq_b2 ▸ upd_same
    clear eq_b2
    have hwl4 := s_b2 _ _ hwl4
    have htk4 := s_b2 _ _ htk4
    have s4 := s4.trans s_b2
    wtm_at "rd"
    refine r_new rfl fun b3 n_b3 => ?_
    generalize eq_b3 : upd _ b3 _ = H7
    have s_b3 : Same _ H7 := eq_b3 ▸ same_new n_b3
    have h_b3 : H7 b3 = some _ := eq_b3 ▸ upd_same
    clear eq_b3
    have hwl4 := s_b3 _ _ hwl4
    have htk4 := s_b3 _ _ htk4
    have h_b2 := s_b3 _ _ h_b2
    have s4 := s4.trans s_b3
    refine ⟨b2, b3, _, _, rfl, rfl, h_b2, h_b3, Nat.le_of_lt (small1000 (by rw [List.length_map, List.length_map]; show _ + 1 ≤ 1000; omega)), fun b4 n_b4 => ?_⟩
    generalize eq_b4 : upd _ b4 _ = H8
    have s_b4 : Same _ H8 := eq_b4 ▸ same_new n_b4
    have h_b4 : H8 b4 = some _ := eq_b4 ▸ upd_same
    clear eq_b4
    have hwl4 := s_b4 _ _ hwl4
    have htk4 := s_b4 _ _ htk4
    have s4 := s4.trans s_b4
    have h_b4 : H8 b4 = some (.lst ((((ss.dropLast.map fun k : Int => 97 + k.toNat) ++ [97 + m.toNat]).map fun c => SX.S [c]).map V.str)) := by
      rw [h_b4, List.map_append, List.map_append]
      rfl
    refine ⟨_, b4, _, rfl, rfl, .inl (SqL.of h_b4), ?_, ?_⟩
    · rw [sum_ones (ys := ((ss.dropLast.map fun k : Int => 97 + k.toNat) ++ [97 + m.toNat]).map fun c => SX.S [c]) fun y hy => by obtain ⟨x, _, rfl⟩ := List.mem_map.mp hy; rfl]
      rw [List.length_map, List.length_append]
      show _ + 1 + (_ + 1) * 0 ≤ 16777216
      omega
    rw [TL.join_eq, join_ones, show (SX.S ((ss.dropLast.map fun k : Int => 97 + k.toNat) ++ [97 + m.toNat])) = cand (ss.dropLast.map fun k : Int => 97 + k.toNat) (kAt ss (ss.length - 1)) i by rw [cand, em, Int.zero_add]]
    wtm_at "rd"
    refine r_inL (SqL.of hwl4) rfl (flat_strsV _) ?_
    show ∃ k, V.bl (!inV _ (wordsS.map V.str)) = .bl k ∧ _
    rw [inV_strs]
    wtm_at "rd"
    refine r_iten (fun e1 => ?_) (fun e1 => ?_)
    · wtm_at "rd"
      refine r_inL (SqL.of htk4) rfl (flat_strsV _) ?_
      show ∃ k, V.bl (!inV _ (tS.map V.str)) = .bl k ∧ _
      rw [inV_strs]
      wtm_at "rd"
      refine r_iten (fun e2 => ?_) (fun e2 => ?_)
      · wtm_at "rd"
        exact q _ _ (cand_name hpre hprel e1) e2 (D3.same s4) (E3.trans (Ext.of s4))
      · wtm_at "rd"
        refine ⟨_, _, _, _, _, rfl, s4, fun j hj => ?_⟩
        obtain z | z : j < i ∨ j = i := by omega
        · exact hall j z
        · rw [z]; exact .inr e2
    · wtm_at "rdi"
      refine ⟨_, _, _, _, _, rfl, s4, fun j hj => ?_⟩
      obtain z | z : j < i ∨ j = i := by omega
      · exact hall j z
      · rw [z]; exact .inl e1
  · rintro σ H4 ⟨y5, y6, y7, y8, y9, rfl, s4, hall⟩
    exact (cand_free hl hall).elim

theorem ok__law_names (T : Txt K mg) : FnOk P w K mg base CX0 3 T.f__law_names T.d__law_names ["_law_draws", "_law_taken", "_law_many"] spNames2 := by
  refine T.F__law_names.ok sc__law_names (fun vs H Q E h => ?_) (fun cdv A outer s H vs Q E hr h => ?_)
  · obtain ⟨d, c, r, tk, tS, n, rfl, _⟩ := h
    rfl
  obtain ⟨d, c, r, tk, tS, n, rfl, D, htk, hl, q⟩ := h
  refine ⟨_, (pss_cons (ps_set (i := 3) sc__law_names.nd rfl (by first | exact Or.inl rfl | exact Or.inr rfl) (pe_lst pa_nil))
      (pss_cons (ps_for PassesOwn.never rfl (pi_range1 (by rfl) T.z_range (pa_cons (pv 2) pa_nil)) (pg_name (i := 4) sc__law_names.nd rfl (by first | exact Or.inl rfl | exact Or.inr rfl)) (pss_one (ps_expr (pe_bm PySem.F.plainAttrs_list PySem.F.slot_list_append PySem.F.type_list_append mt_append (pv 3) (pa_cons (pe_call (ok__law_name T) (hr.mono (by decide)) (by rfl) T.g__law_name T.F__law_name.kp T.b__law_name .nil pass0 (pa_cons (pv 0) (pa_cons (pe_op op_cat (pv 1) (pv 3)) pa_nil))) pa_nil)))))
      (pss_one (ps_ret (pv 3))))), ?_⟩
  try simp only [nox_K, cx_K]
  have nd := strs_dr D htk
  wtm_at "rd"
  refine r_new rfl fun l nl => ?_
  have ld := D.ned nl
  have lr := D.ner nl
  have lc := D.nec nl
  wtm_at "rd"
  refine r_for (r_rng1 ?_)
  wtm_at "rd"
  refine r_upto (by omega) (by omega) ?_
  refine for_range (fun i σ H' => ∃ (y4 : Option V) (ws : List Str), σ = [some (.ref d), some (.ref tk), some (.int n), some (.ref l), y4] ∧ Drw H' d c r ∧ H' l = some (.lst (ws.map V.str)) ∧ ws.length = i ∧ (∀ w ∈ ws, isNameB w = true) ∧ ws.Nodup ∧ (∀ w ∈ ws, ¬ w ∈ tS) ∧ Ext d r H H') ⟨_, [], rfl, D.new nl, upd_same, rfl, fun w z => (nomatch z), List.nodup_nil, fun w z => (nomatch z), Ext.of (same_new nl)⟩ ?_ ?_
  · rintro i σ H1 hi ⟨y4, ws, rfl, D1, hl1, lw, hw, hnd, hnt, E1⟩
    have hi : i < n := by omega
    have ht1 := E1 _ _ htk nd.1 nd.2
    wtm_at "rd"
    refine r_tyL (SqL.of hl1) ?_
    wtm_at "rd"
    refine ⟨tk, l, _, _, rfl, rfl, ht1, hl1, Nat.le_of_lt (small1000 (by rw [List.length_map, List.length_map]; omega)), fun b n_b => ?_⟩
    generalize eq_b : upd _ b _ = H2
    have s_b : Same _ H2 := eq_b ▸ same_new n_b
    have h_b : H2 b = some _ := eq_b ▸ upd_same
    clear eq_b
    have D1 := D1.same s_b
    have E1 := E1.trans (Ext.of s_b)
    have hl1 := s_b _ _ hl1
    have h_b : H2 b = some (.lst ((tS ++ ws).map V.str)) := by rw [h_b, List.map_append]
    wtm_at "rd"
    refine ⟨d, c, r, b, tS ++ ws, rfl, D1, h_b, by rw [List.length_append]; omega, fun w H3 hw2 hn2 D3 E3 => ?_⟩
    have hl3 := E3 _ _ hl1 ld lr
    have E3 := E1.trans E3
    wtm_at "rd"
    refine r_app hl3 (small1000 (by rw [List.length_map]; omega)) ?_
    wtm_at "rd"
    refine ⟨_, ws ++ [w], rfl, D3.put ld lr lc, by rw [upd_same, List.map_append]; try rfl, by rw [List.length_append, lw]; try rfl, fun y hy => ?_, ?_, fun y hy => ?_, ext_put E3 nl⟩
    · rcases List.mem_append.mp hy with c | c
      · exact hw y c
      · rw [List.mem_singleton.mp c]; exact hw2
    · refine List.nodup_append.mpr ⟨hnd, (by simp), fun a ha b hb => ?_⟩
      rw [List.mem_singleton.mp hb]
      intro e
      exact hn2 (List.mem_append.mpr (.inr (e ▸ ha)))
    · rcases List.mem_append.mp hy with c | c
      · exact hnt y c
      · rw [List.mem_singleton.mp c]
        exact fun z => hn2 (List.mem_append.mpr (.inl z))
  · rintro σ H1 ⟨y4, ws, rfl, D1, hl1, lw, hw, hnd, hnt, E1⟩
    wtm_at "rd"
    exact q l ws H1 nl (by omega) hw hnd hnt hl1 D1 E1

end

def srtV (s : Srt) : List V := [.str s.nm, .str s.ky, partV s.pt, .bl s.ds]
structure SpecAt (H : Hp) (p : Addr) (sc : Sch) : Prop where
  ex : ∃ aS aP aV aM ts, H p = some (.lst [.ref aS, .ref aP, .ref aV, .ref aM]) ∧ H aS = some (.lst (ts.map V.ref)) ∧ All2 (fun t s => H t = some (.tup (srtV s))) ts sc.ss ∧ H aP = some (.lst (sc.ps.map V.str)) ∧ H aV = some (.lst (sc.vs.map V.str)) ∧ H aM = some (.lst (sc.ms.map V.str))
structure Sch.good (s : Sch) : Prop where
  w : ∀ z ∈ s.names ++ s.cols, isNameB z = true
  n1 : s.names.Nodup
  n2 : s.cols.Nodup
  pt : ∀ x ∈ s.ss, ∀ z, x.pt = some z → z ∈ s.ps
  l0 : 1 ≤ s.ss.length
  l1 : s.ss.length ≤ 3
  l2 : s.ps.length ≤ 2
  l3 : s.vs.length ≤ 3
  l4 : s.ms.length ≤ 3
theorem Sch.good.not_bad {s : Sch} (h : s.good) : s.bad = none := by
  have b1 : badWord (s.names ++ s.cols) = none := List.find?_eq_none.mpr fun y hy => by rw [h.w y hy]; exact Bool.false_ne_true
  have b2 : dblFrom [] s.names = none := dbl_none h.n1
  have b3 : dblFrom [] s.cols = none := dbl_none h.n2
  have b4 : badPart s.ps s.ss = none := by
    unfold badPart
    rw [List.find?_eq_none.mpr fun y hy => by
      unfold partBad
      cases hp : y.pt with
      | none => exact Bool.false_ne_true
      | some z =>
        show ¬ (!decide (z ∈ s.ps)) = true
        rw [decide_eq_true (h.pt y hy z hp)]
        exact Bool.false_ne_true]
    rfl
  unfold Sch.bad
  rw [b1, b2, b3, b4]
  rfl
theorem Sch.good.small {s : Sch} (h : s.good) : s.small := ⟨Nat.le_trans h.l1 (by decide), Nat.le_trans h.l2 (by decide), Nat.le_trans h.l3 (by decide), Nat.le_trans h.l4 (by decide), fun z hz => Nat.le_trans (isName_len (h.w z hz)).1 (by decide)⟩
def spSpec : Sp := fun vs H Q _ => ∃ (d c r : Addr) (m : Int), vs = [.ref d, .int m] ∧ Drw H d c r ∧ 1 ≤ m ∧ m ≤ 3 ∧ ∀ (p : Addr) (sc : Sch) (H' : Hp), sc.good → SpecAt H' p sc → Drw H' d c r → Ext d r H H' → Q (.ref p) H'
theorem at_lastS {ws : List Str} {w : Str} : atI ((ws ++ [w]).map V.str) (-1) = some (.str w) := by
  unfold atI ixN
  rw [if_neg (by decide), if_pos (by rw [List.length_map, List.length_append, List.length_singleton]; omega)]
  show ((ws ++ [w]).map V.str)[((-1 : Int) + (((ws ++ [w]).map V.str).length : Nat)).toNat]? = _
  rw [List.length_map, List.length_append, show ((-1 : Int) + ((ws.length + [w].length : Nat) : Int)).toNat = ws.length by show ((-1 : Int) + ((ws.length + 1 : Nat) : Int)).toNat = _; omega, List.getElem?_map, List.getElem?_append_right (Nat.le_refl _), Nat.sub_self]
  rfl
theorem at_hall {ps : List Str} {k : Int} (h0 : 0 ≤ k) (h1 : k < ps.length + 1) : ∃ pt : Option Str, atI (V.non :: ps.map V.str) k = some (partV pt) ∧ ∀ z, pt = some z → z ∈ ps := by
  by_cases c : k = 0
  · subst c
    exact ⟨none, atI_nat (j := 0) rfl, fun z h => nomatch h⟩
  · have hk : k.toNat - 1 < ps.length := by omega
    have e : atI (V.non :: ps.map V.str) ((k.toNat - 1 + 1 : Nat) : Int) = some (.str ps[k.toNat - 1]) := atI_nat (by rw [List.getElem?_cons_succ, List.getElem?_map, List.getElem?_eq_getElem hk]; try rfl)
    rw [show ((k.toNat - 1 + 1 : Nat) : Int) = k by omega] at e
    exact ⟨some ps[k.toNat - 1], e, fun z h => by cases h; exact List.getElem_mem hk⟩
theorem tup_dr {H : Hp} {d c r a : Addr} {xs : List V} (D : Drw H d c r) (h : H a = some (.tup xs)) : a ≠ d ∧ a ≠ r := by
  obtain ⟨_, _, _, ns, rs, t, h1, h2, h3, _⟩ := D
  exact ⟨ne_of h h1 (fun z => nomatch z), ne_of h h3 (fun z => nomatch z)⟩
theorem ext_T {d r t : Addr} {H H1 H2 : Hp} (E : Ext d r H H1) (F : ExtT d r t H1 H2) (n : H t = none) : Ext d r H H2 := fun b o e n1 n2 => F b o (E b o e n1 n2) n1 n2 (ne_of_none e n)
theorem bools_of : ∀ {ss : List V}, (∀ x ∈ ss, ∃ b : Bool, x = .bl b) → ∃ bs : List Bool, ss = bs.map V.bl
  | [], _ => ⟨[], rfl⟩
  | x :: ss, h => by
    obtain ⟨bs, e⟩ := bools_of (ss := ss) fun z hz => h z (List.mem_cons_of_mem _ hz)
    obtain ⟨b, rfl⟩ := h x List.mem_cons_self
    exact ⟨b :: bs, by rw [e]; try rfl⟩
theorem halls_of {ps : List Str} : ∀ {ss : List V}, (∀ x ∈ ss, ∃ pt : Option Str, x = partV pt ∧ ∀ z, pt = some z → z ∈ ps) → ∃ ts : List (Option Str), ss = ts.map partV ∧ ∀ t ∈ ts, ∀ z, t = some z → z ∈ ps
  | [], _ => ⟨[], rfl, fun _ h => nomatch h⟩
  | x :: ss, h => by
    obtain ⟨ts, e, ht⟩ := halls_of (ss := ss) fun z hz => h z (List.mem_cons_of_mem _ hz)
    obtain ⟨t, rfl, h1⟩ := h x List.mem_cons_self
    refine ⟨t :: ts, by rw [e]; try rfl, fun y hy => ?_⟩
    rcases List.mem_cons.mp hy with rfl | hy
    · exact h1
    · exact ht y hy
/-- the sorts out of four lists -/
def sortsOf (ns ks : List Str) (hs : List (Option Str)) (fs : List Bool) : List Srt := (List.range ks.length).map fun j => ⟨ns.getD j "", ks.getD j "", hs.getD j none, fs.getD j false⟩
theorem sorts_map {α : Type} (f : Srt → α) (l : List α) (d : α) {ns ks : List Str} {hs : List (Option Str)} {fs : List Bool} (hl : l.length = ks.length) (hf : ∀ j, f ⟨ns.getD j "", ks.getD j "", hs.getD j none, fs.getD j false⟩ = l.getD j d) : (sortsOf ns ks hs fs).map f = l := by
  refine List.ext_getElem? fun j => ?_
  rw [sortsOf, List.map_map, List.getElem?_map]
  by_cases c : j < ks.length
  · rw [List.getElem?_range c]
    show some (f _) = _
    rw [hf j, List.getD_eq_getElem?_getD, List.getElem?_eq_getElem (by omega)]
    rfl
  · rw [List.getElem?_eq_none (by rw [List.length_range]; omega), List.getElem?_eq_none (by omega)]
    rfl
theorem at_map {α : Type} {g : α → V} {ws : List α} {d : α} {j : Nat} (h : j < ws.length) : atI (ws.map g) ((j : Nat) : Int) = some (g (ws.getD j d)) := atI_nat (by rw [List.getElem?_map, List.getElem?_eq_getElem h, List.getD_eq_getElem?_getD, List.getElem?_eq_getElem h]; try rfl)
section
variable {σ : L2.St} {H : Hp} {Q : VK} {te : TE} {K : PySem.W.Frag} {a b : Addr} {xs ys : List V}
/-- [e for x in range(..)], e a new tuple by the number -/
theorem lc_tupsR {n m : Nat} {lo : Int} (f : Nat → List V) (hm : m ≤ 1000) (he : ∀ (i : Nat) (H' : Hp) (QQ : VK), i < m → Same H H' → (∀ u H'', H' u = none → H'' u = some (.tup (f i)) → Same H' H'' → QQ (.ref u) H'') → te ((wipe σ [n]).set n (some (.int (lo + i)))) H' QQ)
    (hq : ∀ D (us : List Addr) H', H D = none → us.length = m → H' D = some (.lst (us.map V.ref)) → (∀ (j : Nat) (u : Addr), us[j]? = some u → H' u = some (.tup (f j))) → Same H H' → Q (.ref D) H') : lcGo (Itr lo m) (gName n) tYes te [n] σ Q H := by
  intro D nD
  refine lc_range (fun i H' => ∃ us : List Addr, us.length = i ∧ H' D = some (.lst (us.map V.ref)) ∧ (∀ (j : Nat) (u : Addr), us[j]? = some u → H' u = some (.tup (f j))) ∧ Same H H') ⟨[], rfl, upd_same, fun j u h => (by cases h), same_new nD⟩ ?_ ?_
  · rintro i H4 hi ⟨us, hl, hD4, hu, s4⟩
    refine ⟨wipe1, ?_⟩
    show te _ _ _
    refine he i H4 _ hi s4 fun u H5 nu hu5 s5 => ?_
    have hD5 := s5 _ _ hD4
    refine ⟨_, hD5, small1000 (by rw [List.length_map, hl]; omega), us ++ [u], by rw [List.length_append, hl]; try rfl, by rw [upd_same, List.map_append]; try rfl, fun j v h1 => ?_, fun b o e => (upd_ne (ne_of_none e nD)).trans (s5 _ _ (s4 _ _ e))⟩
    rcases Nat.lt_or_ge j us.length with hj | hj
    · rw [List.getElem?_append_left hj] at h1
      have z := s5 _ _ (hu j v h1)
      exact (upd_ne (ne_of z hD5 fun q => nomatch q)).trans z
    · rw [List.getElem?_append_right hj] at h1
      cases hk : j - us.length with
      | zero =>
        rw [hk] at h1
        cases h1
        rw [show j = i by omega]
        exact (upd_ne (ne_of hu5 hD5 fun q => nomatch q)).trans hu5
      | succ m => rw [hk] at h1; cases h1
  · rintro H4 ⟨us, hl, hD4, hu, s4⟩
    exact hq D us H4 nD hl hD4 hu s4
end
section
variable {P : Program} {w : World} {K : PySem.W.Frag} {mg : Str → Option Value} {base : Heap}

theorem ok__law_spec (T : Txt K mg) : FnOk P w K mg base CX0 4 T.f__law_spec T.d__law_spec ["_law_draws", "_law_most"] spSpec := by
  refine T.F__law_spec.ok sc__law_spec (fun vs H Q E h => ?_) (fun cdv A outer s H vs Q E hr h => ?_)
  · obtain ⟨d, c, r, mm, rfl, _⟩ := h
    rfl
  obtain ⟨d, c, r, mm, rfl, D, m1, m3, q⟩ := h
  refine ⟨_, (pss_cons (ps_set (i := 2) sc__law_spec.nd rfl (by first | exact Or.inl rfl | exact Or.inr rfl) (pe_call (ok__law_names T) (hr.mono (by decide)) (by rfl) T.g__law_names T.F__law_names.kp T.b__law_names .nil pass0 (pa_cons (pv 0) (pa_cons (pe_lst pa_nil) (pa_cons (pe_call (ok__law_draw T) (hr.mono (by decide)) (by rfl) T.g__law_draw T.F__law_draw.kp T.b__law_draw .nil pass0 (pa_cons (pv 0) (pa_cons pe_int pa_nil))) pa_nil)))))
      (pss_cons (ps_set (i := 3) sc__law_spec.nd rfl (by first | exact Or.inl rfl | exact Or.inr rfl) (pe_call (ok__law_names T) (hr.mono (by decide)) (by rfl) T.g__law_names T.F__law_names.kp T.b__law_names .nil pass0 (pa_cons (pv 0) (pa_cons (pv 2) (pa_cons (pe_call (ok__law_draw T) (hr.mono (by decide)) (by rfl) T.g__law_draw T.F__law_draw.kp T.b__law_draw .nil pass0 (pa_cons (pv 0) (pa_cons pe_int pa_nil))) pa_nil)))))
      (pss_cons (ps_set (i := 4) sc__law_spec.nd rfl (by first | exact Or.inl rfl | exact Or.inr rfl) (pe_call (ok__law_names T) (hr.mono (by decide)) (by rfl) T.g__law_names T.F__law_names.kp T.b__law_names .nil pass0 (pa_cons (pv 0) (pa_cons (pe_op op_cat (pv 2) (pv 3)) (pa_cons (pe_call (ok__law_draw T) (hr.mono (by decide)) (by rfl) T.g__law_draw T.F__law_draw.kp T.b__law_draw .nil pass0 (pa_cons (pv 0) (pa_cons pe_int pa_nil))) pa_nil)))))
      (pss_cons (ps_set (i := 5) sc__law_spec.nd rfl (by first | exact Or.inl rfl | exact Or.inr rfl) (pe_lc (own := [("_law_k", 10)]) (g := gName 10) (tt := tYes) rfl sc__law_spec.nd (pi_range1 (by rfl) T.z_range (pa_cons (pe_op op_add pe_int (pe_call (ok__law_draw T) (hr.mono (by decide)) (by rfl) T.g__law_draw T.F__law_draw.kp T.b__law_draw .nil pass0 (pa_cons (pv 0) (pa_cons (pv 1) pa_nil)))) pa_nil)) (blkOk_by (N := ["_law_draws", "_law_most", "_law_halls", "_law_worths", "_law_flags", "_law_fallings", "_law_where", "_law_columns_here", "_law_called", "_law_sorts", "_law_k", "_law_one"]) (sc := defScope s__law_spec) (by decide +kernel)) (fun _ _ _ _ _ => pg_name (i := 10) sc__law_spec.nd rfl (by first | exact Or.inl rfl | exact Or.inr rfl)) (fun _ _ _ _ _ => pts_nil) (fun _ _ _ _ _ => (pe_cmpR op_eq (pe_call (ok__law_draw T) (hr.mono (by decide)) (by rfl) T.g__law_draw T.F__law_draw.kp T.b__law_draw .nil pass0 (pa_cons (pv 0) (pa_cons pe_int pa_nil))) pe_int (nomark _)))))
      (pss_cons (ps_set (i := 6) sc__law_spec.nd rfl (by first | exact Or.inl rfl | exact Or.inr rfl) (pe_lc (own := [("_law_one", 11)]) (g := gName 11) (tt := tYes) rfl sc__law_spec.nd (pi_list (pv 5)) (blkOk_by (N := ["_law_draws", "_law_most", "_law_halls", "_law_worths", "_law_flags", "_law_fallings", "_law_where", "_law_columns_here", "_law_called", "_law_sorts", "_law_k", "_law_one"]) (sc := defScope s__law_spec) (by decide +kernel)) (fun _ _ _ _ _ => pg_name (i := 11) sc__law_spec.nd rfl (by first | exact Or.inl rfl | exact Or.inr rfl)) (fun _ _ _ _ _ => pts_nil) (fun _ _ _ _ _ => (pe_ix (r := rIxL K) ix_list (pe_op op_cat (pe_lst (pa_cons pe_non pa_nil)) (pv 2)) (pe_call (ok__law_draw T) (hr.mono (by decide)) (by rfl) T.g__law_draw T.F__law_draw.kp T.b__law_draw .nil pass0 (pa_cons (pv 0) (pa_cons (pe_op op_add (pe_callB (r := rLenL K) (id := "len") c_len (by rfl) T.z_len (by decide +kernel) (pa_cons (pv 2) pa_nil)) pe_int) pa_nil))) (fun _ _ => rfl)))))
      (pss_cons (ps_set (i := 7) sc__law_spec.nd rfl (by first | exact Or.inl rfl | exact Or.inr rfl) (pe_call (ok__law_names T) (hr.mono (by decide)) (by rfl) T.g__law_names T.F__law_names.kp T.b__law_names .nil pass0 (pa_cons (pv 0) (pa_cons (pe_op op_cat (pe_op op_cat (pv 2) (pv 3)) (pv 4)) (pa_cons (pe_callB (r := rLenL K) (id := "len") c_len (by rfl) T.z_len (by decide +kernel) (pa_cons (pv 5) pa_nil)) pa_nil)))))
      (pss_cons (ps_set (i := 8) sc__law_spec.nd rfl (by first | exact Or.inl rfl | exact Or.inr rfl) (pe_call (ok__law_names T) (hr.mono (by decide)) (by rfl) T.g__law_names T.F__law_names.kp T.b__law_names .nil pass0 (pa_cons (pv 0) (pa_cons (pe_lst pa_nil) (pa_cons (pe_callB (r := rLenL K) (id := "len") c_len (by rfl) T.z_len (by decide +kernel) (pa_cons (pv 5) pa_nil)) pa_nil)))))
      (C8.pss_cut (ps_if (pt_cmpR op_eq (pe_call (ok__law_draw T) (hr.mono (by decide)) (by rfl) T.g__law_draw T.F__law_draw.kp T.b__law_draw .nil pass0 (pa_cons (pv 0) (pa_cons pe_int pa_nil))) pe_int (nomark _)) (pss_one (ps_set (i := 8) sc__law_spec.nd rfl (by first | exact Or.inl rfl | exact Or.inr rfl) (pv 7))) pss_nil)
      (pss_cons (ps_setLc (i := 9) (own := [("_law_k", 10)]) (g := gName 10) (tt := tYes) rfl sc__law_spec.nd rfl rfl (sw_true rfl rfl rfl (by decide +kernel)) (pi_range1 (by rfl) T.z_range (pa_cons (pe_callB (r := rLenL K) (id := "len") c_len (by rfl) T.z_len (by decide +kernel) (pa_cons (pv 7) pa_nil)) pa_nil)) (blkOk_by (N := ["_law_draws", "_law_most", "_law_halls", "_law_worths", "_law_flags", "_law_fallings", "_law_where", "_law_columns_here", "_law_called", "_law_sorts", "_law_k", "_law_one"]) (sc := defScope s__law_spec) (by decide +kernel)) (fun _ _ _ _ _ => pg_name (i := 10) sc__law_spec.nd rfl (by first | exact Or.inl rfl | exact Or.inr rfl)) (fun _ _ _ _ _ => pts_nil) (fun _ _ _ _ _ => (pe_tup (pa_cons (pe_ix (r := rIxL K) ix_list (pv 8) (pv 10) (fun _ _ => rfl)) (pa_cons (pe_ix (r := rIxL K) ix_list (pv 7) (pv 10) (fun _ _ => rfl)) (pa_cons (pe_ix (r := rIxL K) ix_list (pv 6) (pv 10) (fun _ _ => rfl)) (pa_cons (pe_ix (r := rIxL K) ix_list (pv 5) (pv 10) (fun _ _ => rfl)) pa_nil)))))))
      (pss_one (ps_ret (pe_lst (pa_cons (pv 9) (pa_cons (pv 2) (pa_cons (pv 3) (pa_cons (pv 4) pa_nil)))))))))))))))), ?_⟩
  try simp only [nox_K, cx_K]
  wtm_at "rd"
  refine r_new rfl fun e0 n_e0 => ?_
  generalize eq_e0 : upd _ e0 _ = H1
  have s_e0 : Same _ H1 := eq_e0 ▸ same_new n_e0
  have h_e0 : H1 e0 = some _ := eq_e0 ▸ upd_same
  clear eq_e0
  have D := D.same s_e0
  have E1 : Ext d r H H1 := Ext.of s_e0
  wtm_at "rd"
  refine ⟨d, c, r, 3, rfl, D, by decide, by decide, fun k1 H2 k10 k11 D2 E2 => ?_⟩
  have h_e0 : H1 e0 = some (.lst (([] : List Str).map V.str)) := h_e0
  have h_e0 := E2 _ _ h_e0 (strs_dr D h_e0).1 (strs_dr D h_e0).2
  have E2 := E1.trans E2
  wtm_at "rd"
  refine ⟨d, c, r, e0, [], k1.toNat, by rw [Int.toNat_of_nonneg k10]; try rfl, D2, h_e0, by show 0 + k1.toNat ≤ 20; omega, fun ha ps H3 n_ha lps wps nps _ h_ha D3 E3 => ?_⟩
  have E3 := E2.trans E3
  wtm_at "rd"
  refine ⟨d, c, r, 4, rfl, D3, by decide, by decide, fun k2 H4 k20 k21 D4 E4 => ?_⟩
  have h_ha := E4 _ _ h_ha (strs_dr D3 h_ha).1 (strs_dr D3 h_ha).2
  have E4 := E3.trans E4
  wtm_at "rd"
  refine ⟨d, c, r, ha, ps, k2.toNat, by rw [Int.toNat_of_nonneg k20]; try rfl, D4, h_ha, by omega, fun wo vs H5 n_wo lvs wvs nvs nvp h_wo D5 E5 => ?_⟩
  have h_ha := E5 _ _ h_ha (strs_dr D4 h_ha).1 (strs_dr D4 h_ha).2
  have E5 := E4.trans E5
  wtm_at "rd"
  refine ⟨ha, wo, _, _, rfl, rfl, h_ha, h_wo, Nat.le_of_lt (small1000 (by rw [List.length_map, List.length_map]; omega)), fun b1 n_b1 => ?_⟩
  generalize eq_b1 : upd _ b1 _ = H6
  have s_b1 : Same _ H6 := eq_b1 ▸ same_new n_b1
  have h_b1 : H6 b1 = some _ := eq_b1 ▸ upd_same
  clear eq_b1
  have D5 := D5.same s_b1
  have E5 := E5.trans (Ext.of s_b1)
  have h_ha := s_b1 _ _ h_ha
  have h_wo := s_b1 _ _ h_wo
  have h_b1 : H6 b1 = some (.lst ((ps ++ vs).map V.str)) := by rw [h_b1, List.map_append]
  wtm_at "rd"
  refine ⟨d, c, r, 4, rfl, D5, by decide, by decide, fun k3 H7 k30 k31 D7 E7 => ?_⟩
  have h_ha := E7 _ _ h_ha (strs_dr D5 h_ha).1 (strs_dr D5 h_ha).2
  have h_wo := E7 _ _ h_wo (strs_dr D5 h_wo).1 (strs_dr D5 h_wo).2
  have h_b1 := E7 _ _ h_b1 (strs_dr D5 h_b1).1 (strs_dr D5 h_b1).2
  have E7 := E5.trans E7
  wtm_at "rd"
  refine ⟨d, c, r, b1, ps ++ vs, k3.toNat, by rw [Int.toNat_of_nonneg k30]; try rfl, D7, h_b1, by rw [List.length_append]; omega, fun fl ms H8 n_fl lms wms nms nmp h_fl D8 E8 => ?_⟩
  have h_ha := E8 _ _ h_ha (strs_dr D7 h_ha).1 (strs_dr D7 h_ha).2
  have h_wo := E8 _ _ h_wo (strs_dr D7 h_wo).1 (strs_dr D7 h_wo).2
  have E8 := E7.trans E8
  wtm_at "rd"
  refine ⟨d, c, r, mm, rfl, D8, by omega, by omega, fun k4 H9 k40 k41 D9 E9 => ?_⟩
  have h_ha := E9 _ _ h_ha (strs_dr D8 h_ha).1 (strs_dr D8 h_ha).2
  have h_wo := E9 _ _ h_wo (strs_dr D8 h_wo).1 (strs_dr D8 h_wo).2
  have h_fl := E9 _ _ h_fl (strs_dr D8 h_fl).1 (strs_dr D8 h_fl).2
  have E9 := E8.trans E9
  wtm_at "rd"
  refine r_upto (by omega) (by omega) ?_
  refine lc_drawsG (P := fun x => ∃ b : Bool, x = .bl b) (by omega) D9 (fun i H' QQ hi D' E' hQ => ?_) fun fa fs0 H10 lfs hfs n_fa h_fa D10 E10 => ?_
  · wtm_at "rd"
    refine ⟨d, c, r, 2, rfl, D', by decide, by decide, fun kf H'' kf0 kf1 D'' E'' => ?_⟩
    wtm_at "rd"
    exact hQ _ _ ⟨_, rfl⟩ D'' E''
  obtain ⟨fs, rfl⟩ := bools_of hfs
  rw [List.length_map] at lfs
  have fad := D9.ned n_fa
  have far := D9.ner n_fa
  have h_ha := E10 _ _ h_ha (strs_dr D9 h_ha).1 (strs_dr D9 h_ha).2
  have h_wo := E10 _ _ h_wo (strs_dr D9 h_wo).1 (strs_dr D9 h_wo).2
  have h_fl := E10 _ _ h_fl (strs_dr D9 h_fl).1 (strs_dr D9 h_fl).2
  have E10 := E9.trans E10
  wtm_at "rd"
  refine r_itl (SqL.of h_fa) ?_
  refine lc_drawsL (P := fun x => ∃ pt : Option Str, x = partV pt ∧ ∀ z, pt = some z → z ∈ ps) h_fa fad far (by rw [List.length_map]; omega) D10 (fun i x H' QQ hi D' E' hQ => ?_) fun wh hs0 H11 lhs hhs n_wh h_wh D11 E11 => ?_
  · have h_ha' := E' _ _ h_ha (strs_dr D10 h_ha).1 (strs_dr D10 h_ha).2
    wtm_at "rd"
    refine r_new rfl fun c1 n_c1 => ?_
    generalize eq_c1 : upd _ c1 _ = H12
    have s_c1 : Same _ H12 := eq_c1 ▸ same_new n_c1
    have h_c1 : H12 c1 = some _ := eq_c1 ▸ upd_same
    clear eq_c1
    have D' := D'.same s_c1
    have E' := E'.trans (Ext.of s_c1)
    have h_ha' := s_c1 _ _ h_ha'
    wtm_at "rd"
    refine ⟨c1, ha, _, _, rfl, rfl, h_c1, h_ha', Nat.le_of_lt (small1000 (by rw [List.length_map]; show 1 + ps.length ≤ 1000; omega)), fun c2 n_c2 => ?_⟩
    have c2d := D'.ned n_c2
    have c2r := D'.ner n_c2
    generalize eq_c2 : upd _ c2 _ = H13
    have s_c2 : Same _ H13 := eq_c2 ▸ same_new n_c2
    have h_c2 : H13 c2 = some _ := eq_c2 ▸ upd_same
    clear eq_c2
    have D' := D'.same s_c2
    have h_ha' := s_c2 _ _ h_ha'
    have s_c := s_c1.trans s_c2
    wtm_at "rd"
    refine r_lenS h_ha' ?_
    wtm_at "rd"
    refine ⟨d, c, r, _, rfl, D', by omega, by omega, fun kh H15 kh0 kh1 D15 E15 => ?_⟩
    have h_c2 := E15 _ _ h_c2 c2d c2r
    obtain ⟨pt, hpt1, hpt2⟩ := at_hall kh0 kh1
    refine r_ixL (SqL.of h_c2) hpt1 ?_
    exact hQ _ _ ⟨pt, rfl, hpt2⟩ D15 ((Ext.of s_c).trans E15)
  obtain ⟨hs, rfl, hhp⟩ := halls_of hhs
  rw [List.length_map, List.length_map] at lhs
  have whd := D10.ned n_wh
  have whr := D10.ner n_wh
  have h_fa := E11 _ _ h_fa fad far
  have h_ha := E11 _ _ h_ha (strs_dr D10 h_ha).1 (strs_dr D10 h_ha).2
  have h_wo := E11 _ _ h_wo (strs_dr D10 h_wo).1 (strs_dr D10 h_wo).2
  have h_fl := E11 _ _ h_fl (strs_dr D10 h_fl).1 (strs_dr D10 h_fl).2
  have E11 := E10.trans E11
  wtm_at "rd"
  refine ⟨ha, wo, _, _, rfl, rfl, h_ha, h_wo, Nat.le_of_lt (small1000 (by rw [List.length_map, List.length_map]; omega)), fun b2 n_b2 => ?_⟩
  generalize eq_b2 : upd _ b2 _ = H12
  have s_b2 : Same _ H12 := eq_b2 ▸ same_new n_b2
  have h_b2 : H12 b2 = some _ := eq_b2 ▸ upd_same
  clear eq_b2
  have D11 := D11.same s_b2
  have E11 := E11.trans (Ext.of s_b2)
  have h_ha := s_b2 _ _ h_ha
  have h_wo := s_b2 _ _ h_wo
  have h_fl := s_b2 _ _ h_fl
  have h_fa := s_b2 _ _ h_fa
  have h_wh := s_b2 _ _ h_wh
  have h_b2 : H12 b2 = some (.lst ((ps ++ vs).map V.str)) := by rw [h_b2, List.map_append]
  wtm_at "rd"
  refine ⟨b2, fl, _, _, rfl, rfl, h_b2, h_fl, Nat.le_of_lt (small1000 (by rw [List.length_map, List.length_map, List.length_append]; omega)), fun b3 n_b3 => ?_⟩
  generalize eq_b3 : upd _ b3 _ = H13
  have s_b3 : Same _ H13 := eq_b3 ▸ same_new n_b3
  have h_b3 : H13 b3 = some _ := eq_b3 ▸ upd_same
  clear eq_b3
  have D11 := D11.same s_b3
  have E11 := E11.trans (Ext.of s_b3)
  have h_ha := s_b3 _ _ h_ha
  have h_wo := s_b3 _ _ h_wo
  have h_fl := s_b3 _ _ h_fl
  have h_fa := s_b3 _ _ h_fa
  have h_wh := s_b3 _ _ h_wh
  have h_b3 : H13 b3 = some (.lst ((ps ++ vs ++ ms).map V.str)) := by rw [h_b3, ← List.map_append]
  wtm_at "rd"
  refine r_lenL (SqL.of h_fa) ?_
  wtm_at "rd"
  refine ⟨d, c, r, b3, ps ++ vs ++ ms, (fs.map V.bl).length, rfl, D11, h_b3, by simp only [List.length_append, List.length_map]; omega, fun co ks H14 n_co lks wks nks nkp h_co D14 E14 => ?_⟩
  rw [List.length_map] at lks
  have h_fa := E14 _ _ h_fa fad far
  have h_wh := E14 _ _ h_wh whd whr
  have h_ha := E14 _ _ h_ha (strs_dr D11 h_ha).1 (strs_dr D11 h_ha).2
  have h_wo := E14 _ _ h_wo (strs_dr D11 h_wo).1 (strs_dr D11 h_wo).2
  have h_fl := E14 _ _ h_fl (strs_dr D11 h_fl).1 (strs_dr D11 h_fl).2
  have E14 := E11.trans E14
  wtm_at "rd"
  refine r_new rfl fun e1 n_e1 => ?_
  generalize eq_e1 : upd _ e1 _ = H15
  have s_e1 : Same _ H15 := eq_e1 ▸ same_new n_e1
  have h_e1 : H15 e1 = some _ := eq_e1 ▸ upd_same
  clear eq_e1
  have D14 := D14.same s_e1
  have E14 := E14.trans (Ext.of s_e1)
  have h_ha := s_e1 _ _ h_ha
  have h_wo := s_e1 _ _ h_wo
  have h_fl := s_e1 _ _ h_fl
  have h_fa := s_e1 _ _ h_fa
  have h_wh := s_e1 _ _ h_wh
  have h_co := s_e1 _ _ h_co
  have h_e1 : H15 e1 = some (.lst (([] : List Str).map V.str)) := h_e1
  wtm_at "rd"
  refine r_lenL (SqL.of h_fa) ?_
  wtm_at "rd"
  refine ⟨d, c, r, e1, [], (fs.map V.bl).length, rfl, D14, h_e1, by rw [List.length_map]; show 0 + fs.length ≤ 20; omega, fun ca ns H16 n_ca lns wns nns _ h_ca D16 E16 => ?_⟩
  rw [List.length_map] at lns
  have h_fa := E16 _ _ h_fa fad far
  have h_wh := E16 _ _ h_wh whd whr
  have h_ha := E16 _ _ h_ha (strs_dr D14 h_ha).1 (strs_dr D14 h_ha).2
  have h_wo := E16 _ _ h_wo (strs_dr D14 h_wo).1 (strs_dr D14 h_wo).2
  have h_fl := E16 _ _ h_fl (strs_dr D14 h_fl).1 (strs_dr D14 h_fl).2
  have h_co := E16 _ _ h_co (strs_dr D14 h_co).1 (strs_dr D14 h_co).2
  have E16 := E14.trans E16
  wtm_at "rd"
  refine ⟨fun σ H' => ∃ (cz : Addr) (nz : List Str), σ = [some (.ref d), some (.int mm), some (.ref ha), some (.ref wo), some (.ref fl), some (.ref fa), some (.ref wh), some (.ref co), some (.ref cz), none, none, none] ∧ Drw H' d c r ∧ Ext d r H H' ∧ H' fa = some (.lst (fs.map V.bl)) ∧ H' wh = some (.lst (hs.map partV)) ∧ H' ha = some (.lst (ps.map V.str)) ∧ H' wo = some (.lst (vs.map V.str)) ∧ H' fl = some (.lst (ms.map V.str)) ∧ H' co = some (.lst (ks.map V.str)) ∧ H' cz = some (.lst (nz.map V.str)) ∧ nz.length = fs.length ∧ (∀ w ∈ nz, isNameB w = true) ∧ nz.Nodup, ?_, ?_⟩
  · wtm_at "rd"
    refine ⟨d, c, r, 3, rfl, D16, by decide, by decide, fun k5 H17 k50 k51 D17 E17 => ?_⟩
    have h_fa := E17 _ _ h_fa fad far
    have h_wh := E17 _ _ h_wh whd whr
    have h_ha := E17 _ _ h_ha (strs_dr D16 h_ha).1 (strs_dr D16 h_ha).2
    have h_wo := E17 _ _ h_wo (strs_dr D16 h_wo).1 (strs_dr D16 h_wo).2
    have h_fl := E17 _ _ h_fl (strs_dr D16 h_fl).1 (strs_dr D16 h_fl).2
    have h_co := E17 _ _ h_co (strs_dr D16 h_co).1 (strs_dr D16 h_co).2
    have h_ca := E17 _ _ h_ca (strs_dr D16 h_ca).1 (strs_dr D16 h_ca).2
    have E17 := E16.trans E17
    wtm_at "rd"
    refine r_ite (fun _ => ?_) (fun _ => ?_)
    · wtm_at "rd"
      exact ⟨co, ks, rfl, D17, E17, h_fa, h_wh, h_ha, h_wo, h_fl, h_co, h_co, lks, wks, nks⟩
    · wtm_at "rd"
      exact ⟨ca, ns, rfl, D17, E17, h_fa, h_wh, h_ha, h_wo, h_fl, h_co, h_ca, lns, wns, nns⟩
  rintro σ H17 ⟨cz, nz, rfl, D17, E17, h_fa, h_wh, h_ha, h_wo, h_fl, h_co, h_cz, lnz, wnz, nnz⟩
  wtm_at "rd"
  refine r_lenS h_co ?_
  wtm_at "rd"
  refine r_upto (by omega) (by omega) ?_
  refine lc_tupsR (m := ks.length) (fun j => srtV ⟨nz.getD j "", ks.getD j "", hs.getD j none, fs.getD j false⟩) (by omega) (fun i H3 QQ hi s3 hQ => ?_) fun so us H18 n_so lus h_so hus s18 => ?_
  · have h_cz := s3 _ _ h_cz
    have h_co := s3 _ _ h_co
    have h_wh := s3 _ _ h_wh
    have h_fa := s3 _ _ h_fa
    rw [Int.zero_add]
    wtm_at "rd"
    refine r_ixL (SqL.of h_cz) (at_map (ws := nz) (j := i) (d := "") (by omega)) ?_
    wtm_at "rd"
    refine r_ixL (SqL.of h_co) (at_map (ws := ks) (j := i) (d := "") (by omega)) ?_
    wtm_at "rd"
    refine r_ixL (SqL.of h_wh) (at_map (ws := hs) (j := i) (d := none) (by omega)) ?_
    wtm_at "rd"
    refine r_ixL (SqL.of h_fa) (at_map (ws := fs) (j := i) (d := false) (by omega)) ?_
    wtm_at "rd"
    refine r_new rfl fun u n_u => ?_
    generalize eq_u : upd _ u _ = H4
    have s_u : Same _ H4 := eq_u ▸ same_new n_u
    have h_u : H4 u = some _ := eq_u ▸ upd_same
    clear eq_u
    have s3 := s3.trans s_u
    exact hQ u H4 (by first | exact n_u | assumption) h_u s_u
  have D18 := D17.same s18
  have E18 := E17.trans (Ext.of s18)
  have h_ha := s18 _ _ h_ha
  have h_wo := s18 _ _ h_wo
  have h_fl := s18 _ _ h_fl
  wtm_at "rd"
  refine r_new rfl fun p n_p => ?_
  generalize eq_p : upd _ p _ = H19
  have s_p : Same _ H19 := eq_p ▸ same_new n_p
  have h_p : H19 p = some _ := eq_p ▸ upd_same
  clear eq_p
  have D18 := D18.same s_p
  have E18 := E18.trans (Ext.of s_p)
  have h_so := s_p _ _ h_so
  have h_ha := s_p _ _ h_ha
  have h_wo := s_p _ _ h_wo
  have h_fl := s_p _ _ h_fl
  have ekys : (sortsOf nz ks hs fs).map Srt.ky = ks := sorts_map Srt.ky ks "" rfl fun _ => rfl
  have enms : (sortsOf nz ks hs fs).map Srt.nm = nz := sorts_map Srt.nm nz "" (by omega) fun _ => rfl
  have epts : (sortsOf nz ks hs fs).map Srt.pt = hs := sorts_map Srt.pt hs none (by omega) fun _ => rfl
  have lss : (sortsOf nz ks hs fs).length = ks.length := by rw [sortsOf, List.length_map, List.length_range]
  refine q p ⟨sortsOf nz ks hs fs, ps, vs, ms⟩ _ ?_ ⟨so, ha, wo, fl, us, h_p, h_so, ⟨by rw [lss]; exact lus, fun j a s e1 e2 => ?_⟩, h_ha, h_wo, h_fl⟩ D18 E18
  · have nod : (ps ++ (ks ++ (vs ++ ms))).Nodup := by
      have n1 : (ps ++ vs).Nodup := List.nodup_append.mpr ⟨nps, nvs, fun a ha b hb e => nvp b hb (e ▸ ha)⟩
      have n2 : (ps ++ vs ++ ms).Nodup := List.nodup_append.mpr ⟨n1, nms, fun a ha b hb e => nmp b hb (e ▸ ha)⟩
      have n3 : (ps ++ vs ++ ms ++ ks).Nodup := List.nodup_append.mpr ⟨n2, nks, fun a ha b hb e => nkp b hb (e ▸ ha)⟩
      have pm : (ps ++ (ks ++ (vs ++ ms))).Perm (ps ++ vs ++ ms ++ ks) := by
        rw [List.append_assoc, List.append_assoc, ← List.append_assoc vs]
        exact List.Perm.append_left _ List.perm_append_comm
      exact pm.nodup_iff.mpr n3
    refine ⟨fun z hz => ?_, by show ((sortsOf nz ks hs fs).map Srt.nm).Nodup; rw [enms]; exact nnz, by show (ps ++ ((sortsOf nz ks hs fs).map Srt.ky ++ (vs ++ ms))).Nodup; rw [ekys]; exact nod, fun x hx z hz => ?_, by show 1 ≤ (sortsOf nz ks hs fs).length; omega, by show (sortsOf nz ks hs fs).length ≤ 3; omega, by show ps.length ≤ 2; omega, by show vs.length ≤ 3; omega, by show ms.length ≤ 3; omega⟩
    · have hz : z ∈ (sortsOf nz ks hs fs).map Srt.nm ++ (ps ++ ((sortsOf nz ks hs fs).map Srt.ky ++ (vs ++ ms))) := hz
      rw [enms, ekys] at hz
      simp only [List.mem_append] at hz
      rcases hz with y | y | y | y | y
      · exact wnz z y
      · exact wps z y
      · exact wks z y
      · exact wvs z y
      · exact wms z y
    · refine hhp x.pt ?_ z hz
      rw [← epts]
      exact List.mem_map.mpr ⟨x, hx, rfl⟩
  · have z := s_p _ _ (hus j a e1)
    rw [sortsOf, List.getElem?_map] at e2
    obtain ⟨i, hi, rfl⟩ := Option.map_eq_some_iff.mp e2
    obtain ⟨_, rfl⟩ := List.getElem?_eq_some_iff.mp hi
    rw [List.getElem_range]
    exact z

end

/-- plain texts of at most n signs -/
def Wn (n : Nat) (z : Str) : Prop := (∀ c ∈ z.cps.toList, c < 128) ∧ z.length ≤ n
theorem Wn.up {n m : Nat} {z : Str} (h : Wn n z) (hm : n ≤ m) : Wn m z := ⟨h.1, Nat.le_trans h.2 hm⟩
theorem Wn.sok {n : Nat} {z : Str} (h : Wn n z) : PyData.strOk z = true := by
  show z.cps.all _ = true
  rw [← Array.all_toList, List.all_eq_true]
  intro c hc
  have := h.1 c hc
  exact decide_eq_true (by omega)
theorem Wn.line {n : Nat} {z : Str} (h : Wn n z) (hn : n ≤ 1000) : z.length ≤ sizeLine := Nat.le_of_lt (small1000 (Nat.le_trans h.2 hn))
theorem Wn.cut {n : Nat} {z : Str} {lo hi : Option Int} (h : Wn n z) : Wn n (cutS z lo hi) := ⟨fun c hc => h.1 c (List.mem_of_mem_drop (List.mem_of_mem_take (by simpa [cutS] using hc))), Nat.le_trans cut_lenS h.2⟩
theorem Wn.app {n m : Nat} {x y : Str} (hx : Wn n x) (hy : Wn m y) : Wn (n + m) (x ++ y) := by
  refine ⟨fun c hc => ?_, by rw [len_app]; exact Nat.add_le_add hx.2 hy.2⟩
  have e : (x ++ y).cps.toList = x.cps.toList ++ y.cps.toList := by
    show (x.cps ++ y.cps).toList = _
    rw [Array.toList_append]
  rw [e] at hc
  rcases List.mem_append.mp hc with z | z
  · exact hx.1 c z
  · exact hy.1 c z
theorem name_Wn {z : Str} (h : isNameB z = true) : Wn 8 z := by
  refine ⟨fun c hc => ?_, (isName_len h).1⟩
  unfold isNameB at h
  have h := (Bool.and_eq_true_iff.mp (Bool.and_eq_true_iff.mp h).2).2
  have := letB_iff.mp (List.all_eq_true.mp h c hc)
  omega
theorem wordsWn : ∀ z ∈ wordsS, (∀ c ∈ z.cps.toList, c < 128) ∧ z.length ≤ 8 := by decide +kernel
theorem upper_Wn {n : Nat} {z : Str} (h : Wn n z) : Wn n (Txt.upper z) := by
  have e := SX.upper_S (a := z.cps.toList) (List.all_eq_true.mpr fun c hc => decide_eq_true (h.1 c hc))
  rw [SX.S_tl] at e
  rw [e]
  refine ⟨fun c hc => ?_, ?_⟩
  · obtain ⟨x, hx, rfl⟩ := List.mem_map.mp hc
    have := h.1 x hx
    unfold PyProof.Rows.up1
    split <;> omega
  · rw [SX.S_len, List.length_map]
    exact h.2
def signsT : Str := " !\"#$&'()*+,-./0123456789:;<=>?@ABCDEFGHIJKLMNOPQRSTUVWXYZ[\\]^_`{|}~"
theorem signsWn : (∀ c ∈ signsT.cps.toList, c < 128) ∧ signsT.length ≤ 80 ∧ 0 < signsT.length := by decide +kernel
theorem at_str {z : Str} {k : Int} (h0 : 0 ≤ k) (h1 : k < z.length) : ∃ c, atI z.cps.toList k = some c ∧ c ∈ z.cps.toList := by
  have hk : k.toNat < z.cps.toList.length := by rw [Array.length_toList]; show k.toNat < z.length; omega
  have e : atI z.cps.toList (k.toNat : Int) = some z.cps.toList[k.toNat] := atI_nat (List.getElem?_eq_getElem hk)
  rw [Int.toNat_of_nonneg h0] at e
  exact ⟨_, e, List.getElem_mem hk⟩
theorem one_Wn {c : Nat} (h : c < 128) : Wn 1 (SX.S [c]) := ⟨fun x hx => by rw [List.mem_singleton.mp hx]; exact h, Nat.le_refl _⟩
def spOdd : Sp := fun vs H Q _ => ∃ (d c r : Addr) (z : Str) (n : Nat), vs = [.ref d, .str z] ∧ Drw H d c r ∧ Wn n z ∧ 9 ≤ n ∧ n ≤ 100 ∧ 0 < z.length ∧ ∀ (w : Str) (H' : Hp), Wn (n + 1) w → Drw H' d c r → Ext d r H H' → Q (.str w) H'
def spNewWord : Sp := fun vs H Q _ => ∃ (d c r a : Addr) (z : Str) (ws : List Str) (n : Nat), vs = [.ref d, .str z, .ref a] ∧ Drw H d c r ∧ H a = some (.lst (ws.map V.str)) ∧ Wn n z ∧ (∀ w ∈ ws, Wn n w) ∧ 0 < ws.length ∧ ws.length ≤ 100 ∧ 9 ≤ n ∧ n ≤ 100 ∧ ∀ (w : Str) (H' : Hp), Wn (n + 1) w → Drw H' d c r → Ext d r H H' → Q (.str w) H'
def spGoodW : Sp := fun vs H Q _ => ∃ (z : Str), vs = [.str z] ∧ z.length ≤ 1000 ∧ ∀ H', Same H H' → Q (.bl (isNameB z)) H'

theorem at_refs {gs : List Addr} {k : Int} (h0 : 0 ≤ k) (h1 : k < gs.length) : ∃ a, gs[k.toNat]? = some a ∧ atI (gs.map V.ref) k = some (.ref a) := by
  have hk : k.toNat < gs.length := by omega
  have e : atI (gs.map V.ref) (k.toNat : Int) = some (.ref gs[k.toNat]) := atI_nat (by rw [List.getElem?_map, List.getElem?_eq_getElem hk]; try rfl)
  rw [Int.toNat_of_nonneg h0] at e
  exact ⟨_, List.getElem?_eq_getElem hk, e⟩
/-- the item of the list at an address -/
def idxV (H : Hp) (j : Nat) : V → V
  | .ref u => match H u with
    | some (.lst xs) => xs.getD j .non
    | _ => .non
  | _ => .non
theorem idx_at {H : Hp} {j : Nat} {u : Addr} {xs : List V} {v : V} (h : H u = some (.lst xs)) (e : xs[j]? = some v) : idxV H j (.ref u) = v := by
  simp only [idxV, h]
  rw [List.getD_eq_getElem?_getD, e]
  rfl
structure SpAt (H : Hp) (aS aK : Addr) (sc : Sch) : Prop where
  ex : ∃ ts aP aV aM, H aS = some (.lst (ts.map V.ref)) ∧ All2 (fun t s => H t = some (.lst (srtV s))) ts sc.ss ∧ H aK = some (.lst [.ref aP, .ref aV, .ref aM]) ∧ H aP = some (.lst (sc.ps.map V.str)) ∧ H aV = some (.lst (sc.vs.map V.str)) ∧ H aM = some (.lst (sc.ms.map V.str))
theorem SpAt.same {H H' : Hp} {aS aK : Addr} {sc : Sch} (h : SpAt H aS aK sc) (s : Same H H') : SpAt H' aS aK sc := by
  obtain ⟨ts, aP, aV, aM, h1, h2, h3, h4, h5, h6⟩ := h
  exact ⟨ts, aP, aV, aM, s _ _ h1, h2.imp fun _ _ z => s _ _ z, s _ _ h3, s _ _ h4, s _ _ h5, s _ _ h6⟩
structure Sch.wd (s : Sch) (n : Nat) : Prop where
  w : ∀ z ∈ s.names ++ s.cols, Wn n z
  p : ∀ x ∈ s.ss, ∀ z, x.pt = some z → Wn n z
  l0 : 1 ≤ s.ss.length
  l1 : s.ss.length ≤ 3
  l2 : s.ps.length ≤ 2
  l3 : s.vs.length ≤ 3
  l4 : s.ms.length ≤ 3
theorem Sch.wd.up {s : Sch} {n m : Nat} (h : s.wd n) (hm : n ≤ m) : s.wd m := ⟨fun z hz => (h.w z hz).up hm, fun x hx z hz => (h.p x hx z hz).up hm, h.l0, h.l1, h.l2, h.l3, h.l4⟩
theorem Sch.wd.small {s : Sch} {n : Nat} (h : s.wd n) (hn : n ≤ 1000) : s.small := ⟨Nat.le_trans h.l1 (by decide), Nat.le_trans h.l2 (by decide), Nat.le_trans h.l3 (by decide), Nat.le_trans h.l4 (by decide), fun z hz => Nat.le_trans (h.w z hz).2 hn⟩
theorem Sch.wd.lens {s : Sch} {n : Nat} (h : s.wd n) : 1 ≤ s.cols.length ∧ s.cols.length ≤ 11 ∧ s.names.length ≤ 3 ∧ 1 ≤ s.names.length := by
  have h0 := h.l0
  have h1 := h.l1
  have h2 := h.l2
  have h3 := h.l3
  have h4 := h.l4
  simp only [Sch.cols, Sch.names, List.length_append, List.length_map]
  omega
theorem good_wd {s : Sch} (h : s.good) : s.wd 20 := ⟨fun z hz => (name_Wn (h.w z hz)).up (by decide), fun x hx z hz => (name_Wn (h.w z (List.mem_append.mpr (.inr (List.mem_append.mpr (.inl (h.pt x hx z hz))))))).up (by decide), h.l0, h.l1, h.l2, h.l3, h.l4⟩
def spColsL : Sp := fun vs H Q _ => ∃ (aS aK : Addr) (sc : Sch) (n : Nat), vs = [.ref aS, .ref aK] ∧ SpAt H aS aK sc ∧ sc.wd n ∧ ∀ l H', H l = none → Same H H' → H' l = some (.lst (sc.cols.map V.str)) → Q (.ref l) H'
def MadeAt (H : Hp) (t : Addr) (sc : Sch) : Prop := match sc.bad with
  | some w => H t = some (.tup [.str "bad", .str w, .bl true])
  | none => ∃ l, H t = some (.tup [.str "made", .ref l]) ∧ H l = some (.lst (sc.cols.map V.str))
theorem made_bad {H : Hp} {t : Addr} {sc : Sch} {w : Str} (e : sc.bad = some w) (h : H t = some (.tup [.str "bad", .str w, .bl true])) : MadeAt H t sc := by
  unfold MadeAt
  rw [e]
  exact h
theorem made_ok {H : Hp} {t l : Addr} {sc : Sch} (e : sc.bad = none) (h : H t = some (.tup [.str "made", .ref l])) (hl : H l = some (.lst (sc.cols.map V.str))) : MadeAt H t sc := by
  unfold MadeAt
  rw [e]
  exact ⟨l, h, hl⟩
def spDueL : Sp := fun vs H Q _ => ∃ (aS aK : Addr) (sc : Sch) (n : Nat), vs = [.ref aS, .ref aK] ∧ SpAt H aS aK sc ∧ sc.wd n ∧ n ≤ 1000 ∧ ∀ t H', Same H H' → MadeAt H' t sc → Q (.ref t) H'
theorem cut_take {ws : List Str} {k : Nat} (h : k ≤ ws.length) : cutV (ws.map V.str) none (some (k : Int)) = (ws.take k).map V.str := by
  unfold cutV
  rw [HT.sIx_none, HT.sIx_nat, List.drop_zero, Nat.sub_zero, List.length_map, Nat.min_eq_left h, List.map_take]
theorem at_nth {ws : List Str} {k : Nat} {w : Str} (h : ws[k]? = some w) : atI (ws.map V.str) (0 + (k : Int)) = some (.str w) := by
  rw [Int.zero_add]
  exact atI_nat (by rw [List.getElem?_map, h]; try rfl)

theorem same_two {H : Hp} {x dx C : Addr} (nx : H x = none) (nd : H dx = none) : Same H (upd (upd H dx (.own x)) x (.ins C dx [])) := fun b o e => (upd_ne (ne_of_none e nx)).trans ((upd_ne (ne_of_none e nd)).trans e)
theorem make_sort {C : Addr} {H : Hp} {F : Addr → Hp → Prop} {E : XK} {sr : Srt} (h : ∀ x H', H x = none → Same H H' → SortAt C H' x sr → F x H') :
    ∀ x dx, H x = none → H dx = none → dx ≠ x → spSortInit C ([.ref x, .str sr.nm, .str sr.ky] ++ [partV sr.pt, .bl sr.ds]) (upd (upd H dx (.own x)) x (.ins C dx [])) (fun v H2 => v = .non ∧ F x H2) E :=
  fun x dx nx nd _ => ⟨x, dx, sr, rfl, upd_same, fun H' ho hk => ⟨rfl, h x H' nx (same_make nx nd hk) ho⟩⟩
theorem r_yes {σ : L2.St} {H : Hp} {QT : Bool → Hp → Prop} (h : QT true H) : tYes σ H QT := h
/-- the state of the spoilt lists: nothing of it stood in H0 -/
structure SpB (H0 H : Hp) (d c r aS aK : Addr) (sc : Sch) : Prop where
  ex : ∃ ts aP aV aM, H aS = some (.lst (ts.map V.ref)) ∧ All2 (fun t s => H t = some (.lst (srtV s))) ts sc.ss ∧ H aK = some (.lst [.ref aP, .ref aV, .ref aM]) ∧ H aP = some (.lst (sc.ps.map V.str)) ∧ H aV = some (.lst (sc.vs.map V.str)) ∧ H aM = some (.lst (sc.ms.map V.str)) ∧
    ts.Nodup ∧ aP ≠ aV ∧ aP ≠ aM ∧ aV ≠ aM ∧ (∀ t ∈ ts, H0 t = none) ∧ H0 aP = none ∧ H0 aV = none ∧ H0 aM = none
  drw : Drw H d c r
  keep : Ext d r H0 H
theorem SpB.at_ {H0 H : Hp} {d c r aS aK : Addr} {sc : Sch} (h : SpB H0 H d c r aS aK sc) : SpAt H aS aK sc := by
  obtain ⟨ts, aP, aV, aM, h1, h2, h3, h4, h5, h6, _⟩ := h.ex
  exact ⟨ts, aP, aV, aM, h1, h2, h3, h4, h5, h6⟩
theorem SpB.same {H0 H H' : Hp} {d c r aS aK : Addr} {sc : Sch} (h : SpB H0 H d c r aS aK sc) (s : Same H H') : SpB H0 H' d c r aS aK sc := by
  obtain ⟨⟨ts, aP, aV, aM, h1, h2, h3, h4, h5, h6, h7⟩, D, E⟩ := h
  exact ⟨⟨ts, aP, aV, aM, s _ _ h1, h2.imp fun _ _ z => s _ _ z, s _ _ h3, s _ _ h4, s _ _ h5, s _ _ h6, h7⟩, D.same s, E.trans (Ext.of s)⟩
/-- no list of refs, of texts, of a sort is one of the draws' own -/
theorem refs_drc {H : Hp} {d c r a : Addr} {ts : List Addr} (D : Drw H d c r) (h : H a = some (.lst (ts.map V.ref))) : a ≠ d ∧ a ≠ r ∧ a ≠ c := by
  obtain ⟨_, _, _, ns, rs, t, h1, h2, h3, hl, hp, _⟩ := D
  have key : ∀ {b : Addr} {ms : List Int}, H b = some (.lst (ms.map V.int)) → 0 < ms.length → a ≠ b := fun {b ms} hb hm => ne_of h hb fun z => by
    have z := HO.lst.inj z
    cases ms with
    | nil => exact absurd hm (Nat.lt_irrefl 0)
    | cons x ms =>
      cases ts with
      | nil => cases z
      | cons y ts => cases z
  refine ⟨ne_of h h1 fun z => ?_, key h3 (by omega), key h2 hp⟩
  have z := HO.lst.inj z
  rcases ts with _ | ⟨x, _ | ⟨y, _ | ⟨w, ts⟩⟩⟩ <;> cases z
theorem strs_drc {H : Hp} {d c r a : Addr} {ws : List Str} (D : Drw H d c r) (h : H a = some (.lst (ws.map V.str))) : a ≠ d ∧ a ≠ r ∧ a ≠ c := by
  have z := strs_dr D h
  obtain ⟨_, _, _, ns, rs, t, h1, h2, h3, hl, hp, _⟩ := D
  refine ⟨z.1, z.2, ne_of h h2 fun z => ?_⟩
  have z := HO.lst.inj z
  cases ns with
  | nil => exact absurd hp (Nat.lt_irrefl 0)
  | cons x ms =>
    cases ws with
    | nil => cases z
    | cons y ts => cases z
theorem srt_drc {H : Hp} {d c r a : Addr} {s : Srt} (D : Drw H d c r) (h : H a = some (.lst (srtV s))) : a ≠ d ∧ a ≠ r ∧ a ≠ c := by
  obtain ⟨_, _, _, ns, rs, t, h1, h2, h3, hl, hp, _⟩ := D
  have key : ∀ {b : Addr} {ms : List Int}, H b = some (.lst (ms.map V.int)) → 0 < ms.length → a ≠ b := fun {b ms} hb hm => ne_of h hb fun z => by
    have z := HO.lst.inj z
    cases ms with
    | nil => exact absurd hm (Nat.lt_irrefl 0)
    | cons x ms => cases z
  exact ⟨ne_of h h1 (fun z => nomatch z), key h3 (by omega), key h2 hp⟩
theorem SpB.ext {H0 H H' : Hp} {d c r aS aK : Addr} {sc : Sch} (h : SpB H0 H d c r aS aK sc) (e : Ext d r H H') (D' : Drw H' d c r) : SpB H0 H' d c r aS aK sc := by
  obtain ⟨⟨ts, aP, aV, aM, h1, h2, h3, h4, h5, h6, h7⟩, D, E⟩ := h
  have k3 : H aK = some (.lst ([aP, aV, aM].map V.ref)) := h3
  exact ⟨⟨ts, aP, aV, aM, e _ _ h1 (refs_drc D h1).1 (refs_drc D h1).2.1, h2.imp fun _ _ z => e _ _ z (srt_drc D z).1 (srt_drc D z).2.1, e _ _ h3 (refs_drc D k3).1 (refs_drc D k3).2.1, e _ _ h4 (strs_drc D h4).1 (strs_drc D h4).2.1, e _ _ h5 (strs_drc D h5).1 (strs_drc D h5).2.1, e _ _ h6 (strs_drc D h6).1 (strs_drc D h6).2.1, h7⟩, D', E.trans e⟩
theorem All2.set {α β : Type} {P : α → β → Prop} {as : List α} {bs : List β} {j : Nat} {a : α} {b : β} (h : All2 P as bs) (ha : as[j]? = some a) (p : P a b) : All2 P as (bs.set j b) := by
  refine ⟨by rw [List.length_set]; exact h.len, fun i x y h1 h2 => ?_⟩
  by_cases c : j = i
  · subst c
    rw [ha] at h1
    cases h1
    have hj : j < bs.length := by rw [← h.len]; exact (List.getElem?_eq_some_iff.mp ha).1
    rw [List.getElem?_set_self hj] at h2
    cases h2
    exact p
  · rw [List.getElem?_set_ne c] at h2
    exact h.at_ i x y h1 h2
theorem srt_ne_strs (s : Srt) (ws : List Str) : ¬ srtV s = ws.map V.str := by
  intro z
  have z3 := congrArg (fun l : List V => l[3]?) z
  have e : (srtV s)[3]? = some (.bl s.ds) := rfl
  have e2 : (ws.map V.str)[3]? = ws[3]?.map V.str := List.getElem?_map
  have z4 : some (V.bl s.ds) = ws[3]?.map V.str := e.symm.trans (z3.trans e2)
  cases h : ws[3]? with
  | none => rw [h] at z4; cases z4
  | some x => rw [h] at z4; cases z4
/-- one sort's list is written anew -/
theorem SpB.setS {H0 H : Hp} {d c r aS aK : Addr} {sc : Sch} (h : SpB H0 H d c r aS aK sc) {k : Int} (k0 : 0 ≤ k) (k1 : k < sc.ss.length) : ∃ (ts : List Addr) (t : Addr) (s : Srt), H aS = some (.lst (ts.map V.ref)) ∧ atI (ts.map V.ref) k = some (.ref t) ∧ sc.ss[k.toNat]? = some s ∧ H t = some (.lst (srtV s)) ∧
    ∀ s' : Srt, SpB H0 (upd H t (.lst (srtV s'))) d c r aS aK ⟨sc.ss.set k.toNat s', sc.ps, sc.vs, sc.ms⟩ := by
  obtain ⟨⟨ts, aP, aV, aM, h1, h2, h3, h4, h5, h6, nd, n1, n2, n3, f1, f2, f3, f4⟩, D, E⟩ := h
  obtain ⟨t, ht, hat⟩ := at_refs k0 (by rw [h2.len]; exact k1)
  obtain ⟨s, hs, hts⟩ := h2.get ht
  have key : ∀ {b : Addr} {ws : List Str}, H b = some (.lst (ws.map V.str)) → b ≠ t := fun {b ws} hb => ne_of hb hts fun z => by
    exact srt_ne_strs s ws (HO.lst.inj z).symm
  have keyr : ∀ {b : Addr} {as : List Addr}, H b = some (.lst (as.map V.ref)) → b ≠ t := fun {b as} hb => ne_of hb hts fun z => by
    have z := HO.lst.inj z
    cases as with
    | nil => cases z
    | cons x as => cases z
  have k3 : H aK = some (.lst ([aP, aV, aM].map V.ref)) := h3
  refine ⟨ts, t, s, h1, hat, hs, hts, fun s' => ⟨⟨ts, aP, aV, aM, (upd_ne (keyr h1)).trans h1, ?_, (upd_ne (keyr k3)).trans h3, (upd_ne (key h4)).trans h4, (upd_ne (key h5)).trans h5, (upd_ne (key h6)).trans h6, nd, n1, n2, n3, f1, f2, f3, f4⟩, D.put (srt_drc D hts).1 (srt_drc D hts).2.1 (srt_drc D hts).2.2, fun b o e m1 m2 => (upd_ne (ne_of_none e (f1 t (List.mem_of_getElem? ht)))).trans (E b o e m1 m2)⟩⟩
  refine ⟨by rw [List.length_set]; exact h2.len, fun i x y e1 e2 => ?_⟩
  by_cases cc : k.toNat = i
  · subst cc
    rw [ht] at e1
    cases e1
    have hj : k.toNat < sc.ss.length := by omega
    rw [List.getElem?_set_self hj] at e2
    cases e2
    exact upd_same
  · rw [List.getElem?_set_ne cc] at e2
    have hx := h2.at_ i x y e1 e2
    have hne : x ≠ t := fun z => by
      subst z
      have hi := (List.getElem?_eq_some_iff.mp e1)
      have hk := (List.getElem?_eq_some_iff.mp ht)
      exact cc ((List.getElem_inj (h₀ := hk.1) (h₁ := hi.1) nd).mp (hk.2.trans hi.2.symm))
    exact (upd_ne hne).trans hx
def kindOf (sc : Sch) : Nat → List Str
  | 0 => sc.ps
  | 1 => sc.vs
  | _ => sc.ms
def setKind (sc : Sch) (ws : List Str) : Nat → Sch
  | 0 => ⟨sc.ss, ws, sc.vs, sc.ms⟩
  | 1 => ⟨sc.ss, sc.ps, ws, sc.ms⟩
  | _ => ⟨sc.ss, sc.ps, sc.vs, ws⟩
theorem SpB.setK {H0 H : Hp} {d c r aS aK : Addr} {sc : Sch} (h : SpB H0 H d c r aS aK sc) (l0 : 0 < sc.ss.length) {k : Int} (k0 : 0 ≤ k) (k1 : k < 3) : ∃ (as : List V) (a : Addr), H aK = some (.lst as) ∧ atI as k = some (.ref a) ∧ H a = some (.lst ((kindOf sc k.toNat).map V.str)) ∧
    ∀ ws : List Str, SpB H0 (upd H a (.lst (ws.map V.str))) d c r aS aK (setKind sc ws k.toNat) := by
  obtain ⟨⟨ts, aP, aV, aM, h1, h2, h3, h4, h5, h6, nd, n1, n2, n3, f1, f2, f3, f4⟩, D, E⟩ := h
  have k3 : H aK = some (.lst ([aP, aV, aM].map V.ref)) := h3
  have key : ∀ {a : Addr} {xs : List Str}, H a = some (.lst (xs.map V.str)) → (∀ {t : Addr} {s : Srt}, H t = some (.lst (srtV s)) → t ≠ a) := fun {a xs} hb {t s} hts => ne_of hts hb fun z => by
    exact srt_ne_strs s xs (HO.lst.inj z)
  have k1' : ts.length = sc.ss.length := h2.len
  have keyr : ∀ {a : Addr} {xs : List Str} {b : Addr} {as : List Addr}, H a = some (.lst (xs.map V.str)) → H b = some (.lst (as.map V.ref)) → 0 < as.length → b ≠ a := fun {a xs b as} hb hr hl => ne_of hr hb fun z => by
    have z := HO.lst.inj z
    cases as with
    | nil => exact absurd hl (Nat.lt_irrefl 0)
    | cons x as =>
      cases xs with
      | nil => cases z
      | cons y xs => cases z
  have k3' : 0 < [aP, aV, aM].length := Nat.le_of_ble_eq_true rfl
  have hA : ∀ {a : Addr} {xs : List Str} {o : HO}, H a = some (.lst (xs.map V.str)) → All2 (fun t s => (upd H a o) t = some (.lst (srtV s))) ts sc.ss := fun {a xs o} ha => h2.imp fun t s z => (upd_ne (key ha z)).trans z
  have aSne : ∀ {a : Addr} {xs : List Str}, H a = some (.lst (xs.map V.str)) → aS ≠ a := fun {a xs} ha => keyr ha h1 (by rw [k1']; exact l0)
  have aKne : ∀ {a : Addr} {xs : List Str}, H a = some (.lst (xs.map V.str)) → aK ≠ a := fun {a xs} ha => keyr ha k3 k3'
  have Dp : ∀ {a : Addr} {xs : List Str} {o : HO}, H a = some (.lst (xs.map V.str)) → Drw (upd H a o) d c r := fun {a xs o} ha => D.put (strs_drc D ha).1 (strs_drc D ha).2.1 (strs_drc D ha).2.2
  have Ep : ∀ {a : Addr} {o : HO}, H0 a = none → Ext d r H0 (upd H a o) := fun {a o} ha b o' e m1 m2 => (upd_ne (ne_of_none e ha)).trans (E b o' e m1 m2)
  obtain rfl | rfl | rfl : k = 0 ∨ k = 1 ∨ k = 2 := by omega
  · exact ⟨_, aP, h3, rfl, h4, fun ws => ⟨⟨ts, aP, aV, aM, (upd_ne (aSne h4)).trans h1, hA h4, (upd_ne (aKne h4)).trans h3, upd_same, (upd_ne n1.symm).trans h5, (upd_ne n2.symm).trans h6, nd, n1, n2, n3, f1, f2, f3, f4⟩, Dp h4, Ep f2⟩⟩
  · exact ⟨_, aV, h3, rfl, h5, fun ws => ⟨⟨ts, aP, aV, aM, (upd_ne (aSne h5)).trans h1, hA h5, (upd_ne (aKne h5)).trans h3, (upd_ne n1).trans h4, upd_same, (upd_ne n3.symm).trans h6, nd, n1, n2, n3, f1, f2, f3, f4⟩, Dp h5, Ep f3⟩⟩
  · exact ⟨_, aM, h3, rfl, h6, fun ws => ⟨⟨ts, aP, aV, aM, (upd_ne (aSne h6)).trans h1, hA h6, (upd_ne (aKne h6)).trans h3, (upd_ne n2).trans h4, (upd_ne n3).trans h5, upd_same, nd, n1, n2, n3, f1, f2, f3, f4⟩, Dp h6, Ep f4⟩⟩

theorem SpB.more {H0 H H' : Hp} {d c r aS aK l : Addr} {sc : Sch} {o : HO} (h : SpB H0 H d c r aS aK sc) (n : H l = none) (s : Same H H') (hl : H' l = some o) : SpB (upd H0 l o) H' d c r aS aK sc := by
  obtain ⟨⟨ts, aP, aV, aM, h1, h2, h3, h4, h5, h6, nd, n1, n2, n3, f1, f2, f3, f4⟩, D, E⟩ := h.same s
  obtain ⟨⟨ts0, aP0, aV0, aM0, g1, g2, g3, g4, g5, g6, _⟩, _, _⟩ := h
  have e1 : ts0 = ts := by
    have z := (s _ _ g1).symm.trans h1
    injection z with z
    have z := HO.lst.inj z
    exact List.map_inj_right (fun a b e => V.ref.inj e) |>.mp z
  have e3 := (s _ _ g3).symm.trans h3
  cases e3
  subst e1
  refine ⟨⟨ts0, aP, aV, aM, h1, h2, h3, h4, h5, h6, nd, n1, n2, n3, fun t ht => ?_, ?_, ?_, ?_⟩, D, fun b x e m1 m2 => ?_⟩
  · obtain ⟨j, hj⟩ := List.getElem?_of_mem ht
    obtain ⟨b, _, hb⟩ := g2.get hj
    rw [upd_ne (ne_of_none hb n)]
    exact f1 t ht
  · rw [upd_ne (ne_of_none g4 n)]; exact f2
  · rw [upd_ne (ne_of_none g5 n)]; exact f3
  · rw [upd_ne (ne_of_none g6 n)]; exact f4
  · by_cases q : b = l
    · subst q
      rw [upd_same] at e
      cases e
      exact hl
    · rw [upd_ne q] at e
      exact E b x e m1 m2
theorem SpB.less {H0 H : Hp} {d c r aS aK l : Addr} {sc : Sch} {o : HO} (h : SpB (upd H0 l o) H d c r aS aK sc) (n : H0 l = none) : SpB H0 H d c r aS aK sc := by
  obtain ⟨⟨ts, aP, aV, aM, h1, h2, h3, h4, h5, h6, nd, n1, n2, n3, f1, f2, f3, f4⟩, D, E⟩ := h
  have key : ∀ t, (upd H0 l o) t = none → H0 t = none := fun t z => by
    by_cases q : t = l
    · subst q; rw [upd_same] at z; cases z
    · rw [upd_ne q] at z; exact z
  exact ⟨⟨ts, aP, aV, aM, h1, h2, h3, h4, h5, h6, nd, n1, n2, n3, fun t ht => key t (f1 t ht), key _ f2, key _ f3, key _ f4⟩, D, fun b x e m1 m2 => E b x ((upd_ne (ne_of_none e n)).trans e) m1 m2⟩
theorem SpB.kdr {H0 H : Hp} {d c r aS aK : Addr} {sc : Sch} (h : SpB H0 H d c r aS aK sc) : aK ≠ d ∧ aK ≠ r := by
  obtain ⟨ts, aP, aV, aM, h1, h2, h3, _⟩ := h.ex
  have k3 : H aK = some (.lst ([aP, aV, aM].map V.ref)) := h3
  exact ⟨(refs_drc h.drw k3).1, (refs_drc h.drw k3).2.1⟩
theorem wd_setS {sc : Sch} {n m j : Nat} {s' : Srt} (h : sc.wd n) (hm : n ≤ m) (h1 : Wn m s'.nm) (h2 : Wn m s'.ky) (h3 : ∀ z, s'.pt = some z → Wn m z) : (⟨sc.ss.set j s', sc.ps, sc.vs, sc.ms⟩ : Sch).wd m := by
  have w := (h.up hm).w
  refine ⟨fun z hz => ?_, fun x hx z hz => ?_, by rw [List.length_set]; exact h.l0, by rw [List.length_set]; exact h.l1, h.l2, h.l3, h.l4⟩
  · rcases List.mem_append.mp hz with y | y
    · obtain ⟨x, hx, rfl⟩ := List.mem_map.mp y
      rcases List.mem_or_eq_of_mem_set hx with e | e
      · exact w _ (List.mem_append.mpr (.inl (List.mem_map.mpr ⟨x, e, rfl⟩)))
      · rw [e]; exact h1
    · rcases List.mem_append.mp y with y | y
      · exact w _ (List.mem_append.mpr (.inr (List.mem_append.mpr (.inl y))))
      · rcases List.mem_append.mp y with y | y
        · obtain ⟨x, hx, rfl⟩ := List.mem_map.mp y
          rcases List.mem_or_eq_of_mem_set hx with e | e
          · exact w _ (List.mem_append.mpr (.inr (List.mem_append.mpr (.inr (List.mem_append.mpr (.inl (List.mem_map.mpr ⟨x, e, rfl⟩)))))))
          · rw [e]; exact h2
        · exact w _ (List.mem_append.mpr (.inr (List.mem_append.mpr (.inr (List.mem_append.mpr (.inr y))))))
  · rcases List.mem_or_eq_of_mem_set hx with e | e
    · exact (h.up hm).p x e z hz
    · rw [e] at hz; exact h3 z hz
theorem wd_setK {sc : Sch} {n m k : Nat} {ws : List Str} (h : sc.wd n) (hm : n ≤ m) (hl : ws.length = (kindOf sc k).length) (hw : ∀ z ∈ ws, Wn m z) : (setKind sc ws k).wd m := by
  have w := (h.up hm).w
  have p := (h.up hm).p
  have names : ∀ z ∈ sc.names, Wn m z := fun z hz => w z (List.mem_append.mpr (.inl hz))
  have cps : ∀ z ∈ sc.ps, Wn m z := fun z hz => w z (List.mem_append.mpr (.inr (List.mem_append.mpr (.inl hz))))
  have cks : ∀ z ∈ sc.ss.map Srt.ky, Wn m z := fun z hz => w z (List.mem_append.mpr (.inr (List.mem_append.mpr (.inr (List.mem_append.mpr (.inl hz))))))
  have cvs : ∀ z ∈ sc.vs, Wn m z := fun z hz => w z (List.mem_append.mpr (.inr (List.mem_append.mpr (.inr (List.mem_append.mpr (.inr (List.mem_append.mpr (.inl hz))))))))
  have cms : ∀ z ∈ sc.ms, Wn m z := fun z hz => w z (List.mem_append.mpr (.inr (List.mem_append.mpr (.inr (List.mem_append.mpr (.inr (List.mem_append.mpr (.inr hz))))))))
  have mk : ∀ (ps vs ms : List Str), (∀ z ∈ ps, Wn m z) → (∀ z ∈ vs, Wn m z) → (∀ z ∈ ms, Wn m z) → ps.length ≤ 2 → vs.length ≤ 3 → ms.length ≤ 3 → (⟨sc.ss, ps, vs, ms⟩ : Sch).wd m := fun ps vs ms a b c l2 l3 l4 => ⟨fun z hz => by
    rcases List.mem_append.mp hz with y | y
    · exact names z y
    · rcases List.mem_append.mp y with y | y
      · exact a z y
      · rcases List.mem_append.mp y with y | y
        · exact cks z y
        · rcases List.mem_append.mp y with y | y
          · exact b z y
          · exact c z y, p, h.l0, h.l1, l2, l3, l4⟩
  match k, hl with
  | 0, hl => exact mk _ _ _ hw cvs cms (by rw [hl]; exact h.l2) h.l3 h.l4
  | 1, hl => exact mk _ _ _ cps hw cms h.l2 (by rw [hl]; exact h.l3) h.l4
  | k + 2, hl => exact mk _ _ _ cps cvs hw h.l2 h.l3 (by rw [hl]; exact h.l4)
theorem kind_wn {sc : Sch} {n k : Nat} (h : sc.wd n) : ∀ z ∈ kindOf sc k, Wn n z := by
  have w := h.w
  match k with
  | 0 => exact fun z hz => w z (List.mem_append.mpr (.inr (List.mem_append.mpr (.inl hz))))
  | 1 => exact fun z hz => w z (List.mem_append.mpr (.inr (List.mem_append.mpr (.inr (List.mem_append.mpr (.inr (List.mem_append.mpr (.inl hz))))))))
  | k + 2 => exact fun z hz => w z (List.mem_append.mpr (.inr (List.mem_append.mpr (.inr (List.mem_append.mpr (.inr (List.mem_append.mpr (.inr hz))))))))
theorem kind_len {sc : Sch} {n k : Nat} (h : sc.wd n) : (kindOf sc k).length ≤ 3 := by
  match k with
  | 0 => exact Nat.le_trans h.l2 (by decide)
  | 1 => exact h.l3
  | k + 2 => exact h.l4
theorem setKind_ss {sc : Sch} {ws : List Str} {k : Nat} : (setKind sc ws k).ss = sc.ss := by
  match k with
  | 0 => rfl
  | 1 => rfl
  | k + 2 => rfl
def spSpoil : Sp := fun vs H Q _ => ∃ (H0 : Hp) (d c r aS aK : Addr) (sc : Sch) (n : Nat), vs = [.ref d, .ref aS, .ref aK] ∧ SpB H0 H d c r aS aK sc ∧ sc.wd n ∧ 9 ≤ n ∧ n ≤ 90 ∧ ∀ (sc' : Sch) (H' : Hp), SpB H0 H' d c r aS aK sc' → sc'.wd (n + 4) → Q .non H'
theorem qq_Wn : ∀ z ∈ (["qq", "rows", ""] : List Str), (∀ c ∈ z.cps.toList, c < 128) ∧ z.length ≤ 9 := by decide +kernel

/-- the items of the list or tuple at an address -/
theorem MadeAt.same {H H' : Hp} {t : Addr} {sc : Sch} (h : MadeAt H t sc) (s : Same H H') : MadeAt H' t sc := by
  unfold MadeAt at *
  split at h
  · exact s _ _ h
  · obtain ⟨l, h1, h2⟩ := h
    exact ⟨l, s _ _ h1, s _ _ h2⟩
theorem dbl_mem : ∀ {seen ws : List Str} {w : Str}, dblFrom seen ws = some w → w ∈ ws
  | _, [], _, h => by cases h
  | seen, x :: r, w, h => by
    rw [dbl_cons] at h
    split at h
    · cases h; exact List.mem_cons_self
    · exact List.mem_cons_of_mem _ (dbl_mem h)
theorem bad_Wn {sc : Sch} {n : Nat} {w : Str} (h : sc.wd n) (e : sc.bad = some w) : Wn n w := by
  unfold Sch.bad at e
  cases e1 : badWord (sc.names ++ sc.cols) with
  | some z =>
    rw [e1] at e
    cases e
    exact h.w _ (List.mem_of_find?_eq_some e1)
  | none =>
    rw [e1] at e
    cases e2 : dblFrom [] sc.names with
    | some z =>
      rw [e2] at e
      cases e
      exact h.w _ (List.mem_append.mpr (.inl (dbl_mem e2)))
    | none =>
      rw [e2] at e
      cases e3 : dblFrom [] sc.cols with
      | some z =>
        rw [e3] at e
        cases e
        exact h.w _ (List.mem_append.mpr (.inr (dbl_mem e3)))
      | none =>
        rw [e3] at e
        have e : badPart sc.ps sc.ss = some w := e
        unfold badPart at e
        obtain ⟨x, hx, hp⟩ := Option.bind_eq_some_iff.mp e
        exact h.p x (List.mem_of_find?_eq_some hx) w hp
def madeD (ws : List Str) : PyData := .tuple [.str "made", .list ((ws.map V.str).map vD)]
theorem lay_made {ws : List Str} (h : ∀ w ∈ ws, PyData.strOk w = true) : (madeD ws).canLay0 = true := by
  show (PyData.strOk "made" && (PyData.canLayAll0 ((ws.map V.str).map vD) && true)) = true
  rw [lay_vD fun v hv => (by obtain ⟨w, hw, rfl⟩ := List.mem_map.mp hv; exact h w hw), show PyData.strOk ("made" : Str) = true by decide +kernel]
  rfl
theorem shaped_made {ws : List Str} (h : ∀ w ∈ ws, PyData.strOk w = true) : SeqAt.shaped (madeD ws) = true := by
  unfold SeqAt.shaped
  rw [lay_made h]
  show decide (max 0 (max (PyData.depthAll ((ws.map V.str).map vD) + 1) 0) + 1 ≤ 64) = true
  rw [depth_vD]
  rfl
theorem r_neM {K : PySem.W.Frag} {H : Hp} {Q : VK} {t t' : Addr} {sc : Sch} {n : Nat} (hw : sc.wd n) (h1 : MadeAt H t sc) (h2 : MadeAt H t' sc) (q : Q (.bl false) H) : rNeD K (.ref t) (.ref t') H Q := by
  unfold MadeAt at h1 h2
  cases e : sc.bad with
  | some w =>
    rw [e] at h1 h2
    have hs := (bad_Wn hw e).sok
    have ok : ∀ v ∈ [V.str "bad", .str w, .bl true], eqD v := fun v hv => by
      simp only [List.mem_cons, List.mem_nil_iff, or_false] at hv
      rcases hv with rfl | rfl | rfl
      · exact show PyData.strOk ("bad" : Str) = true by decide +kernel
      · exact hs
      · trivial
    refine ⟨tupD [.str "bad", .str w, .bl true], tupD [.str "bad", .str w, .bl true], .tup (SqT.of h1) (dpAll_vD ok), .tup (SqT.of h2) (dpAll_vD ok), shaped_tup ok, shaped_tup ok, ?_⟩
    rw [SeqAt.eqv_refl _ (show (tupD _).canLay0 = true from lay_vD ok)]
    exact q
  | none =>
    rw [e] at h1 h2
    obtain ⟨l, h1, hl⟩ := h1
    obtain ⟨l', h2, hl'⟩ := h2
    have hs : ∀ w ∈ sc.cols, PyData.strOk w = true := fun w z => (hw.w w (List.mem_append.mpr (.inr z))).sok
    have ok : ∀ v ∈ sc.cols.map V.str, eqD v := fun v hv => by obtain ⟨w, hw, rfl⟩ := List.mem_map.mp hv; exact hs w hw
    refine ⟨madeD sc.cols, madeD sc.cols, .tup (SqT.of h1) (.cons (.str _) (.cons (.lst (SqL.of hl) (dpAll_vD ok)) .nil)), .tup (SqT.of h2) (.cons (.str _) (.cons (.lst (SqL.of hl') (dpAll_vD ok)) .nil)), shaped_made hs, shaped_made hs, ?_⟩
    rw [SeqAt.eqv_refl _ (lay_made hs)]
    exact q
theorem cut1_3 {a b c d : V} : cutV [a, b, c, d] (some 1) none = [b, c, d] := rfl
def spLaw (K : PySem.W.Frag) : Sp := fun vs H Q _ => ∃ (a : Addr) (ns : List Int), vs = [.ref a] ∧ SqL K H a (ns.map V.int) ∧ ns.length ≤ 63 ∧ ∀ H', Q (.bl true) H'

instance decSrt : DecidableEq Srt := fun a b => if h : a.nm = b.nm ∧ a.ky = b.ky ∧ a.pt = b.pt ∧ a.ds = b.ds then isTrue (by cases a; cases b; obtain ⟨h1, h2, h3, h4⟩ := h; cases h1; cases h2; cases h3; cases h4; rfl) else isFalse fun e => h (by rw [e]; exact ⟨rfl, rfl, rfl, rfl⟩)
instance decSch : DecidableEq Sch := fun a b => if h : a.ss = b.ss ∧ a.ps = b.ps ∧ a.vs = b.vs ∧ a.ms = b.ms then isTrue (by cases a; cases b; obtain ⟨h1, h2, h3, h4⟩ := h; cases h1; cases h2; cases h3; cases h4; rfl) else isFalse fun e => h (by rw [e]; exact ⟨rfl, rfl, rfl, rfl⟩)
theorem eqPt (a b : Option Str) : decide (partV a = partV b) = decide (a = b) := by
  rw [decide_eq_decide]
  cases a <;> cases b <;> simp [partV]
theorem scalPt (a b : Option Str) : scal (partV a) (partV b) = true := by cases a <;> cases b <;> rfl
theorem partV_inj {a b : Option Str} (h : partV a = partV b) : a = b := by
  cases a <;> cases b <;> first | rfl | (cases h; done) | (injection h with h; rw [h])
theorem srtF_inj {s t : Srt} (h : srtF s = srtF t) : s = t := by
  have h1 := (srt_name s).symm.trans ((congrArg _ h).trans (srt_name t))
  have h2 := (srt_key s).symm.trans ((congrArg _ h).trans (srt_key t))
  have h3 := (srt_part s).symm.trans ((congrArg _ h).trans (srt_part t))
  have h4 := (srt_desc s).symm.trans ((congrArg _ h).trans (srt_desc t))
  cases s
  cases t
  simp only [Option.some.injEq, V.str.injEq, V.bl.injEq] at h1 h2 h3 h4
  rw [h1, h2, partV_inj h3, h4]
theorem srt_ext {s t : Srt} (h1 : s.nm = t.nm) (h2 : s.ky = t.ky) (h3 : s.pt = t.pt) (h4 : s.ds = t.ds) : s = t := by
  cases s
  cases t
  cases h1
  cases h2
  cases h3
  cases h4
  rfl
theorem SortAt.fn {C : Addr} {H : Hp} {p : Addr} {s t : Srt} (h : SortAt C H p s) (k : SortAt C H p t) : s = t := by
  obtain ⟨dx, h⟩ := h
  obtain ⟨dy, k⟩ := k
  rw [h] at k
  injection k with k
  injection k with _ _ k
  exact srtF_inj k
open Classical in
noncomputable def eqAd (C : Addr) (H : Hp) (p q : Addr) : Bool := decide (∀ s t, SortAt C H p s → SortAt C H q t → s = t)
open Classical in
theorem eqAd_self (C : Addr) (H : Hp) (p : Addr) : eqAd C H p p = true := decide_eq_true fun _ _ h k => h.fn k
open Classical in
theorem eqAd_at {C : Addr} {H : Hp} {p q : Addr} {s t : Srt} (h : SortAt C H p s) (k : SortAt C H q t) : eqAd C H p q = decide (s = t) := by
  unfold eqAd
  rw [Bool.eq_iff_iff, decide_eq_true_eq, decide_eq_true_eq]
  exact ⟨fun z => z s t h k, fun z s' t' h' k' => (h'.fn h).trans (z.trans (k.fn k'))⟩
theorem All2.uncons {α β : Type} {P : α → β → Prop} {a : α} {b : β} {as : List α} {bs : List β} (h : All2 P (a :: as) (b :: bs)) : P a b ∧ All2 P as bs := ⟨h.at_ 0 a b rfl rfl, Nat.succ.inj h.len, fun j x y h1 h2 => h.at_ (j + 1) x y h1 h2⟩
theorem eqP_dec {C : Addr} {H : Hp} : ∀ {as bs : List Addr} {ss ts : List Srt}, All2 (SortAt C H) as ss → All2 (SortAt C H) bs ts → TC.eqP (eqAd C H) as bs = decide (ss = ts)
  | [], [], [], [], _, _ => rfl
  | [], b :: bs, [], t :: ts, _, _ => by rw [decide_eq_false fun z => nomatch z]; try rfl
  | a :: as, [], s :: ss, [], _, _ => by rw [decide_eq_false fun z => nomatch z]; try rfl
  | a :: as, b :: bs, s :: ss, t :: ts, h, k => by
    show (eqAd C H a b && TC.eqP (eqAd C H) as bs) = _
    rw [eqAd_at h.uncons.1 k.uncons.1, eqP_dec h.uncons.2 k.uncons.2, Bool.eq_iff_iff, Bool.and_eq_true, decide_eq_true_eq, decide_eq_true_eq, decide_eq_true_eq, List.cons.injEq]
  | [], _, _ :: _, _, h, _ => by cases h.len
  | _ :: _, _, [], _, h, _ => by cases h.len
  | _, [], _, _ :: _, _, k => by cases k.len
  | _, _ :: _, _, [], _, k => by cases k.len
def spSortEq (K : PySem.W.Frag) (C : Addr) : Sp := fun vs H Q _ => ∃ (p : Addr) (s : Srt) (v : V), vs = [.ref p, v] ∧ SortAt C H p s ∧
  ((∃ (q : Addr) (s' : Srt), v = .ref q ∧ SortAt C H q s' ∧ Q (.bl (decide (s = s'))) H) ∨ (∃ t, TyX K H v t ∧ PySem.W.kitOne K t (.ref C) = some false ∧ Q (.bl false) H))
def spSchEq (K : PySem.W.Frag) (CC CS : Addr) : Sp := fun vs H Q _ => ∃ (p : Addr) (s : Sch) (v : V), vs = [.ref p, v] ∧ SchAt K CC CS H p s ∧ s.good ∧
  ((∃ (q : Addr) (s' : Sch), v = .ref q ∧ SchAt K CC CS H q s' ∧ s'.good ∧ Q (.bl (decide (s = s'))) H) ∨ (∃ t, TyX K H v t ∧ PySem.W.kitOne K t (.ref CC) = some false ∧ Q (.bl false) H))
def spUSInit (C : Addr) : Sp := fun vs H Q _ => ∃ (a : Addr) (z : Str), vs = [.ref a, .str z] ∧ H a = some (exo a C none) ∧
  ∀ (dx : Addr) (H' : Hp), H dx = none → H' a = some (exo a C (some dx)) → H' dx = some (exd dx [("name", .str z)]) → (∀ b o, H b = some o → b ≠ a → H' b = some o) → Q .non H'
def findS (sc : Sch) (w : Str) : Option Srt := sc.ss.find? fun s => decide (s.nm = w)
def spNamed (K : PySem.W.Frag) (CC CS CU : Addr) : Sp := fun vs H Q E => ∃ (p : Addr) (s : Sch) (w : Str), vs = [.ref p, .str w] ∧ SchAt K CC CS H p s ∧
  (findS s w = none → ∀ (d : Addr) (H' : Hp), H d = none → H' d = some (.xd [("name", .str w)]) → Same H H' → E (.ref CU) (some d) H') ∧ (∀ x, findS s w = some x → ∀ q, SortAt CS H q x → Q (.ref q) H)
def spSortL (CS : Addr) : Sp := fun vs H Q _ => ∃ (t : Addr) (s : Srt), vs = [.ref t] ∧ H t = some (.tup (srtV s)) ∧ ∀ q H', H q = none → Same H H' → SortAt CS H' q s → Q (.ref q) H'
theorem strs_eqD {ws : List Str} (h : ∀ w ∈ ws, isNameB w = true) : ∀ v ∈ ws.map V.str, eqD v := fun v hv => by
  obtain ⟨w, hw, rfl⟩ := List.mem_map.mp hv
  exact isName_sok (h w hw)
theorem strs_kind {ws zs : List Str} : ∀ p ∈ (ws.map V.str).zip (zs.map V.str), sameKind p.1 p.2 = true := fun p hp => by
  obtain ⟨h1, h2⟩ := List.of_mem_zip (show (p.1, p.2) ∈ _ from hp)
  obtain ⟨w, _, e1⟩ := List.mem_map.mp h1
  obtain ⟨z, _, e2⟩ := List.mem_map.mp h2
  rw [← e1, ← e2]
  rfl
theorem strs_inj {ws zs : List Str} : (ws.map V.str = zs.map V.str) ↔ ws = zs := List.map_inj_right fun a b e => V.str.inj e
theorem Sch.good.wps {s : Sch} (h : s.good) : ∀ w ∈ s.ps, isNameB w = true := fun w z => h.w w (List.mem_append.mpr (.inr (List.mem_append.mpr (.inl z))))
theorem Sch.good.wks {s : Sch} (h : s.good) : ∀ x ∈ s.ss, isNameB x.ky = true := fun x z => h.w _ (List.mem_append.mpr (.inr (List.mem_append.mpr (.inr (List.mem_append.mpr (.inl (List.mem_map.mpr ⟨x, z, rfl⟩)))))))
theorem Sch.good.wns {s : Sch} (h : s.good) : ∀ x ∈ s.ss, isNameB x.nm = true := fun x z => h.w _ (List.mem_append.mpr (.inl (List.mem_map.mpr ⟨x, z, rfl⟩)))
theorem Sch.good.wvs {s : Sch} (h : s.good) : ∀ w ∈ s.vs, isNameB w = true := fun w z => h.w w (List.mem_append.mpr (.inr (List.mem_append.mpr (.inr (List.mem_append.mpr (.inr (List.mem_append.mpr (.inl z))))))))
theorem Sch.good.wms {s : Sch} (h : s.good) : ∀ w ∈ s.ms, isNameB w = true := fun w z => h.w w (List.mem_append.mpr (.inr (List.mem_append.mpr (.inr (List.mem_append.mpr (.inr (List.mem_append.mpr (.inr z))))))))
theorem Sch.good.wcs {s : Sch} (h : s.good) : ∀ w ∈ s.cols, isNameB w = true := fun w z => h.w w (List.mem_append.mpr (.inr z))
theorem Sch.good.wnm {s : Sch} (h : s.good) : ∀ w ∈ s.names, isNameB w = true := fun w z => h.w w (List.mem_append.mpr (.inl z))
theorem SpecAt.same {H H' : Hp} {p : Addr} {sc : Sch} (h : SpecAt H p sc) (s : Same H H') : SpecAt H' p sc := by
  obtain ⟨aS, aP, aV, aM, ts, h0, h1, h2, h3, h4, h5⟩ := h
  exact ⟨aS, aP, aV, aM, ts, s _ _ h0, s _ _ h1, h2.imp fun _ _ z => s _ _ z, s _ _ h3, s _ _ h4, s _ _ h5⟩
theorem SpecAt.ext {H H' : Hp} {p d c r : Addr} {sc : Sch} (h : SpecAt H p sc) (D : Drw H d c r) (e : Ext d r H H') : SpecAt H' p sc := by
  obtain ⟨aS, aP, aV, aM, ts, h0, h1, h2, h3, h4, h5⟩ := h
  have h0' : H p = some (.lst ([aS, aP, aV, aM].map V.ref)) := h0
  exact ⟨aS, aP, aV, aM, ts, e _ _ h0 (refs_drc D h0').1 (refs_drc D h0').2.1, e _ _ h1 (refs_drc D h1).1 (refs_drc D h1).2.1, h2.imp fun _ _ z => e _ _ z (tup_dr D z).1 (tup_dr D z).2, e _ _ h3 (strs_dr D h3).1 (strs_dr D h3).2, e _ _ h4 (strs_dr D h4).1 (strs_dr D h4).2, e _ _ h5 (strs_dr D h5).1 (strs_dr D h5).2⟩
def spColsS : Sp := fun vs H Q _ => ∃ (p : Addr) (sc : Sch), vs = [.ref p] ∧ SpecAt H p sc ∧ sc.good ∧ ∀ l H', H l = none → Same H H' → H' l = some (.lst (sc.cols.map V.str)) → Q (.ref l) H'
/-- the item of the tuple at an address -/
def idxT (H : Hp) (j : Nat) : V → V
  | .ref u => match H u with
    | some (.tup xs) => xs.getD j .non
    | _ => .non
  | _ => .non
theorem idxT_at {H : Hp} {j : Nat} {u : Addr} {xs : List V} {v : V} (h : H u = some (.tup xs)) (e : xs[j]? = some v) : idxT H j (.ref u) = v := by
  simp only [idxT, h]
  rw [List.getD_eq_getElem?_getD, e]
  rfl
theorem make_sortD {C : Addr} {H : Hp} {F : Addr → Hp → Prop} {E : XK} {sr : Srt} (h : ∀ x H', H x = none → Same H H' → SortAt C H' x sr → F x H') :
    ∀ x dx, H x = none → H dx = none → dx ≠ x → spSortInit C [.ref x, .str sr.nm, .str sr.ky, partV sr.pt, .bl sr.ds] (upd (upd H dx (.own x)) x (.ins C dx [])) (fun v H2 => v = .non ∧ F x H2) E :=
  fun x dx nx nd _ => ⟨x, dx, sr, rfl, upd_same, fun H' ho hk => ⟨rfl, h x H' nx (same_make nx nd hk) ho⟩⟩
section
variable {P : Program} {w : World} {K : PySem.W.Frag} {mg : Str → Option Value} {base : Heap}

theorem r_sdesc {H : Hp} {p : Addr} {sr : Srt} {F : V → Prop} (T : Txt K mg) (o : SortAt T.C_Sort H p sr) (h : F (.bl sr.ds)) : ∃ a C dx fs v, V.ref p = .ref a ∧ H a = some (.ins C dx fs) ∧ Cls K C ∧ NoAttr K C "descending" ∧ fs.lookup ("descending" : Str) = some v ∧ F v := by
  obtain ⟨dx, e⟩ := o
  exact r_get e T.c_Sort T.nf_Sort_descending (srt_desc sr) h
theorem sort_ty (T : Txt K mg) {H : Hp} {p : Addr} {sr : Srt} (h : SortAt T.C_Sort H p sr) : TyX K H (.ref p) (.ref T.C_Sort) := by
  obtain ⟨dx, e⟩ := h
  exact .base (.ins e T.c_Sort T.ca_Sort T.cn_Sort T.ct_Sort T.cm_Sort)
theorem sch_ty (T : Txt K mg) {H : Hp} {p : Addr} {sc : Sch} (h : SchAt K T.C_Scheme T.C_Sort H p sc) : TyX K H (.ref p) (.ref T.C_Scheme) := by
  obtain ⟨dx, tS, tP, tV, tM, as, e, _⟩ := h
  exact .base (.ins e T.c_Scheme T.ca_Scheme T.cn_Scheme T.ct_Scheme T.cm_Scheme)
theorem ok_Sort___eq__ (T : Txt K mg) : FnOk P w K mg base CX0 1 T.f_Sort___eq__ T.d_Sort___eq__ ["self", "other"] (spSortEq K T.C_Sort) := by
  refine T.F_Sort___eq__.ok sc_Sort___eq__ (fun vs H Q E h => ?_) (fun cdv A outer s H vs Q E hr h => ?_)
  · obtain ⟨p, sr, v, rfl, _⟩ := h
    rfl
  obtain ⟨p, sr, v, rfl, o, q⟩ := h
  refine ⟨_, (pss_cons (ps_if (PW.pt (pw_or (pt_not (pt_val (pe_callB call_isi (by rfl) T.z_isinstance (by decide +kernel) (pa_cons (pv 1) (pa_cons (pe_glob (v := .ref T.C_Sort) rfl T.g_Sort rfl) pa_nil))))) (pw_or (pt_cmpR op_ne (pe_fldK (K := K) (pv 0)) (pe_fldK (K := K) (pv 1)) (nomark _)) (pw_or1 (pt_cmpR op_ne (pe_fldK (K := K) (pv 0)) (pe_fldK (K := K) (pv 1)) (nomark _)))))) (pss_one (ps_ret pe_bl)) pss_nil)
      (pss_one (ps_ret (pe_and (pe_cmpR op_eq (pe_fldK (K := K) (pv 0)) (pe_fldK (K := K) (pv 1)) (nomark _)) (pe_one (pe_cmpR op_eq (pe_fldK (K := K) (pv 0)) (pe_fldK (K := K) (pv 1)) (nomark _))))))), ?_⟩
  try simp only [nox_K, cx_K]
  rcases q with ⟨p2, sr', rfl, o2, q⟩ | ⟨t, ty, hk, q⟩
  · wtm_at "rd"
    refine r_isi (.own _) (sort_ty T o2) kit_self ?_
    wtm_at "rdi"
    refine r_sname T o ?_
    wtm_at "rd"
    refine r_sname T o2 ?_
    wtm_at "rd"
    refine r_iten (fun e1 => ?_) (fun e1 => ?_)
    · wtm_at "rdi"
      exact bl_to q (by rw [decide_eq_false fun z => e1 (congrArg Srt.nm z)])
    wtm_at "rd"
    refine r_skey T o ?_
    wtm_at "rd"
    refine r_skey T o2 ?_
    wtm_at "rd"
    refine r_iten (fun e2 => ?_) (fun e2 => ?_)
    · wtm_at "rdi"
      exact bl_to q (by rw [decide_eq_false fun z => e2 (congrArg Srt.ky z)])
    wtm_at "rd"
    refine r_spart T o ?_
    wtm_at "rd"
    refine r_spart T o2 ?_
    wtm_at "rd"
    refine ⟨scalPt _ _, ?_⟩
    rw [eqPt]
    wtm_at "rd"
    refine r_ite (fun e3 => ?_) (fun e3 => ?_)
    · wtm_at "rd"
      refine r_sdesc T o ?_
      wtm_at "rd"
      refine r_sdesc T o2 ?_
      wtm_at "rd"
      refine bl_to q ?_
      rw [Bool.eq_iff_iff, beq_iff_eq, decide_eq_true_eq]
      exact ⟨fun z => srt_ext e1 e2 e3 z, fun z => congrArg Srt.ds z⟩
    · exact bl_to q (by rw [decide_eq_false fun z => e3 (congrArg Srt.pt z)])
  · wtm_at "rd"
    refine r_isi (.own _) ty hk ?_
    wtm_at "rdi"
    exact q

theorem raise_name {C : Addr} {z : Str} {H : Hp} {Q : XK} (h : ∀ (d : Addr) (H' : Hp), H d = none → H' d = some (.xd [("name", .str z)]) → Same H H' → Q (.ref C) (some d) H') :
    ∀ a, H a = none → spUSInit C (.ref a :: ([V.str z] ++ [])) (upd H a (exo a C none)) (fun v H2 => v = .non ∧ ∃ (d : Addr) (fs : List (Str × V)), H2 a = some (exo a C (some d)) ∧ H2 d = some (exd d fs) ∧ H d = none ∧ Q (.ref C) (some d) (upd (del H2 a) d (.xd fs))) (fun _ _ _ => False) := by
  intro a na
  refine ⟨a, z, rfl, upd_same, fun dx H' nd ha hd hk => ⟨rfl, dx, _, ha, hd, (same_new na).free nd, ?_⟩⟩
  refine h dx _ ((same_new na).free nd) upd_same fun b o e => ?_
  have nb : b ≠ a := ne_of_none e na
  rw [upd_ne (ne_of_none e ((same_new na).free nd)), del_ne nb]
  exact hk b o (by rw [upd_ne nb]; exact e) nb
theorem ok_Scheme___eq__ (T : Txt K mg) : FnOk P w K mg base CX0 3 T.f_Scheme___eq__ T.d_Scheme___eq__ ["self", "other"] (spSchEq K T.C_Scheme T.C_Sort) := by
  refine T.F_Scheme___eq__.ok sc_Scheme___eq__ (fun vs H Q E h => ?_) (fun cdv A outer s H vs Q E hr h => ?_)
  · obtain ⟨p, sc, v, rfl, _⟩ := h
    rfl
  obtain ⟨p, sc, v, rfl, o, hg, q⟩ := h
  refine ⟨_, (pss_cons (ps_if (PW.pt (pw_or (pt_not (pt_val (pe_callB call_isi (by rfl) T.z_isinstance (by decide +kernel) (pa_cons (pv 1) (pa_cons (pe_glob (v := .ref T.C_Scheme) rfl T.g_Scheme rfl) pa_nil))))) (pw_or1 (pt_cmpR (TC.op_neTO T.mt_Sort___eq__.at_ T.mt_Sort___eq__.fn (ok_Sort___eq__ T) (hr.mono (by decide)) T.b_Sort___eq__ pass0) (pe_fldK (K := K) (pv 0)) (pe_fldK (K := K) (pv 1)) (nomark _))))) (pss_one (ps_ret pe_bl)) pss_nil)
      (pss_cons (ps_if (PW.pt (pw_or (pt_cmpR (op_neD hr.units) (pe_fldK (K := K) (pv 0)) (pe_fldK (K := K) (pv 1)) (nomark _)) (pw_or1 (pt_cmpR (op_neD hr.units) (pe_fldK (K := K) (pv 0)) (pe_fldK (K := K) (pv 1)) (nomark _))))) (pss_one (ps_ret pe_bl)) pss_nil)
      (pss_one (ps_ret (pe_cmpR (op_eqD hr.units) (pe_fldK (K := K) (pv 0)) (pe_fldK (K := K) (pv 1)) (nomark _)))))), ?_⟩
  try simp only [nox_K, cx_K]
  rcases q with ⟨p2, sd, rfl, o2, hg2, q⟩ | ⟨t, ty, hk, q⟩
  · wtm_at "rd"
    refine r_isi (.own _) (sch_ty T o2) kit_self ?_
    obtain ⟨dx, tS, tP, tV, tM, as, e, hS, hA, hP, hV, hM⟩ := o
    obtain ⟨dx2, tS2, tP2, tV2, tM2, as2, e2, hS2, hA2, hP2, hV2, hM2⟩ := o2
    wtm_at "rdi"
    refine r_get e T.c_Scheme T.nf_Scheme_sorts (sch_sorts _ _ _ _) ?_
    wtm_at "rd"
    refine r_get e2 T.c_Scheme T.nf_Scheme_sorts (sch_sorts _ _ _ _) ?_
    wtm_at "rd"
    refine ⟨tS, tS2, as, as2, eqAd T.C_Sort H, rfl, rfl, hS, hS2, eqAd_self _ _, fun x hx y hy => ?_, ?_⟩
    · obtain ⟨j, hj⟩ := List.getElem?_of_mem hx
      obtain ⟨i, hi⟩ := List.getElem?_of_mem hy
      obtain ⟨s1, _, o1⟩ := hA.get hj
      obtain ⟨s2, _, o2⟩ := hA2.get hi
      obtain ⟨d1, z1⟩ := id o1
      obtain ⟨d2, z2⟩ := id o2
      exact ⟨⟨_, _, z1⟩, ⟨_, _, z2⟩, x, s1, .ref y, rfl, o1, .inl ⟨y, s2, rfl, o2, by rw [eqAd_at o1 o2], rfl⟩⟩
    rw [eqP_dec hA hA2]
    wtm_at "rd"
    refine r_iten (fun e3 => ?_) (fun e3 => ?_)
    · wtm_at "rdi"
      exact bl_to q (by rw [decide_eq_false fun z => e3 (congrArg Sch.ss z)])
    wtm_at "rd"
    refine r_get e T.c_Scheme T.nf_Scheme_part_columns (sch_parts _ _ _ _) ?_
    wtm_at "rd"
    refine r_get e2 T.c_Scheme T.nf_Scheme_part_columns (sch_parts _ _ _ _) ?_
    refine r_neTT hP hP2 (strs_eqD hg.wps) (strs_eqD hg2.wps) strs_kind ?_
    wtm_at "rd"
    refine r_iten (fun e4 => ?_) (fun e4 => ?_)
    · wtm_at "rdi"
      exact bl_to q (by rw [decide_eq_false fun z => e4 (strs_inj.mpr (congrArg Sch.ps z))])
    wtm_at "rd"
    refine r_get e T.c_Scheme T.nf_Scheme_value_columns (sch_values _ _ _ _) ?_
    wtm_at "rd"
    refine r_get e2 T.c_Scheme T.nf_Scheme_value_columns (sch_values _ _ _ _) ?_
    refine r_neTT hV hV2 (strs_eqD hg.wvs) (strs_eqD hg2.wvs) strs_kind ?_
    wtm_at "rd"
    refine r_iten (fun e5 => ?_) (fun e5 => ?_)
    · wtm_at "rdi"
      exact bl_to q (by rw [decide_eq_false fun z => e5 (strs_inj.mpr (congrArg Sch.vs z))])
    wtm_at "rd"
    refine r_get e T.c_Scheme T.nf_Scheme_mark_columns (sch_marks _ _ _ _) ?_
    wtm_at "rd"
    refine r_get e2 T.c_Scheme T.nf_Scheme_mark_columns (sch_marks _ _ _ _) ?_
    refine r_eqTT hM hM2 (strs_eqD hg.wms) (strs_eqD hg2.wms) strs_kind ?_
    refine bl_to q ?_
    rw [decide_eq_decide]
    refine ⟨fun z => ?_, fun z => strs_inj.mpr (congrArg Sch.ms z)⟩
    cases sc
    cases sd
    cases e3
    cases strs_inj.mp e4
    cases strs_inj.mp e5
    cases strs_inj.mp z
    rfl
  · wtm_at "rd"
    refine r_isi (.own _) ty hk ?_
    wtm_at "rdi"
    exact q

end

theorem make_sch {K : PySem.W.Frag} {CC CS CB : Addr} {H : Hp} {F : Addr → Hp → Prop} {E : XK} {sc : Sch} {D aP aV aM : Addr} {gs : List Addr} (hg : sc.good) (hD : H D = some (.lst (gs.map V.ref))) (hA : All2 (SortAt CS H) gs sc.ss) (hP : SqA K H aP (sc.ps.map V.str)) (hV : SqA K H aV (sc.vs.map V.str)) (hM : SqA K H aM (sc.ms.map V.str))
    (h : ∀ x H', Same H H' → SchAt K CC CS H' x sc → F x H') : ∀ x dx, H x = none → H dx = none → dx ≠ x → spSchInit K CC CS CB [.ref x, .ref D, .ref aP, .ref aV, .ref aM] (upd (upd H dx (.own x)) x (.ins CC dx [])) (fun v H2 => v = .non ∧ F x H2) E := fun x dx nx nd nxd => by
  have s0 : Same H (upd (upd H dx (.own x)) x (.ins CC dx [])) := same_two nx nd
  exact ⟨x, dx, D, aP, aV, aM, sc, gs, rfl, upd_same, .inl (SqL.of (s0 _ _ hD)), hA.imp fun _ _ z => z.same s0, hP.same s0, hV.same s0, hM.same s0, hg.small, fun w hb => (by rw [hg.not_bad] at hb; cases hb), fun hb H8 o8 hk => ⟨rfl, h x H8 (same_make nx nd hk) o8⟩⟩
def spSchemeL (K : PySem.W.Frag) (CC CS : Addr) : Sp := fun vs H Q _ => ∃ (a : Addr) (sc : Sch), vs = [.ref a] ∧ SpecAt H a sc ∧ sc.good ∧ ∀ p H', Same H H' → SchAt K CC CS H' p sc → Q (.ref p) H'
section
variable {P : Program} {w : World} {K : PySem.W.Frag} {mg : Str → Option Value} {base : Heap}

theorem ok__law_scheme (T : Txt K mg) : FnOk P w K mg base CX0 7 T.f__law_scheme T.d__law_scheme ["_law_spec_here"] (spSchemeL K T.C_Scheme T.C_Sort) := by
  refine T.F__law_scheme.ok sc__law_scheme (fun vs H Q E h => ?_) (fun cdv A outer s H vs Q E hr h => ?_)
  · obtain ⟨p, sc, rfl, _⟩ := h
    rfl
  obtain ⟨p, sc, rfl, so, hg, q⟩ := h
  refine ⟨_, (pss_cons (ps_setLc (i := 1) (own := [("_law_one", 2)]) (g := gName 2) (tt := tYes) rfl sc__law_scheme.nd rfl rfl (sw_true rfl rfl rfl (by decide +kernel)) (pi_list (pe_ix (r := rIxL K) ix_list (pv 0) pe_int (fun _ _ => rfl))) (blkOk_by (N := ["_law_spec_here", "_law_sorts", "_law_one"]) (sc := defScope s__law_scheme) (by decide +kernel)) (fun _ _ _ _ _ => pg_name (i := 2) sc__law_scheme.nd rfl (by first | exact Or.inl rfl | exact Or.inr rfl)) (fun _ _ _ _ _ => pts_nil) (fun _ _ _ _ _ => (pe_makeN T.m_Sort (ok_Sort___init__ T) (hr.mono (by decide)) (by rfl) T.g_Sort T.kn_Sort___init__ pass0 (pa_cons (pe_ix (r := rIxT K) ix_tup (pv 2) pe_int (fun _ _ => rfl)) (pa_cons (pe_ix (r := rIxT K) ix_tup (pv 2) pe_int (fun _ _ => rfl)) pa_nil)) (pk_cons (pe_ix (r := rIxT K) ix_tup (pv 2) pe_int (fun _ _ => rfl)) (pk_cons (pe_ix (r := rIxT K) ix_tup (pv 2) pe_int (fun _ _ => rfl)) pk_nil)))))
      (pss_one (ps_ret (pe_makeN T.m_Scheme (ok_Scheme___init__ T) (hr.mono (by decide)) (by rfl) T.g_Scheme T.kn_Scheme___init__ passL (pa_cons (pv 1) pa_nil) (pk_cons (pe_callTy c_listA (by rfl) T.z_list (by decide +kernel) (pa_cons (pe_ix (r := rIxL K) ix_list (pv 0) pe_int (fun _ _ => rfl)) pa_nil)) (pk_cons (pe_callTy c_listA (by rfl) T.z_list (by decide +kernel) (pa_cons (pe_ix (r := rIxL K) ix_list (pv 0) pe_int (fun _ _ => rfl)) pa_nil)) (pk_cons (pe_callTy c_listA (by rfl) T.z_list (by decide +kernel) (pa_cons (pe_ix (r := rIxL K) ix_list (pv 0) pe_int (fun _ _ => rfl)) pa_nil)) pk_nil))))))), ?_⟩
  try simp only [nox_K, cx_K]
  obtain ⟨aS, aP, aV, aM, ts, h0, h1, h2, h4, h5, h6⟩ := id so
  have l1 := hg.l1
  wtm_at "rd"
  refine r_itl (SqL.of h1) ?_
  intro D nD
  refine lc_list (K := K) (a := aS) (xs := ts.map V.ref) (fun i H' => ∃ gs : List Addr, H' D = some (.lst (gs.map V.ref)) ∧ All2 (SortAt T.C_Sort H') gs (sc.ss.take i) ∧ Same H H') ⟨[], upd_same, by rw [List.take_zero]; exact All2.nil, same_new nD⟩ (fun i H' _ ⟨_, _, _, s⟩ => SqL.of (s _ _ h1)) ?_ ?_
  · rintro i v H4 hv ⟨gs, hD4, G4, s4⟩
    rw [List.getElem?_map] at hv
    obtain ⟨b, hb, rfl⟩ := Option.map_eq_some_iff.mp hv
    obtain ⟨sr, hsr, hbf⟩ := h2.get hb
    have hb4 : H4 b = some (.tup [.str sr.nm, .str sr.ky, partV sr.pt, .bl sr.ds]) := s4 _ _ hbf
    refine ⟨wipe1, r_yes (iteT ?_)⟩
    wtm_at "rd"
    refine ⟨rfl, rfl, make_sort fun x H5 nx s5 o5 => ?_⟩
    have hD5 := s5 _ _ hD4
    have gl : gs.length ≤ 3 := by rw [G4.len, List.length_take]; omega
    refine ⟨_, hD5, small1000 (by rw [List.length_map]; omega), gs ++ [x], by rw [upd_same, List.map_append]; try rfl, ?_, fun b o e => (upd_ne (ne_of_none e nD)).trans (s5 _ _ (s4 _ _ e))⟩
    rw [List.take_add_one, hsr]
    exact All2.snoc (G4.imp fun _ _ z => (z.same s5).put hD5 fun _ _ _ y => nomatch y) (o5.put hD5 fun _ _ _ y => nomatch y)
  rintro H4 ⟨gs, hD4, G4, s4⟩
  rw [List.length_map, h2.len, List.take_length] at G4
  have h0 := s4 _ _ h0
  have h4 := s4 _ _ h4
  have h5 := s4 _ _ h5
  have h6 := s4 _ _ h6
  wtm_at "rd"
  refine r_listA (.inl (SqL.of h4)) fun bP n_bP => ?_
  generalize eq_bP : upd _ bP _ = H5
  have s_bP : Same _ H5 := eq_bP ▸ same_new n_bP
  have h_bP : H5 bP = some _ := eq_bP ▸ upd_same
  clear eq_bP
  have h0 := s_bP _ _ h0
  have h5 := s_bP _ _ h5
  have h6 := s_bP _ _ h6
  have hD4 := s_bP _ _ hD4
  have s4 := s4.trans s_bP
  have G4 := G4.imp fun _ _ z => z.same s_bP
  wtm_at "rd"
  refine r_listA (.inl (SqL.of h5)) fun bV n_bV => ?_
  generalize eq_bV : upd _ bV _ = H6
  have s_bV : Same _ H6 := eq_bV ▸ same_new n_bV
  have h_bV : H6 bV = some _ := eq_bV ▸ upd_same
  clear eq_bV
  have h0 := s_bV _ _ h0
  have h6 := s_bV _ _ h6
  have hD4 := s_bV _ _ hD4
  have h_bP := s_bV _ _ h_bP
  have s4 := s4.trans s_bV
  have G4 := G4.imp fun _ _ z => z.same s_bV
  wtm_at "rd"
  refine r_listA (.inl (SqL.of h6)) fun bM n_bM => ?_
  generalize eq_bM : upd _ bM _ = H7
  have s_bM : Same _ H7 := eq_bM ▸ same_new n_bM
  have h_bM : H7 bM = some _ := eq_bM ▸ upd_same
  clear eq_bM
  have h0 := s_bM _ _ h0
  have hD4 := s_bM _ _ hD4
  have h_bP := s_bM _ _ h_bP
  have h_bV := s_bM _ _ h_bV
  have s4 := s4.trans s_bM
  have G4 := G4.imp fun _ _ z => z.same s_bM
  wtm_at "rd"
  exact ⟨rfl, rfl, make_sch hg hD4 G4 (.inl (SqL.of h_bP)) (.inl (SqL.of h_bV)) (.inl (SqL.of h_bM)) fun x H8 s8 o8 => q x _ (s4.trans s8) o8⟩

end

theorem op_notInK {X : Cx} (K : PySem.W.Frag) (hK : X.K = K) : OpR X (compareOp .NotIn) (rIn K true) := by subst hK; exact op_notIn_seq
theorem op_inK {X : Cx} (K : PySem.W.Frag) (hK : X.K = K) : OpR X (compareOp .In) (rIn K false) := by subst hK; exact op_in_seq
/-! ### for x in a list or a tuple -/
def iSeq (K : PySem.W.Frag) (tl : TE) : TI := fun σ H R => tl σ H fun x H1 => ∃ a, x = .ref a ∧ (((∃ xs, SqL K H1 a xs) ∧ R (Itl K a) H1) ∨ ((∃ xs, SqT K H1 a xs) ∧ R (Itt K a) H1))
theorem pi_seq {X : Cx} {tg l : Expr} {tl : TE} (hl : PE X l tl) : L2.PI X tg l (iSeq X.K tl) := by
  refine ⟨fun pins s σ H R I h => ?_⟩
  refine thn (hl.run pins s σ H _ I h) fun v s1 ⟨x, H1, I1, r1, q1⟩ => ?_
  obtain ⟨a, e, q⟩ := q1
  subst e
  cases r1
  have fin : ∀ b, b ∈ [s1.heap.objs.size] → s1.heap.objs.size ≤ b ∧ b = s1.heap.objs.size := fun b hb => by
    have e : b = s1.heap.objs.size := by simpa using hb
    exact ⟨Nat.le_of_eq e.symm, e⟩
  rcases q with ⟨⟨xs, hq⟩, q⟩ | ⟨⟨xs, hq⟩, q⟩
  · obtain ⟨its, rv, p, hz⟩ := I1.list hq
    refine wpAny_pyIter_list p.isList ?_
    refine ⟨s1.heap.objs.size, [s1.heap.objs.size], _, _, H1, rfl, I1.kept (t' := s1.toks) fun b o e => Heap.get?_push_of_some _ e, turn_list a _, ⟨_, Heap.get?_push_size _ rfl, rfl, rfl⟩, fun b hb => ?_, q⟩
    rw [(fin b hb).2]
    exact I1.fpOk (Nat.le_refl _) (I1.hok.fresh (Nat.le_refl _))
  · obtain ⟨its, rv, p, hz⟩ := I1.tuple hq
    refine wpAny_pyIter_tuple (show s1.heap.IsTuple a its.toArray from p) ?_
    refine ⟨s1.heap.objs.size, [s1.heap.objs.size], _, _, H1, rfl, I1.kept (t' := s1.toks) fun b o e => Heap.get?_push_of_some _ e, turn_tuple a _, ⟨_, Heap.get?_push_size _ rfl, rfl, rfl⟩, fun b hb => ?_, q⟩
    rw [(fin b hb).2]
    exact I1.fpOk (Nat.le_refl _) (I1.hok.fresh (Nat.le_refl _))
theorem r_isq {K : PySem.W.Frag} {tl : TE} {σ : L2.St} {H : Hp} {R : It → Hp → Prop} (h : tl σ H fun x H1 => ∃ a, x = .ref a ∧ (((∃ xs, SqL K H1 a xs) ∧ R (Itl K a) H1) ∨ ((∃ xs, SqT K H1 a xs) ∧ R (Itt K a) H1))) : iSeq K tl σ H R := h
/-! ### faults of facts -/
inductive Flt
  | col (z : Str)
  | uni (i : Nat)
  | fix (i : Nat)
abbrev Fx := List Str × Str
def knownF (sc : Sch) (u : List Str) : Option Str := u.find? fun z => !decide (z ∈ sc.cols)
def usableB (sc : Sch) (u : List Str) : Bool := (u.filter fun z => decide (z ∈ sc.ms)).isEmpty && decide (0 < (u.filter fun z => !decide (z ∈ sc.ps)).length)
def fltU (sc : Sch) : List (List Str) → Nat → Option Flt
  | [], _ => none
  | u :: us, i => match knownF sc u with
    | some z => some (.col z)
    | none => if usableB sc u then fltU sc us (i + 1) else some (.uni i)
def fltF (sc : Sch) : List Fx → Nat → Option Flt
  | [], _ => none
  | f :: fs, i => match knownF sc (f.1 ++ [f.2]) with
    | some z => some (.col z)
    | none => if usableB sc f.1 then fltF sc fs (i + 1) else some (.fix i)
def flt (sc : Sch) (us : List (List Str)) (fs : List Fx) : Option Flt := match fltU sc us 0 with
  | some x => some x
  | none => fltF sc fs 0
def spIxInit (C : Addr) : Sp := fun vs H Q _ => ∃ (a : Addr) (i : Int), vs = [.ref a, .int i] ∧ H a = some (exo a C none) ∧
  ∀ (dx : Addr) (H' : Hp), H dx = none → H' a = some (exo a C (some dx)) → H' dx = some (exd dx [("index", .int i)]) → (∀ b o, H b = some o → b ≠ a → H' b = some o) → Q .non H'
theorem raise_index {C : Addr} {i : Int} {H : Hp} {Q : XK} (h : ∀ (d : Addr) (H' : Hp), H d = none → H' d = some (.xd [("index", .int i)]) → Same H H' → Q (.ref C) (some d) H') :
    ∀ a, H a = none → spIxInit C (.ref a :: ([V.int i] ++ [])) (upd H a (exo a C none)) (fun v H2 => v = .non ∧ ∃ (d : Addr) (fs : List (Str × V)), H2 a = some (exo a C (some d)) ∧ H2 d = some (exd d fs) ∧ H d = none ∧ Q (.ref C) (some d) (upd (del H2 a) d (.xd fs))) (fun _ _ _ => False) := by
  intro a na
  refine ⟨a, i, rfl, upd_same, fun dx H' nd ha hd hk => ⟨rfl, dx, _, ha, hd, (same_new na).free nd, ?_⟩⟩
  refine h dx _ ((same_new na).free nd) upd_same fun b o e => ?_
  have nb : b ≠ a := ne_of_none e na
  rw [upd_ne (ne_of_none e ((same_new na).free nd)), del_ne nb]
  exact hk b o (by rw [upd_ne nb]; exact e) nb
def spKnown (K : PySem.W.Frag) (CC CS CU : Addr) : Sp := fun vs H Q E => ∃ (p a : Addr) (sc : Sch) (u : List Str), vs = [.ref p, .ref a] ∧ SchAt K CC CS H p sc ∧ sc.good ∧ SqA K H a (u.map V.str) ∧ u.length ≤ 100 ∧
  (∀ z, knownF sc u = some z → ∀ (d : Addr) (H' : Hp), H d = none → H' d = some (.xd [("name", .str z)]) → Same H H' → E (.ref CU) (some d) H') ∧ (knownF sc u = none → ∀ H', Same H H' → Q .non H')
def spUsable (K : PySem.W.Frag) (CC CS : Addr) : Sp := fun vs H Q _ => ∃ (p a : Addr) (sc : Sch) (u : List Str), vs = [.ref p, .ref a] ∧ SchAt K CC CS H p sc ∧ H a = some (.lst (u.map V.str)) ∧ u.length ≤ 100 ∧ ∀ H', Same H H' → Q (.bl (usableB sc u)) H'
theorem filt_s (f : Str → Bool) (u : List Str) (g : V → Bool) (h : ∀ z ∈ u, g (.str z) = f z) : (u.map V.str).filter g = (u.filter f).map V.str := by
  rw [List.filter_map]
  congr 1
  exact List.filter_congr fun z hz => h z hz
theorem r_notT {K : PySem.W.Frag} {ta : TE} {σ : L2.St} {H : Hp} {Q : VK} (h : ta σ H fun x H1 => ∃ k, TruV K x H1 k ∧ Q (.bl (!k)) H1) : tNotT K ta σ H Q := h
def strV : V → Str
  | .str z => z
  | _ => ""
section
variable {P : Program} {w : World} {K : PySem.W.Frag} {mg : Str → Option Value} {base : Heap}
theorem ok_UnknownColumn___init__ (T : Txt K mg) : FnOk P w K mg base CX0 1 T.f_UnknownColumn___init__ T.d_UnknownColumn___init__ ["self", "name"] (spUSInit T.C_UnknownColumn) := by
  refine T.F_UnknownColumn___init__.ok sc_UnknownColumn___init__ (fun vs H Q E h => ?_) (fun cdv A outer s H vs Q E hr h => ?_)
  · obtain ⟨a, z, rfl, _⟩ := h
    rfl
  obtain ⟨a, z, rfl, ha, q⟩ := h
  refine ⟨_, (pss_one (ps_ost (pv 0) (pv 1))), ?_⟩
  try simp only [nox_K, cx_K]
  wtm_at "rd"
  refine ⟨a, _, rfl, T.ox_UnknownColumn, T.nf_UnknownColumn_name, .inl ⟨ha, fun dx nd ne => ?_⟩⟩
  wtm_at "rd"
  refine q dx _ nd upd_same ?_ fun b o e nb => ?_
  · rw [upd_ne ne, upd_same]
  · rw [upd_ne nb, upd_ne (ne_of_none e nd)]
    exact e
theorem ok_BadUnique___init__ (T : Txt K mg) : FnOk P w K mg base CX0 1 T.f_BadUnique___init__ T.d_BadUnique___init__ ["self", "index"] (spIxInit T.C_BadUnique) := by
  refine T.F_BadUnique___init__.ok sc_BadUnique___init__ (fun vs H Q E h => ?_) (fun cdv A outer s H vs Q E hr h => ?_)
  · obtain ⟨a, z, rfl, _⟩ := h
    rfl
  obtain ⟨a, z, rfl, ha, q⟩ := h
  refine ⟨_, (pss_one (ps_ost (pv 0) (pv 1))), ?_⟩
  try simp only [nox_K, cx_K]
  wtm_at "rd"
  refine ⟨a, _, rfl, T.ox_BadUnique, T.nf_BadUnique_index, .inl ⟨ha, fun dx nd ne => ?_⟩⟩
  wtm_at "rd"
  refine q dx _ nd upd_same ?_ fun b o e nb => ?_
  · rw [upd_ne ne, upd_same]
  · rw [upd_ne nb, upd_ne (ne_of_none e nd)]
    exact e
theorem ok_BadFix___init__ (T : Txt K mg) : FnOk P w K mg base CX0 1 T.f_BadFix___init__ T.d_BadFix___init__ ["self", "index"] (spIxInit T.C_BadFix) := by
  refine T.F_BadFix___init__.ok sc_BadFix___init__ (fun vs H Q E h => ?_) (fun cdv A outer s H vs Q E hr h => ?_)
  · obtain ⟨a, z, rfl, _⟩ := h
    rfl
  obtain ⟨a, z, rfl, ha, q⟩ := h
  refine ⟨_, (pss_one (ps_ost (pv 0) (pv 1))), ?_⟩
  try simp only [nox_K, cx_K]
  wtm_at "rd"
  refine ⟨a, _, rfl, T.ox_BadFix, T.nf_BadFix_index, .inl ⟨ha, fun dx nd ne => ?_⟩⟩
  wtm_at "rd"
  refine q dx _ nd upd_same ?_ fun b o e nb => ?_
  · rw [upd_ne ne, upd_same]
  · rw [upd_ne nb, upd_ne (ne_of_none e nd)]
    exact e
theorem ok_known (T : Txt K mg) : FnOk P w K mg base (L2.CX P w) 3 T.f_known T.d_known ["scheme", "columns"] (spKnown K T.C_Scheme T.C_Sort T.C_UnknownColumn) := by
  refine T.F_known.okX sc_known (fun vs H Q E h => ?_) (fun cdv A outer s H vs Q E hr h => ?_)
  · obtain ⟨p, a, sc, u, rfl, _⟩ := h
    rfl
  obtain ⟨p, a, sc, u, rfl, o, hg, hA, hl, qE, q⟩ := h
  refine ⟨_, (pss_cons (ps_set (i := 2) sc_known.nd rfl (by first | exact Or.inl rfl | exact Or.inr rfl) (pe_meth0 (pv 0) T.c_Scheme T.mt_Scheme_columns (ok_Scheme_columns T) (hr.mono (by decide)) T.b_Scheme_columns .nil pass0))
      (pss_one (ps_for (passes_of rfl) rfl (pi_seq (pv 1)) (pg_name (i := 3) sc_known.nd rfl (by first | exact Or.inl rfl | exact Or.inr rfl)) (pss_one (ps_if (pt_cmpR op_notIn_seq (pv 3) (pv 2) (by rfl)) (pss_one (ps_raise rfl (takes_of rfl rfl rfl rfl) (pmk_oex T.ox_UnknownColumn T.iC_UnknownColumn T.tI_UnknownColumn (ok_UnknownColumn___init__ T) (hr.mono (by decide)) T.b_UnknownColumn___init__ .nil pass0 (by rfl) T.g_UnknownColumn (pa_cons (pv 3) pa_nil)))) pss_nil))))), ?_⟩
  try simp only [nox_K, cx_K]
  wtm_at "rd"
  refine sch_who o (by decide +kernel) (by decide +kernel) (by decide +kernel) (by decide +kernel) ?_
  wtm_at "rd"
  refine ⟨p, sc, rfl, o, hg.small, fun nl H1 n_nl s1 hnl => ?_⟩
  have hA := hA.same s1
  wtm_at "rd"
  refine r_for (r_isq ?_)
  wtm_at "rd"
  rcases hA with hA | hA
  · skip
    refine ⟨a, rfl, .inl ⟨⟨_, hA⟩, ?_⟩⟩
    refine for_list (K := K) (a := a) (xs := u.map V.str) (fun i σ H' => ∃ x3, σ = [some (.ref p), some (.ref a), some (.ref nl), x3] ∧ H' = H1 ∧ ∀ z ∈ u.take i, (!decide (z ∈ sc.cols)) = false) ⟨_, rfl, rfl, fun z h => (by rw [List.take_zero] at h; cases h)⟩ (fun i σ H' _ ⟨_, _, z, _⟩ => by subst z; exact hA) ?_ ?_
    · rintro i v σ H2 hv ⟨x3, rfl, rfl, hall⟩
      rw [List.getElem?_map] at hv
      obtain ⟨z, hz, rfl⟩ := Option.map_eq_some_iff.mp hv
      wtm_at "rd"
      refine r_inL (SqL.of hnl) rfl (flat_strsV _) ?_
      show ∃ k, V.bl (!inV _ (sc.cols.map V.str)) = .bl k ∧ _
      rw [inV_strs]
      wtm_at "rd"
      refine r_iten (fun e1 => ?_) (fun e1 => ?_)
      · wtm_at "rd"
        exact ⟨.str z, rfl, Nat.le_of_ble_eq_true rfl, raise_name fun d H' nd hd s => qE z (find_take hall hz (by rw [decide_eq_false e1]; try rfl)) d H' (s1.free nd) hd (s1.trans s)⟩
      · wtm_at "rd"
        refine ⟨_, rfl, rfl, fun y hy => ?_⟩
        rcases take_snoc hz hy with c | c
        · exact hall y c
        · rw [c, decide_eq_true e1]
          rfl
    · rintro σ H2 ⟨x3, rfl, rfl, hall⟩
      rw [List.length_map, List.take_length] at hall
      wtm_at "rd"
      exact q (List.find?_eq_none.mpr fun y hy => by rw [hall y hy]; exact Bool.false_ne_true) _ s1
  · skip
    refine ⟨a, rfl, .inr ⟨⟨_, hA⟩, ?_⟩⟩
    refine for_tup (K := K) (a := a) (xs := u.map V.str) (fun i σ H' => ∃ x3, σ = [some (.ref p), some (.ref a), some (.ref nl), x3] ∧ H' = H1 ∧ ∀ z ∈ u.take i, (!decide (z ∈ sc.cols)) = false) ⟨_, rfl, rfl, fun z h => (by rw [List.take_zero] at h; cases h)⟩ (fun i σ H' _ ⟨_, _, z, _⟩ => by subst z; exact hA) ?_ ?_
    · rintro i v σ H2 hv ⟨x3, rfl, rfl, hall⟩
      rw [List.getElem?_map] at hv
      obtain ⟨z, hz, rfl⟩ := Option.map_eq_some_iff.mp hv
      wtm_at "rd"
      refine r_inL (SqL.of hnl) rfl (flat_strsV _) ?_
      show ∃ k, V.bl (!inV _ (sc.cols.map V.str)) = .bl k ∧ _
      rw [inV_strs]
      wtm_at "rd"
      refine r_iten (fun e1 => ?_) (fun e1 => ?_)
      · wtm_at "rd"
        exact ⟨.str z, rfl, Nat.le_of_ble_eq_true rfl, raise_name fun d H' nd hd s => qE z (find_take hall hz (by rw [decide_eq_false e1]; try rfl)) d H' (s1.free nd) hd (s1.trans s)⟩
      · wtm_at "rd"
        refine ⟨_, rfl, rfl, fun y hy => ?_⟩
        rcases take_snoc hz hy with c | c
        · exact hall y c
        · rw [c, decide_eq_true e1]
          rfl
    · rintro σ H2 ⟨x3, rfl, rfl, hall⟩
      rw [List.length_map, List.take_length] at hall
      wtm_at "rd"
      exact q (List.find?_eq_none.mpr fun y hy => by rw [hall y hy]; exact Bool.false_ne_true) _ s1

theorem ok_usable (T : Txt K mg) : FnOk P w K mg base CX0 1 T.f_usable T.d_usable ["scheme", "columns"] (spUsable K T.C_Scheme T.C_Sort) := by
  refine T.F_usable.ok sc_usable (fun vs H Q E h => ?_) (fun cdv A outer s H vs Q E hr h => ?_)
  · obtain ⟨p, a, sc, u, rfl, _⟩ := h
    rfl
  obtain ⟨p, a, sc, u, rfl, o, ha, hl, q⟩ := h
  refine ⟨_, (pss_cons (ps_setLc (i := 2) (own := [("one", 4)]) (g := gName 4) rfl sc_usable.nd rfl rfl (sw_true rfl rfl rfl (by decide +kernel)) (pi_list (pv 1)) (blkOk_by (N := ["scheme", "columns", "plain", "strong", "one"]) (sc := defScope s_usable) (by decide +kernel)) (fun _ _ _ _ _ => pg_name (i := 4) sc_usable.nd rfl (by first | exact Or.inl rfl | exact Or.inr rfl)) (fun _ _ _ _ _ => (pts_one (pt_cmpR (r := rIn K false) (op_inK K rfl) (pv 4) (pe_fldK (K := K) (pv 0)) (by rfl)))) (fun _ _ _ _ _ => (pv 4)))
      (pss_cons (ps_setLc (i := 3) (own := [("one", 4)]) (g := gName 4) rfl sc_usable.nd rfl rfl (sw_true rfl rfl rfl (by decide +kernel)) (pi_list (pv 1)) (blkOk_by (N := ["scheme", "columns", "plain", "strong", "one"]) (sc := defScope s_usable) (by decide +kernel)) (fun _ _ _ _ _ => pg_name (i := 4) sc_usable.nd rfl (by first | exact Or.inl rfl | exact Or.inr rfl)) (fun _ _ _ _ _ => (pts_one (pt_cmpR (r := rIn K true) (op_notInK K rfl) (pv 4) (pe_fldK (K := K) (pv 0)) (by rfl)))) (fun _ _ _ _ _ => (pv 4)))
      (pss_one (ps_ret (pe_and (pe_notT (pv 2)) (pe_one (pe_cmpR op_gt (pe_callB (r := rLenL K) (id := "len") c_len (by rfl) T.z_len (by decide +kernel) (pa_cons (pv 3) pa_nil)) pe_int (nomark _)))))))), ?_⟩
  try simp only [nox_K, cx_K]
  obtain ⟨dx, tS, tP, tV, tM, as, e, hS, hA, hP, hV, hM⟩ := o
  wtm_at "rd"
  refine r_itl (SqL.of ha) ?_
  refine lc_filt (fun v => decide (strV v ∈ sc.ms)) (SqL.of ha) (by rw [List.length_map]; omega) (fun x H' QT hx s' hQ => ?_) (fun x H' QQ hx s' hQ => ?_) fun D n_D => ?_
  · obtain ⟨z, _, rfl⟩ := List.mem_map.mp hx
    wtm_at "rd"
    refine r_get (s' _ _ e) T.c_Scheme T.nf_Scheme_mark_columns (sch_marks _ _ _ _) ?_
    refine r_inT (same_tup s' hM) rfl (flat_strsV _) ?_
    show ∃ k, V.bl (inV _ (sc.ms.map V.str)) = .bl k ∧ _
    rw [inV_strs]
    exact ⟨_, rfl, hQ⟩
  · wtm_at "rd"
    exact hQ
  rw [filt_s (fun z => decide (z ∈ sc.ms)) u _ fun z _ => rfl]
  generalize eq_D : upd _ D _ = H1
  have s_D : Same _ H1 := eq_D ▸ same_new n_D
  have h_D : H1 D = some _ := eq_D ▸ upd_same
  clear eq_D
  have ha := s_D _ _ ha
  have e := s_D _ _ e
  have hP := same_tup s_D hP
  wtm_at "rd"
  refine r_itl (SqL.of ha) ?_
  refine lc_filt (fun v => !decide (strV v ∈ sc.ps)) (SqL.of ha) (by rw [List.length_map]; omega) (fun x H' QT hx s' hQ => ?_) (fun x H' QQ hx s' hQ => ?_) fun D2 n_D2 => ?_
  · obtain ⟨z, _, rfl⟩ := List.mem_map.mp hx
    wtm_at "rd"
    refine r_get (s' _ _ e) T.c_Scheme T.nf_Scheme_part_columns (sch_parts _ _ _ _) ?_
    refine r_inT (same_tup s' hP) rfl (flat_strsV _) ?_
    show ∃ k, V.bl (!inV _ (sc.ps.map V.str)) = .bl k ∧ _
    rw [inV_strs]
    exact ⟨_, rfl, hQ⟩
  · wtm_at "rd"
    exact hQ
  rw [filt_s (fun z => !decide (z ∈ sc.ps)) u _ fun z _ => rfl]
  generalize eq_D2 : upd _ D2 _ = H2
  have s_D2 : Same _ H2 := eq_D2 ▸ same_new n_D2
  have h_D2 : H2 D2 = some _ := eq_D2 ▸ upd_same
  clear eq_D2
  have h_D := s_D2 _ _ h_D
  have s_D := s_D.trans s_D2
  wtm_at "rd"
  refine r_notT ?_
  wtm_at "rd"
  refine ⟨_, .inl ⟨_, SqL.of h_D, rfl⟩, _, rfl, ?_⟩
  have eE : ∀ F : List Str, (!(!(F.map V.str).isEmpty)) = F.isEmpty := fun F => by cases F <;> rfl
  rw [eE]
  refine r_iteb (fun e1 => ?_) (fun e1 => ?_)
  · wtm_at "rd"
    refine r_lenS h_D2 ?_
    wtm_at "rd"
    refine bl_to (q _ s_D) ?_
    unfold usableB
    rw [e1, Bool.true_and, decide_eq_decide]
    omega
  · wtm_at "rd"
    refine bl_to (q _ s_D) ?_
    unfold usableB
    rw [e1, Bool.false_and]

end

/-! ### the facts' lists -/
def UsL (H : Hp) (bs : List Addr) (us : List (List Str)) : Prop := All2 (fun b u => H b = some (.lst (u.map V.str))) bs us
def FxL (H : Hp) (ts : List Addr) (fs : List Fx) : Prop := All2 (fun t f => ∃ b, H t = some (.tup [.ref b, .str f.2]) ∧ H b = some (.lst (f.1.map V.str))) ts fs
def UsAt (H : Hp) (a : Addr) (us : List (List Str)) : Prop := ∃ bs : List Addr, H a = some (.lst (bs.map V.ref)) ∧ UsL H bs us
def FxAt (H : Hp) (a : Addr) (fs : List Fx) : Prop := ∃ ts : List Addr, H a = some (.lst (ts.map V.ref)) ∧ FxL H ts fs
theorem UsL.same {H H' : Hp} {bs : List Addr} {us : List (List Str)} (h : UsL H bs us) (s : Same H H') : UsL H' bs us := h.imp fun _ _ z => s _ _ z
theorem FxL.same {H H' : Hp} {bs : List Addr} {us : List Fx} (h : FxL H bs us) (s : Same H H') : FxL H' bs us := h.imp fun _ _ ⟨b, z, y⟩ => ⟨b, s _ _ z, s _ _ y⟩
theorem UsAt.same {H H' : Hp} {a : Addr} {us : List (List Str)} (h : UsAt H a us) (s : Same H H') : UsAt H' a us := let ⟨bs, x, y⟩ := h; ⟨bs, s _ _ x, y.same s⟩
theorem FxAt.same {H H' : Hp} {a : Addr} {us : List Fx} (h : FxAt H a us) (s : Same H H') : FxAt H' a us := let ⟨bs, x, y⟩ := h; ⟨bs, s _ _ x, y.same s⟩
theorem UsL.ext {H H' : Hp} {bs : List Addr} {us : List (List Str)} {d c r : Addr} (h : UsL H bs us) (D : Drw H d c r) (e : Ext d r H H') : UsL H' bs us := h.imp fun _ _ z => e _ _ z (strs_dr D z).1 (strs_dr D z).2
theorem FxL.ext {H H' : Hp} {bs : List Addr} {us : List Fx} {d c r : Addr} (h : FxL H bs us) (D : Drw H d c r) (e : Ext d r H H') : FxL H' bs us := h.imp fun _ _ ⟨b, z, y⟩ => ⟨b, e _ _ z (tup_dr D z).1 (tup_dr D z).2, e _ _ y (strs_dr D y).1 (strs_dr D y).2⟩
theorem UsAt.ext {H H' : Hp} {a : Addr} {us : List (List Str)} {d c r : Addr} (h : UsAt H a us) (D : Drw H d c r) (e : Ext d r H H') : UsAt H' a us := let ⟨bs, x, y⟩ := h; ⟨bs, e _ _ x (refs_drc D x).1 (refs_drc D x).2.1, y.ext D e⟩
theorem FxAt.ext {H H' : Hp} {a : Addr} {us : List Fx} {d c r : Addr} (h : FxAt H a us) (D : Drw H d c r) (e : Ext d r H H') : FxAt H' a us := let ⟨bs, x, y⟩ := h; ⟨bs, e _ _ x (refs_drc D x).1 (refs_drc D x).2.1, y.ext D e⟩
/-! ### Facts as it stands -/
def faF (q aU aF : Addr) : List (Str × V) := putF "fix_pairs" (.ref aF) (putF "unique_sets" (.ref aU) (putF "scheme" (.ref q) []))
theorem fa_sch (q u f : Addr) : (faF q u f).lookup ("scheme" : Str) = some (.ref q) := by
  unfold faF
  rw [lookup_putF, if_neg (by decide +kernel), lookup_putF, if_neg (by decide +kernel), lookup_putF, if_pos rfl]
theorem fa_us (q u f : Addr) : (faF q u f).lookup ("unique_sets" : Str) = some (.ref u) := by
  unfold faF
  rw [lookup_putF, if_neg (by decide +kernel), lookup_putF, if_pos rfl]
theorem fa_fx (q u f : Addr) : (faF q u f).lookup ("fix_pairs" : Str) = some (.ref f) := by
  unfold faF
  rw [lookup_putF, if_pos rfl]
theorem fa_no (q u f : Addr) {m : Str} (h1 : ¬ m = "fix_pairs") (h2 : ¬ m = "unique_sets") (h3 : ¬ m = "scheme") : (faF q u f).lookup m = none := by
  unfold faF
  rw [lookup_putF, if_neg h1, lookup_putF, if_neg h2, lookup_putF, if_neg h3]
  rfl
structure FaAt (K : PySem.W.Frag) (CF CC CS : Addr) (H : Hp) (p : Addr) (sc : Sch) (us : List (List Str)) (fs : List Fx) : Prop where
  ex : ∃ dx q aU aF, H p = some (.ins CF dx (faF q aU aF)) ∧ SchAt K CC CS H q sc ∧ UsAt H aU us ∧ FxAt H aF fs
theorem FaAt.same {K : PySem.W.Frag} {CF CC CS : Addr} {H H' : Hp} {p : Addr} {sc : Sch} {us : List (List Str)} {fs : List Fx} (h : FaAt K CF CC CS H p sc us fs) (s : Same H H') : FaAt K CF CC CS H' p sc us fs := by
  obtain ⟨dx, q, aU, aF, h0, h1, h2, h3⟩ := h
  exact ⟨dx, q, aU, aF, s _ _ h0, h1.same s, h2.same s, h3.same s⟩
/-- the lists of a Facts are W -/
def FaNew (W : Addr → Prop) (H : Hp) (p : Addr) : Prop := ∃ (C dx q aU aF : Addr) (bs ts : List Addr), H p = some (.ins C dx (faF q aU aF)) ∧ W aU ∧ W aF ∧ H aU = some (.lst (bs.map V.ref)) ∧ (∀ b ∈ bs, W b) ∧ H aF = some (.lst (ts.map V.ref)) ∧ ∀ t ∈ ts, ∃ b z, H t = some (.tup [.ref b, z]) ∧ W b
theorem FaNew.mono {W U : Addr → Prop} {H : Hp} {p : Addr} (h : FaNew W H p) (k : ∀ a, W a → U a) : FaNew U H p := by
  obtain ⟨C, dx, q, aU, aF, bs, ts, h0, h1, h2, h3, h4, h5, h6⟩ := h
  exact ⟨C, dx, q, aU, aF, bs, ts, h0, k _ h1, k _ h2, h3, fun b hb => k _ (h4 b hb), h5, fun t ht => let ⟨b, z, e, n⟩ := h6 t ht; ⟨b, z, e, k _ n⟩⟩
theorem FaNew.same {W : Addr → Prop} {H H' : Hp} {p : Addr} (h : FaNew W H p) (s : Same H H') : FaNew W H' p := by
  obtain ⟨C, dx, q, aU, aF, bs, ts, h0, h1, h2, h3, h4, h5, h6⟩ := h
  exact ⟨C, dx, q, aU, aF, bs, ts, s _ _ h0, h1, h2, s _ _ h3, h4, s _ _ h5, fun t ht => let ⟨b, z, e, n⟩ := h6 t ht; ⟨b, z, s _ _ e, n⟩⟩
theorem All2.imp' {α β : Type} {P Q : α → β → Prop} {as : List α} {bs : List β} (h : All2 P as bs) (k : ∀ a b, a ∈ as → P a b → Q a b) : All2 Q as bs := ⟨h.len, fun j a b e1 e2 => k a b (List.mem_of_getElem? e1) (h.at_ j a b e1 e2)⟩
theorem refs_inj {as bs : List Addr} (h : as.map V.ref = bs.map V.ref) : as = bs := (List.map_inj_right fun a b e => V.ref.inj e).mp h
theorem FaAt.kd {K : PySem.W.Frag} {CF CC CS D : Addr} {H H2 : Hp} {p : Addr} {sc : Sch} {us : List (List Str)} {fs : List Fx} {xs : List V} (h : FaAt K CF CC CS H p sc us fs) (n : FaNew (fun x => x ≠ D) H p) (e : H D = some (.lst xs)) (k : ∀ b o, H b = some o → b ≠ D → H2 b = some o) : FaAt K CF CC CS H2 p sc us fs ∧ FaNew (fun x => x ≠ D) H2 p := by
  obtain ⟨dx, q, aU, aF, h0, h1, ⟨bs, hU, hu⟩, ⟨ts, hF, hf⟩⟩ := h
  obtain ⟨C, dx', q', aU', aF', bs', ts', g0, g1, g2, g3, g4, g5, g6⟩ := n
  have gp := k _ _ g0 (ne_of g0 e fun z => nomatch z)
  have gU := k _ _ g3 g1
  have gF := k _ _ g5 g2
  have nn : FaNew (fun x => x ≠ D) H2 p := ⟨C, dx', q', aU', aF', bs', ts', gp, g1, g2, gU, g4, gF, fun t ht => let ⟨b, z, y, n⟩ := g6 t ht; ⟨b, z, k _ _ y (ne_of y e fun z => nomatch z), n⟩⟩
  clear gp gU gF
  rw [h0] at g0
  injection g0 with g0
  injection g0 with _ _ g0
  have e1 := (fa_us q aU aF).symm.trans ((congrArg (fun l => l.lookup ("unique_sets" : Str)) g0).trans (fa_us q' aU' aF'))
  have e2 := (fa_fx q aU aF).symm.trans ((congrArg (fun l => l.lookup ("fix_pairs" : Str)) g0).trans (fa_fx q' aU' aF'))
  injection e1 with e1
  injection e1 with e1
  injection e2 with e2
  injection e2 with e2
  subst e1 e2
  rw [hU] at g3
  injection g3 with g3
  injection g3 with g3
  cases refs_inj g3
  rw [hF] at g5
  injection g5 with g5
  injection g5 with g5
  cases refs_inj g5
  refine ⟨⟨dx, q, aU, aF, k _ _ h0 (ne_of h0 e fun z => nomatch z), ?_, ⟨bs, k _ _ hU g1, hu.imp' fun b u hb z => k _ _ z (g4 b hb)⟩, ⟨ts, k _ _ hF g2, hf.imp' fun t f ht ⟨b, z, y⟩ => ?_⟩⟩, nn⟩
  · obtain ⟨dy, tS, tP, tV, tM, as, k0, k1, k2, k3, k4, k5⟩ := h1
    have kt : ∀ {a : Addr} {zs : List V}, SqT K H a zs → SqT K H2 a zs := fun {a zs} h => by
      rcases h with (h | ⟨u, h⟩) | h
      · exact .inl (.inl (k _ _ h (ne_of h e fun z => nomatch z)))
      · exact .inl (.inr ⟨u, k _ _ h (ne_of h e fun z => nomatch z)⟩)
      · exact .inr h
    exact ⟨dy, tS, tP, tV, tM, as, k _ _ k0 (ne_of k0 e fun z => nomatch z), kt k1, k2.imp fun _ _ ⟨dz, z⟩ => ⟨dz, k _ _ z (ne_of z e fun z => nomatch z)⟩, kt k3, kt k4, kt k5⟩
  · obtain ⟨b2, z2, g7, g8⟩ := g6 t ht
    rw [z] at g7
    injection g7 with g7
    injection g7 with g7
    injection g7 with g7 _
    injection g7 with g7
    subst g7
    exact ⟨b, k _ _ z (ne_of z e fun y => nomatch y), k _ _ y g8⟩
structure FxSz (us : List (List Str)) (fs : List Fx) : Prop where
  u : us.length ≤ 20
  f : fs.length ≤ 20
  lu : ∀ u ∈ us, u.length ≤ 60
  lf : ∀ f ∈ fs, f.1.length ≤ 60
/-- Facts(scheme, unique = .., fixes = ..): lists or empty tuples -/
def spFaInit (K : PySem.W.Frag) (CF CC CS CUC CBU CBF : Addr) : Sp := fun vs H Q E => ∃ (p dx q aU aF : Addr) (sc : Sch) (us : List (List Str)) (fs : List Fx) (bs ts : List Addr), vs = [.ref p, .ref q, .ref aU, .ref aF] ∧ H p = some (.ins CF dx []) ∧ SchAt K CC CS H q sc ∧ sc.good ∧
  SqA K H aU (bs.map V.ref) ∧ UsL H bs us ∧ SqA K H aF (ts.map V.ref) ∧ FxL H ts fs ∧ FxSz us fs ∧
  (∀ z, flt sc us fs = some (.col z) → ∀ (d : Addr) (H' : Hp), H d = none → H' d = some (.xd [("name", .str z)]) → (∀ b o, H b = some o → b ≠ p → H' b = some o) → E (.ref CUC) (some d) H') ∧
  (∀ i, flt sc us fs = some (.uni i) → ∀ (d : Addr) (H' : Hp), H d = none → H' d = some (.xd [("index", .int (i : Nat))]) → (∀ b o, H b = some o → b ≠ p → H' b = some o) → E (.ref CBU) (some d) H') ∧
  (∀ i, flt sc us fs = some (.fix i) → ∀ (d : Addr) (H' : Hp), H d = none → H' d = some (.xd [("index", .int (i : Nat))]) → (∀ b o, H b = some o → b ≠ p → H' b = some o) → E (.ref CBF) (some d) H') ∧
  (flt sc us fs = none → ∀ H', FaAt K CF CC CS H' p sc us fs → FaNew (fun x => H x = none) H' p → (∀ b o, H b = some o → b ≠ p → H' b = some o) → Q .non H')
theorem fltU_step {sc : Sch} {us : List (List Str)} {i : Nat} {u : List Str} (h : us[i]? = some u) : fltU sc (us.drop i) i = match knownF sc u with
    | some z => some (.col z)
    | none => if usableB sc u then fltU sc (us.drop (i + 1)) (i + 1) else some (.uni i) := by
  rw [List.drop_eq_getElem_cons (List.getElem?_eq_some_iff.mp h).1, (List.getElem?_eq_some_iff.mp h).2]
  rfl
theorem fltF_step {sc : Sch} {fs : List Fx} {i : Nat} {f : Fx} (h : fs[i]? = some f) : fltF sc (fs.drop i) i = match knownF sc (f.1 ++ [f.2]) with
    | some z => some (.col z)
    | none => if usableB sc f.1 then fltF sc (fs.drop (i + 1)) (i + 1) else some (.fix i) := by
  rw [List.drop_eq_getElem_cons (List.getElem?_eq_some_iff.mp h).1, (List.getElem?_eq_some_iff.mp h).2]
  rfl
theorem flt_u {sc : Sch} {us : List (List Str)} {fs : List Fx} {x : Flt} (h : fltU sc us 0 = some x) : flt sc us fs = some x := by
  unfold flt
  rw [h]
theorem flt_f {sc : Sch} {us : List (List Str)} {fs : List Fx} (h : fltU sc us 0 = none) : flt sc us fs = fltF sc fs 0 := by
  unfold flt
  rw [h]
/-! ### all but one address stay -/
def KB (p : Addr) (H H' : Hp) : Prop := ∀ b o, H b = some o → b ≠ p → H' b = some o
theorem KB.trans {p : Addr} {H H1 H2 : Hp} (h : KB p H H1) (k : KB p H1 H2) : KB p H H2 := fun b o e n => k b o (h b o e n) n
theorem KB.same {p : Addr} {H H1 H2 : Hp} (h : KB p H H1) (k : Same H1 H2) : KB p H H2 := fun b o e n => k b o (h b o e n)
theorem sqt_kb {K : PySem.W.Frag} {H H' : Hp} {a p C dx : Addr} {fs : List (Str × V)} {xs : List V} (e : H p = some (.ins C dx fs)) (k : KB p H H') (h : SqT K H a xs) : SqT K H' a xs := by
  rcases h with (h | ⟨u, h⟩) | h
  · exact .inl (.inl (k _ _ h (ne_of h e fun z => nomatch z)))
  · exact .inl (.inr ⟨u, k _ _ h (ne_of h e fun z => nomatch z)⟩)
  · exact .inr h
theorem sqa_kb {K : PySem.W.Frag} {H H' : Hp} {a p C dx : Addr} {fs : List (Str × V)} {xs : List V} (e : H p = some (.ins C dx fs)) (k : KB p H H') (h : SqA K H a xs) : SqA K H' a xs := by
  rcases h with ((h | ⟨u, h⟩) | h) | h
  · exact .inl (.inl (.inl (k _ _ h (ne_of h e fun z => nomatch z))))
  · exact .inl (.inl (.inr ⟨u, k _ _ h (ne_of h e fun z => nomatch z)⟩))
  · exact .inl (.inr h)
  · exact .inr (sqt_kb e k h)
theorem ins_ne {H : Hp} {a p C D dx dy : Addr} {fs : List (Str × V)} (e : H p = some (.ins C dx [])) (h : H a = some (.ins D dy fs)) (l : fs.length ≠ 0) : a ≠ p := fun z => by
  subst z
  rw [h] at e
  injection e with e
  injection e with _ _ e
  rw [e] at l
  exact l rfl
theorem SchAt.kb {K : PySem.W.Frag} {CC CS : Addr} {H H' : Hp} {p C dx q : Addr} {sc : Sch} (e : H p = some (.ins C dx [])) (k : KB p H H') (h : SchAt K CC CS H q sc) : SchAt K CC CS H' q sc := by
  obtain ⟨dy, tS, tP, tV, tM, as, h0, h1, h2, h3, h4, h5⟩ := h
  refine ⟨dy, tS, tP, tV, tM, as, k _ _ h0 (ins_ne e h0 fun z => nomatch (show (4 : Nat) = 0 from z)), sqt_kb e k h1, h2.imp fun _ _ ⟨dz, z⟩ => ⟨dz, k _ _ z (ins_ne e z fun z => nomatch (show (4 : Nat) = 0 from z))⟩, sqt_kb e k h3, sqt_kb e k h4, sqt_kb e k h5⟩
theorem UsL.kb {H H' : Hp} {bs : List Addr} {us : List (List Str)} {p C dx : Addr} {fs : List (Str × V)} (e : H p = some (.ins C dx fs)) (k : KB p H H') (h : UsL H bs us) : UsL H' bs us := h.imp fun _ _ z => k _ _ z (ne_of z e fun y => nomatch y)
theorem FxL.kb {H H' : Hp} {bs : List Addr} {us : List Fx} {p C dx : Addr} {fs : List (Str × V)} (e : H p = some (.ins C dx fs)) (k : KB p H H') (h : FxL H bs us) : FxL H' bs us := h.imp fun _ _ ⟨b, z, y⟩ => ⟨b, k _ _ z (ne_of z e fun y => nomatch y), k _ _ y (ne_of y e fun y => nomatch y)⟩
/-! ### a comprehension over a list or a tuple that makes an object each turn -/
def SqJ (K : PySem.W.Frag) (a : Addr) (xs : List V) (J : It) (S : Hp → Prop) : Prop := (J = Itl K a ∧ S = fun H => SqL K H a xs) ∨ (J = Itt K a ∧ S = fun H => SqT K H a xs)
theorem isq_go {K : PySem.W.Frag} {a : Addr} {xs : List V} {H : Hp} {R : It → Hp → Prop} (h : SqA K H a xs) (k : ∀ J S, SqJ K a xs J S → S H → (∀ H1 H2, S H1 → Same H1 H2 → S H2) → R J H) :
    ∃ a', V.ref a = .ref a' ∧ (((∃ xs, SqL K H a' xs) ∧ R (Itl K a') H) ∨ ((∃ xs, SqT K H a' xs) ∧ R (Itt K a') H)) := by
  rcases h with h | h
  · exact ⟨a, rfl, .inl ⟨⟨_, h⟩, k _ _ (.inl ⟨rfl, rfl⟩) h fun H1 H2 z e => e.seq z⟩⟩
  · exact ⟨a, rfl, .inr ⟨⟨_, h⟩, k _ _ (.inr ⟨rfl, rfl⟩) h fun H1 H2 z e => same_tup e z⟩⟩
theorem lc_newR {K : PySem.W.Frag} {a : Addr} {xs : List V} {J : It} {S : Hp → Prop} {g : TG} {te : TE} {vs : List Nat} {σ : L2.St} {H : Hp} {Q : VK} (P : Addr → Hp → Addr → Nat → Prop) (hJ : SqJ K a xs J S) (hS : S H) (sS : ∀ H1 H2, S H1 → Same H1 H2 → S H2) (hz : xs.length ≤ 1000)
    (hP : ∀ D H1 H2 u j, P D H1 u j → (∃ xs, H1 D = some (.lst xs)) → (∀ b o, H1 b = some o → b ≠ D → H2 b = some o) → P D H2 u j)
    (he : ∀ (D : Addr) (i : Nat) (x : V) (H1 : Hp) (QQ : VK), xs[i]? = some x → Same H H1 → H D = none → H1 D ≠ none → (∀ u H4, P D H4 u i → Same H1 H4 → QQ (.ref u) H4) → g x (wipe σ vs) H1 fun σ2 H2 => wipe σ2 vs = wipe σ vs ∧ te σ2 H2 QQ)
    (hq : ∀ D (us : List Addr) H', H D = none → us.length = xs.length → H' D = some (.lst (us.map V.ref)) → (∀ (j : Nat) (u : Addr), us[j]? = some u → P D H' u j) → Same H H' → Q (.ref D) H') : lcGo J g tYes te vs σ Q H := by
  intro D nD
  have core : ∀ (i : Nat) (x : V) (H1 : Hp), xs[i]? = some x → (∃ us : List Addr, us.length = i ∧ H1 D = some (.lst (us.map V.ref)) ∧ (∀ (j : Nat) (u : Addr), us[j]? = some u → P D H1 u j) ∧ Same H H1) → g x (wipe σ vs) H1 fun σ2 H2 => wipe σ2 vs = wipe σ vs ∧ tYes σ2 H2 fun b H3 =>
      if b = true then te σ2 H3 fun y H4 => ∃ acc, H4 D = some (.lst acc) ∧ acc.length < sizeLine ∧ (∃ us : List Addr, us.length = i + 1 ∧ (upd H4 D (.lst (acc ++ [y]))) D = some (.lst (us.map V.ref)) ∧ (∀ (j : Nat) (u : Addr), us[j]? = some u → P D (upd H4 D (.lst (acc ++ [y]))) u j) ∧ Same H (upd H4 D (.lst (acc ++ [y])))) else (∃ us : List Addr, us.length = i + 1 ∧ H3 D = some (.lst (us.map V.ref)) ∧ (∀ (j : Nat) (u : Addr), us[j]? = some u → P D H3 u j) ∧ Same H H3) := by
    rintro i x H1 hx ⟨us, lu, hD, hu, s1⟩
    have il := (List.getElem?_eq_some_iff.mp hx).1
    refine he D i x H1 _ hx s1 nD (by rw [hD]; exact fun z => nomatch z) fun u H4 hp s4 => ?_
    have kk : ∀ b o, H4 b = some o → b ≠ D → (upd H4 D (.lst (us.map V.ref ++ [.ref u]))) b = some o := fun b o e n => (upd_ne n).trans e
    refine ⟨us.map V.ref, s4 _ _ hD, small1000 (by rw [List.length_map]; omega), us ++ [u], by rw [List.length_append, lu]; try rfl, by rw [upd_same, List.map_append]; try rfl, fun j w hj => ?_, fun b o e => kk b o (s4 _ _ (s1 _ _ e)) (ne_of_none e nD)⟩
    by_cases c : j < us.length
    · rw [List.getElem?_append_left c] at hj
      exact hP _ _ _ _ _ (hP _ _ _ _ _ (hu j w hj) ⟨_, hD⟩ fun b o e _ => s4 _ _ e) ⟨_, s4 _ _ hD⟩ kk
    · rw [List.getElem?_append_right (by omega)] at hj
      have e0 : j - us.length = 0 := by
        rcases Nat.eq_zero_or_pos (j - us.length) with z | z
        · exact z
        · rw [List.getElem?_eq_none (by simp; omega)] at hj
          cases hj
      rw [e0] at hj
      cases hj
      rw [show j = i by omega]
      exact hP _ _ _ _ _ hp ⟨_, s4 _ _ hD⟩ kk
  have start : ∃ us : List Addr, us.length = 0 ∧ (upd H D (.lst [])) D = some (.lst (us.map V.ref)) ∧ (∀ (j : Nat) (u : Addr), us[j]? = some u → P D (upd H D (.lst [])) u j) ∧ Same H (upd H D (.lst [])) := ⟨[], rfl, upd_same, fun j u h => (by cases h), same_new nD⟩
  rcases hJ with ⟨rfl, rfl⟩ | ⟨rfl, rfl⟩
  · exact lc_list (K := K) (a := a) (xs := xs) (fun i H1 => ∃ us : List Addr, us.length = i ∧ H1 D = some (.lst (us.map V.ref)) ∧ (∀ (j : Nat) (u : Addr), us[j]? = some u → P D H1 u j) ∧ Same H H1) start (fun i H1 _ ⟨_, _, _, _, s⟩ => sS _ _ hS s) core fun H1 ⟨us, lu, hD, hu, s⟩ => hq D us H1 nD lu hD hu s
  · exact lc_tup (K := K) (a := a) (xs := xs) (fun i H1 => ∃ us : List Addr, us.length = i ∧ H1 D = some (.lst (us.map V.ref)) ∧ (∀ (j : Nat) (u : Addr), us[j]? = some u → P D H1 u j) ∧ Same H H1) start (fun i H1 _ ⟨_, _, _, _, s⟩ => sS _ _ hS s) core fun H1 ⟨us, lu, hD, hu, s⟩ => hq D us H1 nD lu hD hu s
section
variable {P : Program} {w : World} {K : PySem.W.Frag} {mg : Str → Option Value} {base : Heap}
theorem ok_Facts___init__ (T : Txt K mg) : FnOk P w K mg base (L2.CX P w) 6 T.f_Facts___init__ T.d_Facts___init__ ["self", "scheme", "unique", "fixes"] (spFaInit K T.C_Facts T.C_Scheme T.C_Sort T.C_UnknownColumn T.C_BadUnique T.C_BadFix) := by
  refine T.F_Facts___init__.okX sc_Facts___init__ (fun vs H Q E h => ?_) (fun cdv A outer s H vs Q E hr h => ?_)
  · obtain ⟨p, dx, q0, aU, aF, sc, us, fs, bs, ts, rfl, _⟩ := h
    rfl
  obtain ⟨p, dx, q0, aU, aF, sc, us, fs, bs, ts, rfl, hp, o, hg, hU, hu, hF, hf, sz, qC, qU, qF, q⟩ := h
  refine ⟨_, (pss_cons (ps_fld (pv 0) (pv 1) rfl)
      (pss_cons (ps_fld (pv 0) (pe_lc (own := [("columns", 5)]) (g := gName 5) (tt := tYes) rfl sc_Facts___init__.nd (pi_seq (pv 2)) (blkOk_by (N := ["self", "scheme", "unique", "fixes", "index", "columns", "column"]) (sc := defScope s_Facts___init__) (by decide +kernel)) (fun _ _ _ _ _ => pg_name (i := 5) sc_Facts___init__.nd rfl (by first | exact Or.inl rfl | exact Or.inr rfl)) (fun _ _ _ _ _ => pts_nil) (fun _ _ _ _ _ => (pe_callTy (r := rListA K) (T := "list") c_listA (by rfl) T.z_list (by decide +kernel) (pa_cons (pv 5) pa_nil)))) rfl)
      (pss_cons (ps_fld (pv 0) (pe_lc (own := [("columns", 5), ("column", 6)]) (g := gTup K 2 (gCons (gName 5) (gCons (gName 6) gNil))) (tt := tYes) rfl sc_Facts___init__.nd (pi_seq (pv 3)) (blkOk_by (N := ["self", "scheme", "unique", "fixes", "index", "columns", "column"]) (sc := defScope s_Facts___init__) (by decide +kernel)) (fun _ _ _ _ _ => pg_tup (by rfl) (pgs_cons (pg_name (i := 5) sc_Facts___init__.nd rfl (by first | exact Or.inl rfl | exact Or.inr rfl)) (pgs_cons (pg_name (i := 6) sc_Facts___init__.nd rfl (by first | exact Or.inl rfl | exact Or.inr rfl)) pgs_nil))) (fun _ _ _ _ _ => pts_nil) (fun _ _ _ _ _ => (pe_tup (pa_cons (pe_callTy (r := rListA K) (T := "list") c_listA (by rfl) T.z_list (by decide +kernel) (pa_cons (pv 5) pa_nil)) (pa_cons (pv 6) pa_nil))))) rfl)
      (pss_cons (ps_for (passes_of rfl) rfl (pi_enum (by rfl) T.z_enumerate (pa_cons (pe_fldK (K := K) (pv 0)) pa_nil)) (pg_tup (by rfl) (pgs_cons (pg_name (i := 4) sc_Facts___init__.nd rfl (by first | exact Or.inl rfl | exact Or.inr rfl)) (pgs_cons (pg_name (i := 5) sc_Facts___init__.nd rfl (by first | exact Or.inl rfl | exact Or.inr rfl)) pgs_nil))) (pss_cons (ps_expr (pe_call (ok_known T) (hr.mono (by decide)) (by rfl) T.g_known T.F_known.kp T.b_known .nil (passes_call (takes_of rfl rfl rfl rfl) fun _ _ _ _ h => h) (pa_cons (pv 1) (pa_cons (pv 5) pa_nil))))
      (pss_one (ps_if (pt_not (pt_val (pe_call (ok_usable T) (hr.mono (by decide)) (by rfl) T.g_usable T.F_usable.kp T.b_usable .nil pass0 (pa_cons (pv 1) (pa_cons (pv 5) pa_nil))))) (pss_one (ps_raise rfl (takes_of rfl rfl rfl rfl) (pmk_oex T.ox_BadUnique T.iC_BadUnique T.tI_BadUnique (ok_BadUnique___init__ T) (hr.mono (by decide)) T.b_BadUnique___init__ .nil pass0 (by rfl) T.g_BadUnique (pa_cons (pv 4) pa_nil)))) pss_nil))))
      (pss_one (ps_for (passes_of rfl) rfl (pi_enum (by rfl) T.z_enumerate (pa_cons (pe_fldK (K := K) (pv 0)) pa_nil)) (pg_tup (by rfl) (pgs_cons (pg_name (i := 4) sc_Facts___init__.nd rfl (by first | exact Or.inl rfl | exact Or.inr rfl)) (pgs_cons (pg_tup (by rfl) (pgs_cons (pg_name (i := 5) sc_Facts___init__.nd rfl (by first | exact Or.inl rfl | exact Or.inr rfl)) (pgs_cons (pg_name (i := 6) sc_Facts___init__.nd rfl (by first | exact Or.inl rfl | exact Or.inr rfl)) pgs_nil))) pgs_nil))) (pss_cons (ps_expr (pe_call (ok_known T) (hr.mono (by decide)) (by rfl) T.g_known T.F_known.kp T.b_known .nil (passes_call (takes_of rfl rfl rfl rfl) fun _ _ _ _ h => h) (pa_cons (pv 1) (pa_cons (pe_op op_cat (pv 5) (pe_lst (pa_cons (pv 6) pa_nil))) pa_nil))))
      (pss_one (ps_if (pt_not (pt_val (pe_call (ok_usable T) (hr.mono (by decide)) (by rfl) T.g_usable T.F_usable.kp T.b_usable .nil pass0 (pa_cons (pv 1) (pa_cons (pv 5) pa_nil))))) (pss_one (ps_raise rfl (takes_of rfl rfl rfl rfl) (pmk_oex T.ox_BadFix T.iC_BadFix T.tI_BadFix (ok_BadFix___init__ T) (hr.mono (by decide)) T.b_BadFix___init__ .nil pass0 (by rfl) T.g_BadFix (pa_cons (pv 4) pa_nil)))) pss_nil))))))))), ?_⟩
  try simp only [nox_K, cx_K]
  have hp0 := hp
  wtm_at "rd"
  refine r_put hp T.c_Facts T.nf_Facts_scheme (by decide) ?_
  have k1 : KB p H (upd H p (.ins T.C_Facts dx (putF "scheme" (.ref q0) []))) := fun b o e n => (upd_ne n).trans e
  have hp1 : (upd H p (.ins T.C_Facts dx (putF "scheme" (.ref q0) []))) p = some (.ins T.C_Facts dx (putF "scheme" (.ref q0) [])) := upd_same
  generalize upd H p (.ins T.C_Facts dx (putF "scheme" (.ref q0) [])) = H1 at k1 hp1 ⊢
  wtm_at "rd"
  refine r_isq ?_
  wtm_at "rd"
  refine isq_go (R := fun J H1 => lcGo J _ _ _ _ _ _ H1) (sqa_kb hp0 k1 hU) fun J S hJ hS sS => ?_
  have hu1 := hu.kb hp0 k1
  refine lc_newR (K := K) (a := aU) (xs := bs.map V.ref) (fun D H u j => (H1 u = none ∧ u ≠ D) ∧ H u = some (.lst ((us.getD j []).map V.str))) hJ hS sS (by rw [List.length_map, hu.len]; have := sz.u; omega) (fun D H1 H2 u j h _ k => ⟨h.1, k _ _ h.2 h.1.2⟩) (fun D i x H2 QQ hx s2 nD eD hQ => ?_) (fun D cs H2 nD lcs hD hcs s2 => ?_)
  · rw [List.getElem?_map] at hx
    obtain ⟨b, hb, rfl⟩ := Option.map_eq_some_iff.mp hx
    obtain ⟨u, hui, hbu⟩ := hu1.get hb
    rw [List.getD_eq_getElem?_getD, hui] at hQ
    refine ⟨rfl, ?_⟩
    wtm_at "rd"
    refine r_listA (.inl (SqL.of (s2 _ _ hbu))) fun l n_l => ?_
    exact hQ l _ ⟨⟨s2.free n_l, fun z => eD (z ▸ n_l)⟩, upd_same⟩ (same_new n_l)
  have lb := hu.len
  rw [List.length_map] at lcs
  have csN : ∀ b ∈ cs, H1 b = none := fun b hb => by
    obtain ⟨j, hj⟩ := List.getElem?_of_mem hb
    exact (hcs j b hj).1.1
  have nD1 := nD
  have hcs : UsL H2 cs us := ⟨by omega, fun j u v h1 h2 => by
    have z := (hcs j u h1).2
    rwa [List.getD_eq_getElem?_getD, h2] at z⟩
  have hD2 := hD
  have hp2 := s2 _ _ hp1
  have k2 := k1.same s2
  wtm_at "rd"
  refine r_put hp2 T.c_Facts T.nf_Facts_unique_sets (Nat.lt_of_le_of_lt (putF_len _ _ _) (by decide)) ?_
  have k3 : KB p H2 (upd H2 p (.ins T.C_Facts dx (putF "unique_sets" (.ref D) (putF "scheme" (.ref q0) [])))) := fun b o e n => (upd_ne n).trans e
  have hp3 : (upd H2 p (.ins T.C_Facts dx (putF "unique_sets" (.ref D) (putF "scheme" (.ref q0) [])))) p = some (.ins T.C_Facts dx (putF "unique_sets" (.ref D) (putF "scheme" (.ref q0) []))) := upd_same
  generalize upd H2 p (.ins T.C_Facts dx (putF "unique_sets" (.ref D) (putF "scheme" (.ref q0) []))) = H3 at k3 hp3 ⊢
  have hD := k3 _ _ hD (ne_of hD hp2 fun z => nomatch z)
  have hcs := hcs.kb hp2 k3
  have k3 := k2.trans k3
  clear hp2
  wtm_at "rd"
  refine r_isq ?_
  wtm_at "rd"
  refine isq_go (R := fun J H1 => lcGo J _ _ _ _ _ _ H1) (sqa_kb hp0 k3 hF) fun J S hJ hS sS => ?_
  have hf3 := hf.kb hp0 k3
  refine lc_newR (K := K) (a := aF) (xs := ts.map V.ref) (fun D H t j => t ≠ D ∧ ∃ b, (H3 b = none ∧ b ≠ D) ∧ H t = some (.tup [.ref b, .str (fs.getD j ([], "")).2]) ∧ H b = some (.lst ((fs.getD j ([], "")).1.map V.str))) hJ hS sS (by rw [List.length_map, hf.len]; have := sz.f; omega) (fun D H1 H2 u j ⟨h1, b, h2, h3, h4⟩ _ k => ⟨h1, b, h2, k _ _ h3 h1, k _ _ h4 h2.2⟩) (fun D i x H4 QQ hx s4 nD eD hQ => ?_) (fun F ds H4 nF lds hF4 hds s4 => ?_)
  · rw [List.getElem?_map] at hx
    obtain ⟨t, ht, rfl⟩ := Option.map_eq_some_iff.mp hx
    obtain ⟨f, hfi, b, h1, h2⟩ := hf3.get ht
    rw [List.getD_eq_getElem?_getD, hfi] at hQ
    refine r_gtup (SqT.of (s4 _ _ h1)) rfl ?_
    wtm_at "rd"
    refine ⟨rfl, ?_⟩
    wtm_at "rd"
    refine r_listA (.inl (SqL.of (s4 _ _ h2))) fun l n_l => ?_
    generalize eq_l : upd _ l _ = H5
    have s_l : Same _ H5 := eq_l ▸ same_new n_l
    have h_l : H5 l = some _ := eq_l ▸ upd_same
    clear eq_l
    have sl0 := s_l
    wtm_at "rd"
    refine r_new rfl fun u n_u => ?_
    generalize eq_u : upd _ u _ = H6
    have s_u : Same _ H6 := eq_u ▸ same_new n_u
    have h_u : H6 u = some _ := eq_u ▸ upd_same
    clear eq_u
    have h_l := s_u _ _ h_l
    have s_l := s_l.trans s_u
    exact hQ u _ ⟨fun z => eD (z ▸ (sl0.free n_u)), l, ⟨s4.free n_l, fun z => eD (z ▸ n_l)⟩, h_u, h_l⟩ s_l
  have lf := hf.len
  rw [List.length_map] at lds
  have dsN : ∀ t ∈ ds, ∃ b z, H4 t = some (.tup [.ref b, z]) ∧ H3 b = none := fun t ht => by
    obtain ⟨j, hj⟩ := List.getElem?_of_mem ht
    obtain ⟨_, b, nb, z1, _⟩ := hds j t hj
    exact ⟨b, _, z1, nb.1⟩
  have nF1 := nF
  have hds : FxL H4 ds fs := ⟨by omega, fun j u v h1 h2 => by
    obtain ⟨_, b, _, z1, z2⟩ := hds j u h1
    rw [List.getD_eq_getElem?_getD, h2] at z1 z2
    exact ⟨b, z1, z2⟩⟩
  have hp4 := s4 _ _ hp3
  have hD := s4 _ _ hD
  have hcs := hcs.same s4
  have k4 := k3.same s4
  wtm_at "rd"
  refine r_put hp4 T.c_Facts T.nf_Facts_fix_pairs (Nat.lt_of_le_of_lt (putF_len _ _ _) (Nat.lt_of_le_of_lt (Nat.succ_le_succ (putF_len _ _ _)) (by decide))) ?_
  have k5 : KB p H4 (upd H4 p (.ins T.C_Facts dx (faF q0 D F))) := fun b o e n => (upd_ne n).trans e
  have hp5 : (upd H4 p (.ins T.C_Facts dx (faF q0 D F))) p = some (.ins T.C_Facts dx (faF q0 D F)) := upd_same
  rw [show putF "fix_pairs" (V.ref F) (putF "unique_sets" (V.ref D) (putF "scheme" (V.ref q0) [])) = faF q0 D F from rfl]
  generalize upd H4 p (.ins T.C_Facts dx (faF q0 D F)) = H5 at k5 hp5 ⊢
  have hD := k5 _ _ hD (ne_of hD hp4 fun z => nomatch z)
  have hF5 := k5 _ _ hF4 (ne_of hF4 hp4 fun z => nomatch z)
  have hcs := hcs.kb hp4 k5
  have hds := hds.kb hp4 k5
  have dsN : ∀ t ∈ ds, ∃ b z, H5 t = some (.tup [.ref b, z]) ∧ H3 b = none := fun t ht => let ⟨b, z, e, n⟩ := dsN t ht; ⟨b, z, k5 _ _ e (ne_of e hp4 fun z => nomatch z), n⟩
  have fr : ∀ {Hz : Hp} {b : Addr}, KB p H Hz → Hz p ≠ none → Hz b = none → H b = none := fun {Hz b} k np n => by
    cases e : H b with
    | none => rfl
    | some o =>
      by_cases c : b = p
      · rw [c] at n
        exact absurd n np
      · rw [k _ _ e c] at n
        cases n
  have f1 : ∀ {b : Addr}, H1 b = none → H b = none := fr k1 (by rw [hp1]; exact fun z => nomatch z)
  have f3 : ∀ {b : Addr}, H3 b = none → H b = none := fr k3 (by rw [hp3]; exact fun z => nomatch z)
  have new5 : FaNew (fun x => H x = none) H5 p := ⟨_, _, _, _, _, cs, ds, hp5, f1 nD1, f3 nF1, hD, fun b hb => f1 (csN b hb), hF5, fun t ht => let ⟨b, z, e, n⟩ := dsN t ht; ⟨b, z, e, f3 n⟩⟩
  have k5 := k4.trans k5
  have o5 := o.kb hp0 k5
  clear hp4 hp3 hp1 hF4 hD2 k4 k3 k2 k1
  have fin : ∀ H', Same H5 H' → FaAt K T.C_Facts T.C_Scheme T.C_Sort H' p sc us fs ∧ KB p H H' := fun H' s => ⟨⟨dx, q0, D, F, s _ _ hp5, o5.same s, ⟨cs, s _ _ hD, hcs.same s⟩, ⟨ds, s _ _ hF5, hds.same s⟩⟩, k5.same s⟩
  have fk : ∀ {d H'}, Same H5 H' → H' d = none → H d = none := fun {d H'} s nd => by
    cases e : H d with
    | none => rfl
    | some o =>
      by_cases c : d = p
      · rw [c, s _ _ hp5] at nd
        cases nd
      · rw [(k5.same s) _ _ e c] at nd
        cases nd
  wtm_at "rd"
  refine r_for (r_enum ?_)
  wtm_at "rd"
  refine r_get hp5 T.c_Facts T.nf_Facts_unique_sets (fa_us _ _ _) ?_
  wtm_at "rd"
  refine ⟨D, _, rfl, SqL.of hD, ?_⟩
  refine for_it (walk_enum (K := K) (a := D) (xs := cs.map V.ref)) (fun i σ H' => ∃ x4 x5 : Option V, σ = [some (.ref p), some (.ref q0), some (.ref aU), some (.ref aF), x4, x5, none] ∧ Same H5 H' ∧ fltU sc us 0 = fltU sc (us.drop i) i) ⟨_, _, rfl, Same.refl _, rfl⟩ (fun i σ H' _ ⟨_, _, _, s, _⟩ => SqL.of (s _ _ hD)) ?_ ?_
  · rintro i v σ H6 H7 hi ⟨x4, x5, rfl, s6, hd⟩ ⟨T0, x, y, rfl, nT, rfl, hx, hy⟩
    cases hx
    dsimp only at hy
    rw [List.getElem?_map] at hy
    obtain ⟨b, hb, rfl⟩ := Option.map_eq_some_iff.mp hy
    obtain ⟨u, hui, hbu⟩ := hcs.get hb
    have sT := same_new (o := .tup [.int (i : Nat), .ref b]) nT
    have s7 := s6.trans sT
    refine r_gtup (SqT.of upd_same) rfl ?_
    generalize upd H6 T0 (.tup [.int (i : Nat), .ref b]) = H7 at s7 ⊢
    rw [fltU_step hui] at hd
    have lu := sz.lu u (List.mem_of_getElem? hui)
    wtm_at "rd"
    refine ⟨q0, b, sc, u, rfl, o5.same s7, hg, .inl (SqL.of (s7 _ _ hbu)), by omega, fun z hz d H' nd hd' s => qC z (flt_u (by rw [hd, hz])) d H' (fk s7 nd) hd' (k5.same (s7.trans s)), fun hk H8 s8 => ?_⟩
    rw [hk] at hd
    have s8 := s7.trans s8
    wtm_at "rd"
    refine ⟨q0, b, sc, u, rfl, o5.same s8, s8 _ _ hbu, by omega, fun H9 s9 => ?_⟩
    have s9 := s8.trans s9
    dsimp only at hd
    wtm_at "rd"
    refine r_itebn (fun e1 => ?_) (fun e1 => ?_)
    · rw [e1, if_neg Bool.false_ne_true] at hd
      wtm_at "rd"
      exact ⟨.int (i : Nat), rfl, Nat.le_of_ble_eq_true rfl, raise_index fun d H' nd hd' s => qU i (flt_u hd) d H' (fk s9 nd) hd' (k5.same (s9.trans s))⟩
    · rw [e1, if_pos rfl] at hd
      wtm_at "rd"
      exact ⟨_, _, rfl, s9, hd⟩
  rintro σ H6 ⟨x4, x5, rfl, s6, hd⟩
  rw [List.length_map, hcs.len, List.drop_length] at hd
  have hd : fltU sc us 0 = none := hd
  rw [flt_f hd] at qC qU qF q
  clear hd
  wtm_at "rd"
  refine r_for (r_enum ?_)
  wtm_at "rd"
  refine r_get (s6 _ _ hp5) T.c_Facts T.nf_Facts_fix_pairs (fa_fx _ _ _) ?_
  wtm_at "rd"
  refine ⟨F, _, rfl, SqL.of (s6 _ _ hF5), ?_⟩
  refine for_it (walk_enum (K := K) (a := F) (xs := ds.map V.ref)) (fun i σ H' => ∃ x4 x5 x6 : Option V, σ = [some (.ref p), some (.ref q0), some (.ref aU), some (.ref aF), x4, x5, x6] ∧ Same H5 H' ∧ fltF sc fs 0 = fltF sc (fs.drop i) i) ⟨_, _, _, rfl, s6, rfl⟩ (fun i σ H' _ ⟨_, _, _, _, s, _⟩ => SqL.of (s _ _ hF5)) ?_ ?_
  · rintro i v σ H7 H8 hi ⟨x4, x5, x6, rfl, s7, hd⟩ ⟨T0, x, y, rfl, nT, rfl, hx, hy⟩
    cases hx
    dsimp only at hy
    rw [List.getElem?_map] at hy
    obtain ⟨t, ht, rfl⟩ := Option.map_eq_some_iff.mp hy
    obtain ⟨f, hfi, b, htb, hb⟩ := hds.get ht
    have sT := same_new (o := .tup [.int (i : Nat), .ref t]) nT
    have s8 := s7.trans sT
    refine r_gtup (SqT.of upd_same) rfl ?_
    generalize upd H7 T0 (.tup [.int (i : Nat), .ref t]) = H8 at s8 ⊢
    rw [fltF_step hfi] at hd
    have lu := sz.lf f (List.mem_of_getElem? hfi)
    wtm_at "rd"
    refine r_gtup (SqT.of (s8 _ _ htb)) rfl ?_
    wtm_at "rd"
    refine r_new rfl fun c1 n_c1 => ?_
    generalize eq_c1 : upd _ c1 _ = H9
    have s_c1 : Same _ H9 := eq_c1 ▸ same_new n_c1
    have h_c1 : H9 c1 = some _ := eq_c1 ▸ upd_same
    clear eq_c1
    have s8 := s8.trans s_c1
    wtm_at "rd"
    refine ⟨b, c1, _, _, rfl, rfl, s8 _ _ hb, h_c1, Nat.le_of_lt (small1000 (by rw [List.length_map]; show f.1.length + 1 ≤ 1000; omega)), fun c2 n_c2 => ?_⟩
    generalize eq_c2 : upd _ c2 _ = H10
    have s_c2 : Same _ H10 := eq_c2 ▸ same_new n_c2
    have h_c2 : H10 c2 = some _ := eq_c2 ▸ upd_same
    clear eq_c2
    have s8 := s8.trans s_c2
    have h_c2 : H10 c2 = some (.lst ((f.1 ++ [f.2]).map V.str)) := by rw [h_c2, List.map_append]; try rfl
    refine ⟨q0, c2, sc, f.1 ++ [f.2], rfl, o5.same s8, hg, .inl (SqL.of h_c2), by rw [List.length_append]; show f.1.length + 1 ≤ 100; omega, fun z hz d H' nd hd' s => qC z (by rw [hd, hz]) d H' (fk s8 nd) hd' (k5.same (s8.trans s)), fun hk H11 s11 => ?_⟩
    rw [hk] at hd
    have s11 := s8.trans s11
    wtm_at "rd"
    refine ⟨q0, b, sc, f.1, rfl, o5.same s11, s11 _ _ hb, by omega, fun H12 s12 => ?_⟩
    have s12 := s11.trans s12
    dsimp only at hd
    wtm_at "rd"
    refine r_itebn (fun e1 => ?_) (fun e1 => ?_)
    · rw [e1, if_neg Bool.false_ne_true] at hd
      wtm_at "rd"
      exact ⟨.int (i : Nat), rfl, Nat.le_of_ble_eq_true rfl, raise_index fun d H' nd hd' s => qF i hd d H' (fk s12 nd) hd' (k5.same (s12.trans s))⟩
    · rw [e1, if_pos rfl] at hd
      wtm_at "rd"
      exact ⟨_, _, _, rfl, s12, hd⟩
  · rintro σ H7 ⟨x4, x5, x6, rfl, s7, hd⟩
    rw [List.length_map, hds.len, List.drop_length] at hd
    wtm_at "rd"
    exact q hd H7 (fin H7 s7).1 (new5.same s7) (fin H7 s7).2

end

/-! ### derivations -/
def Deriv (fs : List Fx) : List Str → List Nat → List Str → Prop
  | g, [], F => F = g
  | g, i :: S, F => ∃ f, fs[i]? = some f ∧ f.2 ∉ g ∧ (∀ z ∈ f.1, z ∈ g) ∧ Deriv fs (g ++ [f.2]) S F
theorem Deriv.snoc {fs : List Fx} {i : Nat} {f : Fx} (h : fs[i]? = some f) : ∀ {S : List Nat} {g F : List Str}, Deriv fs g S F → f.2 ∉ F → (∀ z ∈ f.1, z ∈ F) → Deriv fs g (S ++ [i]) (F ++ [f.2])
  | [], g, F, d, n, m => by
    cases (show F = g from d)
    exact ⟨f, h, n, m, rfl⟩
  | j :: S, g, F, ⟨f', h1, h2, h3, d⟩, n, m => ⟨f', h1, h2, h3, Deriv.snoc h d n m⟩
theorem Deriv.sub {fs : List Fx} : ∀ {S : List Nat} {g F : List Str}, Deriv fs g S F → ∀ z ∈ g, z ∈ F
  | [], g, F, d, z, hz => by
    cases (show F = g from d)
    exact hz
  | j :: S, g, F, ⟨f', h1, h2, h3, d⟩, z, hz => Deriv.sub d z (List.mem_append.mpr (.inl hz))
/-- what a derivation finds lies in every closed set -/
theorem Deriv.least {fs : List Fx} {G : List Str} (c : ∀ f ∈ fs, (∀ z ∈ f.1, z ∈ G) → f.2 ∈ G) : ∀ {S : List Nat} {g F : List Str}, Deriv fs g S F → (∀ z ∈ g, z ∈ G) → ∀ z ∈ F, z ∈ G
  | [], g, F, d, m, z, hz => by
    cases (show F = g from d)
    exact m z hz
  | j :: S, g, F, ⟨f', h1, h2, h3, d⟩, m, z, hz => by
    refine Deriv.least c d (fun y hy => ?_) z hz
    rcases List.mem_append.mp hy with hy | hy
    · exact m y hy
    · rw [List.mem_singleton.mp hy]
      exact c f' (List.mem_of_getElem? h1) fun w hw => m w (h3 w hw)
def Closed (fs : List Fx) (F : List Str) : Prop := ∀ f ∈ fs, (∀ z ∈ f.1, z ∈ F) → f.2 ∈ F
structure Reach (fs : List Fx) (g F : List Str) (S : List Nat) : Prop where
  d : Deriv fs g S F
  c : Closed fs F
  n : S.Nodup
  l : ∀ i ∈ S, i < fs.length
theorem Reach.same {fs : List Fx} {g F G : List Str} {S R : List Nat} (h : Reach fs g F S) (k : Reach fs g G R) (z : Str) : z ∈ F ↔ z ∈ G := ⟨h.d.least k.c k.d.sub z, k.d.least h.c h.d.sub z⟩
theorem emp_all {u F : List Str} : (!(!((u.filter fun z => !decide (z ∈ F)).map V.str).isEmpty)) = u.all fun z => decide (z ∈ F) := by
  rw [Bool.not_not]
  induction u with
  | nil => rfl
  | cons x u ih =>
    by_cases c : x ∈ F
    · simp [c, List.filter_cons] at ih ⊢
      simpa using ih
    · simp [c, List.filter_cons]
theorem sub_all {u F : List Str} : (u.all fun z => decide (z ∈ F)) = true ↔ ∀ z ∈ u, z ∈ F := by
  rw [List.all_eq_true]
  exact ⟨fun h z hz => of_decide_eq_true (h z hz), fun h z hz => decide_eq_true (h z hz)⟩
/-- one going over the fixes, as the program does it -/
def passF : Nat → List Fx → List Str → List Nat → List Str × List Nat
  | _, [], F, S => (F, S)
  | i, f :: r, F, S => if f.2 ∉ F ∧ (f.1.all fun z => decide (z ∈ F)) = true then passF (i + 1) r (F ++ [f.2]) (S ++ [i]) else passF (i + 1) r F S
inductive Run (fs : List Fx) : List Str → List Nat → List Str → List Nat → Prop
  | stop {F : List Str} {S : List Nat} : passF 0 fs F S = (F, S) → Run fs F S F S
  | step {F F1 F2 : List Str} {S S1 S2 : List Nat} : passF 0 fs F S = (F1, S1) → S.length < S1.length → Run fs F1 S1 F2 S2 → Run fs F S F2 S2
theorem Run.uniq {fs : List Fx} {F A B : List Str} {S C D : List Nat} (h : Run fs F S A C) : Run fs F S B D → A = B ∧ C = D := by
  induction h with
  | stop e =>
    intro k
    cases k with
    | stop _ => exact ⟨rfl, rfl⟩
    | step e2 l _ =>
      rw [e] at e2
      cases e2
      exact absurd l (Nat.lt_irrefl _)
  | step e l _ ih =>
    intro k
    cases k with
    | stop e2 =>
      rw [e] at e2
      cases e2
      exact absurd l (Nat.lt_irrefl _)
    | step e2 _ k =>
      rw [e] at e2
      cases e2
      exact ih k
theorem pass_step {fs : List Fx} {j : Nat} {f : Fx} (h : fs[j]? = some f) {F : List Str} {S : List Nat} : passF j (fs.drop j) F S = if f.2 ∉ F ∧ (f.1.all fun z => decide (z ∈ F)) = true then passF (j + 1) (fs.drop (j + 1)) (F ++ [f.2]) (S ++ [j]) else passF (j + 1) (fs.drop (j + 1)) F S := by
  rw [List.drop_eq_getElem_cons (List.getElem?_eq_some_iff.mp h).1, (List.getElem?_eq_some_iff.mp h).2]
  rfl
def natV (i : Nat) : V := .int (i : Int)
theorem inds_le {n : Nat} {S : List Nat} (d : S.Nodup) (l : ∀ i ∈ S, i < n) : S.length ≤ n := by
  have k := nodup_len (l := S) (m := List.range n) d fun i hi => List.mem_range.mpr (l i hi)
  rwa [List.length_range] at k
def spReach (K : PySem.W.Frag) (CF CC CS CUC : Addr) : Sp := fun vs H Q E => ∃ (p a : Addr) (sc : Sch) (us : List (List Str)) (fs : List Fx) (g : List Str), vs = [.ref p, .ref a] ∧ FaAt K CF CC CS H p sc us fs ∧ sc.good ∧ FxSz us fs ∧ SqT K H a (g.map V.str) ∧ g.length ≤ 20 ∧
  (∀ z, knownF sc g = some z → ∀ (d : Addr) (H' : Hp), H d = none → H' d = some (.xd [("name", .str z)]) → Same H H' → E (.ref CUC) (some d) H') ∧
  (knownF sc g = none → ∀ (t fl sl : Addr) (F : List Str) (S : List Nat) (H' : Hp), Reach fs g F S → Run fs g [] F S → H t = none → H fl = none → H sl = none → H' t = some (.tup [.ref fl, .ref sl]) → H' fl = some (.lst (F.map V.str)) → H' sl = some (.lst (S.map natV)) → F.length ≤ 40 → Same H H' → Q (.ref t) H')
/-! ### what the three methods tell -/
abbrev ResT := Sch → List (List Str) → List Fx → List Str → Hp → V → Hp → Prop
def ResClo : ResT := fun sc us fs g H v H' => ∃ (F : List Str) (S : List Nat) (l : Addr), Reach fs g F S ∧ v = .ref l ∧ H l = none ∧ H' l = some (.lst ((sc.cols.filter fun z => decide (z ∈ F)).map V.str))
def ResChn : ResT := fun sc us fs g H v H' => ∃ (F : List Str) (S : List Nat) (l : Addr), Reach fs g F S ∧ Run fs g [] F S ∧ v = .ref l ∧ H l = none ∧ H' l = some (.lst (S.map natV))
def ResTw : ResT := fun sc us fs g H v H' => ∃ (F : List Str) (S : List Nat), Reach fs g F S ∧ v = .bl (us.any fun u => u.all fun z => decide (z ∈ F))
def spTup (Res : ResT) (K : PySem.W.Frag) (CF CC CS CUC : Addr) : Sp := fun vs H Q E => ∃ (p a : Addr) (sc : Sch) (us : List (List Str)) (fs : List Fx) (g : List Str), vs = [.ref p, .ref a] ∧ FaAt K CF CC CS H p sc us fs ∧ sc.good ∧ FxSz us fs ∧ SqT K H a (g.map V.str) ∧ g.length ≤ 20 ∧
  (∀ z, knownF sc g = some z → ∀ (d : Addr) (H' : Hp), H d = none → H' d = some (.xd [("name", .str z)]) → Same H H' → E (.ref CUC) (some d) H') ∧ (knownF sc g = none → ∀ v H', Res sc us fs g H v H' → Same H H' → Q v H')
section
variable {P : Program} {w : World} {K : PySem.W.Frag} {mg : Str → Option Value} {base : Heap}
theorem ok_Facts_reached (T : Txt K mg) : FnOk P w K mg base (L2.CX P w) 5 T.f_Facts_reached T.d_Facts_reached ["self", "columns"] (spReach K T.C_Facts T.C_Scheme T.C_Sort T.C_UnknownColumn) := by
  refine T.F_Facts_reached.okX sc_Facts_reached (fun vs H Q E h => ?_) (fun cdv A outer s H vs Q E hr h => ?_)
  · obtain ⟨p, a, sc, us, fs, g, rfl, _⟩ := h
    rfl
  obtain ⟨p, a, sc, us, fs, g, rfl, o, hg, sz, ha, lg, qE, q⟩ := h
  refine ⟨_, (pss_cons (ps_expr (pe_call (ok_known T) (hr.mono (by decide)) (by rfl) T.g_known T.F_known.kp T.b_known .nil (passes_call (takes_of rfl rfl rfl rfl) fun _ _ _ _ h => h) (pa_cons (pe_fldK (K := K) (pv 0)) (pa_cons (pv 1) pa_nil))))
      (pss_cons (ps_set (i := 2) sc_Facts_reached.nd rfl (by first | exact Or.inl rfl | exact Or.inr rfl) (pe_callTy c_listA (by rfl) T.z_list (by decide +kernel) (pa_cons (pv 1) pa_nil)))
      (pss_cons (ps_set (i := 3) sc_Facts_reached.nd rfl (by first | exact Or.inl rfl | exact Or.inr rfl) (pe_lst pa_nil))
      (pss_cons (ps_set (i := 4) sc_Facts_reached.nd rfl (by first | exact Or.inl rfl | exact Or.inr rfl) pe_bl)
      (pss_cons (ps_while (passes_of rfl) (pt_val (pv 4)) (pss_cons (ps_set (i := 4) sc_Facts_reached.nd rfl (by first | exact Or.inl rfl | exact Or.inr rfl) pe_bl)
      (pss_one (ps_for (passes_of rfl) rfl (pi_enum (by rfl) T.z_enumerate (pa_cons (pe_fldK (K := K) (pv 0)) pa_nil)) (pg_tup (by rfl) (pgs_cons (pg_name (i := 5) sc_Facts_reached.nd rfl (by first | exact Or.inl rfl | exact Or.inr rfl)) (pgs_cons (pg_tup (by rfl) (pgs_cons (pg_name (i := 6) sc_Facts_reached.nd rfl (by first | exact Or.inl rfl | exact Or.inr rfl)) (pgs_cons (pg_name (i := 7) sc_Facts_reached.nd rfl (by first | exact Or.inl rfl | exact Or.inr rfl)) pgs_nil))) pgs_nil))) (pss_one (ps_if (PW.pt (pw_and (pt_cmpR op_notIn_seq (pv 7) (pv 2) (by rfl)) (pw_and1 (pt_not (pt_truth (pe_lc (own := [("one", 8)]) (g := gName 8) rfl sc_Facts_reached.nd (pi_list (pv 6)) (blkOk_by (N := ["self", "columns", "found", "steps", "grown", "index", "needed", "column", "one"]) (sc := defScope s_Facts_reached) (by decide +kernel)) (fun _ _ _ _ _ => pg_name (i := 8) sc_Facts_reached.nd rfl (by first | exact Or.inl rfl | exact Or.inr rfl)) (fun _ _ _ _ _ => (pts_one (pt_cmpR (r := rIn K true) (op_notInK K rfl) (pv 8) (pv 2) (by rfl)))) (fun _ _ _ _ _ => (pv 8))) (fun _ => rfl)))))) (pss_cons (ps_expr (pe_bm PySem.F.plainAttrs_list PySem.F.slot_list_append PySem.F.type_list_append mt_append (pv 2) (pa_cons (pv 7) pa_nil)))
      (pss_cons (ps_expr (pe_bm PySem.F.plainAttrs_list PySem.F.slot_list_append PySem.F.type_list_append mt_append (pv 3) (pa_cons (pv 5) pa_nil)))
      (pss_one (ps_set (i := 4) sc_Facts_reached.nd rfl (by first | exact Or.inl rfl | exact Or.inr rfl) pe_bl)))) pss_nil))))))
      (pss_one (ps_ret (pe_tup (pa_cons (pv 2) (pa_cons (pv 3) pa_nil)))))))))), ?_⟩
  try simp only [nox_K, cx_K]
  obtain ⟨dx, q0, aU, aF, hp, oS, hU, ts, hF, hT⟩ := id o
  have lT := hT.len
  wtm_at "rd"
  refine r_get hp T.c_Facts T.nf_Facts_scheme (fa_sch _ _ _) ?_
  wtm_at "rd"
  refine ⟨q0, a, sc, g, rfl, oS, hg, .inr ha, by omega, qE, fun hk H1 s1 => ?_⟩
  have q := q hk
  have ha := same_tup s1 ha
  wtm_at "rd"
  refine r_listA (.inr ha) fun fl n_fl => ?_
  have nfl0 := s1.free n_fl
  generalize eq_fl : upd _ fl _ = H2
  have s_fl : Same _ H2 := eq_fl ▸ same_new n_fl
  have h_fl : H2 fl = some _ := eq_fl ▸ upd_same
  clear eq_fl
  have s1 := s1.trans s_fl
  wtm_at "rd"
  refine r_new rfl fun sl n_sl => ?_
  have nsl0 := s1.free n_sl
  have fs_ : fl ≠ sl := ne_of_none h_fl n_sl
  generalize eq_sl : upd _ sl _ = H3
  have s_sl : Same _ H3 := eq_sl ▸ same_new n_sl
  have h_sl : H3 sl = some _ := eq_sl ▸ upd_same
  clear eq_sl
  have h_fl := s_sl _ _ h_fl
  have s1 := s1.trans s_sl
  wtm_at "rd"
  refine r_while (fun m σ H' => ∃ (gr : Bool) (x5 x6 x7 x8 : Option V) (F : List Str) (S : List Nat), m = (fs.length - S.length) * 2 + (if gr then 1 else 0) ∧ σ = [some (.ref p), some (.ref a), some (.ref fl), some (.ref sl), some (.bl gr), x5, x6, x7, x8] ∧ Same H H' ∧ H' fl = some (.lst (F.map V.str)) ∧ H' sl = some (.lst (S.map natV)) ∧ Deriv fs g S F ∧ S.Nodup ∧ (∀ i ∈ S, ∃ f, fs[i]? = some f ∧ f.2 ∈ F) ∧ F.length = g.length + S.length ∧ (gr = false → Closed fs F) ∧ (gr = false → Run fs g [] F S) ∧ (gr = true → ∀ F2 S2, Run fs F S F2 S2 → Run fs g [] F2 S2)) ⟨_, true, _, _, _, _, g, [], rfl, rfl, s1, h_fl, h_sl, rfl, List.nodup_nil, (fun i z => nomatch z), rfl, (fun z => nomatch z), (fun z => nomatch z), fun _ _ _ z => z⟩ ?_
  rintro m σ H4 ⟨gr, x5, x6, x7, x8, F, S, rfl, rfl, s4, hfl, hsl, dv, nd, li, lF, cl, rn, rs⟩
  have bnd : ∀ {F' : List Str} {S' : List Nat}, S'.Nodup → (∀ i ∈ S', ∃ f, fs[i]? = some f ∧ f.2 ∈ F') → S'.length ≤ fs.length := fun {F' S'} n l => inds_le n fun i hi => by
    obtain ⟨f, hf, _⟩ := l i hi
    exact (List.getElem?_eq_some_iff.mp hf).1
  have lS := bnd nd li
  have lfs := sz.f
  wtm_at "rd"
  cases gr with
  | false =>
    refine iteF ?_
    wtm_at "rd"
    have s40 := s4
    refine r_new rfl fun t n_t => ?_
    generalize eq_t : upd _ t _ = H5
    have s_t : Same _ H5 := eq_t ▸ same_new n_t
    have h_t : H5 t = some _ := eq_t ▸ upd_same
    clear eq_t
    have hfl := s_t _ _ hfl
    have hsl := s_t _ _ hsl
    have s4 := s4.trans s_t
    exact q t fl sl F S H5 ⟨dv, cl rfl, nd, fun i hi => by
      obtain ⟨f, hf, _⟩ := li i hi
      exact (List.getElem?_eq_some_iff.mp hf).1⟩ (rn rfl) (s40.free n_t) nfl0 nsl0 h_t hfl hsl (by omega) s4
  | true =>
    refine iteT ?_
    refine ⟨fun σ' H' => ∃ (gr : Bool) (x5 x6 x7 x8 : Option V) (F' : List Str) (S' : List Nat), σ' = [some (.ref p), some (.ref a), some (.ref fl), some (.ref sl), some (.bl gr), x5, x6, x7, x8] ∧ Same H H' ∧ H' fl = some (.lst (F'.map V.str)) ∧ H' sl = some (.lst (S'.map natV)) ∧ Deriv fs g S' F' ∧ S'.Nodup ∧ (∀ i ∈ S', ∃ f, fs[i]? = some f ∧ f.2 ∈ F') ∧ F'.length = g.length + S'.length ∧ (gr = false → Closed fs F') ∧ S.length ≤ S'.length ∧ (gr = true → S.length < S'.length) ∧ (gr = false → Run fs g [] F' S') ∧ (gr = true → ∀ F2 S2, Run fs F' S' F2 S2 → Run fs g [] F2 S2), ?_, ?_⟩
    · rintro σ' H' ⟨gr, y5, y6, y7, y8, F', S', rfl, s', h1, h2, h3, h4, h5, h6, h7, h8, h9, ha, hb⟩
      have lS' := bnd h4 h5
      refine ⟨_, ?_, gr, y5, y6, y7, y8, F', S', rfl, rfl, s', h1, h2, h3, h4, h5, h6, h7, ha, hb⟩
      cases gr with
      | false =>
        show (fs.length - S'.length) * 2 + 0 < (fs.length - S.length) * 2 + 1
        omega
      | true =>
        have := h9 rfl
        show (fs.length - S'.length) * 2 + 1 < (fs.length - S.length) * 2 + 1
        omega
    wtm_at "rd"
    refine r_for (r_enum ?_)
    wtm_at "rd"
    refine r_get (s4 _ _ hp) T.c_Facts T.nf_Facts_fix_pairs (fa_fx _ _ _) ?_
    wtm_at "rd"
    refine ⟨aF, _, rfl, SqL.of (s4 _ _ hF), ?_⟩
    refine for_it (walk_enum (K := K) (a := aF) (xs := ts.map V.ref)) (fun j σ' H' => ∃ (gr : Bool) (x5 x6 x7 x8 : Option V) (F' : List Str) (S' : List Nat), σ' = [some (.ref p), some (.ref a), some (.ref fl), some (.ref sl), some (.bl gr), x5, x6, x7, x8] ∧ Same H H' ∧ H' fl = some (.lst (F'.map V.str)) ∧ H' sl = some (.lst (S'.map natV)) ∧ Deriv fs g S' F' ∧ S'.Nodup ∧ (∀ i ∈ S', ∃ f, fs[i]? = some f ∧ f.2 ∈ F') ∧ F'.length = g.length + S'.length ∧ (gr = false → ∀ f ∈ fs.take j, (∀ z ∈ f.1, z ∈ F') → f.2 ∈ F') ∧ S.length ≤ S'.length ∧ (gr = true → S.length < S'.length) ∧ passF 0 fs F S = passF j (fs.drop j) F' S' ∧ (gr = false → F' = F ∧ S' = S)) ⟨false, _, _, _, _, F, S, rfl, s4, hfl, hsl, dv, nd, li, lF, fun _ f hf => (by rw [List.take_zero] at hf; cases hf), Nat.le_refl _, (fun z => nomatch z), rfl, fun _ => ⟨rfl, rfl⟩⟩ (fun i σ H' _ ⟨_, _, _, _, _, _, _, _, s, _⟩ => SqL.of (s _ _ hF)) ?_ ?_
    · rintro j v σ' H5 H6 hi ⟨gr, y5, y6, y7, y8, F', S', rfl, s', h1, h2, h3, h4, h5, h6, h7, h8, h9, hps, hgf⟩ ⟨T0, x, y, rfl, nT, rfl, hx, hy⟩
      have hps0 := hps
      cases hx
      dsimp only at hy
      rw [List.getElem?_map] at hy
      obtain ⟨t, ht, rfl⟩ := Option.map_eq_some_iff.mp hy
      obtain ⟨f, hfi, b, htb, hb⟩ := hT.get ht
      have sT := same_new (o := .tup [.int (j : Nat), .ref t]) nT
      have s7 := s'.trans sT
      have h1 := sT _ _ h1
      have h2 := sT _ _ h2
      have lS' := bnd h4 h5
      rw [pass_step hfi] at hps
      refine r_gtup (SqT.of upd_same) rfl ?_
      generalize upd H5 T0 (.tup [.int (j : Nat), .ref t]) = H6 at s7 h1 h2 ⊢
      wtm_at "rd"
      refine r_gtup (SqT.of (s7 _ _ htb)) rfl ?_
      wtm_at "rd"
      refine r_inL (SqL.of h1) rfl (flat_strsV _) ?_
      show ∃ k, V.bl (!inV _ (F'.map V.str)) = .bl k ∧ _
      rw [inV_strs]
      wtm_at "rd"
      have tk : ∀ f' ∈ fs.take (j + 1), f' ∈ fs.take j ∨ f' = f := fun f' hf' => take_snoc hfi hf'
      refine r_iten (fun e1 => ?_) (fun e1 => ?_)
      · have lfj := sz.lf f (List.mem_of_getElem? hfi)
        have hb6 := s7 _ _ hb
        wtm_at "rd"
        refine r_itl (SqL.of hb6) ?_
        refine lc_filt (fun v => !decide (strV v ∈ F')) (SqL.of hb6) (by rw [List.length_map]; omega) (fun x H' QT hx s' hQ => ?_) (fun x H' QQ hx s' hQ => ?_) fun D n_D => ?_
        · obtain ⟨z, _, rfl⟩ := List.mem_map.mp hx
          wtm_at "rd"
          refine r_inL (SqL.of (s' _ _ h1)) rfl (flat_strsV _) ?_
          show ∃ k, V.bl (!inV _ (F'.map V.str)) = .bl k ∧ _
          rw [inV_strs]
          exact ⟨_, rfl, hQ⟩
        · wtm_at "rd"
          exact hQ
        rw [filt_s (fun z => !decide (z ∈ F')) f.1 _ fun z _ => rfl]
        generalize eq_D : upd _ D _ = H7
        have s_D : Same _ H7 := eq_D ▸ same_new n_D
        have h_D : H7 D = some _ := eq_D ▸ upd_same
        clear eq_D
        have h1 := s_D _ _ h1
        have h2 := s_D _ _ h2
        have s7 := s7.trans s_D
        refine ⟨_, .inl ⟨_, SqL.of h_D, rfl⟩, ?_⟩
        try dsimp only
        rw [emp_all]
        have lF2 : F'.length ≤ 40 := by omega
        refine r_iteb (fun e2 => ?_) (fun e2 => ?_)
        · have e2 := sub_all.mp e2
          wtm_at "rd"
          refine r_tyL (SqL.of h1) ?_
          wtm_at "rd"
          refine r_app h1 (small1000 (by rw [List.length_map]; omega)) ?_
          wtm_at "rd"
          have ns : sl ≠ fl := fs_.symm
          have h2' : (upd H7 fl (.lst (F'.map V.str ++ [.str f.2]))) sl = some (.lst (S'.map natV)) := (upd_ne ns).trans h2
          refine r_tyL (SqL.of h2') ?_
          wtm_at "rd"
          refine r_app h2' (small1000 (by rw [List.length_map]; omega)) ?_
          wtm_at "rd"
          refine ⟨true, _, _, _, _, F' ++ [f.2], S' ++ [j], rfl, fun b o e => (upd_ne (ne_of_none e nsl0)).trans ((upd_ne (ne_of_none e nfl0)).trans (s7 _ _ e)), ?_, ?_, h3.snoc hfi e1 e2, ?_, fun i hi => ?_, ?_, (fun z => nomatch z), ?_, fun _ => ?_, ?_, fun z => nomatch z⟩
          · rw [upd_ne fs_, upd_same, List.map_append]
            rfl
          · rw [upd_same, List.map_append]
            rfl
          · refine List.nodup_append.mpr ⟨h4, by simp, fun x hx y hy => ?_⟩
            rw [List.mem_singleton.mp hy]
            intro e
            subst e
            obtain ⟨f', hf', hm⟩ := h5 _ hx
            rw [hfi] at hf'
            cases hf'
            exact e1 hm
          · rcases List.mem_append.mp hi with c | c
            · obtain ⟨f', hf', hm⟩ := h5 i c
              exact ⟨f', hf', List.mem_append.mpr (.inl hm)⟩
            · rw [List.mem_singleton.mp c]
              exact ⟨f, hfi, List.mem_append.mpr (.inr List.mem_cons_self)⟩
          · simp only [List.length_append, List.length_singleton]
            omega
          · rw [List.length_append]
            omega
          · rw [List.length_append]
            show S.length < S'.length + 1
            omega
          · rw [hps, if_pos ⟨e1, sub_all.mpr e2⟩]
        · wtm_at "rd"
          refine ⟨gr, _, _, _, _, F', S', rfl, s7, h1, h2, h3, h4, h5, h6, fun z f' hf' hz => ?_, h8, h9, by rw [hps, if_neg fun z => by rw [z.2] at e2; cases e2], hgf⟩
          rcases tk f' hf' with c | c
          · exact h7 z f' c hz
          · rw [c] at hz
            rw [sub_all.mpr hz] at e2
            cases e2
      · wtm_at "rd"
        refine ⟨gr, _, _, _, _, F', S', rfl, s7, h1, h2, h3, h4, h5, h6, fun z f' hf' hz => ?_, h8, h9, by rw [hps, if_neg fun z => z.1 e1], hgf⟩
        rcases tk f' hf' with c | c
        · exact h7 z f' c hz
        · rw [c]
          exact e1
    · rintro σ' H5 ⟨gr, y5, y6, y7, y8, F', S', rfl, s', h1, h2, h3, h4, h5, h6, h7, h8, h9, hps, hgf⟩
      rw [List.length_map, lT, List.take_length] at h7
      rw [List.length_map, lT, List.drop_length] at hps
      have hps : passF 0 fs F S = (F', S') := hps
      wtm_at "rd"
      refine ⟨gr, _, _, _, _, F', S', rfl, s', h1, h2, h3, h4, h5, h6, h7, h8, h9, fun e => ?_, fun e F2 S2 k => rs rfl F2 S2 (.step hps (h9 e) k)⟩
      obtain ⟨e1, e2⟩ := hgf e
      subst e1 e2
      exact rs rfl _ _ (.stop hps)

theorem fa_who (T : Txt K mg) {H : Hp} {p : Addr} {sc : Sch} {us : List (List Str)} {fs : List Fx} {m : Str} {B : Prop} (o : FaAt K T.C_Facts T.C_Scheme T.C_Sort H p sc us fs) (h1 : ¬ m = "fix_pairs") (h2 : ¬ m = "unique_sets") (h3 : ¬ m = "scheme") (h : B) : ∃ a' dx fs, V.ref p = .ref a' ∧ H a' = some (.ins T.C_Facts dx fs) ∧ fs.lookup m = none ∧ B := by
  obtain ⟨dx, q, aU, aF, e, _⟩ := o
  exact ⟨p, dx, _, rfl, e, fa_no _ _ _ h1 h2 h3, h⟩
theorem cols_len {sc : Sch} (hg : sc.good) : sc.cols.length ≤ 11 := by
  have l1 := hg.l1
  have l2 := hg.l2
  have l3 := hg.l3
  have l4 := hg.l4
  have lc : sc.cols.length = sc.ps.length + (sc.ss.length + (sc.vs.length + sc.ms.length)) := by
    unfold Sch.cols
    rw [List.length_append, List.length_append, List.length_append, List.length_map]
  omega
theorem ok_Facts_closure (T : Txt K mg) : FnR P w K mg base (L2.CX P w) 7 T.f_Facts_closure (fun vs H Q E => ∃ ws rest, vs = ws ++ rest ∧ ws.length = ["self"].length ∧ rest.length ≤ sizeLine ∧ ∀ p, H p = none → (spTup ResClo K T.C_Facts T.C_Scheme T.C_Sort T.C_UnknownColumn) (ws ++ [V.ref p]) (upd H p (.tup rest)) Q E) := by
  obtain ⟨oc, od, kV, doc, pm, an, cdv, ct, osl, eF, lk, hcd⟩ := T.F_Facts_closure.ex
  rw [eF] at lk
  refine StX.fn_star (ps := ["self"]) (pv := "columns") lk hcd sc_Facts_closure StX.cxUp (fun us rest hl => match us, rest, hl with | [_], [], _ => rfl | [_], _ :: _, _ => rfl) fun A outer s H vs Q E hr h => ?_
  obtain ⟨p, a, sc, us, fs, g, rfl, o, hg, sz, ha, lg, qE, q⟩ := h
  refine ⟨_, (pss_cons (ps_set (i := 2) sc_Facts_closure.nd rfl (by first | exact Or.inl rfl | exact Or.inr rfl) (pe_ix (r := rIxT K) ix_tup (pe_meth (pv 0) T.c_Facts T.mt_Facts_reached (ok_Facts_reached T) (hr.mono (by decide)) T.b_Facts_reached .nil (passes_call (takes_of rfl rfl rfl rfl) fun _ _ _ _ h => h) (pa_cons (pv 1) pa_nil)) pe_int (fun _ _ => rfl)))
      (pss_one (ps_ret (pe_lc (own := [("one", 3)]) (g := gName 3) rfl sc_Facts_closure.nd (pi_list (pe_meth0 (pe_fldK (K := K) (pv 0)) T.c_Scheme T.mt_Scheme_columns (ok_Scheme_columns T) (hr.mono (by decide)) T.b_Scheme_columns .nil pass0)) (blkOk_by (N := ["self", "columns", "found", "one"]) (sc := defScope s_Facts_closure) (by decide +kernel)) (fun _ _ _ _ _ => pg_name (i := 3) sc_Facts_closure.nd rfl (by first | exact Or.inl rfl | exact Or.inr rfl)) (fun _ _ _ _ _ => (pts_one (pt_cmpR (r := rIn K false) (op_inK K rfl) (pv 3) (pv 2) (by rfl)))) (fun _ _ _ _ _ => (pv 3)))))), ?_⟩
  try simp only [nox_K, cx_K]
  wtm_at "rd"
  refine fa_who T o (by decide +kernel) (by decide +kernel) (by decide +kernel) ?_
  wtm_at "rd"
  refine ⟨p, a, sc, us, fs, g, rfl, o, hg, sz, ha, lg, qE, fun hk t fl sl F S H1 R rn nt nf ns ht hf hs lF s1 => ?_⟩
  have q := q hk
  obtain ⟨dx, q0, aU, aF, hp, oS, ⟨bs, hU, hu⟩, hX⟩ := o.same s1
  wtm_at "rd"
  refine r_get hp T.c_Facts T.nf_Facts_scheme (fa_sch _ _ _) ?_
  refine sch_who oS (by decide +kernel) (by decide +kernel) (by decide +kernel) (by decide +kernel) ?_
  wtm_at "rd"
  refine ⟨q0, sc, rfl, oS, hg.small, fun nl H2 n_nl s2 hnl => ?_⟩
  have hf := s2 _ _ hf
  have s2 := s1.trans s2
  have lc := cols_len hg
  refine r_itl (SqL.of hnl) ?_
  refine lc_filt (fun v => decide (strV v ∈ F)) (SqL.of hnl) (by rw [List.length_map]; omega) (fun x H' QT hx s' hQ => ?_) (fun x H' QQ hx s' hQ => ?_) fun D n_D => ?_
  · obtain ⟨z, _, rfl⟩ := List.mem_map.mp hx
    wtm_at "rd"
    refine r_inL (SqL.of (s' _ _ hf)) rfl (flat_strsV _) ?_
    show ∃ k, V.bl (inV _ (F.map V.str)) = .bl k ∧ _
    rw [inV_strs]
    exact ⟨_, rfl, hQ⟩
  · wtm_at "rd"
    exact hQ
  rw [filt_s (fun z => decide (z ∈ F)) sc.cols _ fun z _ => rfl]
  exact q _ _ ⟨F, S, D, R, rfl, s2.free n_D, upd_same⟩ (s2.trans (same_new n_D))
theorem ok_Facts_chain (T : Txt K mg) : FnR P w K mg base (L2.CX P w) 7 T.f_Facts_chain (fun vs H Q E => ∃ ws rest, vs = ws ++ rest ∧ ws.length = ["self"].length ∧ rest.length ≤ sizeLine ∧ ∀ p, H p = none → (spTup ResChn K T.C_Facts T.C_Scheme T.C_Sort T.C_UnknownColumn) (ws ++ [V.ref p]) (upd H p (.tup rest)) Q E) := by
  obtain ⟨oc, od, kV, doc, pm, an, cdv, ct, osl, eF, lk, hcd⟩ := T.F_Facts_chain.ex
  rw [eF] at lk
  refine StX.fn_star (ps := ["self"]) (pv := "columns") lk hcd sc_Facts_chain StX.cxUp (fun us rest hl => match us, rest, hl with | [_], [], _ => rfl | [_], _ :: _, _ => rfl) fun A outer s H vs Q E hr h => ?_
  obtain ⟨p, a, sc, us, fs, g, rfl, o, hg, sz, ha, lg, qE, q⟩ := h
  refine ⟨_, (pss_one (ps_ret (pe_ix (r := rIxT K) ix_tup (pe_meth (pv 0) T.c_Facts T.mt_Facts_reached (ok_Facts_reached T) (hr.mono (by decide)) T.b_Facts_reached .nil (passes_call (takes_of rfl rfl rfl rfl) fun _ _ _ _ h => h) (pa_cons (pv 1) pa_nil)) pe_int (fun _ _ => rfl)))), ?_⟩
  try simp only [nox_K, cx_K]
  wtm_at "rd"
  refine fa_who T o (by decide +kernel) (by decide +kernel) (by decide +kernel) ?_
  wtm_at "rd"
  refine ⟨p, a, sc, us, fs, g, rfl, o, hg, sz, ha, lg, qE, fun hk t fl sl F S H1 R rn nt nf ns ht hf hs lF s1 => ?_⟩
  have q := q hk
  obtain ⟨dx, q0, aU, aF, hp, oS, ⟨bs, hU, hu⟩, hX⟩ := o.same s1
  wtm_at "rd"
  exact q _ _ ⟨F, S, sl, R, rn, rfl, ns, hs⟩ s1
theorem ok_Facts_no_twins (T : Txt K mg) : FnR P w K mg base (L2.CX P w) 7 T.f_Facts_no_twins (fun vs H Q E => ∃ ws rest, vs = ws ++ rest ∧ ws.length = ["self"].length ∧ rest.length ≤ sizeLine ∧ ∀ p, H p = none → (spTup ResTw K T.C_Facts T.C_Scheme T.C_Sort T.C_UnknownColumn) (ws ++ [V.ref p]) (upd H p (.tup rest)) Q E) := by
  obtain ⟨oc, od, kV, doc, pm, an, cdv, ct, osl, eF, lk, hcd⟩ := T.F_Facts_no_twins.ex
  rw [eF] at lk
  refine StX.fn_star (ps := ["self"]) (pv := "columns") lk hcd sc_Facts_no_twins StX.cxUp (fun us rest hl => match us, rest, hl with | [_], [], _ => rfl | [_], _ :: _, _ => rfl) fun A outer s H vs Q E hr h => ?_
  obtain ⟨p, a, sc, us, fs, g, rfl, o, hg, sz, ha, lg, qE, q⟩ := h
  refine ⟨_, (pss_cons (ps_set (i := 2) sc_Facts_no_twins.nd rfl (by first | exact Or.inl rfl | exact Or.inr rfl) (pe_ix (r := rIxT K) ix_tup (pe_meth (pv 0) T.c_Facts T.mt_Facts_reached (ok_Facts_reached T) (hr.mono (by decide)) T.b_Facts_reached .nil (passes_call (takes_of rfl rfl rfl rfl) fun _ _ _ _ h => h) (pa_cons (pv 1) pa_nil)) pe_int (fun _ _ => rfl)))
      (pss_cons (ps_for (passes_of rfl) rfl (pi_list (pe_fldK (K := K) (pv 0))) (pg_name (i := 3) sc_Facts_no_twins.nd rfl (by first | exact Or.inl rfl | exact Or.inr rfl)) (pss_one (ps_if (pt_not (pt_truth (pe_lc (own := [("one", 4)]) (g := gName 4) rfl sc_Facts_no_twins.nd (pi_list (pv 3)) (blkOk_by (N := ["self", "columns", "found", "needed", "one"]) (sc := defScope s_Facts_no_twins) (by decide +kernel)) (fun _ _ _ _ _ => pg_name (i := 4) sc_Facts_no_twins.nd rfl (by first | exact Or.inl rfl | exact Or.inr rfl)) (fun _ _ _ _ _ => (pts_one (pt_cmpR (r := rIn K true) (op_notInK K rfl) (pv 4) (pv 2) (by rfl)))) (fun _ _ _ _ _ => (pv 4))) (fun _ => rfl))) (pss_one (ps_ret pe_bl)) pss_nil)))
      (pss_one (ps_ret pe_bl)))), ?_⟩
  try simp only [nox_K, cx_K]
  wtm_at "rd"
  refine fa_who T o (by decide +kernel) (by decide +kernel) (by decide +kernel) ?_
  wtm_at "rd"
  refine ⟨p, a, sc, us, fs, g, rfl, o, hg, sz, ha, lg, qE, fun hk t fl sl F S H1 R rn nt nf ns ht hf hs lF s1 => ?_⟩
  have q := q hk
  obtain ⟨dx, q0, aU, aF, hp, oS, ⟨bs, hU, hu⟩, hX⟩ := o.same s1
  wtm_at "rd"
  refine r_for (r_il ?_)
  wtm_at "rd"
  refine r_get hp T.c_Facts T.nf_Facts_unique_sets (fa_us _ _ _) ?_
  refine r_itl (SqL.of hU) ?_
  refine for_list (K := K) (a := aU) (xs := bs.map V.ref) (fun i σ H' => ∃ x3 x4 : Option V, σ = [some (.ref p), some (.ref a), some (.ref fl), x3, x4] ∧ Same H1 H' ∧ ∀ u ∈ us.take i, (u.all fun z => decide (z ∈ F)) = false) ⟨_, _, rfl, Same.refl _, fun u h => (by rw [List.take_zero] at h; cases h)⟩ (fun i σ H' _ ⟨_, _, _, s, _⟩ => SqL.of (s _ _ hU)) ?_ ?_
  · rintro i v σ H2 hv ⟨x3, x4, rfl, s2, hall⟩
    rw [List.getElem?_map] at hv
    obtain ⟨b, hb, rfl⟩ := Option.map_eq_some_iff.mp hv
    obtain ⟨u, hui, hbu⟩ := hu.get hb
    have lu := sz.lu u (List.mem_of_getElem? hui)
    have hbu := s2 _ _ hbu
    have hf := s2 _ _ hf
    wtm_at "rd"
    refine r_itl (SqL.of hbu) ?_
    refine lc_filt (fun v => !decide (strV v ∈ F)) (SqL.of hbu) (by rw [List.length_map]; omega) (fun x H' QT hx s' hQ => ?_) (fun x H' QQ hx s' hQ => ?_) fun D n_D => ?_
    · obtain ⟨z, _, rfl⟩ := List.mem_map.mp hx
      wtm_at "rd"
      refine r_inL (SqL.of (s' _ _ hf)) rfl (flat_strsV _) ?_
      show ∃ k, V.bl (!inV _ (F.map V.str)) = .bl k ∧ _
      rw [inV_strs]
      exact ⟨_, rfl, hQ⟩
    · wtm_at "rd"
      exact hQ
    rw [filt_s (fun z => !decide (z ∈ F)) u _ fun z _ => rfl]
    generalize eq_D : upd _ D _ = H3
    have s_D : Same _ H3 := eq_D ▸ same_new n_D
    have h_D : H3 D = some _ := eq_D ▸ upd_same
    clear eq_D
    have s2 := s2.trans s_D
    refine ⟨_, .inl ⟨_, SqL.of h_D, rfl⟩, ?_⟩
    try dsimp only
    rw [emp_all]
    refine r_iteb (fun e2 => ?_) (fun e2 => ?_)
    · wtm_at "rd"
      refine q _ _ ⟨F, S, R, ?_⟩ (s1.trans s2)
      rw [List.any_eq_true.mpr ⟨u, List.mem_of_getElem? hui, e2⟩]
    · wtm_at "rd"
      refine ⟨_, _, rfl, s2, fun y hy => ?_⟩
      rcases take_snoc hui hy with c | c
      · exact hall y c
      · rw [c]
        exact e2
  · rintro σ H2 ⟨x3, x4, rfl, s2, hall⟩
    rw [List.length_map, hu.len, List.take_length] at hall
    wtm_at "rd"
    refine q _ _ ⟨F, S, R, ?_⟩ (s1.trans s2)
    rw [List.any_eq_false.mpr fun y hy => by rw [hall y hy]; exact Bool.false_ne_true]

end

/-- the law's pair of lists -/
def LstAt (H : Hp) (p : Addr) (us : List (List Str)) (fs : List Fx) : Prop := ∃ a b, H p = some (.tup [.ref a, .ref b]) ∧ UsAt H a us ∧ FxAt H b fs
theorem LstAt.same {H H' : Hp} {p : Addr} {us : List (List Str)} {fs : List Fx} (h : LstAt H p us fs) (s : Same H H') : LstAt H' p us fs := let ⟨a, b, x, y, z⟩ := h; ⟨a, b, s _ _ x, y.same s, z.same s⟩
theorem LstAt.ext {H H' : Hp} {p : Addr} {us : List (List Str)} {fs : List Fx} {d c r : Addr} (h : LstAt H p us fs) (D : Drw H d c r) (e : Ext d r H H') : LstAt H' p us fs := let ⟨a, b, x, y, z⟩ := h; ⟨a, b, e _ _ x (tup_dr D x).1 (tup_dr D x).2, y.ext D e, z.ext D e⟩
/-- a left side: known columns, no mark, a strong one among them -/
structure LeftOk (sc : Sch) (u : List Str) : Prop where
  k : ∀ z ∈ u, z ∈ sc.cols
  m : ∀ z ∈ u, z ∉ sc.ms
  s : ∃ z ∈ u, z ∉ sc.ps
  l : u.length ≤ 12
theorem LeftOk.usable {sc : Sch} {u : List Str} (h : LeftOk sc u) : usableB sc u = true := by
  unfold usableB
  rw [Bool.and_eq_true, List.isEmpty_iff, decide_eq_true_eq]
  refine ⟨List.filter_eq_nil_iff.mpr fun z hz => by rw [decide_eq_true_eq]; exact h.m z hz, ?_⟩
  obtain ⟨z, hz, n⟩ := h.s
  exact List.length_pos_of_mem (List.mem_filter.mpr ⟨hz, by rw [decide_eq_false n]; try rfl⟩)
theorem known_none {sc : Sch} {u : List Str} (h : ∀ z ∈ u, z ∈ sc.cols) : knownF sc u = none := List.find?_eq_none.mpr fun z hz => by rw [decide_eq_true (h z hz)]; exact Bool.false_ne_true
structure LstOk (sc : Sch) (us : List (List Str)) (fs : List Fx) : Prop where
  u : ∀ u ∈ us, LeftOk sc u
  f : ∀ f ∈ fs, LeftOk sc f.1 ∧ f.2 ∈ sc.cols
  lu : us.length ≤ 2
  lf : fs.length ≤ 5
theorem fltU_ok {sc : Sch} : ∀ {us : List (List Str)} {i : Nat}, (∀ u ∈ us, LeftOk sc u) → fltU sc us i = none
  | [], _, _ => rfl
  | u :: us, i, h => by
    have k := h u List.mem_cons_self
    show (match knownF sc u with | some z => some (.col z) | none => if usableB sc u then fltU sc us (i + 1) else some (.uni i)) = none
    rw [known_none k.k, k.usable]
    exact fltU_ok fun v hv => h v (List.mem_cons_of_mem _ hv)
theorem fltF_ok {sc : Sch} : ∀ {fs : List Fx} {i : Nat}, (∀ f ∈ fs, LeftOk sc f.1 ∧ f.2 ∈ sc.cols) → fltF sc fs i = none
  | [], _, _ => rfl
  | f :: fs, i, h => by
    have k := h f List.mem_cons_self
    show (match knownF sc (f.1 ++ [f.2]) with | some z => some (.col z) | none => if usableB sc f.1 then fltF sc fs (i + 1) else some (.fix i)) = none
    rw [known_none fun z hz => (List.mem_append.mp hz).elim (k.1.k z) fun y => (List.mem_singleton.mp y) ▸ k.2, k.1.usable]
    exact fltF_ok fun v hv => h v (List.mem_cons_of_mem _ hv)
theorem LstOk.flt {sc : Sch} {us : List (List Str)} {fs : List Fx} (h : LstOk sc us fs) : flt sc us fs = none := by
  rw [flt_f (fltU_ok h.u)]
  exact fltF_ok h.f
theorem LstOk.sz {sc : Sch} {us : List (List Str)} {fs : List Fx} (h : LstOk sc us fs) : FxSz us fs := by
  have h1 := h.lu
  have h2 := h.lf
  exact ⟨by omega, by omega, fun u hu => by have := (h.u u hu).l; omega, fun f hf => by have := (h.f f hf).1.l; omega⟩
def strong (sc : Sch) : List Str := sc.ss.map Srt.ky ++ sc.vs
def spLeft : Sp := fun vs H Q _ => ∃ (d c r p : Addr) (sc : Sch), vs = [.ref d, .ref p] ∧ Drw H d c r ∧ SpecAt H p sc ∧ sc.good ∧
  ∀ (l : Addr) (u : List Str) (H' : Hp), LeftOk sc u → H l = none → H' l = some (.lst (u.map V.str)) → Drw H' d c r → Ext d r H H' → Q (.ref l) H'
def spLists : Sp := fun vs H Q _ => ∃ (d c r p : Addr) (sc : Sch), vs = [.ref d, .ref p] ∧ Drw H d c r ∧ SpecAt H p sc ∧ sc.good ∧
  ∀ (t : Addr) (us : List (List Str)) (fs : List Fx) (H' : Hp), LstOk sc us fs → LstAt H' t us fs → Drw H' d c r → Ext d r H H' → Q (.ref t) H'
def spFacts (K : PySem.W.Frag) (CF CC CS : Addr) : Sp := fun vs H Q _ => ∃ (p t : Addr) (sc : Sch) (us : List (List Str)) (fs : List Fx), vs = [.ref p, .ref t] ∧ SpecAt H p sc ∧ sc.good ∧ LstAt H t us fs ∧ LstOk sc us fs ∧
  ∀ (a : Addr) (H' : Hp), FaAt K CF CC CS H' a sc us fs → FaNew (fun x => H x = none) H' a → Same H H' → Q (.ref a) H'
theorem make_fa {K : PySem.W.Frag} {CF CC CS CUC CBU CBF : Addr} {H : Hp} {F : Addr → Hp → Prop} {E : XK} {sc : Sch} {us : List (List Str)} {fs : List Fx} {q0 aU aF : Addr} {bs ts : List Addr} (hg : sc.good) (o : SchAt K CC CS H q0 sc) (hU : SqA K H aU (bs.map V.ref)) (hu : UsL H bs us) (hF : SqA K H aF (ts.map V.ref)) (hf : FxL H ts fs) (sz : FxSz us fs) (ok : flt sc us fs = none)
    (h : ∀ x H', Same H H' → FaAt K CF CC CS H' x sc us fs → FaNew (fun a => H a = none) H' x → F x H') : ∀ x dx, H x = none → H dx = none → dx ≠ x → spFaInit K CF CC CS CUC CBU CBF [.ref x, .ref q0, .ref aU, .ref aF] (upd (upd H dx (.own x)) x (.ins CF dx [])) (fun v H2 => v = .non ∧ F x H2) E := fun x dx nx nd nxd => by
  have s0 : Same H (upd (upd H dx (.own x)) x (.ins CF dx [])) := same_two nx nd
  exact ⟨x, dx, q0, aU, aF, sc, us, fs, bs, ts, rfl, upd_same, o.same s0, hg, hU.same s0, hu.same s0, hF.same s0, hf.same s0, sz, fun z hz => (by rw [ok] at hz; cases hz), fun z hz => (by rw [ok] at hz; cases hz), fun z hz => (by rw [ok] at hz; cases hz), fun _ H8 o8 n8 hk => ⟨rfl, h x H8 (same_make nx nd hk) o8 (n8.mono fun a na => s0.free na)⟩⟩
def FxN (p : Addr) (H : Hp) (ts : List Addr) (fs : List Fx) : Prop := All2 (fun t f => ∃ b, b ≠ p ∧ H t = some (.tup [.ref b, .str f.2]) ∧ H b = some (.lst (f.1.map V.str))) ts fs
theorem FxN.same {p : Addr} {H H' : Hp} {bs : List Addr} {us : List Fx} (h : FxN p H bs us) (s : Same H H') : FxN p H' bs us := h.imp fun _ _ ⟨b, n, z, y⟩ => ⟨b, n, s _ _ z, s _ _ y⟩
theorem FxN.ext {p : Addr} {H H' : Hp} {bs : List Addr} {us : List Fx} {d c r : Addr} (h : FxN p H bs us) (D : Drw H d c r) (e : Ext d r H H') : FxN p H' bs us := h.imp fun _ _ ⟨b, n, z, y⟩ => ⟨b, n, e _ _ z (tup_dr D z).1 (tup_dr D z).2, e _ _ y (strs_dr D y).1 (strs_dr D y).2⟩
theorem FxN.l {p : Addr} {H : Hp} {bs : List Addr} {us : List Fx} (h : FxN p H bs us) : FxL H bs us := h.imp fun _ _ ⟨b, n, z, y⟩ => ⟨b, z, y⟩
theorem FxN.put {p : Addr} {H : Hp} {bs : List Addr} {us : List Fx} {xs ys : List V} (h : FxN p H bs us) (e : H p = some (.lst xs)) : FxN p (upd H p (.lst ys)) bs us := h.imp fun t f ⟨b, h1, h2, h3⟩ => ⟨b, h1, (upd_ne (ne_of h2 e fun z => nomatch z)).trans h2, (upd_ne h1).trans h3⟩
theorem ext_none {d r b : Addr} {H H' : Hp} (e : Ext d r H H') (n1 : b ≠ d) (n2 : b ≠ r) (n : H' b = none) : H b = none := by
  cases h : H b with
  | none => rfl
  | some o =>
    rw [e b o h n1 n2] at n
    cases n
/-- [e for k in range(m)], e draws and makes a list of texts -/
theorem lc_drawsU {σ : L2.St} {H : Hp} {Q : VK} {te : TE} {n m : Nat} {lo : Int} {d c r : Addr} {P : List Str → Prop} (hm : m ≤ 1000) (D0 : Drw H d c r)
    (he : ∀ (i : Nat) (H' : Hp) (QQ : VK), i < m → Drw H' d c r → Ext d r H H' → (∀ (l : Addr) (u : List Str) (H'' : Hp), P u → H' l = none → H'' l = some (.lst (u.map V.str)) → Drw H'' d c r → Ext d r H' H'' → QQ (.ref l) H'') → te ((wipe σ [n]).set n (some (.int (lo + i)))) H' QQ)
    (hq : ∀ (l : Addr) (bs : List Addr) (us : List (List Str)) (H' : Hp), us.length = m → (∀ u ∈ us, P u) → H l = none → H' l = some (.lst (bs.map V.ref)) → UsL H' bs us → Drw H' d c r → Ext d r H H' → Q (.ref l) H') : lcGo (Itr lo m) (gName n) tYes te [n] σ Q H := by
  intro l nl
  have ld := D0.ned nl
  have lr := D0.ner nl
  have lc := D0.nec nl
  refine lc_range (fun i H' => ∃ (bs : List Addr) (us : List (List Str)), us.length = i ∧ (∀ u ∈ us, P u) ∧ H' l = some (.lst (bs.map V.ref)) ∧ UsL H' bs us ∧ (∀ b ∈ bs, b ≠ l) ∧ Drw H' d c r ∧ Ext d r H H') ⟨[], [], rfl, fun x hx => (nomatch hx), upd_same, All2.nil, (fun x hx => nomatch hx), D0.new nl, Ext.of (same_new nl)⟩ ?_ ?_
  · rintro i H' hi ⟨bs, us, hl, hp, hs, hu, hb, D1, E1⟩
    refine ⟨wipe1, ?_⟩
    show te _ _ _
    refine he i H' _ hi D1 E1 fun k u H'' hk nk hk2 D2 E2 => ?_
    have kl : k ≠ l := fun z => by rw [z, hs] at nk; cases nk
    have lb := hu.len
    have hu2 := hu.ext D1 E2
    refine ⟨bs.map V.ref, E2 _ _ hs ld lr, small1000 (by rw [List.length_map]; omega), bs ++ [k], us ++ [u], by rw [List.length_append, hl]; try rfl, fun x hx => ?_, by rw [upd_same, List.map_append]; try rfl, All2.snoc ⟨hu2.len, fun j b v h1 h2 => (upd_ne (hb b (List.mem_of_getElem? h1))).trans (hu2.at_ j b v h1 h2)⟩ ((upd_ne kl).trans hk2), fun x hx => ?_, D2.put ld lr lc, ext_put (E1.trans E2) nl⟩
    · rcases List.mem_append.mp hx with z | z
      · exact hp x z
      · rw [List.mem_singleton.mp z]; exact hk
    · rcases List.mem_append.mp hx with z | z
      · exact hb x z
      · rw [List.mem_singleton.mp z]; exact kl
  · rintro H' ⟨bs, us, hl, hp, hs, hu, hb, D1, E1⟩
    exact hq l bs us H' hl hp nl hs hu D1 E1
theorem strong_in {sc : Sch} (hg : sc.good) {z : Str} (h : z ∈ strong sc) : z ∈ sc.cols ∧ z ∉ sc.ms ∧ z ∉ sc.ps := by
  have n := hg.n2
  unfold Sch.cols at n ⊢
  obtain ⟨_, n2, n3⟩ := List.nodup_append.mp n
  obtain ⟨_, n4, n5⟩ := List.nodup_append.mp n2
  obtain ⟨_, _, n6⟩ := List.nodup_append.mp n4
  unfold strong at h
  rcases List.mem_append.mp h with h | h
  · exact ⟨List.mem_append.mpr (.inr (List.mem_append.mpr (.inl h))), fun m => n5 z h z (List.mem_append.mpr (.inr m)) rfl, fun m => n3 z m z (List.mem_append.mpr (.inl h)) rfl⟩
  · exact ⟨List.mem_append.mpr (.inr (List.mem_append.mpr (.inr (List.mem_append.mpr (.inl h))))), fun m => n6 z h z m rfl, fun m => n3 z m z (List.mem_append.mpr (.inr (List.mem_append.mpr (.inl h)))) rfl⟩
theorem plain_in {sc : Sch} (hg : sc.good) {z : Str} (h : z ∈ sc.ps ++ strong sc) : z ∈ sc.cols ∧ z ∉ sc.ms := by
  rcases List.mem_append.mp h with h | h
  · have n := hg.n2
    unfold Sch.cols at n ⊢
    obtain ⟨_, n2, n3⟩ := List.nodup_append.mp n
    exact ⟨List.mem_append.mpr (.inl h), fun m => n3 z h z (List.mem_append.mpr (.inr (List.mem_append.mpr (.inr m)))) rfl⟩
  · exact ⟨(strong_in hg h).1, (strong_in hg h).2.1⟩
theorem LeftOk.rev {sc : Sch} {u : List Str} (h : LeftOk sc u) : LeftOk sc u.reverse := by
  obtain ⟨z, hz, n⟩ := h.s
  exact ⟨fun z m => h.k z (List.mem_reverse.mp m), fun z m => h.m z (List.mem_reverse.mp m), ⟨z, List.mem_reverse.mpr hz, n⟩, by rw [List.length_reverse]; exact h.l⟩
section
variable {P : Program} {w : World} {K : PySem.W.Frag} {mg : Str → Option Value} {base : Heap}
theorem ok__law_columns (T : Txt K mg) : FnOk P w K mg base CX0 1 T.f__law_columns T.d__law_columns ["_law_spec_here"] spColsS := by
  refine T.F__law_columns.ok sc__law_columns (fun vs H Q E h => ?_) (fun cdv A outer s H vs Q E hr h => ?_)
  · obtain ⟨p, sc, rfl, _⟩ := h
    rfl
  obtain ⟨p, sc, rfl, o, hg, q⟩ := h
  refine ⟨_, (pss_one (ps_ret (pe_op op_cat (pe_op op_cat (pe_op op_cat (pe_ix (r := rIxL K) ix_list (pv 0) pe_int (fun _ _ => rfl)) (pe_lc (own := [("_law_one", 1)]) (g := gName 1) (tt := tYes) rfl sc__law_columns.nd (pi_list (pe_ix (r := rIxL K) ix_list (pv 0) pe_int (fun _ _ => rfl))) (blkOk_by (N := ["_law_spec_here", "_law_one"]) (sc := defScope s__law_columns) (by decide +kernel)) (fun _ _ _ _ _ => pg_name (i := 1) sc__law_columns.nd rfl (by first | exact Or.inl rfl | exact Or.inr rfl)) (fun _ _ _ _ _ => pts_nil) (fun _ _ _ _ _ => (pe_ix (r := rIxT K) ix_tup (pv 1) pe_int (fun _ _ => rfl))))) (pe_ix (r := rIxL K) ix_list (pv 0) pe_int (fun _ _ => rfl))) (pe_ix (r := rIxL K) ix_list (pv 0) pe_int (fun _ _ => rfl))))), ?_⟩
  try simp only [nox_K, cx_K]
  obtain ⟨aS, aP, aV, aM, ts, h0, h1, h2, h4, h5, h6⟩ := o
  have l1 := hg.l1
  have l2 := hg.l2
  have l3 := hg.l3
  have l4 := hg.l4
  have lt := h2.len
  wtm_at "rd"
  refine r_itl (SqL.of h1) ?_
  refine lc_map (idxT H 1) (SqL.of h1) (by rw [List.length_map, h2.len]; omega) (fun v H' QQ hv s' hQ => ?_) fun l n_l => ?_
  · obtain ⟨t, ht, rfl⟩ := List.mem_map.mp hv
    obtain ⟨j, hj⟩ := List.getElem?_of_mem ht
    obtain ⟨b, _, hb⟩ := h2.get hj
    rw [idxT_at (v := .str b.ky) hb rfl] at hQ
    have hb : H' t = some (.tup [.str b.nm, .str b.ky, partV b.pt, .bl b.ds]) := s' _ _ hb
    wtm_at "rd"
    exact hQ
  have ek : (ts.map V.ref).map (idxT H 1) = (sc.ss.map Srt.ky).map V.str := by
    rw [List.map_map, List.map_map]
    exact h2.map fun a b hb => idxT_at hb rfl
  rw [ek]
  generalize eq_l : upd _ l _ = H1
  have s_l : Same _ H1 := eq_l ▸ same_new n_l
  have h_l : H1 l = some _ := eq_l ▸ upd_same
  clear eq_l
  have h0 := s_l _ _ h0
  have h4 := s_l _ _ h4
  have h5 := s_l _ _ h5
  have h6 := s_l _ _ h6
  have s1 := s_l
  refine ⟨aP, l, _, _, rfl, rfl, h4, h_l, Nat.le_of_lt (small1000 (by simp only [List.length_map]; omega)), fun b n_b => ?_⟩
  generalize eq_b : upd _ b _ = H2
  have s_b : Same _ H2 := eq_b ▸ same_new n_b
  have h_b : H2 b = some _ := eq_b ▸ upd_same
  clear eq_b
  have h0 := s_b _ _ h0
  have h5 := s_b _ _ h5
  have h6 := s_b _ _ h6
  have s1 := s1.trans s_b
  wtm_at "rd"
  refine ⟨b, aV, _, _, rfl, rfl, h_b, h5, Nat.le_of_lt (small1000 (by simp only [List.length_append, List.length_map]; omega)), fun b2 n_b2 => ?_⟩
  generalize eq_b2 : upd _ b2 _ = H4
  have s_b2 : Same _ H4 := eq_b2 ▸ same_new n_b2
  have h_b2 : H4 b2 = some _ := eq_b2 ▸ upd_same
  clear eq_b2
  have h0 := s_b2 _ _ h0
  have h6 := s_b2 _ _ h6
  have s1 := s1.trans s_b2
  wtm_at "rd"
  refine ⟨b2, aM, _, _, rfl, rfl, h_b2, h6, Nat.le_of_lt (small1000 (by simp only [List.length_append, List.length_map]; omega)), fun b3 n_b3 => ?_⟩
  refine q b3 _ (s1.free n_b3) (s1.trans (same_new n_b3)) ?_
  rw [upd_same]
  congr 2
  simp only [Sch.cols, List.map_append, List.append_assoc]
theorem ok__law_left (T : Txt K mg) : FnOk P w K mg base CX0 3 T.f__law_left T.d__law_left ["_law_draws", "_law_spec_here"] spLeft := by
  refine T.F__law_left.ok sc__law_left (fun vs H Q E h => ?_) (fun cdv A outer s H vs Q E hr h => ?_)
  · obtain ⟨d, c, r, p, sc, rfl, _⟩ := h
    rfl
  obtain ⟨d, c, r, p, sc, rfl, D, o, hg, q⟩ := h
  refine ⟨_, (pss_cons (ps_set (i := 2) sc__law_left.nd rfl (by first | exact Or.inl rfl | exact Or.inr rfl) (pe_op op_cat (pe_lc (own := [("_law_one", 6)]) (g := gName 6) (tt := tYes) rfl sc__law_left.nd (pi_list (pe_ix (r := rIxL K) ix_list (pv 1) pe_int (fun _ _ => rfl))) (blkOk_by (N := ["_law_draws", "_law_spec_here", "_law_strong", "_law_plain", "_law_found", "_law_word", "_law_one"]) (sc := defScope s__law_left) (by decide +kernel)) (fun _ _ _ _ _ => pg_name (i := 6) sc__law_left.nd rfl (by first | exact Or.inl rfl | exact Or.inr rfl)) (fun _ _ _ _ _ => pts_nil) (fun _ _ _ _ _ => (pe_ix (r := rIxT K) ix_tup (pv 6) pe_int (fun _ _ => rfl)))) (pe_ix (r := rIxL K) ix_list (pv 1) pe_int (fun _ _ => rfl))))
      (pss_cons (ps_set (i := 3) sc__law_left.nd rfl (by first | exact Or.inl rfl | exact Or.inr rfl) (pe_op op_cat (pe_ix (r := rIxL K) ix_list (pv 1) pe_int (fun _ _ => rfl)) (pv 2)))
      (pss_cons (ps_set (i := 4) sc__law_left.nd rfl (by first | exact Or.inl rfl | exact Or.inr rfl) (pe_lst (pa_cons (pe_ix (r := rIxL K) ix_list (pv 2) (pe_call (ok__law_draw T) (hr.mono (by decide)) (by rfl) T.g__law_draw T.F__law_draw.kp T.b__law_draw .nil pass0 (pa_cons (pv 0) (pa_cons (pe_callB (r := rLenL K) (id := "len") c_len (by rfl) T.z_len (by decide +kernel) (pa_cons (pv 2) pa_nil)) pa_nil))) (fun _ _ => rfl)) pa_nil)))
      (pss_cons (ps_for PassesOwn.never rfl (pi_list (pv 3)) (pg_name (i := 5) sc__law_left.nd rfl (by first | exact Or.inl rfl | exact Or.inr rfl)) (pss_one (ps_if (PW.pt (pw_and (pt_cmpR op_notIn_seq (pv 5) (pv 4) (by rfl)) (pw_and1 (pt_cmpR op_eq (pe_call (ok__law_draw T) (hr.mono (by decide)) (by rfl) T.g__law_draw T.F__law_draw.kp T.b__law_draw .nil pass0 (pa_cons (pv 0) (pa_cons pe_int pa_nil))) pe_int (nomark _))))) (pss_one (ps_expr (pe_bm PySem.F.plainAttrs_list PySem.F.slot_list_append PySem.F.type_list_append mt_append (pv 4) (pa_cons (pv 5) pa_nil)))) pss_nil)))
      (pss_cons (ps_if (pt_cmpR op_eq (pe_call (ok__law_draw T) (hr.mono (by decide)) (by rfl) T.g__law_draw T.F__law_draw.kp T.b__law_draw .nil pass0 (pa_cons (pv 0) (pa_cons pe_int pa_nil))) pe_int (nomark _)) (pss_one (ps_ret (pe_revL (pv 4)))) pss_nil)
      (pss_one (ps_ret (pv 4)))))))), ?_⟩
  try simp only [nox_K, cx_K]
  obtain ⟨aS, aP, aV, aM, ts, h0, h1, h2, h4, h5, h6⟩ := id o
  have l0 := hg.l0
  have l1 := hg.l1
  have l2 := hg.l2
  have l3 := hg.l3
  have l4 := hg.l4
  have lt := h2.len
  wtm_at "rd"
  refine r_itl (SqL.of h1) ?_
  refine lc_map (idxT H 1) (SqL.of h1) (by rw [List.length_map, h2.len]; omega) (fun v H' QQ hv s' hQ => ?_) fun l n_l => ?_
  · obtain ⟨t, ht, rfl⟩ := List.mem_map.mp hv
    obtain ⟨j, hj⟩ := List.getElem?_of_mem ht
    obtain ⟨b, _, hb⟩ := h2.get hj
    rw [idxT_at (v := .str b.ky) hb rfl] at hQ
    have hb : H' t = some (.tup [.str b.nm, .str b.ky, partV b.pt, .bl b.ds]) := s' _ _ hb
    wtm_at "rd"
    exact hQ
  have ek : (ts.map V.ref).map (idxT H 1) = (sc.ss.map Srt.ky).map V.str := by
    rw [List.map_map, List.map_map]
    exact h2.map fun a b hb => idxT_at hb rfl
  rw [ek]
  generalize eq_l : upd _ l _ = H1
  have s_l : Same _ H1 := eq_l ▸ same_new n_l
  have h_l : H1 l = some _ := eq_l ▸ upd_same
  clear eq_l
  have h0 := s_l _ _ h0
  have h4 := s_l _ _ h4
  have h5 := s_l _ _ h5
  have D := D.same s_l
  have E1 : Ext d r H H1 := Ext.of s_l
  wtm_at "rd"
  refine ⟨l, aV, _, _, rfl, rfl, h_l, h5, Nat.le_of_lt (small1000 (by simp only [List.length_map]; omega)), fun sg n_sg => ?_⟩
  generalize eq_sg : upd _ sg _ = H2
  have s_sg : Same _ H2 := eq_sg ▸ same_new n_sg
  have h_sg : H2 sg = some _ := eq_sg ▸ upd_same
  clear eq_sg
  have h0 := s_sg _ _ h0
  have h4 := s_sg _ _ h4
  have D := D.same s_sg
  have E1 := E1.trans (Ext.of s_sg)
  have h_sg : H2 sg = some (.lst ((strong sc).map V.str)) := by rw [h_sg, strong, List.map_append]
  have lsg : (strong sc).length = sc.ss.length + sc.vs.length := by rw [strong, List.length_append, List.length_map]
  wtm_at "rd"
  refine ⟨aP, sg, _, _, rfl, rfl, h4, h_sg, Nat.le_of_lt (small1000 (by simp only [List.length_map]; omega)), fun pl n_pl => ?_⟩
  generalize eq_pl : upd _ pl _ = H3
  have s_pl : Same _ H3 := eq_pl ▸ same_new n_pl
  have h_pl : H3 pl = some _ := eq_pl ▸ upd_same
  clear eq_pl
  have h_sg := s_pl _ _ h_sg
  have D := D.same s_pl
  have E1 := E1.trans (Ext.of s_pl)
  have h_pl : H3 pl = some (.lst ((sc.ps ++ strong sc).map V.str)) := by rw [h_pl, List.map_append]
  wtm_at "rd"
  refine r_lenS h_sg ?_
  wtm_at "rd"
  refine ⟨d, c, r, _, rfl, D, by omega, by omega, fun k H4 k0 k1 D4 E4 => ?_⟩
  have h_pl := E4 _ _ h_pl (strs_dr D h_pl).1 (strs_dr D h_pl).2
  have h_sg := E4 _ _ h_sg (strs_dr D h_sg).1 (strs_dr D h_sg).2
  have E4 := E1.trans E4
  obtain ⟨z0, hz0⟩ : ∃ z, (strong sc)[k.toNat]? = some z := ⟨_, List.getElem?_eq_getElem (by omega)⟩
  have hz1 := List.mem_of_getElem? hz0
  refine r_ixL (v := .str z0) (SqL.of h_sg) (by rw [show k = ((k.toNat : Nat) : Int) by omega]; exact atI_nat (by rw [List.getElem?_map, hz0]; try rfl)) ?_
  wtm_at "rd"
  refine r_new rfl fun fd n_fd => ?_
  have fdd := D4.ned n_fd
  have fdr := D4.ner n_fd
  have fdc := D4.nec n_fd
  have nfd0 : H fd = none := ext_none E4 fdd fdr n_fd
  have pf : pl ≠ fd := ne_of_none h_pl n_fd
  generalize eq_fd : upd _ fd _ = H5
  have s_fd : Same _ H5 := eq_fd ▸ same_new n_fd
  have h_fd : H5 fd = some _ := eq_fd ▸ upd_same
  clear eq_fd
  have h_pl := s_fd _ _ h_pl
  have D4 := D4.same s_fd
  have E4 := E4.trans (Ext.of s_fd)
  have h_fd : H5 fd = some (.lst ([z0].map V.str)) := h_fd
  wtm_at "rd"
  refine r_for (r_il ?_)
  wtm_at "rd"
  refine r_itl (SqL.of h_pl) ?_
  refine for_list (K := K) (a := pl) (xs := (sc.ps ++ strong sc).map V.str) (fun i σ H' => ∃ (x5 : Option V) (u : List Str), σ = [some (.ref d), some (.ref p), some (.ref sg), some (.ref pl), some (.ref fd), x5, none] ∧ Drw H' d c r ∧ Ext d r H H' ∧ H' fd = some (.lst (u.map V.str)) ∧ H' pl = some (.lst ((sc.ps ++ strong sc).map V.str)) ∧ z0 ∈ u ∧ (∀ z ∈ u, z ∈ sc.ps ++ strong sc) ∧ u.length ≤ i + 1) ⟨_, [z0], rfl, D4, E4, h_fd, h_pl, List.mem_cons_self, fun z hz => (by rw [List.mem_singleton.mp hz]; exact List.mem_append.mpr (.inr hz1)), Nat.le_refl _⟩ (fun i σ H' _ ⟨_, _, _, _, _, _, z, _⟩ => SqL.of z) ?_ ?_
  · rintro i v σ H6 hv ⟨x5, u, rfl, D6, E6, hf6, hp6, hz6, hm6, lu⟩
    rw [List.getElem?_map] at hv
    obtain ⟨z, hz, rfl⟩ := Option.map_eq_some_iff.mp hv
    have il := (List.getElem?_eq_some_iff.mp hz).1
    rw [List.length_append, lsg] at il
    wtm_at "rd"
    refine r_inL (SqL.of hf6) rfl (flat_strsV _) ?_
    show ∃ k, V.bl (!inV _ (u.map V.str)) = .bl k ∧ _
    rw [inV_strs]
    wtm_at "rd"
    refine r_iten (fun e1 => ?_) (fun e1 => ?_)
    · wtm_at "rd"
      refine ⟨d, c, r, 4, rfl, D6, by decide, by decide, fun k' H7 k0' k1' D7 E7 => ?_⟩
      have hf7 := E7 _ _ hf6 fdd fdr
      have hp7 := E7 _ _ hp6 (strs_dr D6 hp6).1 (strs_dr D6 hp6).2
      have E7 := E6.trans E7
      wtm_at "rd"
      refine r_ite (fun e2 => ?_) (fun e2 => ?_)
      · wtm_at "rd"
        refine r_tyL (SqL.of hf7) ?_
        wtm_at "rd"
        refine r_app hf7 (small1000 (by rw [List.length_map]; omega)) ?_
        wtm_at "rd"
        refine ⟨_, u ++ [z], rfl, D7.put fdd fdr fdc, ext_put E7 nfd0, by rw [upd_same, List.map_append]; try rfl, (upd_ne pf).trans hp7, List.mem_append.mpr (.inl hz6), fun y hy => ?_, by rw [List.length_append]; show u.length + 1 ≤ _; omega⟩
        rcases List.mem_append.mp hy with y1 | y1
        · exact hm6 y y1
        · rw [List.mem_singleton.mp y1]
          exact List.mem_of_getElem? hz
      · wtm_at "rd"
        exact ⟨_, u, rfl, D7, E7, hf7, hp7, hz6, hm6, by omega⟩
    · wtm_at "rd"
      exact ⟨_, u, rfl, D6, E6, hf6, hp6, hz6, hm6, by omega⟩
  · rintro σ H6 ⟨x5, u, rfl, D6, E6, hf6, hp6, hz6, hm6, lu⟩
    rw [List.length_map, List.length_append, lsg] at lu
    have ok : LeftOk sc u := ⟨fun z hz => (plain_in hg (hm6 z hz)).1, fun z hz => (plain_in hg (hm6 z hz)).2, ⟨z0, hz6, (strong_in hg hz1).2.2⟩, by omega⟩
    wtm_at "rd"
    refine ⟨d, c, r, 2, rfl, D6, by decide, by decide, fun k' H7 k0' k1' D7 E7 => ?_⟩
    have hf7 := E7 _ _ hf6 fdd fdr
    have E7 := E6.trans E7
    wtm_at "rd"
    refine r_ite (fun e2 => ?_) (fun e2 => ?_)
    · wtm_at "rd"
      refine ⟨fd, _, rfl, SqL.of hf7, fun rv n_rv => ?_⟩
      have nrv0 := ext_none E7 (D7.ned n_rv) (D7.ner n_rv) n_rv
      refine q rv u.reverse _ ok.rev nrv0 ?_ (D7.new n_rv) (E7.trans (Ext.of (same_new n_rv)))
      rw [upd_same, List.map_reverse]
    · wtm_at "rd"
      exact q fd u _ ok nfd0 hf7 D7 E7
theorem ok__law_facts (T : Txt K mg) : FnOk P w K mg base CX0 8 T.f__law_facts T.d__law_facts ["_law_spec_here", "_law_lists"] (spFacts K T.C_Facts T.C_Scheme T.C_Sort) := by
  refine T.F__law_facts.ok sc__law_facts (fun vs H Q E h => ?_) (fun cdv A outer s H vs Q E hr h => ?_)
  · obtain ⟨p, t, sc, us, fs, rfl, _⟩ := h
    rfl
  obtain ⟨p, t, sc, us, fs, rfl, o, hg, hl, ho, q⟩ := h
  refine ⟨_, (pss_cons (ps_setLc (i := 2) (own := [("_law_one", 3)]) (g := gName 3) (tt := tYes) rfl sc__law_facts.nd rfl rfl (sw_true rfl rfl rfl (by decide +kernel)) (pi_list (pe_ix (r := rIxT K) ix_tup (pv 1) pe_int (fun _ _ => rfl))) (blkOk_by (N := ["_law_spec_here", "_law_lists", "_law_pairs", "_law_one"]) (sc := defScope s__law_facts) (by decide +kernel)) (fun _ _ _ _ _ => pg_name (i := 3) sc__law_facts.nd rfl (by first | exact Or.inl rfl | exact Or.inr rfl)) (fun _ _ _ _ _ => pts_nil) (fun _ _ _ _ _ => (pe_tup (pa_cons (pe_callTy (r := rListA K) (T := "list") c_listA (by rfl) T.z_list (by decide +kernel) (pa_cons (pe_ix (r := rIxT K) ix_tup (pv 3) pe_int (fun _ _ => rfl)) pa_nil)) (pa_cons (pe_ix (r := rIxT K) ix_tup (pv 3) pe_int (fun _ _ => rfl)) pa_nil)))))
      (pss_one (ps_ret (pe_makeN T.m_Facts (ok_Facts___init__ T) (hr.mono (by decide)) (by rfl) T.g_Facts T.kn_Facts___init___UX passL (pa_cons (pe_call (ok__law_scheme T) (hr.mono (by decide)) (by rfl) T.g__law_scheme T.F__law_scheme.kp T.b__law_scheme .nil pass0 (pa_cons (pv 0) pa_nil)) pa_nil) (pk_cons (pe_lc (own := [("_law_one", 3)]) (g := gName 3) (tt := tYes) rfl sc__law_facts.nd (pi_list (pe_ix (r := rIxT K) ix_tup (pv 1) pe_int (fun _ _ => rfl))) (blkOk_by (N := ["_law_spec_here", "_law_lists", "_law_pairs", "_law_one"]) (sc := defScope s__law_facts) (by decide +kernel)) (fun _ _ _ _ _ => pg_name (i := 3) sc__law_facts.nd rfl (by first | exact Or.inl rfl | exact Or.inr rfl)) (fun _ _ _ _ _ => pts_nil) (fun _ _ _ _ _ => (pe_callTy (r := rListA K) (T := "list") c_listA (by rfl) T.z_list (by decide +kernel) (pa_cons (pv 3) pa_nil)))) (pk_cons (pv 2) pk_nil)))))), ?_⟩
  try simp only [nox_K, cx_K]
  obtain ⟨a, b, ht, ⟨bs, ha, hu⟩, ⟨ts, hb, hf⟩⟩ := hl
  have lb := hu.len
  have lt := hf.len
  have lu := ho.lu
  have lf := ho.lf
  wtm_at "rd"
  refine ⟨b, rfl, ⟨_, SqL.of hb⟩, ?_⟩
  refine lc_newR (K := K) (a := b) (xs := ts.map V.ref) (fun D H t j => t ≠ D ∧ ∃ b, b ≠ D ∧ H t = some (.tup [.ref b, .str (fs.getD j ([], "")).2]) ∧ H b = some (.lst ((fs.getD j ([], "")).1.map V.str))) (.inl ⟨rfl, rfl⟩) (SqL.of hb) (fun H1 H2 z e => e.seq z) (by rw [List.length_map]; omega) (fun D H1 H2 u j ⟨h1, b, h2, h3, h4⟩ _ k => ⟨h1, b, h2, k _ _ h3 h1, k _ _ h4 h2⟩) (fun D i x H4 QQ hx s4 nD eD hQ => ?_) (fun F ds H4 nF lds hF4 hds s4 => ?_)
  · rw [List.getElem?_map] at hx
    obtain ⟨t', ht', rfl⟩ := Option.map_eq_some_iff.mp hx
    obtain ⟨f, hfi, b', h1, h2⟩ := hf.get ht'
    rw [List.getD_eq_getElem?_getD, hfi] at hQ
    have h1 := s4 _ _ h1
    refine ⟨rfl, ?_⟩
    wtm_at "rd"
    refine r_listA (.inl (SqL.of (s4 _ _ h2))) fun l n_l => ?_
    generalize eq_l : upd _ l _ = H5
    have s_l : Same _ H5 := eq_l ▸ same_new n_l
    have h_l : H5 l = some _ := eq_l ▸ upd_same
    clear eq_l
    have h1 := s_l _ _ h1
    have sl0 := s_l
    wtm_at "rd"
    refine r_new rfl fun u n_u => ?_
    generalize eq_u : upd _ u _ = H6
    have s_u : Same _ H6 := eq_u ▸ same_new n_u
    have h_u : H6 u = some _ := eq_u ▸ upd_same
    clear eq_u
    have h_l := s_u _ _ h_l
    have s_l := s_l.trans s_u
    exact hQ u _ ⟨fun z => eD (z ▸ (sl0.free n_u)), l, fun z => eD (z ▸ n_l), h_u, h_l⟩ s_l
  rw [List.length_map] at lds
  have hds : FxL H4 ds fs := ⟨by omega, fun j u v h1 h2 => by
    obtain ⟨_, b, _, z1, z2⟩ := hds j u h1
    rw [List.getD_eq_getElem?_getD, h2] at z1 z2
    exact ⟨b, z1, z2⟩⟩
  have ht := s4 _ _ ht
  have ha := s4 _ _ ha
  have hu := hu.same s4
  wtm_at "rd"
  refine ⟨p, sc, rfl, o.same s4, hg, fun q0 H5 s5 oS => ?_⟩
  have ht := s5 _ _ ht
  have ha := s5 _ _ ha
  have hu := hu.same s5
  have hF5 := s5 _ _ hF4
  have hds := hds.same s5
  have s5 := s4.trans s5
  wtm_at "rd"
  refine ⟨a, rfl, ⟨_, SqL.of ha⟩, ?_⟩
  refine lc_newR (K := K) (a := a) (xs := bs.map V.ref) (fun D H u j => u ≠ D ∧ H u = some (.lst ((us.getD j []).map V.str))) (.inl ⟨rfl, rfl⟩) (SqL.of ha) (fun H1 H2 z e => e.seq z) (by rw [List.length_map]; omega) (fun D H1 H2 u j h _ k => ⟨h.1, k _ _ h.2 h.1⟩) (fun D i x H6 QQ hx s6 nD eD hQ => ?_) (fun D cs H6 nD lcs hD hcs s6 => ?_)
  · rw [List.getElem?_map] at hx
    obtain ⟨b', hb', rfl⟩ := Option.map_eq_some_iff.mp hx
    obtain ⟨u, hui, hbu⟩ := hu.get hb'
    rw [List.getD_eq_getElem?_getD, hui] at hQ
    refine ⟨rfl, ?_⟩
    wtm_at "rd"
    refine r_listA (.inl (SqL.of (s6 _ _ hbu))) fun l n_l => ?_
    exact hQ l _ ⟨fun z => eD (z ▸ n_l), upd_same⟩ (same_new n_l)
  rw [List.length_map] at lcs
  have hcs : UsL H6 cs us := ⟨by omega, fun j u v h1 h2 => by
    have z := (hcs j u h1).2
    rwa [List.getD_eq_getElem?_getD, h2] at z⟩
  wtm_at "rd"
  exact ⟨rfl, rfl, make_fa hg (oS.same s6) (.inl (SqL.of hD)) hcs (.inl (SqL.of (s6 _ _ hF5))) (hds.same s6) ho.sz ho.flt fun x H8 s8 o8 n8 => q x _ o8 (n8.mono fun a na => (s5.trans s6).free na) ((s5.trans s6).trans s8)⟩
theorem ok__law_fact_lists (T : Txt K mg) : FnOk P w K mg base CX0 4 T.f__law_fact_lists T.d__law_fact_lists ["_law_draws", "_law_spec_here"] spLists := by
  refine T.F__law_fact_lists.ok sc__law_fact_lists (fun vs H Q E h => ?_) (fun cdv A outer s H vs Q E hr h => ?_)
  · obtain ⟨d, c, r, p, sc, rfl, _⟩ := h
    rfl
  obtain ⟨d, c, r, p, sc, rfl, D, o, hg, q⟩ := h
  refine ⟨_, (pss_cons (ps_set (i := 2) sc__law_fact_lists.nd rfl (by first | exact Or.inl rfl | exact Or.inr rfl) (pe_call (ok__law_columns T) (hr.mono (by decide)) (by rfl) T.g__law_columns T.F__law_columns.kp T.b__law_columns .nil pass0 (pa_cons (pv 1) pa_nil)))
      (pss_cons (ps_set (i := 3) sc__law_fact_lists.nd rfl (by first | exact Or.inl rfl | exact Or.inr rfl) (pe_lst pa_nil))
      (pss_cons (ps_for PassesOwn.never rfl (pi_range1 (by rfl) T.z_range (pa_cons (pe_call (ok__law_draw T) (hr.mono (by decide)) (by rfl) T.g__law_draw T.F__law_draw.kp T.b__law_draw .nil pass0 (pa_cons (pv 0) (pa_cons pe_int pa_nil))) pa_nil)) (pg_name (i := 4) sc__law_fact_lists.nd rfl (by first | exact Or.inl rfl | exact Or.inr rfl)) (pss_one (ps_expr (pe_bm PySem.F.plainAttrs_list PySem.F.slot_list_append PySem.F.type_list_append mt_append (pv 3) (pa_cons (pe_tup (pa_cons (pe_call (ok__law_left T) (hr.mono (by decide)) (by rfl) T.g__law_left T.F__law_left.kp T.b__law_left .nil pass0 (pa_cons (pv 0) (pa_cons (pv 1) pa_nil))) (pa_cons (pe_ix (r := rIxL K) ix_list (pv 2) (pe_call (ok__law_draw T) (hr.mono (by decide)) (by rfl) T.g__law_draw T.F__law_draw.kp T.b__law_draw .nil pass0 (pa_cons (pv 0) (pa_cons (pe_callB (r := rLenL K) (id := "len") c_len (by rfl) T.z_len (by decide +kernel) (pa_cons (pv 2) pa_nil)) pa_nil))) (fun _ _ => rfl)) pa_nil))) pa_nil)))))
      (pss_cons (ps_setLc (i := 5) (own := [("_law_k", 4)]) (g := gName 4) (tt := tYes) rfl sc__law_fact_lists.nd rfl rfl (sw_true rfl rfl rfl (by decide +kernel)) (pi_range1 (by rfl) T.z_range (pa_cons (pe_call (ok__law_draw T) (hr.mono (by decide)) (by rfl) T.g__law_draw T.F__law_draw.kp T.b__law_draw .nil pass0 (pa_cons (pv 0) (pa_cons pe_int pa_nil))) pa_nil)) (blkOk_by (N := ["_law_draws", "_law_spec_here", "_law_columns_here", "_law_pairs", "_law_k", "_law_singles"]) (sc := defScope s__law_fact_lists) (by decide +kernel)) (fun _ _ _ _ _ => pg_name (i := 4) sc__law_fact_lists.nd rfl (by first | exact Or.inl rfl | exact Or.inr rfl)) (fun _ _ _ _ _ => pts_nil) (fun _ _ _ _ _ => (pe_call (ok__law_left T) (hr.mono (by decide)) (by rfl) T.g__law_left T.F__law_left.kp T.b__law_left .nil pass0 (pa_cons (pv 0) (pa_cons (pv 1) pa_nil)))))
      (pss_one (ps_ret (pe_tup (pa_cons (pv 5) (pa_cons (pv 3) pa_nil))))))))), ?_⟩
  try simp only [nox_K, cx_K]
  have lcs := cols_len hg
  have l0 := hg.l0
  have lc1 : 1 ≤ sc.cols.length := by
    unfold Sch.cols
    rw [List.length_append, List.length_append, List.length_map]
    omega
  wtm_at "rd"
  refine ⟨p, sc, rfl, o, hg, fun co H1 n_co s1 h_co => ?_⟩
  have D1 := D.same s1
  have E1 : Ext d r H H1 := Ext.of s1
  wtm_at "rd"
  refine r_new rfl fun pr n_pr => ?_
  have prd := D1.ned n_pr
  have prr := D1.ner n_pr
  have prc := D1.nec n_pr
  have npr0 := s1.free n_pr
  have cp : co ≠ pr := ne_of_none h_co n_pr
  generalize eq_pr : upd _ pr _ = H2
  have s_pr : Same _ H2 := eq_pr ▸ same_new n_pr
  have h_pr : H2 pr = some _ := eq_pr ▸ upd_same
  clear eq_pr
  have h_co := s_pr _ _ h_co
  have D1 := D1.same s_pr
  have E1 := E1.trans (Ext.of s_pr)
  wtm_at "rd"
  refine r_for (r_rng1 ?_)
  wtm_at "rd"
  refine ⟨d, c, r, 6, rfl, D1, by decide, by decide, fun k H3 k0 k1 D3 E3 => ?_⟩
  have h_pr := E3 _ _ h_pr prd prr
  have h_co := E3 _ _ h_co (strs_dr D1 h_co).1 (strs_dr D1 h_co).2
  have E3 := E1.trans E3
  wtm_at "rd"
  refine r_upto (by omega) (by omega) ?_
  refine for_range (fun i σ H' => ∃ (x4 : Option V) (ts : List Addr) (fs : List Fx), σ = [some (.ref d), some (.ref p), some (.ref co), some (.ref pr), x4, none] ∧ Drw H' d c r ∧ Ext d r H H' ∧ H' co = some (.lst (sc.cols.map V.str)) ∧ H' pr = some (.lst (ts.map V.ref)) ∧ FxN pr H' ts fs ∧ fs.length = i ∧ ∀ f ∈ fs, LeftOk sc f.1 ∧ f.2 ∈ sc.cols) ⟨_, [], [], rfl, D3, E3, h_co, h_pr, All2.nil, rfl, fun f hf => nomatch hf⟩ ?_ ?_
  · rintro i σ H4 hi ⟨x4, ts, fs, rfl, D4, E4, hc4, hp4, hts, lfs, hfs⟩
    have lts := hts.len
    wtm_at "rd"
    refine r_tyL (SqL.of hp4) ?_
    wtm_at "rd"
    refine ⟨d, c, r, p, sc, rfl, D4, o.ext D E4, hg, fun l u H5 hu nl hl D5 E5 => ?_⟩
    have lpr : l ≠ pr := fun z => by rw [z, hp4] at nl; cases nl
    have hc5 := E5 _ _ hc4 (strs_dr D4 hc4).1 (strs_dr D4 hc4).2
    have hp5 := E5 _ _ hp4 prd prr
    have hts := hts.ext D4 E5
    have E5 := E4.trans E5
    wtm_at "rd"
    refine r_lenS hc5 ?_
    wtm_at "rd"
    refine ⟨d, c, r, _, rfl, D5, by omega, by omega, fun k' H6 k0' k1' D6 E6 => ?_⟩
    have hc6 := E6 _ _ hc5 (strs_dr D5 hc5).1 (strs_dr D5 hc5).2
    have hp6 := E6 _ _ hp5 prd prr
    have hl6 := E6 _ _ hl (strs_dr D5 hl).1 (strs_dr D5 hl).2
    have hts := hts.ext D5 E6
    have E6 := E5.trans E6
    obtain ⟨z0, hz0⟩ : ∃ z, sc.cols[k'.toNat]? = some z := ⟨_, List.getElem?_eq_getElem (by omega)⟩
    refine r_ixL (v := .str z0) (SqL.of hc6) (by rw [show k' = ((k'.toNat : Nat) : Int) by omega]; exact atI_nat (by rw [List.getElem?_map, hz0]; try rfl)) ?_
    wtm_at "rd"
    refine r_new rfl fun t n_t => ?_
    generalize eq_t : upd _ t _ = H7
    have s_t : Same _ H7 := eq_t ▸ same_new n_t
    have h_t : H7 t = some _ := eq_t ▸ upd_same
    clear eq_t
    have D6 := D6.same s_t
    have E6 := E6.trans (Ext.of s_t)
    have hc6 := s_t _ _ hc6
    have hp6 := s_t _ _ hp6
    have hl6 := s_t _ _ hl6
    have hts := hts.same s_t
    wtm_at "rd"
    refine r_app hp6 (small1000 (by rw [List.length_map]; omega)) ?_
    wtm_at "rd"
    refine ⟨_, ts ++ [t], fs ++ [(u, z0)], rfl, D6.put prd prr prc, ext_put E6 npr0, (upd_ne cp).trans hc6, by rw [upd_same, List.map_append]; try rfl, All2.snoc (hts.put hp6) ⟨l, lpr, (upd_ne (ne_of h_t hp6 fun z => nomatch z)).trans h_t, (upd_ne lpr).trans hl6⟩, by rw [List.length_append, lfs]; try rfl, fun f hf => ?_⟩
    rcases List.mem_append.mp hf with z | z
    · exact hfs f z
    · rw [List.mem_singleton.mp z]
      exact ⟨hu, List.mem_of_getElem? hz0⟩
  · rintro σ H4 ⟨x4, ts, fs, rfl, D4, E4, hc4, hp4, hts, lfs, hfs⟩
    wtm_at "rd"
    refine ⟨d, c, r, 3, rfl, D4, by decide, by decide, fun k' H5 k0' k1' D5 E5 => ?_⟩
    have hp5 := E5 _ _ hp4 prd prr
    have hts : FxL H5 ts fs := (hts.ext D4 E5).l
    have E5 := E4.trans E5
    wtm_at "rd"
    refine r_upto (by omega) (by omega) ?_
    refine lc_drawsU (P := LeftOk sc) (by omega) D5 (fun i H' QQ hi D' E' hQ => ?_) fun sl bs us H6 lus hus n_sl h_sl hbs D6 E6 => ?_
    · wtm_at "rd"
      exact ⟨d, c, r, p, sc, rfl, D', o.ext D (E5.trans E'), hg, fun l u H'' hu nl hl D'' E'' => hQ l u H'' hu nl hl D'' E''⟩
    have hp6 := E6 _ _ hp5 prd prr
    have hts := hts.ext D5 E6
    have E6 := E5.trans E6
    wtm_at "rd"
    refine r_new rfl fun t n_t => ?_
    generalize eq_t : upd _ t _ = H7
    have s_t : Same _ H7 := eq_t ▸ same_new n_t
    have h_t : H7 t = some _ := eq_t ▸ upd_same
    clear eq_t
    have D6 := D6.same s_t
    have E6 := E6.trans (Ext.of s_t)
    have hp6 := s_t _ _ hp6
    have h_sl := s_t _ _ h_sl
    exact q t us fs H7 ⟨hus, hfs, by omega, by omega⟩ ⟨sl, pr, h_t, ⟨bs, h_sl, hbs.same s_t⟩, ⟨ts, hp6, hts.same s_t⟩⟩ D6 E6

end

theorem pe_methR0 {X : Cx} {CX : CXT} {k : Nat} {C f : Addr} {m : Str} {sp : Sp} {E : XK} {o : Expr} {ta : TE} {apos pos : Pos} {pl : Sem Bool} (he : PE X o ta) (c : Cls X.K C) (hm : Meth X.K C m f)
    (F : FnR X.prog X.w X.K X.mg X.base CX k f sp) (hr : Room k X.A) (hx : Passes CX X E)
    (ht : eval (.Call (.Attribute o m apos) [] [] pos) X.env = (eval o X.env >>= fun ov => standAt apos.atName >>= fun _ => holding [ov] (getMethod ov m pl) >>= fun q => callWith pos q.1 q.2 (backTo pos (starEach [] X.env)) (backToKw pos (keywordEach [] X.env))) := by rfl) :
    PE X (.Call (.Attribute o m apos) [] [] pos) (tMethR C m sp E ta tNil) := by
  refine ⟨fun pins s σ H Q I h => PySem.W.methodCall_KW (pl := pl) (thn (he.run pins s σ H _ I h) fun u s1 w1 => ?_) ht⟩
  obtain ⟨x, H1, I1, rx, a, dx, fs, rfl, ea, l, q⟩ := w1
  cases (show u = Value.ref a from rx)
  refine getmeth_ok I1 ea c hm l ?_
  exact PySem.W.callWith_K0 (first := [.ref a]) I1.kIn hm.kp (wpAny_call (run_fnR (us := [.ref a]) (vs := [.ref a]) F hr hx I1 (.cons rfl .nil) q))
theorem r_methR {σ : L2.St} {H : Hp} {Q : VK} {C : Addr} {m : Str} {sp : Sp} {E : XK} {ta : TE} {t : TA} (h : ta σ H fun x H1 => ∃ a dx fs, x = .ref a ∧ H1 a = some (.ins C dx fs) ∧ fs.lookup m = none ∧ t σ H1 fun vs H2 => sp (x :: vs) H2 Q E) : tMethR C m sp E ta t σ H Q := h
@[simp ↓] theorem n_methR {σ : L2.St} {H : Hp} {Q : VK} {C : Addr} {m : Str} {sp : Sp} {E : XK} {ta : TE} {t : TA} : Nw (tMethR C m sp E ta t σ H Q) ⟨⟩ = Nw (ta σ H fun x H1 => ∃ a dx fs, x = .ref a ∧ H1 a = some (.ins C dx fs) ∧ fs.lookup m = none ∧ t σ H1 fun vs H2 => sp (x :: vs) H2 Q E) ⟨⟩ := rfl
def ResT.Mono (Res : ResT) : Prop := ∀ sc us fs g H H1 v H', Res sc us fs g H1 v H' → Same H H1 → Res sc us fs g H v H'
theorem ResClo.mono : ResT.Mono ResClo := fun sc us fs g H H1 v H' ⟨F, S, l, h1, h2, h3, h4⟩ s => ⟨F, S, l, h1, h2, s.free h3, h4⟩
theorem ResChn.mono : ResT.Mono ResChn := fun sc us fs g H H1 v H' ⟨F, S, l, h1, h0, h2, h3, h4⟩ s => ⟨F, S, l, h1, h0, h2, s.free h3, h4⟩
theorem ResTw.mono : ResT.Mono ResTw := fun sc us fs g H H1 v H' h s => h
theorem star_go {Res : ResT} (mo : Res.Mono) {K : PySem.W.Frag} {CF CC CS CU p : Addr} {sc : Sch} {us : List (List Str)} {fs : List Fx} {g : List Str} {H : Hp} {Q : VK} {E : XK} (o : FaAt K CF CC CS H p sc us fs) (hg : sc.good) (sz : FxSz us fs) (lg : g.length ≤ 4)
    (qE : ∀ z, knownF sc g = some z → ∀ (d : Addr) (H' : Hp), H d = none → H' d = some (.xd [("name", .str z)]) → Same H H' → E (.ref CU) (some d) H') (q : knownF sc g = none → ∀ v H', Res sc us fs g H v H' → Same H H' → Q v H') :
    ∃ ws rest, V.ref p :: g.map V.str = ws ++ rest ∧ ws.length = ["self"].length ∧ rest.length ≤ sizeLine ∧ ∀ tp, H tp = none → spTup Res K CF CC CS CU (ws ++ [V.ref tp]) (upd H tp (.tup rest)) Q E :=
  ⟨[.ref p], g.map V.str, rfl, rfl, Nat.le_of_lt (small1000 (by rw [List.length_map]; omega)), fun tp n_tp => by
    have s := same_new (o := .tup (g.map V.str)) n_tp
    exact ⟨p, tp, sc, us, fs, g, rfl, o.same s, hg, sz, SqT.of upd_same, by omega, fun z hz d H' nd hd s' => qE z hz d H' (s.free nd) hd (s.trans s'), fun hk v H' r s' => q hk v H' (mo _ _ _ _ _ _ _ _ r s) (s.trans s')⟩⟩
def spLst (Res : ResT) (K : PySem.W.Frag) (CF CC CS CUC : Addr) : Sp := fun vs H Q E => ∃ (p a : Addr) (sc : Sch) (us : List (List Str)) (fs : List Fx) (g : List Str), vs = [.ref p, .ref a] ∧ FaAt K CF CC CS H p sc us fs ∧ sc.good ∧ FxSz us fs ∧ H a = some (.lst (g.map V.str)) ∧ g.length ≤ 4 ∧
  (∀ z, knownF sc g = some z → ∀ (d : Addr) (H' : Hp), H d = none → H' d = some (.xd [("name", .str z)]) → Same H H' → E (.ref CUC) (some d) H') ∧ (knownF sc g = none → ∀ v H', Res sc us fs g H v H' → Same H H' → Q v H')
def ResA (k : Int) : ResT := if k = 0 then ResClo else if k = 1 then ResChn else ResTw
def spAsk (K : PySem.W.Frag) (CF CC CS CUC : Addr) : Sp := fun vs H Q E => ∃ (p a : Addr) (k : Int) (sc : Sch) (us : List (List Str)) (fs : List Fx) (g : List Str), vs = [.ref p, .int k, .ref a] ∧ FaAt K CF CC CS H p sc us fs ∧ sc.good ∧ FxSz us fs ∧ H a = some (.lst (g.map V.str)) ∧ g.length ≤ 4 ∧
  (∀ z, knownF sc g = some z → ∀ (d : Addr) (H' : Hp), H d = none → H' d = some (.xd [("name", .str z)]) → Same H H' → E (.ref CUC) (some d) H') ∧ (knownF sc g = none → ∀ v H', ResA k sc us fs g H v H' → Same H H' → Q v H')
section
variable {P : Program} {w : World} {K : PySem.W.Frag} {mg : Str → Option Value} {base : Heap}
theorem ok__law_closure (T : Txt K mg) : FnOk P w K mg base (L2.CX P w) 8 T.f__law_closure T.d__law_closure ["_law_facts_here", "_law_given"] (spLst ResClo K T.C_Facts T.C_Scheme T.C_Sort T.C_UnknownColumn) := by
  refine T.F__law_closure.okX sc__law_closure (fun vs H Q E h => ?_) (fun cdv A outer s H vs Q E hr h => ?_)
  · obtain ⟨p, a, sc, us, fs, g, rfl, _⟩ := h
    rfl
  obtain ⟨p, a, sc, us, fs, g, rfl, o, hg, sz, ha, lg, qE, q⟩ := h
  refine ⟨_, (pss_cons (ps_if (pt_cmpR op_eq (pe_callB (r := rLenL K) (id := "len") c_len (by rfl) T.z_len (by decide +kernel) (pa_cons (pv 1) pa_nil)) pe_int (nomark _)) (pss_one (ps_ret (pe_methR0 (pv 0) T.c_Facts T.mt_Facts_closure (ok_Facts_closure T) (hr.mono (by decide)) (passes_call (takes_of rfl rfl rfl rfl) fun _ _ _ _ h => h)))) pss_nil)
      (pss_cons (ps_if (pt_cmpR op_eq (pe_callB (r := rLenL K) (id := "len") c_len (by rfl) T.z_len (by decide +kernel) (pa_cons (pv 1) pa_nil)) pe_int (nomark _)) (pss_one (ps_ret (pe_methR (pv 0) T.c_Facts T.mt_Facts_closure (ok_Facts_closure T) (hr.mono (by decide)) (passes_call (takes_of rfl rfl rfl rfl) fun _ _ _ _ h => h) (pa_cons (pe_ix (r := rIxL K) ix_list (pv 1) pe_int (fun _ _ => rfl)) pa_nil)))) pss_nil)
      (pss_cons (ps_if (pt_cmpR op_eq (pe_callB (r := rLenL K) (id := "len") c_len (by rfl) T.z_len (by decide +kernel) (pa_cons (pv 1) pa_nil)) pe_int (nomark _)) (pss_one (ps_ret (pe_methR (pv 0) T.c_Facts T.mt_Facts_closure (ok_Facts_closure T) (hr.mono (by decide)) (passes_call (takes_of rfl rfl rfl rfl) fun _ _ _ _ h => h) (pa_cons (pe_ix (r := rIxL K) ix_list (pv 1) pe_int (fun _ _ => rfl)) (pa_cons (pe_ix (r := rIxL K) ix_list (pv 1) pe_int (fun _ _ => rfl)) pa_nil))))) pss_nil)
      (pss_cons (ps_if (pt_cmpR op_eq (pe_callB (r := rLenL K) (id := "len") c_len (by rfl) T.z_len (by decide +kernel) (pa_cons (pv 1) pa_nil)) pe_int (nomark _)) (pss_one (ps_ret (pe_methR (pv 0) T.c_Facts T.mt_Facts_closure (ok_Facts_closure T) (hr.mono (by decide)) (passes_call (takes_of rfl rfl rfl rfl) fun _ _ _ _ h => h) (pa_cons (pe_ix (r := rIxL K) ix_list (pv 1) pe_int (fun _ _ => rfl)) (pa_cons (pe_ix (r := rIxL K) ix_list (pv 1) pe_int (fun _ _ => rfl)) (pa_cons (pe_ix (r := rIxL K) ix_list (pv 1) pe_int (fun _ _ => rfl)) pa_nil)))))) pss_nil)
      (pss_one (ps_ret (pe_methR (pv 0) T.c_Facts T.mt_Facts_closure (ok_Facts_closure T) (hr.mono (by decide)) (passes_call (takes_of rfl rfl rfl rfl) fun _ _ _ _ h => h) (pa_cons (pe_ix (r := rIxL K) ix_list (pv 1) pe_int (fun _ _ => rfl)) (pa_cons (pe_ix (r := rIxL K) ix_list (pv 1) pe_int (fun _ _ => rfl)) (pa_cons (pe_ix (r := rIxL K) ix_list (pv 1) pe_int (fun _ _ => rfl)) (pa_cons (pe_ix (r := rIxL K) ix_list (pv 1) pe_int (fun _ _ => rfl)) pa_nil))))))))))), ?_⟩
  try simp only [nox_K, cx_K]
  match g, lg, ha, qE, q with
  | [], lg, ha, qE, q =>
    have ha0 : H a = some (.lst []) := ha
    wtm_at "rd"
    refine r_lenS ha ?_
    wtm_at "rd"
    refine r_ite (fun _ => ?_) (fun e => absurd rfl e)
    wtm_at "rd"
    refine fa_who T o (by decide +kernel) (by decide +kernel) (by decide +kernel) ?_
    wtm_at "rd"
    exact star_go ResClo.mono o hg sz lg qE q
  | [x], lg, ha, qE, q =>
    have ha0 : H a = some (.lst [.str x]) := ha
    wtm_at "rd"
    refine r_lenS ha ?_
    wtm_at "rd"
    refine r_ite (fun e => absurd e (by simp)) (fun _ => ?_)
    wtm_at "rd"
    refine r_lenS ha ?_
    wtm_at "rd"
    refine r_ite (fun _ => ?_) (fun e => absurd rfl e)
    wtm_at "rd"
    refine fa_who T o (by decide +kernel) (by decide +kernel) (by decide +kernel) ?_
    wtm_at "rd"
    exact star_go ResClo.mono o hg sz lg qE q
  | [x, y], lg, ha, qE, q =>
    have ha0 : H a = some (.lst [.str x, .str y]) := ha
    wtm_at "rd"
    refine r_lenS ha ?_
    wtm_at "rd"
    refine r_ite (fun e => absurd e (by simp)) (fun _ => ?_)
    wtm_at "rd"
    refine r_lenS ha ?_
    wtm_at "rd"
    refine r_ite (fun e => absurd e (by simp)) (fun _ => ?_)
    wtm_at "rd"
    refine r_lenS ha ?_
    wtm_at "rd"
    refine r_ite (fun _ => ?_) (fun e => absurd rfl e)
    wtm_at "rd"
    refine fa_who T o (by decide +kernel) (by decide +kernel) (by decide +kernel) ?_
    wtm_at "rd"
    exact star_go ResClo.mono o hg sz lg qE q
  | [x, y, z], lg, ha, qE, q =>
    have ha0 : H a = some (.lst [.str x, .str y, .str z]) := ha
    wtm_at "rd"
    refine r_lenS ha ?_
    wtm_at "rd"
    refine r_ite (fun e => absurd e (by simp)) (fun _ => ?_)
    wtm_at "rd"
    refine r_lenS ha ?_
    wtm_at "rd"
    refine r_ite (fun e => absurd e (by simp)) (fun _ => ?_)
    wtm_at "rd"
    refine r_lenS ha ?_
    wtm_at "rd"
    refine r_ite (fun e => absurd e (by simp)) (fun _ => ?_)
    wtm_at "rd"
    refine r_lenS ha ?_
    wtm_at "rd"
    refine r_ite (fun _ => ?_) (fun e => absurd rfl e)
    wtm_at "rd"
    refine fa_who T o (by decide +kernel) (by decide +kernel) (by decide +kernel) ?_
    wtm_at "rd"
    exact star_go ResClo.mono o hg sz lg qE q
  | [x, y, z, u], lg, ha, qE, q =>
    have ha0 : H a = some (.lst [.str x, .str y, .str z, .str u]) := ha
    wtm_at "rd"
    refine r_lenS ha ?_
    wtm_at "rd"
    refine r_ite (fun e => absurd e (by simp)) (fun _ => ?_)
    wtm_at "rd"
    refine r_lenS ha ?_
    wtm_at "rd"
    refine r_ite (fun e => absurd e (by simp)) (fun _ => ?_)
    wtm_at "rd"
    refine r_lenS ha ?_
    wtm_at "rd"
    refine r_ite (fun e => absurd e (by simp)) (fun _ => ?_)
    wtm_at "rd"
    refine r_lenS ha ?_
    wtm_at "rd"
    refine r_ite (fun e => absurd e (by simp)) (fun _ => ?_)
    wtm_at "rd"
    refine fa_who T o (by decide +kernel) (by decide +kernel) (by decide +kernel) ?_
    wtm_at "rd"
    exact star_go ResClo.mono o hg sz lg qE q
theorem ok__law_chain (T : Txt K mg) : FnOk P w K mg base (L2.CX P w) 8 T.f__law_chain T.d__law_chain ["_law_facts_here", "_law_given"] (spLst ResChn K T.C_Facts T.C_Scheme T.C_Sort T.C_UnknownColumn) := by
  refine T.F__law_chain.okX sc__law_chain (fun vs H Q E h => ?_) (fun cdv A outer s H vs Q E hr h => ?_)
  · obtain ⟨p, a, sc, us, fs, g, rfl, _⟩ := h
    rfl
  obtain ⟨p, a, sc, us, fs, g, rfl, o, hg, sz, ha, lg, qE, q⟩ := h
  refine ⟨_, (pss_cons (ps_if (pt_cmpR op_eq (pe_callB (r := rLenL K) (id := "len") c_len (by rfl) T.z_len (by decide +kernel) (pa_cons (pv 1) pa_nil)) pe_int (nomark _)) (pss_one (ps_ret (pe_methR0 (pv 0) T.c_Facts T.mt_Facts_chain (ok_Facts_chain T) (hr.mono (by decide)) (passes_call (takes_of rfl rfl rfl rfl) fun _ _ _ _ h => h)))) pss_nil)
      (pss_cons (ps_if (pt_cmpR op_eq (pe_callB (r := rLenL K) (id := "len") c_len (by rfl) T.z_len (by decide +kernel) (pa_cons (pv 1) pa_nil)) pe_int (nomark _)) (pss_one (ps_ret (pe_methR (pv 0) T.c_Facts T.mt_Facts_chain (ok_Facts_chain T) (hr.mono (by decide)) (passes_call (takes_of rfl rfl rfl rfl) fun _ _ _ _ h => h) (pa_cons (pe_ix (r := rIxL K) ix_list (pv 1) pe_int (fun _ _ => rfl)) pa_nil)))) pss_nil)
      (pss_cons (ps_if (pt_cmpR op_eq (pe_callB (r := rLenL K) (id := "len") c_len (by rfl) T.z_len (by decide +kernel) (pa_cons (pv 1) pa_nil)) pe_int (nomark _)) (pss_one (ps_ret (pe_methR (pv 0) T.c_Facts T.mt_Facts_chain (ok_Facts_chain T) (hr.mono (by decide)) (passes_call (takes_of rfl rfl rfl rfl) fun _ _ _ _ h => h) (pa_cons (pe_ix (r := rIxL K) ix_list (pv 1) pe_int (fun _ _ => rfl)) (pa_cons (pe_ix (r := rIxL K) ix_list (pv 1) pe_int (fun _ _ => rfl)) pa_nil))))) pss_nil)
      (pss_cons (ps_if (pt_cmpR op_eq (pe_callB (r := rLenL K) (id := "len") c_len (by rfl) T.z_len (by decide +kernel) (pa_cons (pv 1) pa_nil)) pe_int (nomark _)) (pss_one (ps_ret (pe_methR (pv 0) T.c_Facts T.mt_Facts_chain (ok_Facts_chain T) (hr.mono (by decide)) (passes_call (takes_of rfl rfl rfl rfl) fun _ _ _ _ h => h) (pa_cons (pe_ix (r := rIxL K) ix_list (pv 1) pe_int (fun _ _ => rfl)) (pa_cons (pe_ix (r := rIxL K) ix_list (pv 1) pe_int (fun _ _ => rfl)) (pa_cons (pe_ix (r := rIxL K) ix_list (pv 1) pe_int (fun _ _ => rfl)) pa_nil)))))) pss_nil)
      (pss_one (ps_ret (pe_methR (pv 0) T.c_Facts T.mt_Facts_chain (ok_Facts_chain T) (hr.mono (by decide)) (passes_call (takes_of rfl rfl rfl rfl) fun _ _ _ _ h => h) (pa_cons (pe_ix (r := rIxL K) ix_list (pv 1) pe_int (fun _ _ => rfl)) (pa_cons (pe_ix (r := rIxL K) ix_list (pv 1) pe_int (fun _ _ => rfl)) (pa_cons (pe_ix (r := rIxL K) ix_list (pv 1) pe_int (fun _ _ => rfl)) (pa_cons (pe_ix (r := rIxL K) ix_list (pv 1) pe_int (fun _ _ => rfl)) pa_nil))))))))))), ?_⟩
  try simp only [nox_K, cx_K]
  match g, lg, ha, qE, q with
  | [], lg, ha, qE, q =>
    have ha0 : H a = some (.lst []) := ha
    wtm_at "rd"
    refine r_lenS ha ?_
    wtm_at "rd"
    refine r_ite (fun _ => ?_) (fun e => absurd rfl e)
    wtm_at "rd"
    refine fa_who T o (by decide +kernel) (by decide +kernel) (by decide +kernel) ?_
    wtm_at "rd"
    exact star_go ResChn.mono o hg sz lg qE q
  | [x], lg, ha, qE, q =>
    have ha0 : H a = some (.lst [.str x]) := ha
    wtm_at "rd"
    refine r_lenS ha ?_
    wtm_at "rd"
    refine r_ite (fun e => absurd e (by simp)) (fun _ => ?_)
    wtm_at "rd"
    refine r_lenS ha ?_
    wtm_at "rd"
    refine r_ite (fun _ => ?_) (fun e => absurd rfl e)
    wtm_at "rd"
    refine fa_who T o (by decide +kernel) (by decide +kernel) (by decide +kernel) ?_
    wtm_at "rd"
    exact star_go ResChn.mono o hg sz lg qE q
  | [x, y], lg, ha, qE, q =>
    have ha0 : H a = some (.lst [.str x, .str y]) := ha
    wtm_at "rd"
    refine r_lenS ha ?_
    wtm_at "rd"
    refine r_ite (fun e => absurd e (by simp)) (fun _ => ?_)
    wtm_at "rd"
    refine r_lenS ha ?_
    wtm_at "rd"
    refine r_ite (fun e => absurd e (by simp)) (fun _ => ?_)
    wtm_at "rd"
    refine r_lenS ha ?_
    wtm_at "rd"
    refine r_ite (fun _ => ?_) (fun e => absurd rfl e)
    wtm_at "rd"
    refine fa_who T o (by decide +kernel) (by decide +kernel) (by decide +kernel) ?_
    wtm_at "rd"
    exact star_go ResChn.mono o hg sz lg qE q
  | [x, y, z], lg, ha, qE, q =>
    have ha0 : H a = some (.lst [.str x, .str y, .str z]) := ha
    wtm_at "rd"
    refine r_lenS ha ?_
    wtm_at "rd"
    refine r_ite (fun e => absurd e (by simp)) (fun _ => ?_)
    wtm_at "rd"
    refine r_lenS ha ?_
    wtm_at "rd"
    refine r_ite (fun e => absurd e (by simp)) (fun _ => ?_)
    wtm_at "rd"
    refine r_lenS ha ?_
    wtm_at "rd"
    refine r_ite (fun e => absurd e (by simp)) (fun _ => ?_)
    wtm_at "rd"
    refine r_lenS ha ?_
    wtm_at "rd"
    refine r_ite (fun _ => ?_) (fun e => absurd rfl e)
    wtm_at "rd"
    refine fa_who T o (by decide +kernel) (by decide +kernel) (by decide +kernel) ?_
    wtm_at "rd"
    exact star_go ResChn.mono o hg sz lg qE q
  | [x, y, z, u], lg, ha, qE, q =>
    have ha0 : H a = some (.lst [.str x, .str y, .str z, .str u]) := ha
    wtm_at "rd"
    refine r_lenS ha ?_
    wtm_at "rd"
    refine r_ite (fun e => absurd e (by simp)) (fun _ => ?_)
    wtm_at "rd"
    refine r_lenS ha ?_
    wtm_at "rd"
    refine r_ite (fun e => absurd e (by simp)) (fun _ => ?_)
    wtm_at "rd"
    refine r_lenS ha ?_
    wtm_at "rd"
    refine r_ite (fun e => absurd e (by simp)) (fun _ => ?_)
    wtm_at "rd"
    refine r_lenS ha ?_
    wtm_at "rd"
    refine r_ite (fun e => absurd e (by simp)) (fun _ => ?_)
    wtm_at "rd"
    refine fa_who T o (by decide +kernel) (by decide +kernel) (by decide +kernel) ?_
    wtm_at "rd"
    exact star_go ResChn.mono o hg sz lg qE q
theorem ok__law_no_twins (T : Txt K mg) : FnOk P w K mg base (L2.CX P w) 8 T.f__law_no_twins T.d__law_no_twins ["_law_facts_here", "_law_given"] (spLst ResTw K T.C_Facts T.C_Scheme T.C_Sort T.C_UnknownColumn) := by
  refine T.F__law_no_twins.okX sc__law_no_twins (fun vs H Q E h => ?_) (fun cdv A outer s H vs Q E hr h => ?_)
  · obtain ⟨p, a, sc, us, fs, g, rfl, _⟩ := h
    rfl
  obtain ⟨p, a, sc, us, fs, g, rfl, o, hg, sz, ha, lg, qE, q⟩ := h
  refine ⟨_, (pss_cons (ps_if (pt_cmpR op_eq (pe_callB (r := rLenL K) (id := "len") c_len (by rfl) T.z_len (by decide +kernel) (pa_cons (pv 1) pa_nil)) pe_int (nomark _)) (pss_one (ps_ret (pe_methR0 (pv 0) T.c_Facts T.mt_Facts_no_twins (ok_Facts_no_twins T) (hr.mono (by decide)) (passes_call (takes_of rfl rfl rfl rfl) fun _ _ _ _ h => h)))) pss_nil)
      (pss_cons (ps_if (pt_cmpR op_eq (pe_callB (r := rLenL K) (id := "len") c_len (by rfl) T.z_len (by decide +kernel) (pa_cons (pv 1) pa_nil)) pe_int (nomark _)) (pss_one (ps_ret (pe_methR (pv 0) T.c_Facts T.mt_Facts_no_twins (ok_Facts_no_twins T) (hr.mono (by decide)) (passes_call (takes_of rfl rfl rfl rfl) fun _ _ _ _ h => h) (pa_cons (pe_ix (r := rIxL K) ix_list (pv 1) pe_int (fun _ _ => rfl)) pa_nil)))) pss_nil)
      (pss_cons (ps_if (pt_cmpR op_eq (pe_callB (r := rLenL K) (id := "len") c_len (by rfl) T.z_len (by decide +kernel) (pa_cons (pv 1) pa_nil)) pe_int (nomark _)) (pss_one (ps_ret (pe_methR (pv 0) T.c_Facts T.mt_Facts_no_twins (ok_Facts_no_twins T) (hr.mono (by decide)) (passes_call (takes_of rfl rfl rfl rfl) fun _ _ _ _ h => h) (pa_cons (pe_ix (r := rIxL K) ix_list (pv 1) pe_int (fun _ _ => rfl)) (pa_cons (pe_ix (r := rIxL K) ix_list (pv 1) pe_int (fun _ _ => rfl)) pa_nil))))) pss_nil)
      (pss_cons (ps_if (pt_cmpR op_eq (pe_callB (r := rLenL K) (id := "len") c_len (by rfl) T.z_len (by decide +kernel) (pa_cons (pv 1) pa_nil)) pe_int (nomark _)) (pss_one (ps_ret (pe_methR (pv 0) T.c_Facts T.mt_Facts_no_twins (ok_Facts_no_twins T) (hr.mono (by decide)) (passes_call (takes_of rfl rfl rfl rfl) fun _ _ _ _ h => h) (pa_cons (pe_ix (r := rIxL K) ix_list (pv 1) pe_int (fun _ _ => rfl)) (pa_cons (pe_ix (r := rIxL K) ix_list (pv 1) pe_int (fun _ _ => rfl)) (pa_cons (pe_ix (r := rIxL K) ix_list (pv 1) pe_int (fun _ _ => rfl)) pa_nil)))))) pss_nil)
      (pss_one (ps_ret (pe_methR (pv 0) T.c_Facts T.mt_Facts_no_twins (ok_Facts_no_twins T) (hr.mono (by decide)) (passes_call (takes_of rfl rfl rfl rfl) fun _ _ _ _ h => h) (pa_cons (pe_ix (r := rIxL K) ix_list (pv 1) pe_int (fun _ _ => rfl)) (pa_cons (pe_ix (r := rIxL K) ix_list (pv 1) pe_int (fun _ _ => rfl)) (pa_cons (pe_ix (r := rIxL K) ix_list (pv 1) pe_int (fun _ _ => rfl)) (pa_cons (pe_ix (r := rIxL K) ix_list (pv 1) pe_int (fun _ _ => rfl)) pa_nil))))))))))), ?_⟩
  try simp only [nox_K, cx_K]
  match g, lg, ha, qE, q with
  | [], lg, ha, qE, q =>
    have ha0 : H a = some (.lst []) := ha
    wtm_at "rd"
    refine r_lenS ha ?_
    wtm_at "rd"
    refine r_ite (fun _ => ?_) (fun e => absurd rfl e)
    wtm_at "rd"
    refine fa_who T o (by decide +kernel) (by decide +kernel) (by decide +kernel) ?_
    wtm_at "rd"
    exact star_go ResTw.mono o hg sz lg qE q
  | [x], lg, ha, qE, q =>
    have ha0 : H a = some (.lst [.str x]) := ha
    wtm_at "rd"
    refine r_lenS ha ?_
    wtm_at "rd"
    refine r_ite (fun e => absurd e (by simp)) (fun _ => ?_)
    wtm_at "rd"
    refine r_lenS ha ?_
    wtm_at "rd"
    refine r_ite (fun _ => ?_) (fun e => absurd rfl e)
    wtm_at "rd"
    refine fa_who T o (by decide +kernel) (by decide +kernel) (by decide +kernel) ?_
    wtm_at "rd"
    exact star_go ResTw.mono o hg sz lg qE q
  | [x, y], lg, ha, qE, q =>
    have ha0 : H a = some (.lst [.str x, .str y]) := ha
    wtm_at "rd"
    refine r_lenS ha ?_
    wtm_at "rd"
    refine r_ite (fun e => absurd e (by simp)) (fun _ => ?_)
    wtm_at "rd"
    refine r_lenS ha ?_
    wtm_at "rd"
    refine r_ite (fun e => absurd e (by simp)) (fun _ => ?_)
    wtm_at "rd"
    refine r_lenS ha ?_
    wtm_at "rd"
    refine r_ite (fun _ => ?_) (fun e => absurd rfl e)
    wtm_at "rd"
    refine fa_who T o (by decide +kernel) (by decide +kernel) (by decide +kernel) ?_
    wtm_at "rd"
    exact star_go ResTw.mono o hg sz lg qE q
  | [x, y, z], lg, ha, qE, q =>
    have ha0 : H a = some (.lst [.str x, .str y, .str z]) := ha
    wtm_at "rd"
    refine r_lenS ha ?_
    wtm_at "rd"
    refine r_ite (fun e => absurd e (by simp)) (fun _ => ?_)
    wtm_at "rd"
    refine r_lenS ha ?_
    wtm_at "rd"
    refine r_ite (fun e => absurd e (by simp)) (fun _ => ?_)
    wtm_at "rd"
    refine r_lenS ha ?_
    wtm_at "rd"
    refine r_ite (fun e => absurd e (by simp)) (fun _ => ?_)
    wtm_at "rd"
    refine r_lenS ha ?_
    wtm_at "rd"
    refine r_ite (fun _ => ?_) (fun e => absurd rfl e)
    wtm_at "rd"
    refine fa_who T o (by decide +kernel) (by decide +kernel) (by decide +kernel) ?_
    wtm_at "rd"
    exact star_go ResTw.mono o hg sz lg qE q
  | [x, y, z, u], lg, ha, qE, q =>
    have ha0 : H a = some (.lst [.str x, .str y, .str z, .str u]) := ha
    wtm_at "rd"
    refine r_lenS ha ?_
    wtm_at "rd"
    refine r_ite (fun e => absurd e (by simp)) (fun _ => ?_)
    wtm_at "rd"
    refine r_lenS ha ?_
    wtm_at "rd"
    refine r_ite (fun e => absurd e (by simp)) (fun _ => ?_)
    wtm_at "rd"
    refine r_lenS ha ?_
    wtm_at "rd"
    refine r_ite (fun e => absurd e (by simp)) (fun _ => ?_)
    wtm_at "rd"
    refine r_lenS ha ?_
    wtm_at "rd"
    refine r_ite (fun e => absurd e (by simp)) (fun _ => ?_)
    wtm_at "rd"
    refine fa_who T o (by decide +kernel) (by decide +kernel) (by decide +kernel) ?_
    wtm_at "rd"
    exact star_go ResTw.mono o hg sz lg qE q
theorem ok__law_ask (T : Txt K mg) : FnOk P w K mg base (L2.CX P w) 9 T.f__law_ask T.d__law_ask ["_law_facts_here", "_law_which", "_law_given"] (spAsk K T.C_Facts T.C_Scheme T.C_Sort T.C_UnknownColumn) := by
  refine T.F__law_ask.okX sc__law_ask (fun vs H Q E h => ?_) (fun cdv A outer s H vs Q E hr h => ?_)
  · obtain ⟨p, a, k, sc, us, fs, g, rfl, _⟩ := h
    rfl
  obtain ⟨p, a, k, sc, us, fs, g, rfl, o, hg, sz, ha, lg, qE, q⟩ := h
  refine ⟨_, (pss_cons (ps_if (pt_cmpR op_eq (pv 1) pe_int (nomark _)) (pss_one (ps_ret (pe_call (ok__law_closure T) (hr.mono (by decide)) (by rfl) T.g__law_closure T.F__law_closure.kp T.b__law_closure .nil (passes_call (takes_of rfl rfl rfl rfl) fun _ _ _ _ h => h) (pa_cons (pv 0) (pa_cons (pv 2) pa_nil))))) pss_nil)
      (pss_one (ps_ret (pe_ifExp (pt_cmpR op_eq (pv 1) pe_int (nomark _)) (pe_call (ok__law_chain T) (hr.mono (by decide)) (by rfl) T.g__law_chain T.F__law_chain.kp T.b__law_chain .nil (passes_call (takes_of rfl rfl rfl rfl) fun _ _ _ _ h => h) (pa_cons (pv 0) (pa_cons (pv 2) pa_nil))) (pe_call (ok__law_no_twins T) (hr.mono (by decide)) (by rfl) T.g__law_no_twins T.F__law_no_twins.kp T.b__law_no_twins .nil (passes_call (takes_of rfl rfl rfl rfl) fun _ _ _ _ h => h) (pa_cons (pv 0) (pa_cons (pv 2) pa_nil))))))), ?_⟩
  try simp only [nox_K, cx_K]
  wtm_at "rd"
  refine r_ite (fun e => ?_) (fun e => ?_)
  · wtm_at "rd"
    refine ⟨p, a, sc, us, fs, g, rfl, o, hg, sz, ha, lg, qE, fun hk v H' r s => q hk v H' ?_ s⟩
    rwa [ResA, if_pos e]
  · wtm_at "rd"
    refine r_ite (fun e2 => ?_) (fun e2 => ?_)
    · wtm_at "rd"
      refine ⟨p, a, sc, us, fs, g, rfl, o, hg, sz, ha, lg, qE, fun hk v H' r s => q hk v H' ?_ s⟩
      rwa [ResA, if_neg e, if_pos e2]
    · wtm_at "rd"
      refine ⟨p, a, sc, us, fs, g, rfl, o, hg, sz, ha, lg, qE, fun hk v H' r s => q hk v H' ?_ s⟩
      rwa [ResA, if_neg e, if_neg e2]

end

def spWhole : Sp := fun vs H Q _ => ∃ i : Int, vs = [.int i] ∧ Q (.bl true) H
def spClosed : Sp := fun vs H Q _ => ∃ (t a : Addr) (us : List (List Str)) (fs : List Fx) (g : List Str), vs = [.ref t, .ref a] ∧ LstAt H t us fs ∧ FxSz us fs ∧ fs.length ≤ 5 ∧ H a = some (.lst (g.map V.str)) ∧ g.length ≤ 4 ∧
  ∀ (l : Addr) (G : List Str) (S : List Nat) (H' : Hp), Reach fs g G S → G.length ≤ 9 → H l = none → H' l = some (.lst (G.map V.str)) → Same H H' → Q (.ref l) H'
def spWalked : Sp := fun vs H Q _ => ∃ (t a s : Addr) (us : List (List Str)) (fs : List Fx) (g F : List Str) (S : List Nat), vs = [.ref t, .ref a, .ref s] ∧ LstAt H t us fs ∧ FxSz us fs ∧ H a = some (.lst (g.map V.str)) ∧ g.length ≤ 4 ∧ H s = some (.lst (S.map natV)) ∧ Reach fs g F S ∧
  ∀ (l : Addr) (ys : List Str) (H' : Hp), H l = none → H' l = some (.lst (ys.map V.str)) → sortedS ys = true → ys.Nodup → (∀ z, z ∈ ys ↔ z ∈ F) → Same H H' → Q (.ref l) H'
theorem isE_all {u F : List Str} : ((u.filter fun z => !decide (z ∈ F)).map V.str).isEmpty = u.all fun z => decide (z ∈ F) := by
  have h := emp_all (u := u) (F := F)
  rwa [Bool.not_not] at h
section
variable {P : Program} {w : World} {K : PySem.W.Frag} {mg : Str → Option Value} {base : Heap}
theorem ok__law_whole (T : Txt K mg) : FnOk P w K mg base CX0 1 T.f__law_whole T.d__law_whole ["_law_x"] spWhole := by
  refine T.F__law_whole.ok sc__law_whole (fun vs H Q E h => ?_) (fun cdv A outer s H vs Q E hr h => ?_)
  · obtain ⟨i, rfl, _⟩ := h
    rfl
  obtain ⟨i, rfl, q⟩ := h
  refine ⟨_, (pss_one (ps_ret (pe_and (pe_callB call_isi (by rfl) T.z_isinstance (by decide +kernel) (pa_cons (pv 0) (pa_cons (pe_bltn (v := .ty "int") (u := .type "int") (by rfl) T.z_int (by decide +kernel) rfl) pa_nil))) (pe_one (pe_not (pe_callB call_isi (by rfl) T.z_isinstance (by decide +kernel) (pa_cons (pv 0) (pa_cons (pe_bltn (v := .ty "bool") (u := .type "bool") (by rfl) T.z_bool (by decide +kernel) rfl) pa_nil)))))))), ?_⟩
  try simp only [nox_K, cx_K]
  wtm_at "rd"
  refine r_isi (.ty "int") (.base (.int _)) kit_self ?_
  wtm_at "rdi"
  refine r_isi (.ty "bool") (.base (.int _)) T.kt_int_bool ?_
  wtm_at "rdi"
  exact q
theorem ok__law_closed (T : Txt K mg) : FnOk P w K mg base CX0 1 T.f__law_closed T.d__law_closed ["_law_lists", "_law_given"] spClosed := by
  refine T.F__law_closed.ok sc__law_closed (fun vs H Q E h => ?_) (fun cdv A outer s H vs Q E hr h => ?_)
  · obtain ⟨t, a, us, fs, g, rfl, _⟩ := h
    rfl
  obtain ⟨t, a, us, fs, g, rfl, ⟨aU, aF, ht, hU, ts, hF, hT⟩, sz, l5, ha, lg, q⟩ := h
  refine ⟨_, (pss_cons (ps_set (i := 2) sc__law_closed.nd rfl (by first | exact Or.inl rfl | exact Or.inr rfl) (pe_callTy c_listA (by rfl) T.z_list (by decide +kernel) (pa_cons (pv 1) pa_nil)))
      (pss_cons (ps_for PassesOwn.never rfl (pi_range1 (by rfl) T.z_range (pa_cons pe_int pa_nil)) (pg_name (i := 3) sc__law_closed.nd rfl (by first | exact Or.inl rfl | exact Or.inr rfl)) (pss_one (ps_for PassesOwn.never rfl (pi_list (pe_ix (r := rIxT K) ix_tup (pv 0) pe_int (fun _ _ => rfl))) (pg_tup (by rfl) (pgs_cons (pg_name (i := 4) sc__law_closed.nd rfl (by first | exact Or.inl rfl | exact Or.inr rfl)) (pgs_cons (pg_name (i := 5) sc__law_closed.nd rfl (by first | exact Or.inl rfl | exact Or.inr rfl)) pgs_nil))) (pss_one (ps_if (PW.pt (pw_and (pt_cmpR op_notIn_seq (pv 5) (pv 2) (by rfl)) (pw_and1 (pt_cmpR (op_eqE hr.units0) (pe_lc (own := [("_law_word", 6)]) (g := gName 6) rfl sc__law_closed.nd (pi_list (pv 4)) (blkOk_by (N := ["_law_lists", "_law_given", "_law_found", "_law_turn", "_law_left_here", "_law_right", "_law_word"]) (sc := defScope s__law_closed) (by decide +kernel)) (fun _ _ _ _ _ => pg_name (i := 6) sc__law_closed.nd rfl (by first | exact Or.inl rfl | exact Or.inr rfl)) (fun _ _ _ _ _ => (pts_one (pt_cmpR (r := rIn K true) (op_notInK K rfl) (pv 6) (pv 2) (by rfl)))) (fun _ _ _ _ _ => (pv 6))) (pe_lst pa_nil) (nomark _))))) (pss_one (ps_expr (pe_bm PySem.F.plainAttrs_list PySem.F.slot_list_append PySem.F.type_list_append mt_append (pv 2) (pa_cons (pv 5) pa_nil)))) pss_nil)))))
      (pss_one (ps_ret (pv 2))))), ?_⟩
  try simp only [nox_K, cx_K]
  have lT := hT.len
  wtm_at "rd"
  refine r_listA (.inl (SqL.of ha)) fun fl n_fl => ?_
  have nfl := n_fl
  generalize eq_fl : upd _ fl _ = H1
  have s_fl : Same _ H1 := eq_fl ▸ same_new n_fl
  have h_fl : H1 fl = some _ := eq_fl ▸ upd_same
  clear eq_fl
  wtm_at "rd"
  refine r_for (r_rng1 ?_)
  wtm_at "rd"
  refine r_upto (by decide) (by decide) ?_
  have bnd : ∀ {F' : List Str} {S' : List Nat}, S'.Nodup → (∀ i ∈ S', ∃ f, fs[i]? = some f ∧ f.2 ∈ F') → S'.length ≤ fs.length := fun {F' S'} n l => inds_le n fun i hi => by
    obtain ⟨f, hf, _⟩ := l i hi
    exact (List.getElem?_eq_some_iff.mp hf).1
  refine for_range (fun i σ H' => ∃ (x3 x4 x5 x6 : Option V) (F : List Str) (S : List Nat), σ = [some (.ref t), some (.ref a), some (.ref fl), x3, x4, x5, x6] ∧ Same H H' ∧ H' fl = some (.lst (F.map V.str)) ∧ Deriv fs g S F ∧ S.Nodup ∧ (∀ i ∈ S, ∃ f, fs[i]? = some f ∧ f.2 ∈ F) ∧ F.length = g.length + S.length ∧ (Closed fs F ∨ i ≤ S.length)) ⟨_, _, _, _, g, [], rfl, s_fl, h_fl, rfl, List.nodup_nil, (fun i z => nomatch z), rfl, .inr (Nat.le_refl _)⟩ ?_ ?_
  · rintro i σ H2 hi ⟨x3, x4, x5, x6, F, S, rfl, s2, hfl, dv, nd, li, lF, cl⟩
    have ht2 := s2 _ _ ht
    have lS := bnd nd li
    wtm_at "rd"
    refine r_for (r_il ?_)
    wtm_at "rd"
    refine ⟨aF, rfl, ⟨_, SqL.of (s2 _ _ hF)⟩, ?_⟩
    refine for_list (K := K) (a := aF) (xs := ts.map V.ref) (fun j σ' H' => ∃ (x3 x4 x5 x6 : Option V) (F' : List Str) (S' : List Nat), σ' = [some (.ref t), some (.ref a), some (.ref fl), x3, x4, x5, x6] ∧ Same H H' ∧ H' fl = some (.lst (F'.map V.str)) ∧ Deriv fs g S' F' ∧ S'.Nodup ∧ (∀ i ∈ S', ∃ f, fs[i]? = some f ∧ f.2 ∈ F') ∧ F'.length = g.length + S'.length ∧ ((F' = F ∧ S' = S ∧ ∀ f ∈ fs.take j, (∀ z ∈ f.1, z ∈ F) → f.2 ∈ F) ∨ (S.length < S'.length ∧ ¬ Closed fs F))) ⟨_, _, _, _, F, S, rfl, s2, hfl, dv, nd, li, lF, .inl ⟨rfl, rfl, fun f hf => (by rw [List.take_zero] at hf; cases hf)⟩⟩ (fun i σ H' _ ⟨_, _, _, _, _, _, _, s, _⟩ => SqL.of (s _ _ hF)) ?_ ?_
    · rintro j v σ' H5 hv ⟨y3, y4, y5, y6, F', S', rfl, s', h1, h3, h4, h5, h6, h7⟩
      rw [List.getElem?_map] at hv
      obtain ⟨t', ht', rfl⟩ := Option.map_eq_some_iff.mp hv
      obtain ⟨f, hfi, b, htb, hb⟩ := hT.get ht'
      have lS' := bnd h4 h5
      refine r_gtup (SqT.of (s' _ _ htb)) rfl ?_
      wtm_at "rd"
      refine r_inL (SqL.of h1) rfl (flat_strsV _) ?_
      show ∃ k, V.bl (!inV _ (F'.map V.str)) = .bl k ∧ _
      rw [inV_strs]
      wtm_at "rd"
      have keep : (f.2 ∈ F' ∨ ¬ ∀ z ∈ f.1, z ∈ F') → ((F' = F ∧ S' = S ∧ ∀ f ∈ fs.take (j + 1), (∀ z ∈ f.1, z ∈ F) → f.2 ∈ F) ∨ (S.length < S'.length ∧ ¬ Closed fs F)) := fun hc => by
        rcases h7 with ⟨e1, e2, e3⟩ | h7
        · refine .inl ⟨e1, e2, fun f' hf' hz => ?_⟩
          rcases take_snoc hfi hf' with c | c
          · exact e3 f' c hz
          · rw [c] at hz ⊢
            rw [e1] at hc
            exact hc.elim id fun n => absurd hz n
        · exact .inr h7
      refine r_iten (fun e1 => ?_) (fun e1 => ?_)
      · have lfj := sz.lf f (List.mem_of_getElem? hfi)
        have hb6 := s' _ _ hb
        wtm_at "rd"
        refine r_itl (SqL.of hb6) ?_
        refine lc_filt (fun v => !decide (strV v ∈ F')) (SqL.of hb6) (by rw [List.length_map]; omega) (fun x H' QT hx s' hQ => ?_) (fun x H' QQ hx s' hQ => ?_) fun D n_D => ?_
        · obtain ⟨z, _, rfl⟩ := List.mem_map.mp hx
          wtm_at "rd"
          refine r_inL (SqL.of (s' _ _ h1)) rfl (flat_strsV _) ?_
          show ∃ k, V.bl (!inV _ (F'.map V.str)) = .bl k ∧ _
          rw [inV_strs]
          exact ⟨_, rfl, hQ⟩
        · wtm_at "rd"
          exact hQ
        rw [filt_s (fun z => !decide (z ∈ F')) f.1 _ fun z _ => rfl]
        generalize eq_D : upd _ D _ = H7
        have s_D : Same _ H7 := eq_D ▸ same_new n_D
        have h_D : H7 D = some _ := eq_D ▸ upd_same
        clear eq_D
        have h1 := s_D _ _ h1
        have s' := s'.trans s_D
        wtm_at "rd"
        refine r_new rfl fun D2 n_D2 => ?_
        generalize eq_D2 : upd _ D2 _ = H8
        have s_D2 : Same _ H8 := eq_D2 ▸ same_new n_D2
        have h_D2 : H8 D2 = some _ := eq_D2 ▸ upd_same
        clear eq_D2
        have h1 := s_D2 _ _ h1
        have h_D := s_D2 _ _ h_D
        have s' := s'.trans s_D2
        refine r_eqE (SqL.of h_D) (SqL.of h_D2) ?_
        rw [isE_all]
        wtm_at "rd"
        refine r_iteb (fun e2 => ?_) (fun e2 => ?_)
        · have e2 := sub_all.mp e2
          wtm_at "rd"
          refine r_tyL (SqL.of h1) ?_
          wtm_at "rd"
          refine r_app h1 (small1000 (by rw [List.length_map]; omega)) ?_
          wtm_at "rd"
          refine ⟨_, _, _, _, F' ++ [f.2], S' ++ [j], rfl, fun b o e => (upd_ne (ne_of_none e nfl)).trans (s' _ _ e), by rw [upd_same, List.map_append]; try rfl, h3.snoc hfi e1 e2, ?_, fun i hi => ?_, by simp only [List.length_append, List.length_singleton]; omega, .inr ⟨?_, fun c => ?_⟩⟩
          · refine List.nodup_append.mpr ⟨h4, by simp, fun x hx y hy => ?_⟩
            rw [List.mem_singleton.mp hy]
            intro e
            subst e
            obtain ⟨f', hf', hm⟩ := h5 _ hx
            rw [hfi] at hf'
            cases hf'
            exact e1 hm
          · rcases List.mem_append.mp hi with c | c
            · obtain ⟨f', hf', hm⟩ := h5 i c
              exact ⟨f', hf', List.mem_append.mpr (.inl hm)⟩
            · rw [List.mem_singleton.mp c]
              exact ⟨f, hfi, List.mem_append.mpr (.inr List.mem_cons_self)⟩
          · rw [List.length_append]
            rcases h7 with ⟨_, e, _⟩ | h7
            · rw [e]
              exact Nat.lt_succ_self _
            · exact Nat.lt_succ_of_lt h7.1
          · rcases h7 with ⟨e, _, _⟩ | h7
            · rw [e] at e1 e2
              exact e1 (c f (List.mem_of_getElem? hfi) e2)
            · exact h7.2 c
        · wtm_at "rd"
          exact ⟨_, _, _, _, F', S', rfl, s', h1, h3, h4, h5, h6, keep (.inr fun z => by rw [sub_all.mpr z] at e2; cases e2)⟩
      · wtm_at "rd"
        exact ⟨_, _, _, _, F', S', rfl, s', h1, h3, h4, h5, h6, keep (.inl e1)⟩
    · rintro σ' H5 ⟨y3, y4, y5, y6, F', S', rfl, s', h1, h3, h4, h5, h6, h7⟩
      rw [List.length_map, lT, List.take_length] at h7
      refine ⟨_, _, _, _, F', S', rfl, s', h1, h3, h4, h5, h6, ?_⟩
      rcases h7 with ⟨e1, e2, e3⟩ | h7
      · rw [e1]
        exact .inl e3
      · rcases cl with c | c
        · exact absurd c h7.2
        · exact .inr (by omega)
  · rintro σ H2 ⟨x3, x4, x5, x6, F, S, rfl, s2, hfl, dv, nd, li, lF, cl⟩
    have lS := bnd nd li
    have cl : Closed fs F := cl.elim id fun z => absurd (show 20 ≤ S.length from z) (by omega)
    wtm_at "rd"
    exact q fl F S H2 ⟨dv, cl, nd, fun i hi => by
      obtain ⟨f, hf, _⟩ := li i hi
      exact (List.getElem?_eq_some_iff.mp hf).1⟩ (by omega) nfl hfl s2
theorem ok__law_walked (T : Txt K mg) : FnOk P w K mg base CX0 2 T.f__law_walked T.d__law_walked ["_law_lists", "_law_given", "_law_chain_here"] spWalked := by
  refine T.F__law_walked.ok sc__law_walked (fun vs H Q E h => ?_) (fun cdv A outer s H vs Q E hr h => ?_)
  · obtain ⟨t, a, s0, us, fs, g, F, S, rfl, _⟩ := h
    rfl
  obtain ⟨t, a, s0, us, fs, g, F, S, rfl, ⟨aU, aF, ht, hU, ts, hF, hT⟩, sz, ha, lg, hs, R, q⟩ := h
  refine ⟨_, (pss_cons (ps_set (i := 3) sc__law_walked.nd rfl (by first | exact Or.inl rfl | exact Or.inr rfl) (pe_callTy c_listA (by rfl) T.z_list (by decide +kernel) (pa_cons (pv 1) pa_nil)))
      (pss_cons (ps_for PassesOwn.never rfl (pi_list (pv 2)) (pg_name (i := 4) sc__law_walked.nd rfl (by first | exact Or.inl rfl | exact Or.inr rfl)) (pss_cons (ps_if (PW.pt (pw_or (pt_not (pt_val (pe_call (ok__law_whole T) (hr.mono (by decide)) (by rfl) T.g__law_whole T.F__law_whole.kp T.b__law_whole .nil pass0 (pa_cons (pv 4) pa_nil)))) (pw_or1 (pt_not (pt_chain op_le op_lt pe_int (pv 4) (pe_callB (r := rLenL K) (id := "len") c_len (by rfl) T.z_len (by decide +kernel) (pa_cons (pe_ix (r := rIxT K) ix_tup (pv 0) pe_int (fun _ _ => rfl)) pa_nil))))))) (pss_one (ps_ret pe_non)) pss_nil)
      (pss_cons (ps_asg (pe_ix (r := rIxL K) ix_list (pe_ix (r := rIxT K) ix_tup (pv 0) pe_int (fun _ _ => rfl)) (pv 4) (fun _ _ => rfl)) (pg_tup (by rfl) (pgs_cons (pg_name (i := 5) sc__law_walked.nd rfl (by first | exact Or.inl rfl | exact Or.inr rfl)) (pgs_cons (pg_name (i := 6) sc__law_walked.nd rfl (by first | exact Or.inl rfl | exact Or.inr rfl)) pgs_nil))))
      (pss_cons (ps_if (PW.pt (pw_or (pt_cmpR op_in_seq (pv 6) (pv 3) (by rfl)) (pw_or1 (pt_cmpR (op_neE hr.units0) (pe_lc (own := [("_law_word", 7)]) (g := gName 7) rfl sc__law_walked.nd (pi_list (pv 5)) (blkOk_by (N := ["_law_lists", "_law_given", "_law_chain_here", "_law_found", "_law_step", "_law_left_here", "_law_right", "_law_word"]) (sc := defScope s__law_walked) (by decide +kernel)) (fun _ _ _ _ _ => pg_name (i := 7) sc__law_walked.nd rfl (by first | exact Or.inl rfl | exact Or.inr rfl)) (fun _ _ _ _ _ => (pts_one (pt_cmpR (r := rIn K true) (op_notInK K rfl) (pv 7) (pv 3) (by rfl)))) (fun _ _ _ _ _ => (pv 7))) (pe_lst pa_nil) (nomark _))))) (pss_one (ps_ret pe_non)) pss_nil)
      (pss_one (ps_expr (pe_bm PySem.F.plainAttrs_list PySem.F.slot_list_append PySem.F.type_list_append mt_append (pv 3) (pa_cons (pv 6) pa_nil))))))))
      (pss_one (ps_ret (pe_callB (SeS.cr_sortedSS rfl) (by rfl) T.z_sorted (by decide +kernel) (pa_cons (pe_callTy (SeS.cr_setS rfl) (by rfl) T.z_set (by decide +kernel) (pa_cons (pv 3) pa_nil)) pa_nil)))))), ?_⟩
  try simp only [nox_K, cx_K]
  have lT := hT.len
  have lS := inds_le R.n R.l
  have lf := sz.f
  wtm_at "rd"
  refine r_listA (.inl (SqL.of ha)) fun fl n_fl => ?_
  have nfl := n_fl
  generalize eq_fl : upd _ fl _ = H1
  have s_fl : Same _ H1 := eq_fl ▸ same_new n_fl
  have h_fl : H1 fl = some _ := eq_fl ▸ upd_same
  clear eq_fl
  have ha := s_fl _ _ ha
  have hs := s_fl _ _ hs
  wtm_at "rd"
  refine r_for (r_il ?_)
  wtm_at "rd"
  refine r_itl (SqL.of hs) ?_
  refine for_list (K := K) (a := s0) (xs := S.map natV) (fun i σ H' => ∃ (x4 x5 x6 x7 : Option V) (G : List Str), σ = [some (.ref t), some (.ref a), some (.ref s0), some (.ref fl), x4, x5, x6, x7] ∧ Same H H' ∧ H' fl = some (.lst (G.map V.str)) ∧ Deriv fs G (S.drop i) F ∧ G.length = g.length + i) ⟨_, _, _, _, g, rfl, s_fl, h_fl, R.d, rfl⟩ (fun i σ H' _ ⟨_, _, _, _, _, _, s, _⟩ => SqL.of (s _ _ ‹H s0 = _›)) ?_ ?_
  · rintro i v σ H2 hv ⟨x4, x5, x6, x7, G, rfl, s2, hfl, dv, lG⟩
    rw [List.getElem?_map] at hv
    obtain ⟨k, hk, rfl⟩ := Option.map_eq_some_iff.mp hv
    have hi := (List.getElem?_eq_some_iff.mp hk).1
    rw [List.drop_eq_getElem_cons hi, (List.getElem?_eq_some_iff.mp hk).2] at dv
    obtain ⟨f, hfk, n1, m1, dv⟩ := dv
    have kl := (List.getElem?_eq_some_iff.mp hfk).1
    have ht2 := s2 _ _ ht
    have hF2 := s2 _ _ hF
    have hkt : ts[k]? = some (ts[k]'(by omega)) := List.getElem?_eq_getElem _
    obtain ⟨f', hf', b, htb, hb⟩ := hT.get hkt
    rw [hfk] at hf'
    cases hf'
    generalize ts[k]'(by omega) = tk at hkt htb
    wtm_at "rd"
    refine ⟨k, rfl, ?_⟩
    wtm_at "rd"
    refine iteNT ?_
    unfold natV
    wtm_at "rd"
    refine r_ite (fun _ => ?_) (fun e => absurd (by omega) e)
    wtm_at "rd"
    refine r_lenL (SqL.of hF2) ?_
    wtm_at "rd"
    refine r_iten (fun e => absurd (by rw [List.length_map]; omega) e) (fun _ => ?_)
    wtm_at "rd"
    refine r_ixL (v := .ref tk) (SqL.of hF2) (atI_nat (by rw [List.getElem?_map, hkt]; try rfl)) ?_
    refine r_gtup (SqT.of (s2 _ _ htb)) rfl ?_
    wtm_at "rd"
    refine r_inL (SqL.of hfl) rfl (flat_strsV _) ?_
    show ∃ k, V.bl (inV _ (G.map V.str)) = .bl k ∧ _
    rw [inV_strs]
    wtm_at "rd"
    refine r_ite (fun e => absurd e n1) (fun _ => ?_)
    have hb2 := s2 _ _ hb
    have lfj := sz.lf f (List.mem_of_getElem? hfk)
    wtm_at "rd"
    refine r_itl (SqL.of hb2) ?_
    refine lc_filt (fun v => !decide (strV v ∈ G)) (SqL.of hb2) (by rw [List.length_map]; omega) (fun x H' QT hx s' hQ => ?_) (fun x H' QQ hx s' hQ => ?_) fun D n_D => ?_
    · obtain ⟨z, _, rfl⟩ := List.mem_map.mp hx
      wtm_at "rd"
      refine r_inL (SqL.of (s' _ _ hfl)) rfl (flat_strsV _) ?_
      show ∃ k, V.bl (!inV _ (G.map V.str)) = .bl k ∧ _
      rw [inV_strs]
      exact ⟨_, rfl, hQ⟩
    · wtm_at "rd"
      exact hQ
    rw [filt_s (fun z => !decide (z ∈ G)) f.1 _ fun z _ => rfl]
    generalize eq_D : upd _ D _ = H3
    have s_D : Same _ H3 := eq_D ▸ same_new n_D
    have h_D : H3 D = some _ := eq_D ▸ upd_same
    clear eq_D
    have hfl := s_D _ _ hfl
    have s2 := s2.trans s_D
    wtm_at "rd"
    refine r_new rfl fun D2 n_D2 => ?_
    generalize eq_D2 : upd _ D2 _ = H4
    have s_D2 : Same _ H4 := eq_D2 ▸ same_new n_D2
    have h_D2 : H4 D2 = some _ := eq_D2 ▸ upd_same
    clear eq_D2
    have hfl := s_D2 _ _ hfl
    have h_D := s_D2 _ _ h_D
    have s2 := s2.trans s_D2
    refine r_neE (SqL.of h_D) (SqL.of h_D2) ?_
    rw [isE_all, sub_all.mpr m1]
    wtm_at "rd"
    refine iteNT ?_
    wtm_at "rd"
    refine r_tyL (SqL.of hfl) ?_
    wtm_at "rd"
    refine r_app hfl (small1000 (by rw [List.length_map]; omega)) ?_
    wtm_at "rd"
    exact ⟨_, _, _, _, G ++ [f.2], rfl, fun b o e => (upd_ne (ne_of_none e nfl)).trans (s2 _ _ e), by rw [upd_same, List.map_append]; try rfl, dv, by rw [List.length_append, lG]; try rfl⟩
  · rintro σ H2 ⟨x4, x5, x6, x7, G, rfl, s2, hfl, dv, lG⟩
    rw [List.length_map, List.drop_length] at dv
    rw [List.length_map] at lG
    cases (show F = G from dv)
    wtm_at "rd"
    refine ⟨fl, F, rfl, SqL.of hfl, by omega, fun e n_e => ?_⟩
    have nse := s2.free n_e
    generalize eq_e : upd _ e _ = H3
    have s_e : Same _ H3 := eq_e ▸ same_new n_e
    have h_e : H3 e = some _ := eq_e ▸ upd_same
    clear eq_e
    have s2 := s2.trans s_e
    wtm_at "rd"
    refine ⟨e, F, rfl, h_e, by omega, fun ys p hs hn hm n_p => ?_⟩
    exact q p ys _ (s2.free n_p) upd_same hs hn hm (s2.trans (same_new n_p))

end
theorem sorted_uq {α : Type} {R : α → α → Prop} (asym : ∀ x y, R x y → R y x → x = y) : ∀ {xs ys : List α}, xs.Pairwise R → ys.Pairwise R → xs.Nodup → ys.Nodup → (∀ z, z ∈ xs ↔ z ∈ ys) → xs = ys
  | [], [], _, _, _, _, _ => rfl
  | [], y :: ys, _, _, _, _, m => nomatch (m y).mpr List.mem_cons_self
  | x :: xs, [], _, _, _, _, m => nomatch (m x).mp List.mem_cons_self
  | x :: xs, y :: ys, h1, h2, n1, n2, m => by
    have e : x = y := by
      rcases List.mem_cons.mp ((m x).mp List.mem_cons_self) with e | hx
      · exact e
      rcases List.mem_cons.mp ((m y).mpr List.mem_cons_self) with e | hy
      · exact e.symm
      exact asym _ _ (List.rel_of_pairwise_cons h1 hy) (List.rel_of_pairwise_cons h2 hx)
    subst e
    rw [List.nodup_cons] at n1 n2
    rw [sorted_uq asym (List.Pairwise.of_cons h1) (List.Pairwise.of_cons h2) n1.2 n2.2 fun z => ⟨fun hz => (List.mem_cons.mp ((m z).mp (List.mem_cons_of_mem _ hz))).resolve_left (fun e => n1.1 (e ▸ hz)), fun hz => (List.mem_cons.mp ((m z).mpr (List.mem_cons_of_mem _ hz))).resolve_left (fun e => n2.1 (e ▸ hz))⟩]
section
variable {σ : L2.St} {H : Hp} {Q : VK} {te : TE} {tt : TT} {K : PySem.W.Frag} {a : Addr} {xs : List V}
theorem lc_selL {n : Nat} (f : Nat → Bool) (y : Nat → V) (hS : H a = some (.lst xs)) (hz : xs.length ≤ 1000) (ht : ∀ (i : Nat) (x : V) (H' : Hp) (QT : Bool → Hp → Prop), xs[i]? = some x → Same H H' → (∀ H'', Same H' H'' → QT (f i) H'') → tt ((wipe σ [n]).set n (some x)) H' QT)
    (he : ∀ (i : Nat) (x : V) (H' : Hp) (QQ : VK), xs[i]? = some x → Same H H' → (∀ H'', Same H' H'' → QQ (y i) H'') → te ((wipe σ [n]).set n (some x)) H' QQ) (hq : ∀ D H', H D = none → H' D = some (.lst (((List.range xs.length).filter f).map y)) → Same H H' → Q (.ref D) H') : lcGo (Itl K a) (gName n) tt te [n] σ Q H := by
  intro D hD
  refine lc_list (K := K) (a := a) (xs := xs) (fun i H' => H' D = some (.lst (((List.range i).filter f).map y)) ∧ Same H H') ⟨upd_same, same_new hD⟩ (fun i H' _ e => SqL.of (e.2 _ _ hS)) ?_ ?_
  · rintro i x H' hx ⟨h1, s1⟩
    have il := (List.getElem?_eq_some_iff.mp hx).1
    refine ⟨wipe1, ht i x _ _ hx s1 fun H2 s2 => ?_⟩
    have h2 := s2 _ _ h1
    have s12 := s1.trans s2
    have er : (List.range (i + 1)).filter f = (List.range i).filter f ++ (if f i = true then [i] else []) := by
      rw [List.range_succ, List.filter_append, List.filter_cons]
      rfl
    cases hf : f i with
    | true =>
      refine he i x _ _ hx s12 fun H3 s3 => ⟨_, s3 _ _ h2, ?_, ?_, ?_⟩
      · rw [List.length_map]
        refine small1000 (Nat.le_trans (List.length_filter_le _ _) ?_)
        rw [List.length_range]
        omega
      · rw [upd_same, er, if_pos hf, List.map_append]
        rfl
      · exact fun b o e => (upd_ne (ne_of_none e hD)).trans (s3 _ _ (s12 _ _ e))
    | false =>
      refine ⟨?_, s12⟩
      rw [er, if_neg (by rw [hf]; exact Bool.false_ne_true), List.append_nil]
      exact h2
  · rintro H' ⟨h1, s1⟩
    exact hq D H' hD h1 s1
end
theorem sel_map {α β : Type} (f : α → Bool) (y : α → β) (d : α) : ∀ (l : List α), ((List.range l.length).filter fun i => f (l.getD i d)).map (fun i => y (l.getD i d)) = (l.filter f).map y := by
  intro l
  have h : (List.range l.length).map (fun i => l.getD i d) = l := by
    refine List.ext_getElem? fun i => ?_
    rw [List.getElem?_map]
    by_cases c : i < l.length
    · rw [List.getElem?_range c, List.getElem?_eq_getElem c]
      show some (l.getD i d) = _
      rw [List.getD_eq_getElem?_getD, List.getElem?_eq_getElem c]
      rfl
    · rw [List.getElem?_eq_none (by rw [List.length_range]; omega), List.getElem?_eq_none (by omega)]
      rfl
  have e := congrArg (fun l => (l.filter f).map y) h
  rw [List.filter_map, List.map_map] at e
  exact e
theorem sel_empty {α : Type} (g : α → Bool) (d : α) (l : List α) (y : Nat → V) : (((List.range l.length).filter fun i => g (l.getD i d)).map y).isEmpty = !l.any g := by
  have e := congrArg List.length (sel_map g (fun x => x) d l)
  rw [List.length_map, List.map_id'] at e
  have h1 : ∀ X : List V, X.isEmpty = decide (X.length = 0) := fun X => by cases X <;> simp
  rw [h1, List.length_map, e]
  cases h : l.any g with
  | false =>
    have z : l.filter g = [] := List.filter_eq_nil_iff.mpr fun x hx gx => by
      have := List.any_eq_true.mpr ⟨x, hx, gx⟩
      rw [h] at this
      cases this
    rw [z]
    rfl
  | true =>
    obtain ⟨x, hx, gx⟩ := List.any_eq_true.mp h
    have := List.length_pos_of_mem (List.mem_filter.mpr ⟨hx, gx⟩)
    exact decide_eq_false (by omega)
theorem getD_at {α : Type} {l : List α} {i : Nat} {x d : α} (h : l[i]? = some x) : l.getD i d = x := by rw [List.getD_eq_getElem?_getD, h]; try rfl

theorem op_eqEK {X : Cx} (K : PySem.W.Frag) (hK : X.K = K) (hu : X.A.units < cLine) : OpR X (compareOp .Eq) (rEqE K) := by subst hK; exact op_eqE hu
theorem r_eqLL {K : PySem.W.Frag} {H : Hp} {Q : VK} {a b : Addr} {vs ws : List V} (h1 : SqL K H a vs) (h2 : SqL K H b ws) (e1 : ∀ v ∈ vs, eqD v) (e2 : ∀ v ∈ ws, eqD v) (k : ∀ p ∈ vs.zip ws, sameKind p.1 p.2 = true) (q : Q (.bl (decide (vs = ws))) H) : rEqD K (.ref a) (.ref b) H Q := by
  refine ⟨lstD vs, lstD ws, .lst h1 (dpAll_vD e1), .lst h2 (dpAll_vD e2), shaped_lst e1, shaped_lst e2, ?_⟩
  show Q (.bl (PyData.eqvAll (vs.map vD) (ws.map vD))) H
  rw [eqv_all e1 e2 k]
  exact q
theorem pe_bmK {X : Cx} (K : PySem.W.Frag) (hK : X.K = K) {T name id : String} {r : V → List V → Hp → VK → Prop} {o e : Expr} {es : List Expr} {to : TE} {t : TA} {apos cpos : Pos} (pa : PlainAttrs T) (slot : Slot T name id) (hty : typeOf (.builtin id) = pure (.type "method_descriptor")) (hm : MtR X id r) (ho : PE X o to) (ha : PA X (e :: es) t)
    (hbase : attributeBase o name X.env (eval o X.env) = eval o X.env := by rfl)
    (hfew : ((backTo cpos (starEach (e :: es) X.env)).all (fun x => !x.1) && (backToKw cpos (keywordEach [] X.env)).all (fun x => x.1.isSome) && decide ((e :: es).length + ([] : List Keyword).length + (if ([] : List Keyword).isEmpty then 0 else 1) < 30)) = true := by rfl)
    (hline : (apos.endLine == cpos.line) = true := by rfl) (hs : starEach (e :: es) X.env = (false, eval e X.env) :: starEach es X.env := by rfl) (hplain : (backTo cpos (starEach es X.env)).any (fun q => q.1) = false := by rfl) :
    PE X (.Call (.Attribute o name apos) (e :: es) [] cpos) (tBM K T r to t) := hK ▸ pe_bm pa slot hty hm ho ha hbase hfew hline hs hplain
theorem r_callS {sp : Sp} {E : L2.St → XK} {t : TA} {σ : L2.St} {H : Hp} {Q : VK} (h : t σ H fun vs H1 => sp vs H1 Q (E σ)) : tCallS sp E t σ H Q := h
theorem sqt_extD {K : PySem.W.Frag} {H H' : Hp} {d c r a : Addr} {xs : List V} (D : Drw H d c r) (E : Ext d r H H') (h : SqT K H a xs) : SqT K H' a xs := by
  rcases h with (h | ⟨o, h⟩) | h
  · exact .inl (.inl (E.keep D h fun _ z => nomatch z))
  · exact .inl (.inr ⟨o, E.keep D h fun _ z => nomatch z⟩)
  · exact .inr h
theorem SchAt.extD {K : PySem.W.Frag} {CC CS : Addr} {H H' : Hp} {d c r q : Addr} {sc : Sch} (h : SchAt K CC CS H q sc) (D : Drw H d c r) (E : Ext d r H H') : SchAt K CC CS H' q sc := by
  obtain ⟨dy, tS, tP, tV, tM, as, h0, h1, h2, h3, h4, h5⟩ := h
  exact ⟨dy, tS, tP, tV, tM, as, E.keep D h0 (fun _ z => nomatch z), sqt_extD D E h1, h2.imp fun _ _ ⟨dz, z⟩ => ⟨dz, E.keep D z (fun _ y => nomatch y)⟩, sqt_extD D E h3, sqt_extD D E h4, sqt_extD D E h5⟩
theorem FaAt.ext {K : PySem.W.Frag} {CF CC CS : Addr} {H H' : Hp} {d c r p : Addr} {sc : Sch} {us : List (List Str)} {fs : List Fx} (h : FaAt K CF CC CS H p sc us fs) (D : Drw H d c r) (E : Ext d r H H') : FaAt K CF CC CS H' p sc us fs := by
  obtain ⟨dx, q, aU, aF, h0, h1, h2, h3⟩ := h
  exact ⟨dx, q, aU, aF, E.keep D h0 (fun _ z => nomatch z), h1.extD D E, h2.ext D E, h3.ext D E⟩
theorem sortedS_pw : ∀ {ys : List Str}, sortedS ys = true → ys.Pairwise MnS.leS
  | [], _ => List.Pairwise.nil
  | [x], _ => List.pairwise_singleton _ _
  | x :: y :: r, h => by
    have k : (!ltCps y.cps.toList x.cps.toList && risingS y r) = true := h
    exact List.Pairwise.cons (MnS.rising_head x (y :: r) h) (sortedS_pw (ys := y :: r) (Bool.and_eq_true_iff.mp k).2)
theorem Deriv.mem {fs : List Fx} : ∀ {S : List Nat} {g F : List Str}, Deriv fs g S F → ∀ z ∈ F, z ∈ g ∨ ∃ f ∈ fs, f.2 = z
  | [], g, F, d, z, hz => by
    cases (show F = g from d)
    exact .inl hz
  | j :: S, g, F, ⟨f', h1, h2, h3, d⟩, z, hz => by
    rcases Deriv.mem d z hz with y | y
    · rcases List.mem_append.mp y with y | y
      · exact .inl y
      · exact .inr ⟨f', List.mem_of_getElem? h1, (List.mem_singleton.mp y).symm⟩
    · exact .inr y
theorem nat_eqD (S : List Nat) : ∀ v ∈ S.map natV, eqD v := fun v hv => by
  obtain ⟨i, _, rfl⟩ := List.mem_map.mp hv
  exact True.intro
theorem nat_kind (S R : List Nat) : ∀ p ∈ (S.map natV).zip (R.map natV), sameKind p.1 p.2 = true := fun p hp => by
  obtain ⟨h1, h2⟩ := List.of_mem_zip (show (p.1, p.2) ∈ _ from hp)
  obtain ⟨w, _, e1⟩ := List.mem_map.mp h1
  obtain ⟨z, _, e2⟩ := List.mem_map.mp h2
  rw [← e1, ← e2]
  rfl
def spRefused (K : PySem.W.Frag) (CF CC CS : Addr) : Sp := fun vs H Q _ => ∃ (p a : Addr) (z : Str) (sc : Sch) (us : List (List Str)) (fs : List Fx) (g : List Str), vs = [.ref p, .ref a, .str z] ∧ FaAt K CF CC CS H p sc us fs ∧ sc.good ∧ FxSz us fs ∧ H a = some (.lst (g.map V.str)) ∧ g.length ≤ 4 ∧ knownF sc g = some z ∧ isNameB z = true ∧ ∀ H', Same H H' → Q (.bl true) H'
def spAsked (K : PySem.W.Frag) (CF CC CS : Addr) : Sp := fun vs H Q _ => ∃ (d c r p f t a : Addr) (sc : Sch) (us : List (List Str)) (fs : List Fx) (g : List Str), vs = [.ref d, .ref p, .ref f, .ref t, .ref a] ∧ Drw H d c r ∧ SpecAt H p sc ∧ sc.good ∧ FaAt K CF CC CS H f sc us fs ∧ LstAt H t us fs ∧ LstOk sc us fs ∧ H a = some (.lst (g.map V.str)) ∧ g.length ≤ 4 ∧ (∀ z ∈ g, z ∈ sc.cols) ∧
  ∀ H', Drw H' d c r → Ext d r H H' → Q (.bl true) H'
section
variable {P : Program} {w : World} {K : PySem.W.Frag} {mg : Str → Option Value} {base : Heap}
theorem ok__law_refused (T : Txt K mg) : FnOk P w K mg base CX0 10 T.f__law_refused T.d__law_refused ["_law_facts_here", "_law_given", "_law_strange"] (spRefused K T.C_Facts T.C_Scheme T.C_Sort) := by
  refine T.F__law_refused.ok sc__law_refused (fun vs H Q E h => ?_) (fun cdv A outer s H vs Q E hr h => ?_)
  · obtain ⟨p, a, z, sc, us, fs, g, rfl, _⟩ := h
    rfl
  obtain ⟨p, a, z, sc, us, fs, g, rfl, o, hg, sz, ha, lg, hk, wz, q⟩ := h
  refine ⟨_, (pss_cons (ps_set (i := 3) sc__law_refused.nd rfl (by first | exact Or.inl rfl | exact Or.inr rfl) (pe_lst pa_nil))
      (pss_cons (ps_for PassesOwn.never rfl (pi_range1 (by rfl) T.z_range (pa_cons pe_int pa_nil)) (pg_name (i := 4) sc__law_refused.nd rfl (by first | exact Or.inl rfl | exact Or.inr rfl)) (pss_one (ps_try_as (i := 5) rfl rfl sc__law_refused.nd rfl rfl ⟨rfl, by decide, Or.inl T.g_UnknownColumn⟩ takes0 (fun W pn xe tk _ => (pss_one (ps_expr (pe_callS (ok__law_ask T) (hr.mono (by decide)) (by rfl) T.g__law_ask T.F__law_ask.kp T.b__law_ask (fun σ => passAt tk σ) (pa_cons (pv 0) (pa_cons (pv 4) (pa_cons (pv 1) pa_nil))))))) (fun a oe cls d pn hz hf => (pss_one (ps_expr (pe_bmK K rfl PySem.F.plainAttrs_list PySem.F.slot_list_append PySem.F.type_list_append mt_append (pv 3) (pa_cons (pe_xf T.xf_UnknownColumn T.nf_UnknownColumn_name hz hf (pv 5)) pa_nil))))))))
      (pss_one (ps_ret (pe_cmpR (r := rEqD K) (op_eqD hr.units) (pv 3) (pe_lst (pa_cons (pv 2) (pa_cons (pv 2) (pa_cons (pv 2) pa_nil)))) (nomark _)))))), ?_⟩
  try simp only [nox_K, cx_K]
  wtm_at "rd"
  refine r_new rfl fun l n_l => ?_
  have nl0 := n_l
  have ha0 := ha
  generalize eq_l : upd _ l _ = H1
  have s_l : Same _ H1 := eq_l ▸ same_new n_l
  have h_l : H1 l = some _ := eq_l ▸ upd_same
  clear eq_l
  have s_l_ := s_l
  wtm_at "rd"
  refine r_for (r_rng1 ?_)
  wtm_at "rd"
  refine r_upto (by decide) (by decide) ?_
  refine for_range (tb := fun D σ H => tDrop (tCallS (spAsk K T.C_Facts T.C_Scheme T.C_Sort T.C_UnknownColumn) (WE (wAs K (.ref T.C_UnknownColumn) 5 (fun a cls d => tDrop (tBM K "list" rAppend (tVar 3) (tCons (tXf a cls d T.C_UnknownColumn "name" (tVar 5)) tNil))) (fun _ _ _ _ => False) D)) (tCons (tVar 0) (tCons (tVar 4) (tCons (tVar 1) tNil)))) D σ H) (fun i σ H' => ∃ (x4 x5 : Option V), σ = [some (.ref p), some (.ref a), some (.str z), some (.ref l), x4, x5] ∧ Same H H' ∧ H' l = some (.lst ((List.replicate i z).map V.str))) ⟨_, _, rfl, s_l, h_l⟩ ?_ ?_
  · rintro i σ H2 hi ⟨x4, x5, rfl, s2, hl⟩
    wtm_at "rd"
    refine r_callS ?_
    wtm_at "rd"
    refine ⟨p, a, _, sc, us, fs, g, rfl, o.same s2, hg, sz, s2 _ _ ha0, lg, fun z' hz d H3 nd hd s3 => ?_, fun hn => (by rw [hk] at hn; cases hn)⟩
    rw [hk] at hz
    cases hz
    refine ⟨true, T.em_UnknownColumn_UnknownColumn, fun _ b nb => ?_, fun z => nomatch z⟩
    have hl3 := s3 _ _ hl
    wtm_at "rd"
    refine r_tyL (SqL.of hl3) ?_
    wtm_at "rd"
    refine ⟨rfl, rfl, d, _, _, rfl, hd, rfl, ?_⟩
    wtm_at "rd"
    refine r_app hl3 (small1000 (by rw [List.length_map, List.length_replicate]; omega)) ?_
    refine ⟨_, _, rfl, fun b o e => (upd_ne (ne_of_none e nl0)).trans (s3 _ _ (s2 _ _ e)), ?_⟩
    rw [upd_same, List.replicate_succ', List.map_append]
    rfl
  · rintro σ H2 ⟨x4, x5, rfl, s2, hl⟩
    wtm_at "rd"
    refine r_new rfl fun m n_m => ?_
    generalize eq_m : upd _ m _ = H3
    have s_m : Same _ H3 := eq_m ▸ same_new n_m
    have h_m : H3 m = some _ := eq_m ▸ upd_same
    clear eq_m
    have hl := s_m _ _ hl
    have s2 := s2.trans s_m
    have e3 : ∀ v ∈ ([z, z, z].map V.str), eqD v := strs_eqD (ws := [z, z, z]) fun y hy => by
      simp only [List.mem_cons, List.mem_nil_iff, or_false, or_self] at hy
      rw [hy]
      exact wz
    refine r_eqLL (vs := [z, z, z].map V.str) (ws := [z, z, z].map V.str) (SqL.of hl) (SqL.of h_m) e3 e3 strs_kind ?_
    rw [decide_eq_true rfl]
    exact q _ s2
theorem ok__law_asked_right (T : Txt K mg) : FnOk P w K mg base CX0 10 T.f__law_asked_right T.d__law_asked_right ["_law_draws", "_law_spec_here", "_law_facts_here", "_law_lists", "_law_given"] (spAsked K T.C_Facts T.C_Scheme T.C_Sort) := by
  refine T.F__law_asked_right.ok sc__law_asked_right (fun vs H Q E h => ?_) (fun cdv A outer s H vs Q E hr h => ?_)
  · obtain ⟨d, c, r, p, f, t, a, sc, us, fs, g, rfl, _⟩ := h
    rfl
  obtain ⟨d, c, r, p, f, t, a, sc, us, fs, g, rfl, D, o, hg, oF, hl, ho, ha, lg, hk, q⟩ := h
  refine ⟨_, (pss_cons (ps_set (i := 5) sc__law_asked_right.nd rfl (by first | exact Or.inl rfl | exact Or.inr rfl) (pe_call (ok__law_closed T) (hr.mono (by decide)) (by rfl) T.g__law_closed T.F__law_closed.kp T.b__law_closed .nil pass0 (pa_cons (pv 3) (pa_cons (pv 4) pa_nil))))
      (pss_cons (ps_setLc (i := 6) (own := [("_law_word", 12)]) (g := gName 12) rfl sc__law_asked_right.nd rfl rfl (sw_true rfl rfl rfl (by decide +kernel)) (pi_list (pe_call (ok__law_columns T) (hr.mono (by decide)) (by rfl) T.g__law_columns T.F__law_columns.kp T.b__law_columns .nil pass0 (pa_cons (pv 1) pa_nil))) (blkOk_by (N := ["_law_draws", "_law_spec_here", "_law_facts_here", "_law_lists", "_law_given", "_law_closed_here", "_law_due", "_law_twins", "_law_first", "_law_which", "_law_told", "_law_kept", "_law_word", "_law_one"]) (sc := defScope s__law_asked_right) (by decide +kernel)) (fun _ _ _ _ _ => pg_name (i := 12) sc__law_asked_right.nd rfl (by first | exact Or.inl rfl | exact Or.inr rfl)) (fun _ _ _ _ _ => (pts_one (pt_cmpR (r := rIn K false) (op_inK K rfl) (pv 12) (pv 5) (by rfl)))) (fun _ _ _ _ _ => (pv 12)))
      (pss_cons (ps_setLc (i := 7) (own := [("_law_one", 13)]) (g := gName 13) rfl sc__law_asked_right.nd rfl rfl (sw_true rfl rfl rfl (by decide +kernel)) (pi_list (pe_ix (r := rIxT K) ix_tup (pv 3) pe_int (fun _ _ => rfl))) (blkOk_by (N := ["_law_draws", "_law_spec_here", "_law_facts_here", "_law_lists", "_law_given", "_law_closed_here", "_law_due", "_law_twins", "_law_first", "_law_which", "_law_told", "_law_kept", "_law_word", "_law_one"]) (sc := defScope s__law_asked_right) (by decide +kernel)) (fun _ _ _ _ _ => pg_name (i := 13) sc__law_asked_right.nd rfl (by first | exact Or.inl rfl | exact Or.inr rfl)) (fun _ _ _ _ _ => (pts_one (pt_cmpR (r := rEqE K) (op_eqEK K rfl hr.units0) (pe_lc (own := [("_law_word", 12)]) (g := gName 12) rfl sc__law_asked_right.nd (pi_listK (K := K) (pv 13)) (blkOk_by (by kernel_rfl)) (fun _ _ _ _ _ => pg_name (i := 12) sc__law_asked_right.nd rfl (by first | exact Or.inl rfl | exact Or.inr rfl)) (fun _ _ _ _ _ => (pts_one (pt_cmpR (r := rIn K true) (op_notInK K rfl) (pv 12) (pv 5) (by rfl)))) (fun _ _ _ _ _ => (pv 12))) (pe_lst pa_nil) (nomark _)))) (fun _ _ _ _ _ => (pv 13)))
      (pss_cons (ps_set (i := 8) sc__law_asked_right.nd rfl (by first | exact Or.inl rfl | exact Or.inr rfl) (pe_call (ok__law_draw T) (hr.mono (by decide)) (by rfl) T.g__law_draw T.F__law_draw.kp T.b__law_draw .nil pass0 (pa_cons (pv 0) (pa_cons pe_int pa_nil))))
      (pss_cons (ps_for PassesOwn.never rfl (pi_list (pe_lst (pa_cons (pv 8) (pa_cons (pe_op op_mod (pe_callTy c_int1 (by rfl) T.z_int (by decide +kernel) (pa_cons (pe_op op_add (pv 8) pe_int) pa_nil)) pe_int) (pa_cons (pe_op op_mod (pe_callTy c_int1 (by rfl) T.z_int (by decide +kernel) (pa_cons (pe_op op_add (pv 8) pe_int) pa_nil)) pe_int) (pa_cons (pv 8) pa_nil)))))) (pg_name (i := 9) sc__law_asked_right.nd rfl (by first | exact Or.inl rfl | exact Or.inr rfl)) (pss_cons (ps_set (i := 10) sc__law_asked_right.nd rfl (by first | exact Or.inl rfl | exact Or.inr rfl) (pe_call (ok__law_ask T) (hr.mono (by decide)) (by rfl) T.g__law_ask T.F__law_ask.kp T.b__law_ask .nil passL (pa_cons (pv 2) (pa_cons (pv 9) (pa_cons (pv 4) pa_nil)))))
      (pss_cons (ps_if (PW.pt (pw_and (pt_cmpR op_eq (pv 9) pe_int (nomark _)) (pw_and1 (PW.pt (pw_or (pt_cmpR (op_neD hr.units) (pv 10) (pv 6) (nomark _)) (pw_or1 (pt_not (pt_val (pe_callB call_isi (by rfl) T.z_isinstance (by decide +kernel) (pa_cons (pv 10) (pa_cons (pe_bltn (v := .ty "list") (u := .type "list") (by rfl) T.z_list (by decide +kernel) rfl) pa_nil))))))))))) (pss_one (ps_ret pe_bl)) pss_nil)
      (pss_cons (ps_if (PW.pt (pw_and (pt_cmpR op_eq (pv 9) pe_int (nomark _)) (pw_and1 (pt_not (pt_val (pe_callB call_isi (by rfl) T.z_isinstance (by decide +kernel) (pa_cons (pv 10) (pa_cons (pe_bltn (v := .ty "list") (u := .type "list") (by rfl) T.z_list (by decide +kernel) rfl) pa_nil)))))))) (pss_one (ps_ret pe_bl)) pss_nil)
      (pss_cons (ps_if (PW.pt (pw_and (pt_cmpR op_eq (pv 9) pe_int (nomark _)) (pw_and1 (pt_cmpR (op_neD hr.units) (pe_call (ok__law_walked T) (hr.mono (by decide)) (by rfl) T.g__law_walked T.F__law_walked.kp T.b__law_walked .nil pass0 (pa_cons (pv 3) (pa_cons (pv 4) (pa_cons (pv 10) pa_nil)))) (pe_callB (SeS.cr_sortedSS rfl) (by rfl) T.z_sorted (by decide +kernel) (pa_cons (pe_callTy (SeS.cr_setS rfl) (by rfl) T.z_set (by decide +kernel) (pa_cons (pv 5) pa_nil)) pa_nil)) (nomark _))))) (pss_one (ps_ret pe_bl)) pss_nil)
      (pss_cons (ps_if (PW.pt (pw_and (pt_cmpR op_eq (pv 9) pe_int (nomark _)) (pw_and1 (PW.pt (pw_or (pt_cmpR op_ne (pv 10) (pe_cmpR (op_neE hr.units0) (pv 7) (pe_lst pa_nil) (nomark _)) (nomark _)) (pw_or1 (pt_not (pt_val (pe_callB call_isi (by rfl) T.z_isinstance (by decide +kernel) (pa_cons (pv 10) (pa_cons (pe_bltn (v := .ty "bool") (u := .type "bool") (by rfl) T.z_bool (by decide +kernel) rfl) pa_nil))))))))))) (pss_one (ps_ret pe_bl)) pss_nil)
      (pss_one (ps_if (pt_cmpR op_lt (pv 9) pe_int (nomark _)) (pss_cons (ps_set (i := 11) sc__law_asked_right.nd rfl (by first | exact Or.inl rfl | exact Or.inr rfl) (pe_callTy c_listA (by rfl) T.z_list (by decide +kernel) (pa_cons (pv 10) pa_nil)))
      (pss_cons (ps_expr (pe_bm PySem.F.plainAttrs_list PySem.F.slot_list_append PySem.F.type_list_append mt_append (pv 10) (pa_cons pe_str pa_nil)))
      (pss_one (ps_if (pt_cmpR (op_neD hr.units) (pe_call (ok__law_ask T) (hr.mono (by decide)) (by rfl) T.g__law_ask T.F__law_ask.kp T.b__law_ask .nil passL (pa_cons (pv 2) (pa_cons (pv 9) (pa_cons (pv 4) pa_nil)))) (pv 11) (nomark _)) (pss_one (ps_ret pe_bl)) pss_nil)))) pss_nil))))))))
      (pss_one (ps_ret pe_bl))))))), ?_⟩
  try simp only [nox_K, cx_K]
  obtain ⟨aU, aF, ht, ⟨bs, hU, hu⟩, hX⟩ := id hl
  have lb := hu.len
  have lus := ho.lu
  have lcs := cols_len hg
  have kn := known_none hk
  wtm_at "rd"
  refine ⟨t, a, us, fs, g, rfl, hl, ho.sz, ho.lf, ha, lg, fun cl G S0 H1 R0 lG ncl hcl s1 => ?_⟩
  wtm_at "rd"
  refine ⟨p, sc, rfl, o.same s1, hg, fun co H2 n_co s2 hco => ?_⟩
  have hcl := s2 _ _ hcl
  have s2 := s1.trans s2
  refine r_itl (SqL.of hco) ?_
  refine lc_filt (fun v => decide (strV v ∈ G)) (SqL.of hco) (by rw [List.length_map]; omega) (fun x H' QT hx s' hQ => ?_) (fun x H' QQ hx s' hQ => ?_) fun du n_du => ?_
  · obtain ⟨z, _, rfl⟩ := List.mem_map.mp hx
    wtm_at "rd"
    refine r_inL (SqL.of (s' _ _ hcl)) rfl (flat_strsV _) ?_
    show ∃ k, V.bl (inV _ (G.map V.str)) = .bl k ∧ _
    rw [inV_strs]
    exact ⟨_, rfl, hQ⟩
  · wtm_at "rd"
    exact hQ
  rw [filt_s (fun z => decide (z ∈ G)) sc.cols _ fun z _ => rfl]
  generalize eq_du : upd _ du _ = H3
  have s_du : Same _ H3 := eq_du ▸ same_new n_du
  have h_du : H3 du = some _ := eq_du ▸ upd_same
  clear eq_du
  have hcl := s_du _ _ hcl
  have s2 := s2.trans s_du
  have ht3 := s2 _ _ ht
  have hU3 := s2 _ _ hU
  have hu3 := hu.same s2
  wtm_at "rd"
  refine ⟨aU, rfl, ⟨_, SqL.of hU3⟩, ?_⟩
  refine lc_selL (fun i => (us.getD i []).all fun z => decide (z ∈ G)) (fun i => (bs.map V.ref).getD i .non) hU3 (by rw [List.length_map]; omega) (fun i x H' QT hx s' hQ => ?_) (fun i x H' QQ hx s' hQ => ?_) fun tw H4 ntw htw s4 => ?_
  · rw [List.getElem?_map] at hx
    obtain ⟨b, hb, rfl⟩ := Option.map_eq_some_iff.mp hx
    obtain ⟨u, hui, hbu⟩ := hu3.get hb
    rw [getD_at hui] at hQ
    have hbu := s' _ _ hbu
    have hcl := s' _ _ hcl
    have lu := (ho.u u (List.mem_of_getElem? hui)).l
    wtm_at "rd"
    refine r_itl (SqL.of hbu) ?_
    refine lc_filt (fun v => !decide (strV v ∈ G)) (SqL.of hbu) (by rw [List.length_map]; omega) (fun x H' QT hx s' hQ => ?_) (fun x H' QQ hx s' hQ => ?_) fun D1 n_D1 => ?_
    · obtain ⟨z, _, rfl⟩ := List.mem_map.mp hx
      wtm_at "rd"
      refine r_inL (SqL.of (s' _ _ hcl)) rfl (flat_strsV _) ?_
      show ∃ k, V.bl (!inV _ (G.map V.str)) = .bl k ∧ _
      rw [inV_strs]
      exact ⟨_, rfl, hQ⟩
    · wtm_at "rd"
      exact hQ
    rw [filt_s (fun z => !decide (z ∈ G)) u _ fun z _ => rfl]
    generalize eq_D1 : upd _ D1 _ = H5
    have s_D1 : Same _ H5 := eq_D1 ▸ same_new n_D1
    have h_D1 : H5 D1 = some _ := eq_D1 ▸ upd_same
    clear eq_D1
    have s5 := s_D1
    wtm_at "rd"
    refine r_new rfl fun D2 n_D2 => ?_
    generalize eq_D2 : upd _ D2 _ = H6
    have s_D2 : Same _ H6 := eq_D2 ▸ same_new n_D2
    have h_D2 : H6 D2 = some _ := eq_D2 ▸ upd_same
    clear eq_D2
    have h_D1 := s_D2 _ _ h_D1
    have s5 := s5.trans s_D2
    refine r_eqE (SqL.of h_D1) (SqL.of h_D2) ?_
    rw [isE_all]
    exact ⟨_, rfl, hQ _ s5⟩
  · have e : (bs.map V.ref).getD i .non = x := getD_at hx
    rw [e] at hQ
    wtm_at "rd"
    exact hQ _ (Same.refl _)
  have hcl := s4 _ _ hcl
  have hdu := s4 _ _ h_du
  have s4 := s2.trans s4
  have D4 := D.same s4
  wtm_at "rd"
  refine ⟨d, c, r, 3, rfl, D4, by decide, by decide, fun k H5 k0 k1 D5 E5 => ?_⟩
  have hcl := E5 _ _ hcl (strs_dr D4 hcl).1 (strs_dr D4 hcl).2
  have hdu := E5 _ _ hdu (strs_dr D4 hdu).1 (strs_dr D4 hdu).2
  have htwd := D.same s2
  have E5' := E5
  have E5 := (Ext.of s4).trans E5
  have oF5 := oF.ext D E5
  have hl5 := hl.ext D E5
  have ha5 := E5 _ _ ha (strs_dr D ha).1 (strs_dr D ha).2
  try dsimp only
  wtm_at "rd"
  have htw5 := E5' _ _ htw (htwd.ned ntw) (htwd.ner ntw)
  have twE : ∀ F : List Str, (∀ z, z ∈ F ↔ z ∈ G) → (!(((List.range us.length).filter fun i => (us.getD i []).all fun z => decide (z ∈ G)).map fun i => (bs.map V.ref).getD i .non).isEmpty) = us.any fun u => u.all fun z => decide (z ∈ F) := fun F hF => by
    rw [sel_empty (fun u : List Str => u.all fun z => decide (z ∈ G)) [] us, Bool.not_not]
    refine congrArg (fun f => us.any f) (funext fun u => congrArg (fun f => u.all f) (funext fun z => ?_))
    exact decide_eq_decide.mpr (hF z).symm
  refine r_for (r_il ?_)
  wtm_at "rd"
  refine r_mod (j := 3) (by decide) fun ka a0 a1 _ => ?_
  wtm_at "rd"
  refine r_mod (j := 3) (by decide) fun kb b0 b1 _ => ?_
  wtm_at "rd"
  refine r_new rfl fun wl n_wl => ?_
  generalize eq_wl : upd _ wl _ = H6
  have s_wl : Same _ H6 := eq_wl ▸ same_new n_wl
  have h_wl : H6 wl = some _ := eq_wl ▸ upd_same
  clear eq_wl
  have hcl := s_wl _ _ hcl
  have hdu := s_wl _ _ hdu
  have htw5 := s_wl _ _ htw5
  have ha5 := s_wl _ _ ha5
  have D5 := D5.same s_wl
  have E5 := E5.trans (Ext.of s_wl)
  have oF6 := oF5.same s_wl
  have hl6 := hl5.same s_wl
  refine r_itl (SqL.of h_wl) ?_
  have wk : ∀ (i : Nat) (v : V), ([V.int k, V.int ka, V.int kb, V.int k])[i]? = some v → v = V.int 0 ∨ v = V.int 1 ∨ v = V.int 2 := fun i v hv => by
    have hm := List.mem_of_getElem? hv
    have k3 : ∀ j : Int, 0 ≤ j → j < 3 → V.int j = V.int 0 ∨ V.int j = V.int 1 ∨ V.int j = V.int 2 := fun j j0 j1 => by
      rcases (show j = 0 ∨ j = 1 ∨ j = 2 by omega) with e | e | e
      · exact .inl (by rw [e])
      · exact .inr (.inl (by rw [e]))
      · exact .inr (.inr (by rw [e]))
    simp only [List.mem_cons, List.mem_nil_iff, or_false] at hm
    rcases hm with e | e | e | e
    · rw [e]
      exact k3 _ (by omega) (by omega)
    · rw [e]
      exact k3 _ (by omega) (by omega)
    · rw [e]
      exact k3 _ (by omega) (by omega)
    · rw [e]
      exact k3 _ (by omega) (by omega)
  refine for_list (K := K) (a := wl) (xs := [V.int k, V.int ka, V.int kb, V.int k]) (fun i σ H' => ∃ (x9 x10 x11 : Option V), σ = [some (.ref d), some (.ref p), some (.ref f), some (.ref t), some (.ref a), some (.ref cl), some (.ref du), some (.ref tw), some (.int k), x9, x10, x11, none, none] ∧ Same H6 H') ⟨_, _, _, rfl, Same.refl _⟩ (fun i σ H' _ ⟨_, _, _, _, s⟩ => SqL.of (s _ _ h_wl)) ?_ ?_
  · rintro i v σ H7 hv ⟨x9, x10, x11, rfl, s7⟩
    have oF7 := oF6.same s7
    have hl7 := hl6.same s7
    have ha7 := s7 _ _ ha5
    have hdu7 := s7 _ _ hdu
    rcases wk i v hv with rfl | rfl | rfl
    · wtm_at "rd"
      refine ⟨f, a, 0, sc, us, fs, g, rfl, oF7, hg, ho.sz, ha7, lg, fun z hz => (by rw [kn] at hz; cases hz), fun _ v H8 res s8 => ?_⟩
      obtain ⟨F, S, l, R, rfl, nl, hl8⟩ := (show ResClo sc us fs g H7 v H8 from res)
      wtm_at "rd"
      refine r_ite (fun _ => ?_) (fun e => absurd rfl e)
      wtm_at "rd"
      have hdu8 := s8 _ _ hdu7
      have eqF : ∀ F' : List Str, (∀ z, z ∈ F' ↔ z ∈ G) → (sc.cols.filter fun z => decide (z ∈ F')) = sc.cols.filter fun z => decide (z ∈ G) := fun F' h => List.filter_congr fun z _ => decide_eq_decide.mpr (h z)
      rw [eqF F (R.same R0)] at hl8
      have lfl := List.length_filter_le (fun z => decide (z ∈ G)) sc.cols
      have w : ∀ v ∈ (sc.cols.filter fun z => decide (z ∈ G)).map V.str, eqD v := strs_eqD fun y hy => hg.wcs y (List.mem_filter.mp hy).1
      refine r_neLL (SqL.of hl8) (SqL.of hdu8) w w strs_kind ?_
      rw [decide_eq_true rfl]
      wtm_at "rd"
      refine iteNT ?_
      wtm_at "rd"
      refine r_isi (.ty "list") (.base (.lst hl8)) kit_self ?_
      wtm_at "rd"
      refine iteNT ?_
      wtm_at "rd"
      refine r_ite (fun e => absurd e (by decide)) (fun _ => ?_)
      refine iteF ?_
      wtm_at "rd"
      refine r_ite (fun e => absurd e (by decide)) (fun _ => ?_)
      refine iteF ?_
      wtm_at "rd"
      refine r_ite (fun e => absurd e (by decide)) (fun _ => ?_)
      refine iteF ?_
      wtm_at "rd"
      refine r_ite (fun _ => ?_) (fun e => absurd (by decide) e)
      wtm_at "rd"
      refine r_listA (.inl (SqL.of hl8)) fun kp n_kp => ?_
      have lkp : l ≠ kp := ne_of_none hl8 n_kp
      have s9 := s8
      generalize eq_kp : upd _ kp _ = H9
      have s_kp : Same _ H9 := eq_kp ▸ same_new n_kp
      have h_kp : H9 kp = some _ := eq_kp ▸ upd_same
      clear eq_kp
      have hl8 := s_kp _ _ hl8
      have s9 := s9.trans s_kp
      wtm_at "rd"
      refine r_tyL (SqL.of hl8) ?_
      wtm_at "rd"
      refine r_app hl8 (small1000 (by rw [List.length_map]; omega)) ?_
      have s10 : Same H7 (upd H9 l (.lst (((sc.cols.filter fun z => decide (z ∈ G)).map V.str) ++ [.str "more"]))) := fun b o e => (upd_ne (ne_of_none e nl)).trans (s9 _ _ e)
      have hkp : (upd H9 l (.lst (((sc.cols.filter fun z => decide (z ∈ G)).map V.str) ++ [.str "more"]))) kp = some (.lst ((sc.cols.filter fun z => decide (z ∈ G)).map V.str)) := (upd_ne lkp.symm).trans h_kp
      generalize upd H9 l (.lst (((sc.cols.filter fun z => decide (z ∈ G)).map V.str) ++ [.str "more"])) = H10 at s10 hkp ⊢
      wtm_at "rd"
      refine ⟨f, a, 0, sc, us, fs, g, rfl, oF7.same s10, hg, ho.sz, s10 _ _ ha7, lg, fun z hz => (by rw [kn] at hz; cases hz), fun _ v2 H11 res2 s11 => ?_⟩
      obtain ⟨F2, S2, l2, R2, rfl, nl2, hl11⟩ := (show ResClo sc us fs g H10 v2 H11 from res2)
      rw [eqF F2 (R2.same R0)] at hl11
      wtm_at "rd"
      refine r_neLL (SqL.of hl11) (SqL.of (s11 _ _ hkp)) w w strs_kind ?_
      rw [decide_eq_true rfl]
      wtm_at "rd"
      refine iteNT ?_
      wtm_at "rd"
      exact ⟨_, _, _, rfl, s7.trans (s10.trans s11)⟩
    · wtm_at "rd"
      refine ⟨f, a, 1, sc, us, fs, g, rfl, oF7, hg, ho.sz, ha7, lg, fun z hz => (by rw [kn] at hz; cases hz), fun _ v H8 res s8 => ?_⟩
      obtain ⟨F, S, l, R, rn, rfl, nl, hl8⟩ := (show ResChn sc us fs g H7 v H8 from res)
      wtm_at "rd"
      refine r_ite (fun e => absurd e (by decide)) (fun _ => ?_)
      refine iteF ?_
      wtm_at "rd"
      refine r_ite (fun _ => ?_) (fun e => absurd rfl e)
      wtm_at "rd"
      have lS := inds_le R.n R.l
      have lfs := ho.lf
      refine r_isi (.ty "list") (.base (.lst hl8)) kit_self ?_
      wtm_at "rd"
      refine iteNT ?_
      wtm_at "rd"
      refine r_ite (fun _ => ?_) (fun e => absurd rfl e)
      wtm_at "rd"
      refine ⟨t, a, l, us, fs, g, F, S, rfl, hl7.same s8, ho.sz, s8 _ _ ha7, lg, hl8, R, fun wk1 ys H9 nw hw hs hn hm s9 => ?_⟩
      have hcl9 := s9 _ _ (s8 _ _ (s7 _ _ hcl))
      have hl8 := s9 _ _ hl8
      have s8 := s8.trans s9
      wtm_at "rd"
      refine ⟨cl, G, rfl, SqL.of hcl9, by omega, fun e n_e => ?_⟩
      generalize eq_e : upd _ e _ = H10
      have s_e : Same _ H10 := eq_e ▸ same_new n_e
      have h_e : H10 e = some _ := eq_e ▸ upd_same
      clear eq_e
      have hl8 := s_e _ _ hl8
      have hw := s_e _ _ hw
      have s8 := s8.trans s_e
      wtm_at "rd"
      refine ⟨e, G, rfl, h_e, by omega, fun ys2 p2 hs2 hn2 hm2 n_p2 => ?_⟩
      have ey : ys2 = ys := sorted_uq (fun x y a b => MnS.leS_anti a b) (sortedS_pw hs2) (sortedS_pw hs) hn2 hn fun z => (hm2 z).trans ((R0.same R z).trans (hm z).symm)
      subst ey
      generalize eq_p2 : upd _ p2 _ = H11
      have s_p2 : Same _ H11 := eq_p2 ▸ same_new n_p2
      have h_p2 : H11 p2 = some _ := eq_p2 ▸ upd_same
      clear eq_p2
      have hl8 := s_p2 _ _ hl8
      have hw := s_p2 _ _ hw
      have s8 := s8.trans s_p2
      have w : ∀ v ∈ ys2.map V.str, eqD v := strs_eqD fun y hy => by
        rcases R0.d.mem y ((hm2 y).mp hy) with z | ⟨f', hf', z⟩
        · exact hg.wcs y (hk y z)
        · exact z ▸ hg.wcs _ (ho.f f' hf').2
      refine r_neLL (SqL.of hw) (SqL.of h_p2) w w strs_kind ?_
      rw [decide_eq_true rfl]
      wtm_at "rd"
      refine iteNT ?_
      wtm_at "rd"
      refine r_ite (fun e => absurd e (by decide)) (fun _ => ?_)
      refine iteF ?_
      wtm_at "rd"
      refine r_ite (fun _ => ?_) (fun e => absurd (by decide) e)
      wtm_at "rd"
      refine r_listA (.inl (SqL.of hl8)) fun kp n_kp => ?_
      have lkp : l ≠ kp := ne_of_none hl8 n_kp
      have s9 := s8
      generalize eq_kp : upd _ kp _ = H9
      have s_kp : Same _ H9 := eq_kp ▸ same_new n_kp
      have h_kp : H9 kp = some _ := eq_kp ▸ upd_same
      clear eq_kp
      have hl8 := s_kp _ _ hl8
      have s9 := s9.trans s_kp
      wtm_at "rd"
      refine r_tyL (SqL.of hl8) ?_
      wtm_at "rd"
      refine r_app hl8 (small1000 (by rw [List.length_map]; omega)) ?_
      have s10 : Same H7 (upd H9 l (.lst ((S.map natV) ++ [.str "more"]))) := fun b o e => (upd_ne (ne_of_none e nl)).trans (s9 _ _ e)
      have hkp : (upd H9 l (.lst ((S.map natV) ++ [.str "more"]))) kp = some (.lst (S.map natV)) := (upd_ne lkp.symm).trans h_kp
      generalize upd H9 l (.lst ((S.map natV) ++ [.str "more"])) = H10 at s10 hkp ⊢
      wtm_at "rd"
      refine ⟨f, a, 1, sc, us, fs, g, rfl, oF7.same s10, hg, ho.sz, s10 _ _ ha7, lg, fun z hz => (by rw [kn] at hz; cases hz), fun _ v2 H11 res2 s11 => ?_⟩
      obtain ⟨F2, S2, l2, R2, rn2, rfl, nl2, hl11⟩ := (show ResChn sc us fs g H10 v2 H11 from res2)
      obtain ⟨_, eS⟩ := rn2.uniq rn
      subst eS
      wtm_at "rd"
      refine r_neLL (SqL.of hl11) (SqL.of (s11 _ _ hkp)) (nat_eqD _) (nat_eqD _) (nat_kind _ _) ?_
      rw [decide_eq_true rfl]
      wtm_at "rd"
      refine iteNT ?_
      wtm_at "rd"
      exact ⟨_, _, _, rfl, s7.trans (s10.trans s11)⟩
    · wtm_at "rd"
      refine ⟨f, a, 2, sc, us, fs, g, rfl, oF7, hg, ho.sz, ha7, lg, fun z hz => (by rw [kn] at hz; cases hz), fun _ v H8 res s8 => ?_⟩
      obtain ⟨F, S, R, rfl⟩ := (show ResTw sc us fs g H7 v H8 from res)
      wtm_at "rd"
      refine r_ite (fun e => absurd e (by decide)) (fun _ => ?_)
      refine iteF ?_
      wtm_at "rd"
      refine r_ite (fun e => absurd e (by decide)) (fun _ => ?_)
      refine iteF ?_
      wtm_at "rd"
      refine r_ite (fun e => absurd e (by decide)) (fun _ => ?_)
      refine iteF ?_
      wtm_at "rd"
      refine r_ite (fun _ => ?_) (fun e => absurd rfl e)
      wtm_at "rd"
      refine r_new rfl fun e0 n_e0 => ?_
      generalize eq_e0 : upd _ e0 _ = H9
      have s_e0 : Same _ H9 := eq_e0 ▸ same_new n_e0
      have h_e0 : H9 e0 = some _ := eq_e0 ▸ upd_same
      clear eq_e0
      have s8 := s8.trans s_e0
      have htw9 := s8 _ _ (s7 _ _ htw5)
      refine r_neE (SqL.of htw9) (SqL.of h_e0) ?_
      rw [List.length_map, lb, twE F (R.same R0)]
      wtm_at "rd"
      refine r_iten (fun c => absurd rfl c) (fun _ => ?_)
      wtm_at "rd"
      refine r_isi (.ty "bool") (.base (.bl _)) kit_self ?_
      wtm_at "rd"
      refine iteNT ?_
      wtm_at "rd"
      refine r_ite (fun e => absurd e (by decide)) (fun _ => ?_)
      wtm_at "rd"
      exact ⟨_, _, _, rfl, s7.trans s8⟩
  · rintro σ H7 ⟨x9, x10, x11, rfl, s7⟩
    wtm_at "rd"
    exact q H7 (D5.same s7) (E5.trans (Ext.of s7))

end

theorem LstOk.nil {sc : Sch} : LstOk sc [] [] := ⟨(fun _ h => nomatch h), (fun _ h => nomatch h), Nat.zero_le _, Nat.zero_le _⟩
theorem LstOk.us {sc : Sch} {us : List (List Str)} {fs : List Fx} (h : LstOk sc us fs) : LstOk sc us [] := ⟨h.u, (fun _ h => nomatch h), h.lu, Nat.zero_le _⟩
theorem LstOk.fs {sc : Sch} {us : List (List Str)} {fs : List Fx} (h : LstOk sc us fs) : LstOk sc [] fs := ⟨(fun _ h => nomatch h), h.f, Nat.zero_le _, h.lf⟩
theorem cut_pre {ws : List Str} {k : Nat} : cutV (ws.map V.str) none (some (k : Int)) = (ws.take k).map V.str := by
  unfold cutV
  rw [HT.sIx_none, HT.sIx_nat, List.length_map, List.drop_zero, Nat.sub_zero, List.map_take]
  rcases Nat.le_total k ws.length with h | h
  · rw [Nat.min_eq_left h]
  · rw [Nat.min_eq_right h, List.take_of_length_le (by rw [List.length_map]; exact Nat.le_refl _), List.take_of_length_le (by rw [List.length_map]; exact h)]
theorem cut_suf {ws : List Str} {k : Nat} (h : k ≤ ws.length) : cutV (ws.map V.str) (some (k : Int)) none = (ws.drop k).map V.str := by
  unfold cutV
  rw [HT.sIx_none, HT.sIx_nat, List.length_map, Nat.min_eq_left h, List.take_of_length_le (by rw [List.length_drop, List.length_map]; exact Nat.le_refl _), List.map_drop]
theorem strs_all {C : List Str} : ∀ {ss : List V}, (∀ x ∈ ss, ∃ z, x = V.str z ∧ z ∈ C) → ∃ u : List Str, ss = u.map V.str ∧ ∀ z ∈ u, z ∈ C
  | [], _ => ⟨[], rfl, fun _ h => nomatch h⟩
  | x :: ss, h => by
    obtain ⟨u, e, k⟩ := strs_all (ss := ss) fun y hy => h y (List.mem_cons_of_mem _ hy)
    obtain ⟨z, rfl, hz⟩ := h x List.mem_cons_self
    refine ⟨z :: u, by rw [e]; try rfl, fun y hy => ?_⟩
    rcases List.mem_cons.mp hy with rfl | hy
    · exact hz
    · exact k y hy
/-- what the law has made -/
structure W85 (K : PySem.W.Frag) (CF CC CS : Addr) (p t0 t1 f0 f1 a0 a1 ll fl al co : Addr) (sc : Sch) (us0 us1 : List (List Str)) (fs0 fs1 : List Fx) (g0 g1 : List Str) (H : Hp) : Prop where
  so : SpecAt H p sc
  l0 : LstAt H t0 us0 fs0
  l1 : LstAt H t1 us1 fs1
  o0 : FaAt K CF CC CS H f0 sc us0 fs0
  o1 : FaAt K CF CC CS H f1 sc us1 fs1
  b0 : H a0 = some (.lst (g0.map V.str))
  b1 : H a1 = some (.lst (g1.map V.str))
  ll_ : H ll = some (.lst [.ref t0, .ref t1])
  fl_ : H fl = some (.lst [.ref f0, .ref f1])
  al_ : H al = some (.lst [.ref a0, .ref a1])
  co_ : H co = some (.lst (sc.cols.map V.str))
section
variable {K : PySem.W.Frag} {CF CC CS : Addr} {p t0 t1 f0 f1 a0 a1 ll fl al co : Addr} {sc : Sch} {us0 us1 : List (List Str)} {fs0 fs1 : List Fx} {g0 g1 : List Str} {H H' : Hp}
theorem W85.same (h : W85 K CF CC CS p t0 t1 f0 f1 a0 a1 ll fl al co sc us0 us1 fs0 fs1 g0 g1 H) (s : Same H H') : W85 K CF CC CS p t0 t1 f0 f1 a0 a1 ll fl al co sc us0 us1 fs0 fs1 g0 g1 H' :=
  ⟨h.so.same s, h.l0.same s, h.l1.same s, h.o0.same s, h.o1.same s, s _ _ h.b0, s _ _ h.b1, s _ _ h.ll_, s _ _ h.fl_, s _ _ h.al_, s _ _ h.co_⟩
theorem W85.ext {d c r : Addr} (h : W85 K CF CC CS p t0 t1 f0 f1 a0 a1 ll fl al co sc us0 us1 fs0 fs1 g0 g1 H) (D : Drw H d c r) (e : Ext d r H H') : W85 K CF CC CS p t0 t1 f0 f1 a0 a1 ll fl al co sc us0 us1 fs0 fs1 g0 g1 H' := by
  have st : ∀ {a : Addr} {u : List Str}, H a = some (.lst (u.map V.str)) → H' a = some (.lst (u.map V.str)) := fun {a u} h => e _ _ h (strs_dr D h).1 (strs_dr D h).2
  have rf : ∀ {a x y : Addr}, H a = some (.lst [.ref x, .ref y]) → H' a = some (.lst [.ref x, .ref y]) := fun {a x y} h => e _ _ h (refs_drc (ts := [x, y]) D h).1 (refs_drc (ts := [x, y]) D h).2.1
  exact ⟨h.so.ext D e, h.l0.ext D e, h.l1.ext D e, h.o0.ext D e, h.o1.ext D e, st h.b0, st h.b1, rf h.ll_, rf h.fl_, rf h.al_, st h.co_⟩
end

/-- the three Facts that the law makes by hand -/
structure T85 (K : PySem.W.Frag) (CF CC CS : Addr) (sc : Sch) (us0 : List (List Str)) (fs0 : List Fx) (k2 k3 k4 f2 f3 f4 t2 t3 t4 so : Addr) (H : Hp) : Prop where
  o2 : FaAt K CF CC CS H f2 sc [] []
  o3 : FaAt K CF CC CS H f3 sc [] fs0
  o4 : FaAt K CF CC CS H f4 sc us0 []
  l2 : LstAt H t2 [] []
  l3 : LstAt H t3 [] fs0
  l4 : LstAt H t4 us0 []
  p2 : H k2 = some (.tup [.ref f2, .ref t2])
  p3 : H k3 = some (.tup [.ref f3, .ref t3])
  p4 : H k4 = some (.tup [.ref f4, .ref t4])
  so_ : H so = some (.lst [.ref k2, .ref k3, .ref k4])
theorem T85.ext {K : PySem.W.Frag} {CF CC CS : Addr} {sc : Sch} {us0 : List (List Str)} {fs0 : List Fx} {k2 k3 k4 f2 f3 f4 t2 t3 t4 so : Addr} {H H' : Hp} {d c r : Addr} (h : T85 K CF CC CS sc us0 fs0 k2 k3 k4 f2 f3 f4 t2 t3 t4 so H) (D : Drw H d c r) (e : Ext d r H H') : T85 K CF CC CS sc us0 fs0 k2 k3 k4 f2 f3 f4 t2 t3 t4 so H' := by
  have tp : ∀ {a : Addr} {xs : List V}, H a = some (.tup xs) → H' a = some (.tup xs) := fun {a xs} h => e _ _ h (tup_dr D h).1 (tup_dr D h).2
  exact ⟨h.o2.ext D e, h.o3.ext D e, h.o4.ext D e, h.l2.ext D e, h.l3.ext D e, h.l4.ext D e, tp h.p2, tp h.p3, tp h.p4, e _ _ h.so_ (refs_drc (ts := [k2, k3, k4]) D h.so_).1 (refs_drc (ts := [k2, k3, k4]) D h.so_).2.1⟩
section
variable {P : Program} {w : World} {K : PySem.W.Frag} {mg : Str → Option Value} {base : Heap}
theorem ok_law (T : Txt K mg) : FnOk P w K mg base CX0 12 T.f_law T.d_law ["_law_script"] (spLaw K) := by
  refine T.F_law.ok sc_law (fun vs H Q E h => ?_) (fun cdv A outer s H vs Q E hr h => ?_)
  · obtain ⟨a, ns, rfl, _⟩ := h
    rfl
  obtain ⟨a, ns, rfl, hS, hlen, q⟩ := h
  refine ⟨_, (pss_cons (ps_set (i := 1) sc_law.nd rfl (by first | exact Or.inl rfl | exact Or.inr rfl) (pe_call (ok__law_begin T) (hr.mono (by decide)) (by rfl) T.g__law_begin T.F__law_begin.kp T.b__law_begin .nil pass0 (pa_cons (pv 0) pa_nil)))
      (pss_cons (ps_set (i := 2) sc_law.nd rfl (by first | exact Or.inl rfl | exact Or.inr rfl) (pe_call (ok__law_spec T) (hr.mono (by decide)) (by rfl) T.g__law_spec T.F__law_spec.kp T.b__law_spec .nil pass0 (pa_cons (pv 1) (pa_cons pe_int pa_nil))))
      (pss_cons (ps_set (i := 3) sc_law.nd rfl (by first | exact Or.inl rfl | exact Or.inr rfl) (pe_lst (pa_cons (pe_call (ok__law_fact_lists T) (hr.mono (by decide)) (by rfl) T.g__law_fact_lists T.F__law_fact_lists.kp T.b__law_fact_lists .nil pass0 (pa_cons (pv 1) (pa_cons (pv 2) pa_nil))) (pa_cons (pe_call (ok__law_fact_lists T) (hr.mono (by decide)) (by rfl) T.g__law_fact_lists T.F__law_fact_lists.kp T.b__law_fact_lists .nil pass0 (pa_cons (pv 1) (pa_cons (pv 2) pa_nil))) pa_nil))))
      (pss_cons (ps_setLc (i := 4) (own := [("_law_one", 12)]) (g := gName 12) (tt := tYes) rfl sc_law.nd rfl rfl (sw_true rfl rfl rfl (by decide +kernel)) (pi_list (pv 3)) (blkOk_by (N := ["_law_script", "_law_draws", "_law_spec_here", "_law_lists", "_law_facts_here", "_law_columns_here", "_law_asked", "_law_at", "_law_which", "_law_singles", "_law_pairs", "_law_some", "_law_one", "_law_held", "_law_strange", "_law_spot", "_law_bad", "_law_j", "_law_k"]) (sc := defScope s_law) (by decide +kernel)) (fun _ _ _ _ _ => pg_name (i := 12) sc_law.nd rfl (by first | exact Or.inl rfl | exact Or.inr rfl)) (fun _ _ _ _ _ => pts_nil) (fun _ _ _ _ _ => (pe_call (ok__law_facts T) (hr.mono (by decide)) (by rfl) T.g__law_facts T.F__law_facts.kp T.b__law_facts .nil pass0 (pa_cons (pv 2) (pa_cons (pv 12) pa_nil)))))
      (pss_cons (ps_set (i := 5) sc_law.nd rfl (by first | exact Or.inl rfl | exact Or.inr rfl) (pe_call (ok__law_columns T) (hr.mono (by decide)) (by rfl) T.g__law_columns T.F__law_columns.kp T.b__law_columns .nil pass0 (pa_cons (pv 2) pa_nil)))
      (pss_cons (ps_setLc (i := 6) (own := [("_law_j", 17)]) (g := gName 17) (tt := tYes) rfl sc_law.nd rfl rfl (sw_true rfl rfl rfl (by decide +kernel)) (pi_range1 (by rfl) T.z_range (pa_cons pe_int pa_nil)) (blkOk_by (N := ["_law_script", "_law_draws", "_law_spec_here", "_law_lists", "_law_facts_here", "_law_columns_here", "_law_asked", "_law_at", "_law_which", "_law_singles", "_law_pairs", "_law_some", "_law_one", "_law_held", "_law_strange", "_law_spot", "_law_bad", "_law_j", "_law_k"]) (sc := defScope s_law) (by decide +kernel)) (fun _ _ _ _ _ => pg_name (i := 17) sc_law.nd rfl (by first | exact Or.inl rfl | exact Or.inr rfl)) (fun _ _ _ _ _ => pts_nil) (fun _ _ _ _ _ => (pe_lc (own := [("_law_k", 18)]) (g := gName 18) (tt := tYes) rfl sc_law.nd (pi_range1 (by rfl) T.z_range (pa_cons (pe_call (ok__law_draw T) (hr.mono (by decide)) (by rfl) T.g__law_draw T.F__law_draw.kp T.b__law_draw .nil pass0 (pa_cons (pv 1) (pa_cons pe_int pa_nil))) pa_nil)) (blkOk_by (by kernel_rfl)) (fun _ _ _ _ _ => pg_name (i := 18) sc_law.nd rfl (by first | exact Or.inl rfl | exact Or.inr rfl)) (fun _ _ _ _ _ => pts_nil) (fun _ _ _ _ _ => (pe_ix (r := rIxL K) ix_list (pv 5) (pe_call (ok__law_draw T) (hr.mono (by decide)) (by rfl) T.g__law_draw T.F__law_draw.kp T.b__law_draw .nil pass0 (pa_cons (pv 1) (pa_cons (pe_callB (r := rLenL K) (id := "len") c_len (by rfl) T.z_len (by decide +kernel) (pa_cons (pv 5) pa_nil)) pa_nil))) (fun _ _ => rfl))))))
      (pss_cons (ps_for PassesOwn.never rfl (pi_list (pe_lst (pa_cons (pe_tup (pa_cons pe_int (pa_cons pe_int pa_nil))) (pa_cons (pe_tup (pa_cons pe_int (pa_cons pe_int pa_nil))) (pa_cons (pe_tup (pa_cons pe_int (pa_cons pe_int pa_nil))) (pa_cons (pe_tup (pa_cons pe_int (pa_cons pe_int pa_nil))) (pa_cons (pe_tup (pa_cons pe_int (pa_cons pe_int pa_nil))) pa_nil))))))) (pg_tup (by rfl) (pgs_cons (pg_name (i := 7) sc_law.nd rfl (by first | exact Or.inl rfl | exact Or.inr rfl)) (pgs_cons (pg_name (i := 8) sc_law.nd rfl (by first | exact Or.inl rfl | exact Or.inr rfl)) pgs_nil))) (pss_one (ps_if (pt_not (pt_val (pe_call (ok__law_asked_right T) (hr.mono (by decide)) (by rfl) T.g__law_asked_right T.F__law_asked_right.kp T.b__law_asked_right .nil pass0 (pa_cons (pv 1) (pa_cons (pv 2) (pa_cons (pe_ix (r := rIxL K) ix_list (pv 4) (pv 7) (fun _ _ => rfl)) (pa_cons (pe_ix (r := rIxL K) ix_list (pv 3) (pv 7) (fun _ _ => rfl)) (pa_cons (pe_ix (r := rIxL K) ix_list (pv 6) (pv 8) (fun _ _ => rfl)) pa_nil)))))))) (pss_one (ps_ret pe_bl)) pss_nil)))
      (pss_cons (ps_if (pt_cmpR (op_neO T.mt_Scheme___eq__.at_ T.mt_Scheme___eq__.fn T.ne_Scheme T.ob_Scheme (ok_Scheme___eq__ T) (hr.mono (by decide)) T.b_Scheme___eq__ pass0) (pe_fldK (K := K) (pe_ix (r := rIxL K) ix_list (pv 4) pe_int (fun _ _ => rfl))) (pe_call (ok__law_scheme T) (hr.mono (by decide)) (by rfl) T.g__law_scheme T.F__law_scheme.kp T.b__law_scheme .nil pass0 (pa_cons (pv 2) pa_nil)) (nomark _)) (pss_one (ps_ret pe_bl)) pss_nil)
      (pss_cons (ps_setLc (i := 9) (own := [("_law_one", 12)]) (g := gName 12) (tt := tYes) rfl sc_law.nd rfl rfl (sw_true rfl rfl rfl (by decide +kernel)) (pi_list (pe_ix (r := rIxT K) ix_tup (pe_ix (r := rIxL K) ix_list (pv 3) pe_int (fun _ _ => rfl)) pe_int (fun _ _ => rfl))) (blkOk_by (N := ["_law_script", "_law_draws", "_law_spec_here", "_law_lists", "_law_facts_here", "_law_columns_here", "_law_asked", "_law_at", "_law_which", "_law_singles", "_law_pairs", "_law_some", "_law_one", "_law_held", "_law_strange", "_law_spot", "_law_bad", "_law_j", "_law_k"]) (sc := defScope s_law) (by decide +kernel)) (fun _ _ _ _ _ => pg_name (i := 12) sc_law.nd rfl (by first | exact Or.inl rfl | exact Or.inr rfl)) (fun _ _ _ _ _ => pts_nil) (fun _ _ _ _ _ => (pe_callTy (r := rListA K) (T := "list") c_listA (by rfl) T.z_list (by decide +kernel) (pa_cons (pv 12) pa_nil))))
      (pss_cons (ps_setLc (i := 10) (own := [("_law_one", 12)]) (g := gName 12) (tt := tYes) rfl sc_law.nd rfl rfl (sw_true rfl rfl rfl (by decide +kernel)) (pi_list (pe_ix (r := rIxT K) ix_tup (pe_ix (r := rIxL K) ix_list (pv 3) pe_int (fun _ _ => rfl)) pe_int (fun _ _ => rfl))) (blkOk_by (N := ["_law_script", "_law_draws", "_law_spec_here", "_law_lists", "_law_facts_here", "_law_columns_here", "_law_asked", "_law_at", "_law_which", "_law_singles", "_law_pairs", "_law_some", "_law_one", "_law_held", "_law_strange", "_law_spot", "_law_bad", "_law_j", "_law_k"]) (sc := defScope s_law) (by decide +kernel)) (fun _ _ _ _ _ => pg_name (i := 12) sc_law.nd rfl (by first | exact Or.inl rfl | exact Or.inr rfl)) (fun _ _ _ _ _ => pts_nil) (fun _ _ _ _ _ => (pe_tup (pa_cons (pe_callTy (r := rListA K) (T := "list") c_listA (by rfl) T.z_list (by decide +kernel) (pa_cons (pe_ix (r := rIxT K) ix_tup (pv 12) pe_int (fun _ _ => rfl)) pa_nil)) (pa_cons (pe_ix (r := rIxT K) ix_tup (pv 12) pe_int (fun _ _ => rfl)) pa_nil)))))
      (pss_cons (ps_set (i := 11) sc_law.nd rfl (by first | exact Or.inl rfl | exact Or.inr rfl) (pe_lst (pa_cons (pe_tup (pa_cons (pe_make T.m_Facts (ok_Facts___init__ T) (hr.mono (by decide)) (by rfl) T.g_Facts T.bd_Facts___init__ T.rds_Facts___init__ passL (pa_cons (pe_call (ok__law_scheme T) (hr.mono (by decide)) (by rfl) T.g__law_scheme T.F__law_scheme.kp T.b__law_scheme .nil pass0 (pa_cons (pv 2) pa_nil)) pa_nil)) (pa_cons (pe_tup (pa_cons (pe_lst pa_nil) (pa_cons (pe_lst pa_nil) pa_nil))) pa_nil))) (pa_cons (pe_tup (pa_cons (pe_makeN T.m_Facts (ok_Facts___init__ T) (hr.mono (by decide)) (by rfl) T.g_Facts T.kn_Facts___init___X passL (pa_cons (pe_call (ok__law_scheme T) (hr.mono (by decide)) (by rfl) T.g__law_scheme T.F__law_scheme.kp T.b__law_scheme .nil pass0 (pa_cons (pv 2) pa_nil)) pa_nil) (pk_cons (pv 10) pk_nil)) (pa_cons (pe_tup (pa_cons (pe_lst pa_nil) (pa_cons (pv 10) pa_nil))) pa_nil))) pa_nil))))
      (pss_cons (ps_expr (pe_bm PySem.F.plainAttrs_list PySem.F.slot_list_append PySem.F.type_list_append mt_append (pv 11) (pa_cons (pe_tup (pa_cons (pe_makeN T.m_Facts (ok_Facts___init__ T) (hr.mono (by decide)) (by rfl) T.g_Facts T.kn_Facts___init___U passL (pa_cons (pe_call (ok__law_scheme T) (hr.mono (by decide)) (by rfl) T.g__law_scheme T.F__law_scheme.kp T.b__law_scheme .nil pass0 (pa_cons (pv 2) pa_nil)) pa_nil) (pk_cons (pv 9) pk_nil)) (pa_cons (pe_tup (pa_cons (pv 9) (pa_cons (pe_lst pa_nil) pa_nil))) pa_nil))) pa_nil)))
      (pss_cons (ps_for PassesOwn.never rfl (pi_list (pv 11)) (pg_tup (by rfl) (pgs_cons (pg_name (i := 12) sc_law.nd rfl (by first | exact Or.inl rfl | exact Or.inr rfl)) (pgs_cons (pg_name (i := 13) sc_law.nd rfl (by first | exact Or.inl rfl | exact Or.inr rfl)) pgs_nil))) (pss_one (ps_if (pt_not (pt_val (pe_call (ok__law_asked_right T) (hr.mono (by decide)) (by rfl) T.g__law_asked_right T.F__law_asked_right.kp T.b__law_asked_right .nil pass0 (pa_cons (pv 1) (pa_cons (pv 2) (pa_cons (pv 12) (pa_cons (pv 13) (pa_cons (pe_ix (r := rIxL K) ix_list (pv 6) pe_int (fun _ _ => rfl)) pa_nil)))))))) (pss_one (ps_ret pe_bl)) pss_nil)))
      (pss_cons (ps_set (i := 14) sc_law.nd rfl (by first | exact Or.inl rfl | exact Or.inr rfl) (pe_call (ok__law_names T) (hr.mono (by decide)) (by rfl) T.g__law_names T.F__law_names.kp T.b__law_names .nil pass0 (pa_cons (pv 1) (pa_cons (pv 5) (pa_cons pe_int pa_nil)))))
      (pss_cons (ps_set (i := 15) sc_law.nd rfl (by first | exact Or.inl rfl | exact Or.inr rfl) (pe_call (ok__law_draw T) (hr.mono (by decide)) (by rfl) T.g__law_draw T.F__law_draw.kp T.b__law_draw .nil pass0 (pa_cons (pv 1) (pa_cons (pe_op op_add (pe_callB (r := rLenL K) (id := "len") c_len (by rfl) T.z_len (by decide +kernel) (pa_cons (pe_slice sl_list (pe_ix (r := rIxL K) ix_list (pv 6) pe_int (fun _ _ => rfl)) po_none (po_some pe_int)) pa_nil)) pe_int) pa_nil))))
      (pss_cons (ps_set (i := 16) sc_law.nd rfl (by first | exact Or.inl rfl | exact Or.inr rfl) (pe_op op_cat (pe_op op_cat (pe_op op_cat (pe_slice sl_list (pe_slice sl_list (pe_ix (r := rIxL K) ix_list (pv 6) pe_int (fun _ _ => rfl)) po_none (po_some pe_int)) po_none (po_some (pv 15))) (pe_lst (pa_cons (pe_ix (r := rIxL K) ix_list (pv 14) pe_int (fun _ _ => rfl)) pa_nil))) (pe_slice sl_list (pe_slice sl_list (pe_ix (r := rIxL K) ix_list (pv 6) pe_int (fun _ _ => rfl)) po_none (po_some pe_int)) (po_some (pv 15)) po_none)) (pe_slice sl_list (pv 14) (po_some pe_int) po_none)))
      (pss_cons (ps_if (pt_not (pt_val (pe_call (ok__law_refused T) (hr.mono (by decide)) (by rfl) T.g__law_refused T.F__law_refused.kp T.b__law_refused .nil pass0 (pa_cons (pe_ix (r := rIxL K) ix_list (pv 4) pe_int (fun _ _ => rfl)) (pa_cons (pv 16) (pa_cons (pe_ix (r := rIxL K) ix_list (pv 14) pe_int (fun _ _ => rfl)) pa_nil)))))) (pss_one (ps_ret pe_bl)) pss_nil)
      (pss_one (ps_ret (pe_call (ok__law_asked_right T) (hr.mono (by decide)) (by rfl) T.g__law_asked_right T.F__law_asked_right.kp T.b__law_asked_right .nil pass0 (pa_cons (pv 1) (pa_cons (pv 2) (pa_cons (pe_ix (r := rIxL K) ix_list (pv 4) pe_int (fun _ _ => rfl)) (pa_cons (pe_ix (r := rIxL K) ix_list (pv 3) pe_int (fun _ _ => rfl)) (pa_cons (pe_revL (pe_ix (r := rIxL K) ix_list (pv 6) pe_int (fun _ _ => rfl))) pa_nil))))))))))))))))))))))))), ?_⟩
  try simp only [nox_K, cx_K]
  wtm_at "rd"
  refine ⟨a, ns, rfl, hS, hlen, fun d c r H1 D1 S1 nd nc nr => ?_⟩
  wtm_at "rd"
  refine ⟨d, c, r, 3, rfl, D1, by decide, by decide, fun p sc H2 hg so D2 E2 => ?_⟩
  wtm_at "rd"
  refine ⟨d, c, r, p, sc, rfl, D2, so, hg, fun t0 us0 fs0 H3 ho0 hl0 D3 E3 => ?_⟩
  have so := so.ext D2 E3
  wtm_at "rd"
  refine ⟨d, c, r, p, sc, rfl, D3, so, hg, fun t1 us1 fs1 H4 ho1 hl1 D4 E4 => ?_⟩
  have so := so.ext D3 E4
  have hl0 := hl0.ext D3 E4
  wtm_at "rd"
  refine r_new rfl fun ll n_ll => ?_
  generalize eq_ll : upd _ ll _ = H5
  have s_ll : Same _ H5 := eq_ll ▸ same_new n_ll
  have h_ll : H5 ll = some _ := eq_ll ▸ upd_same
  clear eq_ll
  have D4 := D4.same s_ll
  have so := so.same s_ll
  have hl0 := hl0.same s_ll
  have hl1 := hl1.same s_ll
  wtm_at "rd"
  refine ⟨ll, rfl, ⟨_, SqL.of h_ll⟩, ?_⟩
  refine lc_newR (K := K) (a := ll) (xs := [V.ref t0, V.ref t1]) (fun D H u j => (FaAt K T.C_Facts T.C_Scheme T.C_Sort H u sc (if j = 0 then us0 else us1) (if j = 0 then fs0 else fs1)) ∧ FaNew (fun x => x ≠ D) H u) (.inl ⟨rfl, rfl⟩) (SqL.of h_ll) (fun H1 H2 z e => e.seq z) (Nat.le_of_ble_eq_true rfl) (fun D H1 H2 u j h ⟨_, e⟩ k => h.1.kd h.2 e k) (fun D i x H6 QQ hx s6 nD eD hQ => ?_) (fun fl fas H6 nfl lfas hfl hfas s6 => ?_)
  · refine ⟨rfl, ?_⟩
    wtm_at "rd"
    match i, hx with
    | 0, hx =>
      cases hx
      exact ⟨p, t0, sc, us0, fs0, rfl, so.same s6, hg, hl0.same s6, ho0, fun f H7 o7 n7 s7 => hQ f H7 ⟨o7, n7.mono fun b nb z => eD (z ▸ nb)⟩ s7⟩
    | 1, hx =>
      cases hx
      exact ⟨p, t1, sc, us1, fs1, rfl, so.same s6, hg, hl1.same s6, ho1, fun f H7 o7 n7 s7 => hQ f H7 ⟨o7, n7.mono fun b nb z => eD (z ▸ nb)⟩ s7⟩
  obtain ⟨f0, f1, rfl⟩ : ∃ x y, fas = [x, y] := by
    match fas, lfas with
    | [x, y], _ => exact ⟨x, y, rfl⟩
  have o0 : FaAt K T.C_Facts T.C_Scheme T.C_Sort H6 f0 sc us0 fs0 := (hfas 0 f0 rfl).1
  have o1 : FaAt K T.C_Facts T.C_Scheme T.C_Sort H6 f1 sc us1 fs1 := (hfas 1 f1 rfl).1
  clear hfas lfas
  have D6 := D4.same s6
  have so := so.same s6
  have hl0 := hl0.same s6
  have hl1 := hl1.same s6
  have h_ll := s6 _ _ h_ll
  wtm_at "rd"
  refine ⟨p, sc, rfl, so, hg, fun co H7 n_co s7 hco => ?_⟩
  have D7 := D6.same s7
  have so := so.same s7
  have hl0 := hl0.same s7
  have hl1 := hl1.same s7
  have o0 := o0.same s7
  have o1 := o1.same s7
  have h_ll := s7 _ _ h_ll
  have hfl : H7 fl = some (.lst [.ref f0, .ref f1]) := s7 _ _ hfl
  have lcs := cols_len hg
  have l0 := hg.l0
  have lc1 : 1 ≤ sc.cols.length := by
    unfold Sch.cols
    rw [List.length_append, List.length_append, List.length_map]
    omega
  wtm_at "rd"
  refine r_upto (by decide) (by decide) ?_
  refine lc_drawsU (P := fun u => u.length ≤ 4 ∧ ∀ z ∈ u, z ∈ sc.cols) (by decide) D7 (fun i H' QQ hi D' E' hQ => ?_) fun al as gs H8 lgs hgs n_al h_al has D8 E8 => ?_
  · wtm_at "rd"
    refine ⟨d, c, r, 5, rfl, D', by decide, by decide, fun k H'' k0 k1 D2 E2 => ?_⟩
    have hco2 := (E'.trans E2) _ _ hco (strs_dr D7 hco).1 (strs_dr D7 hco).2
    wtm_at "rd"
    refine r_upto (by omega) (by omega) ?_
    refine lc_drawsG (P := fun x => ∃ z, x = V.str z ∧ z ∈ sc.cols) (by omega) D2 (fun i H3 QQ3 hi D3 E3 hQ3 => ?_) fun l ss H3 lss hss nl hl D3 E3 => ?_
    · have hco3 := E3 _ _ hco2 (strs_dr D2 hco2).1 (strs_dr D2 hco2).2
      wtm_at "rd"
      refine r_lenS hco3 ?_
      wtm_at "rd"
      refine ⟨d, c, r, _, rfl, D3, by omega, by omega, fun k' H4 k0' k1' D4 E4 => ?_⟩
      have hco4 := E4 _ _ hco3 (strs_dr D3 hco3).1 (strs_dr D3 hco3).2
      obtain ⟨z0, hz0⟩ : ∃ z, sc.cols[k'.toNat]? = some z := ⟨_, List.getElem?_eq_getElem (by omega)⟩
      refine r_ixL (v := .str z0) (SqL.of hco4) (by rw [show k' = ((k'.toNat : Nat) : Int) by omega]; exact atI_nat (by rw [List.getElem?_map, hz0]; try rfl)) ?_
      exact hQ3 _ _ ⟨z0, rfl, List.mem_of_getElem? hz0⟩ D4 E4
    obtain ⟨u, rfl, hu⟩ := strs_all hss
    rw [List.length_map] at lss
    exact hQ l u H3 ⟨by omega, hu⟩ (ext_none E2 (D2.ned nl) (D2.ner nl) nl) hl D3 (E2.trans E3)
  obtain ⟨g0, g1, rfl⟩ : ∃ x y, gs = [x, y] := by
    match gs, lgs with
    | [x, y], _ => exact ⟨x, y, rfl⟩
  obtain ⟨a0, a1, rfl⟩ : ∃ x y, as = [x, y] := by
    have := has.len
    match as, this with
    | [x, y], _ => exact ⟨x, y, rfl⟩
  have ha0 : H8 a0 = some (.lst (g0.map V.str)) := has.at_ 0 a0 g0 rfl rfl
  have ha1 : H8 a1 = some (.lst (g1.map V.str)) := has.at_ 1 a1 g1 rfl rfl
  have lg0 := hgs g0 List.mem_cons_self
  have lg1 := hgs g1 (List.mem_cons_of_mem _ List.mem_cons_self)
  have X : W85 K T.C_Facts T.C_Scheme T.C_Sort p t0 t1 f0 f1 a0 a1 ll fl al co sc us0 us1 fs0 fs1 g0 g1 H8 := ⟨so.ext D7 E8, hl0.ext D7 E8, hl1.ext D7 E8, o0.ext D7 E8, o1.ext D7 E8, ha0, ha1, E8 _ _ h_ll (refs_drc (ts := [t0, t1]) D7 h_ll).1 (refs_drc (ts := [t0, t1]) D7 h_ll).2.1, E8 _ _ hfl (refs_drc (ts := [f0, f1]) D7 hfl).1 (refs_drc (ts := [f0, f1]) D7 hfl).2.1, h_al, E8 _ _ hco (strs_dr D7 hco).1 (strs_dr D7 hco).2⟩
  clear so hl0 hl1 o0 o1 ha0 ha1 has hgs h_ll hfl h_al hco
  wtm_at "rd"
  refine r_for (r_il ?_)
  wtm_at "rd"
  refine r_new rfl fun u0 n_u0 => ?_
  generalize eq_u0 : upd _ u0 _ = H9
  have s_u0 : Same _ H9 := eq_u0 ▸ same_new n_u0
  have h_u0 : H9 u0 = some _ := eq_u0 ▸ upd_same
  clear eq_u0
  have D8 := D8.same s_u0
  have X := X.same s_u0
  wtm_at "rd"
  refine r_new rfl fun u1 n_u1 => ?_
  generalize eq_u1 : upd _ u1 _ = H10
  have s_u1 : Same _ H10 := eq_u1 ▸ same_new n_u1
  have h_u1 : H10 u1 = some _ := eq_u1 ▸ upd_same
  clear eq_u1
  have D8 := D8.same s_u1
  have X := X.same s_u1
  have h_u0 := s_u1 _ _ h_u0
  wtm_at "rd"
  refine r_new rfl fun u2 n_u2 => ?_
  generalize eq_u2 : upd _ u2 _ = H11
  have s_u2 : Same _ H11 := eq_u2 ▸ same_new n_u2
  have h_u2 : H11 u2 = some _ := eq_u2 ▸ upd_same
  clear eq_u2
  have D8 := D8.same s_u2
  have X := X.same s_u2
  have h_u0 := s_u2 _ _ h_u0
  have h_u1 := s_u2 _ _ h_u1
  wtm_at "rd"
  refine r_new rfl fun u3 n_u3 => ?_
  generalize eq_u3 : upd _ u3 _ = H12
  have s_u3 : Same _ H12 := eq_u3 ▸ same_new n_u3
  have h_u3 : H12 u3 = some _ := eq_u3 ▸ upd_same
  clear eq_u3
  have D8 := D8.same s_u3
  have X := X.same s_u3
  have h_u0 := s_u3 _ _ h_u0
  have h_u1 := s_u3 _ _ h_u1
  have h_u2 := s_u3 _ _ h_u2
  wtm_at "rd"
  refine r_new rfl fun u4 n_u4 => ?_
  generalize eq_u4 : upd _ u4 _ = H13
  have s_u4 : Same _ H13 := eq_u4 ▸ same_new n_u4
  have h_u4 : H13 u4 = some _ := eq_u4 ▸ upd_same
  clear eq_u4
  have D8 := D8.same s_u4
  have X := X.same s_u4
  have h_u0 := s_u4 _ _ h_u0
  have h_u1 := s_u4 _ _ h_u1
  have h_u2 := s_u4 _ _ h_u2
  have h_u3 := s_u4 _ _ h_u3
  wtm_at "rd"
  refine r_new rfl fun wl n_wl => ?_
  generalize eq_wl : upd _ wl _ = H14
  have s_wl : Same _ H14 := eq_wl ▸ same_new n_wl
  have h_wl : H14 wl = some _ := eq_wl ▸ upd_same
  clear eq_wl
  have D8 := D8.same s_wl
  have X := X.same s_wl
  have h_u0 := s_wl _ _ h_u0
  have h_u1 := s_wl _ _ h_u1
  have h_u2 := s_wl _ _ h_u2
  have h_u3 := s_wl _ _ h_u3
  have h_u4 := s_wl _ _ h_u4
  refine r_itl (SqL.of h_wl) ?_
  have wk : ∀ (i : Nat) (v : V), ([V.ref u0, V.ref u1, V.ref u2, V.ref u3, V.ref u4])[i]? = some v → ∃ (u : Addr) (x y : Int), v = .ref u ∧ H14 u = some (.tup [.int x, .int y]) ∧ (x = 0 ∨ x = 1) ∧ (y = 0 ∨ y = 1) := fun i v hv => by
    have hm := List.mem_of_getElem? hv
    simp only [List.mem_cons, List.mem_nil_iff, or_false] at hm
    rcases hm with rfl | rfl | rfl | rfl | rfl
    · exact ⟨u0, 0, 0, rfl, h_u0, .inl rfl, .inl rfl⟩
    · exact ⟨u1, 1, 0, rfl, h_u1, .inr rfl, .inl rfl⟩
    · exact ⟨u2, 0, 1, rfl, h_u2, .inl rfl, .inr rfl⟩
    · exact ⟨u3, 0, 0, rfl, h_u3, .inl rfl, .inl rfl⟩
    · exact ⟨u4, 1, 1, rfl, h_u4, .inr rfl, .inr rfl⟩
  refine for_list (K := K) (a := wl) (xs := [V.ref u0, V.ref u1, V.ref u2, V.ref u3, V.ref u4]) (fun i σ H' => ∃ x7 x8 : Option V, σ = [some (.ref a), some (.ref d), some (.ref p), some (.ref ll), some (.ref fl), some (.ref co), some (.ref al), x7, x8, none, none, none, none, none, none, none, none, none, none] ∧ Drw H' d c r ∧ W85 K T.C_Facts T.C_Scheme T.C_Sort p t0 t1 f0 f1 a0 a1 ll fl al co sc us0 us1 fs0 fs1 g0 g1 H' ∧ (∀ u x y, H14 u = some (.tup [.int x, .int y]) → H' u = some (.tup [.int x, .int y])) ∧ H' wl = some (.lst ([u0, u1, u2, u3, u4].map V.ref))) ⟨_, _, rfl, D8, X, fun _ _ _ z => z, h_wl⟩ (fun i σ H' _ ⟨_, _, _, _, _, _, z⟩ => SqL.of z) ?_ ?_
  · rintro i v σ H15 hv ⟨x7, x8, rfl, D15, X, ht, hw⟩
    obtain ⟨u, x, y, rfl, hu, hx, hy⟩ := wk i v hv
    have hu := ht _ _ _ hu
    refine r_gtup (SqT.of hu) rfl ?_
    have hfl := X.fl_
    have hll := X.ll_
    have hal := X.al_
    have fin : ∀ H', Drw H' d c r → Ext d r H15 H' → W85 K T.C_Facts T.C_Scheme T.C_Sort p t0 t1 f0 f1 a0 a1 ll fl al co sc us0 us1 fs0 fs1 g0 g1 H' ∧ (∀ u x y, H14 u = some (.tup [.int x, .int y]) → H' u = some (.tup [.int x, .int y])) ∧ H' wl = some (.lst ([u0, u1, u2, u3, u4].map V.ref)) := fun H' D' E' => ⟨X.ext D15 E', fun u x y z => E' _ _ (ht u x y z) (tup_dr D15 (ht u x y z)).1 (tup_dr D15 (ht u x y z)).2, E' _ _ hw (refs_drc D15 hw).1 (refs_drc D15 hw).2.1⟩
    rcases hx with rfl | rfl <;> rcases hy with rfl | rfl
    · wtm_at "rd"
      refine ⟨d, c, r, p, f0, t0, a0, sc, us0, fs0, g0, rfl, D15, X.so, hg, X.o0, X.l0, ho0, X.b0, lg0.1, lg0.2, fun H' D' E' => ?_⟩
      wtm_at "rd"
      refine iteNT ?_
      wtm_at "rd"
      exact ⟨_, _, rfl, D', fin H' D' E'⟩
    · wtm_at "rd"
      refine ⟨d, c, r, p, f0, t0, a1, sc, us0, fs0, g1, rfl, D15, X.so, hg, X.o0, X.l0, ho0, X.b1, lg1.1, lg1.2, fun H' D' E' => ?_⟩
      wtm_at "rd"
      refine iteNT ?_
      wtm_at "rd"
      exact ⟨_, _, rfl, D', fin H' D' E'⟩
    · wtm_at "rd"
      refine ⟨d, c, r, p, f1, t1, a0, sc, us1, fs1, g0, rfl, D15, X.so, hg, X.o1, X.l1, ho1, X.b0, lg0.1, lg0.2, fun H' D' E' => ?_⟩
      wtm_at "rd"
      refine iteNT ?_
      wtm_at "rd"
      exact ⟨_, _, rfl, D', fin H' D' E'⟩
    · wtm_at "rd"
      refine ⟨d, c, r, p, f1, t1, a1, sc, us1, fs1, g1, rfl, D15, X.so, hg, X.o1, X.l1, ho1, X.b1, lg1.1, lg1.2, fun H' D' E' => ?_⟩
      wtm_at "rd"
      refine iteNT ?_
      wtm_at "rd"
      exact ⟨_, _, rfl, D', fin H' D' E'⟩
  rintro σ H15 ⟨x7, x8, rfl, D15, X, _, _⟩
  have hfl := X.fl_
  have hll := X.ll_
  obtain ⟨dx0, q0, aU0, aF0, e0, oS0, _, _⟩ := X.o0
  wtm_at "rd"
  refine r_get e0 T.c_Facts T.nf_Facts_scheme (fa_sch _ _ _) ?_
  wtm_at "rd"
  refine ⟨p, sc, rfl, X.so, hg, fun q1 H16 s16 oS1 => ?_⟩
  have D16 := D15.same s16
  have X := X.same s16
  have oS0 := oS0.same s16
  obtain ⟨dq, tS, tP, tV, tM, aq, eq0, _⟩ := id oS0.ex
  refine ⟨q0, _, _, .ref T.C_Scheme, rfl, eq0, sch_ty T oS1, T.nt_Scheme, q0, sc, .ref q1, rfl, oS0, hg, .inl ⟨q1, sc, rfl, oS1, hg, _, rfl, ?_⟩⟩
  wtm_at "rd"
  refine r_iten (fun c => absurd rfl c) (fun _ => ?_)
  have hll := X.ll_
  obtain ⟨bU, bF, ht0, ⟨bs, hbU, hub⟩, ⟨ts, hbF, hft⟩⟩ := id X.l0
  have lub := hub.len
  have lft := hft.len
  have lus := ho0.lu
  have lfs := ho0.lf
  wtm_at "rd"
  refine ⟨bU, rfl, ⟨_, SqL.of hbU⟩, ?_⟩
  refine lc_newR (K := K) (a := bU) (xs := bs.map V.ref) (fun D H u j => u ≠ D ∧ H u = some (.lst ((us0.getD j []).map V.str))) (.inl ⟨rfl, rfl⟩) (SqL.of hbU) (fun H1 H2 z e => e.seq z) (by rw [List.length_map]; omega) (fun D H1 H2 u j h _ k => ⟨h.1, k _ _ h.2 h.1⟩) (fun D i x H6 QQ hx s6 nD eD hQ => ?_) (fun sg cs H17 n_sg lcs h_sg hcs s17 => ?_)
  · rw [List.getElem?_map] at hx
    obtain ⟨b', hb', rfl⟩ := Option.map_eq_some_iff.mp hx
    obtain ⟨u, hui, hbu⟩ := hub.get hb'
    rw [List.getD_eq_getElem?_getD, hui] at hQ
    refine ⟨rfl, ?_⟩
    wtm_at "rd"
    refine r_listA (.inl (SqL.of (s6 _ _ hbu))) fun l n_l => ?_
    exact hQ l _ ⟨fun z => eD (z ▸ n_l), upd_same⟩ (same_new n_l)
  rw [List.length_map] at lcs
  have hcs : UsL H17 cs us0 := ⟨by omega, fun j u v h1 h2 => by
    have z := (hcs j u h1).2
    rwa [List.getD_eq_getElem?_getD, h2] at z⟩
  have D17 := D16.same s17
  have X := X.same s17
  have hll := X.ll_
  have ht0 := s17 _ _ ht0
  have hbF := s17 _ _ hbF
  have hft := hft.same s17
  wtm_at "rd"
  refine ⟨bF, rfl, ⟨_, SqL.of hbF⟩, ?_⟩
  refine lc_newR (K := K) (a := bF) (xs := ts.map V.ref) (fun D H t j => t ≠ D ∧ ∃ b, b ≠ D ∧ H t = some (.tup [.ref b, .str (fs0.getD j ([], "")).2]) ∧ H b = some (.lst ((fs0.getD j ([], "")).1.map V.str))) (.inl ⟨rfl, rfl⟩) (SqL.of hbF) (fun H1 H2 z e => e.seq z) (by rw [List.length_map]; omega) (fun D H1 H2 u j ⟨h1, b, h2, h3, h4⟩ _ k => ⟨h1, b, h2, k _ _ h3 h1, k _ _ h4 h2⟩) (fun D i x H4 QQ hx s4 nD eD hQ => ?_) (fun pr ds H18 n_pr lds h_pr hds s18 => ?_)
  · rw [List.getElem?_map] at hx
    obtain ⟨t', ht', rfl⟩ := Option.map_eq_some_iff.mp hx
    obtain ⟨f, hfi, b', h1, h2⟩ := hft.get ht'
    rw [List.getD_eq_getElem?_getD, hfi] at hQ
    have h1 := s4 _ _ h1
    refine ⟨rfl, ?_⟩
    wtm_at "rd"
    refine r_listA (.inl (SqL.of (s4 _ _ h2))) fun l n_l => ?_
    generalize eq_l : upd _ l _ = H5
    have s_l : Same _ H5 := eq_l ▸ same_new n_l
    have h_l : H5 l = some _ := eq_l ▸ upd_same
    clear eq_l
    have h1 := s_l _ _ h1
    have sl0 := s_l
    wtm_at "rd"
    refine r_new rfl fun u n_u => ?_
    generalize eq_u : upd _ u _ = H6
    have s_u : Same _ H6 := eq_u ▸ same_new n_u
    have h_u : H6 u = some _ := eq_u ▸ upd_same
    clear eq_u
    have h_l := s_u _ _ h_l
    have s_l := s_l.trans s_u
    exact hQ u _ ⟨fun z => eD (z ▸ (sl0.free n_u)), l, fun z => eD (z ▸ n_l), h_u, h_l⟩ s_l
  rw [List.length_map] at lds
  have hds : FxL H18 ds fs0 := ⟨by omega, fun j u v h1 h2 => by
    obtain ⟨_, b, _, z1, z2⟩ := hds j u h1
    rw [List.getD_eq_getElem?_getD, h2] at z1 z2
    exact ⟨b, z1, z2⟩⟩
  have D18 := D17.same s18
  have X := X.same s18
  have h_sg := s18 _ _ h_sg
  have hcs := hcs.same s18
  clear hll ht0 hbF hft hub hbU
  wtm_at "rd"
  refine ⟨p, sc, rfl, X.so, hg, fun q2 H19 s19 oS2 => ?_⟩
  have D19 := D18.same s19
  have X := X.same s19
  have h_sg := s19 _ _ h_sg
  have hcs := hcs.same s19
  have h_pr := s19 _ _ h_pr
  have hds := hds.same s19
  wtm_at "rd"
  refine make_fa (us := []) (fs := []) (bs := []) (ts := []) hg oS2 (.inr (T.eq_Facts___init___unique _)) All2.nil (.inr (T.eq_Facts___init___fixes _)) All2.nil (LstOk.nil (sc := sc)).sz LstOk.nil.flt fun f2 H20 s20 o2 _ => ?_
  have D20 := D19.same s20
  have X := X.same s20
  have h_sg := s20 _ _ h_sg
  have hcs := hcs.same s20
  have h_pr := s20 _ _ h_pr
  have hds := hds.same s20
  wtm_at "rd"
  refine r_new rfl fun e1 n_e1 => ?_
  generalize eq_e1 : upd _ e1 _ = H21
  have s_e1 : Same _ H21 := eq_e1 ▸ same_new n_e1
  have h_e1 : H21 e1 = some _ := eq_e1 ▸ upd_same
  clear eq_e1
  have D20 := D20.same s_e1
  have X := X.same s_e1
  have o2 := o2.same s_e1
  have hcs := hcs.same s_e1
  have hds := hds.same s_e1
  have h_sg := s_e1 _ _ h_sg
  have h_pr := s_e1 _ _ h_pr
  wtm_at "rd"
  refine r_new rfl fun e2 n_e2 => ?_
  generalize eq_e2 : upd _ e2 _ = H22
  have s_e2 : Same _ H22 := eq_e2 ▸ same_new n_e2
  have h_e2 : H22 e2 = some _ := eq_e2 ▸ upd_same
  clear eq_e2
  have D20 := D20.same s_e2
  have X := X.same s_e2
  have o2 := o2.same s_e2
  have hcs := hcs.same s_e2
  have hds := hds.same s_e2
  have h_sg := s_e2 _ _ h_sg
  have h_pr := s_e2 _ _ h_pr
  have h_e1 := s_e2 _ _ h_e1
  wtm_at "rd"
  refine r_new rfl fun t2 n_t2 => ?_
  generalize eq_t2 : upd _ t2 _ = H23
  have s_t2 : Same _ H23 := eq_t2 ▸ same_new n_t2
  have h_t2 : H23 t2 = some _ := eq_t2 ▸ upd_same
  clear eq_t2
  have D20 := D20.same s_t2
  have X := X.same s_t2
  have o2 := o2.same s_t2
  have hcs := hcs.same s_t2
  have hds := hds.same s_t2
  have h_sg := s_t2 _ _ h_sg
  have h_pr := s_t2 _ _ h_pr
  have h_e1 := s_t2 _ _ h_e1
  have h_e2 := s_t2 _ _ h_e2
  have L2_ : LstAt H23 t2 [] [] := ⟨e1, e2, h_t2, ⟨[], h_e1, All2.nil⟩, ⟨[], h_e2, All2.nil⟩⟩
  wtm_at "rd"
  refine r_new rfl fun k2 n_k2 => ?_
  generalize eq_k2 : upd _ k2 _ = H24
  have s_k2 : Same _ H24 := eq_k2 ▸ same_new n_k2
  have h_k2 : H24 k2 = some _ := eq_k2 ▸ upd_same
  clear eq_k2
  have D20 := D20.same s_k2
  have X := X.same s_k2
  have o2 := o2.same s_k2
  have hcs := hcs.same s_k2
  have hds := hds.same s_k2
  have L2_ := L2_.same s_k2
  have h_sg := s_k2 _ _ h_sg
  have h_pr := s_k2 _ _ h_pr
  wtm_at "rd"
  refine ⟨p, sc, rfl, X.so, hg, fun q3 H25 s25 oS3 => ?_⟩
  have D25 := D20.same s25
  have X := X.same s25
  have o2 := o2.same s25
  have L2_ := L2_.same s25
  have h_k2 := s25 _ _ h_k2
  have h_sg := s25 _ _ h_sg
  have hcs := hcs.same s25
  have h_pr := s25 _ _ h_pr
  have hds := hds.same s25
  wtm_at "rd"
  refine ⟨rfl, rfl, make_fa (us := []) (fs := fs0) (bs := []) (ts := ds) hg oS3 (.inr (T.eq_Facts___init___unique _)) All2.nil (.inl (SqL.of h_pr)) hds ho0.fs.sz ho0.fs.flt fun f3 H26 s26 o3 _ => ?_⟩
  have D26 := D25.same s26
  have X := X.same s26
  have o2 := o2.same s26
  have L2_ := L2_.same s26
  have h_k2 := s26 _ _ h_k2
  have h_sg := s26 _ _ h_sg
  have hcs := hcs.same s26
  have h_pr := s26 _ _ h_pr
  have hds := hds.same s26
  wtm_at "rd"
  refine r_new rfl fun e3 n_e3 => ?_
  generalize eq_e3 : upd _ e3 _ = H27
  have s_e3 : Same _ H27 := eq_e3 ▸ same_new n_e3
  have h_e3 : H27 e3 = some _ := eq_e3 ▸ upd_same
  clear eq_e3
  have D26 := D26.same s_e3
  have X := X.same s_e3
  have o2 := o2.same s_e3
  have o3 := o3.same s_e3
  have hcs := hcs.same s_e3
  have hds := hds.same s_e3
  have L2_ := L2_.same s_e3
  have h_sg := s_e3 _ _ h_sg
  have h_pr := s_e3 _ _ h_pr
  have h_k2 := s_e3 _ _ h_k2
  wtm_at "rd"
  refine r_new rfl fun t3 n_t3 => ?_
  generalize eq_t3 : upd _ t3 _ = H28
  have s_t3 : Same _ H28 := eq_t3 ▸ same_new n_t3
  have h_t3 : H28 t3 = some _ := eq_t3 ▸ upd_same
  clear eq_t3
  have D26 := D26.same s_t3
  have X := X.same s_t3
  have o2 := o2.same s_t3
  have o3 := o3.same s_t3
  have hcs := hcs.same s_t3
  have hds := hds.same s_t3
  have L2_ := L2_.same s_t3
  have h_sg := s_t3 _ _ h_sg
  have h_pr := s_t3 _ _ h_pr
  have h_k2 := s_t3 _ _ h_k2
  have h_e3 := s_t3 _ _ h_e3
  have L3_ : LstAt H28 t3 [] fs0 := ⟨e3, pr, h_t3, ⟨[], h_e3, All2.nil⟩, ⟨ds, h_pr, hds⟩⟩
  wtm_at "rd"
  refine r_new rfl fun k3 n_k3 => ?_
  generalize eq_k3 : upd _ k3 _ = H29
  have s_k3 : Same _ H29 := eq_k3 ▸ same_new n_k3
  have h_k3 : H29 k3 = some _ := eq_k3 ▸ upd_same
  clear eq_k3
  have D26 := D26.same s_k3
  have X := X.same s_k3
  have o2 := o2.same s_k3
  have o3 := o3.same s_k3
  have hcs := hcs.same s_k3
  have L2_ := L2_.same s_k3
  have L3_ := L3_.same s_k3
  have h_sg := s_k3 _ _ h_sg
  have h_k2 := s_k3 _ _ h_k2
  wtm_at "rd"
  refine r_new rfl fun so_ n_so_ => ?_
  have dso := D26.ned n_so_
  have rso := D26.ner n_so_
  have cso := D26.nec n_so_
  have sgso : sg ≠ so_ := ne_of_none h_sg n_so_
  have bso : ∀ b ∈ cs, b ≠ so_ := fun b hb => by
    obtain ⟨j, hj⟩ := List.getElem?_of_mem hb
    obtain ⟨u, _, hbu⟩ := hcs.get hj
    exact ne_of_none hbu n_so_
  have sN : Same H29 H29 := Same.refl _
  generalize eq_so_ : upd _ so_ _ = H30
  have s_so_ : Same _ H30 := eq_so_ ▸ same_new n_so_
  have h_so_ : H30 so_ = some _ := eq_so_ ▸ upd_same
  clear eq_so_
  have D26 := D26.same s_so_
  have hcs := hcs.same s_so_
  have h_sg := s_so_ _ _ h_sg
  have sN : Same H29 H30 := s_so_
  wtm_at "rd"
  refine r_tyL (SqL.of h_so_) ?_
  wtm_at "rd"
  refine ⟨p, sc, rfl, X.so.same sN, hg, fun q4 H31 s31 oS4 => ?_⟩
  have D31 := D26.same s31
  have h_so_ := s31 _ _ h_so_
  have h_sg := s31 _ _ h_sg
  have hcs := hcs.same s31
  have sN := sN.trans s31
  wtm_at "rd"
  refine ⟨rfl, rfl, make_fa (us := us0) (fs := []) (bs := cs) (ts := []) hg oS4 (.inl (SqL.of h_sg)) hcs (.inr (T.eq_Facts___init___fixes _)) All2.nil ho0.us.sz ho0.us.flt fun f4 H32 s32 o4 n4 => ?_⟩
  have n4 : FaNew (fun x => x ≠ so_) H32 f4 := n4.mono fun x nx z => by rw [z, h_so_] at nx; cases nx
  have D32 := D31.same s32
  have h_so_ := s32 _ _ h_so_
  have h_sg := s32 _ _ h_sg
  have hcs := hcs.same s32
  have sN := sN.trans s32
  wtm_at "rd"
  refine r_new rfl fun e4 n_e4 => ?_
  have e4so : e4 ≠ so_ := fun z => by rw [z, h_so_] at n_e4; cases n_e4
  generalize eq_e4 : upd _ e4 _ = H33
  have s_e4 : Same _ H33 := eq_e4 ▸ same_new n_e4
  have h_e4 : H33 e4 = some _ := eq_e4 ▸ upd_same
  clear eq_e4
  have D32 := D32.same s_e4
  have o4 := o4.same s_e4
  have n4 := n4.same s_e4
  have hcs := hcs.same s_e4
  have h_sg := s_e4 _ _ h_sg
  have h_so_ := s_e4 _ _ h_so_
  have sN := sN.trans s_e4
  wtm_at "rd"
  refine r_new rfl fun t4 n_t4 => ?_
  generalize eq_t4 : upd _ t4 _ = H34
  have s_t4 : Same _ H34 := eq_t4 ▸ same_new n_t4
  have h_t4 : H34 t4 = some _ := eq_t4 ▸ upd_same
  clear eq_t4
  have D32 := D32.same s_t4
  have o4 := o4.same s_t4
  have n4 := n4.same s_t4
  have hcs := hcs.same s_t4
  have h_sg := s_t4 _ _ h_sg
  have h_so_ := s_t4 _ _ h_so_
  have h_e4 := s_t4 _ _ h_e4
  have sN := sN.trans s_t4
  wtm_at "rd"
  refine r_new rfl fun k4 n_k4 => ?_
  generalize eq_k4 : upd _ k4 _ = H35
  have s_k4 : Same _ H35 := eq_k4 ▸ same_new n_k4
  have h_k4 : H35 k4 = some _ := eq_k4 ▸ upd_same
  clear eq_k4
  have D32 := D32.same s_k4
  have o4 := o4.same s_k4
  have n4 := n4.same s_k4
  have hcs := hcs.same s_k4
  have h_sg := s_k4 _ _ h_sg
  have h_so_ := s_k4 _ _ h_so_
  have h_e4 := s_k4 _ _ h_e4
  have h_t4 := s_k4 _ _ h_t4
  have sN := sN.trans s_k4
  wtm_at "rd"
  refine r_app h_so_ (Nat.le_of_ble_eq_true rfl) ?_
  have kk : ∀ b o, H35 b = some o → b ≠ so_ → (upd H35 so_ (.lst ([.ref k2, .ref k3] ++ [.ref k4]))) b = some o := fun b o e n => (upd_ne n).trans e
  have sF : Same H29 (upd H35 so_ (.lst ([.ref k2, .ref k3] ++ [.ref k4]))) := fun b o e => kk b o (sN _ _ e) (ne_of_none e n_so_)
  have hso : (upd H35 so_ (.lst ([.ref k2, .ref k3] ++ [.ref k4]))) so_ = some (.lst [.ref k2, .ref k3, .ref k4]) := upd_same
  have D36 := D32.put (o := .lst ([.ref k2, .ref k3] ++ [.ref k4])) dso rso cso
  generalize upd H35 so_ (.lst ([.ref k2, .ref k3] ++ [.ref k4])) = H36 at kk sF hso D36 ⊢
  have X := X.same sF
  have Z : T85 K T.C_Facts T.C_Scheme T.C_Sort sc us0 fs0 k2 k3 k4 f2 f3 f4 t2 t3 t4 so_ H36 := ⟨o2.same sF, o3.same sF, (o4.kd n4 h_so_ kk).1, L2_.same sF, L3_.same sF, ⟨sg, e4, kk _ _ h_t4 (ne_of h_t4 h_so_ fun z => nomatch z), ⟨cs, kk _ _ h_sg sgso, hcs.imp' fun b u hb z => kk _ _ z (bso b hb)⟩, ⟨[], kk _ _ h_e4 e4so, All2.nil⟩⟩, sF _ _ h_k2, sF _ _ h_k3, kk _ _ h_k4 (ne_of h_k4 h_so_ fun z => nomatch z), hso⟩
  wtm_at "rd"
  refine r_for (r_il ?_)
  wtm_at "rd"
  refine r_itl (SqL.of hso) ?_
  refine for_list (K := K) (a := so_) (xs := [V.ref k2, V.ref k3, V.ref k4]) (fun i σ H' => ∃ x12 x13 : Option V, σ = [some (.ref a), some (.ref d), some (.ref p), some (.ref ll), some (.ref fl), some (.ref co), some (.ref al), x7, x8, some (.ref sg), some (.ref pr), some (.ref so_), x12, x13, none, none, none, none, none] ∧ Drw H' d c r ∧ W85 K T.C_Facts T.C_Scheme T.C_Sort p t0 t1 f0 f1 a0 a1 ll fl al co sc us0 us1 fs0 fs1 g0 g1 H' ∧ T85 K T.C_Facts T.C_Scheme T.C_Sort sc us0 fs0 k2 k3 k4 f2 f3 f4 t2 t3 t4 so_ H') ⟨_, _, rfl, D36, X, Z⟩ (fun i σ H' _ ⟨_, _, _, _, _, z⟩ => SqL.of z.so_) ?_ ?_
  · rintro i v σ H37 hv ⟨x12, x13, rfl, D37, X, Z⟩
    have hm := List.mem_of_getElem? hv
    simp only [List.mem_cons, List.mem_nil_iff, or_false] at hm
    have hal := X.al_
    rcases hm with rfl | rfl | rfl
    · refine r_gtup (SqT.of Z.p2) rfl ?_
      wtm_at "rd"
      refine ⟨d, c, r, p, f2, t2, a0, sc, [], [], g0, rfl, D37, X.so, hg, Z.o2, Z.l2, LstOk.nil, X.b0, lg0.1, lg0.2, fun H' D' E' => ?_⟩
      wtm_at "rd"
      refine iteNT ?_
      wtm_at "rd"
      exact ⟨_, _, rfl, D', X.ext D37 E', Z.ext D37 E'⟩
    · refine r_gtup (SqT.of Z.p3) rfl ?_
      wtm_at "rd"
      refine ⟨d, c, r, p, f3, t3, a0, sc, [], fs0, g0, rfl, D37, X.so, hg, Z.o3, Z.l3, ho0.fs, X.b0, lg0.1, lg0.2, fun H' D' E' => ?_⟩
      wtm_at "rd"
      refine iteNT ?_
      wtm_at "rd"
      exact ⟨_, _, rfl, D', X.ext D37 E', Z.ext D37 E'⟩
    · refine r_gtup (SqT.of Z.p4) rfl ?_
      wtm_at "rd"
      refine ⟨d, c, r, p, f4, t4, a0, sc, us0, [], g0, rfl, D37, X.so, hg, Z.o4, Z.l4, ho0.us, X.b0, lg0.1, lg0.2, fun H' D' E' => ?_⟩
      wtm_at "rd"
      refine iteNT ?_
      wtm_at "rd"
      exact ⟨_, _, rfl, D', X.ext D37 E', Z.ext D37 E'⟩
  rintro σ H37 ⟨x12, x13, rfl, D37, X, _⟩
  wtm_at "rd"
  refine ⟨d, c, r, co, sc.cols, 2, rfl, D37, X.co_, by omega, fun st ws H38 n_st lws wws nws nwc h_st D38 E38 => ?_⟩
  obtain ⟨z0, z1, rfl⟩ : ∃ x y, ws = [x, y] := by
    match ws, lws with
    | [x, y], _ => exact ⟨x, y, rfl⟩
  have X := X.ext D37 E38
  have hal := X.al_
  have hfl := X.fl_
  have z0c : z0 ∉ sc.cols := nwc z0 List.mem_cons_self
  have wz0 := wws z0 List.mem_cons_self
  have lt2 : (g0.take 2).length ≤ 2 := by
    rw [List.length_take]
    omega
  wtm_at "rd"
  refine ⟨a0, _, rfl, SqL.of X.b0, fun s1 n_s1 => ?_⟩
  rw [show cutV (g0.map V.str) none (some 2) = (g0.take 2).map V.str from cut_pre (k := 2)]
  generalize eq_s1 : upd _ s1 _ = H39
  have s_s1 : Same _ H39 := eq_s1 ▸ same_new n_s1
  have h_s1 : H39 s1 = some _ := eq_s1 ▸ upd_same
  clear eq_s1
  have D38 := D38.same s_s1
  have X := X.same s_s1
  have h_st := s_s1 _ _ h_st
  wtm_at "rd"
  refine r_lenS h_s1 ?_
  wtm_at "rd"
  refine ⟨d, c, r, _, rfl, D38, by omega, by omega, fun sp H40 sp0 sp1 D40 E40 => ?_⟩
  have h_st := E40 _ _ h_st (strs_dr D38 h_st).1 (strs_dr D38 h_st).2
  have X := X.ext D38 E40
  obtain ⟨n, rfl⟩ : ∃ n : Nat, sp = (n : Int) := ⟨sp.toNat, by omega⟩
  have hal := X.al_
  have h_st2 : H40 st = some (.lst [.str z0, .str z1]) := h_st
  wtm_at "rd"
  refine ⟨a0, _, rfl, SqL.of X.b0, fun s2 n_s2 => ?_⟩
  rw [show cutV (g0.map V.str) none (some 2) = (g0.take 2).map V.str from cut_pre (k := 2)]
  generalize eq_s2 : upd _ s2 _ = H41
  have s_s2 : Same _ H41 := eq_s2 ▸ same_new n_s2
  have h_s2 : H41 s2 = some _ := eq_s2 ▸ upd_same
  clear eq_s2
  have D40 := D40.same s_s2
  have X := X.same s_s2
  have h_st := s_s2 _ _ h_st
  have h_st2 := s_s2 _ _ h_st2
  wtm_at "rd"
  refine ⟨s2, _, rfl, SqL.of h_s2, fun s3 n_s3 => ?_⟩
  rw [cut_pre]
  generalize eq_s3 : upd _ s3 _ = H42
  have s_s3 : Same _ H42 := eq_s3 ▸ same_new n_s3
  have h_s3 : H42 s3 = some _ := eq_s3 ▸ upd_same
  clear eq_s3
  have D40 := D40.same s_s3
  have X := X.same s_s3
  have h_st := s_s3 _ _ h_st
  have h_st2 := s_s3 _ _ h_st2
  wtm_at "rd"
  refine r_new rfl fun s4 n_s4 => ?_
  generalize eq_s4 : upd _ s4 _ = H43
  have s_s4 : Same _ H43 := eq_s4 ▸ same_new n_s4
  have h_s4 : H43 s4 = some _ := eq_s4 ▸ upd_same
  clear eq_s4
  have D40 := D40.same s_s4
  have X := X.same s_s4
  have h_st := s_s4 _ _ h_st
  have h_s3 := s_s4 _ _ h_s3
  have h_s4 : H43 s4 = some (.lst ([z0].map V.str)) := h_s4
  wtm_at "rd"
  refine ⟨s3, s4, _, _, rfl, rfl, h_s3, h_s4, Nat.le_of_lt (small1000 (by simp only [List.length_map, List.length_take, List.length_singleton]; omega)), fun s5 n_s5 => ?_⟩
  rw [← List.map_append]
  generalize eq_s5 : upd _ s5 _ = H44
  have s_s5 : Same _ H44 := eq_s5 ▸ same_new n_s5
  have h_s5 : H44 s5 = some _ := eq_s5 ▸ upd_same
  clear eq_s5
  have D40 := D40.same s_s5
  have X := X.same s_s5
  have h_st := s_s5 _ _ h_st
  have hal := X.al_
  wtm_at "rd"
  refine ⟨a0, _, rfl, SqL.of X.b0, fun s6 n_s6 => ?_⟩
  rw [show cutV (g0.map V.str) none (some 2) = (g0.take 2).map V.str from cut_pre (k := 2)]
  generalize eq_s6 : upd _ s6 _ = H45
  have s_s6 : Same _ H45 := eq_s6 ▸ same_new n_s6
  have h_s6 : H45 s6 = some _ := eq_s6 ▸ upd_same
  clear eq_s6
  have D40 := D40.same s_s6
  have X := X.same s_s6
  have h_st := s_s6 _ _ h_st
  have h_s5 := s_s6 _ _ h_s5
  wtm_at "rd"
  refine ⟨s6, _, rfl, SqL.of h_s6, fun s7 n_s7 => ?_⟩
  rw [cut_suf (by omega)]
  generalize eq_s7 : upd _ s7 _ = H46
  have s_s7 : Same _ H46 := eq_s7 ▸ same_new n_s7
  have h_s7 : H46 s7 = some _ := eq_s7 ▸ upd_same
  clear eq_s7
  have D40 := D40.same s_s7
  have X := X.same s_s7
  have h_st := s_s7 _ _ h_st
  have h_s5 := s_s7 _ _ h_s5
  wtm_at "rd"
  refine ⟨s5, s7, _, _, rfl, rfl, h_s5, h_s7, Nat.le_of_lt (small1000 (by simp only [List.length_map, List.length_append, List.length_take, List.length_drop, List.length_singleton]; omega)), fun s8 n_s8 => ?_⟩
  rw [← List.map_append]
  generalize eq_s8 : upd _ s8 _ = H47
  have s_s8 : Same _ H47 := eq_s8 ▸ same_new n_s8
  have h_s8 : H47 s8 = some _ := eq_s8 ▸ upd_same
  clear eq_s8
  have D40 := D40.same s_s8
  have X := X.same s_s8
  have h_st := s_s8 _ _ h_st
  wtm_at "rd"
  refine ⟨st, _, rfl, SqL.of h_st, fun s9 n_s9 => ?_⟩
  rw [show cutV ([z0, z1].map V.str) (some 1) none = ([z0, z1].drop 1).map V.str from cut_suf (k := 1) (by simp)]
  generalize eq_s9 : upd _ s9 _ = H48
  have s_s9 : Same _ H48 := eq_s9 ▸ same_new n_s9
  have h_s9 : H48 s9 = some _ := eq_s9 ▸ upd_same
  clear eq_s9
  have D40 := D40.same s_s9
  have X := X.same s_s9
  have h_st := s_s9 _ _ h_st
  have h_s8 := s_s9 _ _ h_s8
  wtm_at "rd"
  refine ⟨s8, s9, _, _, rfl, rfl, h_s8, h_s9, Nat.le_of_lt (small1000 (by simp only [List.length_map, List.length_append, List.length_take, List.length_drop, List.length_singleton, List.length_cons, List.length_nil]; omega)), fun s10 n_s10 => ?_⟩
  rw [← List.map_append]
  generalize eq_s10 : upd _ s10 _ = H49
  have s_s10 : Same _ H49 := eq_s10 ▸ same_new n_s10
  have h_s10 : H49 s10 = some _ := eq_s10 ▸ upd_same
  clear eq_s10
  have D40 := D40.same s_s10
  have X := X.same s_s10
  have h_st := s_s10 _ _ h_st
  have hfl := X.fl_
  have h_st2 : H49 st = some (.lst [.str z0, .str z1]) := h_st
  have kn : knownF sc ((g0.take 2).take n ++ [z0] ++ (g0.take 2).drop n ++ [z0, z1].drop 1) = some z0 := by
    unfold knownF
    rw [List.append_assoc, List.append_assoc, List.find?_append, List.find?_eq_none.mpr (fun y hy => ?_)]
    · rw [List.singleton_append, List.find?_cons, decide_eq_false z0c]
      rfl
    · rw [decide_eq_true (lg0.2 y (List.mem_of_mem_take (List.mem_of_mem_take hy)))]
      exact Bool.false_ne_true
  wtm_at "rd"
  refine ⟨f0, s10, z0, sc, us0, fs0, _, rfl, X.o0, hg, ho0.sz, h_s10, by simp only [List.length_append, List.length_take, List.length_drop, List.length_singleton, List.length_cons, List.length_nil]; omega, kn, wz0, fun H50 s50 => ?_⟩
  have D50 := D40.same s50
  have X := X.same s50
  have hal := X.al_
  have hfl := X.fl_
  have hll := X.ll_
  wtm_at "rd"
  refine iteNT ?_
  wtm_at "rd"
  refine ⟨a0, _, rfl, SqL.of X.b0, fun rv n_rv => ?_⟩
  rw [← List.map_reverse]
  generalize eq_rv : upd _ rv _ = H51
  have s_rv : Same _ H51 := eq_rv ▸ same_new n_rv
  have h_rv : H51 rv = some _ := eq_rv ▸ upd_same
  clear eq_rv
  have D50 := D50.same s_rv
  have X := X.same s_rv
  exact ⟨d, c, r, p, f0, t0, rv, sc, us0, fs0, g0.reverse, rfl, D50, X.so, hg, X.o0, X.l0, ho0, h_rv, by rw [List.length_reverse]; exact lg0.1, fun z hz => lg0.2 z (List.mem_reverse.mp hz), fun H' _ _ => q H'⟩

end
theorem all_mk {l : PySem.W.OpenLaw} {w : World} {K : PySem.W.Frag} {h : Heap} {mg : Str → Option Value} {fa : Addr} (X : K.In h) (G : h.Ns mainGlobals mg) (hfa : mg "law" = some (.ref fa)) (c : SaysQ fns K) (xx : (xB Rl K).all id = true)
    : ∃ fd : FuncData, (∀ (s : Shared) (v : Value), BindsTo s fd ⟨[v], []⟩ [("_law_script", v)]) ∧ ∀ base : Heap, K.In base → base.Ns mainGlobals mg → FnOk l.prog w K mg base CX0 12 fa fd ["_law_script"] (spLaw K) := by
  unfold xB at xx
  simp only [List.all_append, Bool.and_eq_true] at xx
  obtain ⟨⟨⟨⟨⟨⟨⟨x0, x1⟩, x2⟩, x3⟩, x4⟩, x5⟩, x6⟩, x7⟩ := xx
  obtain ⟨⟨dd0, D0⟩, i0⟩ := c.def_ 0 (d := fd0) rfl
  have a0 := He.eqO_ok (ax_ x0 0)
  have k0 := D0.kp
  have F0 : Fun K "__init__" "BadScheme.__init__" s_BadScheme___init__ (He.ma K (He.ga K "BadScheme") "__init__") dd0 := fun_of_D D0
  have b0 := F0.binds (ps := ["self", "word"]) fun _ _ _ _ _ _ us hl => match us, hl with | [_, _], _ => rfl
  obtain ⟨⟨dd1, D1⟩, i1⟩ := c.def_ 1 (d := fd1) rfl
  have a1 := He.eqO_ok (ax_ x0 1)
  have k1 := D1.kp
  have F1 : Fun K "__init__" "UnknownColumn.__init__" s_UnknownColumn___init__ (He.ma K (He.ga K "UnknownColumn") "__init__") dd1 := fun_of_D D1
  have b1 := F1.binds (ps := ["self", "name"]) fun _ _ _ _ _ _ us hl => match us, hl with | [_, _], _ => rfl
  obtain ⟨⟨dd2, D2⟩, i2⟩ := c.def_ 2 (d := fd2) rfl
  have a2 := He.eqO_ok (ax_ x0 2)
  have k2 := D2.kp
  have F2 : Fun K "__init__" "BadUnique.__init__" s_BadUnique___init__ (He.ma K (He.ga K "BadUnique") "__init__") dd2 := fun_of_D D2
  have b2 := F2.binds (ps := ["self", "index"]) fun _ _ _ _ _ _ us hl => match us, hl with | [_, _], _ => rfl
  obtain ⟨⟨dd3, D3⟩, i3⟩ := c.def_ 3 (d := fd3) rfl
  have a3 := He.eqO_ok (ax_ x0 3)
  have k3 := D3.kp
  have F3 : Fun K "__init__" "BadFix.__init__" s_BadFix___init__ (He.ma K (He.ga K "BadFix") "__init__") dd3 := fun_of_D D3
  have b3 := F3.binds (ps := ["self", "index"]) fun _ _ _ _ _ _ us hl => match us, hl with | [_, _], _ => rfl
  obtain ⟨⟨dd4, D4⟩, i4⟩ := c.def_ 4 (d := fd4) rfl
  have a4 := (show (He.Fa.glo "known").ok K = true from ax_ x0 4)
  have F4 : Fun K "known" "known" s_known (He.ga K "known") dd4 := fun_of_D D4
  have b4 := F4.binds (ps := ["scheme", "columns"]) fun _ _ _ _ _ _ us hl => match us, hl with | [_, _], _ => rfl
  obtain ⟨⟨dd5, D5⟩, i5⟩ := c.def_ 5 (d := fd5) rfl
  have a5 := (show (He.Fa.glo "usable").ok K = true from ax_ x0 5)
  have F5 : Fun K "usable" "usable" s_usable (He.ga K "usable") dd5 := fun_of_D D5
  have b5 := F5.binds (ps := ["scheme", "columns"]) fun _ _ _ _ _ _ us hl => match us, hl with | [_, _], _ => rfl
  obtain ⟨⟨dd6, D6⟩, i6⟩ := c.def_ 6 (d := fd6) rfl
  have a6 := He.eqO_ok (ax_ x0 6)
  have k6 := D6.kp
  have F6 : Fun K "__init__" "Facts.__init__" s_Facts___init__ (He.ma K (He.ga K "Facts") "__init__") dd6 := fun_of_D D6
  have D6 : FunD K "__init__" "Facts.__init__" (defArgs s_Facts___init__) (defBody s_Facts___init__) (defScope s_Facts___init__) [] [("unique", V.ref (kwA K (He.ma K (He.ga K "Facts") "__init__") "unique")), ("fixes", V.ref (kwA K (He.ma K (He.ga K "Facts") "__init__") "fixes"))] (He.ma K (He.ga K "Facts") "__init__") dd6 := D6
  obtain ⟨ds6, rds6, bd6⟩ := D6.binds0 (ps := ["self", "scheme", "unique", "fixes"]) 2 (by simp) rfl fun D doc pm an cdv ct us ks hl hk => match us, ks, hl, hk with | [_, _], [_, _], _, _ => ⟨_, _, _, _, _, _, rfl, rfl, ⟨_, _, _, _, _, _, rfl, rfl, rfl⟩⟩
  obtain ⟨mv6U, kn6U⟩ := D6.kbinds0 (ps := ["self", "scheme", "unique", "fixes"]) 2 ["unique"] [("fixes", V.ref (kwA K (He.ma K (He.ga K "Facts") "__init__") "fixes"))] (fun us mv ws => us ++ ws ++ mv) (by simp) (by simp) (fun a b c => (a.append c).append b) fun D doc pm an cdv ct us mv ws h1 h2 h3 => match us, mv, ws, h1, h2, h3 with | [_, _], [_], [_], _, _, _ => ⟨_, _, _, _, _, _, rfl, rfl, rfl⟩
  obtain ⟨mv6X, kn6X⟩ := D6.kbinds0 (ps := ["self", "scheme", "unique", "fixes"]) 2 ["fixes"] [("unique", V.ref (kwA K (He.ma K (He.ga K "Facts") "__init__") "unique"))] (fun us mv ws => us ++ mv ++ ws) (by simp) (by simp) (fun a b c => (a.append b).append c) fun D doc pm an cdv ct us mv ws h1 h2 h3 => match us, mv, ws, h1, h2, h3 with | [_, _], [_], [_], _, _, _ => ⟨_, _, _, _, _, _, rfl, rfl, rfl⟩
  obtain ⟨mv6UX, kn6UX⟩ := D6.kbinds0 (ps := ["self", "scheme", "unique", "fixes"]) 2 ["unique", "fixes"] [] (fun us mv ws => us ++ ws) (by simp) (by simp) (fun a b c => a.append c) fun D doc pm an cdv ct us mv ws h1 h2 h3 => match us, mv, ws, h1, h2, h3 with | [_, _], [], [_, _], _, _, _ => rfl
  obtain ⟨it6_unique, nn6_unique, sl6_unique, le6_unique, ve6_unique⟩ := tupB_ok (ax_ x0 7)
  obtain ⟨it6_fixes, nn6_fixes, sl6_fixes, le6_fixes, ve6_fixes⟩ := tupB_ok (ax_ x0 8)
  obtain ⟨⟨dd7, D7⟩, i7⟩ := c.def_ 7 (d := fd7) rfl
  have a7 := He.eqO_ok (ax_ x0 9)
  have k7 := D7.kp
  have F7 : Fun K "reached" "Facts.reached" s_Facts_reached (He.ma K (He.ga K "Facts") "reached") dd7 := fun_of_D D7
  have b7 := F7.binds (ps := ["self", "columns"]) fun _ _ _ _ _ _ us hl => match us, hl with | [_, _], _ => rfl
  obtain ⟨⟨dd8, D8⟩, i8⟩ := c.def_ 8 (d := fd8) rfl
  have a8 := He.eqO_ok (ax_ x0 10)
  have k8 := D8.kp
  have F8 : Fun K "closure" "Facts.closure" s_Facts_closure (He.ma K (He.ga K "Facts") "closure") dd8 := fun_of_D D8
  obtain ⟨⟨dd9, D9⟩, i9⟩ := c.def_ 9 (d := fd9) rfl
  have a9 := He.eqO_ok (ax_ x0 11)
  have k9 := D9.kp
  have F9 : Fun K "chain" "Facts.chain" s_Facts_chain (He.ma K (He.ga K "Facts") "chain") dd9 := fun_of_D D9
  obtain ⟨⟨dd10, D10⟩, i10⟩ := c.def_ 10 (d := fd10) rfl
  have a10 := He.eqO_ok (ax_ x0 12)
  have k10 := D10.kp
  have F10 : Fun K "no_twins" "Facts.no_twins" s_Facts_no_twins (He.ma K (He.ga K "Facts") "no_twins") dd10 := fun_of_D D10
  obtain ⟨⟨dd11, D11⟩, i11⟩ := c.def_ 11 (d := fd11) rfl
  have a11 := (show (He.Fa.glo "is_name").ok K = true from ax_ x0 13)
  have F11 : Fun K "is_name" "is_name" s_is_name (He.ga K "is_name") dd11 := fun_of_D D11
  have b11 := F11.binds (ps := ["thing"]) fun _ _ _ _ _ _ us hl => match us, hl with | [_], _ => rfl
  obtain ⟨⟨dd12, D12⟩, i12⟩ := c.def_ 12 (d := fd12) rfl
  have a12 := (show (He.Fa.glo "first_double").ok K = true from ax_ x0 14)
  have F12 : Fun K "first_double" "first_double" s_first_double (He.ga K "first_double") dd12 := fun_of_D D12
  have b12 := F12.binds (ps := ["words"]) fun _ _ _ _ _ _ us hl => match us, hl with | [_], _ => rfl
  obtain ⟨⟨dd13, D13⟩, i13⟩ := c.def_ 13 (d := fd13) rfl
  have a13 := He.eqO_ok (ax_ x0 15)
  have k13 := D13.kp
  have F13 : Fun K "__init__" "Sort.__init__" s_Sort___init__ (He.ma K (He.ga K "Sort") "__init__") dd13 := fun_of_D D13
  obtain ⟨⟨dd14, D14⟩, i14⟩ := c.def_ 14 (d := fd14) rfl
  have a14 := He.eqO_ok (ax_ x0 16)
  have k14 := D14.kp
  have F14 : Fun K "__eq__" "Sort.__eq__" s_Sort___eq__ (He.ma K (He.ga K "Sort") "__eq__") dd14 := fun_of_D D14
  have b14 := F14.binds (ps := ["self", "other"]) fun _ _ _ _ _ _ us hl => match us, hl with | [_, _], _ => rfl
  obtain ⟨⟨dd15, D15⟩, i15⟩ := c.def_ 15 (d := fd15) rfl
  have a15 := He.eqO_ok (ax_ x0 17)
  have k15 := D15.kp
  have F15 : Fun K "__init__" "Scheme.__init__" s_Scheme___init__ (He.ma K (He.ga K "Scheme") "__init__") dd15 := fun_of_D D15
  obtain ⟨⟨dd16, D16⟩, i16⟩ := c.def_ 16 (d := fd16) rfl
  have a16 := He.eqO_ok (ax_ x0 18)
  have k16 := D16.kp
  have F16 : Fun K "inspect" "Scheme.inspect" s_Scheme_inspect (He.ma K (He.ga K "Scheme") "inspect") dd16 := fun_of_D D16
  have b16 := F16.binds (ps := ["self"]) fun _ _ _ _ _ _ us hl => match us, hl with | [_], _ => rfl
  obtain ⟨⟨dd17, D17⟩, i17⟩ := c.def_ 17 (d := fd17) rfl
  have a17 := He.eqO_ok (ax_ x0 19)
  have k17 := D17.kp
  have F17 : Fun K "columns" "Scheme.columns" s_Scheme_columns (He.ma K (He.ga K "Scheme") "columns") dd17 := fun_of_D D17
  have b17 := F17.binds (ps := ["self"]) fun _ _ _ _ _ _ us hl => match us, hl with | [_], _ => rfl
  obtain ⟨⟨dd18, D18⟩, i18⟩ := c.def_ 18 (d := fd18) rfl
  have a18 := He.eqO_ok (ax_ x1 0)
  have k18 := D18.kp
  have F18 : Fun K "sort_names" "Scheme.sort_names" s_Scheme_sort_names (He.ma K (He.ga K "Scheme") "sort_names") dd18 := fun_of_D D18
  have b18 := F18.binds (ps := ["self"]) fun _ _ _ _ _ _ us hl => match us, hl with | [_], _ => rfl
  obtain ⟨⟨dd19, D19⟩, i19⟩ := c.def_ 19 (d := fd19) rfl
  have a19 := He.eqO_ok (ax_ x1 1)
  have k19 := D19.kp
  have F19 : Fun K "__eq__" "Scheme.__eq__" s_Scheme___eq__ (He.ma K (He.ga K "Scheme") "__eq__") dd19 := fun_of_D D19
  have b19 := F19.binds (ps := ["self", "other"]) fun _ _ _ _ _ _ us hl => match us, hl with | [_, _], _ => rfl
  obtain ⟨⟨dd20, D20⟩, i20⟩ := c.def_ 20 (d := fd20) rfl
  have a20 := (show (He.Fa.glo "_law_begin").ok K = true from ax_ x1 2)
  have F20 : Fun K "_law_begin" "_law_begin" s__law_begin (He.ga K "_law_begin") dd20 := fun_of_D D20
  have b20 := F20.binds (ps := ["_law_script"]) fun _ _ _ _ _ _ us hl => match us, hl with | [_], _ => rfl
  obtain ⟨⟨dd21, D21⟩, i21⟩ := c.def_ 21 (d := fd21) rfl
  have a21 := (show (He.Fa.glo "_law_draw").ok K = true from ax_ x1 3)
  have F21 : Fun K "_law_draw" "_law_draw" s__law_draw (He.ga K "_law_draw") dd21 := fun_of_D D21
  have b21 := F21.binds (ps := ["_law_draws", "_law_many"]) fun _ _ _ _ _ _ us hl => match us, hl with | [_, _], _ => rfl
  obtain ⟨⟨dd22, D22⟩, i22⟩ := c.def_ 22 (d := fd22) rfl
  have a22 := (show (He.Fa.glo "_law_name").ok K = true from ax_ x1 4)
  have F22 : Fun K "_law_name" "_law_name" s__law_name (He.ga K "_law_name") dd22 := fun_of_D D22
  have b22 := F22.binds (ps := ["_law_draws", "_law_taken"]) fun _ _ _ _ _ _ us hl => match us, hl with | [_, _], _ => rfl
  obtain ⟨⟨dd23, D23⟩, i23⟩ := c.def_ 23 (d := fd23) rfl
  have a23 := (show (He.Fa.glo "_law_names").ok K = true from ax_ x1 5)
  have F23 : Fun K "_law_names" "_law_names" s__law_names (He.ga K "_law_names") dd23 := fun_of_D D23
  have b23 := F23.binds (ps := ["_law_draws", "_law_taken", "_law_many"]) fun _ _ _ _ _ _ us hl => match us, hl with | [_, _, _], _ => rfl
  obtain ⟨⟨dd24, D24⟩, i24⟩ := c.def_ 24 (d := fd24) rfl
  have a24 := (show (He.Fa.glo "_law_spec").ok K = true from ax_ x1 6)
  have F24 : Fun K "_law_spec" "_law_spec" s__law_spec (He.ga K "_law_spec") dd24 := fun_of_D D24
  have b24 := F24.binds (ps := ["_law_draws", "_law_most"]) fun _ _ _ _ _ _ us hl => match us, hl with | [_, _], _ => rfl
  obtain ⟨⟨dd25, D25⟩, i25⟩ := c.def_ 25 (d := fd25) rfl
  have a25 := (show (He.Fa.glo "_law_scheme").ok K = true from ax_ x1 7)
  have F25 : Fun K "_law_scheme" "_law_scheme" s__law_scheme (He.ga K "_law_scheme") dd25 := fun_of_D D25
  have b25 := F25.binds (ps := ["_law_spec_here"]) fun _ _ _ _ _ _ us hl => match us, hl with | [_], _ => rfl
  obtain ⟨⟨dd26, D26⟩, i26⟩ := c.def_ 26 (d := fd26) rfl
  have a26 := (show (He.Fa.glo "_law_whole").ok K = true from ax_ x1 8)
  have F26 : Fun K "_law_whole" "_law_whole" s__law_whole (He.ga K "_law_whole") dd26 := fun_of_D D26
  have b26 := F26.binds (ps := ["_law_x"]) fun _ _ _ _ _ _ us hl => match us, hl with | [_], _ => rfl
  obtain ⟨⟨dd27, D27⟩, i27⟩ := c.def_ 27 (d := fd27) rfl
  have a27 := (show (He.Fa.glo "_law_columns").ok K = true from ax_ x1 9)
  have F27 : Fun K "_law_columns" "_law_columns" s__law_columns (He.ga K "_law_columns") dd27 := fun_of_D D27
  have b27 := F27.binds (ps := ["_law_spec_here"]) fun _ _ _ _ _ _ us hl => match us, hl with | [_], _ => rfl
  obtain ⟨⟨dd28, D28⟩, i28⟩ := c.def_ 28 (d := fd28) rfl
  have a28 := (show (He.Fa.glo "_law_left").ok K = true from ax_ x1 10)
  have F28 : Fun K "_law_left" "_law_left" s__law_left (He.ga K "_law_left") dd28 := fun_of_D D28
  have b28 := F28.binds (ps := ["_law_draws", "_law_spec_here"]) fun _ _ _ _ _ _ us hl => match us, hl with | [_, _], _ => rfl
  obtain ⟨⟨dd29, D29⟩, i29⟩ := c.def_ 29 (d := fd29) rfl
  have a29 := (show (He.Fa.glo "_law_fact_lists").ok K = true from ax_ x1 11)
  have F29 : Fun K "_law_fact_lists" "_law_fact_lists" s__law_fact_lists (He.ga K "_law_fact_lists") dd29 := fun_of_D D29
  have b29 := F29.binds (ps := ["_law_draws", "_law_spec_here"]) fun _ _ _ _ _ _ us hl => match us, hl with | [_, _], _ => rfl
  obtain ⟨⟨dd30, D30⟩, i30⟩ := c.def_ 30 (d := fd30) rfl
  have a30 := (show (He.Fa.glo "_law_facts").ok K = true from ax_ x1 12)
  have F30 : Fun K "_law_facts" "_law_facts" s__law_facts (He.ga K "_law_facts") dd30 := fun_of_D D30
  have b30 := F30.binds (ps := ["_law_spec_here", "_law_lists"]) fun _ _ _ _ _ _ us hl => match us, hl with | [_, _], _ => rfl
  obtain ⟨⟨dd31, D31⟩, i31⟩ := c.def_ 31 (d := fd31) rfl
  have a31 := (show (He.Fa.glo "_law_closed").ok K = true from ax_ x1 13)
  have F31 : Fun K "_law_closed" "_law_closed" s__law_closed (He.ga K "_law_closed") dd31 := fun_of_D D31
  have b31 := F31.binds (ps := ["_law_lists", "_law_given"]) fun _ _ _ _ _ _ us hl => match us, hl with | [_, _], _ => rfl
  obtain ⟨⟨dd32, D32⟩, i32⟩ := c.def_ 32 (d := fd32) rfl
  have a32 := (show (He.Fa.glo "_law_ask").ok K = true from ax_ x1 14)
  have F32 : Fun K "_law_ask" "_law_ask" s__law_ask (He.ga K "_law_ask") dd32 := fun_of_D D32
  have b32 := F32.binds (ps := ["_law_facts_here", "_law_which", "_law_given"]) fun _ _ _ _ _ _ us hl => match us, hl with | [_, _, _], _ => rfl
  obtain ⟨⟨dd33, D33⟩, i33⟩ := c.def_ 33 (d := fd33) rfl
  have a33 := (show (He.Fa.glo "_law_asked_right").ok K = true from ax_ x1 15)
  have F33 : Fun K "_law_asked_right" "_law_asked_right" s__law_asked_right (He.ga K "_law_asked_right") dd33 := fun_of_D D33
  have b33 := F33.binds (ps := ["_law_draws", "_law_spec_here", "_law_facts_here", "_law_lists", "_law_given"]) fun _ _ _ _ _ _ us hl => match us, hl with | [_, _, _, _, _], _ => rfl
  obtain ⟨⟨dd34, D34⟩, i34⟩ := c.def_ 34 (d := fd34) rfl
  have a34 := (show (He.Fa.glo "_law_refused").ok K = true from ax_ x1 16)
  have F34 : Fun K "_law_refused" "_law_refused" s__law_refused (He.ga K "_law_refused") dd34 := fun_of_D D34
  have b34 := F34.binds (ps := ["_law_facts_here", "_law_given", "_law_strange"]) fun _ _ _ _ _ _ us hl => match us, hl with | [_, _, _], _ => rfl
  obtain ⟨⟨dd35, D35⟩, i35⟩ := c.def_ 35 (d := fd35) rfl
  have a35 := (show (He.Fa.glo "_law_closure").ok K = true from ax_ x1 17)
  have F35 : Fun K "_law_closure" "_law_closure" s__law_closure (He.ga K "_law_closure") dd35 := fun_of_D D35
  have b35 := F35.binds (ps := ["_law_facts_here", "_law_given"]) fun _ _ _ _ _ _ us hl => match us, hl with | [_, _], _ => rfl
  obtain ⟨⟨dd36, D36⟩, i36⟩ := c.def_ 36 (d := fd36) rfl
  have a36 := (show (He.Fa.glo "_law_chain").ok K = true from ax_ x1 18)
  have F36 : Fun K "_law_chain" "_law_chain" s__law_chain (He.ga K "_law_chain") dd36 := fun_of_D D36
  have b36 := F36.binds (ps := ["_law_facts_here", "_law_given"]) fun _ _ _ _ _ _ us hl => match us, hl with | [_, _], _ => rfl
  obtain ⟨⟨dd37, D37⟩, i37⟩ := c.def_ 37 (d := fd37) rfl
  have a37 := (show (He.Fa.glo "_law_no_twins").ok K = true from ax_ x1 19)
  have F37 : Fun K "_law_no_twins" "_law_no_twins" s__law_no_twins (He.ga K "_law_no_twins") dd37 := fun_of_D D37
  have b37 := F37.binds (ps := ["_law_facts_here", "_law_given"]) fun _ _ _ _ _ _ us hl => match us, hl with | [_, _], _ => rfl
  obtain ⟨⟨dd38, D38⟩, i38⟩ := c.def_ 38 (d := fd38) rfl
  have a38 := (show (He.Fa.glo "_law_walked").ok K = true from ax_ x2 0)
  have F38 : Fun K "_law_walked" "_law_walked" s__law_walked (He.ga K "_law_walked") dd38 := fun_of_D D38
  have b38 := F38.binds (ps := ["_law_lists", "_law_given", "_law_chain_here"]) fun _ _ _ _ _ _ us hl => match us, hl with | [_, _, _], _ => rfl
  obtain ⟨⟨dd39, D39⟩, i39⟩ := c.def_ 39 (d := fd39) rfl
  have a39 := (show (He.Fa.glo "law").ok K = true from ax_ x2 1)
  have F39 : Fun K "law" "law" s_law (He.ga K "law") dd39 := fun_of_D D39
  have b39 := F39.binds (ps := ["_law_script"]) fun _ _ _ _ _ _ us hl => match us, hl with | [_], _ => rfl
  have aC_WindowError := of_decide_eq_true (show (He.Fa.glo "WindowError").ok K = true from ax_ x2 2)
  have ex_WindowError : PySem.W.subIn K (.ref (He.ga K "WindowError")) (.type "BaseException") = some true := of_decide_eq_true (ax_ x2 3)
  have ty_WindowError : PySem.W.typeIn K (.ref (He.ga K "WindowError")) = some (.type "type") := of_decide_eq_true (ax_ x2 4)
  have hd_WindowError : PySem.W.hasDictIn K (He.ga K "WindowError") = true := ax_ x2 5
  have aC_BadScheme := of_decide_eq_true (show (He.Fa.glo "BadScheme").ok K = true from ax_ x2 6)
  have ex_BadScheme : PySem.W.subIn K (.ref (He.ga K "BadScheme")) (.type "BaseException") = some true := of_decide_eq_true (ax_ x2 7)
  have ty_BadScheme : PySem.W.typeIn K (.ref (He.ga K "BadScheme")) = some (.type "type") := of_decide_eq_true (ax_ x2 8)
  have hd_BadScheme : PySem.W.hasDictIn K (He.ga K "BadScheme") = true := ax_ x2 9
  obtain ⟨nm_BadScheme, q_BadScheme, N_BadScheme, bs_BadScheme, bm_BadScheme, sn_BadScheme, sub_BadScheme, ab_BadScheme, col_BadScheme, dd_BadScheme, m0_BadScheme, m1_BadScheme, m2_BadScheme, m3_BadScheme, m5_BadScheme, xL_BadScheme, bmr_BadScheme⟩ := oexB_ok (ax_ x2 10)
  have sa_BadScheme : PySem.W.findIn K (.ref (He.ga K "BadScheme")) "__setattr__" = some (some (.builtin "object.__setattr__")) := of_decide_eq_true (ax_ x2 11)
  have kc_BadScheme : PySem.W.keepIn K (.ref (He.ga K "BadScheme")) = true := ax_ x2 12
  have ga_BadScheme : PySem.W.findIn K (.ref (He.ga K "BadScheme")) "__getattribute__" = some (some (.builtin "BaseException.__getattribute__")) := of_decide_eq_true (ax_ x2 13)
  have gg_BadScheme : PySem.W.findIn K (.ref (He.ga K "BadScheme")) "__getattr__" = some none := of_decide_eq_true (ax_ x2 14)
  have tI_BadScheme : PySem.W.typeIn K (.ref (He.ma K (He.ga K "BadScheme") "__init__")) = some (.type "function") := of_decide_eq_true (ax_ x2 15)
  have nf_BadScheme_word : PySem.W.findIn K (.ref (He.ga K "BadScheme")) "word" = some none := of_decide_eq_true (ax_ x2 16)
  have aC_Sort := of_decide_eq_true (show (He.Fa.glo "Sort").ok K = true from ax_ x2 17)
  have pg_Sort : PySem.W.plainGet K (He.ga K "Sort") Str.empty = true := ax_ x2 18
  have hd_Sort : PySem.W.hasDictIn K (He.ga K "Sort") = true := ax_ x2 19
  have po_Sort : PySem.W.plainOver K (He.ga K "Sort") = true := ax_ x3 0
  have sa_Sort : PySem.W.findIn K (.ref (He.ga K "Sort")) "__setattr__" = some (some (.builtin "object.__setattr__")) := of_decide_eq_true (ax_ x3 1)
  have mk_Sort : PySem.W.makesIn K (He.ga K "Sort") = true := ax_ x3 2
  have kc_Sort : PySem.W.keepIn K (.ref (He.ga K "Sort")) = true := ax_ x3 3
  have nf_Sort_name : PySem.W.findIn K (.ref (He.ga K "Sort")) "name" = some none := of_decide_eq_true (ax_ x3 4)
  have nf_Sort_key : PySem.W.findIn K (.ref (He.ga K "Sort")) "key" = some none := of_decide_eq_true (ax_ x3 5)
  have nf_Sort_part : PySem.W.findIn K (.ref (He.ga K "Sort")) "part" = some none := of_decide_eq_true (ax_ x3 6)
  have nf_Sort_descending : PySem.W.findIn K (.ref (He.ga K "Sort")) "descending" = some none := of_decide_eq_true (ax_ x3 7)
  have ca_Sort : PySem.W.findIn K (.ref (He.ga K "Sort")) "__class__" = some (some (.builtin "object.__class__")) := of_decide_eq_true (ax_ x3 8)
  have cn_Sort : PySem.W.specialIn K (.builtin "object.__class__") "__get__" = some (some (.builtin "getset_descriptor.__get__")) := of_decide_eq_true (ax_ x3 9)
  have ct_Sort : PySem.W.takesIn K (.builtin "object.__class__") = some true := of_decide_eq_true (ax_ x3 10)
  have cm_Sort : PySem.W.mroIn K (He.ga K "Sort") (.type "object") = some true := of_decide_eq_true (ax_ x3 11)
  have nt_Sort : PySem.W.notFirst K (He.ga K "Sort") (.ref (He.ga K "Sort")) = true := ax_ x3 12
  have aC_Scheme := of_decide_eq_true (show (He.Fa.glo "Scheme").ok K = true from ax_ x3 13)
  have pg_Scheme : PySem.W.plainGet K (He.ga K "Scheme") Str.empty = true := ax_ x3 14
  have hd_Scheme : PySem.W.hasDictIn K (He.ga K "Scheme") = true := ax_ x3 15
  have po_Scheme : PySem.W.plainOver K (He.ga K "Scheme") = true := ax_ x3 16
  have sa_Scheme : PySem.W.findIn K (.ref (He.ga K "Scheme")) "__setattr__" = some (some (.builtin "object.__setattr__")) := of_decide_eq_true (ax_ x3 17)
  have mk_Scheme : PySem.W.makesIn K (He.ga K "Scheme") = true := ax_ x3 18
  have kc_Scheme : PySem.W.keepIn K (.ref (He.ga K "Scheme")) = true := ax_ x3 19
  have nf_Scheme_sorts : PySem.W.findIn K (.ref (He.ga K "Scheme")) "sorts" = some none := of_decide_eq_true (ax_ x4 0)
  have nf_Scheme_part_columns : PySem.W.findIn K (.ref (He.ga K "Scheme")) "part_columns" = some none := of_decide_eq_true (ax_ x4 1)
  have nf_Scheme_value_columns : PySem.W.findIn K (.ref (He.ga K "Scheme")) "value_columns" = some none := of_decide_eq_true (ax_ x4 2)
  have nf_Scheme_mark_columns : PySem.W.findIn K (.ref (He.ga K "Scheme")) "mark_columns" = some none := of_decide_eq_true (ax_ x4 3)
  have ca_Scheme : PySem.W.findIn K (.ref (He.ga K "Scheme")) "__class__" = some (some (.builtin "object.__class__")) := of_decide_eq_true (ax_ x4 4)
  have cn_Scheme : PySem.W.specialIn K (.builtin "object.__class__") "__get__" = some (some (.builtin "getset_descriptor.__get__")) := of_decide_eq_true (ax_ x3 9)
  have ct_Scheme : PySem.W.takesIn K (.builtin "object.__class__") = some true := of_decide_eq_true (ax_ x3 10)
  have cm_Scheme : PySem.W.mroIn K (He.ga K "Scheme") (.type "object") = some true := of_decide_eq_true (ax_ x4 5)
  have ne_Scheme : PySem.W.findIn K (.ref (He.ga K "Scheme")) "__ne__" = some (some (.builtin "object.__ne__")) := of_decide_eq_true (ax_ x4 6)
  have ob_Scheme : PySem.W.subIn K (.ref (He.ga K "Scheme")) (.type "object") = some true := of_decide_eq_true (ax_ x4 7)
  have nt_Scheme : PySem.W.notFirst K (He.ga K "Scheme") (.ref (He.ga K "Scheme")) = true := ax_ x4 8
  have aC_UnknownColumn := of_decide_eq_true (show (He.Fa.glo "UnknownColumn").ok K = true from ax_ x4 9)
  have ex_UnknownColumn : PySem.W.subIn K (.ref (He.ga K "UnknownColumn")) (.type "BaseException") = some true := of_decide_eq_true (ax_ x4 10)
  have ty_UnknownColumn : PySem.W.typeIn K (.ref (He.ga K "UnknownColumn")) = some (.type "type") := of_decide_eq_true (ax_ x4 11)
  have hd_UnknownColumn : PySem.W.hasDictIn K (He.ga K "UnknownColumn") = true := ax_ x4 12
  obtain ⟨nm_UnknownColumn, q_UnknownColumn, N_UnknownColumn, bs_UnknownColumn, bm_UnknownColumn, sn_UnknownColumn, sub_UnknownColumn, ab_UnknownColumn, col_UnknownColumn, dd_UnknownColumn, m0_UnknownColumn, m1_UnknownColumn, m2_UnknownColumn, m3_UnknownColumn, m5_UnknownColumn, xL_UnknownColumn, bmr_UnknownColumn⟩ := oexB_ok (ax_ x4 13)
  have sa_UnknownColumn : PySem.W.findIn K (.ref (He.ga K "UnknownColumn")) "__setattr__" = some (some (.builtin "object.__setattr__")) := of_decide_eq_true (ax_ x4 14)
  have kc_UnknownColumn : PySem.W.keepIn K (.ref (He.ga K "UnknownColumn")) = true := ax_ x4 15
  have ga_UnknownColumn : PySem.W.findIn K (.ref (He.ga K "UnknownColumn")) "__getattribute__" = some (some (.builtin "BaseException.__getattribute__")) := of_decide_eq_true (ax_ x4 16)
  have gg_UnknownColumn : PySem.W.findIn K (.ref (He.ga K "UnknownColumn")) "__getattr__" = some none := of_decide_eq_true (ax_ x4 17)
  have tI_UnknownColumn : PySem.W.typeIn K (.ref (He.ma K (He.ga K "UnknownColumn") "__init__")) = some (.type "function") := of_decide_eq_true (ax_ x4 18)
  have nf_UnknownColumn_name : PySem.W.findIn K (.ref (He.ga K "UnknownColumn")) "name" = some none := of_decide_eq_true (ax_ x4 19)
  have su_UnknownColumn_UnknownColumn : PySem.W.subIn K (.ref (He.ga K "UnknownColumn")) (.ref (He.ga K "UnknownColumn")) = some true := of_decide_eq_true (ax_ x5 0)
  have is_UnknownColumn_UnknownColumn : PySem.W.isIn K (.ref (He.ga K "UnknownColumn")) (He.ga K "UnknownColumn") = true := ax_ x5 1
  have aC_BadUnique := of_decide_eq_true (show (He.Fa.glo "BadUnique").ok K = true from ax_ x5 2)
  have ex_BadUnique : PySem.W.subIn K (.ref (He.ga K "BadUnique")) (.type "BaseException") = some true := of_decide_eq_true (ax_ x5 3)
  have ty_BadUnique : PySem.W.typeIn K (.ref (He.ga K "BadUnique")) = some (.type "type") := of_decide_eq_true (ax_ x5 4)
  have hd_BadUnique : PySem.W.hasDictIn K (He.ga K "BadUnique") = true := ax_ x5 5
  obtain ⟨nm_BadUnique, q_BadUnique, N_BadUnique, bs_BadUnique, bm_BadUnique, sn_BadUnique, sub_BadUnique, ab_BadUnique, col_BadUnique, dd_BadUnique, m0_BadUnique, m1_BadUnique, m2_BadUnique, m3_BadUnique, m5_BadUnique, xL_BadUnique, bmr_BadUnique⟩ := oexB_ok (ax_ x5 6)
  have sa_BadUnique : PySem.W.findIn K (.ref (He.ga K "BadUnique")) "__setattr__" = some (some (.builtin "object.__setattr__")) := of_decide_eq_true (ax_ x5 7)
  have kc_BadUnique : PySem.W.keepIn K (.ref (He.ga K "BadUnique")) = true := ax_ x5 8
  have ga_BadUnique : PySem.W.findIn K (.ref (He.ga K "BadUnique")) "__getattribute__" = some (some (.builtin "BaseException.__getattribute__")) := of_decide_eq_true (ax_ x5 9)
  have gg_BadUnique : PySem.W.findIn K (.ref (He.ga K "BadUnique")) "__getattr__" = some none := of_decide_eq_true (ax_ x5 10)
  have tI_BadUnique : PySem.W.typeIn K (.ref (He.ma K (He.ga K "BadUnique") "__init__")) = some (.type "function") := of_decide_eq_true (ax_ x5 11)
  have nf_BadUnique_index : PySem.W.findIn K (.ref (He.ga K "BadUnique")) "index" = some none := of_decide_eq_true (ax_ x5 12)
  have su_BadUnique_BadUnique : PySem.W.subIn K (.ref (He.ga K "BadUnique")) (.ref (He.ga K "BadUnique")) = some true := of_decide_eq_true (ax_ x5 13)
  have is_BadUnique_BadUnique : PySem.W.isIn K (.ref (He.ga K "BadUnique")) (He.ga K "BadUnique") = true := ax_ x5 14
  have aC_BadFix := of_decide_eq_true (show (He.Fa.glo "BadFix").ok K = true from ax_ x5 15)
  have ex_BadFix : PySem.W.subIn K (.ref (He.ga K "BadFix")) (.type "BaseException") = some true := of_decide_eq_true (ax_ x5 16)
  have ty_BadFix : PySem.W.typeIn K (.ref (He.ga K "BadFix")) = some (.type "type") := of_decide_eq_true (ax_ x5 17)
  have hd_BadFix : PySem.W.hasDictIn K (He.ga K "BadFix") = true := ax_ x5 18
  obtain ⟨nm_BadFix, q_BadFix, N_BadFix, bs_BadFix, bm_BadFix, sn_BadFix, sub_BadFix, ab_BadFix, col_BadFix, dd_BadFix, m0_BadFix, m1_BadFix, m2_BadFix, m3_BadFix, m5_BadFix, xL_BadFix, bmr_BadFix⟩ := oexB_ok (ax_ x5 19)
  have sa_BadFix : PySem.W.findIn K (.ref (He.ga K "BadFix")) "__setattr__" = some (some (.builtin "object.__setattr__")) := of_decide_eq_true (ax_ x6 0)
  have kc_BadFix : PySem.W.keepIn K (.ref (He.ga K "BadFix")) = true := ax_ x6 1
  have ga_BadFix : PySem.W.findIn K (.ref (He.ga K "BadFix")) "__getattribute__" = some (some (.builtin "BaseException.__getattribute__")) := of_decide_eq_true (ax_ x6 2)
  have gg_BadFix : PySem.W.findIn K (.ref (He.ga K "BadFix")) "__getattr__" = some none := of_decide_eq_true (ax_ x6 3)
  have tI_BadFix : PySem.W.typeIn K (.ref (He.ma K (He.ga K "BadFix") "__init__")) = some (.type "function") := of_decide_eq_true (ax_ x6 4)
  have nf_BadFix_index : PySem.W.findIn K (.ref (He.ga K "BadFix")) "index" = some none := of_decide_eq_true (ax_ x6 5)
  have su_BadFix_BadFix : PySem.W.subIn K (.ref (He.ga K "BadFix")) (.ref (He.ga K "BadFix")) = some true := of_decide_eq_true (ax_ x6 6)
  have is_BadFix_BadFix : PySem.W.isIn K (.ref (He.ga K "BadFix")) (He.ga K "BadFix") = true := ax_ x6 7
  have aC_Facts := of_decide_eq_true (show (He.Fa.glo "Facts").ok K = true from ax_ x6 8)
  have pg_Facts : PySem.W.plainGet K (He.ga K "Facts") Str.empty = true := ax_ x6 9
  have hd_Facts : PySem.W.hasDictIn K (He.ga K "Facts") = true := ax_ x6 10
  have po_Facts : PySem.W.plainOver K (He.ga K "Facts") = true := ax_ x6 11
  have sa_Facts : PySem.W.findIn K (.ref (He.ga K "Facts")) "__setattr__" = some (some (.builtin "object.__setattr__")) := of_decide_eq_true (ax_ x6 12)
  have mk_Facts : PySem.W.makesIn K (He.ga K "Facts") = true := ax_ x6 13
  have kc_Facts : PySem.W.keepIn K (.ref (He.ga K "Facts")) = true := ax_ x6 14
  have nf_Facts_scheme : PySem.W.findIn K (.ref (He.ga K "Facts")) "scheme" = some none := of_decide_eq_true (ax_ x6 15)
  have nf_Facts_unique_sets : PySem.W.findIn K (.ref (He.ga K "Facts")) "unique_sets" = some none := of_decide_eq_true (ax_ x6 16)
  have nf_Facts_fix_pairs : PySem.W.findIn K (.ref (He.ga K "Facts")) "fix_pairs" = some none := of_decide_eq_true (ax_ x6 17)
  have ca_Facts : PySem.W.findIn K (.ref (He.ga K "Facts")) "__class__" = some (some (.builtin "object.__class__")) := of_decide_eq_true (ax_ x6 18)
  have cn_Facts : PySem.W.specialIn K (.builtin "object.__class__") "__get__" = some (some (.builtin "getset_descriptor.__get__")) := of_decide_eq_true (ax_ x3 9)
  have ct_Facts : PySem.W.takesIn K (.builtin "object.__class__") = some true := of_decide_eq_true (ax_ x3 10)
  have cm_Facts : PySem.W.mroIn K (He.ga K "Facts") (.type "object") = some true := of_decide_eq_true (ax_ x6 19)
  obtain ⟨tK_LETTERS, aC_LETTERS⟩ := ctS_ok (ax_ x7 0)
  have aC_WORDS := of_decide_eq_true (show (He.Fa.glo "WORDS").ok K = true from ax_ x7 1)
  obtain ⟨it_WORDS, nn_WORDS, sl_WORDS, lK_WORDS, vK_WORDS⟩ := tupB_ok (ax_ x7 2)
  have kt_bool_int : PySem.W.kitOne K (.type "bool") (.type "int") = some true := of_decide_eq_true (ax_ x7 3)
  have kt_int_bool : PySem.W.kitOne K (.type "int") (.type "bool") = some false := of_decide_eq_true (ax_ x7 4)
  have e := hfa.symm.trans (He.glo_ok X G a39)
  cases e
  let T : Txt K mg := {
    f_BadScheme___init__ := (He.ma K (He.ga K "BadScheme") "__init__"),
    d_BadScheme___init__ := _,
    F_BadScheme___init__ := F0,
    b_BadScheme___init__ := b0,
    f_UnknownColumn___init__ := (He.ma K (He.ga K "UnknownColumn") "__init__"),
    d_UnknownColumn___init__ := _,
    F_UnknownColumn___init__ := F1,
    b_UnknownColumn___init__ := b1,
    f_BadUnique___init__ := (He.ma K (He.ga K "BadUnique") "__init__"),
    d_BadUnique___init__ := _,
    F_BadUnique___init__ := F2,
    b_BadUnique___init__ := b2,
    f_BadFix___init__ := (He.ma K (He.ga K "BadFix") "__init__"),
    d_BadFix___init__ := _,
    F_BadFix___init__ := F3,
    b_BadFix___init__ := b3,
    f_known := (He.ga K "known"),
    d_known := _,
    F_known := F4,
    b_known := b4,
    g_known := He.glo_ok X G a4,
    f_usable := (He.ga K "usable"),
    d_usable := _,
    F_usable := F5,
    b_usable := b5,
    g_usable := He.glo_ok X G a5,
    f_Facts___init__ := (He.ma K (He.ga K "Facts") "__init__"),
    d_Facts___init__ := _,
    F_Facts___init__ := F6,
    f_Facts_reached := (He.ma K (He.ga K "Facts") "reached"),
    d_Facts_reached := _,
    F_Facts_reached := F7,
    b_Facts_reached := b7,
    f_Facts_closure := (He.ma K (He.ga K "Facts") "closure"),
    d_Facts_closure := _,
    F_Facts_closure := F8,
    f_Facts_chain := (He.ma K (He.ga K "Facts") "chain"),
    d_Facts_chain := _,
    F_Facts_chain := F9,
    f_Facts_no_twins := (He.ma K (He.ga K "Facts") "no_twins"),
    d_Facts_no_twins := _,
    F_Facts_no_twins := F10,
    f_is_name := (He.ga K "is_name"),
    d_is_name := _,
    F_is_name := F11,
    b_is_name := b11,
    g_is_name := He.glo_ok X G a11,
    f_first_double := (He.ga K "first_double"),
    d_first_double := _,
    F_first_double := F12,
    b_first_double := b12,
    g_first_double := He.glo_ok X G a12,
    f_Sort___init__ := (He.ma K (He.ga K "Sort") "__init__"),
    d_Sort___init__ := _,
    F_Sort___init__ := F13,
    kn_Sort___init__ := kb_mkN F13 (fun _ _ _ _ _ _ us ws hl hm => match us, ws, hl, hm with | [_, _, _], [_, _], _, _ => rfl),
    f_Sort___eq__ := (He.ma K (He.ga K "Sort") "__eq__"),
    d_Sort___eq__ := _,
    F_Sort___eq__ := F14,
    b_Sort___eq__ := b14,
    f_Scheme___init__ := (He.ma K (He.ga K "Scheme") "__init__"),
    d_Scheme___init__ := _,
    F_Scheme___init__ := F15,
    kn_Scheme___init__ := kb_mkN F15 (fun _ _ _ _ _ _ us ws hl hm => match us, ws, hl, hm with | [_, _], [_, _, _], _, _ => rfl),
    f_Scheme_inspect := (He.ma K (He.ga K "Scheme") "inspect"),
    d_Scheme_inspect := _,
    F_Scheme_inspect := F16,
    b_Scheme_inspect := b16,
    f_Scheme_columns := (He.ma K (He.ga K "Scheme") "columns"),
    d_Scheme_columns := _,
    F_Scheme_columns := F17,
    b_Scheme_columns := b17,
    f_Scheme_sort_names := (He.ma K (He.ga K "Scheme") "sort_names"),
    d_Scheme_sort_names := _,
    F_Scheme_sort_names := F18,
    b_Scheme_sort_names := b18,
    f_Scheme___eq__ := (He.ma K (He.ga K "Scheme") "__eq__"),
    d_Scheme___eq__ := _,
    F_Scheme___eq__ := F19,
    b_Scheme___eq__ := b19,
    f__law_begin := (He.ga K "_law_begin"),
    d__law_begin := _,
    F__law_begin := F20,
    b__law_begin := b20,
    g__law_begin := He.glo_ok X G a20,
    f__law_draw := (He.ga K "_law_draw"),
    d__law_draw := _,
    F__law_draw := F21,
    b__law_draw := b21,
    g__law_draw := He.glo_ok X G a21,
    f__law_name := (He.ga K "_law_name"),
    d__law_name := _,
    F__law_name := F22,
    b__law_name := b22,
    g__law_name := He.glo_ok X G a22,
    f__law_names := (He.ga K "_law_names"),
    d__law_names := _,
    F__law_names := F23,
    b__law_names := b23,
    g__law_names := He.glo_ok X G a23,
    f__law_spec := (He.ga K "_law_spec"),
    d__law_spec := _,
    F__law_spec := F24,
    b__law_spec := b24,
    g__law_spec := He.glo_ok X G a24,
    f__law_scheme := (He.ga K "_law_scheme"),
    d__law_scheme := _,
    F__law_scheme := F25,
    b__law_scheme := b25,
    g__law_scheme := He.glo_ok X G a25,
    f__law_whole := (He.ga K "_law_whole"),
    d__law_whole := _,
    F__law_whole := F26,
    b__law_whole := b26,
    g__law_whole := He.glo_ok X G a26,
    f__law_columns := (He.ga K "_law_columns"),
    d__law_columns := _,
    F__law_columns := F27,
    b__law_columns := b27,
    g__law_columns := He.glo_ok X G a27,
    f__law_left := (He.ga K "_law_left"),
    d__law_left := _,
    F__law_left := F28,
    b__law_left := b28,
    g__law_left := He.glo_ok X G a28,
    f__law_fact_lists := (He.ga K "_law_fact_lists"),
    d__law_fact_lists := _,
    F__law_fact_lists := F29,
    b__law_fact_lists := b29,
    g__law_fact_lists := He.glo_ok X G a29,
    f__law_facts := (He.ga K "_law_facts"),
    d__law_facts := _,
    F__law_facts := F30,
    b__law_facts := b30,
    g__law_facts := He.glo_ok X G a30,
    f__law_closed := (He.ga K "_law_closed"),
    d__law_closed := _,
    F__law_closed := F31,
    b__law_closed := b31,
    g__law_closed := He.glo_ok X G a31,
    f__law_ask := (He.ga K "_law_ask"),
    d__law_ask := _,
    F__law_ask := F32,
    b__law_ask := b32,
    g__law_ask := He.glo_ok X G a32,
    f__law_asked_right := (He.ga K "_law_asked_right"),
    d__law_asked_right := _,
    F__law_asked_right := F33,
    b__law_asked_right := b33,
    g__law_asked_right := He.glo_ok X G a33,
    f__law_refused := (He.ga K "_law_refused"),
    d__law_refused := _,
    F__law_refused := F34,
    b__law_refused := b34,
    g__law_refused := He.glo_ok X G a34,
    f__law_closure := (He.ga K "_law_closure"),
    d__law_closure := _,
    F__law_closure := F35,
    b__law_closure := b35,
    g__law_closure := He.glo_ok X G a35,
    f__law_chain := (He.ga K "_law_chain"),
    d__law_chain := _,
    F__law_chain := F36,
    b__law_chain := b36,
    g__law_chain := He.glo_ok X G a36,
    f__law_no_twins := (He.ga K "_law_no_twins"),
    d__law_no_twins := _,
    F__law_no_twins := F37,
    b__law_no_twins := b37,
    g__law_no_twins := He.glo_ok X G a37,
    f__law_walked := (He.ga K "_law_walked"),
    d__law_walked := _,
    F__law_walked := F38,
    b__law_walked := b38,
    g__law_walked := He.glo_ok X G a38,
    f_law := (He.ga K "law"),
    d_law := _,
    F_law := F39,
    b_law := b39,
    g_law := He.glo_ok X G a39,
    z_abs := He.free_ok X G (show (He.Fa.free "abs").ok K = true from ax_ x7 5),
    z_all := He.free_ok X G (show (He.Fa.free "all").ok K = true from ax_ x7 6),
    z_bool := He.free_ok X G (show (He.Fa.free "bool").ok K = true from ax_ x7 7),
    z_enumerate := He.free_ok X G (show (He.Fa.free "enumerate").ok K = true from ax_ x7 8),
    z_int := He.free_ok X G (show (He.Fa.free "int").ok K = true from ax_ x7 9),
    z_isinstance := He.free_ok X G (show (He.Fa.free "isinstance").ok K = true from ax_ x7 10),
    z_len := He.free_ok X G (show (He.Fa.free "len").ok K = true from ax_ x7 11),
    z_list := He.free_ok X G (show (He.Fa.free "list").ok K = true from ax_ x7 12),
    z_range := He.free_ok X G (show (He.Fa.free "range").ok K = true from ax_ x7 13),
    z_set := He.free_ok X G (show (He.Fa.free "set").ok K = true from ax_ x7 14),
    z_sorted := He.free_ok X G (show (He.Fa.free "sorted").ok K = true from ax_ x7 15),
    z_str := He.free_ok X G (show (He.Fa.free "str").ok K = true from ax_ x7 16),
    z_tuple := He.free_ok X G (show (He.Fa.free "tuple").ok K = true from ax_ x7 17),
    C_WindowError := (He.ga K "WindowError"),
    g_WindowError := PySem.W.mg_of X G aC_WindowError,
    C_BadScheme := (He.ga K "BadScheme"),
    g_BadScheme := PySem.W.mg_of X G aC_BadScheme,
    ox_BadScheme := ⟨⟨nm_BadScheme, q_BadScheme, N_BadScheme, bs_BadScheme, bm_BadScheme, sn_BadScheme, sub_BadScheme, ab_BadScheme, col_BadScheme, dd_BadScheme, m0_BadScheme, m1_BadScheme, m2_BadScheme, m3_BadScheme, m5_BadScheme, xL_BadScheme, bmr_BadScheme⟩, sa_BadScheme, ex_BadScheme, ty_BadScheme, kc_BadScheme⟩,
    xf_BadScheme := ⟨ga_BadScheme, gg_BadScheme, ex_BadScheme, hd_BadScheme⟩,
    iC_BadScheme := a0,
    tI_BadScheme := tI_BadScheme,
    nf_BadScheme_word := nf_BadScheme_word,
    C_Sort := (He.ga K "Sort"),
    g_Sort := PySem.W.mg_of X G aC_Sort,
    c_Sort := ⟨pg_Sort, hd_Sort, po_Sort, sa_Sort⟩,
    m_Sort := ⟨mk_Sort, a13, i13, kc_Sort⟩,
    nf_Sort_name := nf_Sort_name,
    nf_Sort_key := nf_Sort_key,
    nf_Sort_part := nf_Sort_part,
    nf_Sort_descending := nf_Sort_descending,
    mt_Sort___eq__ := ⟨a14, i14, k14⟩,
    ca_Sort := ca_Sort,
    cn_Sort := cn_Sort,
    ct_Sort := ct_Sort,
    cm_Sort := cm_Sort,
    nt_Sort := nt_Sort,
    C_Scheme := (He.ga K "Scheme"),
    g_Scheme := PySem.W.mg_of X G aC_Scheme,
    c_Scheme := ⟨pg_Scheme, hd_Scheme, po_Scheme, sa_Scheme⟩,
    m_Scheme := ⟨mk_Scheme, a15, i15, kc_Scheme⟩,
    nf_Scheme_sorts := nf_Scheme_sorts,
    nf_Scheme_part_columns := nf_Scheme_part_columns,
    nf_Scheme_value_columns := nf_Scheme_value_columns,
    nf_Scheme_mark_columns := nf_Scheme_mark_columns,
    mt_Scheme_inspect := ⟨a16, i16, k16⟩,
    mt_Scheme_columns := ⟨a17, i17, k17⟩,
    mt_Scheme_sort_names := ⟨a18, i18, k18⟩,
    mt_Scheme___eq__ := ⟨a19, i19, k19⟩,
    ca_Scheme := ca_Scheme,
    cn_Scheme := cn_Scheme,
    ct_Scheme := ct_Scheme,
    cm_Scheme := cm_Scheme,
    ne_Scheme := ne_Scheme,
    ob_Scheme := ob_Scheme,
    nt_Scheme := nt_Scheme,
    C_UnknownColumn := (He.ga K "UnknownColumn"),
    g_UnknownColumn := PySem.W.mg_of X G aC_UnknownColumn,
    ox_UnknownColumn := ⟨⟨nm_UnknownColumn, q_UnknownColumn, N_UnknownColumn, bs_UnknownColumn, bm_UnknownColumn, sn_UnknownColumn, sub_UnknownColumn, ab_UnknownColumn, col_UnknownColumn, dd_UnknownColumn, m0_UnknownColumn, m1_UnknownColumn, m2_UnknownColumn, m3_UnknownColumn, m5_UnknownColumn, xL_UnknownColumn, bmr_UnknownColumn⟩, sa_UnknownColumn, ex_UnknownColumn, ty_UnknownColumn, kc_UnknownColumn⟩,
    xf_UnknownColumn := ⟨ga_UnknownColumn, gg_UnknownColumn, ex_UnknownColumn, hd_UnknownColumn⟩,
    iC_UnknownColumn := a1,
    tI_UnknownColumn := tI_UnknownColumn,
    nf_UnknownColumn_name := nf_UnknownColumn_name,
    em_UnknownColumn_UnknownColumn := PySem.W.exm_ref ex_UnknownColumn hd_UnknownColumn ty_UnknownColumn su_UnknownColumn_UnknownColumn,
    is_UnknownColumn_UnknownColumn := is_UnknownColumn_UnknownColumn,
    C_BadUnique := (He.ga K "BadUnique"),
    g_BadUnique := PySem.W.mg_of X G aC_BadUnique,
    ox_BadUnique := ⟨⟨nm_BadUnique, q_BadUnique, N_BadUnique, bs_BadUnique, bm_BadUnique, sn_BadUnique, sub_BadUnique, ab_BadUnique, col_BadUnique, dd_BadUnique, m0_BadUnique, m1_BadUnique, m2_BadUnique, m3_BadUnique, m5_BadUnique, xL_BadUnique, bmr_BadUnique⟩, sa_BadUnique, ex_BadUnique, ty_BadUnique, kc_BadUnique⟩,
    xf_BadUnique := ⟨ga_BadUnique, gg_BadUnique, ex_BadUnique, hd_BadUnique⟩,
    iC_BadUnique := a2,
    tI_BadUnique := tI_BadUnique,
    nf_BadUnique_index := nf_BadUnique_index,
    em_BadUnique_BadUnique := PySem.W.exm_ref ex_BadUnique hd_BadUnique ty_BadUnique su_BadUnique_BadUnique,
    is_BadUnique_BadUnique := is_BadUnique_BadUnique,
    C_BadFix := (He.ga K "BadFix"),
    g_BadFix := PySem.W.mg_of X G aC_BadFix,
    ox_BadFix := ⟨⟨nm_BadFix, q_BadFix, N_BadFix, bs_BadFix, bm_BadFix, sn_BadFix, sub_BadFix, ab_BadFix, col_BadFix, dd_BadFix, m0_BadFix, m1_BadFix, m2_BadFix, m3_BadFix, m5_BadFix, xL_BadFix, bmr_BadFix⟩, sa_BadFix, ex_BadFix, ty_BadFix, kc_BadFix⟩,
    xf_BadFix := ⟨ga_BadFix, gg_BadFix, ex_BadFix, hd_BadFix⟩,
    iC_BadFix := a3,
    tI_BadFix := tI_BadFix,
    nf_BadFix_index := nf_BadFix_index,
    em_BadFix_BadFix := PySem.W.exm_ref ex_BadFix hd_BadFix ty_BadFix su_BadFix_BadFix,
    is_BadFix_BadFix := is_BadFix_BadFix,
    C_Facts := (He.ga K "Facts"),
    g_Facts := PySem.W.mg_of X G aC_Facts,
    c_Facts := ⟨pg_Facts, hd_Facts, po_Facts, sa_Facts⟩,
    m_Facts := ⟨mk_Facts, a6, i6, kc_Facts⟩,
    nf_Facts_scheme := nf_Facts_scheme,
    nf_Facts_unique_sets := nf_Facts_unique_sets,
    nf_Facts_fix_pairs := nf_Facts_fix_pairs,
    mt_Facts_reached := ⟨a7, i7, k7⟩,
    mt_Facts_closure := ⟨a8, i8, k8⟩,
    mt_Facts_chain := ⟨a9, i9, k9⟩,
    mt_Facts_no_twins := ⟨a10, i10, k10⟩,
    ca_Facts := ca_Facts,
    cn_Facts := cn_Facts,
    ct_Facts := ct_Facts,
    cm_Facts := cm_Facts,
    t_LETTERS := tK_LETTERS,
    g_LETTERS := PySem.W.mg_of X G aC_LETTERS,
    a_WORDS := (He.ga K "WORDS"),
    g_WORDS := PySem.W.mg_of X G aC_WORDS,
    q_WORDS := fun H => sqt_const lK_WORDS vK_WORDS (by decide),
    y_WORDS := fun H => .inr (.inl ⟨rfl, _, lK_WORDS, rfl, rfl⟩),
    kt_bool_int := kt_bool_int,
    kt_int_bool := kt_int_bool,
    e_Facts___init___unique := (kwA K (He.ma K (He.ga K "Facts") "__init__") "unique"),
    eq_Facts___init___unique := fun H => sqt_const le6_unique ve6_unique (by decide),
    e_Facts___init___fixes := (kwA K (He.ma K (He.ga K "Facts") "__init__") "fixes"),
    eq_Facts___init___fixes := fun H => sqt_const le6_fixes ve6_fixes (by decide),
    ds_Facts___init__ := ds6,
    rds_Facts___init__ := rds6,
    bd_Facts___init__ := bd6,
    mv_Facts___init___U := mv6U,
    kn_Facts___init___U := kn6U,
    mv_Facts___init___X := mv6X,
    kn_Facts___init___X := kn6X,
    mv_Facts___init___UX := mv6UX,
    kn_Facts___init___UX := kn6UX }
  have b := FunD.bindsA (ps := ["_law_script"]) D39 fun _ _ _ _ _ _ us hl => match us, hl with | [_], _ => rfl
  exact ⟨_, fun s v => b s [v] rfl, fun base _ _ => ok_law T⟩
end Wr
open PySem PySem.W PySem.Calls PyProof.Rows
set_option maxRecDepth 100000 in
set_option maxHeartbeats 0 in
theorem PySem.Challenge.cw_windowrows_k85_closure_and_chain_holds : PySem.Challenge.rw_windowrows_k85_closure_and_chain.Holds := by
  w_on; o_law
  refine HandSHeadRun.head_any (r := OpenLaw.row PySem.Challenge.rw_windowrows_k85_closure_and_chain) (q := view (OpenLaw.row PySem.Challenge.rw_windowrows_k85_closure_and_chain).prog [38]) (H := Wr.hookX 2500 Wr.fns Wr.xB) (ob := Wr.obX 2500 Wr.fns Wr.xB) (M := 20000) (loose := Wr.nms) (d := HandSHeadRun.topDef (OpenLaw.row PySem.Challenge.rw_windowrows_k85_closure_and_chain).prog 38) (kwd := []) Wr.obX_eq
    (by kernel_rfl) (fun s => by kernel_rfl) Wr.run_top (by kernel_rfl) (by kernel_rfl) (by kernel_rfl) (by rfl) (by first | assumption | decide +kernel) (by decide +kernel) ⟨rfl, rfl, rfl, rfl, rfl, by decide +kernel⟩ ?hw ?hc
  case hw => w_witness2
  case hc =>
    refine L2.walk_ofE (l := PySem.Challenge.rw_windowrows_k85_closure_and_chain) (n := 63) (k := 12) (x := "_law_script") (CX := L2.CX0) rfl (by decide) (by kernel_rfl) ⟨rfl, by decide, by decide⟩ ?F (fun _ _ _ _ z => z)
    intro w mg fa h Y G hmg0
    obtain ⟨K, KX, c, xx⟩ := Y
    have hmg : mg ("law" : PySem.Str) = some (.ref fa) := by
      have e : (HandSHeadRun.topDef (OpenLaw.row PySem.Challenge.rw_windowrows_k85_closure_and_chain).prog 38).name = ("law" : PySem.Str) := by kernel_rfl
      rw [← e]
      exact hmg0
    obtain ⟨fd, hb, hF⟩ := Wr.all_mk (l := PySem.Challenge.rw_windowrows_k85_closure_and_chain) (w := w) KX G hmg c xx
    exact ⟨K, fd, Wr.spLaw K, KX, hb, fun H a ns hl _ hS => ⟨a, ns, rfl, hS, hl, fun _ => rfl⟩, hF⟩
