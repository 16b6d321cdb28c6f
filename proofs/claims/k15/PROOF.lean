import PyProof.Rows.All
import Wide.All
import OpenK.AllK
import Wide.FinOn
import HandS.ForMost
import HandS.Wide
import HandS.IsInst
import HandS.Defaults
import HandS.Codes
import PyProof.InstNe
import HandS.Style
import PyProof.ReprRoads
import PyProof.ReprLen
import HandS.ForExc
import HandS.ExcInit
import HandS.ExcField
import HandS.ExcIs
import PyProof.NeKinds
import HandS.FStr
import HandS.Text
import HandS.Codes
import HandS.MakeKw
import HandS.ExcInitHot
import HandS.RaiseFrom
import HandS.SuiteRaise
import HandS.HotCalls
import HandS.WordsExc
import HandS.Strs
import PyProof.Rows.StrMul
import HandS.Walk
import HandS.Star
import PySem.Challenge.RW_windowrows_k15_any_text_as_a_stretch
set_option Elab.async false
set_option linter.all false
set_option maxRecDepth 100000
set_option maxHeartbeats 2000000
/-! ### raise X(..) from e, in the suite of `except Y as e` -/
namespace RF
open PySem PySem.Spec PyProof.Rows L2 HotX
section
variable {prog : Program} {w : World} {A : Around} {E : Value → Shared → Prop} {s : Shared} {a : Addr} {o : Obj} {vs : Array Value}
theorem no_type {Q : Bool → Shared → Prop} (ha : s.heap.get? a = some o) (hd : o.data = .fields vs) (q : Q false s) : wpAny (model prog w) A (isType (.ref a)) Q E s := by
  unfold isType loadHead
  exact wpAny_bind (wpAny_loadPart ha (by rw [hd]; exact wpAny_pure q))
theorem its_type {cls : Value} (ha : s.heap.get? a = some o) (hc : o.cls = cls) : PySem.W.Looks (model prog w) s.heap (typeOf (.ref a)) cls := fun _ _ _ _ k q => wpAny_typeOf_ref (k a o ha) (hc ▸ q)
/-- an exception object stands for itself -/
theorem from_itself {cls : Value} {msg : String} {Q : Value → Shared → Prop} (ha : s.heap.get? a = some o) (hd : o.data = .fields vs) (hc : o.cls = cls) (L : PySem.W.Looks (model prog w) s.heap (isSubtype cls (.type "BaseException")) true) (q : Q (.ref a) s) :
    wpAny (model prog w) A (excFromValue (.ref a) msg) Q E s := by
  unfold excFromValue isExcClass
  refine wpAny_bind (wpAny_bind (no_type ha hd (wpAny_pure ?_)))
  rw [if_neg Bool.false_ne_true]
  exact wpAny_bind (((its_type ha hc).andThen L).here (wpAny_pure q))
end
/-- fields 3 and 4 of an exception, as `from c` leaves them -/
def caused (c : Value) (f : Array Value) : Array Value := (f.setIfInBounds 3 c).setIfInBounds 4 (.bool true)
def stored (c : Value) (h : Heap) (a : Addr) : Heap := (h.update a (Obj.mapFields fun f => f.setIfInBounds 3 c)).update a (Obj.mapFields fun f => f.setIfInBounds 4 (.bool true))
def causedO (c : Value) (o : Obj) : Obj := (o.mapFields fun f => f.setIfInBounds 3 c).mapFields fun f => f.setIfInBounds 4 (.bool true)
section
variable {h : Heap} {a b : Addr} {c : Value} {o : Obj} {f : Array Value}
theorem causedO_data (hd : o.data = .fields f) : (causedO c o).data = .fields (caused c f) := Obj.data_mapFields (Obj.data_mapFields hd _) _
theorem causedO_cls : (causedO c o).cls = o.cls := (Obj.cls_mapFields _ _).trans (Obj.cls_mapFields _ _)
theorem causedO_dict : (causedO c o).dict = o.dict := (HandSPX.dict_mapFields _ _).trans (HandSPX.dict_mapFields _ _)
theorem stored_self (ha : h.get? a = some o) (hd : o.data = .fields f) : (stored c h a).get? a = some (causedO c o) :=
  Heap.get?_update_self _ (Heap.get?_update_self _ ha (Obj.isFreed_of_fields (Obj.data_mapFields hd _))) (Obj.isFreed_of_fields (causedO_data hd))
theorem stored_other (n : a ≠ b) : (stored c h a).get? b = h.get? b := (Heap.get?_update_other _ _ n).trans (Heap.get?_update_other _ _ n)
theorem caused_one (h1 : f[1]? = some .none) : (caused c f)[1]? = some .none := set_other (by decide) (set_other (by decide) h1)
theorem caused_size : (caused c f).size = f.size := set_size.trans set_size
end
/-- the new exception a is raised from the exception q, while x1 is handled -/
theorem raise_from {prog : Program} {w : World} {A : Around} {E : Value → Shared → Prop} {env : Env} {s : Shared} {x c : Sem Value} {Q : Flow → Shared → Prop} {x1 q : Addr}
    (made : wpAny (model prog w) A x (fun v s1 => ∃ a o f k, v = .ref a ∧ (s1.heap.get? a = some o ∧ o.cls = k ∧ o.data = .fields f ∧ f[1]? = some .none ∧ 4 < f.size) ∧ (x1 ≠ a ∧ HotAt A x1 s1.heap) ∧
      (∃ oq fq kq, s1.heap.get? q = some oq ∧ oq.cls = kq ∧ oq.data = .fields fq ∧ PySem.W.Looks (model prog w) s1.heap (isSubtype kq (.type "BaseException")) true) ∧ (∀ R : Value → Shared → Prop, R (.ref q) s1 → wpAny (model prog w) A c R E s1) ∧
      PySem.W.Looks (model prog w) s1.heap (isSubtype k (.type "BaseException")) true ∧ PySem.W.Looks (model prog w) (stored (.ref q) s1.heap a) (typeOf k) (.type "type") ∧
      E (.ref a) { s1 with heap := (stored (.ref q) s1.heap a).update a (Obj.mapFields fun g => g.setIfInBounds 2 (.ref x1)) }) E s) :
    wpAny (model prog w) A (raiseStmt env (some x) (some c)) Q E s := by
  unfold raiseStmt
  dsimp only
  refine wpAny_bind (wpAny_mono made (fun v s1 y => ?_) fun _ _ y => y)
  obtain ⟨a, o, f, k, rfl, ⟨ga, ka, fa, f1, fz⟩, ⟨na, hot⟩, ⟨oq, fq, kq, gq, kq', fq', Lq⟩, hc, La, Lt, out⟩ := y
  have gs := stored_self (c := .ref q) ga fa
  have hd3 := Obj.data_mapFields fa fun g => g.setIfInBounds 3 (.ref q)
  have g3 := Heap.get?_update_self (Obj.mapFields fun g => g.setIfInBounds 3 (.ref q)) ga (Obj.isFreed_of_fields hd3)
  have hot' : HotAt A x1 (stored (.ref q) s1.heap a) := by
    obtain ⟨y1, y2, y3, y4, y5⟩ := hot
    exact ⟨y1, y2, y3, (stored_other na.symm).trans y4, y5⟩
  refine wpAny_bind (wpAny_holding (hc _ (wpAny_bind (wpAny_pure ?_))))
  refine wpAny_bind (wpAny_holding (from_itself ga fa ka La ?_))
  dsimp only
  rw [if_neg (show ¬ (Value.ref q == Value.none) = true by simp)]
  refine wpAny_bind (wpAny_holding (from_itself gq fq' kq' Lq ?_))
  refine wpAny_bind (wpAny_setField ga fa (by omega) (wpAny_bind (wpAny_setField g3 hd3 (by rw [set_size]; exact fz) ?_)))
  show wpAny _ _ _ _ _ { s1 with heap := stored (.ref q) s1.heap a }
  refine wpAny_bind (no_type gs (causedO_data fa) ?_)
  rw [if_neg Bool.false_ne_true]
  unfold raisedInstance
  have Ls : PySem.W.Looks (model prog w) (stored (.ref q) s1.heap a) (typeOf (.ref a)) k := its_type (s := { s1 with heap := stored (.ref q) s1.heap a }) gs (causedO_cls.trans ka)
  refine wpAny_bind (wpAny_bind (Ls.here (wpAny_bind (Lt.here ?_))))
  rw [if_pos (beq_self_eq_true (Value.type "type"))]
  refine wpAny_pure (wpAny_bind ?_)
  unfold setFlight
  refine wpAny_bind (wpAny_field gs (causedO_data fa) (caused_one f1) ?_)
  rw [if_neg (show ¬ (Value.none != Value.none) = true by decide)]
  exact wpAny_pure (raiseNew_hot hot' na gs (causedO_data fa) (by rw [caused_size]; omega) out)
/-- a name of the def is read: nothing changes -/
theorem ev_name {X : Cx} {pins : List (Addr × Obj)} {σ : L2.St} {H : Hp} {s : Shared} {i : Nat} {n : Str} {a : Addr} {pos : Pos} {R : Value → Shared → Prop} {E : Value → Shared → Prop} (I : Inv X pins σ H s) (hN : X.N[i]? = some n) (vis : Vis X.env.scope n) (e : σ[i]? = some (some (.ref a))) (r : R (.ref a) s)
    (n1 : (n == ("__debug__" : Str)) = false) (n2 : (n == ("__classdict__" : Str)) = false) : wpAny (model X.prog X.w) X.A (eval (.Name n pos) X.env) R E s := by
  obtain ⟨m, ns, lk⟩ := I.loc
  obtain ⟨u, ru, look⟩ := lk i n _ hN e vis
  cases (show u = Value.ref a from ru)
  refine wpAny_Name ?_ n1
  rcases look with ⟨loc, at_⟩ | ⟨cel | fre, k, hk, at_⟩
  · exact wpAny_loadName_local I.ok.kind loc ns at_ r
  · exact wpAny_loadName_cell I.ok.kind cel hk at_ r
  · exact wpAny_loadName_free I.ok.kind fre hk at_ r n2
/-- Raises, of the fragment alone -/
def RaisesK (K : PySem.W.Frag) (cls : Value) : Prop := ∀ (M : Model) (h : Heap), K.In h → PySem.W.Looks M h (isSubtype cls (.type "BaseException")) true
theorem raisesK_own {K : PySem.W.Frag} {cls : Value} (h1 : PySem.W.subIn K cls (.type "BaseException") = some true) : RaisesK K cls := fun _ _ k => PySem.W.looks_subIn k h1
theorem ps_raiseHF {K : PySem.W.Frag} {X : Cx} {W : WX} {e : Expr} {t : L2.St → Hp → XK → Prop} {n : Str} {i : Nat} {npos pos : Pos} {a0 : Addr} {oe0 : Obj} {cls0 : Value} {d0 : Option Addr} (hot : L2H.HotC X) (hz0 : L2N.Zn cls0 d0 oe0) (hd0 : ∃ vs, oe0.data = .fields vs) (hp0 : (a0, oe0) ∈ X.pn) (tk : L2.Takes X W) (he : L2H.PMk5 X e t)
    (hN : X.N[i]? = some n := by rfl) (vis : Vis X.env.scope n := by first | exact Or.inl rfl | exact Or.inr (Or.inl rfl) | exact Or.inr (Or.inr rfl)) (n1 : (n == ("__debug__" : Str)) = false := by decide) (n2 : (n == ("__classdict__" : Str)) = false := by decide) (hK : X.K = K := by rfl) :
    PS X (.Raise (some e) (some (.Name n npos)) pos) (fun _ σ H => t σ H fun cls d H' => σ[i]? = some (some (.ref a0)) ∧ RaisesK K cls0 ∧ W cls d σ H') := ⟨fun pins s σ H D I h => by
  obtain ⟨pr, ⟨now, fp, dp, cp⟩, inp⟩ := hot
  obtain ⟨f0, df0⟩ := hd0
  show wpAny _ _ (do standAt pos; raiseStmt X.env (some (do let v ← eval e X.env; standAt pos; pure v)) (some (do let v ← eval (.Name n npos) X.env; standAt pos; pure v))) _ _ _
  refine wpAny_bind (wpAny_standAt (raise_from (x1 := pr.1) (q := a0) (wpAny_bind (thn (he pins s σ H _ I h) fun u s1 hu => wpAny_bind (wpAny_standAt (wpAny_pure ?_))))))
  obtain ⟨⟨a, oe, vs, sI, H', cls, d, rfl, J, keeps, fresh, ga, za, da, tb1, na, os, bare, rs, atn, rs0, out⟩, six⟩ := hu
  have away : ∀ b u, sI.heap.get? b = some u → a ≠ b := fun b u y z => by rw [← z, fresh] at y; cases y
  have keeps' : ∀ b u, sI.heap.get? b = some u → (stored (.ref a0) s1.heap a).get? b = some u := fun b u y => (stored_other (away b u y)).trans (keeps b u y)
  have gp : sI.heap.get? pr.1 = some pr.2 := (J.pin pr (List.mem_append_left _ inp)).1
  have g0 : sI.heap.get? a0 = some oe0 := (J.pin (a0, oe0) (List.mem_append_left _ hp0)).1
  have J1 : Inv X pins σ H' s1 := J.landed (B := sI.heap) (fun _ _ y _ => y) keeps (Heap.UpToSlots.of_keeps keeps) os bare
  have gs := stored_self (c := .ref a0) ga da
  have ds := causedO_data (c := .ref a0) da
  have inK := J.kIn.keeps keeps
  refine ⟨a, oe, vs, cls, rfl, ⟨ga, za.1, da, tb1, six a oe vs rfl ga da⟩, ⟨(away _ _ gp).symm, now, pr.2, fp, keeps _ _ gp, dp, cp⟩, ⟨oe0, f0, cls0, keeps _ _ g0, hz0.1, df0, rs0 _ _ (hK ▸ inK)⟩, fun R r => wpAny_bind (ev_name J1 hN vis atn (wpAny_bind (wpAny_standAt (wpAny_pure r))) n1 n2), (rs _ _ inK).1, (rs _ _ (J.kIn.keeps keeps')).2, tk _ _ ?_⟩
  refine XE.new J (fun b u y => (Heap.get?_update_other _ _ (away b u y)).trans (keeps' b u y)) fresh (Heap.get?_update_self _ gs (Obj.isFreed_of_fields (Obj.data_mapFields ds _))) ⟨?_, ?_⟩ (Obj.data_mapFields ds _) (set_other (by decide) (caused_one tb1)) na os bare out
  · exact (Obj.cls_mapFields _ _).trans (causedO_cls.trans za.1)
  · exact (HandSPX.dict_mapFields _ _).trans (causedO_dict.trans za.2.1)⟩
end RF
/-! ### try: .. except Y as e: a suite that raises -/
namespace RF
open PySem PySem.Spec PyProof.Rows L2 HotX L2H
abbrev suiteY (X : Cx) (a : Addr) (pn : List (Addr × Obj)) (xe : Value → Shared → Prop) : Cx := { X with A := X.A.mark (some (.ref a)), calm := false, pn := pn, xe := xe }
section
variable {X : Cx} {pins pn pn' : List (Addr × Obj)} {st : L2.St} {H : Hp} {s : Shared} {a : Addr} {xe : Value → Shared → Prop}
theorem suiteY_in (I : Inv (X.suite a pn) pn' st H s) : Inv (suiteY X a pn xe) pn' st H s := Inv.unwish (X := suiteY X a pn xe) (E := fun _ _ => False) I
theorem suiteY_out {q : Addr × Obj} (ok : X.Ok) (I : Inv (suiteY X a (q :: (X.pn ++ pins)) xe) pn' st H s) : Inv X pins st H s := by
  have J : Inv (X.suite a (q :: (X.pn ++ pins))) pn' st H s := I.wish fun _ _ => False
  exact J.unsuite ok
/-- only the frame's own names are others -/
theorem inv_names {t : L2.St} {hp : Heap} {m : Str → Option Value} {k : Nat} (I : Inv X pins st H s) (sb : Heap.SameBut X.env.locals s.heap hp) (ns : hp.Ns X.env.locals m) (ln : t.length = st.length)
    (lk : ∀ (j : Nat) (y : Str) (v : V), X.N[j]? = some y → t[j]? = some (some v) → Vis X.env.scope y → ∃ u, RelV v u ∧ Look X.env hp m y u) : Inv X pins t H { s with heap := hp, toks := k } := by
  have old : ∀ {b : Addr} {o : Obj}, X.s_0.heap.get? b = some o → hp.get? b = s.heap.get? b := fun {b o} y => sb.2 b fun z => absurd (Nat.lt_of_lt_of_le (Heap.lt_size y) I.ok.above) (by rw [z]; exact Nat.lt_irrefl _)
  have mine : ∀ {b : Addr} {u : HO}, H b = some u → b ≠ X.env.locals := fun y z => by rw [z, I.free] at y; cases y
  exact {
    ok := I.ok
    os := I.os
    bare := I.bare
    base := {
      keep := fun b o y1 y2 y3 y4 => by rw [old y1]; exact I.base.keep b o y1 y2 y3 y4
      slot := fun b o y1 y2 y3 y4 => by rw [old y1]; exact I.base.slot b o y1 y2 y3 y4
      free := I.base.free
      there := fun b o y1 y2 => by rw [old y1]; exact I.base.there b o y1 y2
      tups := I.base.tups
      frzs := I.base.frzs
      tbls := I.base.tbls }
    loc := ⟨m, ns, lk⟩
    cell := fun y c e => (I.cell y c e).imp fun _ z => z.sameBut sb (I.cne y c e)
    free := I.free
    freeC := I.freeC
    pin := fun p y => ⟨(sb.2 p.1 (I.pin p y).2.2.1).trans (I.pin p y).1, (I.pin p y).2⟩
    hok := fun b u y => ObjOk.stay (I.hok b u y) (fun e _ which z => (sb.2 e (which.elim (fun q => q ▸ mine y) mine)).trans z) (fun _ z => z) fun _ _ z => z
    len := ln.trans I.len }
end
/-- an exception has come down in the frame of X; sI is the state without it -/
structure Down (X : Cx) (pins : List (Addr × Obj)) (st : L2.St) (H : Hp) (Z : Obj → Prop) (a : Addr) (B : Heap) (sI s : Shared) : Prop where
  inv : Inv X pins st H sI
  nb : ∀ b o, sI.heap.get? b = some o → b ∉ frs X.stack → B.get? b = some o
  up : sI.heap.UpToSlots s.heap
  fly : HandSPX.FlyingZ B (X.env :: X.outer) a Z s.heap
  new : H a = none
  os : s.os = sI.os
  bare : AllBare s.gens
section
variable {X : Cx} {pins : List (Addr × Obj)} {st : L2.St} {H : Hp} {Z : Obj → Prop} {a : Addr} {B : Heap} {sI s : Shared}
theorem Down.now (x : Down X pins st H Z a B sI s) : Inv X pins st H s := x.inv.landed x.nb x.fly.1 x.up x.os x.bare
theorem Down.step (x : Down X pins st H Z a B sI s) {h : Heap} (f : HandSPX.FlyingZ B (X.env :: X.outer) a Z h) (u : s.heap.UpToSlots h) : Down X pins st H Z a B sI { s with heap := h } := ⟨x.inv, x.nb, x.up.trans u, f, x.new, x.os, x.bare⟩
theorem Down.pinned (hf : X.env.frame = some X.env.locals) (x : Down X pins st H Z a B sI s) : ∃ o f, s.heap.get? a = some o ∧ Z o ∧ o.data = .fields f ∧ Inv (X.suite a ((a, o) :: (X.pn ++ pins))) [] st H s := by
  obtain ⟨o, f, ga, za, da⟩ := x.fly.there
  have off : ∀ e ∈ X.env :: X.outer, e.frame ≠ some a := fun e he z => by
    obtain ⟨_, u, gu, nu⟩ := x.fly.2.2.1.mem (List.mem_filterMap.mpr ⟨e, he, z⟩)
    cases ga.symm.trans gu
    exact nu f da
  refine ⟨o, f, ga, za, da, x.now.suite ga da x.new (fun z => off _ List.mem_cons_self (z ▸ hf)) fun m => ?_⟩
  obtain ⟨e, he, z⟩ := List.mem_filterMap.mp m
  exact off e (List.mem_cons_of_mem _ he) z
/-- no clause is left: it flies on -/
theorem Down.pass {W : WX} {cls : Value} {d : Option Addr} {Q : Flow → Shared → Prop} (hs : X.stack = X.env :: X.outer) (hf : X.env.frame = some X.env.locals) (tk : L2.Takes X W) (x : Down X pins st H (L2N.Zn cls d) a B sI s) (w : W cls d st H) :
    wpAny (model X.prog X.w) X.A (handleBy (.ref a) X.env []) Q X.xe s := by
  refine wpAny_handleBy_nil ?_
  have fl := flyingZ_imp (fun _ z => z.zc) x.fly
  obtain ⟨_, _, _, o, f, T, _, _, ga, _, da, f1, _⟩ := id fl
  have go : wpAny (model X.prog X.w) X.A (setFlight (.ref a) X.env.frame) (fun _ s' => wpAny (model X.prog X.w) X.A (throw (.ref a) : Sem Flow) Q X.xe s') X.xe s := by
    rw [hf]
    exact HandSPX.setFlight_upZ fl fun h held u => wpAny_throw (tk _ _ ⟨a, B, sI, pins, st, H, cls, d, rfl, x.inv, x.nb, x.up.trans u, .inr (.inr (hs ▸ held)), x.new, x.os, x.bare, w⟩)
  unfold PySem.passOn
  refine wpAny_bind (wpAny_field ga da f1 ?_)
  rw [if_neg (show ¬ (Value.ref T == Value.none) = true by simp)]
  first
    | exact wpAny_bind go
    | exact wpAny_bind (wpAny_pure (wpAny_bind go))
/-- the class of a clause, asked while the exception is handled -/
theorem clause_name {x : Str} {c : Value} {np : Pos} {pn : List (Addr × Obj)} {Q E : Value → Shared → Prop} (hc : Names X x c) (I : Inv (X.suite a pn) [] st H s) (q : Q c s) : wpAny (model X.prog X.w) (X.A.mark (some (.ref a))) (eval (.Name x np) X.env) Q E s := by
  rcases hc with ⟨g, nd, m | ⟨m, v, nn⟩⟩
  · exact ld_glob (X := X.suite a pn) I g m q nd
  · exact ld_blt (X := X.suite a pn) I g m v q nn nd
end
/-- what flies in the body of a try comes down -/
theorem comes_down {X : Cx} {pins : List (Addr × Obj)} {W : WX} {xe : Value → Shared → Prop} {u : Value} {s : Shared} {Q : Shared → Prop} (hs : X.stack = X.env :: X.outer) (hf : X.env.frame = some X.env.locals) (ok : X.Ok) (x : L2N.XE (X.tr (X.pn ++ pins) xe) W u s)
    (q : ∀ a st H cls d B sI h, u = .ref a → Down X pins st H (L2N.Zn cls d) a B sI { s with heap := h } → W cls d st H → Q { s with heap := h }) :
    wpAny (model X.prog X.w) X.A (noteFrame u X.env) (fun _ s2 => wpAny (model X.prog X.w) X.A (setFlight u none) (fun _ s3 => Q s3) X.xe s2) X.xe s := by
  obtain ⟨a, B, sI, pn', st, H, cls, d, rfl, I, nb, up, sky, na, os, bare, w⟩ := x
  have sky : Sky B (X.env :: X.outer) a (L2N.Zn cls d) X.env.locals s.heap := hs ▸ sky
  exact L2N.Sky.land L2N.Zn.steady (ok.frames.trans (congrArg some hs)) hf sky fun h fl u => q a st H cls d B sI h rfl ⟨I.ofTry ok, nb, up.trans u, fl, na, os, bare⟩ w
section
variable {h h' B : Heap} {L0 : Addr} {o0 : Obj}
theorem frames_but (sb : Heap.SameBut L0 h h') (g0 : h'.get? L0 = some o0) (d0 : ∀ f, o0.data ≠ .fields f) : ∀ {l : List Env}, h.FunFrames B l → h'.FunFrames B l
  | [], _ => trivial
  | _ :: _, ⟨y1, ⟨L, o, y2, y3, y4, y5⟩, more⟩ => ⟨y1, if e : L = L0 then ⟨L, o0, y2, y3, e ▸ g0, d0⟩ else ⟨L, o, y2, y3, (sb.2 L e).trans y4, y5⟩, frames_but sb g0 d0 more⟩
theorem held_but {l : List Env} {a L : Addr} {Z : Obj → Prop} (sb : Heap.SameBut L0 h h') (g0 : h'.get? L0 = some o0) (d0 : ∀ f, o0.data ≠ .fields f) (dh : ∀ o f, h.get? L0 = some o → o.data ≠ .fields f) (nB : B.get? L0 = none) (x : HandSPX.HeldZ B l a Z L h) : HandSPX.HeldZ B l a Z L h' := by
  obtain ⟨y1, y2, y3, o, f, T, oT, fT, g, z, da, f1, nT, ne, gT, dT, f3⟩ := x
  have k : ∀ {b u v}, h.get? b = some u → u.data = .fields v → h'.get? b = some u := fun {b u v} gb db => (sb.2 b fun e => dh u v (e ▸ gb) db).trans gb
  exact ⟨fun b u e => (sb.2 b fun q => by rw [q, nB] at e; cases e).trans (y1 b u e), y2, frames_but sb g0 d0 y3, o, f, T, oT, fT, k g da, z, da, f1, nT, ne, k gT dT, dT, f3⟩
end
theorem run_suite {Y : Cx} {b₀ : Stmt} {suite : List Stmt} {t : TS} {st : L2.St} {H : Hp} {s : Shared} {D : Ends} {Q : Flow → Shared → Prop} (h : PSs Y (b₀ :: suite) t) (I : Inv Y [] st H s) (q : t D st H) (hQ : ∀ f s', SP Y [] D f s' → Q f s') :
    wpAny (model Y.prog Y.w) Y.A (execs (b₀ :: suite) Y.env) Q Y.xe s := wpAny_mono (h.run [] s st H D I q) hQ fun _ _ x => x
/-- an exception leaves the suite: the name goes, then it flies on -/
theorem suite_out {X : Cx} {pins : List (Addr × Obj)} {i : Nat} {n : Str} {pos : Pos} {W : WX} {a : Addr} {q0 : Addr × Obj} {xe : Value → Shared → Prop} {u : Value} {s : Shared} {F G : Value → Shared → Prop} (hs : X.stack = X.env :: X.outer) (hf : X.env.frame = some X.env.locals) (ok : X.Ok) (hN : X.N.Nodup) (hi : X.N[i]? = some n) (hln : X.env.kindOf n = some .local)
    (out : ∀ v s', X.xe v s' → F v s') (tk : L2.Takes X W) (x : L2.XE (suiteY X a (q0 :: (X.pn ++ pins)) xe) (fun cls d st H => W cls d (st.set i none) H) u s) :
    wpAny (model X.prog X.w) (X.A.mark (some (.ref a))) (noteFrame u X.env) (fun _ s1 => wpAny (model X.prog X.w) (X.A.mark (some (.ref a))) (do bindName X.env n .none; unbindBehindTheSuite X.env n pos)
      (fun _ s2 => wpAny (model X.prog X.w) (X.A.mark (some (.ref a))) (passOn "try.except-as" u X.env : Sem Flow) (fun _ _ => False) F s2) G s1) F s := by
  obtain ⟨e, B, sI, pn', st, H, cls, d, rfl, I, nb, up, sky, na, os, bare, w⟩ := x
  have I : Inv X pins st H sI := suiteY_out ok I
  have hfr : (X.A.mark (some (.ref a))).frames = some (X.env :: X.outer) := ok.frames.trans (congrArg some hs)
  have sky : Sky B (X.env :: X.outer) e (Zc cls d) X.env.locals s.heap := hs ▸ sky
  have mem : X.env.locals ∈ frs (X.env :: X.outer) := List.mem_filterMap.mpr ⟨_, List.mem_cons_self, hf⟩
  have noted : ∀ {R : Unit → Shared → Prop}, (∀ h, HandSPX.HeldZ B (X.env :: X.outer) e (Zc cls d) X.env.locals h → s.heap.UpToSlots h → R () { s with heap := h }) → wpAny (model X.prog X.w) (X.A.mark (some (.ref a))) (noteFrame (.ref e) X.env) R F s := fun {R} r => by
    rcases sky with ⟨y1, y2, y3, o, f, y4, y5, y6, y7⟩ | fl | held
    · exact HandSPX.look_newZ Zc.steady hfr y3 hf y4 y1 y2 y6 y7 y5 r
    · exact HandSPX.looks_onZ Zc.steady hfr hf fl r
    · exact HandSPX.againZ hf held.2.2.2 (r _ held (Heap.UpToSlots.refl _))
  refine noted fun h1 held up1 => ?_
  obtain ⟨m, ns, look⟩ := I.loc
  have up := up.trans up1
  have ns1 := up.ns ns
  refine wpAny_nameGoes_keeps hln ns1 (by rw [ok.kind]; rfl) fun h2 v ns2 sb => ?_
  obtain ⟨o2, es, ep, g2, d2, sk, fd⟩ := id ns2
  have nf : ∀ f, o2.data ≠ .fields f := fun f z => by rw [d2] at z; cases z
  have held := held_but sb g2 nf (fun o f g z => by obtain ⟨o1, _, _, g1, d1, _⟩ := ns1; cases g1.symm.trans g; rw [d1] at z; cases z) (held.2.2.1.mem mem).1 held
  -- the state without the exception, the name gone
  obtain ⟨oI, _, _, gI, _⟩ := id ns
  have gI2 : (sI.heap.update X.env.locals fun _ => o2).get? X.env.locals = some o2 := Heap.get?_update_self (fun _ => o2) gI (Obj.isFreed_of_dict d2)
  have sbI : Heap.SameBut X.env.locals sI.heap (sI.heap.update X.env.locals fun _ => o2) := Heap.SameBut.update _ _ _
  have I2 : Inv X pins (st.set i none) H { sI with heap := sI.heap.update X.env.locals fun _ => o2, toks := sI.toks } := by
    refine inv_names I sbI ⟨o2, es, ep, gI2, d2, sk, fd⟩ (List.length_set ..) fun j y v' hj at_ vis => ?_
    have ji : i ≠ j := fun z => by
      subst z
      rw [List.getElem?_set] at at_
      split at at_
      · split at at_ <;> cases at_
      · next q => exact q rfl
    rw [List.getElem?_set_ne ji] at at_
    obtain ⟨u, ru, l⟩ := look j y v' hj at_ vis
    refine ⟨u, ru, l.imp (fun ⟨k, z⟩ => ⟨k, (if_neg fun (q : y = n) => ji (nodup_ix hN hi (by rw [← q]; exact hj))).trans z⟩) fun ⟨k, c, z, zz⟩ => ⟨k, c, z, zz.sameBut sbI (I.cne y c z)⟩⟩
  obtain ⟨y1, y2, y3, o, f, T, oT, fT, ge, ze, de, f1, rest⟩ := held
  have go : wpAny (model X.prog X.w) (X.A.mark (some (.ref a))) (setFlight (.ref e) X.env.frame) (fun _ s' => wpAny (model X.prog X.w) (X.A.mark (some (.ref a))) (throw (.ref e) : Sem Flow) (fun _ _ => False) F s') F { s with heap := h2, toks := s.toks + 1 } := by
    rw [hf]
    refine HandSPX.setFlight_anyZ (s := { s with heap := h2, toks := s.toks + 1 }) y1 y3 ⟨o, f, T, oT, fT, ge, ze, de, f1, rest⟩ fun h5 z1 z2 z3 z4 => wpAny_throw (out _ _ (tk _ _ ⟨e, B, _, pins, _, H, cls, d, rfl, I2, fun b u g hb => ?_, fun b u g du => ?_, .inr (.inr (hs ▸ ⟨z1, y2, z2, z3⟩)), na, os, bare, w⟩))
    · exact nb b u ((sbI.2 b fun z => hb (hs ▸ z ▸ mem)).symm.trans g) hb
    · by_cases z : b = X.env.locals
      · subst z
        cases gI2.symm.trans g
        exact z4 _ _ g2 du
      · obtain ⟨sl, y⟩ := up b u ((sbI.2 b z).symm.trans g) du
        obtain ⟨sl', y'⟩ := z4 b { u with slots := sl } ((sb.2 b z).trans y) du
        exact ⟨sl', y'⟩
  unfold PySem.passOn
  refine wpAny_bind (wpAny_field ge de f1 ?_)
  rw [if_neg (show ¬ (Value.ref T == Value.none) = true by simp)]
  first
    | exact wpAny_bind go
    | exact wpAny_bind (wpAny_pure (wpAny_bind go))
section
variable {X : Cx} {x n : Str} {c : Value} {i : Nat} {body suite : List Stmt} {b₀ : Stmt} {np tpos hpos : Pos} {tb : WX → TS} {ts : Addr → Value → Option Addr → TS} {W : WX}
theorem ps_try_asX (hs : X.stack = X.env :: X.outer) (hf : X.env.frame = some X.env.locals) (hN : X.N.Nodup) (hi : X.N[i]? = some n) (hln : X.env.kindOf n = some .local) (hc : Names X x c) (own : ∀ hd : Option Value, PassesOwnAt (model X.prog X.w) (X.A.mark hd) X.A X.env X.xe) (tk : L2.Takes X W)
    (hb : ∀ (Wb : WX) (pn : List (Addr × Obj)) (xe : Value → Shared → Prop), L2N.Takes (X.tr pn xe) Wb → PassesOwn (model X.prog X.w) X.A X.env xe → PSs (X.tr pn xe) body (tb Wb))
    (hsu : ∀ (a : Addr) (oe : Obj) (cls : Value) (d : Option Addr) (pn : List (Addr × Obj)) (xe : Value → Shared → Prop), L2N.Zn cls d oe → (∃ f, oe.data = .fields f) → L2.Takes (suiteY X a ((a, oe) :: pn) xe) (fun cls d st H => W cls d (st.set i none) H) → HotC (suiteY X a ((a, oe) :: pn) xe) →
      PSs (suiteY X a ((a, oe) :: pn) xe) (b₀ :: suite) (ts a cls d)) :
    PS X (.Try body [.ExceptHandler (some (.Name x np)) (some n) (b₀ :: suite) hpos] [] [] tpos) (fun D st H => tb (wAs X.K c i ts W D) D st H) := ⟨fun pins s st H D I h => by
  have ok := I.ok
  refine wpAny_Try_except (wpAny_mono ((hb (wAs X.K c i ts W D) (X.pn ++ pins) _ (fun u s' flies => ?_) PassesOwn.looking).run [] s st H D (I.toTry _) h) (fun f s1 sp => ?_) fun _ _ y => y)
  · refine comes_down hs hf ok flies fun a st' H' cls d B sI h3 eu dn w => ?_
    subst eu
    obtain ⟨b, hit, yes, no⟩ := w
    obtain ⟨o3, f3, g3, z3, d3, S3⟩ := dn.pinned hf
    refine wpAny_handleBy_cons (codeAny_handlers_test (clause_name hc S3 ((PySem.W.exm_one (M := model X.prog X.w) dn.now.kIn (its_type (s := { s' with heap := h3 }) g3 z3.1) hit).here ?_))) fun q => by cases q
    cases b with
    | false => exact dn.pass hs hf tk (no rfl)
    | true =>
      refine codeAny_handlers_suite_as (HandSPX.lands_againZ dn.fly fun h4 fl4 up4 => ?_)
      obtain ⟨o4, f4, _, z4, d4, S4⟩ := (dn.step fl4 up4).pinned hf
      refine store_ok (X := X.suite a ((a, o4) :: (X.pn ++ pins))) (v := .ref a) S4 hN hi (.inl hln) rfl (fun s5 S5 => ?_) (.inr hln)
      refine run_suite (Y := suiteY X a ((a, o4) :: (X.pn ++ pins)) _) (hsu a o4 cls d (X.pn ++ pins) _ z4 ⟨_, d4⟩ (fun u2 s2 x2 => suite_out hs hf ok hN hi hln (own (some (.ref a))) tk x2) ⟨(a, o4), ⟨rfl, f4, d4, z4.2.2 f4 d4⟩, List.mem_cons_self⟩) (suiteY_in S5) (yes rfl a dn.new) fun f s6 sp => ?_
      cases f
      case ret u =>
        obtain ⟨v, t6, H6, S6, r, q⟩ := sp
        exact gone_ok (suiteY_out ok S6) hN hi hln fun s7 J => ⟨v, _, H6, J, r, q⟩
      all_goals
        obtain ⟨t6, H6, S6, q⟩ := sp
        exact gone_ok (suiteY_out ok S6) hN hi hln fun s7 J => ⟨_, H6, J, q⟩
  · cases f
    case ret u =>
      obtain ⟨v, t6, H6, S6, r, q⟩ := sp
      exact ⟨v, t6, H6, S6.ofTry ok, r, q⟩
    case next =>
      obtain ⟨t6, H6, S6, q⟩ := sp
      exact wpAny_execs_nil ⟨t6, H6, S6.ofTry ok, q⟩
    all_goals
      obtain ⟨t6, H6, S6, q⟩ := sp
      exact ⟨t6, H6, S6.ofTry ok, q⟩⟩
end
end RF
/-! ### promises: context None; while an error is handled -/
namespace RF
open PySem PySem.Spec PyProof.Rows L2 HotX L2H
section
variable {P : Program} {w : World} {K : PySem.W.Frag} {mg : Str → Option Value} {base : Heap}
theorem okXN {x qual : Str} {st : Stmt} {f : Addr} {fd : FuncData} {N ps : List Str} {k : Nat} {sp : Sp} (F : Fun K x qual st f fd) (S : FnScope N ps (defScope st)) (len : ∀ vs H Q E, sp vs H Q E → vs.length = ps.length)
    (hbody : ∀ (cdv : Value) (A : Around) (outer : List Env) (s : Shared) (H : Hp) (vs : List V) (Q : VK) (E : XK), Room k (A.deeper (envOfC qual (defScope st) s.heap.objs.size f cdv)) → sp vs H Q E →
      ∃ t, PSs (cxOf (L2N.CX P w) P w K mg base N qual (defScope st) f cdv A outer s H E) (defBody st) t ∧ t { nx := fun _ H' => Q .non H', rt := Q } (L2.start N vs) H) : FnOk P w K mg base (L2N.CX P w) (k + 1) f fd ps sp := by
  obtain ⟨oc, od, kV, doc, pm, an, cdv, ct, osl, rfl, lk, hcd⟩ := F.ex
  exact fn_of lk hcd S len fun A outer s H vs Q E hr hsp => hbody cdv A outer s H vs Q E hr hsp
theorem okH {x qual : Str} {st : Stmt} {f : Addr} {fd : FuncData} {N ps : List Str} {k : Nat} {sp : Sp} (F : Fun K x qual st f fd) (S : FnScope N ps (defScope st)) (len : ∀ vs H Q E, sp vs H Q E → vs.length = ps.length)
    (hbody : ∀ (cdv : Value) (A : Around) (outer : List Env) (s : Shared) (H : Hp) (vs : List V) (Q : VK) (E : XK) (p : Addr × Obj), Hot1 A p → RoomH k (A.deeper (envOfC qual (defScope st) s.heap.objs.size f cdv)) → sp vs H Q E →
      ∃ t, PSs (cxH CX0 P w K mg base N qual (defScope st) f cdv A outer s H E p) (defBody st) t ∧ t { nx := fun _ H' => Q .non H', rt := Q } (L2.start N vs) H) : FnH P w K mg base CX0 (k + 1) f fd ps sp := by
  obtain ⟨oc, od, kV, doc, pm, an, cdv, ct, osl, rfl, lk, hcd⟩ := F.ex
  exact fn_ofH lk hcd S len fun A outer s H vs Q E p hp hr hsp => hbody cdv A outer s H vs Q E p hp hr hsp
end
section
variable {X : Cx} {e : Expr} {es : List Expr} {ta : TA} {p pos : Pos} {CX : CXT} {x : Str} {C fI : Addr} {k : Nat} {fd : FuncData} {ps : List Str} {sp : Sp} {ds : List Value} {dvs : List V}
/-- the two objects that stand when an own exception's __init__ begins -/
def begun (C : Addr) (us : List Value) (h : Heap) : Heap := (h.push (PySem.W.kdv_tup us)).push (PySem.HandSPX.excO C h.objs.size)
theorem begun_keeps {us : List Value} {h : Heap} {b : Addr} {o : Obj} (y : h.get? b = some o) : (begun C us h).get? b = some o := Heap.get?_push_of_some _ (Heap.get?_push_of_some _ y)
theorem begun_at {us : List Value} {h : Heap} : (begun C us h).get? (h.objs.size + 1) = some (PySem.HandSPX.excO C h.objs.size) := by
  unfold begun
  heap_get
/-- C(e, ..) of an own error, made where nothing is handled: its context is None -/
theorem pmk_oexN (T : OexC X.K C) (iC : PySem.W.findIn X.K (.ref C) "__init__" = some (some (.ref fI))) (tI : PySem.W.typeIn X.K (.ref fI) = some (.type "function")) (F1 : FnOk X.prog X.w X.K X.mg X.base CX k fI fd ps sp)
    (hr : Room (k + 1) X.A) (hb : Binds X.K fd ps ds) (hd : Vals dvs ds) (hx : Passes CX X fun _ _ _ => False) (hg : Gl X x) (hm : X.mg x = some (.ref C)) (ha : PA X (e :: es) ta) (n1 : (x == ("__debug__" : Str)) = false := by decide)
    (st1 : starEach (e :: es) X.env = (false, eval e X.env) :: starEach es X.env := by rfl) (st2 : (backTo pos (starEach es X.env)).any (·.1) = false := by rfl) : L2N.PMk X (.Call (.Name x p) (e :: es) [] pos) (tMkO C sp dvs ta) := by
  intro pins s0 σ H Q I h
  refine wpAny_Call_Name_kw (ld_glob I hg hm (PySem.W.callWith_K (h₀ := X.base) I.ok.mod.kin T.kC (thn (ha.run pos pins s0 σ H _ I h) fun us s1 q => ?_) st1 st2) n1)
  obtain ⟨vs, H1, I1, rv, few, q⟩ := q
  refine ⟨I1.kIn, ?_⟩
  rcases s1 with ⟨h1, g1, w1, t1, o1⟩
  have J : Inv X pins σ (upd H1 (h1.objs.size + 1) (exo (h1.objs.size + 1) C none)) ⟨begun C us h1, g1, w1, t1, o1⟩ := I1.laid (t' := t1) (fun _ _ y => begun_keeps y) (Nat.le_succ _) (exo_ok begun_at)
  have ask := q _ (I1.hok.fresh (Nat.le_succ h1.objs.size))
  have all : Vals (V.ref (h1.objs.size + 1) :: (vs ++ dvs)) (Value.ref (h1.objs.size + 1) :: (us ++ ds)) := Paired.cons rfl (rv.append hd)
  have many : us.length ≤ sizeLine := Nat.le_trans (Nat.le_of_eq (Paired.length rv).symm) (Nat.le_trans few (by rw [sizeLine_eq]; decide))
  have fits : (Value.ref (h1.objs.size + 1) :: us ++ ds).length = ps.length := (Paired.length all).symm.trans (F1.len _ _ _ _ ask)
  have call := F1.run (X.A.under (.builtin "type.__call__" ⟨.ref C :: us, []⟩)) X.stack _ _ ⟨Value.ref (h1.objs.size + 1) :: us, []⟩ _ _ _ (fun _ _ _ => False) (hr.make C us []) (J.env0.make C us []) (hb _ (Value.ref (h1.objs.size + 1) :: us) J.kIn fits) all ask
  obtain ⟨_, _, _, _, bm, _, _, _, _, _, _, _, _, _, _, gC, hbm⟩ := T.cls
  refine wpAny_call (PySem.HandSPX.call_own F.excBase_ValueError (fun Y => PySem.HandSPX.refsVE_contains Y bm hbm) (I1.kIn _ _ gC) (PySem.W.looks_findIn I1.kIn iC) (fun self => PySem.W.bind_fn I1.kIn self tI) many (codeAny_mono call fun r s2 c => ?_))
  match r, c with
  | .error er, c => exact hx pins σ _ _ er s2 J c
  | .ok (.ret u), c =>
    obtain ⟨v, H2, os2, bare, un, hok, r, ev, d, fs, ea, ed, nd, fin⟩ := c
    subst ev
    rcases s2 with ⟨h2, g2, w2, t2, o2⟩
    obtain ⟨tb, G, J2, keeps, fresh, at_, na⟩ := mk_end0 (d2 := w2) (t2 := t2) I1 (Nat.le_succ _) (fun _ _ y => begun_keeps y) un hok os2 bare ea ed nd
    exact ⟨r, h1.objs.size + 1, _, _, ⟨G, g2, w2, t2, o2⟩, _, .ref C, some d, rfl, J2, keeps, fresh, at_, ⟨rfl, rfl, fun f e => by cases e; rfl⟩, rfl, rfl, na, rfl, bare, raises_own T.exC T.tyC, fin⟩
  | .ok .next, c => exact False.elim c
  | .ok .brk, c => exact False.elim c
  | .ok .cont, c => exact False.elim c
end
/-- text * int -/
def rMulS : R2 := fun x y H Q => ∃ (a : Str) (n : Int), x = .str a ∧ y = .int n ∧ MulOk a n ∧ Q (.str (Txt.mul a n)) H
theorem op_mul_str {X : Cx} : OpR X (binaryOp .Mult) rMulS := by
  intro pins s σ H x y v u Q I rx ry h
  obtain ⟨a, n, rfl, rfl, ok, q⟩ := h
  obtain ⟨t, rfl⟩ := rx
  obtain ⟨t2, rfl⟩ := ry
  exact SB.mul ok fun t' k => ⟨.str _, H, I.tok k, ⟨_, rfl⟩, q⟩
end RF
namespace RF
open PySem L2
theorem r_tM1 {σ : L2.St} {H : Hp} {Q : VK} {r : V → List V → Hp → VK → Prop} {to te : TE} {z : Str} {n : V} (h0 : n = .str z) (h : te σ H fun y H2 => r (.str z) [y] H2 Q) : tM1 r (tC n) te σ H Q := by
  subst h0
  exact ⟨⟨z, rfl⟩, h⟩
theorem r_tM1v {σ : L2.St} {H : Hp} {Q : VK} {r : V → List V → Hp → VK → Prop} {to te : TE} (h : to σ H fun x H1 => (∃ a, x = .str a) ∧ te σ H1 fun y H2 => r x [y] H2 Q) : tM1 r to te σ H Q := h
theorem r_isS {z : Str} {A : Prop} (h : A) : (∃ a, V.str z = .str a) ∧ A := ⟨⟨z, rfl⟩, h⟩
end RF
namespace Wr
open PySem PySem.Spec PyProof.Rows L2
/-! ### readings, one lemma a construct: what is left to be shown behind it -/
section
variable {σ : L2.St} {H : Hp} {Q : VK} {QB : Bool → Hp → Prop} {QA : List V → Hp → Prop} {D : Ends} {t u : TS} {te ta tb : TE} {tt tu : TT} {i j : Int} {v : V} {K : PySem.W.Frag}
theorem r_seq (h : t { D with nx := u D } σ H) : tSeq t u D σ H := h
theorem r_next (h : D.nx σ H) : tNext D σ H := h
theorem r_asg {g : TG} (h : te σ H fun x H1 => g x σ H1 D.nx) : tAsg te g D σ H := h
theorem r_drop (h : te σ H fun _ H1 => D.nx σ H1) : tDrop te D σ H := h
theorem r_ret (h : te σ H D.rt) : tRet te D σ H := h
theorem r_ifs (h : tt σ H fun b H1 => if b = true then t D σ H1 else u D σ H1) : tIfS tt t u D σ H := h
theorem r_gname {n : Nat} {QS : L2.St → Hp → Prop} (h : QS (σ.set n (some v)) H) : gName n v σ H QS := h
theorem r_gsub {to ti : TE} {s : TSet} {QS : L2.St → Hp → Prop} (h : to σ H fun o H1 => ti σ H1 fun i H2 => s o i v H2 fun H3 => QS σ H3) : gSub to ti s v σ H QS := h
theorem r_gtup {n : Nat} {tg : TGs} {a : Addr} {xs : List V} {QS : L2.St → Hp → Prop} (h1 : SqT K H a xs) (h2 : xs.length = n) (h : tg xs σ H QS) : gTup K n tg (.ref a) σ H QS := ⟨a, xs, rfl, h1, h2, h⟩
theorem r_gcons {g : TG} {tg : TGs} {xs : List V} {QS : L2.St → Hp → Prop} (h : g v σ H fun s' H' => tg xs s' H' QS) : gCons g tg (v :: xs) σ H QS := ⟨v, xs, rfl, h⟩
theorem r_gnil {QS : L2.St → Hp → Prop} (h : QS σ H) : gNil [] σ H QS := ⟨rfl, h⟩
theorem r_var {n : Nat} (e : σ[n]? = some (some v)) (h : Q v H) : tVar n σ H Q := ⟨v, e, h⟩
theorem r_c (h : Q v H) : tC v σ H Q := h
theorem r_op {r : R2} (h : ta σ H fun x H1 => tb σ H1 fun y H2 => r x y H2 Q) : tOp r ta tb σ H Q := h
theorem r_un {r : V → Hp → VK → Prop} (h : ta σ H fun x H1 => r x H1 Q) : tUn r ta σ H Q := h
theorem r_I {C : Int → Int → Prop} {g : Int → Int → V} (c : C i j) (h : Q (g i j) H) : rI C g (.int i) (.int j) H Q := ⟨i, j, rfl, rfl, c, h⟩
theorem r_I0 {g : Int → Int → V} (h : Q (g i j) H) : rI0 g (.int i) (.int j) H Q := ⟨i, j, rfl, rfl, h⟩
theorem r_U {g : Int → V} (h : Q (g i) H) : rU g (.int i) H Q := ⟨i, rfl, h⟩
theorem r_test (h : te σ H fun x H1 => ∃ k, x = .bl k ∧ QB k H1) : tTest te σ H QB := h
theorem r_tB (h : te σ H fun x H1 => ∃ k, x = .bl k ∧ QB k H1) : tB te σ H QB := h
theorem r_bl {b : Bool} {F : Bool → Prop} (h : F b) : ∃ k, V.bl b = .bl k ∧ F k := ⟨b, rfl, h⟩
theorem r_and (h : tt σ H fun c H1 => if c = true then tu σ H1 QB else QB false H1) : tAnd tt tu σ H QB := h
theorem r_or (h : tt σ H fun c H1 => if c = true then QB true H1 else tu σ H1 QB) : tOr tt tu σ H QB := h
theorem r_not (h : tt σ H fun c H1 => QB (!c) H1) : tNot tt σ H QB := h
theorem r_andV (h : ta σ H fun x H1 => ∃ c, x = .bl c ∧ if c = true then tb σ H1 Q else Q (.bl false) H1) : tAndV ta tb σ H Q := h
theorem r_orV (h : ta σ H fun x H1 => ∃ c, x = .bl c ∧ if c = true then Q (.bl true) H1 else tb σ H1 Q) : tOrV ta tb σ H Q := h
theorem r_notV (h : ta σ H fun x H1 => ∃ c, x = .bl c ∧ Q (.bl (!c)) H1) : tNotV ta σ H Q := h
theorem r_ife (h : tt σ H fun c H1 => if c = true then ta σ H1 Q else tb σ H1 Q) : tIf tt ta tb σ H Q := h
theorem eq_dint : decide (V.int i = V.int j) = decide (i = j) := by
  by_cases e : i = j
  · rw [e, decide_eq_true rfl, decide_eq_true rfl]
  · rw [decide_eq_false e, decide_eq_false fun z => e (V.int.inj z)]
theorem eq_dbl {a b : Bool} : decide (V.bl a = V.bl b) = (a == b) := by cases a <;> cases b <;> rfl
theorem eq_dstr {a b : Str} : decide (V.str a = V.str b) = decide (a = b) := by
  by_cases e : a = b
  · rw [e, decide_eq_true rfl, decide_eq_true rfl]
  · rw [decide_eq_false e, decide_eq_false fun z => e (V.str.inj z)]
theorem r_eqI (h : Q (.bl (decide (i = j))) H) : rEq (.int i) (.int j) H Q := ⟨rfl, by rw [eq_dint]; exact h⟩
theorem r_neI (h : Q (.bl (!decide (i = j))) H) : rNe (.int i) (.int j) H Q := ⟨rfl, by rw [eq_dint]; exact h⟩
theorem r_eqB {a b : Bool} (h : Q (.bl (a == b)) H) : rEq (.bl a) (.bl b) H Q := ⟨rfl, by rw [eq_dbl]; exact h⟩
theorem r_neB {a b : Bool} (h : Q (.bl (!(a == b))) H) : rNe (.bl a) (.bl b) H Q := ⟨rfl, by rw [eq_dbl]; exact h⟩
theorem r_eqS {a b : Str} (h : Q (.bl (decide (a = b))) H) : rEq (.str a) (.str b) H Q := ⟨rfl, by rw [eq_dstr]; exact h⟩
theorem r_neS {a b : Str} (h : Q (.bl (!decide (a = b))) H) : rNe (.str a) (.str b) H Q := ⟨rfl, by rw [eq_dstr]; exact h⟩
theorem r_ixL {p : Addr} {xs : List V} (h1 : SqL K H p xs) (h2 : atI xs i = some v) (h : Q v H) : rIxL K (.ref p) (.int i) H Q := ⟨p, xs, i, v, rfl, rfl, h1, h2, h⟩
theorem r_ixT {p : Addr} {xs : List V} (h1 : SqT K H p xs) (h2 : atI xs i = some v) (h : Q v H) : rIxT K (.ref p) (.int i) H Q := ⟨p, xs, i, v, rfl, rfl, h1, h2, h⟩
theorem r_setL {p : Addr} {xs : List V} {n : Nat} {QH : Hp → Prop} (h1 : H p = some (.lst xs)) (h2 : ixN xs.length i = some n) (h : QH (upd H p (.lst (xs.set n v)))) : rSetL (.ref p) (.int i) v H QH := ⟨p, xs, i, n, rfl, rfl, h1, h2, h⟩
theorem r_nil (h : QA [] H) : tNil σ H QA := h
theorem r_cons {tr : TA} (h : te σ H fun x H1 => tr σ H1 fun xs H2 => QA (x :: xs) H2) : tCons te tr σ H QA := h
theorem r_cb {r : List V → Hp → VK → Prop} {ts : TA} (h : ts σ H fun vs H1 => r vs H1 Q) : tCB r ts σ H Q := h
theorem r_call {sp : Sp} {dvs : List V} {E : XK} {ts : TA} (h : ts σ H fun vs H1 => sp (vs ++ dvs) H1 Q E) : tCall sp dvs E ts σ H Q := h
theorem r_lst {ts : TA} (h : ts σ H fun xs H1 => xs.length ≤ sizeLine ∧ ∀ p, H1 p = none → Q (.ref p) (upd H1 p (.lst xs))) : tLst ts σ H Q := h
theorem r_tup {ts : TA} (h : ts σ H fun xs H1 => xs.length ≤ sizeLine ∧ ∀ p, H1 p = none → Q (.ref p) (upd H1 p (.tup xs))) : tTup ts σ H Q := h
theorem r_new {n : Nat} {F : Addr → Prop} (h1 : Nat.ble n 1000 = true) (h : ∀ p, H p = none → F p) : n ≤ sizeLine ∧ ∀ p, H p = none → F p := ⟨Nat.le_of_lt (small1000 (Nat.le_of_ble_eq_true h1)), h⟩
theorem r_ite {c : Prop} [Decidable c] {A B : Prop} (h1 : c → A) (h2 : ¬ c → B) : if decide c = true then A else B := by
  by_cases e : c
  · rw [decide_eq_true e]; exact iteT (h1 e)
  · rw [decide_eq_false e]; exact iteF (h2 e)
theorem r_iten {c : Prop} [Decidable c] {A B : Prop} (h1 : ¬ c → A) (h2 : c → B) : if (!decide c) = true then A else B := by
  by_cases e : c
  · rw [decide_eq_true e]; exact iteF (h2 e)
  · rw [decide_eq_false e]; exact iteT (h1 e)
theorem r_iteb {b : Bool} {A B : Prop} (h1 : b = true → A) (h2 : b = false → B) : if b = true then A else B := by
  cases b
  · exact iteF (h2 rfl)
  · exact iteT (h1 rfl)
theorem r_itebn {b : Bool} {A B : Prop} (h1 : b = false → A) (h2 : b = true → B) : if (!b) = true then A else B := by
  cases b
  · exact iteT (h1 rfl)
  · exact iteF (h2 rfl)
theorem iteNT {A B : Prop} (h : B) : if (!true) = true then A else B := iteF h
theorem iteNF {A B : Prop} (h : A) : if (!false) = true then A else B := iteT h
/-- int(n), abs(n), len(list) by words of their own -/
def rInt1 : List V → Hp → VK → Prop := fun xs H Q => ∃ i, xs = [.int i] ∧ Q (.int i) H
def rIntB : List V → Hp → VK → Prop := fun xs H Q => ∃ k, xs = [.bl k] ∧ Q (.int (if k then 1 else 0)) H
def rAbs1 : List V → Hp → VK → Prop := fun xs H Q => ∃ i, xs = [.int i] ∧ Q (.int (if i < 0 then -i else i)) H
def rLenL (K : PySem.W.Frag) : List V → Hp → VK → Prop := fun xs H Q => ∃ p ys, xs = [.ref p] ∧ (SqL K H p ys ∨ SqT K H p ys) ∧ Q (.int ys.length) H
theorem c_int1 {X : Cx} : CallR X (.type "int") rInt1 := fun pins s σ H xs us Q I r h => call_int1 pins s σ H xs us Q I r (Or.inl h)
theorem c_intB {X : Cx} : CallR X (.type "int") rIntB := fun pins s σ H xs us Q I r h => call_int1 pins s σ H xs us Q I r (Or.inr h)
theorem c_abs {X : Cx} : CallR X (.builtin "abs") rAbs1 := call_abs
theorem c_len {X : Cx} : CallR X (.builtin "len") (rLenL X.K) := call_len_seq
theorem r_int1 (h : Q (.int i) H) : rInt1 [.int i] H Q := ⟨i, rfl, h⟩
theorem r_intB {b : Bool} (h : Q (.int (if b then 1 else 0)) H) : rIntB [.bl b] H Q := ⟨b, rfl, h⟩
theorem r_abs1 (h : Q (.int (if i < 0 then -i else i)) H) : rAbs1 [.int i] H Q := ⟨i, rfl, h⟩
theorem r_lenL {p : Addr} {xs : List V} (h1 : SqL K H p xs) (h : Q (.int xs.length) H) : rLenL K [.ref p] H Q := ⟨p, xs, rfl, .inl h1, h⟩
theorem r_lenT {p : Addr} {xs : List V} (h1 : SqT K H p xs) (h : Q (.int xs.length) H) : rLenL K [.ref p] H Q := ⟨p, xs, rfl, .inr h1, h⟩
theorem r_bm {T : String} {r : V → List V → Hp → VK → Prop} {to : TE} {ts : TA} (h : to σ H fun x H1 => tyV K T x H1 ∧ ts σ H1 fun xs H2 => r x xs H2 Q) : tBM K T r to ts σ H Q := h
theorem r_tyL {p : Addr} {xs : List V} {A : Prop} (h1 : SqL K H p xs) (h : A) : tyV K "list" (.ref p) H ∧ A := ⟨Or.inl ⟨rfl, xs, h1⟩, h⟩
theorem r_app {p : Addr} {xs : List V} (h1 : H p = some (.lst xs)) (h2 : xs.length < sizeLine) (h : Q .non (upd H p (.lst (xs ++ [v])))) : rAppend (.ref p) [v] H Q := ⟨p, xs, v, rfl, rfl, h1, h2, h⟩
theorem r_isi {x c : V} {tv uv : Value} {b : Bool} (h1 : ClsV c uv) (h2 : TyX K H x tv) (h3 : PySem.W.kitOne K tv uv = some b) (h : Q (.bl b) H) : rIsi K [x, c] H Q := ⟨x, c, tv, uv, b, rfl, h1, h2, h3, h⟩
end
theorem bit_ok {b : Bool} : -(2 ^ 64) < (if b then (1 : Int) else 0) ∧ (if b then (1 : Int) else 0) < 2 ^ 64 := by cases b <;> decide
def kAt (ns : List Int) (i : Nat) : Int := ns.getD i 0
theorem ati_n {ns : List Int} {j : Nat} (h : j < ns.length) : atI (ns.map V.int) (j : Int) = some (.int (kAt ns j)) := atI_nat (by
  rw [List.getElem?_map, List.getElem?_eq_getElem h]
  show some (V.int ns[j]) = _
  rw [kAt, List.getD_eq_getElem?_getD, List.getElem?_eq_getElem h]
  rfl)
theorem ati_int {ns : List Int} {i : Int} (h0 : 0 ≤ i) (h1 : i < ns.length) : atI (ns.map V.int) i = some (.int (kAt ns i.toNat)) := by
  have e := ati_n (ns := ns) (j := i.toNat) (by omega)
  rw [Int.toNat_of_nonneg h0] at e
  exact e
theorem ati_last {ns : List Int} (h : 0 < ns.length) : atI (ns.map V.int) (-1) = some (.int (kAt ns (ns.length - 1))) := by
  unfold atI ixN
  rw [if_neg (by decide), if_pos (by rw [List.length_map]; omega), List.length_map]
  show (ns.map V.int)[((-1 : Int) + ns.length).toNat]? = _
  rw [show ((-1 : Int) + ns.length).toNat = ns.length - 1 by omega, List.getElem?_map, List.getElem?_eq_getElem (by omega)]
  rw [kAt, List.getD_eq_getElem?_getD, List.getElem?_eq_getElem (by omega)]
  rfl
theorem ixn_in {n : Nat} {i : Int} (h0 : 0 ≤ i) (h1 : i < n) : ixN n i = some i.toNat := by
  unfold ixN
  rw [if_pos h0, if_pos h1]
theorem same_new {H : Hp} {p : Addr} {o : HO} (h : H p = none) : Same H (upd H p o) := fun b x e => by
  rw [upd_ne (ne_of_none e h)]
  exact e
theorem nox_K {CX : CXT} {P : Program} {w : World} {K : PySem.W.Frag} {mg : Str → Option Value} {base : Heap} {N : List Str} {qual : Str} {sc : Scope} {f : Addr} {cd : Value} {A : Around} {outer : List Env} {s : Shared} {H : Hp} {E : XK} : (cxOf CX P w K mg base N qual sc f cd A outer s H E).nox.K = K := rfl
theorem cx_K {CX : CXT} {P : Program} {w : World} {K : PySem.W.Frag} {mg : Str → Option Value} {base : Heap} {N : List Str} {qual : Str} {sc : Scope} {f : Addr} {cd : Value} {A : Around} {outer : List Env} {s : Shared} {H : Hp} {E : XK} : (cxOf CX P w K mg base N qual sc f cd A outer s H E).K = K := rfl
section
variable {H : Hp} {Q : VK} {i j : Int} {K : PySem.W.Frag}
/-- % and // and * that hand on a letter -/
theorem r_mod (c : 0 < j) (h : ∀ k : Int, 0 ≤ k → k < j → k = i % j → Q (.int k) H) : rI (fun _ j => 0 < j) (fun i j => .int (i % j)) (.int i) (.int j) H Q :=
  ⟨i, j, rfl, rfl, c, h _ (Int.emod_nonneg _ (by omega)) (Int.emod_lt_of_pos _ c) rfl⟩
theorem r_fdiv (c : 0 < j) (c2 : j < 2 ^ 200) (h : ∀ k : Int, (0 ≤ i → 0 ≤ k) → k = i / j → Q (.int k) H) : rI CDivW (fun i j => .int (i / j)) (.int i) (.int j) H Q :=
  ⟨i, j, rfl, rfl, wide_div (b := 201) c (by omega) (by decide) (by decide), h _ (fun z => Int.ediv_nonneg z (by omega)) rfl⟩
theorem r_mul (c : CMul i j) (h : ∀ k : Int, k = i * j → Q (.int k) H) : rI CMul (fun i j => .int (i * j)) (.int i) (.int j) H Q := ⟨i, j, rfl, rfl, c, h _ rfl⟩
theorem r_lenI {p : Addr} {ns : List Int} (h1 : H p = some (.lst (ns.map V.int))) (h : Q (.int ns.length) H) : rLenL K [.ref p] H Q := ⟨p, _, rfl, .inl (.inl (.inl h1)), by rw [List.length_map]; exact h⟩
end
theorem bl_to {a b : Bool} {Q : VK} {H : Hp} (q : Q (.bl b) H) (e : a = b) : Q (.bl a) H := e ▸ q
/-! ### comprehensions by words of their own -/
def lcGo (J : It) (g : TG) (tt : TT) (te : TE) (vs : List Nat) (σ : L2.St) (Q : VK) (H1 : Hp) : Prop :=
  ∀ D, H1 D = none → ∃ W : Nat → Nat → Hp → Prop, (∃ m, W 0 m (upd H1 D (.lst []))) ∧
    ∀ i m H, W i m H → (J.stop i H ∧ Q (.ref D) H) ∨
      (J.go i H ∧ ∃ Nx : Hp → Prop, (∀ H', Nx H' → ∃ m', m' < m ∧ W (i + 1) m' H') ∧
        ∀ x H', J.yld i H x H' → g x (wipe σ vs) H' fun σ2 H2 => wipe σ2 vs = wipe σ vs ∧ tt σ2 H2 fun b H3 =>
          if b = true then te σ2 H3 fun y H4 => ∃ acc, H4 D = some (.lst acc) ∧ acc.length < sizeLine ∧ Nx (upd H4 D (.lst (acc ++ [y]))) else Nx H3)
section
variable {σ : L2.St} {H : Hp} {Q : VK} {te tl : TE} {K : PySem.W.Frag} {a : Addr} {xs : List V}
theorem r_lc {wi : TI} {g : TG} {tt : TT} {vs : List Nat} (h : wi σ H fun J H1 => lcGo J g tt te vs σ Q H1) : tLc wi g tt te vs σ H Q := h
theorem r_il {R : It → Hp → Prop} (h : tl σ H fun x H1 => ∃ a, x = .ref a ∧ (∃ xs, SqL K H1 a xs) ∧ R (Itl K a) H1) : iList K tl σ H R := h
theorem r_it {R : It → Hp → Prop} (h : tl σ H fun x H1 => ∃ a, x = .ref a ∧ (∃ xs, SqT K H1 a xs) ∧ R (Itt K a) H1) : iTup K tl σ H R := h
theorem r_itl {F : Addr → Prop} (hS : SqL K H a xs) (h : F a) : ∃ b, V.ref a = .ref b ∧ (∃ xs, SqL K H b xs) ∧ F b := ⟨a, rfl, ⟨xs, hS⟩, h⟩
theorem r_itt {F : Addr → Prop} (hS : SqT K H a xs) (h : F a) : ∃ b, V.ref a = .ref b ∧ (∃ xs, SqT K H b xs) ∧ F b := ⟨a, rfl, ⟨xs, hS⟩, h⟩
theorem r_rng1 {ta : TA} {R : It → Hp → Prop} (h : ta σ H fun vs H1 => ∃ j : Int, vs = [.int j] ∧ -(2 ^ 62) ≤ j ∧ j < 2 ^ 62 ∧ R (Itr 0 j.toNat) H1) : iRng1 ta σ H R := h
theorem r_rng2 {ta : TA} {R : It → Hp → Prop} (h : ta σ H fun vs H1 => ∃ i j : Int, vs = [.int i, .int j] ∧ (-(2 ^ 62) ≤ i ∧ i < 2 ^ 62 ∧ -(2 ^ 62) ≤ j ∧ j < 2 ^ 62) ∧ R (Itr i (j - i).toNat) H1) : iRng2 ta σ H R := h
theorem r_upto {j : Int} {F : Int → Prop} (h1 : -1000000 ≤ j) (h2 : j ≤ 1000000) (h : F j) : ∃ k : Int, [V.int j] = [.int k] ∧ -(2 ^ 62) ≤ k ∧ k < 2 ^ 62 ∧ F k := ⟨j, rfl, by omega, by omega, h⟩
theorem r_from {i j : Int} {F : Int → Int → Prop} (h0 : -1000000 ≤ i ∧ i ≤ 1000000) (h1 : -1000000 ≤ j ∧ j ≤ 1000000) (h : F i j) : ∃ i' j' : Int, [V.int i, V.int j] = [.int i', .int j'] ∧ (-(2 ^ 62) ≤ i' ∧ i' < 2 ^ 62 ∧ -(2 ^ 62) ≤ j' ∧ j' < 2 ^ 62) ∧ F i' j' := ⟨i, j, rfl, by omega, h⟩
theorem r_for {wi : TI} {g : TG} {tb : TS} {D : Ends} (h : wi σ H fun J H1 => ∃ W : Nat → Nat → L2.St → Hp → Prop, (∃ m, W 0 m σ H1) ∧ ∀ i m σ H, W i m σ H →
      (J.stop i H ∧ D.nx σ H) ∨ (J.go i H ∧ ∃ N : L2.St → Hp → Prop, (∀ σ' H', N σ' H' → ∃ m', m' < m ∧ W (i + 1) m' σ' H') ∧
        ∀ x H', J.yld i H x H' → g x σ H' fun σ2 H2 => tb { D with nx := N, ct := N, bk := D.nx } σ2 H2)) : tFor wi g tb D σ H := h
theorem wipe1 {n : Nat} {x : V} : wipe ((wipe σ [n]).set n (some x)) [n] = wipe σ [n] := by
  show ((σ.set n none).set n (some x)).set n none = σ.set n none
  rw [List.set_set, List.set_set]
/-- [e for x in xs], e a value by a function of x, the heap only grows aside -/
theorem lc_map {n : Nat} (f : V → V) (hS : SqL K H a xs) (hz : xs.length ≤ 1000) (he : ∀ (x : V) (H' : Hp) (QQ : VK), x ∈ xs → Same H H' → QQ (f x) H' → te ((wipe σ [n]).set n (some x)) H' QQ)
    (hq : ∀ D, H D = none → Q (.ref D) (upd H D (.lst (xs.map f)))) : lcGo (Itl K a) (gName n) tYes te [n] σ Q H := by
  intro D hD
  refine lc_list (K := K) (a := a) (xs := xs) (fun i H' => H' = upd H D (.lst ((xs.take i).map f))) rfl (fun i H' _ e => by subst e; exact (same_new hD).seq hS) ?_ ?_
  · rintro i x H' hx rfl
    refine ⟨wipe1, ?_⟩
    show te _ _ _
    refine he x _ _ (List.mem_of_getElem? hx) (same_new hD) ⟨(xs.take i).map f, upd_same, ?_, ?_⟩
    · rw [List.length_map, List.length_take]
      exact small1000 (by omega)
    · rw [upd_upd, List.take_add_one, hx, List.map_append]
      rfl
  · rintro H' rfl
    rw [List.take_length]
    exact hq D hD
end
section
variable {σ : L2.St} {H : Hp} {Q : VK} {te : TE} {K : PySem.W.Frag} {QO : Option Int → Hp → Prop}
theorem r_sl {r : V → Option Int → Option Int → Hp → VK → Prop} {tl th : TO} (h : te σ H fun x H1 => tl σ H1 fun l H2 => th σ H2 fun u H3 => r x l u H3 Q) : tSl r te tl th σ H Q := h
theorem r_np (h : QO none H) : tNoPart σ H QO := h
theorem r_pt (h : te σ H fun x H1 => ∃ i, x = .int i ∧ QO (some i) H1) : tPart te σ H QO := h
theorem r_pti {i : Int} {F : Int → Prop} (h : F i) : ∃ k, V.int i = .int k ∧ F k := ⟨i, rfl, h⟩
theorem r_slL {a : Addr} {xs : List V} {lo hi : Option Int} (hS : SqL K H a xs) (h : ∀ p, H p = none → Q (.ref p) (upd H p (.lst (cutV xs lo hi)))) : rSlL K (.ref a) lo hi H Q := ⟨a, xs, rfl, hS, h⟩
end
theorem cut_none {xs : List V} {n : Nat} (h : xs.length ≤ n) : cutV xs none (some (n : Int)) = xs := by
  unfold cutV
  rw [HT.sIx_none, show HT.sIx xs.length xs.length (some (n : Int)) = min n xs.length from HT.sIx_nat xs.length xs.length n]
  rw [List.drop_zero, Nat.sub_zero, Nat.min_eq_right h, List.take_length]
/-! ### the draws of a script -/
structure Drw (H : Hp) (d c r : Addr) : Prop where
  dc : d ≠ c
  dr : d ≠ r
  cr : c ≠ r
  ex : ∃ (ns rs : List Int) (t : Int), H d = some (.lst [.ref c, .ref r, .int t]) ∧ H c = some (.lst (ns.map V.int)) ∧ H r = some (.lst (rs.map V.int)) ∧ ns.length = rs.length ∧ 0 < ns.length ∧ 0 ≤ t ∧ ∀ x ∈ rs, 0 ≤ x
def Ext (d r : Addr) (H H' : Hp) : Prop := ∀ b o, H b = some o → b ≠ d → b ≠ r → H' b = some o
theorem Ext.refl {d r : Addr} {H : Hp} : Ext d r H H := fun _ _ e _ _ => e
theorem Ext.trans {d r : Addr} {H H1 H2 : Hp} (a : Ext d r H H1) (b : Ext d r H1 H2) : Ext d r H H2 := fun x o e n1 n2 => b x o (a x o e n1 n2) n1 n2
theorem Ext.of {d r : Addr} {H H' : Hp} (s : Same H H') : Ext d r H H' := fun b o e _ _ => s b o e
theorem Drw.same {H H' : Hp} {d c r : Addr} (D : Drw H d c r) (s : Same H H') : Drw H' d c r := by
  obtain ⟨dc, dr, cr, ns, rs, t, h1, h2, h3, h⟩ := D
  exact ⟨dc, dr, cr, ns, rs, t, s _ _ h1, s _ _ h2, s _ _ h3, h⟩
theorem Drw.new {H : Hp} {d c r p : Addr} {o : HO} (D : Drw H d c r) (h : H p = none) : Drw (upd H p o) d c r := D.same (same_new h)
theorem Drw.ned {H : Hp} {d c r p : Addr} (D : Drw H d c r) (h : H p = none) : p ≠ d := by
  obtain ⟨_, _, _, _, _, _, h1, _⟩ := D
  exact (ne_of_none h1 h).symm
theorem Drw.ner {H : Hp} {d c r p : Addr} (D : Drw H d c r) (h : H p = none) : p ≠ r := by
  obtain ⟨_, _, _, _, _, _, _, _, h1, _⟩ := D
  exact (ne_of_none h1 h).symm
theorem Drw.nec {H : Hp} {d c r p : Addr} (D : Drw H d c r) (h : H p = none) : p ≠ c := by
  obtain ⟨_, _, _, _, _, _, _, h1, _⟩ := D
  exact (ne_of_none h1 h).symm
theorem getD_left {xs : List Int} {y : Int} {i : Nat} (h : i < xs.length) : (xs ++ [y]).getD i 0 = xs.getD i 0 := by
  rw [List.getD_eq_getElem?_getD, List.getD_eq_getElem?_getD, List.getElem?_append_left h]
theorem getD_end {xs : List Int} {y : Int} : (xs ++ [y]).getD xs.length 0 = y := by
  rw [List.getD_eq_getElem?_getD, List.getElem?_append_right (Nat.le_refl _), Nat.sub_self]
  rfl
theorem Drw.back {H H' : Hp} {d c r p : Addr} (D : Drw H d c r) (e : Ext d r H H') (h : H' p = none) (D' : Drw H' d c r := by assumption) : H p = none := by
  cases q : H p with
  | none => rfl
  | some o =>
    have z := e p o q (D'.ned h) (D'.ner h)
    rw [h] at z
    cases z
theorem Drw.put {H : Hp} {d c r p : Addr} {o : HO} (D : Drw H d c r) (h1 : p ≠ d) (h2 : p ≠ r) (h3 : p ≠ c) : Drw (upd H p o) d c r := by
  obtain ⟨dc, dr, cr, ns, rs, t, g1, g2, g3, h⟩ := D
  exact ⟨dc, dr, cr, ns, rs, t, (upd_ne h1.symm).trans g1, (upd_ne h3.symm).trans g2, (upd_ne h2.symm).trans g3, h⟩
def spDraw : Sp := fun vs H Q _ => ∃ (d c r : Addr) (m : Int), vs = [.ref d, .int m] ∧ Drw H d c r ∧ 0 < m ∧ m < 2 ^ 200 ∧ ∀ (k : Int) (H' : Hp), 0 ≤ k → k < m → Drw H' d c r → Ext d r H H' → Q (.int k) H'
def spBegin (K : PySem.W.Frag) : Sp := fun vs H Q _ => ∃ (a : Addr) (ns : List Int), vs = [.ref a] ∧ SqL K H a (ns.map V.int) ∧ ns.length ≤ 63 ∧
  ∀ (d c r : Addr) (H' : Hp), Drw H' d c r → Same H H' → H d = none → H c = none → H r = none → Q (.ref d) H'
def restOf (v : V) : V := match v with
  | .int x => .int ((if x < 0 then -x else x) * (if decide ((10 : Int) ^ 18 ≤ (if x < 0 then -x else x)) then 1 else 0))
  | w => w
def restI (x : Int) : Int := (if x < 0 then -x else x) * (if decide ((10 : Int) ^ 18 ≤ (if x < 0 then -x else x)) then 1 else 0)
theorem rest_map (ns : List Int) : (ns.map V.int).map restOf = (ns.map restI).map V.int := by
  rw [List.map_map, List.map_map]
  rfl
theorem rest_nn (x : Int) : 0 ≤ restI x := by
  unfold restI
  refine Int.mul_nonneg ?_ ?_
  · split <;> omega
  · split <;> omega
/-! ### calls by keywords alone -/
section
variable {X : Cx} {CX : CXT} {k : Nat} {f : Addr} {fd : FuncData} {ps ks : List Str} {sp : Sp} {E : XK} {x : Str} {p pos : Pos} {kws : List Keyword} {tk : TA} {g : List Value → List Value → List Value} {gV : List V → List V → List V}
theorem pe_callN0 (F : FnOk X.prog X.w X.K X.mg X.base CX k f fd ps sp) (hr : Room k X.A) (hg : Gl X x) (hm : X.mg x = some (.ref f)) (hk : PySem.W.keepIn X.K (.ref f) = true) (hb : KBn X.K fd ps 0 ks g gV) (hx : Passes CX X E) (hkw : PK X kws tk)
    (hall : (backToKw pos (keywordEach kws X.env)).all (fun q => q.1.isSome) = true := by rfl) (hks : (backToKw pos (keywordEach kws X.env)).filterMap (fun q => q.1) = ks := by rfl) (hdb : (x == ("__debug__" : Str)) = false := by decide)
    (hpl : ((backTo pos (starEach [] X.env)).any (fun q => q.1) || (backToKw pos (keywordEach kws X.env)).any (fun q => q.1.isNone)) = false := by rfl) :
    PE X (.Call (.Name x p) [] kws pos) (tCallN 0 ks.length sp gV E tNil tk) := by
  refine ⟨fun pins s σ H Q I h => wpAny_Call_Name_kw (ld_glob I hg hm ?_ hdb)⟩
  refine PySem.W.callWith_KW0 (h₀ := X.base) I.ok.mod.kin hk hall (thn (hkw.run pos pins s σ H _ I h) fun ws s2 hh => ?_) hpl
  obtain ⟨zs, H2, I2, rz, l1, l2, q2⟩ := hh
  refine ⟨I2.kIn, ?_⟩
  rw [hks]
  exact run_fnN (us := []) (vs := []) F hr hb hx I2 .nil rz rfl l2 q2
theorem r_callN {n m : Nat} {ts : TA} {σ : L2.St} {H : Hp} {Q : VK} (h : ts σ H fun vs H1 => tk σ H1 fun zs H2 => vs.length = n ∧ zs.length = m ∧ sp (gV vs zs) H2 Q E) : tCallN n m sp gV E ts tk σ H Q := h
end
theorem kb_mk {K : PySem.W.Frag} {x qual : Str} {st : Stmt} {f : Addr} {fd : FuncData} {ps ks : List Str} {g : List Value → List Value → List Value} {gV : List V → List V → List V} (F : Fun K x qual st f fd)
    (h : ∀ (kV doc pm : Value) (an : Option Addr) (cdv ct : Value) (ws : List Value), ws.length = ks.length → bindArgs (PySem.W.fnOf x qual (defArgs st) (defBody st) (defScope st) .none kV doc pm an cdv ct) ⟨[], ks.zip ws⟩ = pure (ps.zip (g [] ws)))
    (hrel : ∀ {vs : List V} {us : List Value} {zs : List V} {ws : List Value}, Vals vs us → Vals zs ws → Vals (gV vs zs) (g us ws)) : KBn K fd ps 0 ks g gV := by
  obtain ⟨oc, od, kV, doc, pm, an, cdv, ct, osl, rfl, lk, hcd⟩ := F.ex
  refine ⟨fun s us ws _ l1 l2 => ?_, hrel⟩
  have e : us = [] := List.length_eq_zero_iff.mp l1
  subst e
  exact .of_eq (h kV doc pm an cdv ct ws l2)
section
variable {σ : L2.St} {H : Hp} {D : Ends} {ta : TA}
theorem r_par {i j : Nat} (h : ta σ H fun vs H1 => ∃ v w, vs = [v, w] ∧ D.nx ((σ.set i (some v)).set j (some w)) H1) : tPar i j ta D σ H := h
theorem r_par3 {i j l : Nat} (h : ta σ H fun vs H1 => ∃ u v w, vs = [u, v, w] ∧ D.nx (((σ.set i (some u)).set j (some v)).set l (some w)) H1) : tPar3 i j l ta D σ H := h
theorem r_two {a b : V} {F : V → V → Prop} (h : F a b) : ∃ v w, [a, b] = [v, w] ∧ F v w := ⟨a, b, rfl, h⟩
theorem r_three {a b c : V} {F : V → V → V → Prop} (h : F a b c) : ∃ u v w, [a, b, c] = [u, v, w] ∧ F u v w := ⟨a, b, c, rfl, h⟩
end
/-- [e for x in range(..)], e draws -/
theorem lc_draws {σ : L2.St} {H : Hp} {Q : VK} {te : TE} {n m : Nat} {lo : Int} {d c r : Addr} {P : Int → Prop} (hm : m ≤ 1000) (D0 : Drw H d c r)
    (he : ∀ (i : Nat) (H' : Hp) (QQ : VK), i < m → Drw H' d c r → Ext d r H H' → (∀ (k : Int) (H'' : Hp), P k → Drw H'' d c r → Ext d r H' H'' → QQ (.int k) H'') → te ((wipe σ [n]).set n (some (.int (lo + i)))) H' QQ)
    (hq : ∀ (l : Addr) (ss : List Int) (H' : Hp), ss.length = m → (∀ x ∈ ss, P x) → H l = none → H' l = some (.lst (ss.map V.int)) → Drw H' d c r → Ext d r H H' → Q (.ref l) H') : lcGo (Itr lo m) (gName n) tYes te [n] σ Q H := by
  intro l nl
  have ld := D0.ned nl
  have lr := D0.ner nl
  have lc := D0.nec nl
  refine lc_range (fun i H' => ∃ ss : List Int, ss.length = i ∧ (∀ x ∈ ss, P x) ∧ H' l = some (.lst (ss.map V.int)) ∧ Drw H' d c r ∧ Ext d r H H') ⟨[], rfl, fun x hx => (nomatch hx), upd_same, D0.new nl, Ext.of (same_new nl)⟩ ?_ ?_
  · rintro i H' hi ⟨ss, hl, hp, hs, D1, E1⟩
    refine ⟨wipe1, ?_⟩
    show te _ _ _
    refine he i H' _ hi D1 E1 fun k H'' hk D2 E2 => ⟨ss.map V.int, E2 _ _ hs ld lr, ?_, ?_⟩
    · rw [List.length_map]
      exact small1000 (by omega)
    · refine ⟨ss ++ [k], by rw [List.length_append, hl]; rfl, fun x hx => ?_, by rw [upd_same, List.map_append]; rfl, D2.put ld lr lc, fun b o e n1 n2 => ?_⟩
      · rcases List.mem_append.mp hx with z | z
        · exact hp x z
        · rw [List.mem_singleton.mp z]; exact hk
      · rw [upd_ne (ne_of_none e nl)]
        exact E2 b o (E1 b o e n1 n2) n1 n2
  · rintro H' ⟨ss, hl, hp, hs, D1, E1⟩
    exact hq l ss H' hl hp nl hs D1 E1
section
variable {σ : L2.St} {H : Hp} {D : Ends} {te : TE} {Q : VK}
theorem r_aug {i : Nat} {ti : TIp} {x : V} (e : σ[i]? = some (some x)) (h : te σ H fun y H1 => ti x y H1 fun z H2 => D.nx (σ.set i (some z)) H2) : tAug i te ti D σ H := ⟨x, e, h⟩
theorem r_ext2 {l b : Addr} {xs zs : List V} (h1 : H l = some (.lst xs)) (h2 : H b = some (.lst zs)) (hz : xs.length + zs.length ≤ 1000) (h : Q (.ref l) (upd H l (.lst (xs ++ zs)))) : rExt2 (.ref l) (.ref b) H Q := ⟨l, b, xs, zs, rfl, rfl, h1, h2, Nat.le_of_lt (small1000 hz), h⟩
theorem r_ipI {f : Int → Int → Int} {i j : Int} (h : Q (.int (f i j)) H) : ipI f (.int i) (.int j) H Q := ⟨i, j, rfl, rfl, h⟩
end
/-! ### operators of own classes: by the class's own def -/
section
open PySem.W
variable {prog : Program} {w : World} {A : Around} {E : Value → Shared → Prop} {s : Shared} {K : PySem.W.Frag} {x C f : Addr} {ox : Obj} {od : Option Obj} {b tb : Value}
theorem check_obj {M : Model} {rest : List Value} {Q : Unit → Shared → Prop} (X : K.In s.heap) (I : InstAt s.heap x ox C od) (hob : subIn K (.ref C) (.type "object") = some true) (ha : argsOk "object.__ne__" ⟨.ref x :: rest, []⟩) (hq : Q () s) :
    wpAny M A (checkBuiltinCall "object.__ne__" ⟨.ref x :: rest, []⟩) Q E s := by
  simp only [checkBuiltinCall, F.cmpKind_ne, F.cmpSplit_ne]
  refine wpAny_bind ?_
  unfold isInstance
  refine wpAny_bind (I.type.here ((looks_subIn X hob).here ?_))
  simp only [Bool.not_true, Bool.false_eq_true, if_false]
  cases hsig : Manifest.signature? "object.__ne__" with
  | none => exact wpAny_pure hq
  | some sig =>
    simp only [argsOk, hsig] at ha
    show wpAny M A (Bind.checkArgs "object.__ne__" sig ⟨.ref x :: rest, []⟩) Q E _
    rw [show Bind.checkArgs "object.__ne__" sig ⟨.ref x :: rest, []⟩ = pure () from ha]
    exact wpAny_pure hq
theorem bound_ne {M : Model} {args : List Value} {Q : Option Value → Shared → Prop} (X : K.In s.heap) (I : InstAt s.heap x ox C od) (hs : findIn K (.ref C) "__ne__" = some (some (.builtin "object.__ne__")))
    (h : wpAny M A (call (.builtin "object.__ne__") (.ref x :: args)) (fun v => Q (some v)) E s) : wpAny M A (callSpecialIfBound? (.ref x) "__ne__" args) Q E s := by
  simp only [callSpecialIfBound?, bindSpecialIfBound?]
  have hb : bindSpecial (.builtin "object.__ne__") (.ref x) = pure (.builtin "object.__ne__", [.ref x]) := F.cmp_object.ne.bind _
  have fin : wpAny M A (call (.builtin "object.__ne__") ([.ref x] ++ args) >>= fun v => pure (some v)) Q E s := wpAny_bind (wpAny_mono h (fun v s' h' => wpAny_pure h') fun _ _ h' => h')
  refine wpAny_holding (wpAny_bind (wpAny_bind (wpAny_bind (I.type.here ((looks_findIn X hs).here ?_)))))
  refine wpAny_bind (wpAny_askSetting (wpAny_ite ?_))
  rw [hb]
  split
  · exact wpAny_bind (wpAny_pure (wpAny_pure (by exact fin)))
  · exact wpAny_tryCatch (wpAny_bind (wpAny_pure (wpAny_pure (by exact fin))))
theorem ne_own {Q : Value → Shared → Prop} (hu : A.units + 1 < cLine) (X : K.In s.heap) (I : InstAt s.heap x ox C od) (hb : Looks (model prog w) s.heap (typeOf b) tb) (hn : notFirst K C tb = true)
    (hne : findIn K (.ref C) "__ne__" = some (some (.builtin "object.__ne__"))) (hob : subIn K (.ref C) (.type "object") = some true) (hs : findIn K (.ref C) "__eq__" = some (some (.ref f))) (hf : isFn K (.ref f) = true)
    (h : wpAny (model prog w) A.in1 (call (.ref f) [.ref x, b]) (fun v s' => ∃ k, v = .bool k ∧ Q (.bool (!k)) s') E s) : wpAny (model prog w) A (richCompare .NotEq (.ref x) b) Q E s := by
  have one : wpAny (model prog w) A (tryCompare (.ref x) (cmpInfo .NotEq).2.1 b) (fun r s' => ∃ v, r = some v ∧ Q v s') E s := by
    unfold tryCompare
    refine wpAny_bind (bound_ne X I hne (wpAny_call (codeAny_call_builtin F.cmp_object.ne.plain F.cmpEntry_ne (check_obj X I hob (F.cmpArgs_ne _ _) ?_))))
    unfold Builtin.«object.__ne__»
    repeat (first
      | with_reducible refine wpAny_cRoomFor hu ?_
      | (refine wpAny_bind (m := callSpecialIfBound? (.ref x) (Str.ofString "__eq__") [b])
          (ifBound_K X I hs hf (wpAny_mono h (fun r s' hr => by
            obtain ⟨k, rfl, hq⟩ := hr
            repeat (first | exact wpAny_pure ⟨_, rfl, hq⟩ | (refine wpAny_bind (m := truthy (.bool _)) (wpAny_truthy_bool ?_)) | wp_step)) fun _ _ e => e)))
      | wp_step)
  unfold richCompare
  simp only [oneThing_ref]
  refine wpAny_holding (wpAny_bind (wpAny_cRoomFor (Nat.lt_of_succ_lt hu) ?_))
  refine wpAny_bind (I.type.here (wpAny_bind (hb.here ?_)))
  split
  · rename_i q
    have e : subIn K tb (.ref C) = some false := by
      rcases Bool.or_eq_true_iff.mp hn with e | e
      · rw [beq_iff_eq.mp e] at q; simp at q
      · exact beq_iff_eq.mp e
    refine wpAny_bind ((looks_subIn X e).here ?_)
    simp only [Bool.false_eq_true, if_false]
    refine wpAny_bind (wpAny_mono one (fun r s' z => ?_) fun _ _ e => e)
    obtain ⟨v, rfl, hq⟩ := z
    exact wpAny_pure hq
  · refine wpAny_bind (wpAny_pure ?_)
    simp only [Bool.false_eq_true, if_false]
    refine wpAny_bind (wpAny_mono one (fun r s' z => ?_) fun _ _ e => e)
    obtain ⟨v, rfl, hq⟩ := z
    exact wpAny_pure hq
theorem neg_own {M : Model} {Q : Value → Shared → Prop} (X : K.In s.heap) (I : InstAt s.heap x ox C od) (hs : findIn K (.ref C) "__neg__" = some (some (.ref f))) (hf : isFn K (.ref f) = true)
    (h : wpAny M A (call (.ref f) [.ref x]) Q E s) : wpAny M A (unaryOp .USub (.ref x)) Q E s := by
  unfold unaryOp
  refine wpAny_holding ?_
  dsimp only
  rw [if_neg (by decide)]
  exact wpAny_bind (special_fn X I hs (beq_iff_eq.mp hf) (wpAny_mono h (fun _ _ z => wpAny_pure z) fun _ _ z => z))
end
section
variable {X : Cx} {CX : CXT} {k : Nat} {g C : Addr} {fd : FuncData} {ps : List Str} {sp : Sp} {E : XK}
theorem cmpb {P : Value → Shared → Prop} {z : V} {v : Value} {s' : Shared} (r : RelV z v) (h : P v s') : PySem.W.CmpBack P v s' := by
  cases z with
  | non => cases (show v = Value.none from r); exact h
  | bl b => cases (show v = Value.bool b from r); exact h
  | int i => obtain ⟨t, rfl⟩ := (show ∃ t, v = Value.int i t from r); exact h
  | str x => obtain ⟨t, rfl⟩ := (show ∃ t, v = Value.str x t from r); exact h
  | byt b => obtain ⟨t, rfl⟩ := (show ∃ t, v = Value.bytes b t from r); exact h
  | flt b => obtain ⟨t, rfl⟩ := (show ∃ t, v = Value.float b t from r); exact h
  | ref a => cases (show v = Value.ref a from r); exact h
  | ty n => cases (show v = Value.type n from r); exact h
/-- what an own operator of the class at C asks: the left one is an instance, the right one's type is known and not below C -/
def rCmpO (K : PySem.W.Frag) (C : Addr) (sp : Sp) (E : XK) : R2 := fun x y H Q => ∃ a dx fs t, x = .ref a ∧ H a = some (.ins C dx fs) ∧ TyX K H y t ∧ PySem.W.notFirst K C t = true ∧ sp [x, y] H Q E
def rNeO (K : PySem.W.Frag) (C : Addr) (sp : Sp) (E : XK) : R2 := fun x y H Q => ∃ a dx fs t, x = .ref a ∧ H a = some (.ins C dx fs) ∧ TyX K H y t ∧ PySem.W.notFirst K C t = true ∧ sp [x, y] H (fun v H' => ∃ b, v = .bl b ∧ Q (.bl (!b)) H') E
def rAddO (C : Addr) (sp : Sp) (E : XK) : R2 := fun x y H Q => ∃ a dx fs b dy gs, x = .ref a ∧ y = .ref b ∧ H a = some (.ins C dx fs) ∧ H b = some (.ins C dy gs) ∧ sp [x, y] H Q E
def rNegO (C : Addr) (sp : Sp) (E : XK) : V → Hp → VK → Prop := fun x H Q => ∃ a dx fs, x = .ref a ∧ H a = some (.ins C dx fs) ∧ sp [x] H Q E
theorem inst_at {pins : List (Addr × Obj)} {σ : L2.St} {H : Hp} {s : Shared} {a dx : Addr} {fs : List (Str × V)} (I : Inv X pins σ H s) (h : H a = some (.ins C dx fs)) : ∃ ox od, PySem.W.InstAt s.heap a ox C od := by
  obtain ⟨mA, O, _⟩ := ins_get I.hok h
  obtain ⟨od, J, _⟩ := O.look
  exact ⟨_, _, J⟩
theorem op_cmpO {op : CmpOp} (hop : ∀ a b, compareOp op a b = richCompare op a b) (hs : PySem.W.findIn X.K (.ref C) (cmpInfo op).2.1 = some (some (.ref g))) (hf : PySem.W.isFn X.K (.ref g) = true) (F : FnOk X.prog X.w X.K X.mg X.base CX k g fd ps sp) (hr : Room k X.A) (hb : Binds X.K fd ps []) (hx : Passes CX X E) :
    OpR X (compareOp op) (rCmpO X.K C sp E) := by
  intro pins s σ H x y v u Q I rx ry h
  obtain ⟨a, dx, fs, t, rfl, ha, ty, hn, q⟩ := h
  cases (show v = Value.ref a from rx)
  obtain ⟨ox, od, J⟩ := inst_at I ha
  obtain ⟨P, Z, p, _⟩ := kit_of I ry ty
  obtain ⟨m, hF⟩ := I.fr
  rw [hop]
  refine PySem.W.cmp_K (op := op) (tb := t) hr.units0 hF I.ok.mod.kin J (Z.ty _ _ I.kIn p) hn hs hf ?_
  refine wpAny_mono (run_fn (ds := []) (dvs := []) (vs := [.ref a, y]) F hr hb .nil hx I (.cons rfl (.cons ry .nil)) (by rw [List.append_nil]; exact q)) (fun w s' z => ?_) fun _ _ e => e
  obtain ⟨z', H', I', rz, qz⟩ := z
  exact cmpb rz ⟨z', H', I', rz, qz⟩
theorem op_eqO (hs : PySem.W.findIn X.K (.ref C) "__eq__" = some (some (.ref g))) (hf : PySem.W.isFn X.K (.ref g) = true) (F : FnOk X.prog X.w X.K X.mg X.base CX k g fd ps sp) (hr : Room k X.A) (hb : Binds X.K fd ps []) (hx : Passes CX X E) :
    OpR X (compareOp .Eq) (rCmpO X.K C sp E) := op_cmpO (fun _ _ => rfl) hs hf F hr hb hx
theorem op_neO (hs : PySem.W.findIn X.K (.ref C) "__eq__" = some (some (.ref g))) (hf : PySem.W.isFn X.K (.ref g) = true) (hne : PySem.W.findIn X.K (.ref C) "__ne__" = some (some (.builtin "object.__ne__"))) (hob : PySem.W.subIn X.K (.ref C) (.type "object") = some true)
    (F : FnOk X.prog X.w X.K X.mg X.base CX k g fd ps sp) (hr : Room (k + 1) X.A) (hb : Binds X.K fd ps []) (hx : Passes CX X E) : OpR X (compareOp .NotEq) (rNeO X.K C sp E) := by
  intro pins s σ H x y v u Q I rx ry h
  obtain ⟨a, dx, fs, t, rfl, ha, ty, hn, q⟩ := h
  cases (show v = Value.ref a from rx)
  obtain ⟨ox, od, J⟩ := inst_at I ha
  obtain ⟨P, Z, p, _⟩ := kit_of I ry ty
  have hu := hr.units
  show wpAny _ _ (richCompare .NotEq _ _) _ _ _
  refine ne_own (by omega) I.kIn J (Z.ty _ _ I.kIn p) hn hne hob hs hf ?_
  have r2 : Vals [V.ref a, y] [Value.ref a, u] := .cons rfl (.cons ry .nil)
  have hl : ([Value.ref a, u] ++ []).length = ps.length := by
    rw [List.append_nil, ← r2.length]
    exact F.len _ _ _ _ q
  refine wpAny_call (codeAny_mono (F.run X.A.in1 X.stack s H ⟨[.ref a, u], []⟩ [.ref a, u] _ _ E hr.in1 I.env0.in1 (by have z := hb s [.ref a, u] I.kIn hl; rw [List.append_nil] at z; exact z) r2 q) fun r s' hq => ?_)
  cases r with
  | error e => exact hx pins σ H s e s' I hq
  | ok fl =>
    cases fl with
    | ret z =>
      obtain ⟨v', H', I', rv, b, rfl, qz⟩ := I.after hq
      cases rv
      exact ⟨b, rfl, .bl (!b), H', I', rfl, qz⟩
    | next => exact False.elim hq
    | brk => exact False.elim hq
    | cont => exact False.elim hq
theorem op_binO {op : Operator} (hc : PySem.W.selfFirst X.K C = true) (hs : PySem.W.findIn X.K (.ref C) (PySem.dunder op.info.2) = some (some (.ref g))) (hf : PySem.W.isFn X.K (.ref g) = true) (F : FnOk X.prog X.w X.K X.mg X.base CX k g fd ps sp) (hr : Room k X.A) (hb : Binds X.K fd ps []) (hx : Passes CX X E) :
    OpR X (binaryOp op) (rAddO C sp E) := by
  intro pins s σ H x y v u Q I rx ry h
  obtain ⟨a, dx, fs, b, dy, gs, rfl, rfl, ha, hb', q⟩ := h
  cases (show v = Value.ref a from rx)
  cases (show u = Value.ref b from ry)
  obtain ⟨ox, od, J⟩ := inst_at I ha
  obtain ⟨oy, oe, J'⟩ := inst_at I hb'
  obtain ⟨m, hF⟩ := I.fr
  refine PySem.W.binop_K (op := op) hF I.ok.mod.kin J J'.type hc hs hf ?_
  refine wpAny_mono (run_fn (ds := []) (dvs := []) (vs := [.ref a, .ref b]) F hr hb .nil hx I (.cons rfl (.cons rfl .nil)) (by rw [List.append_nil]; exact q)) (fun w s' z => ?_) fun _ _ e => e
  obtain ⟨z', H', I', rz, qz⟩ := z
  exact cmpb rz ⟨z', H', I', rz, qz⟩
theorem un_negO (hs : PySem.W.findIn X.K (.ref C) "__neg__" = some (some (.ref g))) (hf : PySem.W.isFn X.K (.ref g) = true) (F : FnOk X.prog X.w X.K X.mg X.base CX k g fd ps sp) (hr : Room k X.A) (hb : Binds X.K fd ps []) (hx : Passes CX X E) :
    UnR X (unaryOp .USub) (rNegO C sp E) := by
  intro pins s σ H x v Q I rx h
  obtain ⟨a, dx, fs, rfl, ha, q⟩ := h
  cases (show v = Value.ref a from rx)
  obtain ⟨ox, od, J⟩ := inst_at I ha
  exact neg_own I.kIn J hs hf (run_fn (ds := []) (dvs := []) (vs := [.ref a]) F hr hb .nil hx I (.cons rfl .nil) (by rw [List.append_nil]; exact q))
/-- v in x, x of an own class with its own __contains__, which hands back a truth -/
def rInO (C : Addr) (sp : Sp) (E : XK) : R2 := fun x y H Q => ∃ a dx fs, y = .ref a ∧ H a = some (.ins C dx fs) ∧ sp [y, x] H (fun v H' => ∃ b, v = .bl b ∧ Q (.bl b) H') E
theorem op_inO (hs : PySem.W.findIn X.K (.ref C) "__contains__" = some (some (.ref g))) (hf : PySem.W.isFn X.K (.ref g) = true) (F : FnOk X.prog X.w X.K X.mg X.base CX k g fd ps sp) (hr : Room k X.A) (hb : Binds X.K fd ps []) (hx : Passes CX X E) :
    OpR X (compareOp .In) (rInO C sp E) := by
  intro pins s σ H x y v u Q I rx ry h
  obtain ⟨a, dx, fs, rfl, ha, q⟩ := h
  cases (show u = Value.ref a from ry)
  obtain ⟨ox, od, J⟩ := inst_at I ha
  obtain ⟨m, hF⟩ := I.fr
  refine PySem.W.in_K hF I.ok.mod.kin J hs hf (wpAny_mono (run_fn (ds := []) (dvs := []) (vs := [.ref a, x]) F hr hb .nil hx I (.cons rfl (.cons rx .nil)) (by rw [List.append_nil]; exact q)) (fun w s' z => ?_) fun _ _ e => e)
  obtain ⟨z', H', I', rz, b, rfl, qz⟩ := z
  cases rz
  exact wpAny_truthy_bool ⟨.bl b, H', I', rfl, qz⟩
end
/-! ### fields, methods, new instances -/
section
variable {σ : L2.St} {H : Hp} {Q : VK} {K : PySem.W.Frag} {te ta tv : TE} {a C dx : Addr} {fs : List (Str × V)} {f : Str} {v : V} {D : Ends}
theorem r_fld (h : ta σ H fun x H1 => ∃ a C dx fs v, x = .ref a ∧ H1 a = some (.ins C dx fs) ∧ Cls K C ∧ NoAttr K C f ∧ fs.lookup f = some v ∧ Q v H1) : tFld K ta f σ H Q := h
theorem r_get {F : V → Prop} (e : H a = some (.ins C dx fs)) (c : Cls K C) (n : NoAttr K C f) (l : fs.lookup f = some v) (h : F v) : ∃ a' C dx fs v, V.ref a = .ref a' ∧ H a' = some (.ins C dx fs) ∧ Cls K C ∧ NoAttr K C f ∧ fs.lookup f = some v ∧ F v := ⟨a, C, dx, fs, v, rfl, e, c, n, l, h⟩
theorem r_sfld (h : tv σ H fun y H1 => ta σ H1 fun x H2 => ∃ a C dx fs, x = .ref a ∧ H2 a = some (.ins C dx fs) ∧ Cls K C ∧ NoAttr K C f ∧ fs.length < 1000 ∧ D.nx σ (upd H2 a (.ins C dx (putF f y fs)))) : sFld K ta tv f D σ H := h
theorem r_put {F : Hp → Prop} {y : V} (e : H a = some (.ins C dx fs)) (c : Cls K C) (n : NoAttr K C f) (l : fs.length < 1000) (h : F (upd H a (.ins C dx (putF f y fs)))) : ∃ a' C dx fs, V.ref a = .ref a' ∧ H a' = some (.ins C dx fs) ∧ Cls K C ∧ NoAttr K C f ∧ fs.length < 1000 ∧ F (upd H a' (.ins C dx (putF f y fs))) := ⟨a, C, dx, fs, rfl, e, c, n, l, h⟩
theorem r_meth {m : Str} {sp : Sp} {dvs : List V} {E : XK} {ts : TA} (h : ta σ H fun x H1 => ∃ a dx fs, x = .ref a ∧ H1 a = some (.ins C dx fs) ∧ fs.lookup m = none ∧ ts σ H1 fun vs H2 => sp (x :: (vs ++ dvs)) H2 Q E) : tMeth C m sp dvs E ta ts σ H Q := h
theorem r_who {m : Str} {A : Prop} (e : H a = some (.ins C dx fs)) (l : fs.lookup m = none) (h : A) : ∃ a' dx fs, V.ref a = .ref a' ∧ H a' = some (.ins C dx fs) ∧ fs.lookup m = none ∧ A := ⟨a, dx, fs, rfl, e, l, h⟩
theorem r_make {sp : Sp} {dvs : List V} {E : XK} {ts : TA} (h : ts σ H fun vs H1 => ∀ x dx, H1 x = none → H1 dx = none → dx ≠ x → sp (.ref x :: (vs ++ dvs)) (upd (upd H1 dx (.own x)) x (.ins C dx [])) (fun v H2 => v = .non ∧ Q (.ref x) H2) E) : tMake C sp dvs E ts σ H Q := h
end
theorem same_make {H H' : Hp} {x dx C : Addr} (nx : H x = none) (nd : H dx = none) (s : ∀ b o, (upd (upd H dx (.own x)) x (.ins C dx [])) b = some o → b ≠ x → H' b = some o) : Same H H' := fun b o e =>
  s b o (by rw [upd_ne (ne_of_none e nx), upd_ne (ne_of_none e nd)]; exact e) (ne_of_none e nx)
/-! ### defs that may ask repr of lists and tuples: called where no repr is under way -/
structure FnG (P : Program) (w : World) (K : PySem.W.Frag) (mg : Str → Option Value) (base : Heap) (CX : CXT) (k : Nat) (f : Addr) (fd : FuncData) (ps : List Str) (sp : Sp) : Prop where
  len : ∀ vs H Q E, sp vs H Q E → vs.length = ps.length
  run : ∀ (A : Around) (outer : List Env) (s : Shared) (H : Hp) (args : Args) (us : List Value) (vs : List V) (Q : VK) (E : XK), A.guards = some [] → Room k A → Env0 P w K mg base A outer s H →
    BindsTo s fd args (ps.zip us) → Vals vs us → sp vs H Q E → codeAny (model P w) A (.call (.ref f) args) (CR CX outer P w H s Q E) s
section
variable {P : Program} {w : World} {K : PySem.W.Frag} {mg : Str → Option Value} {base : Heap}
theorem okG {x qual : Str} {st : Stmt} {f : Addr} {fd : FuncData} {N ps : List Str} {k : Nat} {sp : Sp} (F : Fun K x qual st f fd) (S : FnScope N ps (defScope st)) (len : ∀ vs H Q E, sp vs H Q E → vs.length = ps.length)
    (hbody : ∀ (cdv : Value) (A : Around) (outer : List Env) (s : Shared) (H : Hp) (vs : List V) (Q : VK) (E : XK), A.guards = some [] → Room k (A.deeper (envOfC qual (defScope st) s.heap.objs.size f cdv)) → sp vs H Q E →
      ∃ t, PSs (cxOf CX0 P w K mg base N qual (defScope st) f cdv A outer s H E).nox (defBody st) t ∧ t { nx := fun _ H' => Q .non H', rt := Q } (start N vs) H) : FnG P w K mg base CX0 (k + 1) f fd ps sp := by
  obtain ⟨oc, od, kV, doc, pm, an, cdv, ct, osl, rfl, lk, hcd⟩ := F.ex
  refine ⟨len, fun A outer s H args us vs Q E hG hr e0 hb r hsp => ?_⟩
  -- the body's reading is kept for this around alone: elsewhere the promise is not asked
  have inn : K.In s.heap := e0.mod.kin.keeps fun b o e => (e0.bs b o e).1
  have nol : s.heap.NoLimit := e0.mod.nolimit.keeps fun b o e => (e0.bs b o e).1
  have par : ∀ y ∈ ps.zip us, (defScope st).names.lookup y.1 = some .local ∨ ((defScope st).names.lookup y.1 = some .cell ∧ ((cellsFrom (s.heap.objs.size + 1) (defScope st).names []).lookup y.1).isSome = true) := by
    intro y hy
    have hm : y.1 ∈ ps := (List.of_mem_zip (show (y.1, y.2) ∈ ps.zip us from hy)).1
    exact (S.par y.1 hm).imp (fun z => z) fun z => ⟨z, PySem.W.cellsFrom_some _ _ _ (.inl z)⟩
  obtain ⟨t, ht, hq⟩ := hbody cdv A outer s H vs Q E hG (hr.deeper _) hsp
  refine codeAny_call_function hr.depth (inn _ _ lk) rfl S.co S.gen rfl (PySem.W.codeRec_of inn hcd) (hb _ _ _ _ ?_)
  refine wpAny_newFunctionEnv_cells S.kind par fun env he s1 x => ?_
  subst he
  refine ⟨nol.keeps x.toInCall.keep, codeAny_func ?_⟩
  have I := inv_start (CX := CX0) (E := E) S hr.hd e0 (len _ _ _ _ hsp) r x
  refine wpAny_mono (ht.nox.run [] s1 (start N vs) H _ I hq) (fun fl s' hs => ?_) fun e s' hs => hs
  cases fl with
  | ret u =>
    obtain ⟨v, σ', H', J, rv, q⟩ := hs
    exact ⟨v, H', J.os, J.bare, J.base, J.hok, rv, q⟩
  | next =>
    obtain ⟨σ', H', J, q⟩ := hs
    exact ⟨V.non, H', J.os, J.bare, J.base, J.hok, rfl, q⟩
  | brk => exact False.elim hs.choose_spec.choose_spec.2
  | cont => exact False.elim hs.choose_spec.choose_spec.2
theorem deeper_guards {A : Around} {env : Env} (h : A.guards = some []) : (A.deeper env).guards = some [] := h
end
section
variable {X : Cx} {CX : CXT} {k : Nat} {f : Addr} {fd : FuncData} {ps : List Str} {sp : Sp} {dvs : List V} {ds : List Value} {E : XK} {x : Str} {p pos : Pos} {e : Expr} {es : List Expr} {t : TA}
theorem pe_callG (hG : X.A.guards = some []) (F : FnG X.prog X.w X.K X.mg X.base CX k f fd ps sp) (hr : Room k X.A) (hg : Gl X x) (hm : X.mg x = some (.ref f)) (hk : PySem.W.keepIn X.K (.ref f) = true) (hb : Binds X.K fd ps ds) (hd : Vals dvs ds) (hx : Passes CX X E)
    (ha : PA X (e :: es) t) (hdb : (x == ("__debug__" : Str)) = false := by decide) (he : starEach (e :: es) X.env = (false, eval e X.env) :: starEach es X.env := by rfl) (hpl : (backTo pos (starEach es X.env)).any (fun q => q.1) = false := by rfl) :
    PE X (.Call (.Name x p) (e :: es) [] pos) (tCall sp dvs E t) := by
  refine ⟨fun pins s σ H Q I h => wpAny_Call_Name_kw (ld_glob I hg hm ?_ hdb)⟩
  refine PySem.W.callWith_K (h₀ := X.base) I.ok.mod.kin hk (thn (ha.run pos pins s σ H _ I h) fun us s1 hh => ?_) he hpl
  obtain ⟨vs, H1, I1, r, q⟩ := hh
  refine ⟨I1.kIn, ?_⟩
  have r2 : Vals (vs ++ dvs) (us ++ ds) := r.append hd
  have hl : (us ++ ds).length = ps.length := by rw [← r2.length]; exact F.len _ _ _ _ q
  refine wpAny_call (codeAny_mono (F.run X.A X.stack s1 H1 ⟨us, []⟩ (us ++ ds) (vs ++ dvs) Q E hG hr I1.env0 (hb s1 us I1.kIn hl) r2 q) fun r s' hq => ?_)
  match r, hq with
  | .error e, hq => exact hx pins σ H1 s1 e s' I1 hq
  | .ok (.ret u), hq => exact I1.after hq
  | .ok .next, hq => exact False.elim hq
  | .ok .brk, hq => exact False.elim hq
  | .ok .cont, hq => exact False.elim hq
/-- repr of a list or a tuple of plain things -/
def rRepr (K : PySem.W.Frag) : List V → Hp → VK → Prop := fun xs H Q => ∃ (a : Addr) (d : PyData), xs = [.ref a] ∧ Dp K H (.ref a) d ∧ d.showable = true ∧ d.hasDict = false ∧ d.depth ≤ 20 ∧ d.shown.length ≤ sizeLine ∧ Q (.str d.shown) H
theorem call_repr (hG : X.A.guards = some []) (hu : X.A.units + 64 < cLine) : CallR X (.builtin "repr") (rRepr X.K) := by
  intro pins s σ H xs us Q I r h
  obtain ⟨a, d, rfl, hd, hs, hn, hdp, hz, q⟩ := h
  obtain ⟨u, rfl, ru⟩ := vals1 r
  cases (show u = Value.ref a from ru)
  obtain ⟨as, rd⟩ := Dp.reads I d _ _ hd rfl
  exact repr_of_reads' rd hs (fun z => by rw [hn] at z; cases z) hG (by omega) (fun _ _ z => z) (fun h' u tk hk => ⟨.str d.shown, H, I.kept hk, ⟨u, rfl⟩, q⟩) hz
end
/-! ### the law's own call, of a def of that kind -/
section
variable {P : Program} {w : World} {K : PySem.W.Frag} {mg mb : Str → Option Value} {k : Nat} {fa a : Addr} {fd : FuncData} {x : Str} {sp : Sp} {s : Shared} {vs : List Value} {ns : List Int}
/-- the script alone may be tracked: where it is, what of it is known -/
structure Alone (P : Program) (w : World) (K : PySem.W.Frag) (s : Shared) (a : Addr) (ns : List Int) (H : Hp) : Prop where
  only : Only H
  seq : SqL K H a (ns.map V.int)
  ok : HOk P w H s.heap
  at_ : ∀ b u, H b = some u → b = a
  out : ∀ u, H a = some u → K.lookup a = none
theorem alone_ex (inn : K.In s.heap) (ha : s.heap.get? a = some { cls := .type "list", data := .seq vs.toArray }) (hi : IntsAre vs ns) (hl : ns.length ≤ sizeLine) : ∃ H, Alone P w K s a ns H := by
  have rv := vals_ints hi
  cases hk : K.lookup a with
  | some o =>
    obtain rfl : o = { cls := .type "list", data := .seq vs.toArray } := Option.some.inj ((inn a o hk).symm.trans ha)
    refine ⟨fun _ => none, fun _ => .inl rfl, .inr ⟨_, vs.toArray, _, hk, rfl, rfl, rfl, ?_, ?_⟩, fun _ _ z => (by cases z), fun _ _ z => (by cases z), fun _ z => (by cases z)⟩
    · rw [List.size_toArray, hi.length]; exact hl
    · rw [List.toList_toArray]; exact rv
  | none =>
    have one : ∀ b u, (upd (fun _ => none) a (.frz { cls := .type "list", data := .seq vs.toArray } (.lst (ns.map V.int)))) b = some u → b = a := fun b u z => by
      by_cases hb : b = a
      · exact hb
      · rw [upd_ne hb] at z; cases z
    refine ⟨upd (fun _ => none) a (.frz { cls := .type "list", data := .seq vs.toArray } (.lst (ns.map V.int))), fun b => ?_, .inl (.inr ⟨_, upd_same⟩), fun b u z => ?_, one, fun _ _ => hk⟩
    · by_cases hb : b = a
      · subst hb; exact .inr ⟨_, _, upd_same⟩
      · exact .inl (upd_ne hb)
    · obtain rfl := one b u z
      rw [upd_same] at z
      cases z
      exact ⟨ha, by rw [List.length_map]; exact hl, vs, _, rv, ha⟩
theorem law_callG (inn : K.In s.heap) (hns : s.heap.Ns mainGlobals mg) (hb : s.heap.Ns builtinsNs mb) (hbb : ∀ x : Str, x ≠ "__name__" → mb x = bootBuiltins x) (hlim : s.heap.NoLimit) (hg : s.gens = #[])
    (ha : s.heap.get? a = some { cls := .type "list", data := .seq vs.toArray }) (hi : IntsAre vs ns) (hl : ns.length ≤ sizeLine) (hr : Room k callerA)
    (F : ∀ base : Heap, K.In base → base.Ns mainGlobals mg → FnG P w K mg base CX0 k fa fd [x] sp) (hbind : ∀ (s : Shared) (u : Value), BindsTo s fd ⟨[u], []⟩ [(x, u)])
    (hsp : ∀ H : Hp, Only H → SqL K H a (ns.map V.int) → sp [.ref a] H (fun v _ => v = .bl true) fun _ _ _ => False) :
    codeAny (model P w) callerA (.call (.ref fa) ⟨[.ref a], []⟩) (fun r s' => r = .ok (.ret (.bool true)) ∧ OldK s.heap s'.heap ∧ s'.os = s.os ∧ AllBare s'.gens) s := by
  obtain ⟨H, N⟩ := alone_ex (P := P) (w := w) inn ha hi hl
  -- a dict is not the script: it is not tracked
  have free : ∀ {b : Addr} {o : Obj}, s.heap.get? b = some o → (∀ its n, o.data ≠ .seq its n) → H b = none := fun {b o} e z => by
    cases q : H b with
    | none => rfl
    | some u =>
      obtain rfl := N.at_ b u q
      rw [ha] at e
      cases e
      exact absurd rfl (z _ _)
  have space : ∀ {b : Addr} {m : Str → Option Value}, s.heap.Ns b m → (hidT s.heap H).Ns b m := fun {b m} z => by
    obtain ⟨o, es, ep, e, d, r⟩ := z
    exact ⟨o, es, ep, hidT_get e (free e fun _ _ y => by rw [d] at y; cases y), d, r⟩
  have inb : K.In (hidT s.heap H) := fun b o e => hidT_get (inn b o e) (by
    cases q : H b with
    | none => rfl
    | some u =>
      obtain rfl := N.at_ b u q
      rw [N.out u q] at e
      cases e)
  have md : Mod K mg (hidT s.heap H) := by
    obtain ⟨mc, l1, l2⟩ := hlim
    exact ⟨inb, space hns, ⟨mb, space hb, hbb⟩, mc, space l1, l2⟩
  have e0 : Env0 P w K mg (hidT s.heap H) callerA [] s H := ⟨rfl, md, fun _ _ e => of_hidT e, Nat.le_of_eq (hidT_size _ _), trivial, fun _ z => (nomatch z), N.ok, .of_eq hg⟩
  refine codeAny_mono ((F _ inb (space hns)).run callerA [] s H ⟨[.ref a], []⟩ [.ref a] [.ref a] _ _ rfl hr e0 (hbind s (.ref a)) (.cons rfl .nil) (hsp H N.only N.seq)) fun r s' h => ?_
  match r, h with
  | .error e, h => exact False.elim h
  | .ok .next, h => exact False.elim h
  | .ok .brk, h => exact False.elim h
  | .ok .cont, h => exact False.elim h
  | .ok (.ret u), h =>
    obtain ⟨v, H', os, bare, un, ok', r', q⟩ := h
    obtain rfl : v = .bl true := q
    obtain rfl : u = Value.bool true := r'
    refine ⟨rfl, OldK.of_keep fun b o e => ?_, os, bare⟩
    cases q : H b with
    | none => exact un.keep b o e q (fun z => (nomatch z)) (fun z => (nomatch z))
    | some u =>
      rcases N.only b with z | ⟨ob, xs, z⟩
      · rw [q] at z; cases z
      · have e1 : s.heap.get? b = some ob := (show ObjOk P w H s.heap b (.frz ob (.lst xs)) from N.ok b _ z).1
        have e2 : s'.heap.get? b = some ob := (show ObjOk P w H' s'.heap b (.frz ob (.lst xs)) from ok' b _ (un.frzs b ob _ z)).1
        exact (Option.some.inj (e.symm.trans e1)) ▸ e2
end
theorem walk_ofG {l : PySem.W.OpenLaw} {n k : Nat} {q : Program} {loose : List Str} {XP : (Str → Option Value) → Heap → Prop} {YP : World → Heap → Prop} {d : DefRec} {K : Params → PySem.W.Frag} {sp : World → Sp} {x : Str}
    (hn : l.most = some n) (hn2 : n ≤ sizeLine) (hdf : d.params.defaults = []) (hr : Room k callerA) (hY : ∀ (w : World) (h : Heap), YP w h → (K w.params).In h)
    (F : ∀ (w : World) (mg : Str → Option Value) (fa : Addr) (h : Heap), (K w.params).In h → h.Ns mainGlobals mg → mg d.name = some (.ref fa) →
      ∃ fd : FuncData, (∀ (s : Shared) (u : Value), BindsTo s fd ⟨[u], []⟩ [(x, u)]) ∧ ∀ base : Heap, (K w.params).In base → base.Ns mainGlobals mg → FnG l.prog w (K w.params) mg base CX0 k fa fd [x] (sp w))
    (hsp : ∀ (w : World) (H : Hp) (a : Addr) (ns : List Int), ns.length ≤ n → Only H → SqL (K w.params) H a (ns.map V.int) → sp w [.ref a] H (fun v _ => v = .bl true) fun _ _ _ => False) :
    PySem.W.WalkO q loose XP YP l.row.toRowW d [] (fun f vs => PySem.call f vs) := by
  refine Att.attach_call hn hdf fun w s0 s1 mg mb fa o pm cd doc a vs ns G Y ho hd hcd hmg hobj hints hlen hg => ?_
  obtain ⟨fd, hb, hF⟩ := F w mg fa _ (hY w _ Y) G.T.g hmg
  exact law_callG (hY w _ Y) G.T.g G.T.b G.T.builtins G.T.nolimit hg hobj hints (Nat.le_trans hlen hn2) hr hF hb fun H hO hS => hsp w H a ns hlen hO hS
/-! ### new instances whose __init__ may raise, within a try: what is raised is wished for at the slots -/
section
variable {X : Cx} {CX : CXT} {k : Nat} {f C : Addr} {fd : FuncData} {ps ks : List Str} {sp : Sp} {x : Str} {p pos : Pos} {e : Expr} {es : List Expr} {kws : List Keyword} {t tk : TA} {g : List Value → List Value → List Value} {gV : List V → List V → List V}
theorem run_makeA {pins : List (Addr × Obj)} {σ : L2.St} {H : Hp} {s : Shared} {Q : VK} {E : XK} {us : List Value} {kw : List (Str × Value)} {fu : Value → List Value} {fv : V → List V} (M : Mk X.K C f) (F : FnOk X.prog X.w X.K X.mg X.base CX k f fd ps sp) (hr : Room (k + 1) X.A)
    (hb : ∀ (s' : Shared) (v : Value), X.K.In s'.heap → BindsTo s' fd ⟨v :: us, kw⟩ (ps.zip (fu v))) (rr : ∀ a : Addr, Vals (fv (.ref a)) (fu (.ref a))) (hx : PassesAt CX X σ E) (I : Inv X pins σ H s)
    (h : ∀ x dx, H x = none → H dx = none → dx ≠ x → sp (fv (.ref x)) (upd (upd H dx (.own x)) x (.ins C dx [])) (fun v H2 => v = .non ∧ Q (.ref x) H2) E) :
    wpAny (model X.prog X.w) X.A (call (.ref C) us kw) (EP X pins σ Q) X.xe s := by
  have I2 := Inv.made (C := C) I
  have hq := h (s.heap.objs.size + 1) s.heap.objs.size (I.hok.fresh (Nat.le_succ _)) (I.hok.fresh (Nat.le_refl _)) (Nat.ne_of_lt (Nat.lt_succ_self _))
  refine wpAny_call (make_map (f := f) I.kIn M.makes M.init (beq_iff_eq.mp M.fn) (codeAny_mono (F.run _ X.stack _ _ ⟨Value.ref (s.heap.objs.size + 1) :: us, kw⟩ (fu (.ref (s.heap.objs.size + 1))) (fv (.ref (s.heap.objs.size + 1))) _ E
    (hr.make C us kw) (I2.env0.make C us kw) (hb _ _ I2.kIn) (rr _) hq) fun r s' z => ?_))
  match r, z with
  | .error e, z => exact hx pins _ _ e s' I2 z
  | .ok .next, z => exact False.elim z
  | .ok .brk, z => exact False.elim z
  | .ok .cont, z => exact False.elim z
  | .ok (.ret u), z =>
    obtain ⟨v, H', I3, rv, rfl, q3⟩ := I2.after z
    exact ⟨rv, .ref (s.heap.objs.size + 1), H', I3, rfl, q3⟩
def tMakeS (C : Addr) (sp : Sp) (E : L2.St → XK) (t : TA) : TE := fun σ H Q => t σ H fun vs H1 => ∀ x dx, H1 x = none → H1 dx = none → dx ≠ x → sp (.ref x :: vs) (upd (upd H1 dx (.own x)) x (.ins C dx [])) (fun v H2 => v = .non ∧ Q (.ref x) H2) (E σ)
def tMakeKS (C : Addr) (m : Nat) (sp : Sp) (gV : List V → List V → List V) (E : L2.St → XK) (tk : TA) : TE := fun σ H Q => tk σ H fun zs H1 => zs.length = m ∧ ∀ x dx, H1 x = none → H1 dx = none → dx ≠ x → sp (gV [.ref x] zs) (upd (upd H1 dx (.own x)) x (.ins C dx [])) (fun v H2 => v = .non ∧ Q (.ref x) H2) (E σ)
theorem pe_makeS {E : L2.St → XK} (M : Mk X.K C f) (F : FnOk X.prog X.w X.K X.mg X.base CX k f fd ps sp) (hr : Room (k + 1) X.A) (hg : Gl X x) (hm : X.mg x = some (.ref C)) (hb : Binds X.K fd ps []) (hx : ∀ σ, PassesAt CX X σ (E σ)) (ha : PA X (e :: es) t)
    (hdb : (x == ("__debug__" : Str)) = false := by decide) (he : starEach (e :: es) X.env = (false, eval e X.env) :: starEach es X.env := by rfl) (hpl : (backTo pos (starEach es X.env)).any (fun q => q.1) = false := by rfl) :
    PE X (.Call (.Name x p) (e :: es) [] pos) (tMakeS C sp E t) := by
  refine ⟨fun pins s σ H Q I h => wpAny_Call_Name_kw (ld_glob I hg hm ?_ hdb)⟩
  refine PySem.W.callWith_K (h₀ := X.base) I.ok.mod.kin M.kp (thn (ha.run pos pins s σ H _ I h) fun us s1 hh => ?_) he hpl
  obtain ⟨vs, H1, I1, r, q⟩ := hh
  refine ⟨I1.kIn, ?_⟩
  have hq := q (s1.heap.objs.size + 1) s1.heap.objs.size (I1.hok.fresh (Nat.le_succ _)) (I1.hok.fresh (Nat.le_refl _)) (Nat.ne_of_lt (Nat.lt_succ_self _))
  have hl := F.len _ _ _ _ hq
  have hl2 : vs.length = us.length := r.length
  refine run_makeA (fu := fun v => v :: us) (fv := fun v => v :: vs) M F hr (fun s' v inn => ?_) (fun a => .cons rfl r) (hx σ) I1 q
  have z := hb s' (v :: us) inn (by rw [List.append_nil, List.length_cons, ← hl2]; exact hl)
  rw [List.append_nil] at z
  exact z
theorem pe_makeKS {E : L2.St → XK} (M : Mk X.K C f) (F : FnOk X.prog X.w X.K X.mg X.base CX k f fd ps sp) (hr : Room (k + 1) X.A) (hg : Gl X x) (hm : X.mg x = some (.ref C)) (hb : KBn X.K fd ps 1 ks g gV) (hx : ∀ σ, PassesAt CX X σ (E σ)) (hkw : PK X kws tk)
    (hall : (backToKw pos (keywordEach kws X.env)).all (fun q => q.1.isSome) = true := by rfl) (hks : (backToKw pos (keywordEach kws X.env)).filterMap (fun q => q.1) = ks := by rfl) (hdb : (x == ("__debug__" : Str)) = false := by decide)
    (hpl : ((backTo pos (starEach [] X.env)).any (fun q => q.1) || (backToKw pos (keywordEach kws X.env)).any (fun q => q.1.isNone)) = false := by rfl) :
    PE X (.Call (.Name x p) [] kws pos) (tMakeKS C ks.length sp gV E tk) := by
  refine ⟨fun pins s σ H Q I h => wpAny_Call_Name_kw (ld_glob I hg hm ?_ hdb)⟩
  refine PySem.W.callWith_KW0 (h₀ := X.base) I.ok.mod.kin M.kp hall (thn (hkw.run pos pins s σ H _ I h) fun ws s2 hh => ?_) hpl
  obtain ⟨zs, H2, I2, rz, l2, q2⟩ := hh
  refine ⟨I2.kIn, ?_⟩
  rw [hks]
  exact run_makeA (fu := fun v => g [v] ws) (fv := fun v => gV [v] zs) M F hr (fun s' v inn => hb.to s' [v] ws inn rfl (rz.length.symm.trans l2)) (fun a => hb.rel (.cons rfl .nil) rz) (hx σ) I2 q2
theorem kb_mk1 {K : PySem.W.Frag} {x qual : Str} {st : Stmt} {f : Addr} {fd : FuncData} {ps ks : List Str} {g : List Value → List Value → List Value} {gV : List V → List V → List V} (F : Fun K x qual st f fd)
    (h : ∀ (kV doc pm : Value) (an : Option Addr) (cdv ct : Value) (v : Value) (ws : List Value), ws.length = ks.length → bindArgs (PySem.W.fnOf x qual (defArgs st) (defBody st) (defScope st) .none kV doc pm an cdv ct) ⟨[v], ks.zip ws⟩ = pure (ps.zip (g [v] ws)))
    (hrel : ∀ {vs : List V} {us : List Value} {zs : List V} {ws : List Value}, Vals vs us → Vals zs ws → Vals (gV vs zs) (g us ws)) : KBn K fd ps 1 ks g gV := by
  obtain ⟨oc, od, kV, doc, pm, an, cdv, ct, osl, rfl, lk, hcd⟩ := F.ex
  refine ⟨fun s us ws _ l1 l2 => ?_, hrel⟩
  match us, l1 with
  | [v], _ => exact .of_eq (h kV doc pm an cdv ct v ws l2)
/-- isinstance(e, C), e the caught exception, where its class is C or below it -/
def rIsEp (K : PySem.W.Frag) (cls : Value) (a : Addr) : List V → Hp → VK → Prop := fun xs H Q => ∃ C' : Addr, xs = [.ref a, .ref C'] ∧ PySem.W.isIn K cls C' = true ∧ Q (.bl true) H
theorem call_isEp {a : Addr} {oe : Obj} {cls : Value} {d : Option Addr} {pn : List (Addr × Obj)} (hz : Zc cls d oe) : CallR (X.suite a ((a, oe) :: pn)) (.builtin "isinstance") (rIsEp X.K cls a) := by
  intro pins s σ H xs us Q I r h
  obtain ⟨C', rfl, e, q⟩ := h
  obtain ⟨u1, u2, rfl, r1, r2⟩ := vals2 r
  cases (show u1 = Value.ref a from r1)
  cases (show u2 = Value.ref C' from r2)
  obtain ⟨hget, _⟩ := I.pin (a, oe) (List.mem_append.mpr (.inl List.mem_cons_self))
  exact PySem.W.isi_call I.kIn (fun M A Q E s k q => wpAny_typeOf_ref (k _ _ hget) (by rw [hz.1]; exact q)) e (fun z => nomatch z) ⟨.bl true, H, I, rfl, q⟩
end
section
variable {σ : L2.St} {H : Hp} {Q : VK} {K : PySem.W.Frag} {C : Addr} {sp : Sp} {D : Ends}
theorem r_makeS {E : L2.St → XK} {t : TA} (h : t σ H fun vs H1 => ∀ x dx, H1 x = none → H1 dx = none → dx ≠ x → sp (.ref x :: vs) (upd (upd H1 dx (.own x)) x (.ins C dx [])) (fun v H2 => v = .non ∧ Q (.ref x) H2) (E σ)) : tMakeS C sp E t σ H Q := h
theorem r_makeKS {m : Nat} {gV : List V → List V → List V} {E : L2.St → XK} {tk : TA} (h : tk σ H fun zs H1 => zs.length = m ∧ ∀ x dx, H1 x = none → H1 dx = none → dx ≠ x → sp (gV [.ref x] zs) (upd (upd H1 dx (.own x)) x (.ins C dx [])) (fun v H2 => v = .non ∧ Q (.ref x) H2) (E σ)) : tMakeKS C m sp gV E tk σ H Q := h
theorem r_xf {a : Addr} {cls : Value} {d : Option Addr} {f : Str} {te : TE} (h : te σ H fun x H1 => x = .ref a ∧ cls = .ref C ∧ ∃ (dd : Addr) (fs : List (Str × V)) (v : V), d = some dd ∧ H1 dd = some (.xd fs) ∧ fs.lookup f = some v ∧ Q v H1) : tXf a cls d C f te σ H Q := h
theorem r_isEp {cls : Value} {a C' : Addr} (e : PySem.W.isIn K cls C' = true) (h : Q (.bl true) H) : rIsEp K cls a [.ref a, .ref C'] H Q := ⟨C', rfl, e, h⟩
/-- self.f = e in an exception's __init__: the first field, a later one -/
theorem r_ost {f : Str} {to te : TE} (h : te σ H fun y H1 => to σ H1 fun x H2 => ∃ a C : Addr, x = .ref a ∧ OexC K C ∧ PySem.W.findIn K (.ref C) f = some none ∧
  ((H2 a = some (exo a C none) ∧ ∀ dx, H2 dx = none → dx ≠ a → D.nx σ (upd (upd H2 dx (exd dx [(f, y)])) a (exo a C (some dx)))) ∨
    ∃ (dx : Addr) (fs : List (Str × V)), H2 a = some (exo a C (some dx)) ∧ H2 dx = some (exd dx fs) ∧ fs.length ≤ 900 ∧ D.nx σ (upd H2 dx (exd dx ((f, y) :: fs))))) : tOst K f to te D σ H := h
theorem r_ost1 {a : Addr} {f : Str} {F G : Addr → Addr → Prop} {Z : Addr → Addr → Prop} (T : OexC K C) (n : PySem.W.findIn K (.ref C) f = some none) (ha : H a = some (exo a C none)) (h : F a C) : ∃ a' C : Addr, V.ref a = .ref a' ∧ OexC K C ∧ PySem.W.findIn K (.ref C) f = some none ∧ ((H a' = some (exo a' C none) ∧ F a' C) ∨ G a' C) := ⟨a, C, rfl, T, n, .inl ⟨ha, h⟩⟩
end
/-! ### wrappers that name the written part: for comprehensions, try bodies, suites -/
section
variable {X : Cx} {K : PySem.W.Frag} {o e : Expr} {f : Str} {ta te : TE} {pos : Pos}
theorem pe_fldK (ha : PE X o ta) (hK : X.K = K := by rfl) (hb : attributeBase o f X.env (eval o X.env) = eval o X.env := by rfl) : PE X (.Attribute o f pos) (tFld K ta f) := by
  subst hK
  exact pe_fld ha hb
end
/-! ### a + b by an own def that may raise, within a try -/
def tBinS (C : Addr) (sp : Sp) (E : L2.St → XK) (ta tb : TE) : TE := fun σ H Q => ta σ H fun x H1 => tb σ H1 fun y H2 => ∃ a dx fs b dy gs, x = .ref a ∧ y = .ref b ∧ H2 a = some (.ins C dx fs) ∧ H2 b = some (.ins C dy gs) ∧ sp [x, y] H2 Q (E σ)
section
variable {X : Cx} {CX : CXT} {k : Nat} {g C : Addr} {fd : FuncData} {ps : List Str} {sp : Sp} {a b : Expr} {ta tb : TE} {pos : Pos} {op : Operator}
theorem pe_binS {E : L2.St → XK} (hc : PySem.W.selfFirst X.K C = true) (hs : PySem.W.findIn X.K (.ref C) (PySem.dunder op.info.2) = some (some (.ref g))) (hf : PySem.W.isFn X.K (.ref g) = true) (F : FnOk X.prog X.w X.K X.mg X.base CX k g fd ps sp) (hr : Room k X.A) (hb : Binds X.K fd ps []) (hx : ∀ σ, PassesAt CX X σ (E σ))
    (h1 : PE X a ta) (h2 : PE X b tb) : PE X (.BinOp a op b pos) (tBinS C sp E ta tb) := by
  refine ⟨fun pins s σ H Q I h => wpAny_BinOp (binT h1 h2 I h fun v u s2 x y H2 I2 rx ry q => ?_)⟩
  obtain ⟨p, dx, fs, r, dy, gs, rfl, rfl, ha, hb', q⟩ := q
  cases (show v = Value.ref p from rx)
  cases (show u = Value.ref r from ry)
  obtain ⟨ox, od, J⟩ := inst_at I2 ha
  obtain ⟨oy, oe, J'⟩ := inst_at I2 hb'
  obtain ⟨m, hF⟩ := I2.fr
  refine PySem.W.binop_K (op := op) hF I2.ok.mod.kin J J'.type hc hs hf (wpAny_mono (run_fnS (us := [.ref p, .ref r]) (vs := [.ref p, .ref r]) F hr hb (hx σ) I2 (.cons rfl (.cons rfl .nil)) q) (fun w s' z => ?_) fun _ _ e => e)
  obtain ⟨z', H', I', rz, qz⟩ := z
  exact cmpb rz ⟨z', H', I', rz, qz⟩
end
theorem r_binS {σ : L2.St} {H : Hp} {Q : VK} {C : Addr} {sp : Sp} {E : L2.St → XK} {ta tb : TE} (h : ta σ H fun x H1 => tb σ H1 fun y H2 => ∃ a dx fs b dy gs, x = .ref a ∧ y = .ref b ∧ H2 a = some (.ins C dx fs) ∧ H2 b = some (.ins C dy gs) ∧ sp [x, y] H2 Q (E σ)) : tBinS C sp E ta tb σ H Q := h
/-! ### ends: None or an int -/
def endV : Option Int → V
  | none => .non
  | some i => .int i
def endD : Option Int → PyData
  | none => .none
  | some i => .int i
/-- a small end: what repr takes -/
def EndOk (e : Option Int) : Prop := ∀ i, e = some i → -(10 ^ 60) < i ∧ i < 10 ^ 60
theorem log_ok {i : Int} (h : -(10 ^ 60) < i ∧ i < 10 ^ 60) : i.natAbs.log2 < 1920 := by
  have h1 : i.natAbs < 2 ^ 200 := by
    have : i.natAbs < 10 ^ 60 := by omega
    exact Nat.lt_trans this (by decide)
  have h2 : i.natAbs.log2 < 200 := by
    by_cases e : i.natAbs = 0
    · rw [e]; decide
    · exact (Nat.log2_lt e).mpr h1
  omega
theorem dp_end {K : PySem.W.Frag} {H : Hp} (e : Option Int) : Dp K H (endV e) (endD e) := by
  cases e with
  | none => exact .non
  | some i => exact .int i
theorem show_end {e : Option Int} (h : EndOk e) : (endD e).showable = true := by
  cases e with
  | none => rfl
  | some i => exact decide_eq_true (log_ok (h i rfl))
theorem len_end {e : Option Int} (h : EndOk e) : ((endD e).shown).length ≤ 2000 := by
  cases e with
  | none => decide +kernel
  | some i => exact Nat.le_trans (PyProof.Rows.int_text_len_1921 (log_ok (h i rfl))) (by decide)
section
variable {H : Hp} {Q : VK} {K : PySem.W.Frag} {X : Cx}
def rIsNo : R2 := fun x y H Q => y = .non ∧ Q (.bl (decide (x = .non))) H
def rNotNo : R2 := fun x y H Q => y = .non ∧ Q (.bl (!decide (x = .non))) H
theorem o_isN : OpR X (compareOp .Is) rIsNo := op_isN
theorem o_notN : OpR X (compareOp .IsNot) rNotNo := op_notN
theorem r_isNe {e : Option Int} (h : Q (.bl (!e.isSome)) H) : rIsNo (endV e) .non H Q := by
  cases e with
  | none => exact ⟨rfl, h⟩
  | some i => exact ⟨rfl, h⟩
theorem r_notNe {e : Option Int} (h : Q (.bl e.isSome) H) : rNotNo (endV e) .non H Q := by
  cases e with
  | none => exact ⟨rfl, h⟩
  | some i => exact ⟨rfl, h⟩
theorem r_isNi {i : Int} (h : Q (.bl false) H) : rIsNo (.int i) .non H Q := ⟨rfl, h⟩
theorem r_isNn (h : Q (.bl true) H) : rIsNo .non .non H Q := ⟨rfl, h⟩
theorem r_isNr {a : Addr} (h : Q (.bl false) H) : rIsNo (.ref a) .non H Q := ⟨rfl, h⟩
theorem r_notNi {i : Int} (h : Q (.bl true) H) : rNotNo (.int i) .non H Q := ⟨rfl, h⟩
theorem r_notNn (h : Q (.bl false) H) : rNotNo .non .non H Q := ⟨rfl, h⟩
theorem r_notNr {a : Addr} (h : Q (.bl true) H) : rNotNo (.ref a) .non H Q := ⟨rfl, h⟩
/-- repr of a list of two ends -/
theorem r_repr2 {a : Addr} {b c : Option Int} (h : H a = some (.lst [endV b, endV c])) (hb : EndOk b) (hc : EndOk c) (q : Q (.str (PyData.list [endD b, endD c]).shown) H) : rRepr K [.ref a] H Q := by
  refine ⟨a, .list [endD b, endD c], rfl, .lst (SqL.of h) (.cons (dp_end b) (.cons (dp_end c) .nil)), ?_, ?_, ?_, ?_, q⟩
  · show ((endD b).showable && ((endD c).showable && true)) = true
    rw [show_end hb, show_end hc]; rfl
  · cases b <;> cases c <;> rfl
  · cases b <;> cases c <;> exact Nat.le_of_ble_eq_true rfl
  · have h1 := len_end hb
    have h2 := len_end hc
    have h3 := listText_len_le (PyData.shownAll [endD b, endD c])
    have h4 : (PyData.shownAll [endD b, endD c]).length = 2 := rfl
    have h5 : ((PyData.shownAll [endD b, endD c]).map (fun t => t.length)).sum = (endD b).shown.length + ((endD c).shown.length + 0) := rfl
    show (listText (PyData.shownAll [endD b, endD c])).length ≤ sizeLine
    rw [h5, h4] at h3
    exact Nat.le_trans h3 (Nat.le_trans (show _ ≤ 5000 by omega) (by decide))
end
/-! ### stretches -/
def turnedB : Option Int → Option Int → Bool
  | some a, some b => decide (b < a)
  | _, _ => false
def loB : Option Int → Int → Bool
  | none, _ => true
  | some a, n => decide (a ≤ n)
def hiB : Option Int → Int → Bool
  | none, _ => true
  | some b, n => decide (n ≤ b)
def inB (lo hi : Option Int) (n : Int) : Bool := loB lo n && hiB hi n
def strF (lo hi : Option Int) : List (Str × V) := putF "high" (endV hi) (putF "low" (endV lo) [])
theorem n_lh : ¬ (("low" : Str) = "high") := by decide +kernel
theorem str_low (lo hi : Option Int) : (strF lo hi).lookup ("low" : Str) = some (endV lo) := by
  unfold strF
  rw [lookup_putF, if_neg n_lh, lookup_putF, if_pos rfl]
theorem str_high (lo hi : Option Int) : (strF lo hi).lookup ("high" : Str) = some (endV hi) := by
  unfold strF
  rw [lookup_putF, if_pos rfl]
theorem str_no (lo hi : Option Int) {m : Str} (h1 : ¬ m = "high") (h2 : ¬ m = "low") : (strF lo hi).lookup m = none := by
  unfold strF
  rw [lookup_putF, if_neg h1, lookup_putF, if_neg h2]
  rfl
theorem putF_len (f : Str) (v : V) : ∀ fs : List (Str × V), (putF f v fs).length ≤ fs.length + 1
  | [] => Nat.le_refl _
  | (g, x) :: r => by
    unfold putF
    split
    · show r.length + 1 ≤ r.length + 1 + 1
      omega
    · show (putF f v r).length + 1 ≤ r.length + 1 + 1
      have := putF_len f v r
      omega
def StrAt (C : Addr) (H : Hp) (p : Addr) (lo hi : Option Int) : Prop := ∃ dx, H p = some (.ins C dx (strF lo hi))
theorem StrAt.same {C : Addr} {H H' : Hp} {p : Addr} {lo hi : Option Int} (h : StrAt C H p lo hi) (s : Same H H') : StrAt C H' p lo hi := by
  obtain ⟨dx, e⟩ := h
  exact ⟨dx, s _ _ e⟩
/-- what is no list is not among the draws -/
theorem Ext.keep {d c r : Addr} {H H' : Hp} {b : Addr} {o : HO} (e : Ext d r H H') (D : Drw H d c r) (h : H b = some o) (n : ∀ xs, o ≠ .lst xs) : H' b = some o := by
  obtain ⟨_, _, _, _, _, _, h1, _, h3, _⟩ := D
  exact e b o h (ne_of h h1 (n _)) (ne_of h h3 (n _))
theorem StrAt.ext {C : Addr} {H H' : Hp} {p d c r : Addr} {lo hi : Option Int} (h : StrAt C H p lo hi) (e : Ext d r H H') (D : Drw H d c r) : StrAt C H' p lo hi := by
  obtain ⟨dx, z⟩ := h
  exact ⟨dx, e.keep D z fun _ q => nomatch q⟩
/-- the dict of a TurnedStretch -/
def turnF (lo hi : Option Int) : List (Str × V) := [("high", endV hi), ("low", endV lo)]
theorem turn_low (lo hi : Option Int) : (turnF lo hi).lookup ("low" : Str) = some (endV lo) := by
  unfold turnF
  rw [lookup_put, if_neg n_lh, lookup_put, if_pos rfl]
theorem turn_high (lo hi : Option Int) : (turnF lo hi).lookup ("high" : Str) = some (endV hi) := by
  unfold turnF
  rw [lookup_put, if_pos rfl]
def spTInit (C : Addr) : Sp := fun vs H Q _ => ∃ (a : Addr) (lo hi : Option Int), vs = [.ref a, endV lo, endV hi] ∧ H a = some (exo a C none) ∧
  ∀ (dx : Addr) (H' : Hp), H dx = none → H' a = some (exo a C (some dx)) → H' dx = some (exd dx (turnF lo hi)) → (∀ b o, H b = some o → b ≠ a → H' b = some o) → Q .non H'
def spSInit (C CT : Addr) : Sp := fun vs H Q E => ∃ (p dx : Addr) (lo hi : Option Int), vs = [.ref p, endV lo, endV hi] ∧ H p = some (.ins C dx []) ∧
  (turnedB lo hi = true → ∀ (d : Addr) (H' : Hp), H d = none → H' d = some (.xd (turnF lo hi)) → Same H H' → E (.ref CT) (some d) H') ∧
  (turnedB lo hi = false → ∀ H', StrAt C H' p lo hi → (∀ b o, H b = some o → b ≠ p → H' b = some o) → Q .non H')
def spSIn (C : Addr) : Sp := fun vs H Q _ => ∃ (p : Addr) (lo hi : Option Int) (n : Int), vs = [.ref p, .int n] ∧ StrAt C H p lo hi ∧ Q (.bl (inB lo hi n)) H
/-! ### flat data: None, truths, ints, texts, in a list or a tuple; repr and == of these -/
def vD : V → PyData
  | .non => .none
  | .bl b => .bool b
  | .int i => .int i
  | .str x => .str x
  | _ => .none
def okD : V → Prop
  | .non => True
  | .bl _ => True
  | .int i => -(10 ^ 60) < i ∧ i < 10 ^ 60
  | .str x => (reprText x).length ≤ 1000 ∧ PyData.strOk x = true
  | _ => False
/-- what may be compared: no bound on ints -/
def eqD : V → Prop
  | .non => True
  | .bl _ => True
  | .int _ => True
  | .str x => PyData.strOk x = true
  | _ => False
theorem okD.eq {v : V} (h : okD v) : eqD v := by
  cases v <;> first | exact trivial | exact h.2 | exact h.elim
theorem log_okI {i : Int} (h : -(10 ^ 60) < i ∧ i < 10 ^ 60) : i.natAbs.log2 < 1920 := by
  have h1 : i.natAbs < 2 ^ 200 := by
    have : i.natAbs < 10 ^ 60 := by omega
    exact Nat.lt_trans this (by decide)
  have h2 : i.natAbs.log2 < 200 := by
    by_cases e : i.natAbs = 0
    · rw [e]; decide
    · exact (Nat.log2_lt e).mpr h1
  omega
theorem dp_vD {K : PySem.W.Frag} {H : Hp} {v : V} (h : eqD v) : Dp K H v (vD v) := by
  cases v with
  | non => exact .non
  | bl b => exact .bl b
  | int i => exact .int i
  | str x => exact .str x
  | byt b => exact h.elim
  | flt b => exact h.elim
  | ref a => exact h.elim
  | ty n => exact h.elim
theorem dpAll_vD {K : PySem.W.Frag} {H : Hp} : ∀ {vs : List V}, (∀ v ∈ vs, eqD v) → DpAll K H vs (vs.map vD)
  | [], _ => .nil
  | v :: vs, h => .cons (dp_vD (h v List.mem_cons_self)) (dpAll_vD fun w hw => h w (List.mem_cons_of_mem _ hw))
theorem show_vD : ∀ {vs : List V}, (∀ v ∈ vs, okD v) → PyData.showableAll (vs.map vD) = true
  | [], _ => rfl
  | v :: vs, h => by
    have h1 := h v List.mem_cons_self
    have e : (vD v).showable = true := by
      cases v <;> first | rfl | exact decide_eq_true (log_okI h1)
    show ((vD v).showable && PyData.showableAll (vs.map vD)) = true
    rw [e, show_vD fun w hw => h w (List.mem_cons_of_mem _ hw)]
    rfl
theorem dict_vD : ∀ (vs : List V), PyData.hasDictAll (vs.map vD) = false
  | [] => rfl
  | v :: vs => by
    show ((vD v).hasDict || PyData.hasDictAll (vs.map vD)) = false
    rw [dict_vD vs]
    cases v <;> rfl
theorem depth_vD : ∀ (vs : List V), PyData.depthAll (vs.map vD) = 0
  | [] => rfl
  | v :: vs => by
    show max (vD v).depth (PyData.depthAll (vs.map vD)) = 0
    rw [depth_vD vs]
    cases v <;> rfl
theorem len_vD : ∀ {vs : List V}, (∀ v ∈ vs, okD v) → (PyData.shownAll (vs.map vD)).length = vs.length ∧ ((PyData.shownAll (vs.map vD)).map (fun t => t.length)).sum ≤ 2000 * vs.length
  | [], _ => ⟨rfl, Nat.le_refl _⟩
  | v :: vs, h => by
    obtain ⟨i1, i2⟩ := len_vD (vs := vs) fun w hw => h w (List.mem_cons_of_mem _ hw)
    have h1 := h v List.mem_cons_self
    have e : ((vD v).shown).length ≤ 2000 := by
      cases v with
      | non => decide +kernel
      | bl b => cases b <;> decide +kernel
      | int i => exact Nat.le_trans (PyProof.Rows.int_text_len_1921 (log_okI h1)) (by decide)
      | str x => exact Nat.le_trans h1.1 (by decide)
      | byt b => exact h1.elim
      | flt b => exact h1.elim
      | ref a => exact h1.elim
      | ty n => exact h1.elim
    refine ⟨?_, ?_⟩
    · show (PyData.shownAll (vs.map vD)).length + 1 = vs.length + 1
      rw [i1]
    · show (((vD v).shown).length :: (PyData.shownAll (vs.map vD)).map (fun t => t.length)).sum ≤ 2000 * (vs.length + 1)
      rw [List.sum_cons]
      omega
section
variable {H : Hp} {Q : VK} {K : PySem.W.Frag} {a b : Addr} {vs ws : List V}
def tupD (vs : List V) : PyData := .tuple (vs.map vD)
def lstD (vs : List V) : PyData := .list (vs.map vD)
theorem r_reprT (h : SqT K H a vs) (hv : ∀ v ∈ vs, okD v) (hl : vs.length ≤ 50) (q : Q (.str (tupD vs).shown) H) : rRepr K [.ref a] H Q := by
  refine ⟨a, tupD vs, rfl, .tup h (dpAll_vD fun v hw => (hv v hw).eq), show_vD hv, dict_vD vs, ?_, ?_, q⟩
  · show PyData.depthAll (vs.map vD) + 1 ≤ 20
    rw [depth_vD]
    decide
  · obtain ⟨i1, i2⟩ := len_vD hv
    have h3 := tupleText_len_le (PyData.shownAll (vs.map vD))
    rw [i1] at h3
    exact Nat.le_trans h3 (Nat.le_trans (show _ ≤ 200000 by omega) (by decide))
theorem r_reprL (h : SqL K H a vs) (hv : ∀ v ∈ vs, okD v) (hl : vs.length ≤ 50) (q : Q (.str (lstD vs).shown) H) : rRepr K [.ref a] H Q := by
  refine ⟨a, lstD vs, rfl, .lst h (dpAll_vD fun v hw => (hv v hw).eq), show_vD hv, dict_vD vs, ?_, ?_, q⟩
  · show PyData.depthAll (vs.map vD) + 1 ≤ 20
    rw [depth_vD]
    decide
  · obtain ⟨i1, i2⟩ := len_vD hv
    have h3 := listText_len_le (PyData.shownAll (vs.map vD))
    rw [i1] at h3
    exact Nat.le_trans h3 (Nat.le_trans (show _ ≤ 200000 by omega) (by decide))
theorem lay_vD : ∀ {vs : List V}, (∀ v ∈ vs, eqD v) → PyData.canLayAll0 (vs.map vD) = true
  | [], _ => rfl
  | v :: vs, h => by
    have h1 := h v List.mem_cons_self
    have e : (vD v).canLay0 = true := by cases v <;> first | rfl | exact h1
    show ((vD v).canLay0 && PyData.canLayAll0 (vs.map vD)) = true
    rw [e, lay_vD fun w hw => h w (List.mem_cons_of_mem _ hw)]
    rfl
theorem shaped_tup (h : ∀ v ∈ vs, eqD v) : SeqAt.shaped (tupD vs) = true := by
  unfold SeqAt.shaped
  rw [show (tupD vs).canLay0 = true from lay_vD h]
  show decide (PyData.depthAll (vs.map vD) + 1 ≤ 64) = true
  rw [depth_vD]
  rfl
theorem shaped_lst (h : ∀ v ∈ vs, eqD v) : SeqAt.shaped (lstD vs) = true := by
  unfold SeqAt.shaped
  rw [show (lstD vs).canLay0 = true from lay_vD h]
  show decide (PyData.depthAll (vs.map vD) + 1 ≤ 64) = true
  rw [depth_vD]
  rfl
/-- equality of flat data of the same kinds, place by place -/
def sameKind : V → V → Bool
  | .int _, .bl _ => false
  | .bl _, .int _ => false
  | _, _ => true
theorem eqv_vD {x y : V} (hx : eqD x) (hy : eqD y) (k : sameKind x y = true) : PyData.eqv (vD x) (vD y) = decide (x = y) := by
  cases x <;> cases y <;> first
    | exact hx.elim
    | exact hy.elim
    | (cases k; done)
    | rfl
    | (rw [decide_eq_false fun z => nomatch z]; rfl)
    | skip
  · rename_i a b
    show (a == b) = _
    rw [eq_dbl]
  · rename_i a b
    show (a == b) = _
    rw [eq_dint]
    exact (Bool.beq_eq_decide_eq a b)
  · rename_i a b
    show (a == b) = _
    rw [eq_dstr]
    exact (Bool.beq_eq_decide_eq a b)
theorem eqv_all : ∀ {vs ws : List V}, (∀ v ∈ vs, eqD v) → (∀ v ∈ ws, eqD v) → (∀ p ∈ vs.zip ws, sameKind p.1 p.2 = true) → PyData.eqvAll (vs.map vD) (ws.map vD) = decide (vs = ws)
  | [], [], _, _, _ => rfl
  | [], w :: ws, _, _, _ => by rw [decide_eq_false fun z => nomatch z]; rfl
  | v :: vs, [], _, _, _ => by rw [decide_eq_false fun z => nomatch z]; rfl
  | v :: vs, w :: ws, h1, h2, h3 => by
    show (PyData.eqv (vD v) (vD w) && PyData.eqvAll (vs.map vD) (ws.map vD)) = _
    rw [eqv_vD (h1 v List.mem_cons_self) (h2 w List.mem_cons_self) (h3 (v, w) List.mem_cons_self), eqv_all (fun x hx => h1 x (List.mem_cons_of_mem _ hx)) (fun x hx => h2 x (List.mem_cons_of_mem _ hx)) fun p hp => h3 p (List.mem_cons_of_mem _ hp), Bool.eq_iff_iff, Bool.and_eq_true, decide_eq_true_eq, decide_eq_true_eq, decide_eq_true_eq, List.cons.injEq]
theorem r_neTT (h1 : SqT K H a vs) (h2 : SqT K H b ws) (e1 : ∀ v ∈ vs, eqD v) (e2 : ∀ v ∈ ws, eqD v) (k : ∀ p ∈ vs.zip ws, sameKind p.1 p.2 = true) (q : Q (.bl (!decide (vs = ws))) H) : rNeD K (.ref a) (.ref b) H Q := by
  refine ⟨tupD vs, tupD ws, .tup h1 (dpAll_vD e1), .tup h2 (dpAll_vD e2), shaped_tup e1, shaped_tup e2, ?_⟩
  show Q (.bl (!PyData.eqvAll (vs.map vD) (ws.map vD))) H
  rw [eqv_all e1 e2 k]
  exact q
theorem r_eqTT (h1 : SqT K H a vs) (h2 : SqT K H b ws) (e1 : ∀ v ∈ vs, eqD v) (e2 : ∀ v ∈ ws, eqD v) (k : ∀ p ∈ vs.zip ws, sameKind p.1 p.2 = true) (q : Q (.bl (decide (vs = ws))) H) : rEqD K (.ref a) (.ref b) H Q := by
  refine ⟨tupD vs, tupD ws, .tup h1 (dpAll_vD e1), .tup h2 (dpAll_vD e2), shaped_tup e1, shaped_tup e2, ?_⟩
  show Q (.bl (PyData.eqvAll (vs.map vD) (ws.map vD))) H
  rw [eqv_all e1 e2 k]
  exact q
theorem r_neLL (h1 : SqL K H a vs) (h2 : SqL K H b ws) (e1 : ∀ v ∈ vs, eqD v) (e2 : ∀ v ∈ ws, eqD v) (k : ∀ p ∈ vs.zip ws, sameKind p.1 p.2 = true) (q : Q (.bl (!decide (vs = ws))) H) : rNeD K (.ref a) (.ref b) H Q := by
  refine ⟨lstD vs, lstD ws, .lst h1 (dpAll_vD e1), .lst h2 (dpAll_vD e2), shaped_lst e1, shaped_lst e2, ?_⟩
  show Q (.bl (!PyData.eqvAll (vs.map vD) (ws.map vD))) H
  rw [eqv_all e1 e2 k]
  exact q
end
/-! ### texts whose signs are signs -/
theorem sok_app {x y : Str} (hx : PyData.strOk x = true) (hy : PyData.strOk y = true) : PyData.strOk (x ++ y) = true := by
  show (x.cps ++ y.cps).all _ = true
  rw [Array.all_append]
  exact Bool.and_eq_true_iff.mpr ⟨hx, hy⟩
theorem sok_of (s : String) : PyData.strOk (Str.ofString s) = true := by
  rw [Str.ofString_eq_toList]
  show Array.all _ _ = true
  rw [List.all_toArray, List.all_map, List.all_eq_true]
  intro c _
  refine decide_eq_true ?_
  have := c.valid
  rcases this with z | z
  · exact Nat.lt_trans z (by decide)
  · exact z.2
theorem sok_join : ∀ {ts : List Str}, (∀ t ∈ ts, PyData.strOk t = true) → PyData.strOk (Str.join ", " ts) = true
  | [], _ => by decide +kernel
  | [x], h => h x List.mem_cons_self
  | x :: y :: r, h => by
    show PyData.strOk (x ++ (", " : Str) ++ Str.join ", " (y :: r)) = true
    exact sok_app (sok_app (h x List.mem_cons_self) (sok_of ", ")) (sok_join fun t ht => h t (List.mem_cons_of_mem _ ht))
theorem sok_tup {ts : List Str} (h : ∀ t ∈ ts, PyData.strOk t = true) : PyData.strOk (tupleText ts) = true := by
  unfold tupleText
  exact sok_app (sok_app (sok_of "(") (sok_join h)) (sok_of _)
theorem sok_from : ∀ {ts : List Str} {k : Nat} {acc : Str}, PyData.strOk acc = true → (∀ t ∈ ts, PyData.strOk t = true) → PyData.strOk (textFrom k acc ts) = true
  | [], _, _, ha, _ => ha
  | t :: ts, k, acc, ha, h => by
    unfold textFrom
    refine sok_from ?_ fun x hx => h x (List.mem_cons_of_mem _ hx)
    split
    · exact sok_app (sok_app ha (sok_of ", ")) (h t List.mem_cons_self)
    · exact sok_app ha (h t List.mem_cons_self)
theorem sok_lst {ts : List Str} (h : ∀ t ∈ ts, PyData.strOk t = true) : PyData.strOk (listText ts) = true := by
  unfold listText
  exact sok_app (sok_from (sok_of "[") h) (sok_of "]")
/-- a text whose repr is a text of signs (the laws' own words are) -/
def okR : V → Prop
  | .str x => PyData.strOk (reprText x) = true
  | _ => True
theorem sok_all : ∀ {vs : List V}, (∀ v ∈ vs, okR v) → ∀ t ∈ PyData.shownAll (vs.map vD), PyData.strOk t = true
  | [], _, t, ht => (nomatch ht)
  | v :: vs, h, t, ht => by
    have ht : t ∈ (vD v).shown :: PyData.shownAll (vs.map vD) := ht
    rcases List.mem_cons.mp ht with e | e
    · rw [e]
      cases v with
      | bl b => cases b <;> decide +kernel
      | int i => exact sok_of _
      | str x => exact h _ List.mem_cons_self
      | non => exact sok_of "None"
      | byt b => exact sok_of "None"
      | flt b => exact sok_of "None"
      | ref a => exact sok_of "None"
      | ty n => exact sok_of "None"
    · exact sok_all (fun w hw => h w (List.mem_cons_of_mem _ hw)) t e
theorem sok_tupD {vs : List V} (h : ∀ v ∈ vs, okR v) : PyData.strOk (tupD vs).shown = true := sok_tup (sok_all h)
theorem sok_lstD {vs : List V} (h : ∀ v ∈ vs, okR v) : PyData.strOk (lstD vs).shown = true := sok_lst (sok_all h)
/-! ### a list or a tuple, read alike; comprehensions over tuples and ranges -/
def SqA (K : PySem.W.Frag) (H : Hp) (p : Addr) (xs : List V) : Prop := SqL K H p xs ∨ SqT K H p xs
theorem same_tup {K : PySem.W.Frag} {H H' : Hp} {a : Addr} {xs : List V} (e : Same H H') (h : SqT K H a xs) : SqT K H' a xs := by
  rcases h with (h | ⟨o, h⟩) | h
  · exact .inl (.inl (e _ _ h))
  · exact .inl (.inr ⟨o, e _ _ h⟩)
  · exact .inr h
theorem SqA.same {K : PySem.W.Frag} {H H' : Hp} {a : Addr} {xs : List V} (h : SqA K H a xs) (e : Same H H') : SqA K H' a xs := h.imp (fun z => e.seq z) fun z => same_tup e z
theorem kAt_all {ns : List Int} {P : Int → Prop} (h : ∀ x ∈ ns, P x) {j : Nat} (hj : j < ns.length) : P (kAt ns j) := by
  have e : kAt ns j = ns[j] := by rw [kAt, List.getD_eq_getElem?_getD, List.getElem?_eq_getElem hj]; rfl
  rw [e]
  exact h _ (List.getElem_mem hj)
section
variable {σ : L2.St} {H : Hp} {Q : VK} {te : TE} {K : PySem.W.Frag} {a p : Addr} {xs : List V} {i : Int} {v : V}
theorem r_ixA (h : SqA K H p xs) (e : atI xs i = some v) (q : Q v H) : rIx K (.ref p) (.int i) H Q := by
  rcases h with h | h
  · exact .inl (r_ixL h e q)
  · exact .inr (.inl (r_ixT h e q))
def rTupA (K : PySem.W.Frag) : List V → Hp → VK → Prop := fun xs H Q => ∃ p ys, xs = [.ref p] ∧ ((SqL K H p ys ∧ ∀ l, H l = none → Q (.ref l) (upd H l (.tup ys))) ∨ (SqT K H p ys ∧ Q (.ref p) H))
theorem c_tupA {X : Cx} : CallR X (.type "tuple") (rTupA X.K) := call_tuple_of
theorem r_tupL (h : SqL K H p xs) (q : ∀ l, H l = none → Q (.ref l) (upd H l (.tup xs))) : rTupA K [.ref p] H Q := ⟨p, xs, rfl, .inl ⟨h, q⟩⟩
theorem r_tupA (h : SqA K H p xs) (q : ∀ l H', SqT K H' l xs → Same H H' → Q (.ref l) H') : rTupA K [.ref p] H Q := by
  rcases h with h | h
  · exact ⟨p, xs, rfl, .inl ⟨h, fun l nl => q l _ (SqT.of upd_same) (same_new nl)⟩⟩
  · exact ⟨p, xs, rfl, .inr ⟨h, q p H h (Same.refl H)⟩⟩
def rListA (K : PySem.W.Frag) : List V → Hp → VK → Prop := fun xs H Q => ∃ p ys, xs = [.ref p] ∧ (SqL K H p ys ∨ SqT K H p ys) ∧ ∀ l, H l = none → Q (.ref l) (upd H l (.lst ys))
theorem c_listA {X : Cx} : CallR X (.type "list") (rListA X.K) := call_list_of
theorem r_listA (h : SqA K H p xs) (q : ∀ l, H l = none → Q (.ref l) (upd H l (.lst xs))) : rListA K [.ref p] H Q := ⟨p, xs, rfl, h, q⟩
theorem r_catT {b : Addr} {ys : List V} (h1 : SqT K H a xs) (h2 : SqT K H b ys) (n1 : xs ≠ []) (n2 : ys ≠ []) (hz : xs.length + ys.length ≤ 1000) (q : ∀ p, H p = none → Q (.ref p) (upd H p (.tup (xs ++ ys)))) : rCatT K (.ref a) (.ref b) H Q :=
  ⟨a, b, xs, ys, rfl, rfl, h1, h2, n1, Nat.le_of_lt (small1000 hz), fun z => absurd z n2, fun _ => q⟩
theorem lc_mapT {n : Nat} (f : V → V) (hS : SqT K H a xs) (hz : xs.length ≤ 1000) (he : ∀ (x : V) (H' : Hp) (QQ : VK), x ∈ xs → Same H H' → QQ (f x) H' → te ((wipe σ [n]).set n (some x)) H' QQ)
    (hq : ∀ D, H D = none → Q (.ref D) (upd H D (.lst (xs.map f)))) : lcGo (Itt K a) (gName n) tYes te [n] σ Q H := by
  intro D hD
  refine lc_tup (K := K) (a := a) (xs := xs) (fun i H' => H' = upd H D (.lst ((xs.take i).map f))) rfl (fun i H' _ e => by subst e; exact same_tup (same_new hD) hS) ?_ ?_
  · rintro i x H' hx rfl
    refine ⟨wipe1, ?_⟩
    show te _ _ _
    refine he x _ _ (List.mem_of_getElem? hx) (same_new hD) ⟨(xs.take i).map f, upd_same, ?_, ?_⟩
    · rw [List.length_map, List.length_take]
      exact small1000 (by omega)
    · rw [upd_upd, List.take_add_one, hx, List.map_append]
      rfl
  · rintro H' rfl
    rw [List.take_length]
    exact hq D hD
theorem lc_mapR {n m : Nat} {lo : Int} (f : Nat → V) (hm : m ≤ 1000) (he : ∀ (i : Nat) (H' : Hp) (QQ : VK), i < m → Same H H' → QQ (f i) H' → te ((wipe σ [n]).set n (some (.int (lo + i)))) H' QQ)
    (hq : ∀ D, H D = none → Q (.ref D) (upd H D (.lst ((List.range m).map f)))) : lcGo (Itr lo m) (gName n) tYes te [n] σ Q H := by
  intro D hD
  refine lc_range (fun i H' => H' = upd H D (.lst ((List.range i).map f))) rfl ?_ ?_
  · rintro i H' hi rfl
    refine ⟨wipe1, ?_⟩
    show te _ _ _
    refine he i _ _ hi (same_new hD) ⟨(List.range i).map f, upd_same, ?_, ?_⟩
    · rw [List.length_map, List.length_range]
      exact small1000 (by omega)
    · rw [upd_upd, List.range_succ, List.map_append]
      rfl
  · rintro H' rfl
    exact hq D hD
end
/-! ### xs != [] of any items; comprehensions with any target -/
def rNeE (K : PySem.W.Frag) : R2 := fun x y H Q => ∃ a b xs, x = .ref a ∧ y = .ref b ∧ SqL K H a xs ∧ SqL K H b [] ∧ Q (.bl (!xs.isEmpty)) H
theorem op_neE {X : Cx} (hu : X.A.units < cLine) : OpR X (compareOp .NotEq) (rNeE X.K) := by
  intro pins s σ H x y v u Q I rx ry h
  obtain ⟨a, b, xs, rfl, rfl, h1, h2, q⟩ := h
  cases (show v = Value.ref a from rx)
  cases (show u = Value.ref b from ry)
  obtain ⟨its, r1, ⟨o1, n1, g1, c1, _, d1⟩, _⟩ := I.list h1
  obtain ⟨its2, r2, ⟨o2, n2, g2, c2, _, d2⟩, _⟩ := I.list h2
  cases r2
  show wpAny _ _ (richCompare .NotEq _ _) _ _ _
  cases r1 with
  | nil => exact SeqAt.RcNeAt.lists (e := fun _ => true) ⟨o1, g1, c1, n1, d1⟩ ⟨o2, g2, c2, n2, d2⟩ rfl hu (fun j h1 _ => absurd h1 (Nat.not_lt_zero j)) _ _ _ _ ⟨.bl false, H, I, rfl, q⟩
  | cons ra rb => exact SeqAt.RcNeAt.lists_lengths ⟨o1, g1, c1, n1, d1⟩ ⟨o2, g2, c2, n2, d2⟩ rfl hu _ _ _ _ ⟨.bl true, H, I, rfl, q⟩
section
variable {σ : L2.St} {H : Hp} {Q : VK} {te : TE} {K : PySem.W.Frag} {a b : Addr} {xs : List V}
theorem r_neE (h1 : SqL K H a xs) (h2 : SqL K H b []) (q : Q (.bl (!xs.isEmpty)) H) : rNeE K (.ref a) (.ref b) H Q := ⟨a, b, xs, rfl, rfl, h1, h2, q⟩
/-- [e for target in xs], e a value by a function of the item -/
theorem lc_mapG {g : TG} {vs : List Nat} (f : V → V) (hS : SqL K H a xs) (hz : xs.length ≤ 1000) (he : ∀ (x : V) (H' : Hp) (QQ : VK), x ∈ xs → Same H H' → QQ (f x) H' → g x (wipe σ vs) H' fun σ2 H2 => wipe σ2 vs = wipe σ vs ∧ te σ2 H2 QQ)
    (hq : ∀ D, H D = none → Q (.ref D) (upd H D (.lst (xs.map f)))) : lcGo (Itl K a) g tYes te vs σ Q H := by
  intro D hD
  refine lc_list (K := K) (a := a) (xs := xs) (fun i H' => H' = upd H D (.lst ((xs.take i).map f))) rfl (fun i H' _ e => by subst e; exact (same_new hD).seq hS) ?_ ?_
  · rintro i x H' hx rfl
    refine he x _ _ (List.mem_of_getElem? hx) (same_new hD) ⟨(xs.take i).map f, upd_same, ?_, ?_⟩
    · rw [List.length_map, List.length_take]
      exact small1000 (by omega)
    · rw [upd_upd, List.take_add_one, hx, List.map_append]
      rfl
  · rintro H' rfl
    rw [List.take_length]
    exact hq D hD
end
section
variable {σ : L2.St} {H : Hp} {Q : VK} {te : TE} {tt : TT} {K : PySem.W.Frag} {a : Addr} {xs : List V}
/-- [x for x in xs if test]: what passes the test -/
theorem lc_filt {n : Nat} (f : V → Bool) (hS : SqL K H a xs) (hz : xs.length ≤ 1000) (ht : ∀ (x : V) (H' : Hp) (QT : Bool → Hp → Prop), x ∈ xs → Same H H' → QT (f x) H' → tt ((wipe σ [n]).set n (some x)) H' QT)
    (he : ∀ (x : V) (H' : Hp) (QQ : VK), x ∈ xs → Same H H' → QQ x H' → te ((wipe σ [n]).set n (some x)) H' QQ) (hq : ∀ D, H D = none → Q (.ref D) (upd H D (.lst (xs.filter f)))) : lcGo (Itl K a) (gName n) tt te [n] σ Q H := by
  intro D hD
  refine lc_list (K := K) (a := a) (xs := xs) (fun i H' => H' = upd H D (.lst ((xs.take i).filter f))) rfl (fun i H' _ e => by subst e; exact (same_new hD).seq hS) ?_ ?_
  · rintro i x H' hx rfl
    have hx' := List.mem_of_getElem? hx
    refine ⟨wipe1, ht x _ _ hx' (same_new hD) ?_⟩
    cases hf : f x with
    | true =>
      refine he x _ _ hx' (same_new hD) ⟨(xs.take i).filter f, upd_same, ?_, ?_⟩
      · refine small1000 (Nat.le_trans (List.length_filter_le _ _) ?_)
        rw [List.length_take]
        omega
      · rw [upd_upd, List.take_add_one, hx, List.filter_append]
        show _ = upd H D (.lst (_ ++ List.filter f [x]))
        rw [List.filter_cons, if_pos hf]
        rfl
    | false =>
      show _ = _
      rw [List.take_add_one, hx, List.filter_append]
      show _ = upd H D (.lst (_ ++ List.filter f [x]))
      rw [List.filter_cons, if_neg (by rw [hf]; exact Bool.false_ne_true)]
      show _ = upd H D (.lst (_ ++ []))
      rw [List.append_nil]
  · rintro H' rfl
    rw [List.take_length]
    exact hq D hD
end
theorem sort1 {ns : List Int} {a : Int} (h : ns.Perm [a]) : ns = [a] := List.perm_singleton.mp h
theorem sort2 {ns : List Int} {a b : Int} (h : ns.Perm [a, b]) (hp : ns.Pairwise (· ≤ ·)) : ns = if b < a then [b, a] else [a, b] := by
  obtain ⟨x, y, rfl⟩ : ∃ x y, ns = [x, y] := by
    match ns, h.length_eq with
    | [x, y], _ => exact ⟨x, y, rfl⟩
  have hxy : x ≤ y := by
    have := List.rel_of_pairwise_cons hp (List.mem_singleton_self y)
    exact this
  have hx : x ∈ [a, b] := h.mem_iff.mp List.mem_cons_self
  simp only [List.mem_cons, List.mem_nil_iff, or_false] at hx
  rcases hx with rfl | rfl
  · have hy := List.perm_singleton.mp h.cons_inv
    cases hy
    rw [if_neg (by omega)]
  · have hy := List.perm_singleton.mp (h.trans (List.Perm.swap _ _ _)).cons_inv
    cases hy
    split
    · rfl
    · have : x = a := by omega
      rw [this]
section
variable {σ : L2.St} {H : Hp} {Q : VK} {te : TE} {tt : TT} {K : PySem.W.Frag} {a : Addr} {xs : List V}
/-- the same over a tuple -/
theorem lc_filtT {n : Nat} (f : V → Bool) (hS : SqT K H a xs) (hz : xs.length ≤ 1000) (ht : ∀ (x : V) (H' : Hp) (QT : Bool → Hp → Prop), x ∈ xs → Same H H' → QT (f x) H' → tt ((wipe σ [n]).set n (some x)) H' QT)
    (he : ∀ (x : V) (H' : Hp) (QQ : VK), x ∈ xs → Same H H' → QQ x H' → te ((wipe σ [n]).set n (some x)) H' QQ) (hq : ∀ D, H D = none → Q (.ref D) (upd H D (.lst (xs.filter f)))) : lcGo (Itt K a) (gName n) tt te [n] σ Q H := by
  intro D hD
  refine lc_tup (K := K) (a := a) (xs := xs) (fun i H' => H' = upd H D (.lst ((xs.take i).filter f))) rfl (fun i H' _ e => by subst e; exact same_tup (same_new hD) hS) ?_ ?_
  · rintro i x H' hx rfl
    have hx' := List.mem_of_getElem? hx
    refine ⟨wipe1, ht x _ _ hx' (same_new hD) ?_⟩
    cases hf : f x with
    | true =>
      refine he x _ _ hx' (same_new hD) ⟨(xs.take i).filter f, upd_same, ?_, ?_⟩
      · refine small1000 (Nat.le_trans (List.length_filter_le _ _) ?_)
        rw [List.length_take]
        omega
      · rw [upd_upd, List.take_add_one, hx, List.filter_append]
        show _ = upd H D (.lst (_ ++ List.filter f [x]))
        rw [List.filter_cons, if_pos hf]
        rfl
    | false =>
      show _ = _
      rw [List.take_add_one, hx, List.filter_append]
      show _ = upd H D (.lst (_ ++ List.filter f [x]))
      rw [List.filter_cons, if_neg (by rw [hf]; exact Bool.false_ne_true)]
      show _ = upd H D (.lst (_ ++ []))
      rw [List.append_nil]
  · rintro H' rfl
    rw [List.take_length]
    exact hq D hD
end
/-! ### str(x) of an own __str__, repr of a truth, xs[::-1] of a pair -/
def rStrO (C : Addr) (sp : Sp) (E : XK) : List V → Hp → VK → Prop := fun xs H Q => ∃ a dx fs, xs = [.ref a] ∧ H a = some (.ins C dx fs) ∧ sp [.ref a] H (fun v H' => ∃ y : Str, v = .str y ∧ Q (.str y) H') E
section
variable {X : Cx} {CX : CXT} {k : Nat} {g C : Addr} {fd : FuncData} {ps : List Str} {sp : Sp} {E : XK}
theorem c_strO (hs : PySem.W.findIn X.K (.ref C) "__str__" = some (some (.ref g))) (hf : PySem.W.isFn X.K (.ref g) = true) (F : FnOk X.prog X.w X.K X.mg X.base CX k g fd ps sp) (hr : Room (k + 2) X.A) (hb : Binds X.K fd ps []) (hx : Passes CX X E) :
    CallR X (.type "str") (rStrO C sp E) := by
  intro pins s σ H xs us Q I r h
  obtain ⟨a, dx, fs, rfl, ha, q⟩ := h
  obtain ⟨u, rfl, rfl⟩ := vals1 r
  obtain ⟨ox, od, J⟩ := inst_at I ha
  have hu := hr.units
  refine PySem.W.kso_call (by show X.A.units + 1 + 1 < _; omega) I.kIn J hs hf ?_
  have r2 : Vals [V.ref a] [Value.ref a] := .cons rfl .nil
  have hl : ([Value.ref a] ++ []).length = ps.length := by
    rw [List.append_nil, ← r2.length]
    exact F.len _ _ _ _ q
  refine wpAny_call (codeAny_mono (F.run X.A.in1.in1 X.stack s H ⟨[.ref a], []⟩ [.ref a] _ _ E hr.in1.in1 I.env0.in1.in1 (by have z := hb s [.ref a] I.kIn hl; rw [List.append_nil] at z; exact z) r2 q) fun r s' hq => ?_)
  cases r with
  | error e => exact hx pins σ H s e s' I hq
  | ok fl =>
    cases fl with
    | ret z =>
      obtain ⟨v', H', I', rv, y, rfl, qz⟩ := I.after hq
      obtain ⟨t, rfl⟩ := rv
      exact ⟨.str y, H', I', ⟨t, rfl⟩, qz⟩
    | next => exact False.elim hq
    | brk => exact False.elim hq
    | cont => exact False.elim hq
def rReprB : List V → Hp → VK → Prop := fun xs H Q => ∃ b : Bool, xs = [.bl b] ∧ Q (.str (if b then "True" else "False")) H
theorem c_reprB : CallR X (.builtin "repr") rReprB := by
  intro pins s σ H xs us Q I r h
  obtain ⟨b, rfl, q⟩ := h
  obtain ⟨u, rfl, rfl⟩ := vals1 r
  exact PySem.P.repr_of_bool ⟨.str _, H, I.tok _, ⟨_, rfl⟩, q⟩
end
section
open HT
variable {prog : Program} {w : World} {A : Around} {E : Value → Shared → Prop} {s : Shared}
theorem sliceApplied_rev2 {sl : Addr} {vl vu vs : Value} {Q : Int × Int × Nat → Shared → Prop} (hs : s.heap.IsSliceOf sl vl vu vs) (pl : IsPart vl none) (pu : IsPart vu none) (ps : IsPart vs (some (-1)))
    (h : Q (1, -1, 2) s) : wpAny (model prog w) A (Builtin.Slice.sliceApplied (.ref sl) (pure ((2 : Nat) : Int))) Q E s := by
  obtain ⟨os, hos, hcs, hds⟩ := id hs
  unfold Builtin.Slice.sliceApplied Builtin.Slice.sliceFields
  refine wpAny_bind (wpAny_bind (wpAny_field hos hds (x := vl) rfl (wpAny_bind (wpAny_field hos hds (x := vu) rfl (wpAny_bind (wpAny_field hos hds (x := vs) rfl (wpAny_pure ?_)))))))
  refine wpAny_bind (slicePart_ ps ?_)
  show wpAny _ _ (if ((-1 : Int) == 0) = true then _ else _) _ _ s
  rw [if_neg (by decide)]
  refine wpAny_bind (slicePart_ pl (wpAny_bind (slicePart_ pu (wpAny_bind (wpAny_pure ?_)))))
  show wpAny _ _ (match Builtin.Slice.sliceAdjust none none (-1) ((2 : Nat) : Int) with | (lo, hi) => pure (lo, (-1 : Int), Builtin.Slice.slicePlaces lo hi (-1))) _ _ s
  rw [show Builtin.Slice.sliceAdjust none none (-1) ((2 : Nat) : Int) = (1, -1) by decide]
  show wpAny _ _ (pure ((1 : Int), (-1 : Int), Builtin.Slice.slicePlaces 1 (-1) (-1))) _ _ s
  rw [show Builtin.Slice.slicePlaces 1 (-1) (-1) = 2 by decide]
  exact wpAny_pure h
theorem pick_rev2 (x y : Value) : ((List.range 2).filterMap fun (m : Nat) => ([x, y].toArray)[((1 : Int) + (m : Int) * (-1)).toNat]?).toArray = [y, x].toArray := by
  rfl
theorem getItem_pair_rev {t sl : Addr} {x y vl vu vs : Value} {Q : Value → Shared → Prop} (ht : IsTup s.heap t [x, y].toArray) (hs : s.heap.IsSliceOf sl vl vu vs) (pl : IsPart vl none) (pu : IsPart vu none) (ps : IsPart vs (some (-1)))
    (h : Q (.ref s.heap.objs.size) { s with heap := s.heap.push { cls := .type "tuple", data := .seq [y, x].toArray } }) : wpAny (model prog w) A (getItem (.ref t) (.ref sl)) Q E s := by
  obtain ⟨os, hos, hcs, hds⟩ := id hs
  have hTs : s.TypeIs (.ref sl) "slice" := ⟨os, hos, hcs⟩
  have htake : [y, x].toArray.size ≤ sizeLine := by show 2 ≤ sizeLine; decide
  unfold getItem
  try with_reducible refine wpAny_holding ?_
  first | refine wpAny_bind (wpAny_pure ?_) | skip
  refine wpAny_bind (wpAny_sequenceKey ht.typeIs (by decide) ?_)
  refine wpAny_bind (wpAny_callSpecial?_slot (name := Str.ofString "__getitem__") ht.typeIs PyProof.Rows.slot_tuple_getitem
    (wpAny_call_entry PyProof.Rows.slot_tuple_getitem ht.typeIs entry_tuple_getitem ?_ (args_tuple_getitem _ _)))
  show wpAny _ _ (Builtin.Tuple.tupleItemsOf (.ref t) >>= _) _ _ s
  refine wpAny_bind (tupleItemsOf_ ht ?_)
  refine wpAny_bind (wpAny_typeOf hTs ?_)
  rw [if_pos (by decide)]
  refine wpAny_bind (sliceApplied_rev2 hs pl pu ps ?_)
  show wpAny _ _ (if ((1 : Int) == 0 && (-1 : Int) == 1 && 2 == [x, y].toArray.size) = true then _ else _) _ _ s
  rw [if_neg (by intro z; cases z), pick_rev2]
  first
    | exact wpAny_bind (m := Builtin.Tuple.tupleExact _) (wpAny_newObj_type (wpAny_pure ⟨_, rfl, wpAny_pure h⟩) htake)
    | exact wpAny_bind (m := Builtin.Tuple.tupleExact _) (wpAny_newObj_type (wpAny_bind (wpAny_pure (wpAny_pure ⟨_, rfl, wpAny_pure h⟩))) htake)
    | exact wpAny_bind (wpAny_bind (m := Builtin.Tuple.tupleExact _) (wpAny_newObj_type (wpAny_pure (wpAny_pure ⟨_, rfl, wpAny_pure h⟩)) htake))
    | exact wpAny_bind (wpAny_bind (m := Builtin.Tuple.tupleExact _) (wpAny_newObj_type (wpAny_pure ⟨_, rfl, wpAny_pure h⟩) htake))
end
def tRevT2 (K : PySem.W.Frag) (te : TE) : TE := fun σ H Q => te σ H fun x H1 => ∃ a v w, x = .ref a ∧ SqT K H1 a [v, w] ∧ ∀ p, H1 p = none → Q (.ref p) (upd H1 p (.tup [w, v]))
theorem pe_revT2 {X : Cx} {e : Expr} {te : TE} {k : Nat} {p1 p2 p3 pos : Pos} (he : PE X e te) : PE X (.Subscript e (.Slice none none (some (.UnaryOp .USub (.Constant (.int 1) k p1) p2)) p3) pos) (tRevT2 X.K te) := by
  refine ⟨fun pins s σ H Q I h => ?_⟩
  refine Subscript_ (thn (he.run pins s σ H _ I h) fun v s1 ⟨x, H1, I1, r1, q1⟩ => ?_)
  obtain ⟨a, y, z, ex, hx, q⟩ := q1
  subst ex
  cases r1
  have hst : PO X (some (.UnaryOp .USub (.Constant (.int 1) k p1) p2)) (tPart (tUn (rU fun i => .int (-i)) (tC (.int 1)))) := po_some (pe_un un_neg pe_int)
  refine wpAny_Slice (thn (po_none.run pins s1 σ H1 (fun o H2 => o = none ∧ H2 = H1) I1 ⟨rfl, rfl⟩) fun vl s2 ⟨l, H2, I2, pl, el, e2⟩ => ?_)
  subst el e2
  refine thn (po_none.run pins s2 σ H2 (fun o H3 => o = none ∧ H3 = H2) I2 ⟨rfl, rfl⟩) fun vu s3 ⟨u, H3, I3, pu, eu, e3⟩ => ?_
  subst eu e3
  refine thn (hst.run pins s3 σ H3 (fun o H4 => o = some (-1) ∧ H4 = H3) I3 ⟨1, rfl, -1, rfl, rfl, rfl⟩) fun vs s4 ⟨o, H4, I4, ps, eo, e4⟩ => ?_
  subst eo e4
  have I5 : Inv X pins σ H4 { s4 with heap := s4.heap.push { cls := .type "slice", data := .fields #[vl, vu, vs] } } := I4.kept (t' := s4.toks) fun b ob q => Heap.get?_push_of_some _ q
  obtain ⟨its, r, ht, hz⟩ := I5.tuple hx
  cases r with
  | cons r1 r =>
    cases r with
    | cons r2 r =>
      cases r
      show wpAny (model X.prog X.w) X.A (subscriptTail e (.Slice none none (some (.UnaryOp .USub (.Constant (.int 1) k p1) p2)) p3) (.ref a) (.ref s4.heap.objs.size)) (EP X pins σ Q) X.xe { s4 with heap := s4.heap.push { cls := .type "slice", data := .fields #[vl, vu, vs] } }
      refine tail_any (ops := [.ref a, .ref s4.heap.objs.size]) ht.typeIs (PyProof.Rows.slot_tuple_getitem.lookup) ?_ (by with_unfolding_all rfl)
      refine getItem_pair_rev ht (Heap.IsSliceOf.new _ vl vu vs) pl pu ps ?_
      have hs2 : [z, y].length ≤ sizeLine := by show 2 ≤ sizeLine; decide
      exact ⟨.ref _, _, I5.laid (t' := s4.toks) (o := .tup [z, y]) (fun b ob q => Heap.get?_push_of_some _ q) (Nat.le_refl _) ⟨hs2, [_, _], .cons r2 (.cons r1 .nil), ⟨_, Heap.get?_push_size _ rfl, rfl, 0, rfl⟩⟩, rfl, q _ (I5.hok.fresh (Nat.le_refl _))⟩
theorem r_revT2 {σ : L2.St} {H : Hp} {Q : VK} {K : PySem.W.Frag} {te : TE} (h : te σ H fun x H1 => ∃ a v w, x = .ref a ∧ SqT K H1 a [v, w] ∧ ∀ p, H1 p = none → Q (.ref p) (upd H1 p (.tup [w, v]))) : tRevT2 K te σ H Q := h
theorem r_pair {H : Hp} {a : Addr} {v w : V} {K : PySem.W.Frag} {F : Addr → Prop} (h : SqT K H a [v, w]) (q : ∀ p, H p = none → F p) : ∃ b x y, V.ref a = .ref b ∧ SqT K H b [x, y] ∧ ∀ p, H p = none → F p := ⟨a, v, w, rfl, h, q⟩
def rStrI : List V → Hp → VK → Prop := fun xs H Q => ∃ i, xs = [.int i] ∧ i.natAbs.log2 < 1920 ∧ Q (.str (toString i)) H
theorem c_strI {X : Cx} : CallR X (.type "str") rStrI := call_str_int
section
variable {H : Hp} {Q : VK} {K : PySem.W.Frag} {σ : L2.St}
theorem r_strI {i : Int} (h : i.natAbs.log2 < 1920) (q : Q (.str (toString i)) H) : rStrI [.int i] H Q := ⟨i, rfl, h, q⟩
theorem r_reprB {b : Bool} (q : Q (.str (if b then "True" else "False")) H) : rReprB [.bl b] H Q := ⟨b, rfl, q⟩
end
/-! ### constants of the top; binding by place and by keywords -/
theorem sqt_const {K : PySem.W.Frag} {H : Hp} {a : Addr} {od : Option Addr} {its : Array Value} {n : Nat} {sl : Array (Option Value)} {vs : List V} (h : K.lookup a = some ⟨.type "tuple", od, .seq its n, sl⟩) (r : Vals vs its.toList) (hl : vs.length ≤ 1000) : SqT K H a vs := by
  refine .inr ⟨_, its, n, h, rfl, rfl, ?_, r⟩
  have e : its.size = vs.length := (Array.length_toList (xs := its)).symm.trans r.length.symm
  rw [e]
  exact Nat.le_of_lt (small1000 hl)
theorem kb_mkN {K : PySem.W.Frag} {x qual : Str} {st : Stmt} {f : Addr} {fd : FuncData} {ps ks : List Str} {n : Nat} (F : Fun K x qual st f fd)
    (h : ∀ (kV doc pm : Value) (an : Option Addr) (cdv ct : Value) (us ws : List Value), us.length = n → ws.length = ks.length → bindArgs (PySem.W.fnOf x qual (defArgs st) (defBody st) (defScope st) .none kV doc pm an cdv ct) ⟨us, ks.zip ws⟩ = pure (ps.zip (us ++ ws))) :
    KBn K fd ps n ks (fun us ws => us ++ ws) (fun vs zs => vs ++ zs) := by
  obtain ⟨oc, od, kV, doc, pm, an, cdv, ct, osl, rfl, lk, hcd⟩ := F.ex
  exact ⟨fun s us ws _ l1 l2 => .of_eq (h kV doc pm an cdv ct us ws l1 l2), fun r1 r2 => r1.append r2⟩
theorem r_makeN {C : Addr} {n m : Nat} {sp : Sp} {gV : List V → List V → List V} {E : XK} {t tk : TA} {σ : L2.St} {H : Hp} {Q : VK} (h : t σ H fun vs H1 => tk σ H1 fun zs H2 => vs.length = n ∧ zs.length = m ∧ ∀ x dx, H2 x = none → H2 dx = none → dx ≠ x → sp (gV (.ref x :: vs) zs) (upd (upd H2 dx (.own x)) x (.ins C dx [])) (fun v H3 => v = .non ∧ Q (.ref x) H3) E) : tMakeN C n m sp gV E t tk σ H Q := h
theorem r_inT {K : PySem.W.Frag} {H : Hp} {Q : VK} {neg : Bool} {x : V} {p : Addr} {xs : List V} (h : SqT K H p xs) (h1 : flatV x = true) (h2 : xs.all flatV = true) (q : Q (.bl (if neg then !inV x xs else inV x xs)) H) : rIn K neg x (.ref p) H Q := ⟨p, xs, rfl, .inr h, h1, h2, q⟩
theorem r_inL {K : PySem.W.Frag} {H : Hp} {Q : VK} {neg : Bool} {x : V} {p : Addr} {xs : List V} (h : SqL K H p xs) (h1 : flatV x = true) (h2 : xs.all flatV = true) (q : Q (.bl (if neg then !inV x xs else inV x xs)) H) : rIn K neg x (.ref p) H Q := ⟨p, xs, rfl, .inl h, h1, h2, q⟩
/-! ### numbers and stretches in texts: lists of signs, in plain Lean -/
theorem txt_S (x : Str) : x = SX.S x.cps.toList := (SX.S_tl x).symm
def isDg (c : Nat) : Bool := decide (48 ≤ c) && decide (c ≤ 57)
theorem isDg_iff {c : Nat} : isDg c = true ↔ 48 ≤ c ∧ c ≤ 57 := by
  unfold isDg
  rw [Bool.and_eq_true, decide_eq_true_iff, decide_eq_true_iff]
def runD : Nat → List Nat → Nat
  | 0, _ => 0
  | _ + 1, [] => 0
  | n + 1, c :: r => if isDg c = true then runD n r + 1 else 0
theorem runD_nil (n : Nat) : runD n [] = 0 := by cases n <;> rfl
theorem runD_no {n c : Nat} {r : List Nat} (h : isDg c = false) : runD n (c :: r) = 0 := by
  cases n with
  | zero => rfl
  | succ n => show (if isDg c = true then _ else 0) = 0; rw [h]; rfl
theorem runD_yes {n c : Nat} {r : List Nat} (h : isDg c = true) : runD (n + 1) (c :: r) = runD n r + 1 := by
  show (if isDg c = true then _ else 0) = _
  rw [if_pos h]
theorem runD_le : ∀ (n : Nat) (l : List Nat), runD n l ≤ n ∧ runD n l ≤ l.length
  | 0, l => ⟨Nat.le_refl _, Nat.zero_le _⟩
  | n + 1, [] => ⟨Nat.zero_le _, Nat.le_refl _⟩
  | n + 1, c :: r => by
    show (if isDg c = true then runD n r + 1 else 0) ≤ n + 1 ∧ (if isDg c = true then runD n r + 1 else 0) ≤ r.length + 1
    have := runD_le n r
    split <;> omega
theorem runD_digits : ∀ (n : Nat) (l : List Nat), NumText.AllDigits (l.take (runD n l))
  | 0, l => fun c hc => by rw [show runD 0 l = 0 from rfl, List.take_zero] at hc; cases hc
  | n + 1, [] => fun c hc => by rw [List.take_nil] at hc; cases hc
  | n + 1, c :: r => by
    intro x hx
    cases h : isDg c with
    | false =>
      rw [runD_no h, List.take_zero] at hx
      cases hx
    | true =>
      rw [runD_yes h, List.take_succ_cons] at hx
      rcases List.mem_cons.mp hx with rfl | hx
      · exact isDg_iff.mp h
      · exact runD_digits n r x hx
theorem runD_app : ∀ {n : Nat} {ds rest : List Nat}, NumText.AllDigits ds → ds.length ≤ n → (∀ c, rest.head? = some c → isDg c = false) → runD n (ds ++ rest) = ds.length
  | n, [], [], _, _, _ => runD_nil n
  | n, [], c :: r, _, _, h => runD_no (h c rfl)
  | 0, d :: ds, rest, _, hl, _ => absurd hl (Nat.not_succ_le_zero _)
  | n + 1, d :: ds, rest, hd, hl, h => by
    rw [List.cons_append, runD_yes (isDg_iff.mpr (hd d List.mem_cons_self)), runD_app (fun c hc => hd c (List.mem_cons_of_mem _ hc)) (Nat.le_of_succ_le_succ hl) h]
    rfl
def sgnLen (s : List Nat) : Nat := if s.head? = some 45 then 1 else 0
/-- how many signs the longest number at the beginning has -/
def numLen (s : List Nat) : Nat :=
  if (s.drop (sgnLen s)).head? = some 48 then (if 0 < sgnLen s then 0 else 1) else if 0 < runD 13 (s.drop (sgnLen s)) then sgnLen s + runD 13 (s.drop (sgnLen s)) else 0
def valL : List Nat → Int
  | 45 :: r => -((NumText.digitsVal r : Nat) : Int)
  | r => ((NumText.digitsVal r : Nat) : Int)
def NumOk (c : List Nat) : Prop := PySem.intText? (SX.S c) = some (valL c) ∧ c.length ≤ 640
theorem numOk_digits {c : List Nat} (h : NumText.AllDigits c) (hne : c ≠ []) (hl : c.length ≤ 640) : NumOk c := by
  refine ⟨?_, hl⟩
  have e := PySem.intText_digits (x := SX.S c) h hne (by rw [SX.S_len]; omega)
  rw [e]
  cases c with
  | nil => exact absurd rfl hne
  | cons x r =>
    have hx := (h x List.mem_cons_self)
    by_cases z : x = 45
    · omega
    · congr 1
      unfold valL
      split
      · rename_i r' e
        injection e with e1 e2
        exact absurd e1 z
      · rfl
theorem numOk_neg {c : List Nat} (h : NumText.AllDigits c) (hne : c ≠ []) (hl : c.length ≤ 639) : NumOk (45 :: c) := by
  refine ⟨?_, by show c.length + 1 ≤ 640; omega⟩
  exact PySem.intText_neg (x := SX.S (45 :: c)) rfl h hne (by rw [SX.S_len]; show c.length + 1 ≤ 4300; omega)
theorem sgn_le (s : List Nat) : sgnLen s ≤ 1 ∧ sgnLen s ≤ s.length := by
  unfold sgnLen
  cases s with
  | nil => rw [if_neg (by simp)]; omega
  | cons c r => split <;> (constructor <;> simp)
theorem numLen_le (s : List Nat) : numLen s ≤ 14 ∧ numLen s ≤ s.length := by
  have h1 := sgn_le s
  have h2 := runD_le 13 (s.drop (sgnLen s))
  rw [List.length_drop] at h2
  unfold numLen
  split
  · rename_i h
    split
    · omega
    · have : s ≠ [] := fun z => by rw [z, List.drop_nil] at h; cases h
      have := List.length_pos_iff.mpr this
      omega
  · split <;> omega
theorem numLen_ok {s : List Nat} (h : 0 < numLen s) : NumOk (s.take (numLen s)) := by
  have h1 := sgn_le s
  have h2 := runD_le 13 (s.drop (sgnLen s))
  have h3 := runD_digits 13 (s.drop (sgnLen s))
  unfold numLen at h ⊢
  by_cases c1 : (s.drop (sgnLen s)).head? = some 48
  · rw [if_pos c1] at h ⊢
    by_cases c2 : 0 < sgnLen s
    · rw [if_pos c2] at h
      exact absurd h (Nat.lt_irrefl 0)
    · rw [if_neg c2]
      rw [show sgnLen s = 0 by omega, List.drop_zero] at c1
      cases s with
      | nil => cases c1
      | cons x r =>
        cases c1
        show NumOk [48]
        exact numOk_digits (fun c hc => by rw [List.mem_singleton.mp hc]; omega) (by simp) (by decide)
  · rw [if_neg c1] at h ⊢
    by_cases c2 : 0 < runD 13 (s.drop (sgnLen s))
    · rw [if_pos c2] at h ⊢
      by_cases c3 : s.head? = some 45
      · have e : sgnLen s = 1 := if_pos c3
        cases s with
        | nil => cases c3
        | cons x r =>
          cases c3
          rw [e] at h2 h3 c2 ⊢
          rw [List.drop_succ_cons, List.drop_zero] at h2 h3 c2 ⊢
          rw [Nat.add_comm, List.take_succ_cons]
          refine numOk_neg h3 (fun z => ?_) ?_
          · have := congrArg List.length z
            rw [List.length_take, List.length_nil] at this
            omega
          · rw [List.length_take]
            omega
      · have e : sgnLen s = 0 := if_neg c3
        rw [e] at h2 h3 c2 ⊢
        rw [List.drop_zero] at h2 h3 c2 ⊢
        rw [Nat.zero_add]
        refine numOk_digits h3 (fun z => ?_) ?_
        · have := congrArg List.length z
          rw [List.length_take, List.length_nil] at this
          omega
        · rw [List.length_take]
          omega
    · rw [if_neg c2] at h
      exact absurd h (Nat.lt_irrefl 0)
def rdE (c : List Nat) : Option Int := if c = [] then none else some (valL c)
/-- the longest stretch at the beginning: its ends and its length -/
def scanO (s : List Nat) : Option (Option Int × Option Int × Nat) :=
  if (s.drop (numLen s)).take 2 = [46, 46] then some (rdE (s.take (numLen s)), rdE ((s.drop (numLen s + 2)).take (numLen (s.drop (numLen s + 2)))), numLen s + 2 + numLen (s.drop (numLen s + 2))) else none
/-! ### the texts of ends -/
def intL (n : Int) : List Nat := if n < 0 then 45 :: TL.numL n.natAbs else TL.numL n.natAbs
def tE : Option Int → List Nat
  | none => []
  | some n => intL n
theorem numL_head : ∀ (m : Nat), 0 < m → (TL.numL m).head? ≠ some 48 := by
  intro m
  induction m using Nat.strongRecOn with
  | _ m ih =>
    intro h
    by_cases c : m < 10
    · rw [TL.numL_lt c]
      intro z
      have z := Option.some.inj z
      omega
    · rw [TL.numL_step (by omega)]
      have i := ih (m / 10) (by omega) (by omega)
      cases hn : TL.numL (m / 10) with
      | nil => exact absurd hn (TL.numL_ne _)
      | cons x r => rw [hn] at i; exact i
theorem numLen_tE {e : Option Int} {rest : List Nat} (hb : ∀ n, e = some n → n.natAbs < 10 ^ 13) (hr : ∀ c, rest.head? = some c → isDg c = false ∧ (e = none → c ≠ 45)) : numLen (tE e ++ rest) = (tE e).length := by
  have hd : ∀ c, rest.head? = some c → isDg c = false := fun c z => (hr c z).1
  cases e with
  | none =>
    show numLen rest = 0
    have s0 : sgnLen rest = 0 := if_neg fun z => (hr 45 z).2 rfl rfl
    unfold numLen
    rw [s0, List.drop_zero, if_neg fun z => by have := hd 48 z; revert this; decide]
    have r0 : runD 13 rest = 0 := runD_app (ds := []) (fun c z => nomatch z) (Nat.zero_le _) hd
    rw [r0]
    rfl
  | some n =>
    have hl : (TL.numL n.natAbs).length ≤ 13 := TL.numL_len (by decide) (hb n rfl)
    have hdg := TL.numL_digits n.natAbs
    have hrun : runD 13 (TL.numL n.natAbs ++ rest) = (TL.numL n.natAbs).length := runD_app hdg hl hd
    have hpos : 0 < (TL.numL n.natAbs).length := List.length_pos_iff.mpr (TL.numL_ne _)
    show numLen (intL n ++ rest) = (intL n).length
    unfold intL
    by_cases c : n < 0
    · rw [if_pos c]
      have s1 : sgnLen (45 :: TL.numL n.natAbs ++ rest) = 1 := if_pos rfl
      unfold numLen
      rw [s1]
      show (if (TL.numL n.natAbs ++ rest).head? = some 48 then _ else if 0 < runD 13 (TL.numL n.natAbs ++ rest) then 1 + runD 13 (TL.numL n.natAbs ++ rest) else 0) = (TL.numL n.natAbs).length + 1
      rw [hrun, if_neg, if_pos hpos, Nat.add_comm]
      intro z
      have z2 := numL_head n.natAbs (by omega)
      cases hn : TL.numL n.natAbs with
      | nil => exact absurd hn (TL.numL_ne _)
      | cons x r => rw [hn] at z z2; exact z2 z
    · rw [if_neg c]
      have s0 : sgnLen (TL.numL n.natAbs ++ rest) = 0 := by
        refine if_neg fun z => ?_
        cases hn : TL.numL n.natAbs with
        | nil => exact absurd hn (TL.numL_ne _)
        | cons x r =>
          rw [hn] at z hdg
          have := hdg x List.mem_cons_self
          have z := Option.some.inj z
          omega
      unfold numLen
      rw [s0, List.drop_zero, hrun]
      by_cases m0 : n.natAbs = 0
      · rw [m0]
        rfl
      · rw [if_neg, if_pos hpos, Nat.zero_add]
        intro z
        have z2 := numL_head n.natAbs (by omega)
        cases hn : TL.numL n.natAbs with
        | nil => exact absurd hn (TL.numL_ne _)
        | cons x r => rw [hn] at z z2; exact z2 z
theorem rd_tE (e : Option Int) : rdE (tE e) = e := by
  cases e with
  | none => rfl
  | some n =>
    show rdE (intL n) = some n
    unfold rdE intL
    have hne := TL.numL_ne n.natAbs
    by_cases c : n < 0
    · rw [if_pos c, if_neg (by simp)]
      show some (-((NumText.digitsVal (TL.numL n.natAbs) : Nat) : Int)) = some n
      rw [TL.numL_val]
      congr 1
      omega
    · rw [if_neg c, if_neg hne]
      have hdg := TL.numL_digits n.natAbs
      have e : valL (TL.numL n.natAbs) = ((NumText.digitsVal (TL.numL n.natAbs) : Nat) : Int) := by
        cases hn : TL.numL n.natAbs with
        | nil => exact absurd hn hne
        | cons x r =>
          rw [hn] at hdg
          have := hdg x List.mem_cons_self
          unfold valL
          split
          · rename_i r' e
            injection e with e1 e2
            omega
          · rfl
      rw [e, TL.numL_val]
      congr 1
      omega
/-- the text of two ends, and what follows it -/
def fullL (lo hi : Option Int) : List Nat := tE lo ++ 46 :: 46 :: tE hi
theorem scan_full {lo hi : Option Int} {rest : List Nat} (hlo : ∀ n, lo = some n → n.natAbs < 10 ^ 13) (hhi : ∀ n, hi = some n → n.natAbs < 10 ^ 13) (hr : ∀ c, rest.head? = some c → isDg c = false ∧ (hi = none → c ≠ 45)) :
    scanO (fullL lo hi ++ rest) = some (lo, hi, (fullL lo hi).length) := by
  have ea : fullL lo hi ++ rest = tE lo ++ (46 :: 46 :: (tE hi ++ rest)) := by
    unfold fullL
    rw [List.append_assoc]
    rfl
  have n1 : numLen (fullL lo hi ++ rest) = (tE lo).length := by
    rw [ea]
    refine numLen_tE hlo fun c z => ?_
    cases z
    exact ⟨by decide, fun _ => by decide⟩
  have n2 : numLen (tE hi ++ rest) = (tE hi).length := numLen_tE hhi hr
  have d1 : (fullL lo hi ++ rest).drop (tE lo).length = 46 :: 46 :: (tE hi ++ rest) := by rw [ea, List.drop_left]
  have d2 : (fullL lo hi ++ rest).drop ((tE lo).length + 2) = tE hi ++ rest := by rw [← List.drop_drop, d1]; rfl
  have t1 : (fullL lo hi ++ rest).take (tE lo).length = tE lo := by rw [ea, List.take_left]
  unfold scanO
  rw [n1, d1, d2, n2, t1, List.take_left, rd_tE, rd_tE, if_pos (show List.take 2 (46 :: 46 :: (tE hi ++ rest)) = [46, 46] from rfl)]
  unfold fullL
  rw [List.length_append]
  show some (lo, hi, (tE lo).length + 2 + (tE hi).length) = some (lo, hi, (tE lo).length + ((tE hi).length + 1 + 1))
  rw [show (tE lo).length + 2 + (tE hi).length = (tE lo).length + ((tE hi).length + 1 + 1) by omega]
/-! ### slices of texts -/
theorem cut_ij (a : List Nat) {i j : Nat} (h : i ≤ j) : cutS (SX.S a) (some (i : Int)) (some (j : Int)) = SX.S ((a.drop i).take (j - i)) := by
  unfold cutS
  show Str.mk _ = Str.mk _
  congr 1
  congr 1
  have hl : (SX.S a).length = a.length := SX.S_len a
  rw [hl, HT.sIx_nat, HT.sIx_nat]
  show (a.drop (min i a.length)).take (min j a.length - min i a.length) = _
  rcases Nat.lt_or_ge i a.length with c | c
  · rw [Nat.min_eq_left (Nat.le_of_lt c)]
    rcases Nat.lt_or_ge j a.length with c' | c'
    · rw [Nat.min_eq_left (Nat.le_of_lt c')]
    · rw [Nat.min_eq_right c', List.take_of_length_le (by rw [List.length_drop]; omega), List.take_of_length_le (by rw [List.length_drop]; omega)]
  · rw [Nat.min_eq_right c, List.drop_eq_nil_of_le (Nat.le_refl _), List.drop_eq_nil_of_le c, List.take_nil, List.take_nil]
theorem head_cut (l : List Nat) (c : Nat) : decide (SX.S (l.take 1) = SX.S [c]) = decide (l.head? = some c) := by
  rw [decide_eq_decide]
  cases l with
  | nil => exact ⟨fun z => absurd (SX.S_inj z) (by simp), fun z => by cases z⟩
  | cons x r =>
    constructor
    · intro z
      have z := SX.S_inj z
      injection z with z1 z2
      rw [z1]
      rfl
    · intro z
      cases z
      rfl
theorem int_SX (n : Int) : ((toString n : String) : Str) = SX.S (intL n) := by
  have t := TL.tl_num
  cases n with
  | ofNat m =>
    rw [txt_S ((toString (Int.ofNat m) : String) : Str)]
    exact congrArg SX.S (t m)
  | negSucc m =>
    rw [txt_S ((toString (Int.negSucc m) : String) : Str)]
    refine congrArg SX.S ?_
    have e : toString (Int.negSucc m) = "-" ++ toString ((((m + 1 : Nat)) : Int)) := rfl
    have z := t (m + 1)
    unfold TL.tl at z
    rw [PyProof.Rows.signs_ofString] at z ⊢
    rw [e, String.toList_append, List.map_append, z]
    show 45 :: TL.numL (m + 1) = _
    unfold intL
    rw [if_pos (by omega)]
    rfl
theorem r_while {c : TT} {tb : TS} {D : Ends} {σ : L2.St} {H : Hp} (Pv : Nat → L2.St → Hp → Prop) (h0 : ∃ m, Pv m σ H)
    (hs : ∀ m σ H, Pv m σ H → c σ H fun b H1 => if b = true then ∃ N : L2.St → Hp → Prop, (∀ σ' H', N σ' H' → ∃ m', m' < m ∧ Pv m' σ' H') ∧ tb { D with nx := N, ct := N, bk := D.nx } σ H1 else D.nx σ H1) : tWhile c tb D σ H := ⟨Pv, h0, hs⟩
theorem r_callS {sp : Sp} {E : L2.St → XK} {t : TA} {σ : L2.St} {H : Hp} {Q : VK} (h : t σ H fun vs H1 => sp vs H1 Q (E σ)) : tCallS sp E t σ H Q := h
theorem cut_1 (a : List Nat) (p : Nat) : cutS (SX.S a) (some (p : Int)) (some ((p : Int) + 1)) = SX.S ((a.drop p).take 1) := by
  have e := cut_ij a (Nat.le_add_right p 1)
  rw [Nat.add_sub_cancel_left] at e
  exact e
theorem cut_2 (a : List Nat) (p : Nat) : cutS (SX.S a) (some (p : Int)) (some ((p : Int) + 2)) = SX.S ((a.drop p).take 2) := by
  have e := cut_ij a (Nat.le_add_right p 2)
  rw [Nat.add_sub_cancel_left] at e
  exact e
/-! ### short texts of signs -/
def Wd (z : Str) : Prop := PyData.strOk z = true ∧ z.length ≤ 30
theorem at_strs {ws : List Str} {k : Int} (h0 : 0 ≤ k) (h1 : k < ws.length) : ∃ z, atI (ws.map V.str) k = some (.str z) ∧ z ∈ ws := by
  have hk : k.toNat < ws.length := by omega
  have e : atI (ws.map V.str) (k.toNat : Int) = some (.str ws[k.toNat]) := atI_nat (by rw [List.getElem?_map, List.getElem?_eq_getElem hk]; rfl)
  rw [Int.toNat_of_nonneg h0] at e
  exact ⟨_, e, List.getElem_mem hk⟩
theorem r_lenS {H : Hp} {Q : VK} {K : PySem.W.Frag} {p : Addr} {ws : List Str} (h1 : H p = some (.lst (ws.map V.str))) (h : Q (.int ws.length) H) : rLenL K [.ref p] H Q := ⟨p, _, rfl, .inl (.inl (.inl h1)), by rw [List.length_map]; exact h⟩
theorem len_app (x y : Str) : (x ++ y).length = x.length + y.length := by
  show (x.cps ++ y.cps).size = _
  rw [Array.size_append]
  rfl
theorem cut_sok {z : Str} {lo hi : Option Int} (h : PyData.strOk z = true) : PyData.strOk (cutS z lo hi) = true := by
  show Array.all _ _ = true
  have h : z.cps.all (fun c => decide (c < 0x110000)) = true := h
  rw [← Array.all_toList] at h ⊢
  rw [List.all_eq_true] at h ⊢
  intro x hx
  exact h x (List.mem_of_mem_drop (List.mem_of_mem_take (by simpa [cutS] using hx)))
theorem cut_lenS {z : Str} {lo hi : Option Int} : (cutS z lo hi).length ≤ z.length := by
  show (List.toArray _).size ≤ z.cps.size
  rw [List.size_toArray, List.length_take, List.length_drop, Array.length_toList]
  omega
theorem join_ok : ∀ {ys : List Str}, (∀ y ∈ ys, PyData.strOk y = true ∧ y.length = 1) → PyData.strOk (Str.join "" ys) = true ∧ (Str.join "" ys).length = ys.length
  | [], _ => by decide +kernel
  | [x], h => h x List.mem_cons_self
  | x :: y :: r, h => by
    obtain ⟨i1, i2⟩ := join_ok (ys := y :: r) fun z hz => h z (List.mem_cons_of_mem _ hz)
    obtain ⟨h1, h2⟩ := h x List.mem_cons_self
    show PyData.strOk (x ++ ("" : Str) ++ Str.join "" (y :: r)) = true ∧ (x ++ ("" : Str) ++ Str.join "" (y :: r)).length = _
    refine ⟨sok_app (sok_app h1 (sok_of "")) i1, ?_⟩
    rw [len_app, len_app, i2, h2]
    show 1 + 0 + (r.length + 1) = r.length + 1 + 1
    omega
/-- [e for x in range(..)], e draws: items of any kind -/
theorem lc_drawsG {σ : L2.St} {H : Hp} {Q : VK} {te : TE} {n m : Nat} {lo : Int} {d c r : Addr} {P : V → Prop} (hm : m ≤ 1000) (D0 : Drw H d c r)
    (he : ∀ (i : Nat) (H' : Hp) (QQ : VK), i < m → Drw H' d c r → Ext d r H H' → (∀ (v : V) (H'' : Hp), P v → Drw H'' d c r → Ext d r H' H'' → QQ v H'') → te ((wipe σ [n]).set n (some (.int (lo + i)))) H' QQ)
    (hq : ∀ (l : Addr) (ss : List V) (H' : Hp), ss.length = m → (∀ x ∈ ss, P x) → H l = none → H' l = some (.lst ss) → Drw H' d c r → Ext d r H H' → Q (.ref l) H') : lcGo (Itr lo m) (gName n) tYes te [n] σ Q H := by
  intro l nl
  have ld := D0.ned nl
  have lr := D0.ner nl
  have lc := D0.nec nl
  refine lc_range (fun i H' => ∃ ss : List V, ss.length = i ∧ (∀ x ∈ ss, P x) ∧ H' l = some (.lst ss) ∧ Drw H' d c r ∧ Ext d r H H') ⟨[], rfl, fun x hx => (nomatch hx), upd_same, D0.new nl, Ext.of (same_new nl)⟩ ?_ ?_
  · rintro i H' hi ⟨ss, hl, hp, hs, D1, E1⟩
    refine ⟨wipe1, ?_⟩
    show te _ _ _
    refine he i H' _ hi D1 E1 fun k H'' hk D2 E2 => ⟨ss, E2 _ _ hs ld lr, small1000 (by omega), ?_⟩
    refine ⟨ss ++ [k], by rw [List.length_append, hl]; rfl, fun x hx => ?_, upd_same, D2.put ld lr lc, fun b o e n1 n2 => ?_⟩
    · rcases List.mem_append.mp hx with z | z
      · exact hp x z
      · rw [List.mem_singleton.mp z]; exact hk
    · rw [upd_ne (ne_of_none e nl)]
      exact E2 b o (E1 b o e n1 n2) n1 n2
  · rintro H' ⟨ss, hl, hp, hs, D1, E1⟩
    exact hq l ss H' hl hp nl hs D1 E1
theorem strs_of : ∀ {ss : List V}, (∀ x ∈ ss, ∃ z : Str, x = .str z ∧ PyData.strOk z = true ∧ z.length = 1) → ∃ ys : List Str, ss = ys.map V.str ∧ ∀ y ∈ ys, PyData.strOk y = true ∧ y.length = 1
  | [], _ => ⟨[], rfl, fun _ h => nomatch h⟩
  | x :: ss, h => by
    obtain ⟨ys, e, hy⟩ := strs_of (ss := ss) fun z hz => h z (List.mem_cons_of_mem _ hz)
    obtain ⟨z, rfl, hz⟩ := h x List.mem_cons_self
    refine ⟨z :: ys, by rw [e]; rfl, fun y hm => ?_⟩
    rcases List.mem_cons.mp hm with rfl | hm
    · exact hz
    · exact hy y hm
theorem sum_ones : ∀ {ys : List Str}, (∀ y ∈ ys, y.length = 1) → (ys.map (fun y => y.length)).sum = ys.length
  | [], _ => rfl
  | y :: ys, h => by
    rw [List.map_cons, List.sum_cons, sum_ones fun z hz => h z (List.mem_cons_of_mem _ hz), h y List.mem_cons_self, List.length_cons]
    omega
theorem cut_two (z : Str) {k : Int} (h0 : 0 ≤ k) (h1 : k < z.length) : (cutS z none (some k)).length + (cutS z (some (k + 1)) none).length + 1 = z.length := by
  have e1 : HT.sIx z.length z.length (some k) = k.toNat := by
    have := HT.sIx_nat z.length z.length k.toNat
    rw [Int.toNat_of_nonneg h0] at this
    rw [this]; omega
  have e2 : HT.sIx z.length 0 (some (k + 1)) = k.toNat + 1 := by
    have := HT.sIx_nat z.length 0 (k.toNat + 1)
    rw [show ((k.toNat + 1 : Nat) : Int) = k + 1 by omega] at this
    rw [this]; omega
  show (List.toArray _).size + (List.toArray _).size + 1 = _
  rw [List.size_toArray, List.size_toArray, List.length_take, List.length_take, List.length_drop, List.length_drop, Array.length_toList, e1, e2, HT.sIx_none, HT.sIx_none]
  show min (k.toNat - 0) (z.length - 0) + min (z.length - (k.toNat + 1)) (z.length - (k.toNat + 1)) + 1 = z.length
  omega
theorem cut_two0 (z : Str) {k : Int} (h0 : 0 ≤ k) (h1 : k < z.length) : (cutS z none (some k)).length + (cutS z (some k) none).length = z.length := by
  have e1 : HT.sIx z.length z.length (some k) = k.toNat := by
    have := HT.sIx_nat z.length z.length k.toNat
    rw [Int.toNat_of_nonneg h0] at this
    rw [this]; omega
  have e2 : HT.sIx z.length 0 (some k) = k.toNat := by
    have := HT.sIx_nat z.length 0 k.toNat
    rw [Int.toNat_of_nonneg h0] at this
    rw [this]; omega
  show (List.toArray _).size + (List.toArray _).size = _
  rw [List.size_toArray, List.size_toArray, List.length_take, List.length_take, List.length_drop, List.length_drop, Array.length_toList, e1, e2, HT.sIx_none, HT.sIx_none]
  show min (k.toNat - 0) (z.length - 0) + min (z.length - k.toNat) (z.length - k.toNat) = z.length
  omega
/-! ### dicts, chains, texts sign by sign: readings -/
section
variable {σ : L2.St} {H : Hp} {Q : VK} {K : PySem.W.Frag} {ta tb tc te td ty tv : TE} {D : Ends}
theorem r_dnew (h : ∀ p, H p = none → Q (.ref p) (upd H p (.dK []))) : tDNewK σ H Q := h
theorem r_din (h : ty σ H fun y H1 => td σ H1 fun x H2 => ∃ a o, x = .ref a ∧ DGet H2 a y o ∧ Q (.bl o.isSome) H2) : tDIn ty td σ H Q := h
theorem r_dput (h : tv σ H fun v H1 => td σ H1 fun x H2 => ty σ H2 fun y H3 => ∃ a H4, x = .ref a ∧ DPut H3 a y v H4 ∧ D.nx σ H4) : sDPut td ty tv D σ H := h
theorem r_dinS {d : Addr} {kvs : List (Key × V)} {w : Str} {F : Option V → Prop} (e : H d = some (.dK kvs)) (h : F (valV kvs (Sum.inr w))) : ∃ a o, V.ref d = .ref a ∧ DGet H a (.str w) o ∧ F o := ⟨d, _, rfl, DGet.k (k := Sum.inr w) e, h⟩
theorem r_dputS {d : Addr} {kvs : List (Key × V)} {w : Str} {v : V} {F : Hp → Prop} (e : H d = some (.dK kvs)) (hl : kvs.length ≤ 1000) (h : F (upd H d (.dK (putK kvs (Sum.inr w) v)))) : ∃ a H4, V.ref d = .ref a ∧ DPut H a (.str w) v H4 ∧ F H4 := ⟨d, _, rfl, DPut.k (k := Sum.inr w) e (small1000 hl), h⟩
theorem r_chain {r r' : R2} (h : ta σ H fun x H1 => tb σ H1 fun y H2 => r x y H2 fun z H3 => ∃ k, z = .bl k ∧ (if k = true then tc σ H3 fun w' H4 => r' y w' H4 Q else Q (.bl false) H3)) : tChain r r' ta tb tc σ H Q := h
theorem r_is {R : It → Hp → Prop} (h : te σ H fun v H1 => ∃ x, v = .str x ∧ R (Its x) H1) : iStr te σ H R := h
theorem r_iss {z : Str} {F : Str → Prop} (h : F z) : ∃ x, V.str z = .str x ∧ F x := ⟨z, rfl, h⟩
theorem putK_len {kvs : List (Key × V)} {k : Key} {v : V} : (putK kvs k v).length ≤ kvs.length + 1 := by
  unfold putK
  split
  · rw [List.length_map]; omega
  · rw [List.length_append]; exact Nat.le_refl _
/-- [e for c in s], e by the sign -/
theorem lc_strM {n : Nat} {z : Str} (f : Nat → V) (hz : z.length ≤ 1000) (he : ∀ (c : Nat) (H' : Hp) (QQ : VK), Same H H' → QQ (f c) H' → te ((wipe σ [n]).set n (some (.str ⟨#[c]⟩))) H' QQ)
    (hq : ∀ D, H D = none → Q (.ref D) (upd H D (.lst (z.cps.toList.map f)))) : lcGo (Its z) (gName n) tYes te [n] σ Q H := by
  intro D hD
  have hz : z.cps.toList.length ≤ 1000 := by rw [Array.length_toList]; exact hz
  refine lc_it walk_str (fun i H' => H' = upd H D (.lst ((z.cps.toList.take i).map f))) rfl (fun _ _ _ _ => trivial) ?_ ?_
  · rintro i x H1 H2 hi rfl ⟨rfl, c, hc, rfl⟩
    refine ⟨wipe1, ?_⟩
    show te _ _ _
    refine he c _ _ (same_new hD) ⟨_, upd_same, ?_, ?_⟩
    · rw [List.length_map, List.length_take]
      exact small1000 (by omega)
    · have hc : z.cps.toList[i]? = some c := by rw [Array.getElem?_toList]; exact hc
      rw [upd_upd, List.take_add_one, hc, List.map_append]
      rfl
  · rintro H' rfl
    rw [show z.cps.size = z.cps.toList.length from (Array.length_toList).symm, List.take_length]
    exact hq D hD
end
theorem r_mko {C : Addr} {sp : Sp} {dvs : List V} {t : TA} {σ : L2.St} {H : Hp} {Q : XK} (h : t σ H fun vs H1 => vs.length ≤ 1000 ∧ ∀ a, H1 a = none → sp (.ref a :: (vs ++ dvs)) (upd H1 a (exo a C none)) (fun v H2 => v = .non ∧ ∃ (d : Addr) (fs : List (Str × V)), H2 a = some (exo a C (some d)) ∧ H2 d = some (exd d fs) ∧ H1 d = none ∧ Q (.ref C) (some d) (upd (del H2 a) d (.xd fs))) (fun _ _ _ => False)) : tMkO C sp dvs t σ H Q := h
theorem r_m0 {r : V → List V → Hp → VK → Prop} {to : TE} {σ : L2.St} {H : Hp} {Q : VK} (h : to σ H fun x H1 => (∃ a, x = .str a) ∧ r x [] H1 Q) : tM0 r to σ H Q := h
def top (i : Nat) : Stmt := PySem.Challenge.pw_windowrows_k15_any_text_as_a_stretch.main.body.getD i (.Pass ⟨0, 0, 0, 0⟩)
abbrev s_TurnedStretch___init__ : Stmt := inClass (top 3) 0
theorem sc_TurnedStretch___init__ : FnScope ["self", "low", "high"] ["self", "low", "high"] (defScope s_TurnedStretch___init__) := ⟨rfl, rfl, rfl, by decide +kernel, rfl, by decide +kernel, by decide +kernel⟩
abbrev s_BadText___init__ : Stmt := inClass (top 4) 0
theorem sc_BadText___init__ : FnScope ["self", "place"] ["self", "place"] (defScope s_BadText___init__) := ⟨rfl, rfl, rfl, by decide +kernel, rfl, by decide +kernel, by decide +kernel⟩
abbrev s_Stretch___init__ : Stmt := inClass (top 8) 0
theorem sc_Stretch___init__ : FnScope ["self", "low", "high"] ["self", "low", "high"] (defScope s_Stretch___init__) := ⟨rfl, rfl, rfl, by decide +kernel, rfl, by decide +kernel, by decide +kernel⟩
abbrev s_number_end : Stmt := top 9
theorem sc_number_end : FnScope ["text", "place", "first", "last"] ["text", "place"] (defScope s_number_end) := ⟨rfl, rfl, rfl, by decide +kernel, rfl, by decide +kernel, by decide +kernel⟩
abbrev s_end_number : Stmt := top 10
theorem sc_end_number : FnScope ["text", "first", "last"] ["text", "first", "last"] (defScope s_end_number) := ⟨rfl, rfl, rfl, by decide +kernel, rfl, by decide +kernel, by decide +kernel⟩
abbrev s_scan_stretch : Stmt := top 11
theorem sc_scan_stretch : FnScope ["text", "place", "first", "last"] ["text", "place"] (defScope s_scan_stretch) := ⟨rfl, rfl, rfl, by decide +kernel, rfl, by decide +kernel, by decide +kernel⟩
abbrev s_read_stretch : Stmt := top 12
theorem sc_read_stretch : FnScope ["text", "found", "low", "high", "last", "e"] ["text"] (defScope s_read_stretch) := ⟨rfl, rfl, rfl, by decide +kernel, rfl, by decide +kernel, by decide +kernel⟩
abbrev s__law_begin : Stmt := top 14
theorem sc__law_begin : FnScope ["_law_script", "_law_cells", "_law_rests", "_law_cell"] ["_law_script"] (defScope s__law_begin) := ⟨rfl, rfl, rfl, by decide +kernel, rfl, by decide +kernel, by decide +kernel⟩
abbrev s__law_draw : Stmt := top 15
theorem sc__law_draw : FnScope ["_law_draws", "_law_many", "_law_cells", "_law_rests", "_law_turn", "_law_at", "_law_got", "_law_first", "_law_salt", "_law_second", "_law_mixed", "_law_third"] ["_law_draws", "_law_many"] (defScope s__law_draw) := ⟨rfl, rfl, rfl, by decide +kernel, rfl, by decide +kernel, by decide +kernel⟩
abbrev s__law_sign : Stmt := top 16
theorem sc__law_sign : FnScope ["_law_draws", "_law_signs"] ["_law_draws"] (defScope s__law_sign) := ⟨rfl, rfl, rfl, by decide +kernel, rfl, by decide +kernel, by decide +kernel⟩
abbrev s__law_short_end : Stmt := top 17
theorem sc__law_short_end : FnScope ["_law_draws", "_law_way"] ["_law_draws"] (defScope s__law_short_end) := ⟨rfl, rfl, rfl, by decide +kernel, rfl, by decide +kernel, by decide +kernel⟩
abbrev s__law_odd_end : Stmt := top 18
theorem sc__law_odd_end : FnScope ["_law_draws", "_law_long", "_law_some", "_law_k"] ["_law_draws"] (defScope s__law_odd_end) := ⟨rfl, rfl, rfl, by decide +kernel, rfl, by decide +kernel, by decide +kernel⟩
abbrev s__law_spoilt : Stmt := top 19
theorem sc__law_spoilt : FnScope ["_law_draws", "_law_text", "_law_at", "_law_way"] ["_law_draws", "_law_text"] (defScope s__law_spoilt) := ⟨rfl, rfl, rfl, by decide +kernel, rfl, by decide +kernel, by decide +kernel⟩
abbrev s__law_any_text : Stmt := top 20
theorem sc__law_any_text : FnScope ["_law_draws", "_law_way", "_law_text", "_law_k"] ["_law_draws"] (defScope s__law_any_text) := ⟨rfl, rfl, rfl, by decide +kernel, rfl, by decide +kernel, by decide +kernel⟩
abbrev s__law_is_end : Stmt := top 21
theorem sc__law_is_end : FnScope ["_law_text", "_law_body", "_law_sign_here"] ["_law_text"] (defScope s__law_is_end) := ⟨rfl, rfl, rfl, by decide +kernel, rfl, by decide +kernel, by decide +kernel⟩
abbrev s__law_end_of : Stmt := top 22
theorem sc__law_end_of : FnScope ["_law_text"] ["_law_text"] (defScope s__law_end_of) := ⟨rfl, rfl, rfl, by decide +kernel, rfl, by decide +kernel, by decide +kernel⟩
abbrev s__law_due : Stmt := top 23
theorem sc__law_due : FnScope ["_law_text", "_law_size", "_law_k", "_law_piece", "_law_low", "_law_dots", "_law_high"] ["_law_text"] (defScope s__law_due) := ⟨rfl, rfl, rfl, by decide +kernel, rfl, by decide +kernel, by decide +kernel⟩
abbrev s__law_read : Stmt := top 24
theorem sc__law_read : FnScope ["_law_text", "_law_stretch", "e"] ["_law_text"] (defScope s__law_read) := ⟨rfl, rfl, rfl, by decide +kernel, rfl, by decide +kernel, by decide +kernel⟩
abbrev s_law : Stmt := top 25
theorem sc_law : FnScope ["_law_script", "_law_draws", "_law_turn", "_law_text", "_law_due_here"] ["_law_script"] (defScope s_law) := ⟨rfl, rfl, rfl, by decide +kernel, rfl, by decide +kernel, by decide +kernel⟩
structure Txt (K : PySem.W.Frag) (mg : Str → Option Value) where
  f_TurnedStretch___init__ : Addr
  d_TurnedStretch___init__ : FuncData
  F_TurnedStretch___init__ : Fun K "__init__" "TurnedStretch.__init__" s_TurnedStretch___init__ f_TurnedStretch___init__ d_TurnedStretch___init__
  b_TurnedStretch___init__ : Binds K d_TurnedStretch___init__ ["self", "low", "high"] []
  f_BadText___init__ : Addr
  d_BadText___init__ : FuncData
  F_BadText___init__ : Fun K "__init__" "BadText.__init__" s_BadText___init__ f_BadText___init__ d_BadText___init__
  b_BadText___init__ : Binds K d_BadText___init__ ["self", "place"] []
  f_Stretch___init__ : Addr
  d_Stretch___init__ : FuncData
  F_Stretch___init__ : Fun K "__init__" "Stretch.__init__" s_Stretch___init__ f_Stretch___init__ d_Stretch___init__
  b_Stretch___init__ : Binds K d_Stretch___init__ ["self", "low", "high"] []
  f_number_end : Addr
  d_number_end : FuncData
  F_number_end : Fun K "number_end" "number_end" s_number_end f_number_end d_number_end
  b_number_end : Binds K d_number_end ["text", "place"] []
  g_number_end : mg "number_end" = some (.ref f_number_end)
  f_end_number : Addr
  d_end_number : FuncData
  F_end_number : Fun K "end_number" "end_number" s_end_number f_end_number d_end_number
  b_end_number : Binds K d_end_number ["text", "first", "last"] []
  g_end_number : mg "end_number" = some (.ref f_end_number)
  f_scan_stretch : Addr
  d_scan_stretch : FuncData
  F_scan_stretch : Fun K "scan_stretch" "scan_stretch" s_scan_stretch f_scan_stretch d_scan_stretch
  b_scan_stretch : Binds K d_scan_stretch ["text", "place"] []
  g_scan_stretch : mg "scan_stretch" = some (.ref f_scan_stretch)
  f_read_stretch : Addr
  d_read_stretch : FuncData
  F_read_stretch : Fun K "read_stretch" "read_stretch" s_read_stretch f_read_stretch d_read_stretch
  b_read_stretch : Binds K d_read_stretch ["text"] []
  g_read_stretch : mg "read_stretch" = some (.ref f_read_stretch)
  f__law_begin : Addr
  d__law_begin : FuncData
  F__law_begin : Fun K "_law_begin" "_law_begin" s__law_begin f__law_begin d__law_begin
  b__law_begin : Binds K d__law_begin ["_law_script"] []
  g__law_begin : mg "_law_begin" = some (.ref f__law_begin)
  f__law_draw : Addr
  d__law_draw : FuncData
  F__law_draw : Fun K "_law_draw" "_law_draw" s__law_draw f__law_draw d__law_draw
  b__law_draw : Binds K d__law_draw ["_law_draws", "_law_many"] []
  g__law_draw : mg "_law_draw" = some (.ref f__law_draw)
  f__law_sign : Addr
  d__law_sign : FuncData
  F__law_sign : Fun K "_law_sign" "_law_sign" s__law_sign f__law_sign d__law_sign
  b__law_sign : Binds K d__law_sign ["_law_draws"] []
  g__law_sign : mg "_law_sign" = some (.ref f__law_sign)
  f__law_short_end : Addr
  d__law_short_end : FuncData
  F__law_short_end : Fun K "_law_short_end" "_law_short_end" s__law_short_end f__law_short_end d__law_short_end
  b__law_short_end : Binds K d__law_short_end ["_law_draws"] []
  g__law_short_end : mg "_law_short_end" = some (.ref f__law_short_end)
  f__law_odd_end : Addr
  d__law_odd_end : FuncData
  F__law_odd_end : Fun K "_law_odd_end" "_law_odd_end" s__law_odd_end f__law_odd_end d__law_odd_end
  b__law_odd_end : Binds K d__law_odd_end ["_law_draws"] []
  g__law_odd_end : mg "_law_odd_end" = some (.ref f__law_odd_end)
  f__law_spoilt : Addr
  d__law_spoilt : FuncData
  F__law_spoilt : Fun K "_law_spoilt" "_law_spoilt" s__law_spoilt f__law_spoilt d__law_spoilt
  b__law_spoilt : Binds K d__law_spoilt ["_law_draws", "_law_text"] []
  g__law_spoilt : mg "_law_spoilt" = some (.ref f__law_spoilt)
  f__law_any_text : Addr
  d__law_any_text : FuncData
  F__law_any_text : Fun K "_law_any_text" "_law_any_text" s__law_any_text f__law_any_text d__law_any_text
  b__law_any_text : Binds K d__law_any_text ["_law_draws"] []
  g__law_any_text : mg "_law_any_text" = some (.ref f__law_any_text)
  f__law_is_end : Addr
  d__law_is_end : FuncData
  F__law_is_end : Fun K "_law_is_end" "_law_is_end" s__law_is_end f__law_is_end d__law_is_end
  b__law_is_end : Binds K d__law_is_end ["_law_text"] []
  g__law_is_end : mg "_law_is_end" = some (.ref f__law_is_end)
  f__law_end_of : Addr
  d__law_end_of : FuncData
  F__law_end_of : Fun K "_law_end_of" "_law_end_of" s__law_end_of f__law_end_of d__law_end_of
  b__law_end_of : Binds K d__law_end_of ["_law_text"] []
  g__law_end_of : mg "_law_end_of" = some (.ref f__law_end_of)
  f__law_due : Addr
  d__law_due : FuncData
  F__law_due : Fun K "_law_due" "_law_due" s__law_due f__law_due d__law_due
  b__law_due : Binds K d__law_due ["_law_text"] []
  g__law_due : mg "_law_due" = some (.ref f__law_due)
  f__law_read : Addr
  d__law_read : FuncData
  F__law_read : Fun K "_law_read" "_law_read" s__law_read f__law_read d__law_read
  b__law_read : Binds K d__law_read ["_law_text"] []
  g__law_read : mg "_law_read" = some (.ref f__law_read)
  f_law : Addr
  d_law : FuncData
  F_law : Fun K "law" "law" s_law f_law d_law
  b_law : Binds K d_law ["_law_script"] []
  g_law : mg "law" = some (.ref f_law)
  z_abs : mg "abs" = none
  z_int : mg "int" = none
  z_isinstance : mg "isinstance" = none
  z_len : mg "len" = none
  z_min : mg "min" = none
  z_range : mg "range" = none
  z_repr : mg "repr" = none
  z_str : mg "str" = none
  C_WindowError : Addr
  C_TurnedStretch : Addr
  C_BadText : Addr
  C_Stretch : Addr
  g_WindowError : mg "WindowError" = some (.ref C_WindowError)
  g_TurnedStretch : mg "TurnedStretch" = some (.ref C_TurnedStretch)
  ox_TurnedStretch : OexC K C_TurnedStretch
  xf_TurnedStretch : XfC K C_TurnedStretch
  iC_TurnedStretch : PySem.W.findIn K (.ref C_TurnedStretch) "__init__" = some (some (.ref f_TurnedStretch___init__))
  tI_TurnedStretch : PySem.W.typeIn K (.ref f_TurnedStretch___init__) = some (.type "function")
  nf_TurnedStretch_low : PySem.W.findIn K (.ref C_TurnedStretch) "low" = some none
  nf_TurnedStretch_high : PySem.W.findIn K (.ref C_TurnedStretch) "high" = some none
  em_TurnedStretch_TurnedStretch : PySem.W.exmOne K (.ref C_TurnedStretch) (.ref C_TurnedStretch) = some true
  is_TurnedStretch_TurnedStretch : PySem.W.isIn K (.ref C_TurnedStretch) C_TurnedStretch = true
  g_BadText : mg "BadText" = some (.ref C_BadText)
  ox_BadText : OexC K C_BadText
  xf_BadText : XfC K C_BadText
  iC_BadText : PySem.W.findIn K (.ref C_BadText) "__init__" = some (some (.ref f_BadText___init__))
  tI_BadText : PySem.W.typeIn K (.ref f_BadText___init__) = some (.type "function")
  nf_BadText_place : PySem.W.findIn K (.ref C_BadText) "place" = some none
  em_BadText_BadText : PySem.W.exmOne K (.ref C_BadText) (.ref C_BadText) = some true
  is_BadText_BadText : PySem.W.isIn K (.ref C_BadText) C_BadText = true
  em_BadText_WindowError : PySem.W.exmOne K (.ref C_BadText) (.ref C_WindowError) = some true
  is_BadText_WindowError : PySem.W.isIn K (.ref C_BadText) C_WindowError = true
  g_Stretch : mg "Stretch" = some (.ref C_Stretch)
  c_Stretch : Cls K C_Stretch
  m_Stretch : Mk K C_Stretch f_Stretch___init__
  nf_Stretch_low : NoAttr K C_Stretch "low"
  nf_Stretch_high : NoAttr K C_Stretch "high"
  ca_Stretch : PySem.W.findIn K (.ref C_Stretch) "__class__" = some (some (.builtin "object.__class__"))
  cn_Stretch : PySem.W.specialIn K (.builtin "object.__class__") "__get__" = some (some (.builtin "getset_descriptor.__get__"))
  ct_Stretch : PySem.W.takesIn K (.builtin "object.__class__") = some true
  cm_Stretch : PySem.W.mroIn K C_Stretch (.type "object") = some true
  t_DIGITS : Tok
  g_DIGITS : mg "DIGITS" = some (.str "0123456789" t_DIGITS)
  t_MOST_DIGITS : Tok
  g_MOST_DIGITS : mg "MOST_DIGITS" = some (.int 13 t_MOST_DIGITS)
theorem kit_self {K : PySem.W.Frag} {v : Value} : PySem.W.kitOne K v v = some true := by
  unfold PySem.W.kitOne
  rw [if_pos (beq_self_eq_true v)]
theorem app_len (x y : Str) : (x ++ y).length = x.length + y.length := by
  show (x.cps ++ y.cps).size = _
  rw [Array.size_append]
  rfl
theorem emp_app (x : Str) : Str.empty ++ x = x := by
  cases x with
  | mk c =>
    show Str.mk (#[] ++ c) = _
    rw [Array.empty_append]
theorem r_js3 {σ : L2.St} {H : Hp} {Q : Str → Hp → Prop} {i j : Nat} {a b c : Str} (h1 : σ[i]? = some (some (.str a))) (h2 : σ[j]? = some (some (.str c))) (hl : a.length + b.length + c.length ≤ 10000) (q : Q (a ++ b ++ c) H) : tJs [tFmt (tVar i), tC (.str b), tFmt (tVar j)] Str.empty σ H Q := by
  have hs : 10000 ≤ sizeLine := by decide
  refine ⟨.str a, h1, .inl ⟨a, rfl, by omega, a, rfl, ?_, b, rfl, ?_, .str c, h2, .inl ⟨c, rfl, by omega, c, rfl, ?_, ?_⟩⟩⟩
  · rw [emp_app]; omega
  · rw [emp_app, app_len]; omega
  · rw [emp_app, app_len, app_len]; omega
  · rw [emp_app]; exact q
def spNumEnd : Sp := fun vs H Q _ => ∃ (a : List Nat) (p : Nat), vs = [.str (SX.S a), .int p] ∧ a.length ≤ 100000 ∧ Q (.int ((p + numLen (a.drop p) : Nat) : Int)) H
def spEndNum : Sp := fun vs H Q _ => ∃ (a : List Nat) (f l : Nat), vs = [.str (SX.S a), .int f, .int l] ∧ a.length ≤ 100000 ∧ f ≤ l ∧ l ≤ a.length ∧ (f < l → NumOk ((a.drop f).take (l - f))) ∧ Q (endV (rdE ((a.drop f).take (l - f)))) H
def spScan : Sp := fun vs H Q _ => ∃ (a : List Nat) (p : Nat), vs = [.str (SX.S a), .int p] ∧ a.length ≤ 100000 ∧ p ≤ a.length ∧
  (scanO (a.drop p) = none → Q .non H) ∧ (∀ lo hi n, scanO (a.drop p) = some (lo, hi, n) → ∀ t H', H t = none → H' t = some (.tup [endV lo, endV hi, .int ((p + n : Nat) : Int)]) → Same H H' → Q (.ref t) H')
def placeF (n : Nat) : List (Str × V) := [("place", .int n)]
def spBInit (C : Addr) : Sp := fun vs H Q _ => ∃ (a : Addr) (n : Nat), vs = [.ref a, .int n] ∧ H a = some (exo a C none) ∧
  ∀ (dx : Addr) (H' : Hp), H dx = none → H' a = some (exo a C (some dx)) → H' dx = some (exd dx (placeF n)) → (∀ b o, H b = some o → b ≠ a → H' b = some o) → Q .non H'
theorem s_dash : ("-" : Str) = SX.S [45] := by decide +kernel
theorem s_zero : ("0" : Str) = SX.S [48] := by decide +kernel
theorem s_dots : (".." : Str) = SX.S [46, 46] := by decide +kernel
theorem dg_mem (c : Nat) : decide (c ∈ ("0123456789" : Str).cps.toList) = isDg c := by
  have e : ("0123456789" : Str).cps.toList = [48, 49, 50, 51, 52, 53, 54, 55, 56, 57] := by decide +kernel
  rw [e, Bool.eq_iff_iff, decide_eq_true_iff, isDg_iff]
  simp only [List.mem_cons, List.mem_nil_iff, or_false]
  omega
def spReadF (C CB : Addr) : Sp := fun vs H Q E => ∃ (a : List Nat), vs = [.str (SX.S a)] ∧ a.length ≤ 100000 ∧
  (scanO a = none → ∀ (d : Addr) (H' : Hp), H' d = some (.xd (placeF 0)) → Same H H' → E (.ref CB) (some d) H') ∧
  (∀ lo hi n, scanO a = some (lo, hi, n) → n < a.length → ∀ (d : Addr) (H' : Hp), H' d = some (.xd (placeF n)) → Same H H' → E (.ref CB) (some d) H') ∧
  (∀ lo hi n, scanO a = some (lo, hi, n) → ¬ n < a.length → (turnedB lo hi = true → ∀ (d : Addr) (H' : Hp), H' d = some (.xd (placeF 0)) → Same H H' → E (.ref CB) (some d) H') ∧ (turnedB lo hi = false → ∀ x H', H x = none → Same H H' → StrAt C H' x lo hi → Q (.ref x) H'))
/-! ### ends and stretches at the beginning of a text: plain law of k15 -/
def bodyD (d : List Nat) : Bool := !d.isEmpty && decide (d.length ≤ 13) && d.all isDg && (decide (d.length = 1) || !decide (d.head? = some 48))
def isEndB : List Nat → Bool
  | [] => true
  | c :: r => if c = 45 then bodyD r && !decide (r = [48]) else bodyD (c :: r)
theorem isEnd_neg {r : List Nat} : isEndB (45 :: r) = (bodyD r && !decide (r = [48])) := by
  show (if (45 : Nat) = 45 then (bodyD r && !decide (r = [48])) else bodyD (45 :: r)) = _
  rw [if_pos rfl]
theorem isEnd_pos {c : Nat} {r : List Nat} (h : c ≠ 45) : isEndB (c :: r) = bodyD (c :: r) := if_neg h
theorem bodyD_cons {c : Nat} {r : List Nat} (h : bodyD (c :: r) = true) : r.length ≤ 12 ∧ NumText.AllDigits (c :: r) ∧ (c = 48 → r = []) := by
  unfold bodyD at h
  simp only [Bool.and_eq_true, Bool.or_eq_true, decide_eq_true_eq, List.all_eq_true, Bool.not_eq_true', decide_eq_false_iff_not] at h
  obtain ⟨⟨⟨_, h1⟩, h2⟩, h3⟩ := h
  rw [List.length_cons] at h1 h3
  refine ⟨by omega, fun x hx => isDg_iff.mp (h2 x hx), fun z => ?_⟩
  rcases h3 with h3 | h3
  · exact List.length_eq_zero_iff.mp (by omega)
  · exact absurd (by rw [z]; rfl) h3
theorem bodyD_of {c : Nat} {r : List Nat} (h1 : r.length ≤ 12) (h2 : NumText.AllDigits (c :: r)) (h3 : c = 48 → r = []) : bodyD (c :: r) = true := by
  unfold bodyD
  simp only [Bool.and_eq_true, Bool.or_eq_true, decide_eq_true_eq, List.all_eq_true, Bool.not_eq_true', decide_eq_false_iff_not]
  refine ⟨⟨⟨rfl, by rw [List.length_cons]; omega⟩, fun x hx => isDg_iff.mpr (h2 x hx)⟩, ?_⟩
  by_cases z : c = 48
  · rw [h3 z]; exact .inl rfl
  · exact .inr fun y => z (by injection y)
theorem bodyD_nil : bodyD [] = false := rfl
theorem runD_ge : ∀ {n : Nat} {d r : List Nat}, NumText.AllDigits d → d.length ≤ n → d.length ≤ runD n (d ++ r)
  | n, [], r, _, _ => Nat.zero_le _
  | 0, c :: d, r, _, h => absurd h (Nat.not_succ_le_zero _)
  | n + 1, c :: d, r, hd, h => by
    rw [List.cons_append, runD_yes (isDg_iff.mpr (hd c List.mem_cons_self)), List.length_cons]
    exact Nat.succ_le_succ (runD_ge (fun x hx => hd x (List.mem_cons_of_mem _ hx)) (Nat.le_of_succ_le_succ h))
theorem numLen_ge {t r : List Nat} (h : isEndB t = true) : t.length ≤ numLen (t ++ r) := by
  cases t with
  | nil => exact Nat.zero_le _
  | cons c d =>
    by_cases e : c = 45
    · subst e
      rw [isEnd_neg, Bool.and_eq_true] at h
      obtain ⟨h1, h2⟩ := h
      have h2 : ¬ d = [48] := by simpa using h2
      cases d with
      | nil => cases h1
      | cons x d =>
        obtain ⟨l1, dg, z⟩ := bodyD_cons h1
        have nx : x ≠ 48 := fun y => h2 (by rw [y, z y])
        have sg : sgnLen (45 :: x :: d ++ r) = 1 := if_pos rfl
        have rn := runD_ge (n := 13) (r := r) dg (by rw [List.length_cons]; omega)
        rw [List.length_cons] at rn
        have dr : (45 :: x :: d ++ r).drop 1 = x :: d ++ r := rfl
        unfold numLen
        rw [sg, dr, if_neg (fun y => nx (by have y : some x = some 48 := y; injection y)), if_pos (by omega), List.length_cons, List.length_cons]
        omega
    · rw [isEnd_pos e] at h
      obtain ⟨l1, dg, z⟩ := bodyD_cons h
      have sg : sgnLen (c :: d ++ r) = 0 := if_neg fun y => e (by have y : some c = some 45 := y; injection y)
      unfold numLen
      rw [sg, List.drop_zero]
      by_cases c8 : c = 48
      · rw [if_pos (by rw [c8]; rfl), if_neg (Nat.lt_irrefl 0), z c8]
        exact Nat.le_refl _
      · have rn := runD_ge (n := 13) (r := r) dg (by rw [List.length_cons]; omega)
        rw [List.length_cons] at rn
        rw [if_neg (fun y => c8 (by have y : some c = some 48 := y; injection y)), if_pos (by omega), List.length_cons]
        omega
theorem numLen_end (s : List Nat) : isEndB (s.take (numLen s)) = true := by
  have h2 := runD_le 13 (s.drop (sgnLen s))
  have h3 := runD_digits 13 (s.drop (sgnLen s))
  unfold numLen
  by_cases c1 : (s.drop (sgnLen s)).head? = some 48
  · rw [if_pos c1]
    by_cases c2 : 0 < sgnLen s
    · rw [if_pos c2]
      rfl
    · rw [if_neg c2]
      rw [show sgnLen s = 0 by omega, List.drop_zero] at c1
      cases s with
      | nil => cases c1
      | cons x r =>
        cases c1
        rfl
  · rw [if_neg c1]
    by_cases c2 : 0 < runD 13 (s.drop (sgnLen s))
    · rw [if_pos c2]
      by_cases c3 : s.head? = some 45
      · have e : sgnLen s = 1 := if_pos c3
        cases s with
        | nil => cases c3
        | cons x r =>
          cases c3
          rw [e] at h2 h3 c1 c2 ⊢
          rw [List.drop_succ_cons, List.drop_zero] at h2 h3 c1 c2 ⊢
          rw [Nat.add_comm, List.take_succ_cons]
          cases r with
          | nil => rw [runD_nil] at c2; exact absurd c2 (Nat.lt_irrefl 0)
          | cons y r =>
            obtain ⟨k, hk⟩ : ∃ k, runD 13 (y :: r) = k + 1 := ⟨runD 13 (y :: r) - 1, by omega⟩
            rw [hk] at h2 h3 ⊢
            rw [List.take_succ_cons] at h3 ⊢
            have ny : y ≠ 48 := fun z => c1 (by rw [z]; rfl)
            rw [isEnd_neg, bodyD_of (by rw [List.length_take]; omega) h3 (fun z => absurd z ny), decide_eq_false (fun z => ny (by injection z))]
            rfl
      · have e : sgnLen s = 0 := if_neg c3
        rw [e] at h2 h3 c1 c2 ⊢
        rw [List.drop_zero] at h2 h3 c1 c2 ⊢
        rw [Nat.zero_add]
        cases s with
        | nil => rw [runD_nil] at c2; exact absurd c2 (Nat.lt_irrefl 0)
        | cons y r =>
          obtain ⟨k, hk⟩ : ∃ k, runD 13 (y :: r) = k + 1 := ⟨runD 13 (y :: r) - 1, by omega⟩
          rw [hk] at h2 h3 ⊢
          rw [List.take_succ_cons] at h3 ⊢
          have ny : y ≠ 48 := fun z => c1 (by rw [z]; rfl)
          have n5 : y ≠ 45 := fun z => c3 (by rw [z]; rfl)
          rw [isEnd_pos n5]
          exact bodyD_of (by rw [List.length_take]; omega) h3 fun z => absurd z ny
    · rw [if_neg c2]
      rfl
theorem end_no46 {t : List Nat} (h : isEndB t = true) : 46 ∉ t := by
  cases t with
  | nil => exact List.not_mem_nil
  | cons c d =>
    by_cases e : c = 45
    · subst e
      rw [isEnd_neg, Bool.and_eq_true] at h
      cases d with
      | nil => cases h.1
      | cons x d =>
        obtain ⟨l1, dg, z⟩ := bodyD_cons h.1
        intro hm
        rcases List.mem_cons.mp hm with y | y
        · cases y
        · have := dg 46 y
          omega
    · rw [isEnd_pos e] at h
      obtain ⟨l1, dg, z⟩ := bodyD_cons h
      intro hm
      have := dg 46 hm
      omega
theorem numLen_at {t r : List Nat} (h : isEndB t = true) : numLen (t ++ 46 :: r) = t.length := by
  have h1 := numLen_ge (r := 46 :: r) h
  have h2 := end_no46 (numLen_end (t ++ 46 :: r))
  rcases Nat.lt_or_ge t.length (numLen (t ++ 46 :: r)) with c | c
  · refine absurd ?_ h2
    have e : ((t ++ 46 :: r).take (numLen (t ++ 46 :: r)))[t.length]? = some 46 := by
      rw [List.getElem?_take, if_pos c, List.getElem?_append_right (Nat.le_refl _), Nat.sub_self]
      rfl
    exact List.mem_of_getElem? e
  · omega
theorem par_eq {S : List Nat} (hS : ∀ l, TL.pre S l = true → l = S ++ l.drop S.length) : ∀ {r acc x y : List Nat}, TL.par S acc r = some (x, y) → acc ++ r = x ++ (S ++ y)
  | [], acc, x, y, h => by cases h
  | c :: r, acc, x, y, h => by
    unfold TL.par at h
    split at h
    · next e =>
      injection h with h
      injection h with h1 h2
      rw [h1, ← h2]
      congr 1
      exact hS _ e
    · have := par_eq hS h
      rw [← this, List.append_assoc]
      rfl
/-- the two ends of a text that is a stretch -/
def fitP (s : List Nat) : Option (List Nat × List Nat) := match TL.par [46, 46] [] s with
  | some (p, q) => if isEndB p = true ∧ isEndB q = true then some (p, q) else none
  | none => none
theorem pre_eq {S l : List Nat} (h : TL.pre S l = true) : l = S ++ l.drop S.length := by
  unfold TL.pre at h
  have e : l.take S.length = S := by simpa using h
  have := List.take_append_drop S.length l
  rw [e] at this
  exact this.symm
theorem fit_eq {s p q : List Nat} (h : fitP s = some (p, q)) : s = p ++ 46 :: 46 :: q ∧ isEndB p = true ∧ isEndB q = true ∧ TL.par [46, 46] [] s = some (p, q) := by
  unfold fitP at h
  split at h
  · next p' q' e =>
    split at h
    · next c =>
      injection h with h
      injection h with h1 h2
      subst h1
      subst h2
      exact ⟨par_eq (S := [46, 46]) (fun l hl => pre_eq hl) e, c.1, c.2, e⟩
    · cases h
  · cases h
theorem fit_of {p q : List Nat} (h1 : isEndB p = true) (h2 : isEndB q = true) : fitP (p ++ 46 :: 46 :: q) = some (p, q) := by
  unfold fitP
  have e := TL.par_part1 (S := [46]) (rest := q) (acc := []) (end_no46 h1)
  rw [List.nil_append] at e
  have e : TL.par [46, 46] [] (p ++ 46 :: 46 :: q) = some (p, q) := e
  rw [e]
  show (if isEndB p = true ∧ isEndB q = true then some (p, q) else none) = _
  rw [if_pos ⟨h1, h2⟩]
theorem fit_scan {s p q : List Nat} {m : Nat} (hm : m ≤ s.length) (h : fitP (s.take m) = some (p, q)) : ∃ lo hi n, scanO s = some (lo, hi, n) ∧ m ≤ n := by
  obtain ⟨e, h1, h2, _⟩ := fit_eq h
  have es : s = p ++ 46 :: (46 :: (q ++ s.drop m)) := by
    have := List.take_append_drop m s
    rw [e, List.append_assoc] at this
    exact this.symm
  have na : numLen s = p.length := by
    rw [es]
    exact numLen_at h1
  have d1 : s.drop p.length = 46 :: (46 :: (q ++ s.drop m)) := by
    have y := congrArg (List.drop p.length) es
    rw [List.drop_left] at y
    exact y
  have d2 : s.drop (p.length + 2) = q ++ s.drop m := by
    rw [← List.drop_drop, d1]
    rfl
  have lm : m = p.length + 2 + q.length := by
    have := congrArg List.length e
    rw [List.length_take, Nat.min_eq_left hm, List.length_append, List.length_cons, List.length_cons] at this
    omega
  refine ⟨_, _, _, if_pos (by rw [na, d1]; rfl), ?_⟩
  rw [na, d2]
  have := numLen_ge (r := s.drop m) h2
  omega
theorem scan_fit {s : List Nat} {lo hi : Option Int} {n : Nat} (h : scanO s = some (lo, hi, n)) : ∃ p q, fitP (s.take n) = some (p, q) ∧ lo = rdE p ∧ hi = rdE q ∧ n ≤ 30 ∧ 2 ≤ n ∧ n ≤ s.length ∧ (p ≠ [] → NumOk p) ∧ (q ≠ [] → NumOk q) := by
  unfold scanO at h
  split at h
  · next c =>
    injection h with h
    injection h with h1 h
    injection h with h2 h3
    have l1 := numLen_le s
    have l2 := numLen_le (s.drop (numLen s + 2))
    have lc : numLen s + 2 ≤ s.length := by
      have := congrArg List.length c
      rw [List.length_take, List.length_drop] at this
      have : min 2 (s.length - numLen s) = 2 := this
      omega
    rw [List.length_drop] at l2
    refine ⟨s.take (numLen s), (s.drop (numLen s + 2)).take (numLen (s.drop (numLen s + 2))), ?_, h1.symm, h2.symm, by omega, by omega, by omega, fun z => numLen_ok ?_, fun z => numLen_ok ?_⟩
    · have e : s.take n = s.take (numLen s) ++ 46 :: 46 :: (s.drop (numLen s + 2)).take (numLen (s.drop (numLen s + 2))) := by
        rw [← h3, List.take_add, List.take_add, c, List.append_assoc]
        rfl
      rw [e]
      exact fit_of (numLen_end _) (numLen_end _)
    · rcases Nat.eq_zero_or_pos (numLen s) with y | y
      · rw [y] at z; exact absurd rfl z
      · exact y
    · rcases Nat.eq_zero_or_pos (numLen (s.drop (numLen s + 2))) with y | y
      · rw [y] at z; exact absurd rfl z
      · exact y
  · cases h
theorem scan_max {s : List Nat} {lo hi : Option Int} {n m : Nat} (h : scanO s = some (lo, hi, n)) (h1 : n < m) (h2 : m ≤ s.length) : fitP (s.take m) = none := by
  cases e : fitP (s.take m) with
  | none => rfl
  | some x =>
    obtain ⟨p, q⟩ := x
    obtain ⟨lo', hi', n', h', le⟩ := fit_scan h2 e
    rw [h] at h'
    cases h'
    omega
theorem scan_none {s : List Nat} {m : Nat} (h : scanO s = none) (h2 : m ≤ s.length) : fitP (s.take m) = none := by
  cases e : fitP (s.take m) with
  | none => rfl
  | some x =>
    obtain ⟨p, q⟩ := x
    obtain ⟨lo', hi', n', h', le⟩ := fit_scan h2 e
    rw [h] at h'
    cases h'
local macro_rules | `(tactic| wtm_at "rd1") => `(tactic| with_reducible first
  | refine r_seq ?_ | refine r_next ?_ | refine r_asg ?_ | refine r_drop ?_ | refine r_ret ?_ | refine r_ifs ?_ | refine r_gname ?_ | refine r_gsub ?_ | refine r_gcons ?_ | refine r_gnil ?_
  | refine r_var rfl ?_ | refine r_c ?_ | refine r_op ?_ | refine r_un ?_ | refine r_I0 ?_ | refine r_U ?_ | refine r_test ?_ | refine r_tB ?_ | refine r_bl ?_
  | refine r_and ?_ | refine r_or ?_ | refine r_not ?_ | refine r_andV ?_ | refine r_orV ?_ | refine r_notV ?_ | refine r_ife ?_
  | refine r_eqI ?_ | refine r_neI ?_ | refine r_eqB ?_ | refine r_neB ?_ | refine r_eqS ?_ | refine r_neS ?_
  | refine r_nil ?_ | refine r_cons ?_ | refine r_cb ?_ | refine r_call ?_ | refine r_lst ?_ | refine r_tup ?_ | refine r_int1 ?_ | refine r_intB ?_ | refine r_abs1 ?_ | refine r_bm ?_ | refine r_sl ?_ | refine r_np ?_ | refine r_pt ?_ | refine r_pti ?_ | refine r_lc ?_ | refine r_il ?_ | refine r_it ?_ | refine r_rng1 ?_ | refine r_rng2 ?_ | refine r_callN ?_ | refine r_fld ?_ | refine r_sfld ?_ | refine r_meth ?_ | refine r_make ?_ | refine r_aug rfl ?_ | refine r_ipI ?_ | refine r_par ?_ | refine r_par3 ?_ | refine r_two ?_ | refine r_three ?_)
local macro_rules | `(tactic| wtm_at "ixs") => `(tactic| first
  | ((with_reducible show rIxL _ (V.ref _) (V.int _) _ _); refine r_ixL (.inl (.inl (by assumption))) (by first | rfl | exact ati_n (by omega) | exact ati_int (by omega) (by omega)) ?_)
  | ((with_reducible show rIxT _ (V.ref _) (V.int _) _ _); refine r_ixT (.inl (.inl (by assumption))) (by first | rfl | exact ati_n (by omega) | exact ati_int (by omega) (by omega)) ?_))
local macro_rules | `(tactic| wtm_at "rd") => `(tactic| repeat first | wtm_at "rd1" | wtm_at "ixs")
local macro_rules | `(tactic| wtm_at "rdi") => `(tactic| repeat' (first | wtm_at "rd1" | wtm_at "ixs" | with_reducible refine iteT ?_ | with_reducible refine iteF ?_ | with_reducible refine iteNT ?_ | with_reducible refine iteNF ?_ | with_reducible refine r_ite (fun _ => ?_) (fun _ => ?_) | with_reducible refine r_iten (fun _ => ?_) (fun _ => ?_)))
local macro_rules | `(tactic| wtm_at "rd1") => `(tactic| with_reducible first
  | refine r_binS ?_ | refine r_makeS ?_ | refine r_makeKS ?_ | refine r_xf ?_ | refine r_ost ?_ | refine r_isNi ?_ | refine r_isNn ?_ | refine r_isNr ?_ | refine r_notNi ?_ | refine r_notNn ?_ | refine r_notNr ?_ | refine r_isNe ?_ | refine r_notNe ?_)
local macro_rules | `(tactic| wtm_at "rd1") => `(tactic| with_reducible refine r_callS ?_)
local macro_rules | `(tactic| wtm_at "rd1") => `(tactic| with_reducible refine r_star ?_)
local macro_rules | `(tactic| wtm_at "rd1") => `(tactic| with_reducible first | refine r_din ?_ | refine r_dput ?_ | refine r_chain ?_ | refine r_is ?_ | refine r_iss ?_)
local macro_rules | `(tactic| wtm_at "rd1") => `(tactic| with_reducible first | refine RF.r_tM1v ?_ | refine RF.r_isS ?_)
section
variable {P : Program} {w : World} {K : PySem.W.Frag} {mg : Str → Option Value} {base : Heap}
theorem ok__law_draw (T : Txt K mg) : FnOk P w K mg base CX0 1 T.f__law_draw T.d__law_draw ["_law_draws", "_law_many"] spDraw := by
  refine T.F__law_draw.ok sc__law_draw (fun vs H Q E h => ?_) (fun cdv A outer s H vs Q E hr h => ?_)
  · obtain ⟨d, c, r, m, rfl, _⟩ := h
    rfl
  · obtain ⟨d, c, r, m, rfl, D, m0, m1, q⟩ := h
    obtain ⟨dc, dr, cr, ns, rs, t, h1, h2, h3, hl, hp, ht, hn⟩ := D
    refine ⟨_, (pss_cons (ps_set (i := 2) sc__law_draw.nd rfl (by first | exact Or.inl rfl | exact Or.inr rfl) (pe_ix (r := rIxL K) ix_list (pv 0) pe_int (fun _ _ => rfl)))
      (pss_cons (ps_set (i := 3) sc__law_draw.nd rfl (by first | exact Or.inl rfl | exact Or.inr rfl) (pe_ix (r := rIxL K) ix_list (pv 0) pe_int (fun _ _ => rfl)))
      (pss_cons (ps_set (i := 4) sc__law_draw.nd rfl (by first | exact Or.inl rfl | exact Or.inr rfl) (pe_ix (r := rIxL K) ix_list (pv 0) pe_int (fun _ _ => rfl)))
      (pss_cons (ps_asg (pe_op op_add (pv 4) pe_int) (pg_sub (pv 0) pe_int set_list))
      (pss_cons (ps_set (i := 5) sc__law_draw.nd rfl (by first | exact Or.inl rfl | exact Or.inr rfl) (pe_op op_mod (pe_callTy c_int1 (by rfl) T.z_int (by decide +kernel) (pa_cons (pv 4) pa_nil)) (pe_callB (r := rLenL K) (id := "len") c_len (by rfl) T.z_len (by decide +kernel) (pa_cons (pv 2) pa_nil))))
      (pss_cons (ps_if (pt_cmpR op_gt (pe_ix (r := rIxL K) ix_list (pv 3) (pv 5) (fun _ _ => rfl)) pe_int (nomark _)) (pss_cons (ps_set (i := 6) sc__law_draw.nd rfl (by first | exact Or.inl rfl | exact Or.inr rfl) (pe_op op_mod (pe_callTy c_int1 (by rfl) T.z_int (by decide +kernel) (pa_cons (pe_ix (r := rIxL K) ix_list (pv 3) (pv 5) (fun _ _ => rfl)) pa_nil)) (pv 1)))
      (pss_cons (ps_asg (pe_op op_fdivW (pe_ix (r := rIxL K) ix_list (pv 3) (pv 5) (fun _ _ => rfl)) (pv 1)) (pg_sub (pv 3) (pv 5) set_list))
      (pss_one (ps_ret (pv 6))))) pss_nil)
      (pss_cons (ps_set (i := 7) sc__law_draw.nd rfl (by first | exact Or.inl rfl | exact Or.inr rfl) (pe_op op_mod (pe_callTy c_int1 (by rfl) T.z_int (by decide +kernel) (pa_cons (pe_op op_mul (pe_op op_add (pe_op op_mod (pe_callTy c_int1 (by rfl) T.z_int (by decide +kernel) (pa_cons (pe_ix (r := rIxL K) ix_list (pv 2) (pv 5) (fun _ _ => rfl)) pa_nil)) pe_int) pe_int) (pe_op op_add (pv 4) pe_int)) pa_nil)) pe_int))
      (pss_cons (ps_set (i := 8) sc__law_draw.nd rfl (by first | exact Or.inl rfl | exact Or.inr rfl) (pe_op op_add (pe_op op_mod (pe_callTy c_int1 (by rfl) T.z_int (by decide +kernel) (pa_cons (pe_ix (r := rIxL K) ix_list (pv 2) (pv 5) (fun _ _ => rfl)) pa_nil)) pe_int) (pe_op op_mul pe_int (pv 4))))
      (pss_cons (ps_set (i := 9) sc__law_draw.nd rfl (by first | exact Or.inl rfl | exact Or.inr rfl) (pe_op op_mod (pe_callTy c_int1 (by rfl) T.z_int (by decide +kernel) (pa_cons (pe_op op_add (pe_op op_add (pe_op op_mul (pv 7) (pv 7)) (pe_op op_mul pe_int (pv 7))) (pv 8)) pa_nil)) pe_int))
      (pss_cons (ps_set (i := 10) sc__law_draw.nd rfl (by first | exact Or.inl rfl | exact Or.inr rfl) (pe_op op_add (pe_op op_mul (pe_op op_mod (pe_callTy c_int1 (by rfl) T.z_int (by decide +kernel) (pa_cons (pv 9) pa_nil)) pe_int) pe_int) (pe_op op_mul (pe_op op_fdivW (pv 9) pe_int) pe_int)))
      (pss_cons (ps_set (i := 11) sc__law_draw.nd rfl (by first | exact Or.inl rfl | exact Or.inr rfl) (pe_op op_mod (pe_callTy c_int1 (by rfl) T.z_int (by decide +kernel) (pa_cons (pe_op op_add (pv 10) (pv 7)) pa_nil)) pe_int))
      (pss_cons (ps_if (pt_cmpR op_le (pv 1) pe_int (nomark _)) (pss_one (ps_ret (pe_op op_mod (pe_callTy c_int1 (by rfl) T.z_int (by decide +kernel) (pa_cons (pv 11) pa_nil)) (pv 1)))) pss_nil)
      (pss_one (ps_ret (pe_op op_mod (pe_callTy c_int1 (by rfl) T.z_int (by decide +kernel) (pa_cons (pe_op op_add (pe_op op_mul (pv 11) pe_int) (pv 9)) pa_nil)) (pv 1)))))))))))))))), ?_⟩
    try simp only [nox_K, cx_K]
    wtm_at "rd"
    refine r_setL (n := 2) h1 rfl ?_
    have g1 : (upd H d (.lst ([.ref c, .ref r, .int t].set 2 (.int (t + 1))))) d = some (.lst [.ref c, .ref r, .int (t + 1)]) := upd_same
    have g2 : (upd H d (.lst ([.ref c, .ref r, .int t].set 2 (.int (t + 1))))) c = some (.lst (ns.map V.int)) := (upd_ne dc.symm).trans h2
    have g3 : (upd H d (.lst ([.ref c, .ref r, .int t].set 2 (.int (t + 1))))) r = some (.lst (rs.map V.int)) := (upd_ne dr.symm).trans h3
    have e1 : Ext d r H (upd H d (.lst ([.ref c, .ref r, .int t].set 2 (.int (t + 1))))) := fun b o e n1 n2 => (upd_ne n1).trans e
    revert g1 g2 g3 e1
    generalize (upd H d (.lst ([.ref c, .ref r, .int t].set 2 (.int (t + 1))))) = H1
    intro g1 g2 g3 e1
    wtm_at "rd"
    refine r_lenI g2 ?_
    refine r_mod (by omega) fun at_ a0 a1 _ => ?_
    wtm_at "rd"
    refine r_ite (fun c1 => ?_) (fun c1 => ?_)
    · wtm_at "rd"
      refine r_mod m0 fun k k0 k1 _ => ?_
      wtm_at "rd"
      refine r_fdiv m0 m1 fun z z0 _ => ?_
      wtm_at "rd"
      refine r_setL g3 (ixn_in a0 (by rw [List.length_map]; omega)) ?_
      wtm_at "rd"
      refine q k _ k0 k1 ⟨dc, dr, cr, ns, rs.set at_.toNat z, t + 1, (upd_ne dr).trans g1, (upd_ne cr).trans g2, ?_, ?_, hp, by omega, ?_⟩ (fun b o e n1 n2 => (upd_ne n2).trans (e1 b o e n1 n2))
      · rw [upd_same, List.map_set]
      · rw [List.length_set]; exact hl
      · intro x hx
        rcases List.mem_or_eq_of_mem_set hx with e | e
        · exact hn x e
        · rw [e]; exact z0 (by omega)
    · wtm_at "rd"
      refine r_mod (by decide) fun x1 l1 u1 _ => ?_
      wtm_at "rd"
      refine r_mul (.inl ⟨by omega, by omega⟩) fun x2 _ => ?_
      wtm_at "rd"
      refine r_mod (by decide) fun first f0 f1 _ => ?_
      wtm_at "rd"
      refine r_mod (by decide) fun x3 l3 u3 _ => ?_
      wtm_at "rd"
      refine r_mul (.inl ⟨by omega, by omega⟩) fun x4 _ => ?_
      wtm_at "rd"
      refine r_mul (.inl ⟨by omega, by omega⟩) fun x5 _ => ?_
      wtm_at "rd"
      refine r_mul (.inl ⟨by omega, by omega⟩) fun x6 _ => ?_
      wtm_at "rd"
      refine r_mod (by decide) fun second s0 s1 _ => ?_
      wtm_at "rd"
      refine r_mod (by decide) fun x7 l7 u7 _ => ?_
      wtm_at "rd"
      refine r_mul (.inl ⟨by omega, by omega⟩) fun x8 _ => ?_
      wtm_at "rd"
      refine r_fdiv (by decide) (by decide) fun x9 _ _ => ?_
      wtm_at "rd"
      refine r_mul (.inr ⟨by omega, by omega⟩) fun x10 _ => ?_
      wtm_at "rd"
      refine r_mod (by decide) fun third t0 t1 _ => ?_
      wtm_at "rd"
      refine r_ite (fun c2 => ?_) (fun c2 => ?_)
      · wtm_at "rd"
        refine r_mod m0 fun k k0 k1 _ => ?_
        exact q k _ k0 k1 ⟨dc, dr, cr, ns, rs, t + 1, g1, g2, g3, hl, hp, by omega, hn⟩ e1
      · wtm_at "rd"
        refine r_mul (.inl ⟨by omega, by omega⟩) fun x11 _ => ?_
        wtm_at "rd"
        refine r_mod m0 fun k k0 k1 _ => ?_
        exact q k _ k0 k1 ⟨dc, dr, cr, ns, rs, t + 1, g1, g2, g3, hl, hp, by omega, hn⟩ e1
theorem ok__law_begin (T : Txt K mg) : FnOk P w K mg base CX0 1 T.f__law_begin T.d__law_begin ["_law_script"] (spBegin K) := by
  refine T.F__law_begin.ok sc__law_begin (fun vs H Q E h => ?_) (fun cdv A outer s H vs Q E hr h => ?_)
  · obtain ⟨a, ns, rfl, _⟩ := h
    rfl
  obtain ⟨a, ns, rfl, hS, hlen, q⟩ := h
  refine ⟨_, (pss_cons (ps_setLc (i := 1) (own := [("_law_cell", 3)]) (g := gName 3) (tt := tYes) rfl sc__law_begin.nd rfl rfl (sw_true rfl rfl rfl (by decide +kernel)) (pi_list (pe_slice sl_list (pv 0) po_none (po_some pe_int))) (blkOk_by (N := ["_law_script", "_law_cells", "_law_rests", "_law_cell"]) (sc := defScope s__law_begin) (by decide +kernel)) (fun _ _ _ _ _ => pg_name (i := 3) sc__law_begin.nd rfl (by first | exact Or.inl rfl | exact Or.inr rfl)) (fun _ _ _ _ _ => pts_nil) (fun _ _ _ _ _ => (pe_callTy c_int1 (by rfl) T.z_int (by decide +kernel) (pa_cons (pv 3) pa_nil))))
      (C8.pss_cut (ps_if (pt_cmpR op_eq (pe_callB (r := rLenL K) (id := "len") c_len (by rfl) T.z_len (by decide +kernel) (pa_cons (pv 1) pa_nil)) pe_int (nomark _)) (pss_one (ps_set (i := 1) sc__law_begin.nd rfl (by first | exact Or.inl rfl | exact Or.inr rfl) (pe_lst (pa_cons pe_int pa_nil)))) pss_nil)
      (pss_cons (ps_setLc (i := 2) (own := [("_law_cell", 3)]) (g := gName 3) (tt := tYes) rfl sc__law_begin.nd rfl rfl (sw_true rfl rfl rfl (by decide +kernel)) (pi_list (pv 1)) (blkOk_by (N := ["_law_script", "_law_cells", "_law_rests", "_law_cell"]) (sc := defScope s__law_begin) (by decide +kernel)) (fun _ _ _ _ _ => pg_name (i := 3) sc__law_begin.nd rfl (by first | exact Or.inl rfl | exact Or.inr rfl)) (fun _ _ _ _ _ => pts_nil) (fun _ _ _ _ _ => (pe_op op_mul (pe_callB c_abs (by rfl) T.z_abs (by decide +kernel) (pa_cons (pv 3) pa_nil)) (pe_callTy c_intB (by rfl) T.z_int (by decide +kernel) (pa_cons (pe_cmpR op_ge (pe_callB c_abs (by rfl) T.z_abs (by decide +kernel) (pa_cons (pv 3) pa_nil)) (pe_op op_pow pe_int pe_int) (nomark _)) pa_nil)))))
      (pss_one (ps_ret (pe_lst (pa_cons (pv 1) (pa_cons (pv 2) (pa_cons pe_int pa_nil))))))))), ?_⟩
  try simp only [nox_K, cx_K]
  wtm_at "rd"
  refine r_slL hS fun p np => ?_
  have s1 : Same H (upd H p (.lst (cutV (ns.map V.int) none (some 63)))) := same_new np
  have e0 : cutV (ns.map V.int) none (some 63) = ns.map V.int := cut_none (n := 63) (by rw [List.length_map]; exact hlen)
  rw [e0] at s1 ⊢
  have hp : (upd H p (.lst (ns.map V.int))) p = some (.lst (ns.map V.int)) := upd_same
  refine r_itl (SqL.of hp) ?_
  refine lc_map (fun x => x) (SqL.of hp) (by rw [List.length_map]; omega) (fun x H' QQ hx s' hQ => ?_) (fun c nc => ?_)
  · obtain ⟨y, _, rfl⟩ := List.mem_map.mp hx
    wtm_at "rd"
    exact hQ
  have s2 := s1.trans (same_new (o := .lst ((ns.map V.int).map fun x => x)) nc)
  have hc : (upd (upd H p (.lst (ns.map V.int))) c (.lst ((ns.map V.int).map fun x => x))) c = some (.lst (ns.map V.int)) := by rw [upd_same, List.map_id']
  revert s2 hc
  generalize (upd (upd H p (.lst (ns.map V.int))) c (.lst ((ns.map V.int).map fun x => x))) = H2
  intro s2 hc
  wtm_at "rd"
  refine ⟨fun σ H1 => ∃ (c : Addr) (ms : List Int) (x3 : Option V), σ = [some (.ref a), some (.ref c), none, x3] ∧ H1 c = some (.lst (ms.map V.int)) ∧ 0 < ms.length ∧ ms.length ≤ 63 ∧ Same H H1 ∧ H c = none, ?_, ?_⟩
  · wtm_at "rd"
    refine r_lenI hc ?_
    wtm_at "rd"
    refine r_ite (fun e => ?_) (fun e => ?_)
    · wtm_at "rd"
      refine r_new rfl fun c2 nc2 => ?_
      wtm_at "rd"
      exact ⟨c2, [0], _, rfl, upd_same, by decide, by decide, s2.trans (same_new nc2), s2.free nc2⟩
    · wtm_at "rd"
      exact ⟨c, ns, _, rfl, hc, by omega, hlen, s2, s1.free nc⟩
  rintro σ H1 ⟨c, ms, x3, rfl, hc, h0, h63, s1, nc⟩
  wtm_at "rd"
  refine r_itl (SqL.of hc) ?_
  refine lc_map restOf (SqL.of hc) (by rw [List.length_map]; omega) (fun x H' QQ hx s' hQ => ?_) (fun r nr => ?_)
  · obtain ⟨y, _, rfl⟩ := List.mem_map.mp hx
    wtm_at "rd"
    refine r_I ⟨by decide, by decide, by decide⟩ ?_
    wtm_at "rd"
    exact r_I (.inr bit_ok) hQ
  have s2 : Same H1 (upd H1 r (.lst ((ms.map V.int).map restOf))) := same_new nr
  wtm_at "rd"
  refine r_new rfl fun d nd => ?_
  have hd : H d = none := (s1.trans s2).free nd
  have hcr : c ≠ r := ne_of_none hc nr
  have hdc : d ≠ c := (ne_of_none (s2 _ _ hc) nd).symm
  have hdr : d ≠ r := (ne_of_none (upd_same (H := H1) (a := r)) nd).symm
  refine q d c r _ ⟨hdc, hdr, hcr, ms, ms.map restI, 0, upd_same, ?_, ?_, ?_, h0, by decide, ?_⟩ ((s1.trans s2).trans (same_new nd)) hd nc (s1.free nr)
  · rw [upd_ne hdc.symm]; exact s2 _ _ hc
  · rw [upd_ne hdr.symm, upd_same, rest_map]
  · rw [List.length_map]
  · intro x hx
    obtain ⟨y, _, rfl⟩ := List.mem_map.mp hx
    exact rest_nn y

theorem str_ty (T : Txt K mg) {H : Hp} {p : Addr} {lo hi : Option Int} (h : StrAt T.C_Stretch H p lo hi) : TyX K H (.ref p) (.ref T.C_Stretch) := by
  obtain ⟨dx, e⟩ := h
  exact .base (.ins e T.c_Stretch T.ca_Stretch T.cn_Stretch T.ct_Stretch T.cm_Stretch)
section
variable {H : Hp} {p : Addr} {lo hi : Option Int} {F : V → Prop}
theorem r_low (T : Txt K mg) (o : StrAt T.C_Stretch H p lo hi) (h : F (endV lo)) : ∃ a C dx fs v, V.ref p = .ref a ∧ H a = some (.ins C dx fs) ∧ Cls K C ∧ NoAttr K C "low" ∧ fs.lookup ("low" : Str) = some v ∧ F v := by
  obtain ⟨dx, e⟩ := o
  exact r_get e T.c_Stretch T.nf_Stretch_low (str_low lo hi) h
theorem r_high (T : Txt K mg) (o : StrAt T.C_Stretch H p lo hi) (h : F (endV hi)) : ∃ a C dx fs v, V.ref p = .ref a ∧ H a = some (.ins C dx fs) ∧ Cls K C ∧ NoAttr K C "high" ∧ fs.lookup ("high" : Str) = some v ∧ F v := by
  obtain ⟨dx, e⟩ := o
  exact r_get e T.c_Stretch T.nf_Stretch_high (str_high lo hi) h
theorem r_low1 {a : Int} (T : Txt K mg) (o : StrAt T.C_Stretch H p (some a) hi) (h : F (.int a)) : ∃ a C dx fs v, V.ref p = .ref a ∧ H a = some (.ins C dx fs) ∧ Cls K C ∧ NoAttr K C "low" ∧ fs.lookup ("low" : Str) = some v ∧ F v := r_low T o h
theorem r_low0 (T : Txt K mg) (o : StrAt T.C_Stretch H p none hi) (h : F .non) : ∃ a C dx fs v, V.ref p = .ref a ∧ H a = some (.ins C dx fs) ∧ Cls K C ∧ NoAttr K C "low" ∧ fs.lookup ("low" : Str) = some v ∧ F v := r_low T o h
theorem r_high1 {b : Int} (T : Txt K mg) (o : StrAt T.C_Stretch H p lo (some b)) (h : F (.int b)) : ∃ a C dx fs v, V.ref p = .ref a ∧ H a = some (.ins C dx fs) ∧ Cls K C ∧ NoAttr K C "high" ∧ fs.lookup ("high" : Str) = some v ∧ F v := r_high T o h
theorem r_high0 (T : Txt K mg) (o : StrAt T.C_Stretch H p lo none) (h : F .non) : ∃ a C dx fs v, V.ref p = .ref a ∧ H a = some (.ins C dx fs) ∧ Cls K C ∧ NoAttr K C "high" ∧ fs.lookup ("high" : Str) = some v ∧ F v := r_high T o h
end
theorem ok_TurnedStretch___init__ (T : Txt K mg) : FnOk P w K mg base CX0 1 T.f_TurnedStretch___init__ T.d_TurnedStretch___init__ ["self", "low", "high"] (spTInit T.C_TurnedStretch) := by
  refine T.F_TurnedStretch___init__.ok sc_TurnedStretch___init__ (fun vs H Q E h => ?_) (fun cdv A outer s H vs Q E hr h => ?_)
  · obtain ⟨a, lo, hi, rfl, _⟩ := h
    rfl
  obtain ⟨a, lo, hi, rfl, ha, q⟩ := h
  refine ⟨_, (pss_cons (ps_ost (pv 0) (pv 1))
      (pss_one (ps_ost (pv 0) (pv 2)))), ?_⟩
  try simp only [nox_K, cx_K]
  wtm_at "rd"
  refine ⟨a, _, rfl, T.ox_TurnedStretch, T.nf_TurnedStretch_low, .inl ⟨ha, fun dx nd ne => ?_⟩⟩
  wtm_at "rd"
  refine ⟨a, _, rfl, T.ox_TurnedStretch, T.nf_TurnedStretch_high, .inr ⟨dx, [("low", endV lo)], upd_same, ?_, Nat.le_of_ble_eq_true rfl, ?_⟩⟩
  · rw [upd_ne ne, upd_same]
  wtm_at "rd"
  refine q dx _ nd ?_ upd_same fun b o e nb => ?_
  · rw [upd_ne ne.symm, upd_same]
  · rw [upd_ne (ne_of_none e nd), upd_ne nb, upd_ne (ne_of_none e nd)]
    exact e
theorem raise_turned {C : Addr} {lo hi : Option Int} {H : Hp} {Q : XK} (h : ∀ (d : Addr) (H' : Hp), H d = none → H' d = some (.xd (turnF lo hi)) → Same H H' → Q (.ref C) (some d) H') :
    ∀ a, H a = none → spTInit C (.ref a :: ([endV lo, endV hi] ++ [])) (upd H a (exo a C none)) (fun v H2 => v = .non ∧ ∃ (d : Addr) (fs : List (Str × V)), H2 a = some (exo a C (some d)) ∧ H2 d = some (exd d fs) ∧ H d = none ∧ Q (.ref C) (some d) (upd (del H2 a) d (.xd fs))) (fun _ _ _ => False) := by
  intro a na
  refine ⟨a, lo, hi, rfl, upd_same, fun dx H' nd ha hd hk => ⟨rfl, dx, turnF lo hi, ha, hd, (same_new na).free nd, ?_⟩⟩
  have nda : dx ≠ a := (ne_of_none (upd_same (H := H) (a := a) (o := exo a C none)) nd).symm
  refine h dx _ ((same_new na).free nd) upd_same fun b o e => ?_
  have nb : b ≠ a := ne_of_none e na
  rw [upd_ne (ne_of_none e ((same_new na).free nd)), del_ne nb]
  exact hk b o (by rw [upd_ne nb]; exact e) nb
theorem ok_Stretch___init__ (T : Txt K mg) : FnOk P w K mg base (L2N.CX P w) 4 T.f_Stretch___init__ T.d_Stretch___init__ ["self", "low", "high"] (spSInit T.C_Stretch T.C_TurnedStretch) := by
  refine RF.okXN T.F_Stretch___init__ sc_Stretch___init__ (fun vs H Q E h => ?_) (fun cdv A outer s H vs Q E hr h => ?_)
  · obtain ⟨p, dx, lo, hi, rfl, _⟩ := h
    rfl
  obtain ⟨p, dx, lo, hi, rfl, hp, qE, q⟩ := h
  refine ⟨_, (pss_cons (ps_if (PW.pt (pw_and (pt_cmpR o_notN (pv 1) pe_non (nomark _)) (pw_and (pt_cmpR o_notN (pv 2) pe_non (nomark _)) (pw_and1 (pt_cmpR op_gt (pv 1) (pv 2) (nomark _)))))) (pss_one (L2N.ps_raise rfl (L2N.takes_of rfl rfl rfl rfl) (RF.pmk_oexN T.ox_TurnedStretch T.iC_TurnedStretch T.tI_TurnedStretch (ok_TurnedStretch___init__ T) (hr.mono (by decide)) T.b_TurnedStretch___init__ .nil pass0 (by rfl) T.g_TurnedStretch (pa_cons (pv 1) (pa_cons (pv 2) pa_nil))))) pss_nil)
      (pss_cons (ps_fld (pv 0) (pv 1) rfl)
      (pss_one (ps_fld (pv 0) (pv 2) rfl)))), ?_⟩
  try simp only [nox_K, cx_K]
  cases lo with
  | none =>
    cases hi with
    | none =>
      simp only [endV]
      wtm_at "rdi"
      refine r_put hp T.c_Stretch T.nf_Stretch_low (by decide) ?_
      wtm_at "rd"
      refine r_put upd_same T.c_Stretch T.nf_Stretch_high (Nat.lt_of_le_of_lt (putF_len _ _ _) (by decide)) ?_
      wtm_at "rd"
      refine q rfl _ ⟨dx, upd_same⟩ fun b o e nb => ?_
      rw [upd_ne nb, upd_ne nb]
      exact e
    | some b =>
      simp only [endV]
      wtm_at "rdi"
      refine r_put hp T.c_Stretch T.nf_Stretch_low (by decide) ?_
      wtm_at "rd"
      refine r_put upd_same T.c_Stretch T.nf_Stretch_high (Nat.lt_of_le_of_lt (putF_len _ _ _) (by decide)) ?_
      wtm_at "rd"
      refine q rfl _ ⟨dx, upd_same⟩ fun b o e nb => ?_
      rw [upd_ne nb, upd_ne nb]
      exact e
  | some a =>
    cases hi with
    | none =>
      simp only [endV]
      wtm_at "rdi"
      refine r_put hp T.c_Stretch T.nf_Stretch_low (by decide) ?_
      wtm_at "rd"
      refine r_put upd_same T.c_Stretch T.nf_Stretch_high (Nat.lt_of_le_of_lt (putF_len _ _ _) (by decide)) ?_
      wtm_at "rd"
      refine q rfl _ ⟨dx, upd_same⟩ fun b o e nb => ?_
      rw [upd_ne nb, upd_ne nb]
      exact e
    | some b =>
      simp only [endV]
      wtm_at "rdi"
      · refine ⟨.int a, rfl, .int b, rfl, Nat.le_of_ble_eq_true rfl, raise_turned (lo := some a) (hi := some b) fun d H' nd hd s => ?_⟩
        exact qE (decide_eq_true (by assumption)) d H' nd hd s
      · skip
        refine r_put hp T.c_Stretch T.nf_Stretch_low (by decide) ?_
        wtm_at "rd"
        refine r_put upd_same T.c_Stretch T.nf_Stretch_high (Nat.lt_of_le_of_lt (putF_len _ _ _) (by decide)) ?_
        wtm_at "rd"
        refine q (decide_eq_false (by assumption)) _ ⟨dx, upd_same⟩ fun b o e nb => ?_
        rw [upd_ne nb, upd_ne nb]
        exact e
end
section
variable {P : Program} {w : World} {K : PySem.W.Frag} {mg : Str → Option Value} {base : Heap}
theorem raise_place {C : Addr} {n : Nat} {H : Hp} {Q : XK} (h : ∀ (d : Addr) (H' : Hp), H' d = some (.xd (placeF n)) → Same H H' → Q (.ref C) (some d) H') :
    ∀ a, H a = none → spBInit C (.ref a :: ([V.int n] ++ [])) (upd H a (exo a C none)) (fun v H2 => v = .non ∧ ∃ (d : Addr) (fs : List (Str × V)), H2 a = some (exo a C (some d)) ∧ H2 d = some (exd d fs) ∧ H d = none ∧ Q (.ref C) (some d) (upd (del H2 a) d (.xd fs))) (fun _ _ _ => False) := by
  intro a na
  refine ⟨a, n, rfl, upd_same, fun dx H' nd ha hd hk => ⟨rfl, dx, _, ha, hd, (same_new na).free nd, ?_⟩⟩
  refine h dx _ upd_same fun b o e => ?_
  have nb : b ≠ a := ne_of_none e na
  rw [upd_ne (ne_of_none e ((same_new na).free nd)), del_ne nb]
  exact hk b o (by rw [upd_ne nb]; exact e) nb
theorem ok_BadText___init__ (T : Txt K mg) : FnOk P w K mg base CX0 1 T.f_BadText___init__ T.d_BadText___init__ ["self", "place"] (spBInit T.C_BadText) := by
  refine T.F_BadText___init__.ok sc_BadText___init__ (fun vs H Q E h => ?_) (fun cdv A outer s H vs Q E hr h => ?_)
  · obtain ⟨a, n, rfl, _⟩ := h
    rfl
  obtain ⟨a, n, rfl, ha, q⟩ := h
  refine ⟨_, (pss_one (ps_ost (pv 0) (pv 1))), ?_⟩
  try simp only [nox_K, cx_K]
  wtm_at "rd"
  refine ⟨a, _, rfl, T.ox_BadText, T.nf_BadText_place, .inl ⟨ha, fun dx nd ne => ?_⟩⟩
  wtm_at "rd"
  refine q dx _ nd upd_same ?_ fun b o e nb => ?_
  · rw [upd_ne ne, upd_same]
    rfl
  · rw [upd_ne nb, upd_ne (ne_of_none e nd)]
    exact e
theorem ok_number_end (T : Txt K mg) : FnOk P w K mg base CX0 1 T.f_number_end T.d_number_end ["text", "place"] spNumEnd := by
  refine T.F_number_end.ok sc_number_end (fun vs H Q E h => ?_) (fun cdv A outer s H vs Q E hr h => ?_)
  · obtain ⟨a, p, rfl, _⟩ := h
    rfl
  obtain ⟨a, p, rfl, hl, q⟩ := h
  refine ⟨_, (pss_cons (ps_set (i := 2) sc_number_end.nd rfl (by first | exact Or.inl rfl | exact Or.inr rfl) (pv 1))
      (C8.pss_cut (ps_if (pt_cmpR op_eq (pe_slice sl_str (pv 0) (po_some (pv 1)) (po_some (pe_op op_add (pv 1) pe_int))) pe_str (nomark _)) (pss_one (ps_set (i := 2) sc_number_end.nd rfl (by first | exact Or.inl rfl | exact Or.inr rfl) (pe_op op_add (pv 1) pe_int))) pss_nil)
      (pss_cons (ps_if (pt_cmpR op_eq (pe_slice sl_str (pv 0) (po_some (pv 2)) (po_some (pe_op op_add (pv 2) pe_int))) pe_str (nomark _)) (pss_one (ps_ret (pe_ifExp (pt_cmpR op_gt (pv 2) (pv 1) (nomark _)) (pv 1) (pe_op op_add (pv 2) pe_int)))) pss_nil)
      (pss_cons (ps_set (i := 3) sc_number_end.nd rfl (by first | exact Or.inl rfl | exact Or.inr rfl) (pv 2))
      (pss_cons (ps_while PassesOwn.never (PW.pt (pw_and (pt_cmpR op_lt (pv 3) (pe_callB call_len_str (by rfl) T.z_len (by decide +kernel) (pa_cons (pv 0) pa_nil)) (nomark _)) (pw_and (pt_cmpR op_lt (pe_op op_sub (pv 3) (pv 2)) (pe_glob (v := .int 13) rfl T.g_MOST_DIGITS ⟨_, rfl⟩) (nomark _)) (pw_and1 (pt_cmpR op_in_sign (pe_ix ix_str (pv 0) (pv 3) (fun _ _ => rfl)) (pe_glob (v := .str "0123456789") rfl T.g_DIGITS ⟨_, rfl⟩) (by rfl)))))) (pss_one (ps_aug (i := 3) sc_number_end.nd rfl (by first | exact Or.inl rfl | exact Or.inr rfl) pe_int ip_add)))
      (pss_one (ps_ret (pe_ifExp (pt_cmpR op_gt (pv 3) (pv 2) (nomark _)) (pv 3) (pv 1))))))))), ?_⟩
  try simp only [nox_K, cx_K]
  have hz : (SX.S a).length ≤ sizeLine := by rw [SX.S_len]; exact Nat.le_trans hl (by decide)
  wtm_at "rd"
  refine ⟨fun σ H' => σ = [some (.str (SX.S a)), some (.int p), some (.int ((p + sgnLen (a.drop p) : Nat) : Int)), none] ∧ H' = H, ?_, ?_⟩
  · wtm_at "rd"
    refine ⟨_, rfl, hz, ?_⟩
    rw [cut_1, s_dash]
    wtm_at "rd"
    rw [head_cut]
    refine r_ite (fun e1 => ?_) (fun e1 => ?_)
    · wtm_at "rd"
      refine ⟨?_, rfl⟩
      rw [sgnLen, if_pos e1]
      rfl
    · wtm_at "rd"
      refine ⟨?_, rfl⟩
      rw [sgnLen, if_neg e1]
      rfl
  rintro σ H' ⟨rfl, rfl⟩
  have hd : a.drop (p + sgnLen (a.drop p)) = (a.drop p).drop (sgnLen (a.drop p)) := by rw [List.drop_drop]
  unfold numLen at q
  rw [← hd] at q
  revert q hd
  generalize sgnLen (a.drop p) = f
  intro q hd
  wtm_at "rd"
  refine ⟨_, rfl, hz, ?_⟩
  rw [cut_1, s_zero]
  wtm_at "rd"
  rw [head_cut]
  refine r_ite (fun e1 => ?_) (fun e1 => ?_)
  · rw [if_pos e1] at q
    wtm_at "rd"
    refine r_ite (fun e2 => ?_) (fun e2 => ?_)
    · rw [if_pos (by omega)] at q
      wtm_at "rd"
      exact q
    · rw [if_neg (by omega)] at q
      wtm_at "rd"
      rw [show ((p + f : Nat) : Int) + 1 = ((p + 1 : Nat) : Int) by omega]
      exact q
  rw [if_neg e1] at q
  wtm_at "rd"
  refine r_while (fun m σ H'' => ∃ k : Nat, m = 13 - k ∧ k ≤ 13 ∧ p + f + k ≤ p + f + a.length ∧ runD 13 (a.drop (p + f)) = k + runD (13 - k) (a.drop (p + f + k)) ∧ σ = [some (.str (SX.S a)), some (.int p), some (.int ((p + f : Nat) : Int)), some (.int ((p + f + k : Nat) : Int))] ∧ H'' = H') ⟨_, 0, rfl, by decide, by omega, by rw [Nat.zero_add, Nat.sub_zero, Nat.add_zero], rfl, rfl⟩ ?_
  rintro m σ H'' ⟨k, rfl, k13, _, hrun, rfl, rfl⟩
  wtm_at "rd"
  refine ⟨_, rfl, hz, ?_⟩
  wtm_at "rd"
  rw [SX.S_len]
  refine r_ite (fun e2 => ?_) (fun e2 => ?_)
  · wtm_at "rd"
    refine r_ite (fun e3 => ?_) (fun e3 => ?_)
    · have hlt : p + f + k < a.length := by omega
      have hat : atI (SX.S a).cps.toList ((p + f + k : Nat) : Int) = some a[p + f + k] := atI_nat (show a[p + f + k]? = some a[p + f + k] from List.getElem?_eq_getElem hlt)
      have hdr : a.drop (p + f + k) = a[p + f + k] :: a.drop (p + f + (k + 1)) := List.drop_eq_getElem_cons hlt
      rw [hdr] at hrun
      wtm_at "rd"
      refine ⟨SX.S a, _, a[p + f + k], rfl, rfl, hz, hat, ?_⟩
      wtm_at "rd"
      refine ⟨a[p + f + k], _, rfl, rfl, ?_⟩
      wtm_at "rd"
      rw [dg_mem]
      refine r_iteb (fun e5 => ?_) (fun e5 => ?_)
      · refine ⟨fun σ' H' => ∃ m', m' < 13 - k ∧ ∃ k : Nat, m' = 13 - k ∧ k ≤ 13 ∧ p + f + k ≤ p + f + a.length ∧ runD 13 (a.drop (p + f)) = k + runD (13 - k) (a.drop (p + f + k)) ∧ σ' = [some (.str (SX.S a)), some (.int p), some (.int ((p + f : Nat) : Int)), some (.int ((p + f + k : Nat) : Int))] ∧ H' = H'', fun _ _ h => h, ?_⟩
        wtm_at "rd"
        refine ⟨13 - (k + 1), by omega, k + 1, rfl, by omega, by omega, ?_, ?_, rfl⟩
        · rw [hrun, show 13 - k = (13 - (k + 1)) + 1 by omega, runD_yes e5]
          omega
        · rw [show ((p + f + k : Nat) : Int) + 1 = ((p + f + (k + 1) : Nat) : Int) by omega]
          rfl
      · have he : runD 13 (a.drop (p + f)) = k := by rw [hrun, runD_no e5]; omega
        rw [he] at q
        wtm_at "rd"
        refine r_ite (fun e4 => ?_) (fun e4 => ?_)
        · rw [if_pos (by omega)] at q
          wtm_at "rd"
          rw [Nat.add_assoc]
          exact q
        · rw [if_neg (by omega)] at q
          wtm_at "rd"
          exact q
    · have he : runD 13 (a.drop (p + f)) = k := by rw [hrun, show 13 - k = 0 by omega]; show k + 0 = k; omega
      refine iteF ?_
      rw [he] at q
      wtm_at "rd"
      refine r_ite (fun e4 => ?_) (fun e4 => ?_)
      · rw [if_pos (by omega)] at q
        wtm_at "rd"
        rw [Nat.add_assoc]
        exact q
      · rw [if_neg (by omega)] at q
        wtm_at "rd"
        exact q
  · have he : runD 13 (a.drop (p + f)) = k := by rw [hrun, List.drop_eq_nil_of_le (by omega), runD_nil]; omega
    refine iteF ?_
    rw [he] at q
    wtm_at "rd"
    refine r_ite (fun e4 => ?_) (fun e4 => ?_)
    · rw [if_pos (by omega)] at q
      wtm_at "rd"
      rw [Nat.add_assoc]
      exact q
    · rw [if_neg (by omega)] at q
      wtm_at "rd"
      exact q
theorem ok_end_number (T : Txt K mg) : FnOk P w K mg base CX0 1 T.f_end_number T.d_end_number ["text", "first", "last"] spEndNum := by
  refine T.F_end_number.ok sc_end_number (fun vs H Q E h => ?_) (fun cdv A outer s H vs Q E hr h => ?_)
  · obtain ⟨a, f, l, rfl, _⟩ := h
    rfl
  obtain ⟨a, f, l, rfl, hl, h1, h2, h3, q⟩ := h
  refine ⟨_, (pss_cons (ps_if (pt_cmpR op_eq (pv 1) (pv 2) (nomark _)) (pss_one (ps_ret pe_non)) pss_nil)
      (pss_one (ps_ret (pe_callTy call_int_str (by rfl) T.z_int (by decide +kernel) (pa_cons (pe_slice sl_str (pv 0) (po_some (pv 1)) (po_some (pv 2))) pa_nil))))), ?_⟩
  try simp only [nox_K, cx_K]
  have hz : (SX.S a).length ≤ sizeLine := by rw [SX.S_len]; exact Nat.le_trans hl (by decide)
  wtm_at "rd"
  refine r_ite (fun e1 => ?_) (fun e1 => ?_)
  · have e : f = l := by omega
    subst e
    rw [Nat.sub_self, List.take_zero] at q
    wtm_at "rd"
    exact q
  · have hlt : f < l := by omega
    obtain ⟨n1, n2⟩ := h3 hlt
    wtm_at "rd"
    refine ⟨_, rfl, hz, ?_⟩
    rw [cut_ij a h1]
    wtm_at "rd"
    refine ⟨_, _, rfl, n1, by rw [SX.S_len]; exact n2, ?_⟩
    rw [rdE, if_neg] at q
    · exact q
    · intro z
      have := congrArg List.length z
      rw [List.length_take, List.length_drop, List.length_nil] at this
      omega
theorem ok_scan_stretch (T : Txt K mg) : FnOk P w K mg base CX0 2 T.f_scan_stretch T.d_scan_stretch ["text", "place"] spScan := by
  refine T.F_scan_stretch.ok sc_scan_stretch (fun vs H Q E h => ?_) (fun cdv A outer s H vs Q E hr h => ?_)
  · obtain ⟨a, p, rfl, _⟩ := h
    rfl
  obtain ⟨a, p, rfl, hl, hp, qN, q⟩ := h
  refine ⟨_, (pss_cons (ps_set (i := 2) sc_scan_stretch.nd rfl (by first | exact Or.inl rfl | exact Or.inr rfl) (pe_call (ok_number_end T) (hr.mono (by decide)) (by rfl) T.g_number_end T.F_number_end.kp T.b_number_end .nil pass0 (pa_cons (pv 0) (pa_cons (pv 1) pa_nil))))
      (pss_cons (ps_if (pt_cmpR op_ne (pe_slice sl_str (pv 0) (po_some (pv 2)) (po_some (pe_op op_add (pv 2) pe_int))) pe_str (nomark _)) (pss_one (ps_ret pe_non)) pss_nil)
      (pss_cons (ps_set (i := 3) sc_scan_stretch.nd rfl (by first | exact Or.inl rfl | exact Or.inr rfl) (pe_call (ok_number_end T) (hr.mono (by decide)) (by rfl) T.g_number_end T.F_number_end.kp T.b_number_end .nil pass0 (pa_cons (pv 0) (pa_cons (pe_op op_add (pv 2) pe_int) pa_nil))))
      (pss_one (ps_ret (pe_tup (pa_cons (pe_call (ok_end_number T) (hr.mono (by decide)) (by rfl) T.g_end_number T.F_end_number.kp T.b_end_number .nil pass0 (pa_cons (pv 0) (pa_cons (pv 1) (pa_cons (pv 2) pa_nil)))) (pa_cons (pe_call (ok_end_number T) (hr.mono (by decide)) (by rfl) T.g_end_number T.F_end_number.kp T.b_end_number .nil pass0 (pa_cons (pv 0) (pa_cons (pe_op op_add (pv 2) pe_int) (pa_cons (pv 3) pa_nil)))) (pa_cons (pv 3) pa_nil))))))))), ?_⟩
  try simp only [nox_K, cx_K]
  have hz : (SX.S a).length ≤ sizeLine := by rw [SX.S_len]; exact Nat.le_trans hl (by decide)
  have hn := numLen_le (a.drop p)
  rw [List.length_drop] at hn
  wtm_at "rd"
  refine ⟨a, p, rfl, hl, ?_⟩
  wtm_at "rd"
  refine ⟨_, rfl, hz, ?_⟩
  rw [cut_2, s_dots]
  wtm_at "rd"
  have hd : a.drop (p + numLen (a.drop p)) = (a.drop p).drop (numLen (a.drop p)) := by rw [List.drop_drop]
  rw [hd]
  refine r_iten (fun e1 => ?_) (fun e1 => ?_)
  · wtm_at "rd"
    exact qN (if_neg fun z => e1 (congrArg SX.S z))
  have e1 := SX.S_inj e1
  have hsc : scanO (a.drop p) = _ := if_pos e1
  have hd2 : a.drop (p + numLen (a.drop p) + 2) = (a.drop p).drop (numLen (a.drop p) + 2) := by rw [List.drop_drop, Nat.add_assoc]
  have hlen : numLen (a.drop p) + 2 + p ≤ a.length := by
    have := congrArg List.length e1
    rw [List.length_take, List.length_drop, List.length_drop] at this
    have h2 : ([46, 46] : List Nat).length = 2 := rfl
    omega
  have hn2 := numLen_le (a.drop (p + numLen (a.drop p) + 2))
  rw [List.length_drop] at hn2
  have ok1 := numLen_ok (s := a.drop p)
  have ok2 := numLen_ok (s := a.drop (p + numLen (a.drop p) + 2))
  rw [← hd2] at hsc
  revert hsc hn2 ok2
  generalize hm : numLen (a.drop (p + numLen (a.drop p) + 2)) = m
  intro hsc hn2 ok2
  revert hsc hn ok1 hlen ok2 hn2 hm
  generalize numLen (a.drop p) = n
  intro hn hlen ok1 hm hsc hn2 ok2
  wtm_at "rd"
  rw [show ((p + n : Nat) : Int) + 2 = ((p + n + 2 : Nat) : Int) by omega]
  refine ⟨a, p + n + 2, rfl, hl, ?_⟩
  rw [hm]
  wtm_at "rd"
  refine ⟨a, p, p + n, rfl, hl, by omega, by omega, ?_, ?_⟩
  · rw [Nat.add_sub_cancel_left]
    exact fun z => ok1 (by omega)
  rw [Nat.add_sub_cancel_left]
  wtm_at "rd"
  rw [show ((p + n : Nat) : Int) + 2 = ((p + n + 2 : Nat) : Int) by omega]
  refine ⟨a, p + n + 2, p + n + 2 + m, rfl, hl, by omega, by omega, ?_, ?_⟩
  · rw [Nat.add_sub_cancel_left]
    exact fun z => ok2 (by omega)
  rw [Nat.add_sub_cancel_left]
  wtm_at "rd"
  refine r_new rfl fun t nt => ?_
  refine q _ _ _ hsc t _ nt ?_ (same_new nt)
  rw [upd_same, show p + n + 2 + m = p + (n + 2 + m) by omega]
theorem okH_BadText___init__ (T : Txt K mg) : L2H.FnH P w K mg base CX0 1 T.f_BadText___init__ T.d_BadText___init__ ["self", "place"] (spBInit T.C_BadText) := by
  refine RF.okH T.F_BadText___init__ sc_BadText___init__ (fun vs H Q E h => ?_) (fun cdv A outer s H vs Q E p hp hr h => ?_)
  · obtain ⟨a, n, rfl, _⟩ := h
    rfl
  obtain ⟨a, n, rfl, ha, q⟩ := h
  refine ⟨_, (pss_one (ps_ost (pv 0) (pv 1))), ?_⟩
  try simp only [nox_K, cx_K]
  wtm_at "rd"
  refine ⟨a, _, rfl, T.ox_BadText, T.nf_BadText_place, .inl ⟨ha, fun dx nd ne => ?_⟩⟩
  wtm_at "rd"
  refine q dx _ nd upd_same ?_ fun b o e nb => ?_
  · rw [upd_ne ne, upd_same]
    rfl
  · rw [upd_ne nb, upd_ne (ne_of_none e nd)]
    exact e
theorem ok_read_stretch (T : Txt K mg) : FnOk P w K mg base (L2.CX P w) 7 T.f_read_stretch T.d_read_stretch ["text"] (spReadF T.C_Stretch T.C_BadText) := by
  refine T.F_read_stretch.okX sc_read_stretch (fun vs H Q E h => ?_) (fun cdv A outer s H vs Q E hr h => ?_)
  · obtain ⟨a, rfl, _⟩ := h
    rfl
  obtain ⟨a, rfl, hl, q1, q2, q3⟩ := h
  refine ⟨_, (pss_cons (ps_set (i := 1) sc_read_stretch.nd rfl (by first | exact Or.inl rfl | exact Or.inr rfl) (pe_call (ok_scan_stretch T) (hr.mono (by decide)) (by rfl) T.g_scan_stretch T.F_scan_stretch.kp T.b_scan_stretch .nil pass0 (pa_cons (pv 0) (pa_cons pe_int pa_nil))))
      (pss_cons (ps_if (pt_cmpR o_isN (pv 1) pe_non (nomark _)) (pss_one (ps_raise rfl (takes_of rfl rfl rfl rfl) (pmk_oex T.ox_BadText T.iC_BadText T.tI_BadText (ok_BadText___init__ T) (hr.mono (by decide)) T.b_BadText___init__ .nil pass0 (by rfl) T.g_BadText (pa_cons pe_int pa_nil)))) pss_nil)
      (pss_cons (ps_asg (pv 1) (pg_tup (by rfl) (pgs_cons (pg_name (i := 2) sc_read_stretch.nd rfl (by first | exact Or.inl rfl | exact Or.inr rfl)) (pgs_cons (pg_name (i := 3) sc_read_stretch.nd rfl (by first | exact Or.inl rfl | exact Or.inr rfl)) (pgs_cons (pg_name (i := 4) sc_read_stretch.nd rfl (by first | exact Or.inl rfl | exact Or.inr rfl)) pgs_nil)))))
      (pss_cons (ps_if (pt_cmpR op_lt (pv 4) (pe_callB call_len_str (by rfl) T.z_len (by decide +kernel) (pa_cons (pv 0) pa_nil)) (nomark _)) (pss_one (ps_raise rfl (takes_of rfl rfl rfl rfl) (pmk_oex T.ox_BadText T.iC_BadText T.tI_BadText (ok_BadText___init__ T) (hr.mono (by decide)) T.b_BadText___init__ .nil pass0 (by rfl) T.g_BadText (pa_cons (pv 4) pa_nil)))) pss_nil)
      (pss_one (RF.ps_try_asX (i := 5) rfl rfl sc_read_stretch.nd rfl rfl ⟨rfl, by decide, Or.inl T.g_TurnedStretch⟩ (fun hd => L2H.passesAt_of rfl hd) (takes_of rfl rfl rfl rfl) (fun W pn xe tk _ => (pss_one (ps_ret (pe_makeS T.m_Stretch (ok_Stretch___init__ T) (hr.mono (by decide)) (by rfl) T.g_Stretch T.b_Stretch___init__ (fun σ => L2N.passAt tk σ) (pa_cons (pv 2) (pa_cons (pv 3) pa_nil)))))) (fun a oe cls d pn xe hz hf tkS hot => (pss_one (RF.ps_raiseHF (K := K) (i := 5) hot hz hf List.mem_cons_self tkS (L2H.pmk5_oexH T.ox_BadText T.iC_BadText T.tI_BadText (okH_BadText___init__ T) (L2H.roomH_mark (hr.mono (by decide)) _) hot T.b_BadText___init__ pass0 (by rfl) T.g_BadText (pa_cons pe_int pa_nil))))))))))), ?_⟩
  try simp only [nox_K, cx_K]
  have hz : (SX.S a).length ≤ sizeLine := by rw [SX.S_len]; exact Nat.le_trans hl (by decide)
  wtm_at "rd"
  refine ⟨a, 0, rfl, hl, Nat.zero_le _, fun hN => ?_, fun lo hi n hS t H1 nt ht s1 => ?_⟩
  · wtm_at "rdi"
    refine ⟨Nat.le_of_ble_eq_true rfl, raise_place (n := 0) fun d H' hd s => ?_⟩
    exact q1 hN d H' hd s
  rw [List.drop_zero] at hS
  rw [Nat.zero_add] at ht
  wtm_at "rdi"
  refine r_gtup (SqT.of ht) rfl ?_
  wtm_at "rd"
  refine ⟨_, rfl, hz, ?_⟩
  wtm_at "rd"
  rw [SX.S_len]
  refine r_ite (fun e1 => ?_) (fun e1 => ?_)
  · refine ⟨.int n, rfl, Nat.le_of_ble_eq_true rfl, raise_place (n := n) fun d H' hd s => ?_⟩
    exact q2 lo hi n hS (by omega) d H' hd (s1.trans s)
  · obtain ⟨qt, q⟩ := q3 lo hi n hS (by omega)
    wtm_at "rd"
    refine fun x dx nx nd nxd => ⟨x, dx, lo, hi, rfl, upd_same, fun z d H2 nd2 hd2 s2 => ?_, fun z H' ho hk => ⟨rfl, ?_⟩⟩
    · have s3 : Same H1 H2 := fun b o e => s2 b o ((upd_ne (ne_of_none e nx)).trans ((upd_ne (ne_of_none e nd)).trans e))
      refine ⟨true, T.em_TurnedStretch_TurnedStretch, fun _ b nb => ?_, fun y => nomatch y⟩
      wtm_at "rd"
      refine ⟨Nat.le_of_ble_eq_true rfl, raise_place (n := 0) (Q := fun cls d H' => _ ∧ RF.RaisesK K (.ref T.C_TurnedStretch) ∧ E cls d H') fun d3 H3 hd3 s4 => ?_⟩
      exact ⟨rfl, RF.raisesK_own T.ox_TurnedStretch.exC, qt z d3 H3 hd3 ((s1.trans s3).trans s4)⟩
    · exact q z x H' (s1.free nx) (s1.trans (same_make nx nd hk)) ho
end

theorem at_str {z : Str} {k : Int} (h0 : 0 ≤ k) (h1 : k < z.length) : ∃ c, atI z.cps.toList k = some c := by
  have hk : k.toNat < z.cps.toList.length := by
    rw [Array.length_toList]
    show k.toNat < z.length
    omega
  have e : atI z.cps.toList (k.toNat : Int) = some z.cps.toList[k.toNat] := atI_nat (List.getElem?_eq_getElem hk)
  rw [Int.toNat_of_nonneg h0] at e
  exact ⟨_, e⟩
theorem strs_of1 : ∀ {ss : List V}, (∀ x ∈ ss, ∃ z : Str, x = .str z ∧ z.length = 1) → ∃ ys : List Str, ss = ys.map V.str ∧ ∀ y ∈ ys, y.length = 1
  | [], _ => ⟨[], rfl, fun _ h => nomatch h⟩
  | x :: ss, h => by
    obtain ⟨ys, e, hy⟩ := strs_of1 (ss := ss) fun z hz => h z (List.mem_cons_of_mem _ hz)
    obtain ⟨z, rfl, hz⟩ := h x List.mem_cons_self
    refine ⟨z :: ys, by rw [e]; rfl, fun y hy' => ?_⟩
    rcases List.mem_cons.mp hy' with rfl | hy'
    · exact hz
    · exact hy y hy'
theorem len_join : ∀ {ys : List Str}, (∀ y ∈ ys, y.length = 1) → (Str.join "" ys).length = ys.length
  | [], _ => by decide +kernel
  | [x], h => h x List.mem_cons_self
  | x :: y :: r, h => by
    have i2 := len_join (ys := y :: r) fun z hz => h z (List.mem_cons_of_mem _ hz)
    have h2 := h x List.mem_cons_self
    show (x ++ ("" : Str) ++ Str.join "" (y :: r)).length = _
    rw [len_app, len_app, i2, h2]
    show 1 + 0 + (r.length + 1) = r.length + 1 + 1
    omega
def spSign : Sp := fun vs H Q _ => ∃ (d c r : Addr), vs = [.ref d] ∧ Drw H d c r ∧ ∀ (z : Str) (H' : Hp), z.length = 1 → Drw H' d c r → Ext d r H H' → Q (.str z) H'
def spTxt (L : Nat) : Sp := fun vs H Q _ => ∃ (d c r : Addr), vs = [.ref d] ∧ Drw H d c r ∧ ∀ (z : Str) (H' : Hp), z.length ≤ L → Drw H' d c r → Ext d r H H' → Q (.str z) H'
def spSpoilt : Sp := fun vs H Q _ => ∃ (d c r : Addr) (t : Str), vs = [.ref d, .str t] ∧ t.length ≤ 100 ∧ Drw H d c r ∧ ∀ (z : Str) (H' : Hp), z.length ≤ 300 → Drw H' d c r → Ext d r H H' → Q (.str z) H'
theorem int_len {n : Int} (h1 : -(10 ^ 13) ≤ n) (h2 : n ≤ 10 ^ 13) : ((toString n : String) : Str).length ≤ 20 := by
  rw [int_SX, SX.S_len]
  have z : (TL.numL n.natAbs).length ≤ 14 := TL.numL_len (by decide) (by omega)
  unfold intL
  split
  · show (TL.numL n.natAbs).length + 1 ≤ 20
    omega
  · omega
theorem digit_len {n : Int} (h1 : 0 ≤ n) (h2 : n < 10) : ((toString n : String) : Str).length = 1 := by
  obtain rfl | rfl | rfl | rfl | rfl | rfl | rfl | rfl | rfl | rfl : n = 0 ∨ n = 1 ∨ n = 2 ∨ n = 3 ∨ n = 4 ∨ n = 5 ∨ n = 6 ∨ n = 7 ∨ n = 8 ∨ n = 9 := by omega
  all_goals decide +kernel
theorem szl {n : Nat} (h : n ≤ 10000) : n ≤ sizeLine := by rw [sizeLine_eq]; omega
theorem mul_len {x : Str} {n : Nat} (hx : x.length = 1) (hn : n ≤ 5000) : (Txt.mul x (n : Int)).length = n := by
  have e := PyProof.Rows.len_mul x (n : Int)
  rw [hx, if_neg (by simp)] at e
  omega
section
variable {P : Program} {w : World} {K : PySem.W.Frag} {mg : Str → Option Value} {base : Heap}

theorem ok__law_sign (T : Txt K mg) : FnOk P w K mg base CX0 2 T.f__law_sign T.d__law_sign ["_law_draws"] spSign := by
  refine T.F__law_sign.ok sc__law_sign (fun vs H Q E h => ?_) (fun cdv A outer s H vs Q E hr h => ?_)
  · obtain ⟨d, c, r, rfl, _⟩ := h
    rfl
  obtain ⟨d, c, r, rfl, D, q⟩ := h
  refine ⟨_, (pss_cons (ps_set (i := 1) sc__law_sign.nd rfl (by first | exact Or.inl rfl | exact Or.inr rfl) pe_str)
      (pss_cons (ps_set (i := 1) sc__law_sign.nd rfl (by first | exact Or.inl rfl | exact Or.inr rfl) (pe_op op_add_str (pv 1) pe_str))
      (pss_cons (ps_if (pt_cmpR op_eq (pe_call (ok__law_draw T) (hr.mono (by decide)) (by rfl) T.g__law_draw T.F__law_draw.kp T.b__law_draw .nil pass0 (pa_cons (pv 0) (pa_cons pe_int pa_nil))) pe_int (nomark _)) (pss_one (ps_ret (pe_ix ix_str pe_str (pe_call (ok__law_draw T) (hr.mono (by decide)) (by rfl) T.g__law_draw T.F__law_draw.kp T.b__law_draw .nil pass0 (pa_cons (pv 0) (pa_cons pe_int pa_nil))) (fun _ _ => rfl)))) pss_nil)
      (pss_one (ps_ret (pe_ix ix_str (pv 1) (pe_call (ok__law_draw T) (hr.mono (by decide)) (by rfl) T.g__law_draw T.F__law_draw.kp T.b__law_draw .nil pass0 (pa_cons (pv 0) (pa_cons (pe_callB call_len_str (by rfl) T.z_len (by decide +kernel) (pa_cons (pv 1) pa_nil)) pa_nil))) (fun _ _ => rfl))))))), ?_⟩
  try simp only [nox_K, cx_K]
  wtm_at "rd"
  refine ⟨_, _, rfl, rfl, szl (by decide +kernel), ?_⟩
  wtm_at "rd"
  refine ⟨d, c, r, 2, rfl, D, by decide, by decide, fun k H1 k0 k1 D1 E1 => ?_⟩
  wtm_at "rd"
  refine r_ite (fun e1 => ?_) (fun e1 => ?_)
  · wtm_at "rd"
    refine ⟨d, c, r, 14, rfl, D1, by decide, by decide, fun k2 H2 l2 u2 D2 E2 => ?_⟩
    obtain ⟨cc, hc⟩ := at_str (z := ("-.0123456789 a" : Str)) l2 (by have y : ("-.0123456789 a" : Str).length = 14 := (by decide +kernel); rw [y]; exact u2)
    refine ⟨_, k2, cc, rfl, rfl, szl (by decide +kernel), hc, ?_⟩
    exact q _ _ rfl D2 (E1.trans E2)
  · wtm_at "rd"
    refine ⟨_, rfl, szl (by decide +kernel), ?_⟩
    wtm_at "rd"
    refine ⟨d, c, r, _, rfl, D1, by decide +kernel, by decide +kernel, fun k2 H2 l2 u2 D2 E2 => ?_⟩
    obtain ⟨cc, hc⟩ := at_str l2 u2
    refine ⟨_, k2, cc, rfl, rfl, szl (by decide +kernel), hc, ?_⟩
    exact q _ _ rfl D2 (E1.trans E2)
theorem ok__law_short_end (T : Txt K mg) : FnOk P w K mg base CX0 2 T.f__law_short_end T.d__law_short_end ["_law_draws"] (spTxt 20) := by
  refine T.F__law_short_end.ok sc__law_short_end (fun vs H Q E h => ?_) (fun cdv A outer s H vs Q E hr h => ?_)
  · obtain ⟨d, c, r, rfl, _⟩ := h
    rfl
  obtain ⟨d, c, r, rfl, D, q⟩ := h
  refine ⟨_, (pss_cons (ps_set (i := 1) sc__law_short_end.nd rfl (by first | exact Or.inl rfl | exact Or.inr rfl) (pe_call (ok__law_draw T) (hr.mono (by decide)) (by rfl) T.g__law_draw T.F__law_draw.kp T.b__law_draw .nil pass0 (pa_cons (pv 0) (pa_cons pe_int pa_nil))))
      (pss_cons (ps_if (pt_cmpR op_eq (pv 1) pe_int (nomark _)) (pss_one (ps_ret pe_str)) pss_nil)
      (pss_cons (ps_if (pt_cmpR op_lt (pv 1) pe_int (nomark _)) (pss_one (ps_ret (pe_callTy c_strI (by rfl) T.z_str (by decide +kernel) (pa_cons (pe_op op_sub (pe_call (ok__law_draw T) (hr.mono (by decide)) (by rfl) T.g__law_draw T.F__law_draw.kp T.b__law_draw .nil pass0 (pa_cons (pv 0) (pa_cons pe_int pa_nil))) pe_int) pa_nil)))) pss_nil)
      (pss_one (ps_ret (pe_callTy c_strI (by rfl) T.z_str (by decide +kernel) (pa_cons (pe_op op_add (pe_op op_sub (pe_call (ok__law_draw T) (hr.mono (by decide)) (by rfl) T.g__law_draw T.F__law_draw.kp T.b__law_draw .nil pass0 (pa_cons (pv 0) (pa_cons (pe_op op_sub (pe_op op_mul pe_int (pe_op op_pow pe_int pe_int)) pe_int) pa_nil))) (pe_op op_pow pe_int pe_int)) pe_int) pa_nil))))))), ?_⟩
  try simp only [nox_K, cx_K]
  wtm_at "rd"
  refine ⟨d, c, r, 5, rfl, D, by decide, by decide, fun k H1 k0 k1 D1 E1 => ?_⟩
  wtm_at "rd"
  refine r_ite (fun e1 => ?_) (fun e1 => ?_)
  · wtm_at "rd"
    exact q _ _ (by decide +kernel) D1 E1
  wtm_at "rd"
  refine r_ite (fun e2 => ?_) (fun e2 => ?_)
  · wtm_at "rd"
    refine ⟨d, c, r, 25, rfl, D1, by decide, by decide, fun k2 H2 l2 u2 D2 E2 => ?_⟩
    wtm_at "rd"
    refine r_strI (log_ok ⟨by omega, by omega⟩) ?_
    exact q _ _ (int_len (by omega) (by omega)) D2 (E1.trans E2)
  wtm_at "rd"
  refine r_I ⟨by decide, by decide, by decide⟩ ?_
  wtm_at "rd"
  refine r_I (.inl ⟨by decide, by decide⟩) ?_
  wtm_at "rd"
  rw [show (2 : Int) * 10 ^ (13 : Int).toNat - 1 = 19999999999999 by decide]
  refine ⟨d, c, r, _, rfl, D1, by decide, by decide, fun k2 H2 l2 u2 D2 E2 => ?_⟩
  wtm_at "rd"
  refine r_I ⟨by decide, by decide, by decide⟩ ?_
  wtm_at "rd"
  rw [show (10 : Int) ^ (13 : Int).toNat = 10000000000000 by decide]
  refine r_strI (log_ok ⟨by omega, by omega⟩) ?_
  exact q _ _ (int_len (by omega) (by omega)) D2 (E1.trans E2)
theorem ok__law_odd_end (T : Txt K mg) : FnOk P w K mg base CX0 2 T.f__law_odd_end T.d__law_odd_end ["_law_draws"] (spTxt 4500) := by
  refine T.F__law_odd_end.ok sc__law_odd_end (fun vs H Q E h => ?_) (fun cdv A outer s H vs Q E hr h => ?_)
  · obtain ⟨d, c, r, rfl, _⟩ := h
    rfl
  obtain ⟨d, c, r, rfl, D, q⟩ := h
  refine ⟨_, (pss_cons (ps_set (i := 1) sc__law_odd_end.nd rfl (by first | exact Or.inl rfl | exact Or.inr rfl) (pe_join pe_str (pe_lc (own := [("_law_k", 3)]) (g := gName 3) (tt := tYes) rfl sc__law_odd_end.nd (pi_range1 (by rfl) T.z_range (pa_cons pe_int pa_nil)) (blkOk_by (N := ["_law_draws", "_law_long", "_law_some", "_law_k"]) (sc := defScope s__law_odd_end) (by decide +kernel)) (fun _ _ _ _ _ => pg_name (i := 3) sc__law_odd_end.nd rfl (by first | exact Or.inl rfl | exact Or.inr rfl)) (fun _ _ _ _ _ => pts_nil) (fun _ _ _ _ _ => (pe_callTy c_strI (by rfl) T.z_str (by decide +kernel) (pa_cons (pe_call (ok__law_draw T) (hr.mono (by decide)) (by rfl) T.g__law_draw T.F__law_draw.kp T.b__law_draw .nil pass0 (pa_cons (pv 0) (pa_cons pe_int pa_nil))) pa_nil))))))
      (pss_cons (ps_set (i := 2) sc__law_odd_end.nd rfl (by first | exact Or.inl rfl | exact Or.inr rfl) (pe_lst (pa_cons pe_str (pa_cons pe_str (pa_cons pe_str (pa_cons pe_str (pa_cons pe_str (pa_cons (pe_op op_add_str pe_str (pv 1)) (pa_cons (pv 1) (pa_cons (pe_op RF.op_mul_str pe_str pe_int) (pa_cons pe_str (pa_cons (pe_op op_add_str pe_str (pe_op RF.op_mul_str pe_str pe_int)) (pa_cons pe_str (pa_cons pe_str (pa_cons pe_str pa_nil)))))))))))))))
      (pss_cons (ps_set (i := 2) sc__law_odd_end.nd rfl (by first | exact Or.inl rfl | exact Or.inr rfl) (pe_op op_cat (pv 2) (pe_lst (pa_cons pe_str (pa_cons pe_str (pa_cons pe_str pa_nil))))))
      (pss_one (ps_ret (pe_ix (r := rIxL K) ix_list (pv 2) (pe_call (ok__law_draw T) (hr.mono (by decide)) (by rfl) T.g__law_draw T.F__law_draw.kp T.b__law_draw .nil pass0 (pa_cons (pv 0) (pa_cons pe_int pa_nil))) (fun _ _ => rfl))))))), ?_⟩
  try simp only [nox_K, cx_K]
  wtm_at "rd"
  refine r_upto (by decide) (by decide) ?_
  refine lc_drawsG (P := fun v => ∃ z : Str, v = .str z ∧ z.length = 1) (by decide) D (fun i H3 QQ hi D3 E3 hQ => ?_) fun l ss H3 hl hp nl hs D3 E3 => ?_
  · wtm_at "rd"
    refine ⟨d, c, r, 10, rfl, D3, by decide, by decide, fun k3 H4 l4 u4 D4 E4 => ?_⟩
    refine r_strI (log_ok ⟨by omega, by omega⟩) ?_
    exact hQ _ _ ⟨_, rfl, digit_len l4 u4⟩ D4 E4
  obtain ⟨ys, rfl, hy⟩ := strs_of1 hp
  wtm_at "rd"
  rw [List.length_map] at hl
  have hl : ys.length = 13 := hl
  have hsum := sum_ones (ys := ys) hy
  refine ⟨_, l, ys, rfl, rfl, .inl (SqL.of hs), ?_, ?_⟩
  · rw [hsum]
    show ys.length + ys.length * 0 ≤ 16777216
    omega
  have hj := len_join hy
  rw [TL.join_eq]
  revert hj
  generalize Str.join "" ys = lg
  intro hj
  wtm_at "rd"
  refine ⟨_, _, rfl, rfl, szl (by rw [hj, hl]; decide +kernel), ?_⟩
  wtm_at "rd"
  refine ⟨_, 14, rfl, rfl, PyProof.Rows.mulOk_of 1 14 (by decide +kernel) (by decide) (by decide) (by decide) (by decide), ?_⟩
  wtm_at "rd"
  refine ⟨_, 4400, rfl, rfl, PyProof.Rows.mulOk_of 1 4400 (by decide +kernel) (by decide) (by decide) (by decide) (by decide), ?_⟩
  have m1 : (Txt.mul ("9" : Str) 14).length = 14 := mul_len (n := 14) (by decide +kernel) (by decide)
  have m2 : (Txt.mul ("8" : Str) 4400).length = 4400 := mul_len (n := 4400) (by decide +kernel) (by decide)
  revert m1 m2
  generalize Txt.mul ("9" : Str) 14 = n9
  generalize Txt.mul ("8" : Str) 4400 = n8
  intro m1 m2
  wtm_at "rd"
  refine ⟨_, _, rfl, rfl, szl (by rw [m2]; decide +kernel), ?_⟩
  wtm_at "rd"
  refine r_new rfl fun l1 n_l1 => ?_
  generalize eq_l1 : upd _ l1 _ = G1
  have s_l1 : Same _ G1 := eq_l1 ▸ same_new n_l1
  have h_l1 : G1 l1 = some _ := eq_l1 ▸ upd_same
  clear eq_l1
  have D3 := D3.same s_l1
  have E3 := E3.trans (Ext.of s_l1)
  wtm_at "rd"
  refine r_new rfl fun l2 n_l2 => ?_
  generalize eq_l2 : upd _ l2 _ = G2
  have s_l2 : Same _ G2 := eq_l2 ▸ same_new n_l2
  have h_l2 : G2 l2 = some _ := eq_l2 ▸ upd_same
  clear eq_l2
  have D3 := D3.same s_l2
  have E3 := E3.trans (Ext.of s_l2)
  have h_l1 := s_l2 _ _ h_l1
  wtm_at "rd"
  refine ⟨l1, l2, _, _, rfl, rfl, h_l1, h_l2, Nat.le_of_ble_eq_true rfl, fun l3 n_l3 => ?_⟩
  have D0 := D3
  generalize eq_l3 : upd _ l3 _ = G3
  have s_l3 : Same _ G3 := eq_l3 ▸ same_new n_l3
  have h_l3 : G3 l3 = some _ := eq_l3 ▸ upd_same
  clear eq_l3
  have D3 := D3.same s_l3
  have E3 := E3.trans (Ext.of s_l3)
  have h_l3 : G3 l3 = some (.lst (([("007" : Str), "-0", "-", "00", "-01", ("1" : Str) ++ lg, lg, n9, "0", ("-" : Str) ++ n8, "+3", " 2", "", "3..4", "..", "1.."] : List Str).map V.str)) := h_l3
  have l3d := D0.ned n_l3
  have l3r := D0.ner n_l3
  wtm_at "rd"
  refine ⟨d, c, r, 16, rfl, D3, by decide, by decide, fun k H5 k0 k1 D5 E5 => ?_⟩
  have h_l3 := E5 _ _ h_l3 l3d l3r
  obtain ⟨z, hz, hzm⟩ := at_strs (ws := [("007" : Str), "-0", "-", "00", "-01", ("1" : Str) ++ lg, lg, n9, "0", ("-" : Str) ++ n8, "+3", " 2", "", "3..4", "..", "1.."]) k0 k1
  refine r_ixL (SqL.of h_l3) hz ?_
  refine q z _ ?_ D5 (E3.trans E5)
  simp only [List.mem_cons, List.mem_nil_iff, or_false] at hzm
  rcases hzm with rfl | rfl | rfl | rfl | rfl | rfl | rfl | rfl | rfl | rfl | rfl | rfl | rfl | rfl | rfl | rfl
  all_goals first
    | decide +kernel
    | (rw [len_app, hj, hl]; decide +kernel)
    | (rw [hj, hl]; decide)
    | (rw [m1]; decide)
    | (rw [len_app, m2]; decide +kernel)
theorem ok__law_spoilt (T : Txt K mg) : FnOk P w K mg base CX0 3 T.f__law_spoilt T.d__law_spoilt ["_law_draws", "_law_text"] spSpoilt := by
  refine T.F__law_spoilt.ok sc__law_spoilt (fun vs H Q E h => ?_) (fun cdv A outer s H vs Q E hr h => ?_)
  · obtain ⟨d, c, r, t, rfl, _⟩ := h
    rfl
  obtain ⟨d, c, r, t, rfl, ht, D, q⟩ := h
  refine ⟨_, (pss_cons (ps_set (i := 2) sc__law_spoilt.nd rfl (by first | exact Or.inl rfl | exact Or.inr rfl) (pe_call (ok__law_draw T) (hr.mono (by decide)) (by rfl) T.g__law_draw T.F__law_draw.kp T.b__law_draw .nil pass0 (pa_cons (pv 0) (pa_cons (pe_op op_add (pe_callB call_len_str (by rfl) T.z_len (by decide +kernel) (pa_cons (pv 1) pa_nil)) pe_int) pa_nil))))
      (pss_cons (ps_set (i := 3) sc__law_spoilt.nd rfl (by first | exact Or.inl rfl | exact Or.inr rfl) (pe_call (ok__law_draw T) (hr.mono (by decide)) (by rfl) T.g__law_draw T.F__law_draw.kp T.b__law_draw .nil pass0 (pa_cons (pv 0) (pa_cons pe_int pa_nil))))
      (pss_cons (ps_if (pt_cmpR op_eq (pv 3) pe_int (nomark _)) (pss_one (ps_ret (pe_op op_add_str (pe_op op_add_str (pe_slice sl_str (pv 1) po_none (po_some (pv 2))) (pe_call (ok__law_sign T) (hr.mono (by decide)) (by rfl) T.g__law_sign T.F__law_sign.kp T.b__law_sign .nil pass0 (pa_cons (pv 0) pa_nil))) (pe_slice sl_str (pv 1) (po_some (pv 2)) po_none)))) pss_nil)
      (pss_cons (ps_if (pt_cmpR op_eq (pv 3) pe_int (nomark _)) (pss_one (ps_ret (pe_op op_add_str (pe_slice sl_str (pv 1) po_none (po_some (pv 2))) (pe_slice sl_str (pv 1) (po_some (pe_op op_add (pv 2) pe_int)) po_none)))) pss_nil)
      (pss_one (ps_ret (pe_op op_add_str (pe_op op_add_str (pe_slice sl_str (pv 1) po_none (po_some (pv 2))) (pe_call (ok__law_sign T) (hr.mono (by decide)) (by rfl) T.g__law_sign T.F__law_sign.kp T.b__law_sign .nil pass0 (pa_cons (pv 0) pa_nil))) (pe_slice sl_str (pv 1) (po_some (pe_op op_add (pv 2) pe_int)) po_none)))))))), ?_⟩
  try simp only [nox_K, cx_K]
  have tz : t.length ≤ sizeLine := szl (by omega)
  wtm_at "rd"
  refine ⟨_, rfl, tz, ?_⟩
  wtm_at "rd"
  refine ⟨d, c, r, _, rfl, D, by omega, by omega, fun k H1 k0 k1 D1 E1 => ?_⟩
  wtm_at "rd"
  refine ⟨d, c, r, 3, rfl, D1, by decide, by decide, fun k2 H2 l2 u2 D2 E2 => ?_⟩
  have E2 := E1.trans E2
  have c1 := cut_lenS (z := t) (lo := none) (hi := some k)
  have c2 := cut_lenS (z := t) (lo := some k) (hi := none)
  have c3 := cut_lenS (z := t) (lo := some (k + 1)) (hi := none)
  wtm_at "rd"
  refine r_ite (fun e1 => ?_) (fun e1 => ?_)
  · wtm_at "rd"
    refine ⟨_, rfl, tz, ?_⟩
    wtm_at "rd"
    refine ⟨d, c, r, rfl, D2, fun z H3 hz D3 E3 => ?_⟩
    refine ⟨_, _, rfl, rfl, szl (by omega), ?_⟩
    wtm_at "rd"
    refine ⟨_, rfl, tz, ?_⟩
    refine ⟨_, _, rfl, rfl, szl (by rw [len_app]; omega), ?_⟩
    exact q _ _ (by rw [len_app, len_app]; omega) D3 (E2.trans E3)
  wtm_at "rd"
  refine r_ite (fun e2 => ?_) (fun e2 => ?_)
  · wtm_at "rd"
    refine ⟨_, rfl, tz, ?_⟩
    wtm_at "rd"
    refine ⟨_, rfl, tz, ?_⟩
    refine ⟨_, _, rfl, rfl, szl (by omega), ?_⟩
    exact q _ _ (by rw [len_app]; omega) D2 E2
  · wtm_at "rd"
    refine ⟨_, rfl, tz, ?_⟩
    wtm_at "rd"
    refine ⟨d, c, r, rfl, D2, fun z H3 hz D3 E3 => ?_⟩
    refine ⟨_, _, rfl, rfl, szl (by omega), ?_⟩
    wtm_at "rd"
    refine ⟨_, rfl, tz, ?_⟩
    refine ⟨_, _, rfl, rfl, szl (by rw [len_app]; omega), ?_⟩
    exact q _ _ (by rw [len_app, len_app]; omega) D3 (E2.trans E3)
theorem ok__law_any_text (T : Txt K mg) : FnOk P w K mg base CX0 4 T.f__law_any_text T.d__law_any_text ["_law_draws"] (spTxt 5000) := by
  refine T.F__law_any_text.ok sc__law_any_text (fun vs H Q E h => ?_) (fun cdv A outer s H vs Q E hr h => ?_)
  · obtain ⟨d, c, r, rfl, _⟩ := h
    rfl
  obtain ⟨d, c, r, rfl, D, q⟩ := h
  refine ⟨_, (pss_cons (ps_set (i := 1) sc__law_any_text.nd rfl (by first | exact Or.inl rfl | exact Or.inr rfl) (pe_call (ok__law_draw T) (hr.mono (by decide)) (by rfl) T.g__law_draw T.F__law_draw.kp T.b__law_draw .nil pass0 (pa_cons (pv 0) (pa_cons pe_int pa_nil))))
      (pss_cons (ps_if (pt_cmpR op_eq (pv 1) pe_int (nomark _)) (pss_one (ps_ret (pe_join pe_str (pe_lc (own := [("_law_k", 3)]) (g := gName 3) (tt := tYes) rfl sc__law_any_text.nd (pi_range1 (by rfl) T.z_range (pa_cons (pe_call (ok__law_draw T) (hr.mono (by decide)) (by rfl) T.g__law_draw T.F__law_draw.kp T.b__law_draw .nil pass0 (pa_cons (pv 0) (pa_cons pe_int pa_nil))) pa_nil)) (blkOk_by (N := ["_law_draws", "_law_way", "_law_text", "_law_k"]) (sc := defScope s__law_any_text) (by decide +kernel)) (fun _ _ _ _ _ => pg_name (i := 3) sc__law_any_text.nd rfl (by first | exact Or.inl rfl | exact Or.inr rfl)) (fun _ _ _ _ _ => pts_nil) (fun _ _ _ _ _ => (pe_call (ok__law_sign T) (hr.mono (by decide)) (by rfl) T.g__law_sign T.F__law_sign.kp T.b__law_sign .nil pass0 (pa_cons (pv 0) pa_nil))))))) pss_nil)
      (pss_cons (ps_if (pt_cmpR op_eq (pv 1) pe_int (nomark _)) (pss_one (ps_ret (pe_op op_add_str (pe_op op_add_str (pe_call (ok__law_odd_end T) (hr.mono (by decide)) (by rfl) T.g__law_odd_end T.F__law_odd_end.kp T.b__law_odd_end .nil pass0 (pa_cons (pv 0) pa_nil)) pe_str) (pe_call (ok__law_short_end T) (hr.mono (by decide)) (by rfl) T.g__law_short_end T.F__law_short_end.kp T.b__law_short_end .nil pass0 (pa_cons (pv 0) pa_nil))))) pss_nil)
      (pss_cons (ps_if (pt_cmpR op_eq (pv 1) pe_int (nomark _)) (pss_one (ps_ret (pe_op op_add_str (pe_op op_add_str (pe_call (ok__law_short_end T) (hr.mono (by decide)) (by rfl) T.g__law_short_end T.F__law_short_end.kp T.b__law_short_end .nil pass0 (pa_cons (pv 0) pa_nil)) pe_str) (pe_call (ok__law_odd_end T) (hr.mono (by decide)) (by rfl) T.g__law_odd_end T.F__law_odd_end.kp T.b__law_odd_end .nil pass0 (pa_cons (pv 0) pa_nil))))) pss_nil)
      (pss_cons (ps_set (i := 2) sc__law_any_text.nd rfl (by first | exact Or.inl rfl | exact Or.inr rfl) (pe_op op_add_str (pe_op op_add_str (pe_call (ok__law_short_end T) (hr.mono (by decide)) (by rfl) T.g__law_short_end T.F__law_short_end.kp T.b__law_short_end .nil pass0 (pa_cons (pv 0) pa_nil)) pe_str) (pe_call (ok__law_short_end T) (hr.mono (by decide)) (by rfl) T.g__law_short_end T.F__law_short_end.kp T.b__law_short_end .nil pass0 (pa_cons (pv 0) pa_nil))))
      (pss_cons (ps_if (pt_cmpR op_eq (pv 1) pe_int (nomark _)) (pss_one (ps_ret (pv 2))) pss_nil)
      (pss_one (ps_ret (pe_call (ok__law_spoilt T) (hr.mono (by decide)) (by rfl) T.g__law_spoilt T.F__law_spoilt.kp T.b__law_spoilt .nil pass0 (pa_cons (pv 0) (pa_cons (pv 2) pa_nil))))))))))), ?_⟩
  try simp only [nox_K, cx_K]
  have dots : (".." : Str).length = 2 := by decide +kernel
  wtm_at "rd"
  refine ⟨d, c, r, 6, rfl, D, by decide, by decide, fun k H1 k0 k1 D1 E1 => ?_⟩
  wtm_at "rd"
  refine r_ite (fun e1 => ?_) (fun e1 => ?_)
  · wtm_at "rd"
    refine ⟨d, c, r, 13, rfl, D1, by decide, by decide, fun k2 H2 l2 u2 D2 E2 => ?_⟩
    wtm_at "rd"
    refine r_upto (by omega) (by omega) ?_
    refine lc_drawsG (P := fun v => ∃ z : Str, v = .str z ∧ z.length = 1) (by omega) D2 (fun i H3 QQ hi D3 E3 hQ => ?_) fun l ss H3 hl hp nl hs D3 E3 => ?_
    · wtm_at "rd"
      exact ⟨d, c, r, rfl, D3, fun z H4 hz D4 E4 => hQ _ _ ⟨z, rfl, hz⟩ D4 E4⟩
    obtain ⟨ys, rfl, hy⟩ := strs_of1 hp
    rw [List.length_map] at hl
    have hsum := sum_ones (ys := ys) hy
    refine ⟨_, l, ys, rfl, rfl, .inl (SqL.of hs), ?_, ?_⟩
    · rw [hsum]
      show ys.length + ys.length * 0 ≤ 16777216
      omega
    rw [TL.join_eq]
    exact q _ _ (by rw [len_join hy]; omega) D3 ((E1.trans E2).trans E3)
  wtm_at "rd"
  refine r_ite (fun e2 => ?_) (fun e2 => ?_)
  · wtm_at "rd"
    refine ⟨d, c, r, rfl, D1, fun z H2 hz D2 E2 => ?_⟩
    wtm_at "rd"
    refine ⟨_, _, rfl, rfl, szl (by omega), ?_⟩
    wtm_at "rd"
    refine ⟨d, c, r, rfl, D2, fun z2 H3 hz2 D3 E3 => ?_⟩
    refine ⟨_, _, rfl, rfl, szl (by rw [len_app]; omega), ?_⟩
    exact q _ _ (by rw [len_app, len_app]; omega) D3 ((E1.trans E2).trans E3)
  wtm_at "rd"
  refine r_ite (fun e3 => ?_) (fun e3 => ?_)
  · wtm_at "rd"
    refine ⟨d, c, r, rfl, D1, fun z H2 hz D2 E2 => ?_⟩
    wtm_at "rd"
    refine ⟨_, _, rfl, rfl, szl (by omega), ?_⟩
    wtm_at "rd"
    refine ⟨d, c, r, rfl, D2, fun z2 H3 hz2 D3 E3 => ?_⟩
    refine ⟨_, _, rfl, rfl, szl (by rw [len_app]; omega), ?_⟩
    exact q _ _ (by rw [len_app, len_app]; omega) D3 ((E1.trans E2).trans E3)
  wtm_at "rd"
  refine ⟨d, c, r, rfl, D1, fun z H2 hz D2 E2 => ?_⟩
  wtm_at "rd"
  refine ⟨_, _, rfl, rfl, szl (by omega), ?_⟩
  wtm_at "rd"
  refine ⟨d, c, r, rfl, D2, fun z2 H3 hz2 D3 E3 => ?_⟩
  refine ⟨_, _, rfl, rfl, szl (by rw [len_app]; omega), ?_⟩
  have E3 := (E1.trans E2).trans E3
  have hlen : (z ++ (".." : Str) ++ z2).length ≤ 100 := by rw [len_app, len_app]; omega
  revert hlen
  generalize z ++ (".." : Str) ++ z2 = tx
  intro hlen
  wtm_at "rd"
  refine r_ite (fun e4 => ?_) (fun e4 => ?_)
  · wtm_at "rd"
    exact q _ _ (by omega) D3 E3
  · wtm_at "rd"
    exact ⟨d, c, r, tx, rfl, hlen, D3, fun z5 H5 h5 D5 E5 => q _ _ (by omega) D5 (E3.trans E5)⟩
end

def bodyL (t : List Nat) : List Nat := if t.head? = some 45 then t.tail else t
theorem isEnd_eq (t : List Nat) : isEndB t = (decide (t = []) || (bodyD (bodyL t) && !decide (t = [45, 48]))) := by
  cases t with
  | nil => rfl
  | cons c r =>
    rw [decide_eq_false (by simp), Bool.false_or]
    by_cases e : c = 45
    · subst e
      rw [isEnd_neg, show bodyL (45 :: r) = r from if_pos rfl]
      congr 2
      rw [decide_eq_decide]
      exact ⟨fun z => by rw [z], fun z => by injection z⟩
    · rw [isEnd_pos e, show bodyL (c :: r) = c :: r from if_neg fun y => e (by have y : some c = some 45 := y; injection y), decide_eq_false (show ¬ c :: r = [45, 48] from fun z => e (by injection z))]
      show _ = (bodyD (c :: r) && true)
      rw [Bool.and_true]
theorem cut_0j (a : List Nat) (j : Nat) : cutS (SX.S a) none (some (j : Int)) = SX.S (a.take j) := by
  have e := cut_ij a (i := 0) (j := j) (Nat.zero_le _)
  rw [List.drop_zero, Nat.sub_zero] at e
  rw [← e]
  rfl
theorem cut_01 (a : List Nat) : cutS (SX.S a) none (some 1) = SX.S (a.take 1) := cut_0j a 1
theorem cut_1n (a : List Nat) : cutS (SX.S a) (some 1) none = SX.S (a.drop 1) := by
  unfold cutS
  show Str.mk _ = Str.mk _
  congr 1
  congr 1
  rw [SX.S_len, show HT.sIx a.length 0 (some (1 : Int)) = min 1 a.length from HT.sIx_nat _ _ 1, HT.sIx_none]
  show (a.drop (min 1 a.length)).take (a.length - min 1 a.length) = _
  cases a with
  | nil => rfl
  | cons x r =>
    rw [Nat.min_eq_left (by rw [List.length_cons]; omega)]
    exact List.take_of_length_le (by rw [List.length_drop]; exact Nat.le_refl _)
theorem s_nil : ("" : Str) = SX.S [] := by decide +kernel
theorem s_m0 : ("-0" : Str) = SX.S [45, 48] := by decide +kernel
def spIsEnd : Sp := fun vs H Q _ => ∃ t : List Nat, vs = [.str (SX.S t)] ∧ t.length ≤ 9000 ∧ Q (.bl (isEndB t)) H
def spEndOf : Sp := fun vs H Q _ => ∃ p : List Nat, vs = [.str (SX.S p)] ∧ (p ≠ [] → NumOk p) ∧ Q (endV (rdE p)) H
def rpr (lo hi : Option Int) : Str := (lstD [endV lo, endV hi]).shown
def readT (lo hi : Option Int) : List V := [.str "read", .str (rpr lo hi)]
def badT (n : Nat) : List V := [.str "bad", .int n]
def resL (a : List Nat) : List V := match scanO a with
  | none => badT 0
  | some (lo, hi, n) => if n < a.length then badT n else if turnedB lo hi = true then badT 0 else readT lo hi
def spDueL : Sp := fun vs H Q _ => ∃ a : List Nat, vs = [.str (SX.S a)] ∧ a.length ≤ 9000 ∧ ∀ t H', H' t = some (.tup (resL a)) → Same H H' → Q (.ref t) H'
theorem EndOk.d {e : Option Int} (h : EndOk e) : okD (endV e) := by
  cases e with
  | none => trivial
  | some i => exact h i rfl
theorem end2_ok {a b : Option Int} (ha : EndOk a) (hb : EndOk b) : ∀ v ∈ [endV a, endV b], okD v := by
  intro v hv
  simp only [List.mem_cons, List.mem_nil_iff, or_false] at hv
  rcases hv with rfl | rfl
  · exact ha.d
  · exact hb.d
theorem dv_lt : ∀ (cs : List Nat) (acc : Nat), NumText.AllDigits cs → cs.foldl (fun acc c => acc * 10 + (c - 48)) acc < (acc + 1) * 10 ^ cs.length
  | [], acc, _ => by
    show acc < (acc + 1) * 1
    omega
  | c :: cs, acc, h => by
    have h1 := h c List.mem_cons_self
    have ih := dv_lt cs (acc * 10 + (c - 48)) fun x hx => h x (List.mem_cons_of_mem _ hx)
    rw [List.foldl_cons, List.length_cons, Nat.pow_succ]
    refine Nat.lt_of_lt_of_le ih ?_
    have : acc * 10 + (c - 48) + 1 ≤ (acc + 1) * 10 := by omega
    calc (acc * 10 + (c - 48) + 1) * 10 ^ cs.length ≤ ((acc + 1) * 10) * 10 ^ cs.length := Nat.mul_le_mul_right _ this
      _ = (acc + 1) * (10 ^ cs.length * 10) := by rw [Nat.mul_assoc, Nat.mul_comm 10]
theorem dv_small {cs : List Nat} (h : NumText.AllDigits cs) (hl : cs.length ≤ 13) : NumText.digitsVal cs < 10 ^ 13 := by
  have := dv_lt cs 0 h
  rw [Nat.zero_add, Nat.one_mul] at this
  exact Nat.lt_of_lt_of_le this (Nat.pow_le_pow_right (by decide) hl)
theorem end_ok {p : List Nat} (h : isEndB p = true) : EndOk (rdE p) := by
  intro i hi
  cases p with
  | nil => cases hi
  | cons c r =>
    have hi : some (valL (c :: r)) = some i := hi
    injection hi with hi
    by_cases e : c = 45
    · subst e
      rw [isEnd_neg, Bool.and_eq_true] at h
      cases r with
      | nil => cases h.1
      | cons x d =>
        obtain ⟨l1, dg, z⟩ := bodyD_cons h.1
        have := dv_small dg (by rw [List.length_cons]; omega)
        have e : valL (45 :: x :: d) = -((NumText.digitsVal (x :: d) : Nat) : Int) := rfl
        rw [e] at hi
        omega
    · rw [isEnd_pos e] at h
      obtain ⟨l1, dg, z⟩ := bodyD_cons h
      have := dv_small dg (by rw [List.length_cons]; omega)
      have e : valL (c :: r) = ((NumText.digitsVal (c :: r) : Nat) : Int) := by
        unfold valL
        split
        · next y => injection y with y; exact absurd y e
        · rfl
      rw [e] at hi
      omega
theorem scan_ok {a : List Nat} {lo hi : Option Int} {n : Nat} (h : scanO a = some (lo, hi, n)) : EndOk lo ∧ EndOk hi := by
  obtain ⟨p, q, ft, rfl, rfl, _⟩ := scan_fit h
  obtain ⟨_, h1, h2, _⟩ := fit_eq ft
  exact ⟨end_ok h1, end_ok h2⟩
theorem read_eqD {lo hi : Option Int} : ∀ v ∈ readT lo hi, eqD v := by
  intro v hv
  simp only [readT, List.mem_cons, List.mem_nil_iff, or_false] at hv
  rcases hv with rfl | rfl
  · exact sok_of _
  · refine sok_lstD fun v hv => ?_
    simp only [List.mem_cons, List.mem_nil_iff, or_false] at hv
    rcases hv with rfl | rfl
    · cases lo <;> trivial
    · cases hi <;> trivial
theorem bad_eqD {n : Nat} : ∀ v ∈ badT n, eqD v := by
  intro v hv
  simp only [badT, List.mem_cons, List.mem_nil_iff, or_false] at hv
  rcases hv with rfl | rfl
  · exact sok_of _
  · trivial
theorem res_eqD {a : List Nat} : ∀ v ∈ resL a, eqD v := by
  unfold resL
  split
  · exact bad_eqD
  · split
    · exact bad_eqD
    · split
      · exact bad_eqD
      · exact read_eqD
theorem kind_refl : ∀ (vs : List V), ∀ p ∈ vs.zip vs, sameKind p.1 p.2 = true
  | [], p, hp => nomatch hp
  | v :: vs, p, hp => by
    rcases List.mem_cons.mp hp with rfl | hp
    · cases v <;> rfl
    · exact kind_refl vs p hp
def spLaw (K : PySem.W.Frag) : Sp := fun vs H Q _ => ∃ (a : Addr) (ns : List Int), vs = [.ref a] ∧ SqL K H a (ns.map V.int) ∧ ns.length ≤ 63 ∧ ∀ H', Q (.bl true) H'
theorem S_eq {a b : List Nat} : decide (SX.S a = SX.S b) = decide (a = b) := by
  rw [decide_eq_decide]
  exact ⟨fun z => SX.S_inj z, fun z => by rw [z]⟩
section
variable {P : Program} {w : World} {K : PySem.W.Frag} {mg : Str → Option Value} {base : Heap}

theorem ok__law_is_end (T : Txt K mg) : FnOk P w K mg base CX0 1 T.f__law_is_end T.d__law_is_end ["_law_text"] spIsEnd := by
  refine T.F__law_is_end.ok sc__law_is_end (fun vs H Q E h => ?_) (fun cdv A outer s H vs Q E hr h => ?_)
  · obtain ⟨t, rfl, _⟩ := h
    rfl
  obtain ⟨t, rfl, hl, q⟩ := h
  refine ⟨_, (pss_cons (ps_set (i := 1) sc__law_is_end.nd rfl (by first | exact Or.inl rfl | exact Or.inr rfl) (pv 0))
      (C8.pss_cut (ps_if (pt_cmpR op_eq (pe_slice sl_str (pv 0) po_none (po_some pe_int)) pe_str (nomark _)) (pss_one (ps_set (i := 1) sc__law_is_end.nd rfl (by first | exact Or.inl rfl | exact Or.inr rfl) (pe_slice sl_str (pv 0) (po_some pe_int) po_none))) pss_nil)
      (pss_cons (ps_if (pt_cmpR op_eq (pv 0) pe_str (nomark _)) (pss_one (ps_ret pe_bl)) pss_nil)
      (pss_cons (ps_if (PW.pt (pw_or (pt_cmpR op_eq (pe_callB call_len_str (by rfl) T.z_len (by decide +kernel) (pa_cons (pv 1) pa_nil)) pe_int (nomark _)) (pw_or (pt_cmpR op_gt (pe_callB call_len_str (by rfl) T.z_len (by decide +kernel) (pa_cons (pv 1) pa_nil)) pe_int (nomark _)) (pw_or1 (pt_cmpR op_eq (pv 0) pe_str (nomark _)))))) (pss_one (ps_ret pe_bl)) pss_nil)
      (pss_cons (ps_for PassesOwn.never rfl (pi_str (pv 1)) (pg_name (i := 2) sc__law_is_end.nd rfl (by first | exact Or.inl rfl | exact Or.inr rfl)) (pss_one (ps_if (pt_cmpR op_notIn_sign (pv 2) pe_str (by rfl)) (pss_one (ps_ret pe_bl)) pss_nil)))
      (pss_one (ps_ret (pe_or (pe_cmpR op_eq (pe_callB call_len_str (by rfl) T.z_len (by decide +kernel) (pa_cons (pv 1) pa_nil)) pe_int (nomark _)) (pe_one (pe_cmpR op_ne (pe_ix ix_str (pv 1) pe_int (fun _ _ => rfl)) pe_str (nomark _))))))))))), ?_⟩
  try simp only [nox_K, cx_K]
  have hz : (SX.S t).length ≤ sizeLine := by rw [SX.S_len]; exact szl (by omega)
  have hb : (bodyL t).length ≤ t.length := by
    unfold bodyL
    split
    · rw [List.length_tail]; omega
    · exact Nat.le_refl _
  have hzb : (SX.S (bodyL t)).length ≤ sizeLine := by rw [SX.S_len]; exact szl (by omega)
  wtm_at "rd"
  refine ⟨fun σ H' => σ = [some (.str (SX.S t)), some (.str (SX.S (bodyL t))), none] ∧ H' = H, ?_, ?_⟩
  · wtm_at "rd"
    refine ⟨_, rfl, hz, ?_⟩
    rw [cut_01, s_dash]
    wtm_at "rd"
    rw [head_cut]
    refine r_ite (fun e1 => ?_) (fun e1 => ?_)
    · wtm_at "rd"
      refine ⟨_, rfl, hz, ?_⟩
      rw [cut_1n]
      wtm_at "rd"
      refine ⟨?_, rfl⟩
      rw [bodyL, if_pos e1, List.drop_one]
      rfl
    · wtm_at "rd"
      refine ⟨?_, rfl⟩
      rw [bodyL, if_neg e1]
      rfl
  rintro σ H' ⟨rfl, rfl⟩
  rw [isEnd_eq] at q
  wtm_at "rd"
  rw [s_nil, S_eq]
  refine r_ite (fun e1 => ?_) (fun e1 => ?_)
  · wtm_at "rd"
    rw [decide_eq_true e1] at q
    exact q
  rw [decide_eq_false e1, Bool.false_or] at q
  revert q hb hzb
  generalize bodyL t = b
  intro hb hzb q
  wtm_at "rd"
  refine ⟨_, rfl, hzb, ?_⟩
  wtm_at "rd"
  rw [SX.S_len]
  refine r_ite (fun e2 => ?_) (fun e2 => ?_)
  · wtm_at "rd"
    rw [List.length_eq_zero_iff.mp (show b.length = 0 by omega), bodyD_nil] at q
    exact q
  wtm_at "rd"
  refine ⟨_, rfl, hzb, ?_⟩
  wtm_at "rd"
  rw [SX.S_len]
  refine r_ite (fun e3 => ?_) (fun e3 => ?_)
  · wtm_at "rd"
    rw [show bodyD b = false by unfold bodyD; rw [decide_eq_false (show ¬ b.length ≤ 13 by omega), Bool.and_false]; rfl] at q
    exact q
  wtm_at "rd"
  rw [s_m0, S_eq]
  refine r_ite (fun e4 => ?_) (fun e4 => ?_)
  · wtm_at "rd"
    rw [decide_eq_true e4, Bool.not_true, Bool.and_false] at q
    exact q
  rw [decide_eq_false e4, Bool.not_false, Bool.and_true] at q
  have en : bodyD b = (b.all isDg && (decide (b.length = 1) || !decide (b.head? = some 48))) := by
    unfold bodyD
    rw [decide_eq_true (show b.length ≤ 13 by omega), show b.isEmpty = false by cases b with | nil => exact absurd rfl e2 | cons x r => rfl]
    rfl
  rw [en] at q
  wtm_at "rd"
  refine r_for (r_is ?_)
  wtm_at "rd"
  refine for_it walk_str (fun i σ H2 => ∃ y2 : Option V, σ = [some (.str (SX.S t)), some (.str (SX.S b)), y2] ∧ H2 = H' ∧ ∀ c ∈ b.take i, isDg c = true) ⟨_, rfl, rfl, fun c z => (by rw [List.take_zero] at z; cases z)⟩ (fun _ _ _ _ _ => trivial) ?_ ?_
  · rintro i v σ H2 H3 hi ⟨y2, rfl, rfl, hall⟩ ⟨rfl, c, hc, rfl⟩
    have hc : b[i]? = some c := by
      have y : (SX.S b).cps.toList[i]? = some c := by rw [Array.getElem?_toList]; exact hc
      exact y
    wtm_at "rd"
    refine ⟨c, _, rfl, rfl, ?_⟩
    rw [dg_mem]
    wtm_at "rd"
    refine r_itebn (fun e5 => ?_) (fun e5 => ?_)
    · wtm_at "rd"
      rw [show b.all isDg = false from Bool.eq_false_iff.mpr fun z => by rw [List.all_eq_true.mp z c (List.mem_of_getElem? hc)] at e5; cases e5] at q
      exact q
    · wtm_at "rd"
      refine ⟨_, rfl, rfl, fun x hx => ?_⟩
      rw [List.take_add_one, hc] at hx
      rcases List.mem_append.mp hx with z | z
      · exact hall x z
      · have z : x = c := List.mem_singleton.mp z
        rw [z]; exact e5
  · rintro σ H2 ⟨y2, rfl, rfl, hall⟩
    have hall : ∀ c ∈ b, isDg c = true := fun c hc => hall c (by rw [show (SX.S b).cps.size = b.length by simp, List.take_length]; exact hc)
    rw [List.all_eq_true.mpr hall, Bool.true_and] at q
    wtm_at "rd"
    refine ⟨_, rfl, hzb, ?_⟩
    wtm_at "rd"
    rw [SX.S_len]
    refine r_ite (fun e6 => ?_) (fun e6 => ?_)
    · rw [decide_eq_true (show b.length = 1 by omega)] at q
      exact q
    · rw [decide_eq_false (show ¬ b.length = 1 by omega), Bool.false_or] at q
      cases b with
      | nil => exact absurd rfl e2
      | cons x r =>
        wtm_at "rd"
        refine ⟨_, 0, x, rfl, rfl, hzb, atI_nat (j := 0) (show (x :: r)[0]? = some x from rfl), ?_⟩
        wtm_at "rd"
        rw [s_zero, show (⟨#[x]⟩ : Str) = SX.S [x] from rfl, S_eq]
        rw [show decide ((x :: r).head? = some 48) = decide ([x] = [48]) from decide_eq_decide.mpr ⟨fun z => by have z : some x = some 48 := z; injection z with z; rw [z], fun z => by injection z with z; rw [z]; rfl⟩] at q
        exact q
theorem ok__law_end_of (T : Txt K mg) : FnOk P w K mg base CX0 1 T.f__law_end_of T.d__law_end_of ["_law_text"] spEndOf := by
  refine T.F__law_end_of.ok sc__law_end_of (fun vs H Q E h => ?_) (fun cdv A outer s H vs Q E hr h => ?_)
  · obtain ⟨p, rfl, _⟩ := h
    rfl
  obtain ⟨p, rfl, hn, q⟩ := h
  refine ⟨_, (pss_cons (ps_if (pt_cmpR op_eq (pv 0) pe_str (nomark _)) (pss_one (ps_ret pe_non)) pss_nil)
      (pss_one (ps_ret (pe_callTy call_int_str (by rfl) T.z_int (by decide +kernel) (pa_cons (pv 0) pa_nil))))), ?_⟩
  try simp only [nox_K, cx_K]
  wtm_at "rd"
  rw [s_nil, S_eq]
  unfold rdE at q
  refine r_ite (fun e1 => ?_) (fun e1 => ?_)
  · rw [if_pos e1] at q
    wtm_at "rd"
    exact q
  · rw [if_neg e1] at q
    obtain ⟨n1, n2⟩ := hn e1
    wtm_at "rd"
    exact ⟨_, _, rfl, n1, by rw [SX.S_len]; exact n2, q⟩
theorem ok__law_due (T : Txt K mg) : FnG P w K mg base CX0 2 T.f__law_due T.d__law_due ["_law_text"] spDueL := by
  refine okG T.F__law_due sc__law_due (fun vs H Q E h => ?_) (fun cdv A outer s H vs Q E hG hr h => ?_)
  · obtain ⟨a, rfl, _⟩ := h
    rfl
  obtain ⟨a, rfl, hl, q⟩ := h
  refine ⟨_, (pss_cons (ps_set (i := 1) sc__law_due.nd rfl (by first | exact Or.inl rfl | exact Or.inr rfl) (pe_callB (call_min2 rfl) (by rfl) T.z_min (by decide +kernel) (pa_cons (pe_callB call_len_str (by rfl) T.z_len (by decide +kernel) (pa_cons (pv 0) pa_nil)) (pa_cons pe_int pa_nil))))
      (pss_cons (ps_for PassesOwn.never rfl (pi_range1 (by rfl) T.z_range (pa_cons (pv 1) pa_nil)) (pg_name (i := 2) sc__law_due.nd rfl (by first | exact Or.inl rfl | exact Or.inr rfl)) (pss_cons (ps_set (i := 3) sc__law_due.nd rfl (by first | exact Or.inl rfl | exact Or.inr rfl) (pe_slice sl_str (pv 0) po_none (po_some (pe_op op_sub (pv 1) (pv 2)))))
      (pss_cons (ps_asg (pe_partition (pv 3) pe_str) (pg_tup (by rfl) (pgs_cons (pg_name (i := 4) sc__law_due.nd rfl (by first | exact Or.inl rfl | exact Or.inr rfl)) (pgs_cons (pg_name (i := 5) sc__law_due.nd rfl (by first | exact Or.inl rfl | exact Or.inr rfl)) (pgs_cons (pg_name (i := 6) sc__law_due.nd rfl (by first | exact Or.inl rfl | exact Or.inr rfl)) pgs_nil)))))
      (pss_one (ps_if (PW.pt (pw_and (pt_cmpR op_eq (pv 5) pe_str (nomark _)) (pw_and (pt_val (pe_call (ok__law_is_end T) (hr.mono (by decide)) (by rfl) T.g__law_is_end T.F__law_is_end.kp T.b__law_is_end .nil pass0 (pa_cons (pv 4) pa_nil))) (pw_and1 (pt_val (pe_call (ok__law_is_end T) (hr.mono (by decide)) (by rfl) T.g__law_is_end T.F__law_is_end.kp T.b__law_is_end .nil pass0 (pa_cons (pv 6) pa_nil))))))) (pss_cons (ps_if (pt_cmpR op_lt (pe_callB call_len_str (by rfl) T.z_len (by decide +kernel) (pa_cons (pv 3) pa_nil)) (pe_callB call_len_str (by rfl) T.z_len (by decide +kernel) (pa_cons (pv 0) pa_nil)) (nomark _)) (pss_one (ps_ret (pe_tup (pa_cons pe_str (pa_cons (pe_callB call_len_str (by rfl) T.z_len (by decide +kernel) (pa_cons (pv 3) pa_nil)) pa_nil))))) pss_nil)
      (pss_cons (ps_if (PW.pt (pw_and (pt_cmpR op_ne (pv 4) pe_str (nomark _)) (pw_and (pt_cmpR op_ne (pv 6) pe_str (nomark _)) (pw_and1 (pt_cmpR op_gt (pe_callTy call_int_str (by rfl) T.z_int (by decide +kernel) (pa_cons (pv 4) pa_nil)) (pe_callTy call_int_str (by rfl) T.z_int (by decide +kernel) (pa_cons (pv 6) pa_nil)) (nomark _)))))) (pss_one (ps_ret (pe_tup (pa_cons pe_str (pa_cons pe_int pa_nil))))) pss_nil)
      (pss_one (ps_ret (pe_tup (pa_cons pe_str (pa_cons (pe_callB (r := rRepr K) (id := "repr") (call_repr hG hr.units) (by rfl) T.z_repr (by decide +kernel) (pa_cons (pe_lst (pa_cons (pe_call (ok__law_end_of T) (hr.mono (by decide)) (by rfl) T.g__law_end_of T.F__law_end_of.kp T.b__law_end_of .nil pass0 (pa_cons (pv 4) pa_nil)) (pa_cons (pe_call (ok__law_end_of T) (hr.mono (by decide)) (by rfl) T.g__law_end_of T.F__law_end_of.kp T.b__law_end_of .nil pass0 (pa_cons (pv 6) pa_nil)) pa_nil))) pa_nil)) pa_nil))))))) pss_nil)))))
      (pss_one (ps_ret (pe_tup (pa_cons pe_str (pa_cons pe_int pa_nil))))))), ?_⟩
  try simp only [nox_K, cx_K]
  have hz : (SX.S a).length ≤ sizeLine := by rw [SX.S_len]; exact szl (by omega)
  wtm_at "rd"
  refine ⟨_, rfl, hz, ?_⟩
  wtm_at "rd"
  rw [SX.S_len]
  refine ⟨_, _, rfl, ?_⟩
  have esz : (if (30 : Int) < (a.length : Int) then (30 : Int) else (a.length : Int)) = ((min a.length 30 : Nat) : Int) := by split <;> omega
  rw [esz]
  have s1 : min a.length 30 ≤ 30 := by omega
  have s2 : min a.length 30 ≤ a.length := by omega
  have s3 : ∀ n, n ≤ a.length → n ≤ 30 → n ≤ min a.length 30 := fun n h1 h2 => by omega
  revert s1 s2 s3
  generalize min a.length 30 = sz
  intro s1 s2 s3
  wtm_at "rd"
  refine r_for (r_rng1 ?_)
  wtm_at "rd"
  refine r_upto (by omega) (by omega) ?_
  refine for_range (fun i σ H' => ∃ (y2 y3 y4 y5 y6 : Option V), σ = [some (.str (SX.S a)), some (.int (sz : Int)), y2, y3, y4, y5, y6] ∧ Same H H' ∧ ∀ m, sz - i < m → m ≤ sz → fitP (a.take m) = none) ⟨_, _, _, _, _, rfl, Same.refl _, fun m h1 h2 => absurd h1 (by omega)⟩ ?_ ?_
  · rintro i σ H1 hi ⟨y2, y3, y4, y5, y6, rfl, s4, hno⟩
    rw [Int.toNat_natCast] at hi
    wtm_at "rd"
    rw [show (sz : Int) - (0 + (i : Int)) = ((sz - i : Nat) : Int) by omega]
    refine ⟨_, rfl, hz, ?_⟩
    rw [cut_0j]
    have hm1 : sz - i ≤ a.length := by omega
    have hzp : (SX.S (a.take (sz - i))).length ≤ sizeLine := by rw [SX.S_len, List.length_take]; exact szl (by omega)
    have nxt : fitP (a.take (sz - i)) = none → ∀ m, sz - (i + 1) < m → m ≤ sz → fitP (a.take m) = none := fun z m h1 h2 => by
      by_cases e : m = sz - i
      · rw [e]; exact z
      · exact hno m (by omega) h2
    wtm_at "rd"
    refine ⟨_, _, rfl, rfl, by decide +kernel, hzp, fun u n_u => ?_⟩
    rw [s_dots]
    cases hp : TL.par [46, 46] [] (a.take (sz - i)) with
    | none =>
      have fn : fitP (a.take (sz - i)) = none := by unfold fitP; rw [hp]
      rw [SX.partition_none (by simp) hp]
      generalize eq_u : upd _ u _ = H2
      have s_u : Same _ H2 := eq_u ▸ same_new n_u
      have h_u : H2 u = some _ := eq_u ▸ upd_same
      clear eq_u
      have s4 := s4.trans s_u
      refine r_gtup (SqT.of h_u) rfl ?_
      wtm_at "rd"
      rw [S_eq, decide_eq_false (by simp)]
      wtm_at "rdi"
      exact ⟨_, _, _, _, _, rfl, s4, nxt fn⟩
    | some pq =>
      obtain ⟨p, r⟩ := pq
      rw [SX.partition_some (by simp) hp]
      have pl := par_eq (S := [46, 46]) (fun l hl => pre_eq hl) hp
      have pl := congrArg List.length pl
      rw [List.nil_append, List.length_take, List.length_append, List.length_append] at pl
      generalize eq_u : upd _ u _ = H2
      have s_u : Same _ H2 := eq_u ▸ same_new n_u
      have h_u : H2 u = some _ := eq_u ▸ upd_same
      clear eq_u
      have s4 := s4.trans s_u
      refine r_gtup (SqT.of h_u) rfl ?_
      wtm_at "rd"
      rw [decide_eq_true rfl]
      wtm_at "rdi"
      refine ⟨p, rfl, by omega, ?_⟩
      wtm_at "rd"
      refine r_iteb (fun e1 => ?_) (fun e1 => ?_)
      · wtm_at "rd"
        refine ⟨r, rfl, by omega, ?_⟩
        wtm_at "rd"
        refine r_iteb (fun e2 => ?_) (fun e2 => ?_)
        · have ft : fitP (a.take (sz - i)) = some (p, r) := by
            unfold fitP
            rw [hp]
            exact if_pos ⟨e1, e2⟩
          obtain ⟨lo, hi', n, hsc, hle⟩ := fit_scan hm1 ft
          obtain ⟨p', r', ft', elo, ehi, n30, n2, nlen, np, nr⟩ := scan_fit hsc
          have en : n = sz - i := by
            rcases Nat.lt_or_ge (sz - i) n with c | c
            · have := hno n c (s3 n nlen n30)
              rw [ft'] at this
              cases this
            · omega
          rw [en, ft] at ft'
          cases ft'
          have er : resL a = (if n < a.length then badT n else if turnedB lo hi' = true then badT 0 else readT lo hi') := by
            unfold resL
            rw [hsc]
          have hp1 : (SX.S (a.take (sz - i))).length = n := by
            rw [SX.S_len, List.length_take]
            omega
          have okl := end_ok e1
          have okh := end_ok e2
          rw [← elo] at okl
          rw [← ehi] at okh
          wtm_at "rd"
          refine ⟨_, rfl, hzp, ?_⟩
          wtm_at "rd"
          refine ⟨_, rfl, hz, ?_⟩
          wtm_at "rd"
          rw [hp1, SX.S_len]
          refine r_ite (fun e3 => ?_) (fun e3 => ?_)
          · wtm_at "rd"
            refine ⟨_, rfl, hzp, ?_⟩
            rw [hp1]
            wtm_at "rd"
            refine r_new rfl fun tt n_tt => ?_
            generalize eq_tt : upd _ tt _ = H3
            have s_tt : Same _ H3 := eq_tt ▸ same_new n_tt
            have h_tt : H3 tt = some _ := eq_tt ▸ upd_same
            clear eq_tt
            have s4 := s4.trans s_tt
            exact q tt _ (by rw [er, if_pos (by omega)]; exact h_tt) s4
          rw [if_neg (by omega)] at er
          wtm_at "rd"
          rw [s_nil, S_eq]
          refine r_iten (fun e4 => ?_) (fun e4 => ?_)
          · wtm_at "rd"
            rw [S_eq]
            refine r_iten (fun e5 => ?_) (fun e5 => ?_)
            · obtain ⟨a1, a2⟩ := np e4
              obtain ⟨b1, b2⟩ := nr e5
              have elo' : lo = some (valL p) := by rw [elo, rdE, if_neg e4]
              have ehi2 : hi' = some (valL r) := by rw [ehi, rdE, if_neg e5]
              wtm_at "rd"
              refine ⟨_, _, rfl, a1, by rw [SX.S_len]; exact a2, ?_⟩
              wtm_at "rd"
              refine ⟨_, _, rfl, b1, by rw [SX.S_len]; exact b2, ?_⟩
              wtm_at "rd"
              refine r_ite (fun e6 => ?_) (fun e6 => ?_)
              · wtm_at "rd"
                refine r_new rfl fun tt n_tt => ?_
                generalize eq_tt : upd _ tt _ = H3
                have s_tt : Same _ H3 := eq_tt ▸ same_new n_tt
                have h_tt : H3 tt = some _ := eq_tt ▸ upd_same
                clear eq_tt
                have s4 := s4.trans s_tt
                exact q tt _ (by rw [er, if_pos (by rw [elo', ehi2]; exact decide_eq_true e6)]; exact h_tt) s4
              · have tb : turnedB lo hi' = false := by rw [elo', ehi2]; exact decide_eq_false e6
                wtm_at "rd"
                refine ⟨p, rfl, np, ?_⟩
                wtm_at "rd"
                refine ⟨r, rfl, nr, ?_⟩
                rw [← elo, ← ehi]
                wtm_at "rd"
                refine r_new rfl fun ll n_ll => ?_
                generalize eq_ll : upd _ ll _ = H3
                have s_ll : Same _ H3 := eq_ll ▸ same_new n_ll
                have h_ll : H3 ll = some _ := eq_ll ▸ upd_same
                clear eq_ll
                have s4 := s4.trans s_ll
                wtm_at "rd"
                refine r_reprL (SqL.of h_ll) (end2_ok okl okh) (Nat.le_of_ble_eq_true rfl) ?_
                wtm_at "rd"
                refine r_new rfl fun tt n_tt => ?_
                generalize eq_tt : upd _ tt _ = H4
                have s_tt : Same _ H4 := eq_tt ▸ same_new n_tt
                have h_tt : H4 tt = some _ := eq_tt ▸ upd_same
                clear eq_tt
                have s4 := s4.trans s_tt
                exact q tt _ (by rw [er, if_neg (by rw [tb]; exact Bool.false_ne_true)]; exact h_tt) s4
            · have tb : turnedB lo hi' = false := by rw [ehi, e5]; cases lo <;> rfl
              wtm_at "rdi"
              refine ⟨p, rfl, np, ?_⟩
              wtm_at "rd"
              refine ⟨r, rfl, nr, ?_⟩
              rw [← elo, ← ehi]
              wtm_at "rd"
              refine r_new rfl fun ll n_ll => ?_
              generalize eq_ll : upd _ ll _ = H3
              have s_ll : Same _ H3 := eq_ll ▸ same_new n_ll
              have h_ll : H3 ll = some _ := eq_ll ▸ upd_same
              clear eq_ll
              have s4 := s4.trans s_ll
              wtm_at "rd"
              refine r_reprL (SqL.of h_ll) (end2_ok okl okh) (Nat.le_of_ble_eq_true rfl) ?_
              wtm_at "rd"
              refine r_new rfl fun tt n_tt => ?_
              generalize eq_tt : upd _ tt _ = H4
              have s_tt : Same _ H4 := eq_tt ▸ same_new n_tt
              have h_tt : H4 tt = some _ := eq_tt ▸ upd_same
              clear eq_tt
              have s4 := s4.trans s_tt
              exact q tt _ (by rw [er, if_neg (by rw [tb]; exact Bool.false_ne_true)]; exact h_tt) s4
          · have tb : turnedB lo hi' = false := by rw [elo, e4]; rfl
            wtm_at "rdi"
            refine ⟨p, rfl, np, ?_⟩
            wtm_at "rd"
            refine ⟨r, rfl, nr, ?_⟩
            rw [← elo, ← ehi]
            wtm_at "rd"
            refine r_new rfl fun ll n_ll => ?_
            generalize eq_ll : upd _ ll _ = H3
            have s_ll : Same _ H3 := eq_ll ▸ same_new n_ll
            have h_ll : H3 ll = some _ := eq_ll ▸ upd_same
            clear eq_ll
            have s4 := s4.trans s_ll
            wtm_at "rd"
            refine r_reprL (SqL.of h_ll) (end2_ok okl okh) (Nat.le_of_ble_eq_true rfl) ?_
            wtm_at "rd"
            refine r_new rfl fun tt n_tt => ?_
            generalize eq_tt : upd _ tt _ = H4
            have s_tt : Same _ H4 := eq_tt ▸ same_new n_tt
            have h_tt : H4 tt = some _ := eq_tt ▸ upd_same
            clear eq_tt
            have s4 := s4.trans s_tt
            exact q tt _ (by rw [er, if_neg (by rw [tb]; exact Bool.false_ne_true)]; exact h_tt) s4
        · wtm_at "rdi"
          exact ⟨_, _, _, _, _, rfl, s4, nxt (by unfold fitP; rw [hp]; exact if_neg fun z => by rw [e2] at z; cases z.2)⟩
      · wtm_at "rdi"
        exact ⟨_, _, _, _, _, rfl, s4, nxt (by unfold fitP; rw [hp]; exact if_neg fun z => by rw [e1] at z; cases z.1)⟩
  · rintro σ H1 ⟨y2, y3, y4, y5, y6, rfl, s4, hno⟩
    have sn : scanO a = none := by
      cases hs : scanO a with
      | none => rfl
      | some x =>
        obtain ⟨lo, hi', n⟩ := x
        obtain ⟨p', r', ft', elo, ehi, n30, n2, nlen, np, nr⟩ := scan_fit hs
        have := hno n (by rw [Int.toNat_natCast]; omega) (s3 n nlen n30)
        rw [ft'] at this
        cases this
    have er : resL a = badT 0 := by unfold resL; rw [sn]
    wtm_at "rd"
    refine r_new rfl fun tt n_tt => ?_
    generalize eq_tt : upd _ tt _ = H3
    have s_tt : Same _ H3 := eq_tt ▸ same_new n_tt
    have h_tt : H3 tt = some _ := eq_tt ▸ upd_same
    clear eq_tt
    have s4 := s4.trans s_tt
    exact q tt _ (by rw [er]; exact h_tt) s4
theorem ok__law_read (T : Txt K mg) : FnG P w K mg base CX0 8 T.f__law_read T.d__law_read ["_law_text"] spDueL := by
  refine okG T.F__law_read sc__law_read (fun vs H Q E h => ?_) (fun cdv A outer s H vs Q E hG hr h => ?_)
  · obtain ⟨a, rfl, _⟩ := h
    rfl
  obtain ⟨a, rfl, hl, q⟩ := h
  refine ⟨_, (pss_cons (ps_try_as (i := 2) rfl rfl sc__law_read.nd rfl rfl ⟨rfl, by decide, Or.inl T.g_BadText⟩ takes0 (fun W pn xe tk _ => (pss_one (ps_set (i := 1) sc__law_read.nd rfl (by first | exact Or.inl rfl | exact Or.inr rfl) (pe_callS (ok_read_stretch T) (hr.mono (by decide)) (by rfl) T.g_read_stretch T.F_read_stretch.kp T.b_read_stretch (fun σ => passAt tk σ) (pa_cons (pv 0) pa_nil))))) (fun a oe cls d pn hz hf => (pss_cons (ps_if (pt_not (pt_val (pe_callB (call_isEp hz) (by rfl) T.z_isinstance (by decide +kernel) (pa_cons (pv 2) (pa_cons (pe_glob (v := .ref T.C_WindowError) rfl T.g_WindowError rfl) pa_nil))))) (pss_one (ps_ret (pe_tup (pa_cons pe_str (pa_cons pe_int pa_nil))))) pss_nil)
      (pss_one (ps_ret (pe_tup (pa_cons pe_str (pa_cons (pe_xf T.xf_BadText T.nf_BadText_place hz hf (pv 2)) pa_nil))))))))
      (pss_one (ps_ret (pe_tup (pa_cons pe_str (pa_cons (pe_callB (r := rRepr K) (id := "repr") (call_repr hG hr.units) (by rfl) T.z_repr (by decide +kernel) (pa_cons (pe_lst (pa_cons (pe_fldK (K := K) (pv 1)) (pa_cons (pe_fldK (K := K) (pv 1)) pa_nil))) pa_nil)) pa_nil)))))), ?_⟩
  try simp only [nox_K, cx_K]
  wtm_at "rd"
  refine ⟨a, rfl, by omega, fun hN d H1 hd s1 => ?_, fun lo hi n hS hn d H1 hd s1 => ?_, fun lo hi n hS hn => ⟨fun ht d H1 hd s1 => ?_, fun ht x H1 nx s1 o => ?_⟩⟩
  · have er : resL a = badT 0 := by unfold resL; rw [hN]
    refine ⟨true, T.em_BadText_BadText, fun _ b nb => ?_, fun z => nomatch z⟩
    wtm_at "rd"
    refine r_isEp T.is_BadText_WindowError ?_
    wtm_at "rdi"
    refine ⟨rfl, rfl, d, _, _, rfl, hd, rfl, ?_⟩
    wtm_at "rd"
    refine r_new rfl fun t n_t => ?_
    generalize eq_t : upd _ t _ = H2
    have s_t : Same _ H2 := eq_t ▸ same_new n_t
    have h_t : H2 t = some _ := eq_t ▸ upd_same
    clear eq_t
    exact q t _ (by rw [er]; exact h_t) (s1.trans s_t)
  · have er : resL a = badT n := by unfold resL; rw [hS]; exact if_pos hn
    refine ⟨true, T.em_BadText_BadText, fun _ b nb => ?_, fun z => nomatch z⟩
    wtm_at "rd"
    refine r_isEp T.is_BadText_WindowError ?_
    wtm_at "rdi"
    refine ⟨rfl, rfl, d, _, _, rfl, hd, rfl, ?_⟩
    wtm_at "rd"
    refine r_new rfl fun t n_t => ?_
    generalize eq_t : upd _ t _ = H2
    have s_t : Same _ H2 := eq_t ▸ same_new n_t
    have h_t : H2 t = some _ := eq_t ▸ upd_same
    clear eq_t
    exact q t _ (by rw [er]; exact h_t) (s1.trans s_t)
  · have er : resL a = badT 0 := by unfold resL; rw [hS]; exact (if_neg hn).trans (if_pos ht)
    refine ⟨true, T.em_BadText_BadText, fun _ b nb => ?_, fun z => nomatch z⟩
    wtm_at "rd"
    refine r_isEp T.is_BadText_WindowError ?_
    wtm_at "rdi"
    refine ⟨rfl, rfl, d, _, _, rfl, hd, rfl, ?_⟩
    wtm_at "rd"
    refine r_new rfl fun t n_t => ?_
    generalize eq_t : upd _ t _ = H2
    have s_t : Same _ H2 := eq_t ▸ same_new n_t
    have h_t : H2 t = some _ := eq_t ▸ upd_same
    clear eq_t
    exact q t _ (by rw [er]; exact h_t) (s1.trans s_t)
  · have er : resL a = readT lo hi := by unfold resL; rw [hS]; exact (if_neg hn).trans (if_neg (by rw [ht]; exact Bool.false_ne_true))
    obtain ⟨h1, h2⟩ := scan_ok hS
    wtm_at "rd"
    refine r_low T o ?_
    wtm_at "rd"
    refine r_high T o ?_
    wtm_at "rd"
    refine r_new rfl fun l n_l => ?_
    generalize eq_l : upd _ l _ = H2
    have s_l : Same _ H2 := eq_l ▸ same_new n_l
    have h_l : H2 l = some _ := eq_l ▸ upd_same
    clear eq_l
    wtm_at "rd"
    refine r_reprL (SqL.of h_l) (end2_ok h1 h2) (Nat.le_of_ble_eq_true rfl) ?_
    wtm_at "rd"
    refine r_new rfl fun t n_t => ?_
    generalize eq_t : upd _ t _ = H3
    have s_t : Same _ H3 := eq_t ▸ same_new n_t
    have h_t : H3 t = some _ := eq_t ▸ upd_same
    clear eq_t
    exact q t _ (by rw [er]; exact h_t) ((s1.trans s_l).trans s_t)
theorem ok_law (T : Txt K mg) : FnG P w K mg base CX0 10 T.f_law T.d_law ["_law_script"] (spLaw K) := by
  refine okG T.F_law sc_law (fun vs H Q E h => ?_) (fun cdv A outer s H vs Q E hG hr h => ?_)
  · obtain ⟨a, ns, rfl, _⟩ := h
    rfl
  obtain ⟨a, ns, rfl, hS, hlen, q⟩ := h
  refine ⟨_, (pss_cons (ps_set (i := 1) sc_law.nd rfl (by first | exact Or.inl rfl | exact Or.inr rfl) (pe_call (ok__law_begin T) (hr.mono (by decide)) (by rfl) T.g__law_begin T.F__law_begin.kp T.b__law_begin .nil pass0 (pa_cons (pv 0) pa_nil)))
      (pss_cons (ps_for PassesOwn.never rfl (pi_range1 (by rfl) T.z_range (pa_cons pe_int pa_nil)) (pg_name (i := 2) sc_law.nd rfl (by first | exact Or.inl rfl | exact Or.inr rfl)) (pss_cons (ps_set (i := 3) sc_law.nd rfl (by first | exact Or.inl rfl | exact Or.inr rfl) (pe_call (ok__law_any_text T) (hr.mono (by decide)) (by rfl) T.g__law_any_text T.F__law_any_text.kp T.b__law_any_text .nil pass0 (pa_cons (pv 1) pa_nil)))
      (pss_cons (ps_set (i := 4) sc_law.nd rfl (by first | exact Or.inl rfl | exact Or.inr rfl) (pe_callG hG (ok__law_due T) (hr.mono (by decide)) (by rfl) T.g__law_due T.F__law_due.kp T.b__law_due .nil pass0 (pa_cons (pv 3) pa_nil)))
      (pss_one (ps_if (PW.pt (pw_or (pt_cmpR (op_neD hr.units) (pe_callG hG (ok__law_read T) (hr.mono (by decide)) (by rfl) T.g__law_read T.F__law_read.kp T.b__law_read .nil pass0 (pa_cons (pv 3) pa_nil)) (pv 4) (nomark _)) (pw_or1 (pt_cmpR (op_neD hr.units) (pe_callG hG (ok__law_read T) (hr.mono (by decide)) (by rfl) T.g__law_read T.F__law_read.kp T.b__law_read .nil pass0 (pa_cons (pv 3) pa_nil)) (pv 4) (nomark _))))) (pss_one (ps_ret pe_bl)) pss_nil)))))
      (pss_one (ps_ret pe_bl)))), ?_⟩
  try simp only [nox_K, cx_K]
  wtm_at "rd"
  refine ⟨a, ns, rfl, hS, hlen, fun d c r H1 D1 s1 nd nc nr => ?_⟩
  wtm_at "rd"
  refine r_for (r_rng1 ?_)
  wtm_at "rd"
  refine r_upto (by decide) (by decide) ?_
  refine for_range (fun i σ H' => ∃ (y2 y3 y4 : Option V), σ = [some (.ref a), some (.ref d), y2, y3, y4] ∧ Drw H' d c r) ⟨_, _, _, rfl, D1⟩ ?_ ?_
  · rintro i σ H2 hi ⟨y2, y3, y4, rfl, D2⟩
    wtm_at "rd"
    refine ⟨d, c, r, rfl, D2, fun z H3 hz D3 E3 => ?_⟩
    rw [txt_S z]
    have hl : z.cps.toList.length ≤ 9000 := by
      rw [Array.length_toList]
      exact Nat.le_trans hz (by decide)
    revert hl
    generalize z.cps.toList = b
    intro hl
    wtm_at "rd"
    refine ⟨b, rfl, hl, fun t H4 ht s4 => ?_⟩
    wtm_at "rd"
    refine ⟨b, rfl, hl, fun t5 H5 ht5 s5 => ?_⟩
    have ht := s5 _ _ ht
    wtm_at "rd"
    refine r_neTT (SqT.of ht5) (SqT.of ht) res_eqD res_eqD (kind_refl _) ?_
    rw [decide_eq_true rfl]
    wtm_at "rdi"
    refine ⟨b, rfl, hl, fun t6 H6 ht6 s6 => ?_⟩
    have ht := s6 _ _ ht
    wtm_at "rd"
    refine r_neTT (SqT.of ht6) (SqT.of ht) res_eqD res_eqD (kind_refl _) ?_
    rw [decide_eq_true rfl]
    wtm_at "rdi"
    exact ⟨_, _, _, rfl, ((D3.same s4).same s5).same s6⟩
  · rintro σ H2 ⟨y2, y3, y4, rfl, D2⟩
    wtm_at "rd"
    exact q _
/- END -/
end
theorem all_mk {l : PySem.W.OpenLaw} {w : World} {K : PySem.W.Frag} {h : Heap} {mg : Str → Option Value} {fa : Addr} (X : K.In h) (G : h.Ns mainGlobals mg) (hfa : mg "law" = some (.ref fa))
    {C_WindowError : Addr}
    {C_TurnedStretch : Addr}
    {nm_TurnedStretch q_TurnedStretch : Str} {N_TurnedStretch : Addr} {bs_TurnedStretch bm_TurnedStretch : List Value} {sn_TurnedStretch : List Str} {sub_TurnedStretch : List Value} {ab_TurnedStretch : Bool} {col_TurnedStretch : Option Bool} {dd_TurnedStretch : Option Addr} {m0_TurnedStretch m1_TurnedStretch m2_TurnedStretch m3_TurnedStretch m5_TurnedStretch : Option Value}
    {C_BadText : Addr}
    {nm_BadText q_BadText : Str} {N_BadText : Addr} {bs_BadText bm_BadText : List Value} {sn_BadText : List Str} {sub_BadText : List Value} {ab_BadText : Bool} {col_BadText : Option Bool} {dd_BadText : Option Addr} {m0_BadText m1_BadText m2_BadText m3_BadText m5_BadText : Option Value}
    {C_Stretch : Addr}
    {tK_DIGITS : Tok}
    {tK_MOST_DIGITS : Tok}
    {od0 an0 : Option Addr} {sl0 : Array (Option Value)} {oc0 kV0 dc0 pm0 cd0 ct0 : Value} {f0 : Addr}
    {od1 an1 : Option Addr} {sl1 : Array (Option Value)} {oc1 kV1 dc1 pm1 cd1 ct1 : Value} {f1 : Addr}
    {od2 an2 : Option Addr} {sl2 : Array (Option Value)} {oc2 kV2 dc2 pm2 cd2 ct2 : Value} {f2 : Addr}
    {od3 an3 : Option Addr} {sl3 : Array (Option Value)} {oc3 kV3 dc3 pm3 cd3 ct3 : Value} {f3 : Addr}
    {od4 an4 : Option Addr} {sl4 : Array (Option Value)} {oc4 kV4 dc4 pm4 cd4 ct4 : Value} {f4 : Addr}
    {od5 an5 : Option Addr} {sl5 : Array (Option Value)} {oc5 kV5 dc5 pm5 cd5 ct5 : Value} {f5 : Addr}
    {od6 an6 : Option Addr} {sl6 : Array (Option Value)} {oc6 kV6 dc6 pm6 cd6 ct6 : Value} {f6 : Addr}
    {od7 an7 : Option Addr} {sl7 : Array (Option Value)} {oc7 kV7 dc7 pm7 cd7 ct7 : Value} {f7 : Addr}
    {od8 an8 : Option Addr} {sl8 : Array (Option Value)} {oc8 kV8 dc8 pm8 cd8 ct8 : Value} {f8 : Addr}
    {od9 an9 : Option Addr} {sl9 : Array (Option Value)} {oc9 kV9 dc9 pm9 cd9 ct9 : Value} {f9 : Addr}
    {od10 an10 : Option Addr} {sl10 : Array (Option Value)} {oc10 kV10 dc10 pm10 cd10 ct10 : Value} {f10 : Addr}
    {od11 an11 : Option Addr} {sl11 : Array (Option Value)} {oc11 kV11 dc11 pm11 cd11 ct11 : Value} {f11 : Addr}
    {od12 an12 : Option Addr} {sl12 : Array (Option Value)} {oc12 kV12 dc12 pm12 cd12 ct12 : Value} {f12 : Addr}
    {od13 an13 : Option Addr} {sl13 : Array (Option Value)} {oc13 kV13 dc13 pm13 cd13 ct13 : Value} {f13 : Addr}
    {od14 an14 : Option Addr} {sl14 : Array (Option Value)} {oc14 kV14 dc14 pm14 cd14 ct14 : Value} {f14 : Addr}
    {od15 an15 : Option Addr} {sl15 : Array (Option Value)} {oc15 kV15 dc15 pm15 cd15 ct15 : Value} {f15 : Addr}
    {od16 an16 : Option Addr} {sl16 : Array (Option Value)} {oc16 kV16 dc16 pm16 cd16 ct16 : Value} {f16 : Addr}
    {od17 an17 : Option Addr} {sl17 : Array (Option Value)} {oc17 kV17 dc17 pm17 cd17 ct17 : Value} {f17 : Addr}
    {od18 an18 : Option Addr} {sl18 : Array (Option Value)} {oc18 kV18 dc18 pm18 cd18 ct18 : Value} {f18 : Addr}
    (aC_WindowError : PySem.W.nsIn K mainGlobals "WindowError" = some (some (.ref C_WindowError)))
    (aC_TurnedStretch : PySem.W.nsIn K mainGlobals "TurnedStretch" = some (some (.ref C_TurnedStretch)))
    (aC_BadText : PySem.W.nsIn K mainGlobals "BadText" = some (some (.ref C_BadText)))
    (aC_Stretch : PySem.W.nsIn K mainGlobals "Stretch" = some (some (.ref C_Stretch)))
    (aC_DIGITS : PySem.W.nsIn K mainGlobals "DIGITS" = some (some (.str "0123456789" tK_DIGITS)))
    (aC_MOST_DIGITS : PySem.W.nsIn K mainGlobals "MOST_DIGITS" = some (some (.int 13 tK_MOST_DIGITS)))
    (a0 : PySem.W.findIn K (.ref C_TurnedStretch) "__init__" = some (some (.ref f0)))
    (i0 : PySem.W.isFn K (.ref f0) = true)
    (l0 : K.lookup f0 = some ⟨oc0, od0, .func (PySem.W.fnOf "__init__" "TurnedStretch.__init__" (defArgs s_TurnedStretch___init__) (defBody s_TurnedStretch___init__) (defScope s_TurnedStretch___init__) .none kV0 dc0 pm0 an0 cd0 ct0), sl0⟩)
    (c0 : PySem.W.codeIn K cd0 "TurnedStretch.__init__" = true)
    (k0 : PySem.W.keepIn K (.ref f0) = true)
    (a1 : PySem.W.findIn K (.ref C_BadText) "__init__" = some (some (.ref f1)))
    (i1 : PySem.W.isFn K (.ref f1) = true)
    (l1 : K.lookup f1 = some ⟨oc1, od1, .func (PySem.W.fnOf "__init__" "BadText.__init__" (defArgs s_BadText___init__) (defBody s_BadText___init__) (defScope s_BadText___init__) .none kV1 dc1 pm1 an1 cd1 ct1), sl1⟩)
    (c1 : PySem.W.codeIn K cd1 "BadText.__init__" = true)
    (k1 : PySem.W.keepIn K (.ref f1) = true)
    (a2 : PySem.W.findIn K (.ref C_Stretch) "__init__" = some (some (.ref f2)))
    (i2 : PySem.W.isFn K (.ref f2) = true)
    (l2 : K.lookup f2 = some ⟨oc2, od2, .func (PySem.W.fnOf "__init__" "Stretch.__init__" (defArgs s_Stretch___init__) (defBody s_Stretch___init__) (defScope s_Stretch___init__) .none kV2 dc2 pm2 an2 cd2 ct2), sl2⟩)
    (c2 : PySem.W.codeIn K cd2 "Stretch.__init__" = true)
    (k2 : PySem.W.keepIn K (.ref f2) = true)
    (a3 : PySem.W.nsIn K mainGlobals "number_end" = some (some (.ref f3)))
    (l3 : K.lookup f3 = some ⟨oc3, od3, .func (PySem.W.fnOf "number_end" "number_end" (defArgs s_number_end) (defBody s_number_end) (defScope s_number_end) .none kV3 dc3 pm3 an3 cd3 ct3), sl3⟩)
    (c3 : PySem.W.codeIn K cd3 "number_end" = true)
    (k3 : PySem.W.keepIn K (.ref f3) = true)
    (a4 : PySem.W.nsIn K mainGlobals "end_number" = some (some (.ref f4)))
    (l4 : K.lookup f4 = some ⟨oc4, od4, .func (PySem.W.fnOf "end_number" "end_number" (defArgs s_end_number) (defBody s_end_number) (defScope s_end_number) .none kV4 dc4 pm4 an4 cd4 ct4), sl4⟩)
    (c4 : PySem.W.codeIn K cd4 "end_number" = true)
    (k4 : PySem.W.keepIn K (.ref f4) = true)
    (a5 : PySem.W.nsIn K mainGlobals "scan_stretch" = some (some (.ref f5)))
    (l5 : K.lookup f5 = some ⟨oc5, od5, .func (PySem.W.fnOf "scan_stretch" "scan_stretch" (defArgs s_scan_stretch) (defBody s_scan_stretch) (defScope s_scan_stretch) .none kV5 dc5 pm5 an5 cd5 ct5), sl5⟩)
    (c5 : PySem.W.codeIn K cd5 "scan_stretch" = true)
    (k5 : PySem.W.keepIn K (.ref f5) = true)
    (a6 : PySem.W.nsIn K mainGlobals "read_stretch" = some (some (.ref f6)))
    (l6 : K.lookup f6 = some ⟨oc6, od6, .func (PySem.W.fnOf "read_stretch" "read_stretch" (defArgs s_read_stretch) (defBody s_read_stretch) (defScope s_read_stretch) .none kV6 dc6 pm6 an6 cd6 ct6), sl6⟩)
    (c6 : PySem.W.codeIn K cd6 "read_stretch" = true)
    (k6 : PySem.W.keepIn K (.ref f6) = true)
    (a7 : PySem.W.nsIn K mainGlobals "_law_begin" = some (some (.ref f7)))
    (l7 : K.lookup f7 = some ⟨oc7, od7, .func (PySem.W.fnOf "_law_begin" "_law_begin" (defArgs s__law_begin) (defBody s__law_begin) (defScope s__law_begin) .none kV7 dc7 pm7 an7 cd7 ct7), sl7⟩)
    (c7 : PySem.W.codeIn K cd7 "_law_begin" = true)
    (k7 : PySem.W.keepIn K (.ref f7) = true)
    (a8 : PySem.W.nsIn K mainGlobals "_law_draw" = some (some (.ref f8)))
    (l8 : K.lookup f8 = some ⟨oc8, od8, .func (PySem.W.fnOf "_law_draw" "_law_draw" (defArgs s__law_draw) (defBody s__law_draw) (defScope s__law_draw) .none kV8 dc8 pm8 an8 cd8 ct8), sl8⟩)
    (c8 : PySem.W.codeIn K cd8 "_law_draw" = true)
    (k8 : PySem.W.keepIn K (.ref f8) = true)
    (a9 : PySem.W.nsIn K mainGlobals "_law_sign" = some (some (.ref f9)))
    (l9 : K.lookup f9 = some ⟨oc9, od9, .func (PySem.W.fnOf "_law_sign" "_law_sign" (defArgs s__law_sign) (defBody s__law_sign) (defScope s__law_sign) .none kV9 dc9 pm9 an9 cd9 ct9), sl9⟩)
    (c9 : PySem.W.codeIn K cd9 "_law_sign" = true)
    (k9 : PySem.W.keepIn K (.ref f9) = true)
    (a10 : PySem.W.nsIn K mainGlobals "_law_short_end" = some (some (.ref f10)))
    (l10 : K.lookup f10 = some ⟨oc10, od10, .func (PySem.W.fnOf "_law_short_end" "_law_short_end" (defArgs s__law_short_end) (defBody s__law_short_end) (defScope s__law_short_end) .none kV10 dc10 pm10 an10 cd10 ct10), sl10⟩)
    (c10 : PySem.W.codeIn K cd10 "_law_short_end" = true)
    (k10 : PySem.W.keepIn K (.ref f10) = true)
    (a11 : PySem.W.nsIn K mainGlobals "_law_odd_end" = some (some (.ref f11)))
    (l11 : K.lookup f11 = some ⟨oc11, od11, .func (PySem.W.fnOf "_law_odd_end" "_law_odd_end" (defArgs s__law_odd_end) (defBody s__law_odd_end) (defScope s__law_odd_end) .none kV11 dc11 pm11 an11 cd11 ct11), sl11⟩)
    (c11 : PySem.W.codeIn K cd11 "_law_odd_end" = true)
    (k11 : PySem.W.keepIn K (.ref f11) = true)
    (a12 : PySem.W.nsIn K mainGlobals "_law_spoilt" = some (some (.ref f12)))
    (l12 : K.lookup f12 = some ⟨oc12, od12, .func (PySem.W.fnOf "_law_spoilt" "_law_spoilt" (defArgs s__law_spoilt) (defBody s__law_spoilt) (defScope s__law_spoilt) .none kV12 dc12 pm12 an12 cd12 ct12), sl12⟩)
    (c12 : PySem.W.codeIn K cd12 "_law_spoilt" = true)
    (k12 : PySem.W.keepIn K (.ref f12) = true)
    (a13 : PySem.W.nsIn K mainGlobals "_law_any_text" = some (some (.ref f13)))
    (l13 : K.lookup f13 = some ⟨oc13, od13, .func (PySem.W.fnOf "_law_any_text" "_law_any_text" (defArgs s__law_any_text) (defBody s__law_any_text) (defScope s__law_any_text) .none kV13 dc13 pm13 an13 cd13 ct13), sl13⟩)
    (c13 : PySem.W.codeIn K cd13 "_law_any_text" = true)
    (k13 : PySem.W.keepIn K (.ref f13) = true)
    (a14 : PySem.W.nsIn K mainGlobals "_law_is_end" = some (some (.ref f14)))
    (l14 : K.lookup f14 = some ⟨oc14, od14, .func (PySem.W.fnOf "_law_is_end" "_law_is_end" (defArgs s__law_is_end) (defBody s__law_is_end) (defScope s__law_is_end) .none kV14 dc14 pm14 an14 cd14 ct14), sl14⟩)
    (c14 : PySem.W.codeIn K cd14 "_law_is_end" = true)
    (k14 : PySem.W.keepIn K (.ref f14) = true)
    (a15 : PySem.W.nsIn K mainGlobals "_law_end_of" = some (some (.ref f15)))
    (l15 : K.lookup f15 = some ⟨oc15, od15, .func (PySem.W.fnOf "_law_end_of" "_law_end_of" (defArgs s__law_end_of) (defBody s__law_end_of) (defScope s__law_end_of) .none kV15 dc15 pm15 an15 cd15 ct15), sl15⟩)
    (c15 : PySem.W.codeIn K cd15 "_law_end_of" = true)
    (k15 : PySem.W.keepIn K (.ref f15) = true)
    (a16 : PySem.W.nsIn K mainGlobals "_law_due" = some (some (.ref f16)))
    (l16 : K.lookup f16 = some ⟨oc16, od16, .func (PySem.W.fnOf "_law_due" "_law_due" (defArgs s__law_due) (defBody s__law_due) (defScope s__law_due) .none kV16 dc16 pm16 an16 cd16 ct16), sl16⟩)
    (c16 : PySem.W.codeIn K cd16 "_law_due" = true)
    (k16 : PySem.W.keepIn K (.ref f16) = true)
    (a17 : PySem.W.nsIn K mainGlobals "_law_read" = some (some (.ref f17)))
    (l17 : K.lookup f17 = some ⟨oc17, od17, .func (PySem.W.fnOf "_law_read" "_law_read" (defArgs s__law_read) (defBody s__law_read) (defScope s__law_read) .none kV17 dc17 pm17 an17 cd17 ct17), sl17⟩)
    (c17 : PySem.W.codeIn K cd17 "_law_read" = true)
    (k17 : PySem.W.keepIn K (.ref f17) = true)
    (a18 : PySem.W.nsIn K mainGlobals "law" = some (some (.ref f18)))
    (l18 : K.lookup f18 = some ⟨oc18, od18, .func (PySem.W.fnOf "law" "law" (defArgs s_law) (defBody s_law) (defScope s_law) .none kV18 dc18 pm18 an18 cd18 ct18), sl18⟩)
    (c18 : PySem.W.codeIn K cd18 "law" = true)
    (k18 : PySem.W.keepIn K (.ref f18) = true)
    (z_abs : PySem.W.nsIn K mainGlobals "abs" = some none)
    (z_int : PySem.W.nsIn K mainGlobals "int" = some none)
    (z_isinstance : PySem.W.nsIn K mainGlobals "isinstance" = some none)
    (z_len : PySem.W.nsIn K mainGlobals "len" = some none)
    (z_min : PySem.W.nsIn K mainGlobals "min" = some none)
    (z_range : PySem.W.nsIn K mainGlobals "range" = some none)
    (z_repr : PySem.W.nsIn K mainGlobals "repr" = some none)
    (z_str : PySem.W.nsIn K mainGlobals "str" = some none)
    (ex_WindowError : PySem.W.subIn K (.ref C_WindowError) (.type "BaseException") = some true)
    (ty_WindowError : PySem.W.typeIn K (.ref C_WindowError) = some (.type "type"))
    (hd_WindowError : PySem.W.hasDictIn K C_WindowError = true)
    (ex_TurnedStretch : PySem.W.subIn K (.ref C_TurnedStretch) (.type "BaseException") = some true)
    (ty_TurnedStretch : PySem.W.typeIn K (.ref C_TurnedStretch) = some (.type "type"))
    (hd_TurnedStretch : PySem.W.hasDictIn K C_TurnedStretch = true)
    (xL_TurnedStretch : K.lookup C_TurnedStretch = some (excClassObj nm_TurnedStretch q_TurnedStretch C_TurnedStretch N_TurnedStretch bs_TurnedStretch bm_TurnedStretch true sn_TurnedStretch sub_TurnedStretch ab_TurnedStretch col_TurnedStretch dd_TurnedStretch m0_TurnedStretch m1_TurnedStretch m2_TurnedStretch m3_TurnedStretch m5_TurnedStretch "ValueError.__new__"))
    (bmr_TurnedStretch : PySem.HandSPX.refsVE bm_TurnedStretch = true)
    (sa_TurnedStretch : PySem.W.findIn K (.ref C_TurnedStretch) "__setattr__" = some (some (.builtin "object.__setattr__")))
    (kc_TurnedStretch : PySem.W.keepIn K (.ref C_TurnedStretch) = true)
    (ga_TurnedStretch : PySem.W.findIn K (.ref C_TurnedStretch) "__getattribute__" = some (some (.builtin "BaseException.__getattribute__")))
    (gg_TurnedStretch : PySem.W.findIn K (.ref C_TurnedStretch) "__getattr__" = some none)
    (tI_TurnedStretch : PySem.W.typeIn K (.ref f0) = some (.type "function"))
    (nf_TurnedStretch_low : PySem.W.findIn K (.ref C_TurnedStretch) "low" = some none)
    (nf_TurnedStretch_high : PySem.W.findIn K (.ref C_TurnedStretch) "high" = some none)
    (su_TurnedStretch_TurnedStretch : PySem.W.subIn K (.ref C_TurnedStretch) (.ref C_TurnedStretch) = some true)
    (is_TurnedStretch_TurnedStretch : PySem.W.isIn K (.ref C_TurnedStretch) C_TurnedStretch = true)
    (ex_BadText : PySem.W.subIn K (.ref C_BadText) (.type "BaseException") = some true)
    (ty_BadText : PySem.W.typeIn K (.ref C_BadText) = some (.type "type"))
    (hd_BadText : PySem.W.hasDictIn K C_BadText = true)
    (xL_BadText : K.lookup C_BadText = some (excClassObj nm_BadText q_BadText C_BadText N_BadText bs_BadText bm_BadText true sn_BadText sub_BadText ab_BadText col_BadText dd_BadText m0_BadText m1_BadText m2_BadText m3_BadText m5_BadText "ValueError.__new__"))
    (bmr_BadText : PySem.HandSPX.refsVE bm_BadText = true)
    (sa_BadText : PySem.W.findIn K (.ref C_BadText) "__setattr__" = some (some (.builtin "object.__setattr__")))
    (kc_BadText : PySem.W.keepIn K (.ref C_BadText) = true)
    (ga_BadText : PySem.W.findIn K (.ref C_BadText) "__getattribute__" = some (some (.builtin "BaseException.__getattribute__")))
    (gg_BadText : PySem.W.findIn K (.ref C_BadText) "__getattr__" = some none)
    (tI_BadText : PySem.W.typeIn K (.ref f1) = some (.type "function"))
    (nf_BadText_place : PySem.W.findIn K (.ref C_BadText) "place" = some none)
    (su_BadText_BadText : PySem.W.subIn K (.ref C_BadText) (.ref C_BadText) = some true)
    (is_BadText_BadText : PySem.W.isIn K (.ref C_BadText) C_BadText = true)
    (su_BadText_WindowError : PySem.W.subIn K (.ref C_BadText) (.ref C_WindowError) = some true)
    (is_BadText_WindowError : PySem.W.isIn K (.ref C_BadText) C_WindowError = true)
    (pg_Stretch : PySem.W.plainGet K C_Stretch Str.empty = true)
    (hd_Stretch : PySem.W.hasDictIn K C_Stretch = true)
    (po_Stretch : PySem.W.plainOver K C_Stretch = true)
    (sa_Stretch : PySem.W.findIn K (.ref C_Stretch) "__setattr__" = some (some (.builtin "object.__setattr__")))
    (mk_Stretch : PySem.W.makesIn K C_Stretch = true)
    (kc_Stretch : PySem.W.keepIn K (.ref C_Stretch) = true)
    (nf_Stretch_low : PySem.W.findIn K (.ref C_Stretch) "low" = some none)
    (nf_Stretch_high : PySem.W.findIn K (.ref C_Stretch) "high" = some none)
    (ca_Stretch : PySem.W.findIn K (.ref C_Stretch) "__class__" = some (some (.builtin "object.__class__")))
    (cn_Stretch : PySem.W.specialIn K (.builtin "object.__class__") "__get__" = some (some (.builtin "getset_descriptor.__get__")))
    (ct_Stretch : PySem.W.takesIn K (.builtin "object.__class__") = some true)
    (cm_Stretch : PySem.W.mroIn K C_Stretch (.type "object") = some true)
    : ∃ fd : FuncData, (∀ (s : Shared) (v : Value), BindsTo s fd ⟨[v], []⟩ [("_law_script", v)]) ∧ ∀ base : Heap, K.In base → base.Ns mainGlobals mg → FnG l.prog w K mg base CX0 10 fa fd ["_law_script"] (spLaw K) := by
  have e := hfa.symm.trans (PySem.W.mg_of X G a18)
  cases e
  have F0 := fun_mk (st := s_TurnedStretch___init__) l0 c0 k0
  have b0 := F0.binds (ps := ["self", "low", "high"]) fun _ _ _ _ _ _ us hl => match us, hl with | [_, _, _], _ => rfl
  have F1 := fun_mk (st := s_BadText___init__) l1 c1 k1
  have b1 := F1.binds (ps := ["self", "place"]) fun _ _ _ _ _ _ us hl => match us, hl with | [_, _], _ => rfl
  have F2 := fun_mk (st := s_Stretch___init__) l2 c2 k2
  have b2 := F2.binds (ps := ["self", "low", "high"]) fun _ _ _ _ _ _ us hl => match us, hl with | [_, _, _], _ => rfl
  have F3 := fun_mk (st := s_number_end) l3 c3 k3
  have b3 := F3.binds (ps := ["text", "place"]) fun _ _ _ _ _ _ us hl => match us, hl with | [_, _], _ => rfl
  have F4 := fun_mk (st := s_end_number) l4 c4 k4
  have b4 := F4.binds (ps := ["text", "first", "last"]) fun _ _ _ _ _ _ us hl => match us, hl with | [_, _, _], _ => rfl
  have F5 := fun_mk (st := s_scan_stretch) l5 c5 k5
  have b5 := F5.binds (ps := ["text", "place"]) fun _ _ _ _ _ _ us hl => match us, hl with | [_, _], _ => rfl
  have F6 := fun_mk (st := s_read_stretch) l6 c6 k6
  have b6 := F6.binds (ps := ["text"]) fun _ _ _ _ _ _ us hl => match us, hl with | [_], _ => rfl
  have F7 := fun_mk (st := s__law_begin) l7 c7 k7
  have b7 := F7.binds (ps := ["_law_script"]) fun _ _ _ _ _ _ us hl => match us, hl with | [_], _ => rfl
  have F8 := fun_mk (st := s__law_draw) l8 c8 k8
  have b8 := F8.binds (ps := ["_law_draws", "_law_many"]) fun _ _ _ _ _ _ us hl => match us, hl with | [_, _], _ => rfl
  have F9 := fun_mk (st := s__law_sign) l9 c9 k9
  have b9 := F9.binds (ps := ["_law_draws"]) fun _ _ _ _ _ _ us hl => match us, hl with | [_], _ => rfl
  have F10 := fun_mk (st := s__law_short_end) l10 c10 k10
  have b10 := F10.binds (ps := ["_law_draws"]) fun _ _ _ _ _ _ us hl => match us, hl with | [_], _ => rfl
  have F11 := fun_mk (st := s__law_odd_end) l11 c11 k11
  have b11 := F11.binds (ps := ["_law_draws"]) fun _ _ _ _ _ _ us hl => match us, hl with | [_], _ => rfl
  have F12 := fun_mk (st := s__law_spoilt) l12 c12 k12
  have b12 := F12.binds (ps := ["_law_draws", "_law_text"]) fun _ _ _ _ _ _ us hl => match us, hl with | [_, _], _ => rfl
  have F13 := fun_mk (st := s__law_any_text) l13 c13 k13
  have b13 := F13.binds (ps := ["_law_draws"]) fun _ _ _ _ _ _ us hl => match us, hl with | [_], _ => rfl
  have F14 := fun_mk (st := s__law_is_end) l14 c14 k14
  have b14 := F14.binds (ps := ["_law_text"]) fun _ _ _ _ _ _ us hl => match us, hl with | [_], _ => rfl
  have F15 := fun_mk (st := s__law_end_of) l15 c15 k15
  have b15 := F15.binds (ps := ["_law_text"]) fun _ _ _ _ _ _ us hl => match us, hl with | [_], _ => rfl
  have F16 := fun_mk (st := s__law_due) l16 c16 k16
  have b16 := F16.binds (ps := ["_law_text"]) fun _ _ _ _ _ _ us hl => match us, hl with | [_], _ => rfl
  have F17 := fun_mk (st := s__law_read) l17 c17 k17
  have b17 := F17.binds (ps := ["_law_text"]) fun _ _ _ _ _ _ us hl => match us, hl with | [_], _ => rfl
  have F18 := fun_mk (st := s_law) l18 c18 k18
  have b18 := F18.binds (ps := ["_law_script"]) fun _ _ _ _ _ _ us hl => match us, hl with | [_], _ => rfl
  let T : Txt K mg := {
    f_TurnedStretch___init__ := f0,
    d_TurnedStretch___init__ := _,
    F_TurnedStretch___init__ := F0,
    b_TurnedStretch___init__ := b0,
    f_BadText___init__ := f1,
    d_BadText___init__ := _,
    F_BadText___init__ := F1,
    b_BadText___init__ := b1,
    f_Stretch___init__ := f2,
    d_Stretch___init__ := _,
    F_Stretch___init__ := F2,
    b_Stretch___init__ := b2,
    f_number_end := f3,
    d_number_end := _,
    F_number_end := F3,
    b_number_end := b3,
    g_number_end := PySem.W.mg_of X G a3,
    f_end_number := f4,
    d_end_number := _,
    F_end_number := F4,
    b_end_number := b4,
    g_end_number := PySem.W.mg_of X G a4,
    f_scan_stretch := f5,
    d_scan_stretch := _,
    F_scan_stretch := F5,
    b_scan_stretch := b5,
    g_scan_stretch := PySem.W.mg_of X G a5,
    f_read_stretch := f6,
    d_read_stretch := _,
    F_read_stretch := F6,
    b_read_stretch := b6,
    g_read_stretch := PySem.W.mg_of X G a6,
    f__law_begin := f7,
    d__law_begin := _,
    F__law_begin := F7,
    b__law_begin := b7,
    g__law_begin := PySem.W.mg_of X G a7,
    f__law_draw := f8,
    d__law_draw := _,
    F__law_draw := F8,
    b__law_draw := b8,
    g__law_draw := PySem.W.mg_of X G a8,
    f__law_sign := f9,
    d__law_sign := _,
    F__law_sign := F9,
    b__law_sign := b9,
    g__law_sign := PySem.W.mg_of X G a9,
    f__law_short_end := f10,
    d__law_short_end := _,
    F__law_short_end := F10,
    b__law_short_end := b10,
    g__law_short_end := PySem.W.mg_of X G a10,
    f__law_odd_end := f11,
    d__law_odd_end := _,
    F__law_odd_end := F11,
    b__law_odd_end := b11,
    g__law_odd_end := PySem.W.mg_of X G a11,
    f__law_spoilt := f12,
    d__law_spoilt := _,
    F__law_spoilt := F12,
    b__law_spoilt := b12,
    g__law_spoilt := PySem.W.mg_of X G a12,
    f__law_any_text := f13,
    d__law_any_text := _,
    F__law_any_text := F13,
    b__law_any_text := b13,
    g__law_any_text := PySem.W.mg_of X G a13,
    f__law_is_end := f14,
    d__law_is_end := _,
    F__law_is_end := F14,
    b__law_is_end := b14,
    g__law_is_end := PySem.W.mg_of X G a14,
    f__law_end_of := f15,
    d__law_end_of := _,
    F__law_end_of := F15,
    b__law_end_of := b15,
    g__law_end_of := PySem.W.mg_of X G a15,
    f__law_due := f16,
    d__law_due := _,
    F__law_due := F16,
    b__law_due := b16,
    g__law_due := PySem.W.mg_of X G a16,
    f__law_read := f17,
    d__law_read := _,
    F__law_read := F17,
    b__law_read := b17,
    g__law_read := PySem.W.mg_of X G a17,
    f_law := fa,
    d_law := _,
    F_law := F18,
    b_law := b18,
    g_law := PySem.W.mg_of X G a18,
    z_abs := PySem.W.mg_none_of X G z_abs,
    z_int := PySem.W.mg_none_of X G z_int,
    z_isinstance := PySem.W.mg_none_of X G z_isinstance,
    z_len := PySem.W.mg_none_of X G z_len,
    z_min := PySem.W.mg_none_of X G z_min,
    z_range := PySem.W.mg_none_of X G z_range,
    z_repr := PySem.W.mg_none_of X G z_repr,
    z_str := PySem.W.mg_none_of X G z_str,
    C_WindowError := C_WindowError,
    g_WindowError := PySem.W.mg_of X G aC_WindowError,
    C_TurnedStretch := C_TurnedStretch,
    g_TurnedStretch := PySem.W.mg_of X G aC_TurnedStretch,
    ox_TurnedStretch := ⟨⟨nm_TurnedStretch, q_TurnedStretch, N_TurnedStretch, bs_TurnedStretch, bm_TurnedStretch, sn_TurnedStretch, sub_TurnedStretch, ab_TurnedStretch, col_TurnedStretch, dd_TurnedStretch, m0_TurnedStretch, m1_TurnedStretch, m2_TurnedStretch, m3_TurnedStretch, m5_TurnedStretch, xL_TurnedStretch, bmr_TurnedStretch⟩, sa_TurnedStretch, ex_TurnedStretch, ty_TurnedStretch, kc_TurnedStretch⟩,
    xf_TurnedStretch := ⟨ga_TurnedStretch, gg_TurnedStretch, ex_TurnedStretch, hd_TurnedStretch⟩,
    iC_TurnedStretch := a0,
    tI_TurnedStretch := tI_TurnedStretch,
    nf_TurnedStretch_low := nf_TurnedStretch_low,
    nf_TurnedStretch_high := nf_TurnedStretch_high,
    em_TurnedStretch_TurnedStretch := PySem.W.exm_ref ex_TurnedStretch hd_TurnedStretch ty_TurnedStretch su_TurnedStretch_TurnedStretch,
    is_TurnedStretch_TurnedStretch := is_TurnedStretch_TurnedStretch,
    C_BadText := C_BadText,
    g_BadText := PySem.W.mg_of X G aC_BadText,
    ox_BadText := ⟨⟨nm_BadText, q_BadText, N_BadText, bs_BadText, bm_BadText, sn_BadText, sub_BadText, ab_BadText, col_BadText, dd_BadText, m0_BadText, m1_BadText, m2_BadText, m3_BadText, m5_BadText, xL_BadText, bmr_BadText⟩, sa_BadText, ex_BadText, ty_BadText, kc_BadText⟩,
    xf_BadText := ⟨ga_BadText, gg_BadText, ex_BadText, hd_BadText⟩,
    iC_BadText := a1,
    tI_BadText := tI_BadText,
    nf_BadText_place := nf_BadText_place,
    em_BadText_BadText := PySem.W.exm_ref ex_BadText hd_BadText ty_BadText su_BadText_BadText,
    is_BadText_BadText := is_BadText_BadText,
    em_BadText_WindowError := PySem.W.exm_ref ex_WindowError hd_WindowError ty_WindowError su_BadText_WindowError,
    is_BadText_WindowError := is_BadText_WindowError,
    C_Stretch := C_Stretch,
    g_Stretch := PySem.W.mg_of X G aC_Stretch,
    c_Stretch := ⟨pg_Stretch, hd_Stretch, po_Stretch, sa_Stretch⟩,
    m_Stretch := ⟨mk_Stretch, a2, i2, kc_Stretch⟩,
    nf_Stretch_low := nf_Stretch_low,
    nf_Stretch_high := nf_Stretch_high,
    ca_Stretch := ca_Stretch,
    cn_Stretch := cn_Stretch,
    ct_Stretch := ct_Stretch,
    cm_Stretch := cm_Stretch,
    t_DIGITS := tK_DIGITS,
    g_DIGITS := PySem.W.mg_of X G aC_DIGITS,
    t_MOST_DIGITS := tK_MOST_DIGITS,
    g_MOST_DIGITS := PySem.W.mg_of X G aC_MOST_DIGITS }
  exact ⟨PySem.W.fnOf "law" "law" (defArgs s_law) (defBody s_law) (defScope s_law) .none kV18 dc18 pm18 an18 cd18 ct18, fun s v => .of_eq rfl, fun base _ _ => ok_law T⟩
end Wr
open PySem PySem.W PyProof.Rows
set_option maxRecDepth 100000 in
set_option maxHeartbeats 0 in
theorem PySem.Challenge.cw_windowrows_k15_any_text_as_a_stretch_holds : PySem.Challenge.rw_windowrows_k15_any_text_as_a_stretch.Holds := by
  w_on; o_law; k_head; (case hw => w_witness2)
  k_fill
  refine Wr.walk_ofG (l := PySem.Challenge.rw_windowrows_k15_any_text_as_a_stretch) (n := 63) (k := 10) (x := "_law_script") (sp := fun w => Wr.spLaw _) rfl (by decide) rfl ⟨rfl, by decide, by decide⟩ (fun w h Y => PySem.W.kIn_of Y) ?F (fun _ _ a ns hl _ hS => ⟨a, ns, rfl, hS, hl, fun _ => rfl⟩)
  case F =>
    intro w mg fa h KX G hmg
    refine' Wr.all_mk KX G hmg ?aC_WindowError ?aC_TurnedStretch ?aC_BadText ?aC_Stretch ?aC_DIGITS ?aC_MOST_DIGITS ?a0 ?i0 ?l0 ?c0 ?k0 ?a1 ?i1 ?l1 ?c1 ?k1 ?a2 ?i2 ?l2 ?c2 ?k2 ?a3 ?l3 ?c3 ?k3 ?a4 ?l4 ?c4 ?k4 ?a5 ?l5 ?c5 ?k5 ?a6 ?l6 ?c6 ?k6 ?a7 ?l7 ?c7 ?k7 ?a8 ?l8 ?c8 ?k8 ?a9 ?l9 ?c9 ?k9 ?a10 ?l10 ?c10 ?k10 ?a11 ?l11 ?c11 ?k11 ?a12 ?l12 ?c12 ?k12 ?a13 ?l13 ?c13 ?k13 ?a14 ?l14 ?c14 ?k14 ?a15 ?l15 ?c15 ?k15 ?a16 ?l16 ?c16 ?k16 ?a17 ?l17 ?c17 ?k17 ?a18 ?l18 ?c18 ?k18 ?z_abs ?z_int ?z_isinstance ?z_len ?z_min ?z_range ?z_repr ?z_str ?ex_WindowError ?ty_WindowError ?hd_WindowError ?ex_TurnedStretch ?ty_TurnedStretch ?hd_TurnedStretch ?xL_TurnedStretch ?bmr_TurnedStretch ?sa_TurnedStretch ?kc_TurnedStretch ?ga_TurnedStretch ?gg_TurnedStretch ?tI_TurnedStretch ?nf_TurnedStretch_low ?nf_TurnedStretch_high ?su_TurnedStretch_TurnedStretch ?is_TurnedStretch_TurnedStretch ?ex_BadText ?ty_BadText ?hd_BadText ?xL_BadText ?bmr_BadText ?sa_BadText ?kc_BadText ?ga_BadText ?gg_BadText ?tI_BadText ?nf_BadText_place ?su_BadText_BadText ?is_BadText_BadText ?su_BadText_WindowError ?is_BadText_WindowError ?pg_Stretch ?hd_Stretch ?po_Stretch ?sa_Stretch ?mk_Stretch ?kc_Stretch ?nf_Stretch_low ?nf_Stretch_high ?ca_Stretch ?cn_Stretch ?ct_Stretch ?cm_Stretch
    (case aC_WindowError => k_is)
    (case aC_TurnedStretch => k_is)
    (case aC_BadText => k_is)
    (case aC_Stretch => k_is)
    (case aC_DIGITS => k_is)
    (case aC_MOST_DIGITS => k_is)
    (case a0 => k_is)
    (case i0 => k_is)
    (case l0 => k_is)
    (case c0 => k_is)
    (case k0 => k_is)
    (case a1 => k_is)
    (case i1 => k_is)
    (case l1 => k_is)
    (case c1 => k_is)
    (case k1 => k_is)
    (case a2 => k_is)
    (case i2 => k_is)
    (case l2 => k_is)
    (case c2 => k_is)
    (case k2 => k_is)
    (case a3 => k_is)
    (case l3 => k_is)
    (case c3 => k_is)
    (case k3 => k_is)
    (case a4 => k_is)
    (case l4 => k_is)
    (case c4 => k_is)
    (case k4 => k_is)
    (case a5 => k_is)
    (case l5 => k_is)
    (case c5 => k_is)
    (case k5 => k_is)
    (case a6 => k_is)
    (case l6 => k_is)
    (case c6 => k_is)
    (case k6 => k_is)
    (case a7 => k_is)
    (case l7 => k_is)
    (case c7 => k_is)
    (case k7 => k_is)
    (case a8 => k_is)
    (case l8 => k_is)
    (case c8 => k_is)
    (case k8 => k_is)
    (case a9 => k_is)
    (case l9 => k_is)
    (case c9 => k_is)
    (case k9 => k_is)
    (case a10 => k_is)
    (case l10 => k_is)
    (case c10 => k_is)
    (case k10 => k_is)
    (case a11 => k_is)
    (case l11 => k_is)
    (case c11 => k_is)
    (case k11 => k_is)
    (case a12 => k_is)
    (case l12 => k_is)
    (case c12 => k_is)
    (case k12 => k_is)
    (case a13 => k_is)
    (case l13 => k_is)
    (case c13 => k_is)
    (case k13 => k_is)
    (case a14 => k_is)
    (case l14 => k_is)
    (case c14 => k_is)
    (case k14 => k_is)
    (case a15 => k_is)
    (case l15 => k_is)
    (case c15 => k_is)
    (case k15 => k_is)
    (case a16 => k_is)
    (case l16 => k_is)
    (case c16 => k_is)
    (case k16 => k_is)
    (case a17 => k_is)
    (case l17 => k_is)
    (case c17 => k_is)
    (case k17 => k_is)
    (case a18 => k_is)
    (case l18 => k_is)
    (case c18 => k_is)
    (case k18 => k_is)
    (case z_abs => k_is)
    (case z_int => k_is)
    (case z_isinstance => k_is)
    (case z_len => k_is)
    (case z_min => k_is)
    (case z_range => k_is)
    (case z_repr => k_is)
    (case z_str => k_is)
    (case ex_WindowError => k_is)
    (case ty_WindowError => k_is)
    (case hd_WindowError => k_is)
    (case ex_TurnedStretch => k_is)
    (case ty_TurnedStretch => k_is)
    (case hd_TurnedStretch => k_is)
    (case xL_TurnedStretch => k_is)
    (case bmr_TurnedStretch => decide +kernel)
    (case sa_TurnedStretch => k_is)
    (case kc_TurnedStretch => k_is)
    (case ga_TurnedStretch => k_is)
    (case gg_TurnedStretch => k_is)
    (case tI_TurnedStretch => k_is)
    (case nf_TurnedStretch_low => k_is)
    (case nf_TurnedStretch_high => k_is)
    (case su_TurnedStretch_TurnedStretch => first | rfl | k_is)
    (case is_TurnedStretch_TurnedStretch => first | k_is | rfl)
    (case ex_BadText => k_is)
    (case ty_BadText => k_is)
    (case hd_BadText => k_is)
    (case xL_BadText => k_is)
    (case bmr_BadText => decide +kernel)
    (case sa_BadText => k_is)
    (case kc_BadText => k_is)
    (case ga_BadText => k_is)
    (case gg_BadText => k_is)
    (case tI_BadText => k_is)
    (case nf_BadText_place => k_is)
    (case su_BadText_BadText => first | rfl | k_is)
    (case is_BadText_BadText => first | k_is | rfl)
    (case su_BadText_WindowError => first | rfl | k_is)
    (case is_BadText_WindowError => first | k_is | rfl)
    (case pg_Stretch => k_is)
    (case hd_Stretch => k_is)
    (case po_Stretch => k_is)
    (case sa_Stretch => k_is)
    (case mk_Stretch => k_is)
    (case kc_Stretch => k_is)
    (case nf_Stretch_low => k_is)
    (case nf_Stretch_high => k_is)
    (case ca_Stretch => k_is)
    (case cn_Stretch => k_is)
    (case ct_Stretch => k_is)
    (case cm_Stretch => k_is)
