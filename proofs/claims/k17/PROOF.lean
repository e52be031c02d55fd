import PyProof.Rows.All
import Wide.All
import OpenK.AllK
import Wide.FinOn
import HandS.ForMost
import HandS.Exc
import HandS.TryOnly
import HandS.TryMany
import HandS.ExcOwn
import HandS.ExcInit
import HandS.WordsExc
import KE.KExcInit
import KE.KExcRaise
import HandS.ExcCtx
import HandS.Hot
import HandS.HotCalls
import HandS.SuiteRaise
import HandS.Comp
import HandS.SetFor
import HandS.SortInts
import HandS.SortKw
import KE.KMinBuiltin
import HandS.Strs
import HandS.CallLocal
import HandS.Defaults
import HandS.HeadEnd
import PyProof.ReprRoads
import PyProof.CallFns
import HandS.DictComp
import HandS.Style
import HandS.Walk
import HandS.IsInst
import HandS.ListEq
import HandS.Wide
import HandS.Zip
import PySem.Challenge.RW_everygrain_k17_whole_only_packs_are_read
import HandS.Evl
import KE.KStateDown
import Lean
import HandS.Ends
import HandS.More
import HandS.Words
import HandS.Head0
import HandS.Head1
import HandS.Head2
import HandS.HeadHook1
import HandS.HeadHook2
set_option Elab.async false
set_option linter.all false
set_option maxRecDepth 100000
set_option maxHeartbeats 4000000
/-! Own rules, part one: an own exception class over Exception whose maker only calls the base's maker; it is raised by a call without arguments. -/
namespace L2.EG
open PySem PySem.Spec PyProof.Rows

abbrev excMro : List Value := [.type "Exception", .type "BaseException", .type "object"]
/-- what the written part tells of such a class -/
structure ExF (K : PySem.W.Frag) (C fI : Addr) : Prop where
  shape : PySem.W.excInitIn K C excMro "Exception.__new__" = true
  ini : PySem.W.findIn K (.ref C) "__init__" = some (some (.ref fI))
  tyI : PySem.W.typeIn K (.ref fI) = some (.type "function")
  kp : PySem.W.keepIn K (.ref C) = true
  sub : PySem.W.subIn K (.ref C) (.type "BaseException") = some true
  ty : PySem.W.typeIn K (.ref C) = some (.type "type")
/-- what the maker promises: it changes nothing that is told -/
def spIni (C : Addr) : Sp := fun vs H Q _ => ∃ a : Addr, vs = [.ref a] ∧ H a = some (exo a C none) ∧ Q .non H

section
variable {X : Cx} {C fI : Addr} {pins : List (Addr × Obj)} {σ : St} {H : Hp} {s : Shared}

/-- the base's maker on the exception that is being made -/
theorem base_ini {A : Around} {Ex : Value → Shared → Prop} {a : Addr} {us : List Value} {Q : Value → Shared → Prop} (T : ExF X.K C fI) (I : Inv X pins σ H s) (ea : H a = some (exo a C none)) (hz : us.length ≤ sizeLine)
    (go : ∀ s', Inv X pins σ H s' → Q .none s') : wpAny (model X.prog X.w) A (call (.builtin "Exception.__init__") (.ref a :: us)) Q Ex s := by
  obtain ⟨nm, N, q, bs, bm, hd, sn, sub, ab, col, dd, k0, k1, k2, k3, k5, hC, hT⟩ := PySem.W.excInit_of I.kIn T.shape
  obtain ⟨t0, h0⟩ := exo_at I.hok ea
  obtain ⟨hp, g, dr, tk, os⟩ := s
  refine wpAny_call (PySem.HandSPX.init_base F.excBase_Exception hT hC h0 hz fun h2 t2 kb h2a => ?_)
  have J := I.write (t' := tk) (x := a) (e := a) (o := exo a C none) (by rw [ea]; trivial) (Or.inl rfl) kb ⟨_, h2a⟩ (exo_ok h2a)
  have same : upd H a (exo a C none) = H := funext fun b => by
    unfold upd
    split
    · next hb => rw [hb, ea]
    · rfl
  rw [same] at J
  exact go _ J

/-- the call's end: the exception is let go, all else stands -/
theorem made_end {hp hp2 h2 : Heap} {g1 g2 : Array GenState} {d1 d2 : Drawn} {t1 t2 : Nat} {os1 os2 : OsState} {a : Addr} {Q : XK}
    (T : ExF X.K C fI) (I1 : Inv X pins σ H ⟨hp, g1, d1, t1, os1⟩) (big : hp.objs.size ≤ a) (kk : ∀ b o, hp.get? b = some o → hp2.get? b = some o)
    (un : Un (frs X.stack) [] (upd H a (exo a C none)) (upd H a (exo a C none)) hp2 h2) (hok : HOk X.prog X.w (upd H a (exo a C none)) h2) (eo : os2 = os1) (bare : AllBare g2) (q : Q (.ref C) none H) :
    MkP X pins σ Q (.ref a) ⟨h2, g2, d2, t2, os2⟩ := by
  have na : H a = none := I1.hok.fresh big
  obtain ⟨t0, hoe⟩ := exo_at hok upd_same
  obtain ⟨G, gin, gout⟩ := restrict h2 fun b => decide (b ≠ a)
  have gk : ∀ b, b ≠ a → G.get? b = h2.get? b := fun b hb => gin b (decide_eq_true hb)
  have ga : G.get? a = none := gout a (by simp)
  have old : ∀ {b : Addr} {o : Obj}, hp.get? b = some o → b ≠ a := fun {b o} z => Nat.ne_of_lt (Nat.lt_of_lt_of_le (Heap.lt_size z) big)
  have off : ∀ {b : Addr}, b ≠ a → H b = none → upd H a (exo a C none) b = none := fun hb n => (upd_ne hb).trans n
  have trk : ∀ {b : Addr} {u : HO}, H b = some u → b ≠ a := fun z => ne_of_none z na
  have U : Un (frs X.stack) [] H H hp G :=
    { keep := fun b o z n hf hx => (gk b (old z)).trans (un.keep b o (kk b o z) (off (old z) n) hf hx)
      slot := fun b o z n hf hx => by
        obtain ⟨sl, e⟩ := un.slot b o (kk b o z) (off (old z) n) hf hx
        exact ⟨sl, (gk b (old z)).trans e⟩
      free := fun _ _ _ n _ => n
      there := fun b o z hx => by
        obtain ⟨o', e⟩ := un.there b o (kk b o z) hx
        exact ⟨o', (gk b (old z)).trans e⟩
      tups := fun _ _ z => z
      frzs := fun _ _ _ z => z
      tbls := fun _ ps z => ⟨#[], by rw [z]; simp⟩ }
  have hokG : HOk X.prog X.w H G := fun b o z => by
    have nb := trk z
    refine (hok b o ((upd_ne nb).trans z)).stay (fun c u hc y => ?_) (fun c hc => ?_) fun c xs hc => ?_
    · have nc : c ≠ a := by
        rcases hc with hc | hc
        · exact fun e => nb (hc.symm.trans e)
        · exact at_ne upd_same hc exo_own
      rw [gk c nc]
      exact y
    · have nc : c ≠ a := at_ne upd_same hc exo_own
      exact (upd_ne nc).symm.trans hc
    · have nc : c ≠ a := at_ne upd_same hc exo_tup
      exact (upd_ne nc).symm.trans hc
  have J : Inv X pins σ H ⟨G, g2, d2, t2, os2⟩ := I1.call' (ch := []) eo U hokG bare (fun _ z => nomatch z)
  refine ⟨a, _, _, ⟨G, g2, d2, t2, os2⟩, H, .ref C, none, rfl, J, fun b o z => ?_, ga, hoe, ⟨rfl, rfl⟩, rfl, rfl, na, rfl, bare, raises_own T.sub T.ty, q⟩
  have nb : b ≠ a := fun e => by
    have z' : G.get? b = some o := z
    rw [e, ga] at z'
    cases z'
  exact (gk b nb).symm.trans z

/-- C(), C such a class -/
theorem pmk_ex {x : Str} {p pos : Pos} {k : Nat} {fd : FuncData} (T : ExF X.K C fI) (F1 : FnOk X.prog X.w X.K X.mg X.base CX0 k fI fd ["self"] (spIni C)) (hr : Room (k + 1) X.A) (hb : Binds X.K fd ["self"] []) (hg : Gl X x) (hm : X.mg x = some (.ref C))
    (hdb : (x == ("__debug__" : Str)) = false := by decide) : PMk X (.Call (.Name x p) [] [] pos) (fun _ H Q => Q (.ref C) none H) := by
  intro pins s σ H Q I h
  refine wpAny_Call_Name_kw (ld_glob I hg hm ?_ hdb)
  refine PySem.W.callWith_K0 I.kIn T.kp ?_
  obtain ⟨nm, N, q, bs, bm, hd, sn, sub, ab, col, dd, k0, k1, k2, k3, k5, hC, hT⟩ := PySem.W.excInit_of I.kIn T.shape
  obtain ⟨hp, g, dr, tk, os⟩ := s
  have big : hp.objs.size ≤ hp.objs.size + 1 := Nat.le_succ _
  have kk : ∀ b o, hp.get? b = some o → ((hp.push (PySem.W.kdv_tup [])).push (PySem.HandSPX.excO C hp.objs.size)).get? b = some o :=
    fun b o e => Heap.get?_push_of_some _ (Heap.get?_push_of_some _ e)
  have at_ : ((hp.push (PySem.W.kdv_tup [])).push (PySem.HandSPX.excO C hp.objs.size)).get? (hp.objs.size + 1) = some (PySem.HandSPX.excO C hp.objs.size) := by heap_get
  have I2 : Inv X pins σ (upd H (hp.objs.size + 1) (exo (hp.objs.size + 1) C none)) ⟨(hp.push (PySem.W.kdv_tup [])).push (PySem.HandSPX.excO C hp.objs.size), g, dr, tk, os⟩ :=
    I.laid (t' := tk) (a := hp.objs.size + 1) (o := exo (hp.objs.size + 1) C none) (h' := (hp.push (PySem.W.kdv_tup [])).push (PySem.HandSPX.excO C hp.objs.size)) kk big (exo_ok at_)
  have b1 := hb ⟨(hp.push (PySem.W.kdv_tup [])).push (PySem.HandSPX.excO C hp.objs.size), g, dr, tk, os⟩ [Value.ref (hp.objs.size + 1)] I2.kIn rfl
  refine wpAny_call (PySem.HandSPX.call_own F.excBase_Exception hT hC (PySem.W.looks_findIn I.kIn T.ini) (fun self => PySem.W.bind_fn I.kIn self T.tyI) (Nat.zero_le _)
    (codeAny_mono (F1.run _ X.stack _ _ ⟨[Value.ref (hp.objs.size + 1)], []⟩ [Value.ref (hp.objs.size + 1)] [V.ref (hp.objs.size + 1)]
      (fun v H2 => v = .non ∧ H2 = upd H (hp.objs.size + 1) (exo (hp.objs.size + 1) C none)) (fun _ _ _ => False) (hr.make C [] []) (I2.env0.make C [] []) b1 (.cons rfl .nil) ⟨_, rfl, upd_same, rfl, rfl⟩) fun r s' hq => ?_))
  cases r with
  | error er => exact hq.elim
  | ok fl =>
    cases fl with
    | ret u =>
      obtain ⟨v, H2, eo, bare, un, hok, rv, ev, eH⟩ := hq
      subst ev
      subst eH
      obtain ⟨h2, g2, d2, t2, os2⟩ := s'
      exact ⟨rv, made_end T I big kk un hok eo bare h⟩
    | next => exact False.elim hq
    | brk => exact False.elim hq
    | cont => exact False.elim hq
end

/-! ### the maker's own body: G.__init__(self, 'text') -/
/-- what the written part tells of the base G -/
structure GrF (K : PySem.W.Frag) (mg : Str → Option Value) (G : Addr) : Prop where
  mgG : mg "GrainError" = some (.ref G)
  ga : PySem.W.specialIn K (.ref G) "__getattribute__" = some (some (.builtin "type.__getattribute__"))
  rd : PySem.W.readsIn K G (.type "type") = true
  val : PySem.W.findCls K (.ref G) (.type "type") "__init__" = some (.val (.builtin "Exception.__init__"))
def tGin (K : PySem.W.Frag) (ta : TA) : TE := fun σ H Q => ta σ H fun vs H1 => ∃ (a C fI : Addr) (ws : List V), vs = .ref a :: ws ∧ ws.length ≤ 1000 ∧ ExF K C fI ∧ H1 a = some (exo a C none) ∧ Q .non H1
section
variable {X : Cx} {e : Expr} {es : List Expr} {ta : TA} {p1 p2 pos : Pos} {G : Addr}
theorem pe_gin {pl : Sem Bool} (T : GrF X.K X.mg G) (hg : Gl X "GrainError") (ha : PA X (e :: es) ta)
    (hc : eval (.Call (.Attribute (.Name "GrainError" p1) "__init__" p2) (e :: es) [] pos) X.env = (do
      let ov ← eval (.Name "GrainError" p1) X.env
      standAt p2.atName
      let (f, first) ← holding [ov] (getMethod ov "__init__" pl)
      callWith pos f first (backTo pos (starEach (e :: es) X.env)) (backToKw pos (keywordEach [] X.env))) := by rfl)
    (he : starEach (e :: es) X.env = (false, eval e X.env) :: starEach es X.env := by rfl) (hpl : (backTo pos (starEach es X.env)).any (·.1) = false := by rfl) :
    PE X (.Call (.Attribute (.Name "GrainError" p1) "__init__" p2) (e :: es) [] pos) (tGin X.K ta) := by
  refine ⟨fun pins s σ H Q I hq => ?_⟩
  refine PySem.W.methodCall_KW (ld_glob I hg T.mgG ?_ (by decide)) hc
  refine PySem.W.method_cls I.kIn T.ga (PySem.W.cls_value I.kIn T.rd T.val (by decide +kernel) ?_)
  refine PyProof.Rows.callWith_method1 (thn (ha.run pos pins _ σ H _ (I.tok _) hq) fun us s1 hu => ?_) he hpl
  obtain ⟨vs, H1, I1, r1, a, C, fI, ws, ev, hl, E, ea, q⟩ := hu
  subst ev
  cases r1 with
  | @cons _ u0 _ ur ra rw' =>
    obtain rfl : u0 = Value.ref a := ra
    have hz : ur.length ≤ sizeLine := by
      have e1 := Paired.length rw'
      rw [sizeLine_eq]
      omega
    exact base_ini E I1 ea hz fun s' J => ⟨.non, H1, J, rfl, q⟩
end
end L2.EG

set_option Elab.async false
set_option linter.all false
set_option maxRecDepth 100000
set_option maxHeartbeats 4000000
/-! Own rules, part two: try: .. except (A, B): one statement; raise. -/
namespace L2.EG
open PySem PySem.Spec PyProof.Rows

section
variable {X : Cx} {pins : List (Addr × Obj)} {σ : St} {H : Hp} {s : Shared}
/-- some untracked records, made since the entry and pinned by nobody, may be left out of the state -/
theorem _root_.L2.Inv.without {G : Heap} {D : Addr → Prop} (I : Inv X pins σ H s) (gin : ∀ b, ¬ D b → G.get? b = s.heap.get? b) (d0 : ∀ b, D b → X.s_0.heap.get? b = none) (dH : ∀ b, D b → H b = none)
    (df : ∀ b, D b → ∃ o vs, s.heap.get? b = some o ∧ o.data = .fields vs) (dp : ∀ b, D b → ∀ p ∈ X.pn ++ pins, p.1 ≠ b) : Inv X pins σ H { s with heap := G } := by
  have n0 : ∀ {b : Addr} {o : Obj}, X.s_0.heap.get? b = some o → ¬ D b := fun {b o} e d => by rw [d0 b d] at e; cases e
  have ncell : ∀ {c : Addr} {v : Option Value}, s.heap.IsCell c v → ¬ D c := fun {c v} ⟨o, ho, hd⟩ d => by
    obtain ⟨o2, vs, e, f⟩ := df c d
    rw [ho] at e
    cases e
    rw [hd] at f
    cases f
  have keepC : ∀ {c : Addr} {v : Option Value}, s.heap.IsCell c v → G.IsCell c v := fun {c v} z => by
    have nd := ncell z
    obtain ⟨o, ho, hd⟩ := z
    exact ⟨o, (gin c nd).trans ho, hd⟩
  obtain ⟨m, hn, hl⟩ := id I.loc
  obtain ⟨oL, es, ep, hoL, hdL, hrL⟩ := id hn
  have nL : ¬ D X.env.locals := fun d => by
    obtain ⟨o2, vs, e, f⟩ := df _ d
    rw [hoL] at e
    cases e
    rw [hdL] at f
    cases f
  refine ⟨I.ok, I.os, I.bare, ⟨fun b o e n hb hx => ?_, fun b o e n hb hx => ?_, I.base.free, fun b o e hx => ?_, I.base.tups, I.base.frzs, I.base.tbls⟩, ⟨m, ⟨oL, es, ep, (gin _ nL).trans hoL, hdL, hrL⟩, fun i x v e1 e2 e3 => ?_⟩, fun x c e => ?_, I.free, I.freeC, fun p hp => ?_, fun b o e => ?_, I.len⟩
  · exact (gin b (n0 e)).trans (I.base.keep b o e n hb hx)
  · obtain ⟨sl, z⟩ := I.base.slot b o e n hb hx
    exact ⟨sl, (gin b (n0 e)).trans z⟩
  · obtain ⟨o', z⟩ := I.base.there b o e hx
    exact ⟨o', (gin b (n0 e)).trans z⟩
  · obtain ⟨u, r, q⟩ := hl i x v e1 e2 e3
    refine ⟨u, r, ?_⟩
    rcases q with q | ⟨k, c, e, z⟩
    · exact .inl q
    · exact .inr ⟨k, c, e, keepC z⟩
  · obtain ⟨v, z⟩ := I.cell x c e
    exact ⟨v, keepC z⟩
  · obtain ⟨e, r⟩ := I.pin p hp
    exact ⟨(gin p.1 fun d => dp _ d p hp rfl).trans e, r⟩
  · have trk : ∀ {c : Addr} {u : HO}, H c = some u → ¬ D c := fun {c u} q d => by rw [dH c d] at q; cases q
    refine (I.hok b o e).stay (fun c u hc z => (gin c ?_).trans z) (fun _ z => z) fun _ _ z => z
    rcases hc with hc | hc
    · rw [hc]
      exact trk e
    · exact trk hc

/-- more is kept: it flies on -/
theorem flying_keeps {B h h' : Heap} {l : List Env} {a : Addr} {Z : Obj → Prop} (k : ∀ b o, h.get? b = some o → h'.get? b = some o) (f : HandSPX.FlyingZ B l a Z h) : HandSPX.FlyingZ B l a Z h' := by
  obtain ⟨st, bn, fr, oe, vs, T, oT, ts, r1, r2, r3, r4, r5, r6, r7, r8, r9⟩ := f
  exact ⟨fun b o e => k b o (st b o e), bn, fr.of_keeps fun b o e _ => ⟨o, k b o e, rfl⟩, oe, vs, T, oT, ts, k _ _ r1, r2, r3, r4, r5, r6, k _ _ r7, r8, r9⟩
end

/-- what the clause wishes of an exception of the body: it is one of the two, and behind the suite's statement it flies on -/
def wRe (K : PySem.W.Frag) (c1 c2 : Value) (ts : TS) (Wout : WX) : WX := fun cls d σ H =>
  PySem.W.exmAny K cls [c1, c2] = some true ∧ ts { nx := fun σ' H' => Wout cls d σ' H', rt := fun _ _ => False } σ H

section
variable {X : Cx} {x1 x2 : Str} {C1 C2 : Addr} {body : List Stmt} {st : Stmt} {q1 q2 tp pos pos' rp : Pos} {tk : Nat} {tb : WX → TS} {ts : TS} {Wout : WX}
theorem ps_try_re (hs : X.stack = X.env :: X.outer) (hf : X.env.frame = some X.env.locals) (hex : X.ex = []) (g1 : Gl X x1) (m1 : X.mg x1 = some (.ref C1)) (g2 : Gl X x2) (m2 : X.mg x2 = some (.ref C2))
    (hpa : ∀ hd : Option Value, PassesOwnAt (model X.prog X.w) (X.A.mark hd) X.A X.env X.xe) (tkO : Takes X Wout)
    (hb : ∀ (W : WX) (pn : List (Addr × Obj)) (xe : Value → Shared → Prop), Takes (X.tr pn xe) W → PassesOwn (model X.prog X.w) X.A X.env xe → PSs (X.tr pn xe) body (tb W))
    (hsu : ∀ (a : Addr) (pn : List (Addr × Obj)), PS (X.suite a pn) st ts)
    (n1 : (x1 == ("__debug__" : Str)) = false := by decide) (n2 : (x2 == ("__debug__" : Str)) = false := by decide)
    (st1 : ∀ env, starEach [.Name x1 q1, .Name x2 q2] env = (false, eval (.Name x1 q1) env) :: starEach [.Name x2 q2] env := by intro _; rfl)
    (st2 : ∀ env, starEach [.Name x2 q2] env = [(false, eval (.Name x2 q2) env)] := by intro _; rfl) :
    PS X (.Try body [.ExceptHandler (some (.Tuple [.Name x1 q1, .Name x2 q2] tk tp)) none [st, .Raise none none rp] pos'] [] [] pos) (fun D σ H => tb (wRe X.K (.ref C1) (.ref C2) ts Wout) D σ H) := by
  refine ⟨fun pins s σ H D I h => ?_⟩
  have ok := I.ok
  have hfr : X.A.frames = some (X.env :: X.outer) := by rw [ok.frames, hs]
  refine wpAny_Try_except ?_
  refine wpAny_mono ((hb (wRe X.K (.ref C1) (.ref C2) ts Wout) (X.pn ++ pins) (fun e s1 => wpAny (model X.prog X.w) X.A (noteFrame e X.env) (fun _ s2 => wpAny (model X.prog X.w) X.A (setFlight e none) (fun _ s3 =>
    wpAny (model X.prog X.w) X.A (handleBy e X.env [.ExceptHandler (some (.Tuple [.Name x1 q1, .Name x2 q2] tk tp)) none [st, .Raise none none rp] pos']) (SP X pins D) X.xe s3) X.xe s2) X.xe s1) (fun u s' air => ?_) PassesOwn.looking).run [] s σ H D (I.toTry _) h) (fun f s1 hsp => ?_) (fun e s1 he => he)
  · obtain ⟨a, B, sI, pins', σ', H', cls, d, rfl, J', nb, up, sky, na, os, ag, hx, hts⟩ := air
    have J : Inv X pins σ' H' sI := J'.ofTry ok
    rw [hs] at sky
    have nb' : ∀ b o, sI.heap.get? b = some o → b ∉ frs (X.env :: X.outer) → B.get? b = some o := fun b o e hm => nb b o e (by rw [hs]; exact hm)
    show wpAny (model X.prog X.w) X.A (noteFrame (.ref a) X.env) _ _ _
    refine Sky.land Zc.steady hfr hf sky fun h3 fl3 up3 => ?_
    have J3 : Inv X pins σ' H' { s' with heap := h3 } := J.landed nb fl3.1 (up.trans up3) os ag
    -- the clause's tuple
    refine wpAny_handleBy_cons (codeAny_handlers_test ?_) (by intro q; cases q)
    obtain ⟨oe3, vs3, he3, hz3, hd3⟩ := fl3.there
    have notFr : ∀ {hh : Heap} {b : Addr} {o : Obj} {vs : Array Value}, hh.FunFrames B (X.env :: X.outer) → hh.get? b = some o → o.data = .fields vs → b ∉ frs (X.env :: X.outer) := fun ff e dd hm => by
      obtain ⟨_, o', e', hnf⟩ := ff.mem hm
      rw [e] at e'
      cases e'
      exact hnf _ dd
    have nLF : ∀ {b : Addr}, b ∉ frs (X.env :: X.outer) → b ≠ X.env.locals ∧ b ∉ X.fs := fun {b} hb => by
      refine ⟨fun z => hb (List.mem_filterMap.mpr ⟨X.env, List.mem_cons_self, by rw [hf, z]⟩), fun hm => ?_⟩
      obtain ⟨e, he, q⟩ := List.mem_filterMap.mp hm
      exact hb (List.mem_filterMap.mpr ⟨e, List.mem_cons_of_mem _ he, q⟩)
    have afr : a ∉ frs (X.env :: X.outer) := notFr fl3.2.2.1 he3 hd3
    have S3 := J3.suite he3 hd3 na (nLF afr).1 (nLF afr).2
    refine Tuple_ ?_
    rw [st1]
    show wpAny _ _ (spliced ((false, eval (.Name x1 q1) X.env) :: backTo tp (starEach [.Name x2 q2] X.env))) _ _ _
    refine Calls.spliced_cons (ld_glob (X := X.suite a ((a, oe3) :: (X.pn ++ pins))) S3 g1 m1 ?_ n1)
    rw [st2]
    show wpAny _ _ (spliced ((false, eval (.Name x2 q2) X.env) :: [])) _ _ _
    refine Calls.spliced_cons (ld_glob (X := X.suite a ((a, oe3) :: (X.pn ++ pins))) S3 g2 m2 ?_ n2)
    refine Calls.spliced_nil ?_
    refine wpAny_newObj_type ?_ (by show 2 ≤ sizeLine; decide)
    have kp : ∀ b o, h3.get? b = some o → (h3.push { cls := .type "tuple", data := .seq [Value.ref C1, Value.ref C2].toArray }).get? b = some o := fun b o e => Heap.get?_push_of_some _ e
    have LT : PySem.W.Looks (model X.prog X.w) h3 (typeOf (.ref a)) cls := fun A Q E s k q => wpAny_typeOf_ref (k _ _ he3) (by rw [hz3.1]; exact q)
    have LM := PySem.W.exm_tup2 (M := model X.prog X.w) (c1 := .ref C1) (c2 := .ref C2) (J3.kIn.keeps kp) (LT.keeps kp) (Heap.get?_push_size h3 rfl) hx
    refine LM.here ?_
    show codeAny _ _ _ _ _
    -- the suite
    refine codeAny_handlers_suite ?_
    refine HandSPX.lands_againZ (flying_keeps kp fl3) fun h4 fl4 up4 => ?_
    have upAll : sI.heap.UpToSlots h4 := ((up.trans up3).trans (Heap.UpToSlots.of_keeps kp)).trans up4
    have J4 : Inv X pins σ' H' { s' with heap := h4 } := J.landed nb fl4.1 upAll os ag
    obtain ⟨stB, bna, ffB, oe, vs, T, oT, tl, he, hz, hd, hv1, bnT, nTa, hT, hdT, hv3⟩ := id fl4
    have Tfr : T ∉ frs (X.env :: X.outer) := notFr ffB hT hdT
    have sIn : ∀ {b : Addr}, B.get? b = none → b ∉ frs (X.env :: X.outer) → sI.heap.get? b = none := fun {b} e hm => by
      cases q : sI.heap.get? b with
      | none => rfl
      | some o =>
        have z := nb' b o q hm
        rw [e] at z
        cases z
    have TH : H' T = none := (J.inGround nb).gone bnT
    have S4 := J4.suite he hd na (nLF afr).1 (nLF afr).2
    have S4' : Inv (X.suite a ((a, oe) :: (X.pn ++ pins))) [(T, oT)] σ' H' { s' with heap := h4 } := S4.pins_of fun p hp => by
      rcases List.mem_singleton.mp hp with rfl
      exact ⟨hT, TH, (nLF Tfr).1, (nLF Tfr).2, fun v z => by rw [hdT] at z; cases z⟩
    have finish : ∀ {Q : Flow → Shared → Prop}, wpAny (model X.prog X.w) (X.A.mark (some (.ref a))) (execs [st, .Raise none none rp] X.env) Q X.xe { s' with heap := h4 } := fun {Q} => by
      refine wpAny_execs_cons (wpAny_mono ((hsu a ((a, oe) :: (X.pn ++ pins))).run [(T, oT)] _ σ' H' _ S4' hts) (fun f s6 hsp => ?_) (fun _ _ z => False.elim z))
      cases f with
      | brk =>
        obtain ⟨_, _, _, q⟩ := hsp
        exact False.elim q
      | cont =>
        obtain ⟨_, _, _, q⟩ := hsp
        exact False.elim q
      | ret u =>
        obtain ⟨_, _, _, _, _, q⟩ := hsp
        exact False.elim q
      | next =>
        obtain ⟨σ6, H6, S6, w6⟩ := hsp
        have J6 : Inv X [] σ6 H6 s6 := (S6.pins_of (pins' := []) fun p hp => nomatch hp).unsuite (pins := pins) (q := (a, oe)) ok |>.pins_of fun p hp => nomatch hp
        have J6' : Inv X pins σ6 H6 s6 := (S6.pins_of (pins' := []) fun p hp => nomatch hp).unsuite (pins := pins) (q := (a, oe)) ok
        obtain ⟨a6, aH6, _, _, _⟩ := S6.pin (a, oe) (List.mem_append_left _ List.mem_cons_self)
        obtain ⟨T6, TH6, _, _, _⟩ := S6.pin (T, oT) (List.mem_append_right _ List.mem_cons_self)
        -- the state without the exception and its record
        obtain ⟨G, gin, gout⟩ := restrict s6.heap fun b => decide (b ≠ a ∧ b ≠ T)
        have gin' : ∀ b, ¬ (b = a ∨ b = T) → G.get? b = s6.heap.get? b := fun b hb => gin b (decide_eq_true ⟨fun e => hb (.inl e), fun e => hb (.inr e)⟩)
        have Ga : G.get? a = none := gout a (by simp)
        have GT : G.get? T = none := gout T (by simp)
        have no0 : ∀ {b : Addr}, sI.heap.get? b = none → X.s_0.heap.get? b = none := fun {b} e => by
          cases q : X.s_0.heap.get? b with
          | none => rfl
          | some o =>
            obtain ⟨o', z⟩ := J.base.there b o q (by rw [hex]; exact List.not_mem_nil)
            rw [e] at z
            cases z
        have noP : ∀ {b : Addr}, sI.heap.get? b = none → ∀ p ∈ X.pn ++ pins, p.1 ≠ b := fun {b} e p hp z => by
          have y := (J.pin p hp).1
          rw [z, e] at y
          cases y
        have GI : Inv X pins σ6 H6 { s6 with heap := G } := J6'.without (D := fun b => b = a ∨ b = T) gin'
          (fun b hb => by rcases hb with rfl | rfl; exact no0 (sIn bna afr); exact no0 (sIn bnT Tfr))
          (fun b hb => by rcases hb with rfl | rfl; exact aH6; exact TH6)
          (fun b hb => by rcases hb with rfl | rfl; exact ⟨_, _, a6, hd⟩; exact ⟨_, _, T6, hdT⟩)
          (fun b hb => by rcases hb with rfl | rfl; exact noP (sIn bna afr); exact noP (sIn bnT Tfr))
        have Gs : ∀ b o, G.get? b = some o → s6.heap.get? b = some o := fun b o e => by
          have nd : ¬ (b = a ∨ b = T) := fun z => by
            rcases z with rfl | rfl
            · rw [Ga] at e; cases e
            · rw [GT] at e; cases e
          exact (gin' b nd).symm.trans e
        have BG : ∀ {b : Addr} {o : Obj}, (PySem.W.hideAll G (frs X.stack)).get? b = some o → G.get? b = some o := fun e => PySem.W.of_hideAll _ e
        have Bn : ∀ {b : Addr}, G.get? b = none → (PySem.W.hideAll G (frs X.stack)).get? b = none := fun {b} e => by
          cases q : (PySem.W.hideAll G (frs X.stack)).get? b with
          | none => rfl
          | some o =>
            have z := BG q
            rw [e] at z
            cases z
        have ff6 : s6.heap.FunFrames (PySem.W.hideAll G (frs X.stack)) X.stack := funFrames_none J6'.stack fun b hb => PySem.W.hideAll_none _ hb
        refine wpAny_execs_cons (PySem.wpAny_Raise_bare ?_)
        unfold PySem.raiseBare raiseStmt
        dsimp only
        refine wpAny_bind (wpAny_handled ?_)
        rw [show (X.A.mark (some (.ref a))).handled = some (.ref a) from rfl]
        dsimp only
        refine wpAny_bind (wpAny_rule ?_)
        refine wpAny_bind (wpAny_field a6 hd hv1 ?_)
        rw [if_neg (show ¬ ((Value.ref T == Value.none) = true) from by simp)]
        have fin : wpAny (model X.prog X.w) (X.A.mark (some (.ref a))) (setFlight (.ref a) X.env.frame) (fun _ s7 => wpAny (model X.prog X.w) (X.A.mark (some (.ref a))) (throw (.ref a) : Sem Flow)
            (fun f s8 => match f with | .next => wpAny (model X.prog X.w) (X.A.mark (some (.ref a))) (execs [] X.env) Q X.xe s8 | f => Q f s8) X.xe s7) X.xe s6 := by
          rw [hf]
          refine HandSPX.setFlight_anyZ (Z := Zc cls d) (fl := tl.getD 3 .none) (fun b o e => Gs b o (BG e)) ff6 ⟨oe, vs, T, oT, tl, a6, hz, hd, hv1, Bn GT, nTa, T6, hdT, ?_⟩ fun h7 k1 k2 k3 k4 => wpAny_throw (tkO _ _ ?_)
          · rw [Array.getD_eq_getD_getElem?, hv3] <;> rfl
          · refine ⟨a, PySem.W.hideAll G (frs X.stack), { s6 with heap := G }, pins, σ6, H6, cls, d, rfl, GI, fun b o e hb => PySem.W.hideAll_get _ e hb, (Heap.UpToSlots.of_keeps Gs).trans k4, .inr (.inr ⟨k1, Bn Ga, k2, k3⟩), aH6, rfl, J6'.bare, w6⟩
        first
          | exact wpAny_bind fin
          | exact wpAny_bind (wpAny_pure (wpAny_bind fin))
    exact wpAny_mono finish (fun f s6 z => z) (fun e6 s6 z => hpa (some (.ref a)) e6 s6 z)
  · cases f with
    | next =>
      obtain ⟨σ', H', J', q⟩ := hsp
      exact wpAny_execs_nil ⟨σ', H', J'.ofTry ok, q⟩
    | brk =>
      obtain ⟨σ', H', J', q⟩ := hsp
      exact ⟨σ', H', J'.ofTry ok, q⟩
    | cont =>
      obtain ⟨σ', H', J', q⟩ := hsp
      exact ⟨σ', H', J'.ofTry ok, q⟩
    | ret u =>
      obtain ⟨v, σ', H', J', r, q⟩ := hsp
      exact ⟨v, σ', H', J'.ofTry ok, r, q⟩
end
end L2.EG

set_option Elab.async false
set_option linter.all false
set_option maxRecDepth 100000
set_option maxHeartbeats 4000000
/-! Own rules, part three: a list comprehension (one clause, as a value) whose element may raise. -/
namespace L2.EG
open PySem PySem.Spec PyProof.Rows

theorem note_frame {e : Value} {en en' : Env} (h : en.frame = en'.frame) : noteFrame e en = noteFrame e en' := by
  unfold noteFrame PySem.frameOf
  rw [h]
theorem frames_at {B h h' : Heap} : ∀ {l : List Env}, h.FunFrames B l → (∀ L ∈ frs l, h'.get? L = h.get? L) → h'.FunFrames B l
  | [], _, _ => trivial
  | env :: l, z, e => by
    obtain ⟨hk, ⟨L, o, hf, hn, ho, hd⟩, hr⟩ := z
    refine ⟨hk, ⟨L, o, hf, hn, ?_, hd⟩, frames_at hr fun b hb => e b ?_⟩
    · rw [e L (List.mem_filterMap.mpr ⟨env, List.mem_cons_self, hf⟩)]
      exact ho
    · obtain ⟨x, hx, q⟩ := List.mem_filterMap.mp hb
      exact List.mem_filterMap.mpr ⟨x, List.mem_cons_of_mem _ hx, q⟩

/-- the end of the block, whichever: its variables are let go -/
def cpX (M : Model) (A : Around) (Ex : Value → Shared → Prop) (Qv : Value → Shared → Prop) (acc : Value) (ce : Env) (r : Result) (s' : Shared) : Prop :=
  match r with
  | .ok _ => ∃ m, s'.heap.Ns ce.locals m ∧ ∀ h', Heap.SameBut ce.locals s'.heap h' → Qv acc { s' with heap := h' }
  | .error x => ∃ m, s'.heap.Ns ce.locals m ∧ ∀ h', Heap.SameBut ce.locals s'.heap h' → wpAny M A (passOn "comprehension.variables-let-go" x ce : Sem Value) (fun _ _ => False) Ex { s' with heap := h' }

theorem comp_rule {M : Model} {A : Around} {Ex : Value → Shared → Prop} {s : Shared} {env : Env} {e : Expr} {scope : Scope} {pos : Pos} {newAcc first : Sem Value} {g : Comprehension} {gs : List Comprehension} {cl : List (Str × Addr)} {Qv : Value → Shared → Prop}
    (hcl : clausesOf e = g :: gs) (hs : ∀ x, foldedSetIterable g.iter env x = pure x) (hclos : closureFor scope env = pure cl) (hkind : scope.kind = .function) (hnames : ∀ y ∈ scope.names, y.2 = .local → scope.names.lookup y.1 = some .local)
    (h : wpAny M A first (fun x s1 => wpAny M A (pyIter x) (fun it s2 => wpAny M A newAcc (fun acc s3 =>
      wpAny M A (newFunctionEnv scope env.globals cl [] env.qual none .none (some env)) (fun ce s4 =>
        codeAny M A (.compStart e 0 it acc { ce with scope := relabel scope env }) (cpX M A Ex Qv acc { ce with scope := relabel scope env }) s4) Ex s3) Ex s2) Ex s1) Ex s) :
    wpAny M A (comprehension e scope env pos newAcc false first none) Qv Ex s := by
  unfold comprehension
  rw [hclos, hcl]
  refine wpAny_bind (wpAny_mono h (fun x s1 k1 => ?_) fun _ _ z => z)
  refine wpAny_bind (wpAny_standAt (wpAny_bind (wpAny_of_eq (hs x) (wpAny_bind (wpAny_holding (wpAny_mono k1 (fun it s2 k2 => ?_) fun _ _ z => z))))))
  refine wpAny_standIf (wpAny_bind (wpAny_mono k2 (fun acc s3 k3 => wpAny_bind (wpAny_pure (wpAny_bind (wpAny_mono k3 (fun ce s4 k4 => ?_) fun _ _ z => z)))) fun _ _ z => z))
  dsimp only
  have own : ∀ y ∈ (scope.names.filter fun y => (y.2 == .local || y.2 == .cell) && y.1 != (".0" : Str)).reverse, y.2 = .local → Env.kindOf { ce with scope := relabel scope env } y.1 = some .local :=
    fun y hy hl => lookup_relabel_local (hnames y (List.mem_filter.mp (List.mem_reverse.mp hy)).1 hl)
  refine wpAny_holding (wpAny_bind (wpAny_attempt (wpAny_holding (wpAny_run (codeAny_mono k4 fun r s5 k5 => ?_)))))
  cases r with
  | ok f =>
    obtain ⟨m, hn, go⟩ := k5
    exact wpAny_bind (wpAny_holding (wpAny_comp_letGo (cenv := { ce with scope := relabel scope env }) hkind _ s5 m own hn fun h' m' _ hs' => wpAny_pure (go h' hs')))
  | error x =>
    obtain ⟨m, hn, go⟩ := k5
    exact wpAny_bind (wpAny_holding (wpAny_comp_letGo (cenv := { ce with scope := relabel scope env }) hkind _ s5 m own hn fun h' m' _ hs' => wpAny_mono (go h' hs') (fun _ _ f => f.elim) fun _ _ y => y))

/-- the block's context, with a wish about exceptions -/
abbrev blkx (X : Cx) (s : Shared) (H : Hp) (scope : Scope) (ce : Env) (fp : List Addr) (xe : Value → Shared → Prop) : Cx := { X.blk s H scope ce fp with xe := xe }
section
variable {X : Cx} {pins : List (Addr × Obj)} {σ : St} {H : Hp} {s s' : Shared}
/-- what a call let out flies over the frames that run; without its own objects the state is one of ours -/
theorem air_of_call {E : XK} (I : Inv X pins σ H s) {u : Value} (c : CX X.prog X.w X.stack H s E u s') :
    ∃ (a : Addr) (B : Heap) (sI : Shared) (pins' : List (Addr × Obj)) (σ' : St) (H' : Hp) (cls : Value) (d : Option Addr), u = .ref a ∧ Inv X pins' σ' H' sI ∧ (∀ b o, sI.heap.get? b = some o → b ∉ frs X.stack → B.get? b = some o) ∧
      sI.heap.UpToSlots s'.heap ∧ HandSPX.FlyingZ B X.stack a (Zc cls d) s'.heap ∧ H' a = none ∧ s'.os = sI.os ∧ AllBare s'.gens ∧ E cls d H' := by
  obtain ⟨a0, B0, H0, cls0, d0, e0, fl0, _⟩ := id c
  obtain ⟨a, B, sI, pins', σ', H', cls, d, e1, J, nb, up, sky, na, os, ag, hE⟩ := XE.of_call (W := fun cls d _ H2 => E cls d H2) I (fun _ _ _ h => h) c
  refine ⟨a, B, sI, pins', σ', H', cls, d, e1, J, nb, up, ?_, na, os, ag, hE⟩
  rw [e0] at e1
  cases e1
  obtain ⟨_, _, _, oe, vs, T, oT, ts, y1, _, y3, y4, _, _, y7, y8, y9⟩ := fl0
  rcases sky with ⟨_, _, _, oe2, vs2, z1, _, z3, z4⟩ | fl | hh
  · rw [y1] at z1
    cases z1
    rw [y3] at z3
    cases z3
    rw [y4] at z4
    cases z4
  · exact fl
  · obtain ⟨_, _, _, oe2, vs2, T2, oT2, ts2, z1, _, z3, z4, _, _, z7, z8, z9⟩ := hh
    rw [y1] at z1
    cases z1
    rw [y3] at z3
    cases z3
    rw [y4] at z4
    cases z4
    rw [y7] at z7
    cases z7
    rw [y8] at z8
    cases z8
    rw [y9] at z9
    cases z9

/-- an exception leaves the block, and flies on in the def -/
theorem block_raises {E : XK} {Qv : Value → Shared → Prop} {acc : Value} {ce : Env} {fp : List Addr} {scope : Scope} {s3 : Shared} {H3 : Hp} {Ex : Value → Shared → Prop} {pins5 : List (Addr × Obj)} {σ5 : St} {H5 : Hp} {s5 : Shared} {e : Value}
    (hs : X.stack = X.env :: X.outer) (hf : X.env.frame = some X.env.locals) (tk : Takes X (fun cls d _ H => E cls d H)) (hce : ce.frame = X.env.frame) (I3 : Inv X pins σ H3 s3) (big : s3.heap.objs.size ≤ ce.locals)
    (f3 : ∀ b ∈ fp, FpOk X pins H3 b) (I5 : Inv (blkx X s3 H3 scope ce fp Ex) pins5 σ5 H5 s5) (c : CX X.prog X.w X.stack H5 s5 E e s') :
    notedBy (model X.prog X.w) X.A ce (fun x s2 => cpX (model X.prog X.w) X.A X.xe Qv acc ce (.error x) s2) e s' := by
  obtain ⟨a, B, sI, pins6, σ6, H6, cls, d, rfl, I6, nb, up, fl, na, os, ag, hE⟩ := air_of_call I5 c
  have nb : ∀ b o, sI.heap.get? b = some o → b ∉ frs (X.env :: X.outer) → B.get? b = some o := fun b o e hb => nb b o e (by show b ∉ frs X.stack; rw [hs]; exact hb)
  have fl : HandSPX.FlyingZ B (X.env :: X.outer) a (Zc cls d) s'.heap := by rw [← hs]; exact fl
  have hfr : X.A.frames = some (X.env :: X.outer) := by rw [I3.ok.frames, hs]
  show wpAny _ _ (noteFrame (.ref a) ce) _ _ _
  rw [note_frame hce]
  refine HandSPX.looks_onZ Zc.steady hfr hf fl fun h7 hh7 up7 => ?_
  -- the state without the exception, in the def's context
  have J6 : Inv X pins σ H6 sI := I3.call' (ch := fp) I6.os I6.base I6.hok I6.bare fun b hb => ⟨(f3 b hb).2.2.2.1, (f3 b hb).2.1, (f3 b hb).2.2.2.2.1, (f3 b hb).2.2.2.2.2⟩
  obtain ⟨m6, hn6, _⟩ := I6.loc
  have hn6 : sI.heap.Ns ce.locals m6 := hn6
  have C0 : H6 ce.locals = none := I6.free
  obtain ⟨oC, eC, pC, hC, dC, rC⟩ := id hn6
  have Cfr : ce.locals ∉ frs (X.env :: X.outer) := fun hm => by
    obtain ⟨L, o, ho, _⟩ := I3.stack.mem (by rw [hs]; exact hm)
    exact absurd (Nat.lt_of_lt_of_le (Heap.lt_size ho) big) (Nat.lt_irrefl _)
  have hC7 : h7.get? ce.locals = some oC := hh7.1 _ _ (nb _ _ hC Cfr)
  refine ⟨m6, ⟨oC, eC, pC, hC7, dC, rC⟩, fun h8 sb => ?_⟩
  obtain ⟨stB, bna, ffB, oe, vs, T, oT, tl, r1, r2, r3, r4, r5, r6, r7, r8, r9⟩ := hh7
  have nrec : ∀ {b : Addr} {o : Obj} {ws : Array Value}, h7.get? b = some o → o.data = .fields ws → b ≠ ce.locals := fun {b o ws} e f z => by
    rw [z, hC7] at e
    cases e
    rw [dC] at f
    cases f
  have a8 : h8.get? a = some oe := (sb.2 a (nrec r1 r3)).trans r1
  have T8 : h8.get? T = some oT := (sb.2 T (nrec r7 r8)).trans r7
  -- without the block's variables too
  obtain ⟨G, gin, gout⟩ := restrict sI.heap fun b => decide (b ≠ ce.locals)
  have gin' : ∀ b, b ≠ ce.locals → G.get? b = sI.heap.get? b := fun b hb => gin b (decide_eq_true hb)
  have GC : G.get? ce.locals = none := gout _ (by simp)
  have GI : Inv X pins σ H6 { sI with heap := G } := by
    have fC : FpOk X pins H6 ce.locals := I3.fpOk big C0
    exact J6.turned (t' := sI.toks) (fun b o hb e => (gin' b hb).trans e) fC.1 fC.2.1 fC.2.2.2.1 fC.2.2.2.2.1 fC.2.2.2.2.2
  have Gs : ∀ {b : Addr} {o : Obj}, G.get? b = some o → sI.heap.get? b = some o ∧ b ≠ ce.locals := fun {b o} e => by
    have nb : b ≠ ce.locals := fun z => by rw [z, GC] at e; cases e
    exact ⟨(gin' b nb).symm.trans e, nb⟩
  obtain ⟨B', bin, bout⟩ := restrict B fun b => decide (b ≠ ce.locals)
  have bin' : ∀ b, b ≠ ce.locals → B'.get? b = B.get? b := fun b hb => bin b (decide_eq_true hb)
  have BC : B'.get? ce.locals = none := bout _ (by simp)
  have Bs : ∀ {b : Addr} {o : Obj}, B'.get? b = some o → B.get? b = some o ∧ b ≠ ce.locals := fun {b o} e => by
    have nb : b ≠ ce.locals := fun z => by rw [z, BC] at e; cases e
    exact ⟨(bin' b nb).symm.trans e, nb⟩
  have Bn : ∀ {b : Addr}, B.get? b = none → B'.get? b = none := fun {b} e => by
    cases q : B'.get? b with
    | none => rfl
    | some o =>
      have z := (Bs q).1
      rw [e] at z
      cases z
  have ff8 : h8.FunFrames B' (X.env :: X.outer) := by
    refine frames_at (h := h7) (funFrames_none ffB fun L hL => ?_) fun L hL => sb.2 L fun z => Cfr (by rw [← z]; exact hL)
    obtain ⟨hb, _⟩ := ffB.mem hL
    exact Bn hb
  unfold PySem.passOn
  refine wpAny_bind (wpAny_field a8 r3 r4 ?_)
  rw [if_neg (show ¬ ((Value.ref T == Value.none) = true) from by simp)]
  have fin : wpAny (model X.prog X.w) X.A (setFlight (.ref a) ce.frame) (fun _ s9 => wpAny (model X.prog X.w) X.A (throw (.ref a) : Sem Value) (fun _ _ => False) X.xe s9) X.xe { s' with heap := h8 } := by
    rw [hce, hf]
    refine HandSPX.setFlight_anyZ (Z := Zc cls d) (fl := rawInt X.env.locals) (base := B') (l := X.env :: X.outer) (fun b o e => (sb.2 b (Bs e).2).trans (stB b o (Bs e).1)) ff8 ⟨oe, vs, T, oT, tl, a8, r2, r3, r4, Bn r5, r6, T8, r8, r9⟩
      fun h9 k1 k2 k3 k4 => wpAny_throw (tk _ _ ?_)
    refine ⟨a, B', { sI with heap := G }, pins, σ, H6, cls, d, rfl, GI, fun b o e hb => ?_, ?_, .inr (.inr (by rw [hs]; exact ⟨k1, Bn bna, k2, k3⟩)), na, os, ag, hE⟩
    · rw [bin' b (Gs e).2]
      exact nb b o (Gs e).1 (by rw [← hs]; exact hb)
    · refine Heap.UpToSlots.trans (h₂ := h8) (fun b o e hn => ?_) k4
      obtain ⟨e1, e2⟩ := Gs e
      obtain ⟨sl, z⟩ := (up.trans up7) b o e1 hn
      exact ⟨sl, (sb.2 b e2).trans z⟩
  first
    | exact wpAny_bind fin
    | exact wpAny_bind (wpAny_pure (wpAny_bind fin))

/-- THE RULE: he's last premise says that what E wishes may leave the element -/
theorem pe_lcX {E : XK} {elt tg iter : Expr} {ifs : List Expr} {scope : Scope} {own : List (Str × Nat)} {pos : Pos} {wi : TI} {g : TG} {tt : TT} {te : TE} (hs : X.stack = X.env :: X.outer) (hf : X.env.frame = some X.env.locals)
    (tk : Takes X (fun cls d _ H => E cls d H)) (hc : X.calm = true) (hN : X.N.Nodup) (hi : PI X tg iter wi) (ok : BlkOk X.N X.env.scope scope own)
    (hg : ∀ (s : Shared) (H : Hp) (C : Addr) (cl : List (Str × Addr)) (fp : List Addr) (xe : Value → Shared → Prop), PG (blkx X s H scope (compEnvC scope cl C X.env) fp xe) tg g)
    (ht : ∀ (s : Shared) (H : Hp) (C : Addr) (cl : List (Str × Addr)) (fp : List Addr) (xe : Value → Shared → Prop), PTs (blkx X s H scope (compEnvC scope cl C X.env) fp xe) ifs tt)
    (he : ∀ (s : Shared) (H : Hp) (C : Addr) (cl : List (Str × Addr)) (fp : List Addr) (xe : Value → Shared → Prop), (∀ σ, PassesAt (CX X.prog X.w) (blkx X s H scope (compEnvC scope cl C X.env) fp xe) σ E) →
      PE (blkx X s H scope (compEnvC scope cl C X.env) fp xe) elt te)
    (hst : ∀ x, foldedSetIterable iter X.env x = pure x := by intro _; rfl) : PE X (.ListComp elt [⟨tg, iter, ifs, 0⟩] scope pos) (tLc wi g tt te (own.map (·.2))) := by
  refine ⟨fun pins s σ H Q I h => ?_⟩
  rw [eval_ListComp]
  have hfree : ∀ y ∈ scope.names, y.2 = .free → ∃ c, X.env.cells.lookup y.1 = some c := fun y hy e => by
    rcases ok.free y hy e with k | k
    · exact I.ok.has _ (.inl k)
    · exact I.ok.has _ (.inr k)
  refine comp_rule rfl hst (closure_ok hfree) ok.kind (fun y hy e => by rw [ok.uniq y hy, e]) (thn (hi.run pins s σ H _ I h) fun xv s1 k1 => thn k1 fun itv s2 k2 => ?_)
  obtain ⟨it, fp, tn, J, H2, rfl, I2, TN, st2, f2, q⟩ := k2
  refine wpAny_newObj_type (newEnv_comp ?_) (by show 0 ≤ sizeLine; decide)
  generalize hD : s2.heap.objs.size = D
  have nD : H2 D = none := I2.hok.fresh (Nat.le_of_eq hD)
  obtain ⟨W, ⟨m0, w0⟩, turn⟩ := q D nD
  generalize e3 : ({ s2 with heap := s2.heap.push { cls := .type "list", data := .seq ([] : List Value).toArray } } : Shared) = s3
  have h3 : s3.heap = s2.heap.push { cls := .type "list", data := .seq ([] : List Value).toArray } := by rw [← e3]
  have I3 : Inv X pins σ (upd H2 D (.lst [])) s3 := by
    rw [← e3]
    refine I2.laid (t' := s2.toks) (fun b o z => Heap.get?_push_of_some _ z) (Nat.le_of_eq hD) ⟨Nat.zero_le _, [], 0, .nil, ?_⟩
    rw [← hD]
    exact Heap.get?_push_size _ rfl
  have lt2 : ∀ b ∈ fp, b < s2.heap.objs.size := fun b hb => by
    obtain ⟨o, z, _⟩ := TN.obj _ _ st2 b hb
    exact Heap.lt_size z
  have f3 : ∀ b ∈ fp, FpOk X pins (upd H2 D (.lst [])) b ∧ b < s3.heap.objs.size := fun b hb => by
    refine ⟨⟨?_, (f2 b hb).2⟩, ?_⟩
    · rw [upd_ne (by rw [← hD]; exact Nat.ne_of_lt (lt2 b hb))]
      exact (f2 b hb).1
    · rw [h3, Heap.size_push]
      exact Nat.lt_succ_of_lt (lt2 b hb)
  have st3 : tn 0 s3.heap := TN.keep _ _ _ st2 fun b _ o z => by rw [h3]; exact Heap.get?_push_of_some _ z
  generalize hCl : cellsFrom (s3.heap.objs.size + 1) scope.names (cloFrom X.env.cells scope.names []) = cl
  have I4 := block_start I3 ok hN f3
  rw [hCl] at I4
  show codeAny _ _ (.compStart (.ListComp elt [⟨tg, iter, ifs, 0⟩] scope pos) 0 (.ref it) (.ref D) (compEnvC scope cl s3.heap.objs.size X.env))
    (cpX (model X.prog X.w) X.A X.xe (EP X pins σ Q) (.ref D) (compEnvC scope cl s3.heap.objs.size X.env)) { s3 with heap := pushCells (s3.heap.push { cls := .type "dict", data := .dict #[] }) scope.names }
  have eL : (compEnvC scope cl s3.heap.objs.size X.env).locals = s3.heap.objs.size := rfl
  have eF : (compEnvC scope cl s3.heap.objs.size X.env).frame = X.env.frame := rfl
  generalize hxe : notedBy (model X.prog X.w) X.A (compEnvC scope cl s3.heap.objs.size X.env) (fun x s' => cpX (model X.prog X.w) X.A X.xe (EP X pins σ Q) (.ref D) (compEnvC scope cl s3.heap.objs.size X.env) (.error x) s') = xe
  have pg := hg s3 (upd H2 D (.lst [])) s3.heap.objs.size cl fp xe
  have pt := ht s3 (upd H2 D (.lst [])) s3.heap.objs.size cl fp xe
  have pe := he s3 (upd H2 D (.lst [])) s3.heap.objs.size cl fp xe (fun σ5 pins5 H5 s5 e s6 I5 c => by
    rw [← hxe]
    exact block_raises hs hf tk eF I3 (Nat.le_of_eq eL.symm) (fun b hb => (f3 b hb).1) I5 c)
  have n3 : ∀ b ∈ fp, (upd H2 D (.lst [])) b = none := fun b hb => (f3 b hb).1.1
  generalize hce : compEnvC scope cl s3.heap.objs.size X.env = ce at I4 pg pt pe eL eF hxe ⊢
  generalize hH3 : upd H2 D (.lst []) = H3 at I3 I4 pg pt pe w0 n3 f3
  generalize hs4 : ({ s3 with heap := pushCells (s3.heap.push { cls := .type "dict", data := .dict #[] }) scope.names } : Shared) = s4 at I4 ⊢
  have I4 : Inv (blkx X s3 H3 scope ce fp xe) [] (wipe σ (own.map (·.2))) H3 s4 := I4.wish xe
  have st4 : tn 0 s4.heap := TN.keep _ _ _ st3 fun b _ o z => by rw [← hs4]; exact pushCells_keeps _ _ _ _ (Heap.get?_push_of_some _ z)
  have its : ∀ {σ' : St} {H' : Hp} {s' : Shared}, Inv (blkx X s3 H3 scope ce fp xe) [] σ' H' s' → (∀ b ∈ fp, H' b = none) → ∀ b ∈ fp, FpOk (blkx X s3 H3 scope ce fp xe) [] H' b := fun {σ' H' s'} I' hn b hb =>
    ⟨hn b hb, (I'.ok.exf b hb).1, I'.ok.exfs b hb, .inl hb, fun x c z => (I'.ok.exf b hb).2 x c z, fun p hp => absurd (show p ∈ ([] : List (Addr × Obj)) ++ [] from hp) (by simp)⟩
  have loop : codeAny (model X.prog X.w) X.A (.compLoop (.ListComp elt [⟨tg, iter, ifs, 0⟩] scope pos) 0 (.ref it) (.ref D) ce) (cpX (model X.prog X.w) X.A X.xe (EP X pins σ Q) (.ref D) ce) s4 := by
    refine compLoop_any (fun n s' => ∃ i H', Inv (blkx X s3 H3 scope ce fp xe) [] (wipe σ (own.map (·.2))) H' s' ∧ tn i s'.heap ∧ (∀ b ∈ fp, H' b = none) ∧ W i n H') ?_ m0 ⟨0, H3, I4, st4, n3, w0⟩
    rintro n s5 ⟨i, H5, I5, st5, n5, w5⟩
    rw [hxe]
    rcases turn i n H5 w5 with ⟨stop, qq⟩ | ⟨go, Nx, hNx, step⟩
    · refine thnF (TN.done (blkx X s3 H3 scope ce fp xe) rfl rfl rfl hc i [] s5 _ H5 (fun _ _ => False) I5 (its I5 n5) st5 stop) fun r s6 ⟨hr, I6⟩ => ?_
      subst hr
      have I7 : Inv X pins σ H5 s6 := I3.call' (ch := fp) I6.os I6.base I6.hok I6.bare fun b hb => ⟨(f3 b hb).1.2.2.2.1, (f3 b hb).1.2.1, (f3 b hb).1.2.2.2.2.1, (f3 b hb).1.2.2.2.2.2⟩
      have nC : H5 ce.locals = none := I6.free
      obtain ⟨m, hn, _⟩ := I6.loc
      have hn : s6.heap.Ns ce.locals m := hn
      obtain ⟨g0, g1, g2, g3, g4, g5⟩ := I3.fpOk (Nat.le_of_eq eL.symm) nC
      exact ⟨m, hn, fun h'' sb => ⟨.ref D, H5, I7.turned (t' := s6.toks) (fun b o hb z => (sb.2 b hb).trans z) g0 g1 g3 g4 g5, rfl, qq⟩⟩
    · refine thnF (TN.item (blkx X s3 H3 scope ce fp xe) rfl rfl rfl hc i [] s5 _ H5 (fun _ _ => False) I5 (its I5 n5) st5 go) fun r s6 ⟨u, hr, k6⟩ => ?_
      subst hr
      refine thnF k6 fun _ s7 ⟨x, H7, I7, r7, y7, st7, n7⟩ => ?_
      have I7' := I7.pinned (its I7 n7) (TN.obj _ _ st7)
      refine thn (pg.run _ s7 _ H7 x u _ I7' r7 (step x H7 y7)) fun _ s8 ⟨σ8, H8, I8, hw8, q8⟩ => ?_
      refine thn (pt.run _ s8 σ8 H8 _ I8 q8) fun b s9 ⟨H9, I9, q9⟩ => ?_
      have fin : ∀ {s' : Shared} {H' : Hp}, Inv (blkx X s3 H3 scope ce fp xe) ([] ++ pinsAt fp s7.heap) σ8 H' s' → Nx H' →
          ∃ m, m < n ∧ ∃ i H', Inv (blkx X s3 H3 scope ce fp xe) [] (wipe σ (own.map (·.2))) H' s' ∧ tn i s'.heap ∧ (∀ b ∈ fp, H' b = none) ∧ W i m H' := fun {s' H'} I' nx => by
        obtain ⟨m', hm, w'⟩ := hNx H' nx
        have pin' : ∀ b ∈ fp, ∀ o, s7.heap.get? b = some o → s'.heap.get? b = some o ∧ H' b = none := fun b hb o z =>
          have y := I'.pin (b, o) (List.mem_append_right _ (List.mem_append_right _ (mem_pinsAt hb z)))
          ⟨y.1, y.2.1⟩
        have hl : (wipe σ (own.map (·.2))).length = σ8.length := by rw [← hw8, wipe_length]
        refine ⟨m', hm, i + 1, H', (I'.unpinned (pins := [])).weak hl (fun j v z => ?_), TN.keep _ _ _ st7 fun b hb o z => (pin' b hb o z).1, fun b hb => ?_, w'⟩
        · rw [← hw8] at z
          exact (wipe_some z).1
        · obtain ⟨o, z, _⟩ := TN.obj _ _ st7 b hb
          exact (pin' b hb o z).2
      cases b with
      | false =>
        simp only [Bool.false_eq_true, if_false] at q9 ⊢
        exact fin I9 q9
      | true =>
        simp only [if_true] at q9 ⊢
        refine thn (pe.run _ s9 σ8 H9 _ I9 q9) fun z s10 ⟨yv, H10, I10, r10, acc, hD10, hz10, nx⟩ => ?_
        exact app_ok (X := blkx X s3 H3 scope ce fp xe) I10 hD10 hz10 r10 fun s11 I11 => fin I11 nx
  exact codeAny_compStart_list loop (TN.self X.A 0 _ _ _ st4 loop)
end
end L2.EG

set_option Elab.async false
set_option linter.all false
set_option maxRecDepth 100000
set_option maxHeartbeats 4000000
/-! Own rules, part four: min(rows, key=len). -/
namespace L2.EG
open PySem PySem.Spec PyProof.Rows

section
variable {P : Program} {w : World} {A : Around} {E : Value → Shared → Prop} {s0 : Shared}
/-- rows: lists whose lengths are told by n -/
def RowsAt (h : Heap) (vs : List Value) (n : Nat → Nat) : Prop := ∀ (i : Nat) (v : Value), vs[i]? = some v → ∃ (b : Addr) (its : Array Value), v = .ref b ∧ h.IsList b its ∧ its.size = n i ∧ n i < 2 ^ 62
/-- the least so far, the first of its length -/
def LeastTo (n : Nat → Nat) (i j : Nat) : Prop := i ≤ j ∧ ∀ q, q ≤ j → n i ≤ n q ∧ (q < i → n i < n q)
theorem LeastTo.zero (n : Nat → Nat) : LeastTo n 0 0 := ⟨Nat.le_refl _, fun q hq => by obtain rfl := Nat.le_zero.mp hq; exact ⟨Nat.le_refl _, fun z => absurd z (Nat.lt_irrefl _)⟩⟩
theorem LeastTo.new {n : Nat → Nat} {i j : Nat} (L : LeastTo n i j) (lt : n (j + 1) < n i) : LeastTo n (j + 1) (j + 1) := ⟨Nat.le_refl _, fun q hq => by
  by_cases e : q = j + 1
  · subst e; exact ⟨Nat.le_refl _, fun z => absurd z (Nat.lt_irrefl _)⟩
  · have z := (L.2 q (by omega)).1
    exact ⟨by omega, fun _ => by omega⟩⟩
theorem LeastTo.old {n : Nat → Nat} {i j : Nat} (L : LeastTo n i j) (ge : ¬ n (j + 1) < n i) : LeastTo n i (j + 1) := ⟨Nat.le_succ_of_le L.1, fun q hq => by
  by_cases e : q = j + 1
  · subst e; exact ⟨by omega, fun z => absurd z (by have := L.1; omega)⟩
  · exact L.2 q (by omega)⟩

theorem RowsAt.len {h : Heap} {vs : List Value} {n : Nat → Nat} (rw_ : RowsAt s0.heap vs n) {i : Nat} {v : Value} (hv : vs[i]? = some v) (kp : ∀ b o, s0.heap.get? b = some o → h.get? b = some o) {Ax : Around} {tk : Nat} {Q : Value → Shared → Prop}
    (q : ∀ (t : Tok) (tk' : Nat), Q (.int (n i : Nat) t) { s0 with heap := h, toks := tk' }) : wpAny (model P w) Ax (call (.builtin "len") [v]) Q E { s0 with heap := h, toks := tk } := by
  obtain ⟨b, its, rfl, hl, hz, hn⟩ := rw_ i v hv
  refine Calls.call_len_list (l := b) (items := its) (hl.at fun o e => kp b o e) (by rw [hz]; omega) ?_
  rw [hz]
  exact q _ _

theorem minlen_loop {l I S : Addr} {vs : List Value} {n : Nat → Nat} {R : Result → Shared → Prop} (hh : A.handled = none) (hl : s0.heap.IsList l vs.toArray) (R0 : RowsAt s0.heap vs n) (nI : s0.heap.objs.size ≤ I) (nS : s0.heap.objs.size ≤ S) (ne : S ≠ I)
    (done : ∀ (i : Nat) (v : Value) (h' : Heap) (tk' : Nat), vs[i]? = some v → LeastTo n i (vs.length - 1) → (∀ b o, s0.heap.get? b = some o → h'.get? b = some o) → R (.ok (.ret v)) { s0 with heap := h', toks := tk' }) :
    ∀ (left j i : Nat) (h : Heap) (tk : Nat) (vb : Value) (tb : Tok) (c : Nat), vs.length - (j + 1) = left → j + 1 ≤ vs.length → (∀ b o, s0.heap.get? b = some o → h.get? b = some o) → h.get? S = some (seqObj "list" #[vb, .int (n i : Nat) tb] c) →
      h.IsListIter I l (j + 1) → vs[i]? = some vb → LeastTo n i j → codeAny (model P w) A (.builtin "min.loop" ⟨[.ref I, .builtin "len", .ref S], []⟩) R { s0 with heap := h, toks := tk } := by
  have hl0 : l < s0.heap.objs.size := by
    obtain ⟨ol, hol, _⟩ := id hl
    exact Heap.lt_size hol
  have lI : l ≠ I := Nat.ne_of_lt (Nat.lt_of_lt_of_le hl0 nI)
  have oldS : ∀ {b : Addr} {o : Obj}, s0.heap.get? b = some o → b ≠ S := fun e => Nat.ne_of_lt (Nat.lt_of_lt_of_le (Heap.lt_size e) nS)
  have oldI : ∀ {b : Addr} {o : Obj}, s0.heap.get? b = some o → b ≠ I := fun e => Nat.ne_of_lt (Nat.lt_of_lt_of_le (Heap.lt_size e) nI)
  have nm : (toString "min" ++ toString ".loop" : String) = "min.loop" := by decide
  have Wk := Walks.list (prog := P) (w := w) (A := A.in1) hh I l lI vs.toArray
  have sz : vs.toArray.size = vs.length := List.size_toArray ..
  intro left
  induction left with
  | zero =>
    intro j i h tk vb tb c hr hj kp gS it hvb best
    refine codeAny_builtin PySem.F.entry_min_loop ?_
    rw [Around.under_plainId PySem.F.plain_min_loop _]
    show wpAny _ A.in1 (seqItems? (.ref S) >>= _) _ _ _
    refine wpAny_bind (wpAny_seqItems gS rfl ?_)
    show wpAny _ A.in1 (tryCatch (pyNext (.ref I)) _ >>= _) _ _ _
    refine wpAny_bind (wpAny_tryCatch (Wk.done _ _ _ ⟨by rw [sz, show vs.length = j + 1 by omega]; exact it, hl.at fun o e => kp l o e⟩ fun h' tk' hk => ?_))
    have gS' := hk S _ (by simpa using ne) gS
    have sb := Heap.SameBut.update h' S (Obj.mapSeq fun _ => (#[] : Array Value))
    show wpAny _ A.in1 (updateSeq S (fun _ => #[]) >>= _) _ _ _
    refine wpAny_bind (wpAny_updateSeq gS' rfl (wpAny_bind (wpAny_letGo (wpAny_pure ?_))))
    exact done i vb _ _ hvb (by rw [show vs.length - 1 = j by omega]; exact best) fun b o e => (sb.2 b (oldS e)).trans (hk b o (by simpa using oldI e) (kp b o e))
  | succ left ih =>
    intro j i h tk vb tb c hr hj kp gS it hvb best
    have lt : j + 1 < vs.length := by omega
    refine codeAny_builtin PySem.F.entry_min_loop ?_
    rw [Around.under_plainId PySem.F.plain_min_loop _]
    show wpAny _ A.in1 (seqItems? (.ref S) >>= _) _ _ _
    refine wpAny_bind (wpAny_seqItems gS rfl ?_)
    show wpAny _ A.in1 (tryCatch (pyNext (.ref I)) _ >>= _) _ _ _
    refine wpAny_bind (wpAny_tryCatch (Wk.item (j + 1) _ _ _ (by rw [sz]; exact lt) ⟨it, hl.at fun o e => kp l o e⟩ fun v h' tk' hP st hk => ?_))
    have hv : vs[j + 1]? = some v := by simpa using hP
    have gS' := hk S _ (by simpa using ne) gS
    have kp' : ∀ b o, s0.heap.get? b = some o → h'.get? b = some o := fun b o e => hk b o (by simpa using oldI e) (kp b o e)
    show wpAny _ A.in1 (tryCatch (holding [v] (call (.builtin "len") [v])) _ >>= _) _ _ _
    refine wpAny_bind (wpAny_tryCatch (wpAny_holding (R0.len hv kp' fun t2 tk2 => ?_)))
    show wpAny _ A.in1 (tryCatch (holding [v, .int (n (j + 1) : Nat) t2] (richCompare .Lt (.int (n (j + 1) : Nat) t2) (.int (n i : Nat) tb) >>= _)) _ >>= _) _ _ _
    refine wpAny_bind (wpAny_tryCatch (wpAny_holding (wpAny_bind (CmpOf.ints_lt (prog := P) (w := w) (A := A.in1) (P := fun q v => ∃ t, v = .int (n q : Nat) t) (fun q => (n q : Nat)) (fun _ _ z => z) (j + 1) i _ _ _ _ _ ⟨t2, rfl⟩ ⟨tb, rfl⟩ ?_))))
    refine wpAny_bind (wpAny_holding (wpAny_truthy_bool (wpAny_bind (wpAny_letGo (wpAny_pure ?_)))))
    by_cases better : n (j + 1) < n i
    · have sb := Heap.SameBut.update h' S (Obj.mapSeq fun _ => #[v, .int (n (j + 1) : Nat) t2])
      obtain ⟨c2, e2⟩ : ∃ c2, (h'.update S (Obj.mapSeq fun _ => #[v, .int (n (j + 1) : Nat) t2])).get? S = some (seqObj "list" #[v, .int (n (j + 1) : Nat) t2] c2) := ⟨_, get?_update_seq gS' fun _ => #[v, .int (n (j + 1) : Nat) t2]⟩
      rw [if_pos (by simpa using better)]
      refine wpAny_bind (wpAny_updateSeq gS' rfl (wpAny_bind (wpAny_letGo ?_)))
      rw [nm]
      obtain ⟨oI, eI, cI, dI⟩ := id st.1
      exact wpAny_pure ⟨plainId_quiet PySem.F.plain_min_loop _, ih (j + 1) (j + 1) _ _ v t2 c2 (by omega) lt (fun b o e => (sb.2 b (oldS e)).trans (kp' b o e)) e2 ⟨oI, (sb.2 I ne.symm).trans eI, cI, dI⟩ hv (best.new better)⟩
    · rw [if_neg (by simpa using better)]
      refine wpAny_bind (wpAny_letGo ?_)
      rw [nm]
      exact wpAny_pure ⟨plainId_quiet PySem.F.plain_min_loop _, ih (j + 1) i _ _ vb tb c (by omega) lt kp' gS' st.1 hvb (best.old better)⟩

theorem minlen_call {l : Addr} {vs : List Value} {n : Nat → Nat} {Q : Value → Shared → Prop} (hh : A.handled = none) (hl : s0.heap.IsList l vs.toArray) (R0 : RowsAt s0.heap vs n) (pos : 0 < vs.length)
    (done : ∀ (i : Nat) (v : Value) (h' : Heap) (tk' : Nat), vs[i]? = some v → LeastTo n i (vs.length - 1) → (∀ b o, s0.heap.get? b = some o → h'.get? b = some o) → Q v { s0 with heap := h', toks := tk' }) :
    wpAny (model P w) A (call (.builtin "min") [.ref l] [(Str.ofString "key", .builtin "len")]) Q E s0 := by
  have nm : (toString "min" ++ toString ".loop" : String) = "min.loop" := by decide
  have sz : vs.toArray.size = vs.length := List.size_toArray ..
  have hl0 : l < s0.heap.objs.size := by
    obtain ⟨ol, hol, _⟩ := id hl
    exact Heap.lt_size hol
  refine kmb_tree PySem.F.kind_min PySem.F.plain_min PySem.F.entry_min (kmb_min_key _ _) ?_
  show wpAny _ A.in1 (Builtin.Builtins.bindParams "min" ["key", "default"] 0 ⟨[], [(Str.ofString "key", .builtin "len")]⟩ >>= _) _ _ _
  refine wpAny_bind (wpAny_of_eq (show Builtin.Builtins.bindParams "min" ["key", "default"] 0 ⟨[], [(Str.ofString "key", .builtin "len")]⟩ = pure [some (.builtin "len"), none] from rfl) (wpAny_bind (wpAny_pure ?_)))
  refine wpAny_bind (wpAny_pyIter_list hl (wpAny_bind (wpAny_newList ?_ (Nat.zero_le _))))
  rw [nm]
  generalize e1 : s0.heap.push { cls := .type "list_iterator", data := .fields #[.ref l, .int 0 0] } = h1
  have z1 : h1.objs.size = s0.heap.objs.size + 1 := by rw [← e1]; exact size_push' ..
  have gI1 : h1.get? s0.heap.objs.size = some { cls := .type "list_iterator", data := .fields #[.ref l, .int 0 0] } := by rw [← e1]; exact Heap.get?_push_size _ rfl
  have k1 : ∀ b o, s0.heap.get? b = some o → h1.get? b = some o := fun b o e => by rw [← e1]; exact Heap.get?_push_of_some _ e
  generalize e2 : h1.push (seqObj "list" #[] 0) = h2
  have gS2 : h2.get? h1.objs.size = some (seqObj "list" #[] 0) := by rw [← e2]; exact Heap.get?_push_size _ rfl
  have gI2 : h2.get? s0.heap.objs.size = some { cls := .type "list_iterator", data := .fields #[.ref l, .int 0 0] } := by rw [← e2]; exact Heap.get?_push_of_some _ gI1
  have k2 : ∀ b o, s0.heap.get? b = some o → h2.get? b = some o := fun b o e => by rw [← e2]; exact Heap.get?_push_of_some _ (k1 b o e)
  have lI : l ≠ s0.heap.objs.size := Nat.ne_of_lt hl0
  have ne : h1.objs.size ≠ s0.heap.objs.size := by omega
  refine wpAny_pure ⟨plainId_quiet PySem.F.plain_min_loop _, codeAny_builtin PySem.F.entry_min_loop ?_⟩
  rw [Around.under_plainId PySem.F.plain_min_loop _]
  show wpAny _ A.in1 (seqItems? (.ref h1.objs.size) >>= _) _ _ { s0 with heap := h2 }
  refine wpAny_bind (wpAny_seqItems gS2 rfl ?_)
  have Wk := Walks.list (prog := P) (w := w) (A := A.in1) hh s0.heap.objs.size l lI vs.toArray
  show wpAny _ A.in1 (tryCatch (pyNext (.ref s0.heap.objs.size)) _ >>= _) _ _ _
  refine wpAny_bind (wpAny_tryCatch (Wk.item 0 _ _ _ (by rw [sz]; exact pos) ⟨⟨_, gI2, rfl, rfl⟩, hl.at fun o e => k2 l o e⟩ fun v h' tk' hP st hk => ?_))
  have hv : vs[0]? = some v := by simpa using hP
  have gS' := hk h1.objs.size _ (by simpa using ne) gS2
  have kp' : ∀ b o, s0.heap.get? b = some o → h'.get? b = some o := fun b o e => hk b o (by simpa using Nat.ne_of_lt (Heap.lt_size e)) (k2 b o e)
  show wpAny _ A.in1 (tryCatch (holding [v] (call (.builtin "len") [v])) _ >>= _) _ _ _
  refine wpAny_bind (wpAny_tryCatch (wpAny_holding (R0.len hv kp' fun t2 tk2 => ?_)))
  have sb := Heap.SameBut.update h' h1.objs.size (Obj.mapSeq fun _ => #[v, .int (n 0 : Nat) t2])
  obtain ⟨c2, ec⟩ : ∃ c2, (h'.update h1.objs.size (Obj.mapSeq fun _ => #[v, .int (n 0 : Nat) t2])).get? h1.objs.size = some (seqObj "list" #[v, .int (n 0 : Nat) t2] c2) := ⟨_, get?_update_seq gS' fun _ => #[v, .int (n 0 : Nat) t2]⟩
  show wpAny _ A.in1 (updateSeq h1.objs.size (fun _ => #[v, .int (n 0 : Nat) t2]) >>= _) _ _ _
  refine wpAny_bind (wpAny_updateSeq gS' rfl ?_)
  rw [nm]
  obtain ⟨oI, eI, cI, dI⟩ := id st.1
  have far : s0.heap.objs.size ≤ h1.objs.size := by omega
  have old : ∀ b o, s0.heap.get? b = some o → b ≠ h1.objs.size := fun b o e => Nat.ne_of_lt (Nat.lt_of_lt_of_le (Heap.lt_size e) far)
  exact wpAny_pure ⟨plainId_quiet PySem.F.plain_min_loop _, minlen_loop hh hl R0 (Nat.le_refl _) far ne done _ 0 0 _ _ v t2 c2 rfl pos (fun b o e => (sb.2 b (old b o e)).trans (kp' b o e)) ec ⟨oI, (sb.2 _ ne.symm).trans eI, cI, dI⟩ hv (LeastTo.zero n)⟩
end

theorem vget : ∀ {xs : List V} {us : List Value} {i : Nat} {u : Value}, Vals xs us → us[i]? = some u → ∃ x, xs[i]? = some x ∧ RelV x u
  | _, _, _, _, .nil, e => by cases e
  | _, _, 0, _, .cons r _, e => by cases e; exact ⟨_, rfl, r⟩
  | _, _, i + 1, _, .cons _ t, e => vget (i := i) t e
/-- min(e, key=len): the first of the shortest rows -/
def tMinLen (K : PySem.W.Frag) (t : TA) : TE := fun σ H Q => t σ H fun vs H1 => ∃ (a : Addr) (xs : List V) (n : Nat → Nat), vs = [.ref a] ∧ SqL K H1 a xs ∧ 0 < xs.length ∧
  (∀ (i : Nat) (x : V), xs[i]? = some x → ∃ (b : Addr) (ys : List V), x = .ref b ∧ SqL K H1 b ys ∧ ys.length = n i) ∧ ∀ (i : Nat) (x : V), xs[i]? = some x → LeastTo n i (xs.length - 1) → Q x H1
section
variable {X : Cx} {e : Expr} {t : TA} {p q kp pos : Pos}
theorem pe_minLen (hc : X.calm = true) (hg : Gl X "min") (hm : X.mg "min" = none) (gl : Gl X "len") (ml : X.mg "len" = none) (ha : PA X [e] t)
    (he : backTo pos (starEach [e] X.env) = (false, eval e X.env) :: backTo pos (starEach [] X.env) := by rfl) (hpl : (backTo pos (starEach [e] X.env)).any (·.1) = false := by rfl) :
    PE X (.Call (.Name "min" p) [e] [⟨some "key", .Name "len" q, kp⟩] pos) (tMinLen X.K t) := by
  refine ⟨fun pins s σ H Q I h => ?_⟩
  refine wpAny_Call_Name_kw (ld_blt (u := .builtin "min") I hg hm (by decide +kernel) ?_ (by decide) (by decide))
  refine PyProof.Rows.callWith_kw (thn (ha.run pos pins s σ H _ I h) fun us s1 hu => ?_) he hpl rfl rfl
  obtain ⟨vs, H1, I1, r1, a, xs, n, rfl, hs, hpos, rows, q⟩ := hu
  show wpAny _ _ (evalAll ((do let v ← eval (.Name "len" _) X.env; standAt pos; pure v) :: [])) _ _ s1
  refine wpAny_evalAll_cons (wpAny_bind (ld_blt (u := .builtin "len") I1 gl ml (by decide +kernel) (wpAny_bind (wpAny_standAt (wpAny_pure (wpAny_evalAll_nil ?_)))) (by decide) (by decide)))
  rw [Vals.ref1 r1]
  obtain ⟨its, rv, pl, hz⟩ := I1.list hs
  show wpAny _ _ (call (.builtin "min") [.ref a] [(Str.ofString "key", .builtin "len")]) _ _ _
  have hlen := rv.length
  refine minlen_call (n := n) (I1.ok.hd hc) pl.isList (fun i v hv => ?_) (by omega) fun i v h' tk' hv best kp => ?_
  · obtain ⟨x, hx, rx⟩ := vget rv hv
    obtain ⟨b, ys, rfl, hb, hn⟩ := rows i x hx
    obtain ⟨its2, rv2, pl2, hz2⟩ := I1.list hb
    have hlen2 := rv2.length
    have big : sizeLine < 2 ^ 62 := by rw [sizeLine_eq]; decide
    exact ⟨b, its2.toArray, rx, pl2.isList, by rw [List.size_toArray]; omega, by omega⟩
  · obtain ⟨x, hx, rx⟩ := vget rv hv
    exact ⟨x, H1, I1.kept (t' := tk') kp, rx, q i x hx (by rw [hlen]; exact best)⟩
end
end L2.EG

set_option Elab.async false
set_option linter.all false
set_option maxRecDepth 100000
set_option maxHeartbeats 4000000
/-! Own rules, part five: sorted(set(xs)), xs a list of intz, any number of them. -/
namespace L2.EG
open PySem PySem.Spec PyProof.Rows

section
variable {P : Program} {w : World} {A : Around} {E : Value → Shared → Prop} {s : Shared}
/-- an empty set, just made -/
abbrev set0 (w : World) : Obj := { cls := .type "set", dict := none, data := .set #[] 0 (.fresh 0 0 (!w.params.followText "set-order")) }
abbrev itO (l : Addr) : Obj := { cls := .type "list_iterator", data := .fields #[.ref l, .int 0 0] }

set_option maxHeartbeats 3200000 in
theorem set_of_list {l : Addr} {items : Array Value} (ns : List Int) {Q : Value → Shared → Prop} (hh : A.handled = none) (hl : s.heap.IsList l items) (intz : IntsAre items.toList ns) (few : ns.length + 1 < scanBound)
    (go : ∀ (h' : Heap) (tk c : Nat), SetR w h' s.heap.objs.size (fun j => decide (j ∈ ns)) c → c ≤ ns.length → (∀ b o, s.heap.get? b = some o → h'.get? b = some o) → Q (.ref s.heap.objs.size) { s with heap := h', toks := tk }) :
    wpAny (model P w) A (call (.type "set") [.ref l]) Q E s := by
  have zi : items.size = ns.length := (Array.length_toList (xs := items)).symm.trans intz.length
  obtain ⟨c, tl, hmro⟩ := F.called_set.mro
  have k1 := F.called_set.made
  have k2 := F.called_set.sub
  have k3 := F.called_set.notType
  have k4 := F.called_set.canCreate
  have k5 := F.typeCall_set_1 (.ref l)
  refine wpAny_call (codeAny_of_tree (show wpAny _ _ (callAny (.type "set") _) _ _ _ from wpAny_pure ⟨Code.quiet_builtin _ (by decide +kernel), codeAny_builtin F.entry_type_call ?_⟩))
  rw [Around.under_plain (weight_type_call_type "set" [.ref l] []) rfl]
  repeat (any_goals (first | assumption | wp_step))

  refine codeAny_mono (code_set_led1 (.ref l) (E := E) (Q₁ := fun o s1 => o = .ref s.heap.objs.size ∧ s1 = { s with heap := s.heap.push (set0 w) }) ⟨rfl, rfl⟩) fun r s1 hr => ?_
  match r, hr with
  | .error e, hr => exact hr
  | .ok .next, hr => exact hr.elim
  | .ok .brk, hr => exact hr.elim
  | .ok .cont, hr => exact hr.elim
  | .ok (.ret o), hr =>
    obtain ⟨rfl, rfl⟩ := hr
    have gS : (s.heap.push (set0 w)).get? s.heap.objs.size = some (set0 w) := Heap.get?_push_size _ rfl
    have tS : Shared.TypeIs { s with heap := s.heap.push (set0 w) } (.ref s.heap.objs.size) "set" := ⟨_, gS, rfl⟩
    have k6 := F.called_set.init.lookup
    have k7 := F.called_set.init.bind (.ref s.heap.objs.size)
    repeat (any_goals (first | assumption | wp_step))

    refine codeAny_mono (codeAny_call_builtin (R := wants (fun r s2 => r = .none ∧ ∃ h' tk c, s2 = { s with heap := h', toks := tk } ∧ SetR w h' s.heap.objs.size (fun j => decide (j ∈ ns)) c ∧ c ≤ ns.length ∧
        (∀ b o, s.heap.get? b = some o → h'.get? b = some o)) E) F.called_set.init.plain F.entry_set_init (check_set_init_1 tS ?_)) fun r2 s2 hr2 => ?_
    · obtain ⟨⟨cl, od, dat, sl⟩, hol, ecl, nl, edat⟩ := hl
      simp only at ecl edat
      subst ecl
      subst edat
      have hol' : (s.heap.push (set0 w)).get? l = some { cls := .type "list", dict := od, data := .seq items nl, slots := sl } := Heap.get?_push_of_some _ hol
      have hl1 : (s.heap.push (set0 w)).IsList l items := ⟨_, hol', rfl, nl, rfl⟩
      have n1 := F.sub_list_set
      have n2 := F.sub_list_frozenset
      have n3 : (Value.type "list" == Value.type "dict") = false := by decide
      unfold Builtin.«set.__init__» noKeywords Builtin.Frozenset.updateFrom
      generalize hPI : pyIter = PI
      wp_walk
      subst hPI

      refine wpAny_pyIter_list hl1 (wpAny_bind (wpAny_runValue ?_))
      have ll : l < s.heap.objs.size := Heap.lt_size hol
      have ep : (s.heap.push (set0 w)).objs.size = s.heap.objs.size + 1 := Heap.size_push ..
      have grow : s.heap.objs.size < (s.heap.push (set0 w)).objs.size := by rw [ep]; exact Nat.lt_succ_self _
      have lI : l ≠ (s.heap.push (set0 w)).objs.size := Nat.ne_of_lt (Nat.lt_trans ll grow)
      have sI : s.heap.objs.size ∉ [(s.heap.push (set0 w)).objs.size, l] := by
        intro hm
        rcases List.mem_cons.mp hm with z | z
        · exact Nat.ne_of_lt grow z
        · exact Nat.ne_of_gt ll (List.mem_singleton.mp z)
      have val : ∀ (i : Nat) (v : Value), items[i]? = some v → ∃ k t, ns[i]? = some k ∧ v = .int k t := fun i v hv => by
        have hi : i < ns.length := by rw [← zi]; exact (Array.getElem?_eq_some_iff.mp hv).1
        obtain ⟨t, e⟩ := intz.get i ns[i] (List.getElem?_eq_getElem hi)
        rw [Array.getElem?_toList, hv] at e
        exact ⟨ns[i], t, List.getElem?_eq_getElem hi, Option.some.inj e⟩
      refine set_update_ints (Walks.list (by simp [hh]) _ l lI items).toS s.heap.objs.size sI ns zi few val (items.size - 0) 0 _ (by omega) (Nat.zero_le _) ⟨⟨_, Heap.get?_push_size _ rfl, rfl, rfl⟩, (hl1.push _)⟩ ?_ ?_
      · exact ⟨0, Nat.le_refl 0, setR_new_at (show ((s.heap.push (set0 w)).push (itO l)).get? s.heap.objs.size = some (set0 w) from Heap.get?_push_of_some _ gS)⟩
      · intro s' c' hm hc' hS'
        obtain ⟨h', g2, d', tk', os'⟩ := s'
        obtain rfl : g2 = s.gens := hm.gens
        obtain rfl : d' = s.drawn := hm.drawn
        obtain rfl : os' = s.os := hm.os
        show wpAny _ _ _ _ _ _
        refine wpAny_pure ?_
        show wpAny _ _ (ret Value.none) _ _ _
        refine wpAny_pure ⟨rfl, h', tk', c', rfl, hS', by rw [← zi]; exact hc', fun b o e => hm.heap b o (fun hb => ?_) (Heap.get?_push_of_some _ (Heap.get?_push_of_some _ e))⟩
        have lb := Heap.lt_size e
        rcases List.mem_cons.mp hb with z | z
        · exact Nat.ne_of_lt lb z
        · exact Nat.ne_of_lt (Nat.lt_trans lb grow) (List.mem_singleton.mp z)
    · match r2, hr2 with
      | .error e, hr2 => exact hr2
      | .ok .next, hr2 => exact hr2.elim
      | .ok .brk, hr2 => exact hr2.elim
      | .ok .cont, hr2 => exact hr2.elim
      | .ok (.ret r), hr2 =>
        obtain ⟨rfl, h', tk, c', rfl, hS', hc', hk'⟩ := hr2
        repeat (any_goals (first | assumption | wp_step))
        exact go _ _ _ hS' hc' hk'

/-- sorted of a set of intz, any number of them -/
theorem sorted_of_set {a : Addr} {S : Int → Bool} {n : Nat} {Q : Value → Shared → Prop} (R : SetR w s.heap a S n) (hh : A.handled = none)
    (go : ∀ s' p (out : Array Value) (c : Nat) (ns : List Int), (∀ b o, s.heap.get? b = some o → s'.heap.get? b = some o) → s'.gens = s.gens → s'.os = s.os → s.heap.objs.size ≤ p →
      s'.heap.get? p = some (seqObj "list" out c) → IntsAre out.toList ns → ns.Pairwise (· < ·) → (∀ k, k ∈ ns ↔ S k = true) → ns.length ≤ sizeLine → Q (.ref p) s') :
    wpAny (model P w) A (call (.builtin "sorted") [.ref a]) Q E s := by
  obtain ⟨o, es, ep, t, ho, hex, hd, g, nd, hm, hb, hf, hn, hr, hl⟩ := R
  refine Calls.call_function_entry kind_sorted plain_sorted entry_sorted (args_sorted1 _) ?_
  unfold Builtin.«sorted»
  refine wpAny_bind (m := checkCount "sorted" 1 1 _) (wpAny_pure (wpAny_bind (collect_set (A := A.in1) hh ⟨o, ho, hex.1, hd⟩ hf hb hr hl fun s1 vs kp hz g1 o1 pm => ?_)))
  have room : vs.length ≤ sizeLine := by
    rw [pm.length_eq, List.length_map, Array.length_toList]
    exact fits_of_scanBound hb
  have intz : IntsAre vs (vs.map Builtin.Re.reRawOf) := ints_of vs fun v hv => by
    obtain ⟨e, he, q⟩ := List.mem_map.mp (pm.mem_iff.mp hv)
    obtain ⟨k, tk, e1, _⟩ := g e he
    exact ⟨k, tk, by rw [← q]; exact e1⟩
  have keys : (vs.map Builtin.Re.reRawOf).Perm (es.toList.map keyOf) := by
    have z := pm.map Builtin.Re.reRawOf
    rw [List.map_map] at z
    exact z
  refine wpAny_bind (wpAny_newList ?_ room)
  have gL : (s1.heap.push (seqObj "list" vs.toArray 0)).get? s1.heap.objs.size = some (seqObj "list" vs.toArray 0) := Heap.get?_push_size _ rfl
  refine wpAny_bind (wpAny_holding (wpAny_call_entry slot_list_sort ⟨_, gL, rfl⟩ entry_list_sort (SrtO.list_sort_ord SrtO.swo_int gL room (fun h2 => SrtO.ints_sortable intz h2) fun out h1 h2 => ⟨.none, rfl, ?_⟩) (args_list_sort _)))
  obtain ⟨i1, i2, i3⟩ := SrtO.ints_out intz h1 h2
  obtain ⟨c, hc⟩ := sortedHeap_at (vs := vs) (out := out.toArray) gL
  have pn : (out.map SrtO.iv).Perm (es.toList.map keyOf) := i2.trans keys
  refine wpAny_pure ⟨_, rfl, go _ s1.heap.objs.size out.toArray c (out.map SrtO.iv) (fun b u e => ?_) g1 o1 hz hc i1 (lt_of_le_nodup _ i3 (pn.nodup_iff.mpr nd)) (fun k => by rw [pn.mem_iff, ← hm k]) ?_⟩
  · have e2 := kp b u e
    have lt := Heap.lt_size e2
    show (sortedHeap (s1.heap.push (seqObj "list" vs.toArray 0)) s1.heap.objs.size vs out.toArray).get? b = some u
    rw [sortedHeap_old (Nat.ne_of_lt lt) (by rw [size_push']; exact Nat.lt_succ_of_lt lt)]
    exact Heap.get?_push_of_some _ e2
  · rw [i2.length_eq, List.length_map]
    exact room
end

/-- set(xs) -/
def rSetL (K : PySem.W.Frag) (w : World) : List V → Hp → VK → Prop := fun xs H Q => ∃ (a : Addr) (ns : List Int), xs = [.ref a] ∧ SqL K H a (ns.map V.int) ∧ ns.length ≤ 1000 ∧
  ∀ (p : Addr) (c : Nat), H p = none → Q (.ref p) (upd H p (SetO w p (fun j => decide (j ∈ ns)) c))
/-- sorted(found) -/
def rSortSet (w : World) : List V → Hp → VK → Prop := fun vs H Q => ∃ (a : Addr) (S : Int → Bool) (n : Nat), vs = [V.ref a] ∧ H a = some (SetO w a S n) ∧
  ∀ (ns : List Int) (p : Addr), ns.Pairwise (· < ·) → (∀ k : Int, k ∈ ns ↔ S k = true) → H p = none → Q (.ref p) (upd H p (.lst (ns.map V.int)))
section
variable {X : Cx}
theorem cr_setL (hc : X.calm = true) : CallR X (.type "set") (rSetL X.K X.w) := by
  intro pins s σ H xs us Q I r h
  obtain ⟨a, ns, rfl, hs, hz, q⟩ := h
  obtain ⟨its, rv, hl, _⟩ := I.list hs
  rw [Vals.ref1 r]
  refine set_of_list ns (I.ok.hd hc) hl.isList (ints_of_vals rv) (by unfold scanBound; omega) fun h' tk c R1 _ kp => ?_
  exact ⟨.ref _, _, I.laid (t' := tk) kp (Nat.le_refl _) (setO_new R1), rfl, q _ c (I.hok.fresh (Nat.le_refl _))⟩
theorem cr_sortSet (hc : X.calm = true) : CallR X (.builtin "sorted") (rSortSet X.w) := by
  intro pins s σ H vs us Q I r h
  obtain ⟨a, S, n, rfl, ha, q⟩ := h
  rw [Vals.ref1 r]
  refine sorted_of_set (setO_get I ha) (I.ok.hd hc) fun s' p out c ns kp g o hp hg hi hs hm hl => ?_
  have new : H p = none := I.hok.fresh hp
  have J : Inv X pins σ (upd H p (.lst (ns.map V.int))) { s with heap := s'.heap, gens := s'.gens, drawn := s'.drawn, toks := s'.toks } :=
    I.call (ch := []) (Un.laid kp hp new) (I.hok.laid kp hp ⟨by rw [List.length_map]; exact hl, out.toList, c, vals_of_ints hi, hg⟩) (by rw [g]; exact I.bare) (fun _ z => nomatch z)
  have e : s' = { s with heap := s'.heap, gens := s'.gens, drawn := s'.drawn, toks := s'.toks } := by
    rw [← o]
  rw [e]
  exact ⟨.ref p, _, J, rfl, q ns p hs hm new⟩
end
end L2.EG

set_option Elab.async false
set_option linter.all false
set_option maxRecDepth 100000
set_option maxHeartbeats 4000000
/-! Own rules, part six: repr (in defs that are called with no guard held), calls of held defs that may raise, calls by keywords alone. -/
namespace L2.EG
open PySem PySem.Spec PyProof.Rows

/-! ### promises kept where no guard is held -/
/-- as FnOk, where no guard is held -/
structure FnG (P : Program) (w : World) (K : PySem.W.Frag) (mg : Str → Option Value) (base : Heap) (CX : CXT) (k : Nat) (f : Addr) (fd : FuncData) (ps : List Str) (sp : Sp) : Prop where
  len : ∀ vs H Q E, sp vs H Q E → vs.length = ps.length
  run : ∀ (A : Around) (outer : List Env) (s : Shared) (H : Hp) (args : Args) (us : List Value) (vs : List V) (Q : VK) (E : XK), A.guards = some [] → Room k A → Env0 P w K mg base A outer s H → BindsTo s fd args (ps.zip us) → Vals vs us → sp vs H Q E →
    codeAny (model P w) A (.call (.ref f) args) (CR CX outer P w H s Q E) s
section
variable {P : Program} {w : World} {K : PySem.W.Frag} {mg : Str → Option Value} {base : Heap} {CX : CXT} {k : Nat} {f : Addr} {fd : FuncData}
theorem fn_guard {name qual : Str} {params : Arguments} {body : List Stmt} {scope : Scope} {dV kV doc pm cdv ct oc : Value} {an od : Option Addr} {osl : Array (Option Value)} {N ps : List Str} {sp : Sp}
    (lk : K.lookup f = some ⟨oc, od, .func (PySem.W.fnOf name qual params body scope dV kV doc pm an cdv ct), osl⟩) (hcd : PySem.W.codeIn K cdv qual = true) (S : FnScope N ps scope) (len : ∀ vs H Q E, sp vs H Q E → vs.length = ps.length)
    (hb : ∀ (A : Around) (outer : List Env) (s : Shared) (H : Hp) (vs : List V) (Q : VK) (E : XK), (A.deeper (envOfC qual scope s.heap.objs.size f cdv)).guards = some [] → Room k (A.deeper (envOfC qual scope s.heap.objs.size f cdv)) → sp vs H Q E →
      ∃ t, PSs (cxOf CX P w K mg base N qual scope f cdv A outer s H E) body t ∧ t { nx := fun _ H' => Q .non H', rt := Q } (start N vs) H) :
    FnG P w K mg base CX (k + 1) f (PySem.W.fnOf name qual params body scope dV kV doc pm an cdv ct) ps sp where
  len := len
  run := fun A outer s H args us vs Q E gd hr e0 bd r hsp => by
    have lv := len _ _ _ _ hsp
    have at0 : ∀ b o, base.get? b = some o → s.heap.get? b = some o := fun b o e => (e0.bs b o e).1
    have KX : K.In s.heap := e0.mod.kin.keeps at0
    have kinds : ∀ y ∈ ps.zip us, scope.names.lookup y.1 = some .local ∨ (scope.names.lookup y.1 = some .cell ∧ ((cellsFrom (s.heap.objs.size + 1) scope.names []).lookup y.1).isSome = true) := fun y hy =>
      (S.par y.1 (List.of_mem_zip (a := y.1) (b := y.2) hy).1).imp id fun q => ⟨q, PySem.W.cellsFrom_some _ _ _ (.inl q)⟩
    refine codeAny_call_function hr.depth (KX _ _ lk) rfl S.co S.gen rfl (PySem.W.codeRec_of KX hcd) (bd _ _ _ _ (wpAny_newFunctionEnv_cells S.kind kinds fun env he s1 x => ?_))
    subst he
    refine ⟨(e0.mod.nolimit.keeps at0).keeps x.toInCall.keep, codeAny_func ?_⟩
    obtain ⟨t, ht, hq⟩ := hb A outer s H vs Q E gd (hr.deeper _) hsp
    refine wpAny_mono (ht.run [] s1 (start N vs) H _ (inv_start S hr.hd e0 lv r x) hq) (fun fl s' hs => ?_) fun _ _ z => z
    match fl, hs with
    | .ret u, ⟨v, σ', H', J, rv, q⟩ => exact ⟨v, H', J.os, J.bare, J.base, J.hok, rv, q⟩
    | .next, ⟨σ', H', J, q⟩ => exact ⟨.non, H', J.os, J.bare, J.base, J.hok, rfl, q⟩
    | .brk, ⟨_, _, _, q⟩ => exact q.elim
    | .cont, ⟨_, _, _, q⟩ => exact q.elim
theorem okG {x qual : Str} {params : Arguments} {body : List Stmt} {scope : Scope} {dvs : List V} {kws : List (Str × V)} {N ps : List Str} {sp : Sp} (F : FunD K x qual params body scope dvs kws f fd) (S : FnScope N ps scope) (len : ∀ vs H Q E, sp vs H Q E → vs.length = ps.length)
    (hb : ∀ (cdv : Value) (A : Around) (outer : List Env) (s : Shared) (H : Hp) (vs : List V) (Q : VK) (E : XK), (A.deeper (envOfC qual scope s.heap.objs.size f cdv)).guards = some [] → Room k (A.deeper (envOfC qual scope s.heap.objs.size f cdv)) → sp vs H Q E →
      ∃ t, PSs (cxOf CX P w K mg base N qual scope f cdv A outer s H E) body t ∧ t { nx := fun _ H' => Q .non H', rt := Q } (start N vs) H) : FnG P w K mg base CX (k + 1) f fd ps sp := by
  obtain ⟨oc, od, dV, kV, doc, pm, an, cdv, ct, osl, rfl, lk, hcd, _, _⟩ := F.ex
  exact fn_guard lk hcd S len fun A outer s H vs Q E => hb cdv A outer s H vs Q E
end

section
variable {X : Cx} {CX : CXT} {k i : Nat} {f : Addr} {fd : FuncData} {ps ks : List Str} {sp : Sp} {E : XK} {x : Str} {p pos : Pos} {e : Expr} {es : List Expr} {kws : List Keyword} {t tk : TA}
/-- f(e, ..), no guard held -/
theorem pe_callG (F : FnG X.prog X.w X.K X.mg X.base CX0 k f fd ps sp) (gd : X.A.guards = some []) (hr : Room k X.A) (hg : Gl X x) (hm : X.mg x = some (.ref f)) (hk : PySem.W.keepIn X.K (.ref f) = true) (hb : Binds X.K fd ps [])
    (ha : PA X (e :: es) t) (hdb : (x == ("__debug__" : Str)) = false := by decide) (he : starEach (e :: es) X.env = (false, eval e X.env) :: starEach es X.env := by rfl) (hpl : (backTo pos (starEach es X.env)).any (·.1) = false := by rfl) :
    PE X (.Call (.Name x p) (e :: es) [] pos) (tCall sp [] E0 t) := by
  refine ⟨fun pins s σ H Q I h => wpAny_Call_Name_kw (ld_glob I hg hm ?_ hdb)⟩
  refine PySem.W.callWith_K (h₀ := X.base) I.ok.mod.kin hk (thn (ha.run pos pins s σ H _ I h) fun us s1 ⟨vs, H1, I1, r, q⟩ => ⟨I1.kIn, ?_⟩) he hpl
  have q : sp vs H1 Q E0 := by
    have q' : sp (vs ++ []) H1 Q E0 := q
    rw [List.append_nil] at q'
    exact q'
  have lu : us.length = ps.length := by rw [← r.length]; exact F.len _ _ _ _ q
  have b := hb s1 us I1.kIn (by rw [List.append_nil]; exact lu)
  rw [List.append_nil] at b
  refine wpAny_call (codeAny_mono (F.run X.A X.stack s1 H1 ⟨us, []⟩ us vs Q E0 gd hr I1.env0 b r q) fun r s' hq => ?_)
  match r, hq with
  | .error _, hq => exact hq.elim
  | .ok (.ret _), hq => exact I1.after hq
  | .ok .next, hq => exact hq.elim
  | .ok .brk, hq => exact hq.elim
  | .ok .cont, hq => exact hq.elim

/-- f(k = v), nothing by place -/
theorem pe_callKw {g : List Value → List Value → List Value} {gV : List V → List V → List V} {E : St → XK} (F : FnOk X.prog X.w X.K X.mg X.base CX k f fd ps sp) (hr : Room k X.A) (hg : Gl X x) (hm : X.mg x = some (.ref f)) (hk : PySem.W.keepIn X.K (.ref f) = true) (hb : KBinds X.K fd ps ks g gV)
    (hx : ∀ σ, PassesAt CX X σ (E σ)) (hkw : PK X kws tk) (hall : (backToKw pos (keywordEach kws X.env)).all (·.1.isSome) = true := by rfl) (hks : (backToKw pos (keywordEach kws X.env)).filterMap (·.1) = ks := by rfl)
    (hdb : (x == ("__debug__" : Str)) = false := by decide) (hno : (backToKw pos (keywordEach kws X.env)).any (·.1.isNone) = false := by rfl) :
    PE X (.Call (.Name x p) [] kws pos) (fun σ H Q => tk σ H fun zs H2 => sp (gV [] zs) H2 Q (E σ)) := by
  refine ⟨fun pins s σ H Q I h => wpAny_Call_Name_kw (ld_glob I hg hm ?_ hdb)⟩
  refine PySem.W.callWith_KW0 (h₀ := X.base) I.ok.mod.kin hk hall (thn (hkw.run pos pins s σ H _ I h) fun ws s2 hu => ?_) hno
  obtain ⟨zs, H2, I2, rz, q2⟩ := hu
  refine ⟨I2.kIn, ?_⟩
  rw [hks]
  have r2 := hb.rel .nil rz
  have hl : (g [] ws).length = ps.length := by rw [← r2.length]; exact F.len _ _ _ _ q2
  refine wpAny_call (codeAny_mono (F.run X.A X.stack s2 H2 ⟨[], ks.zip ws⟩ (g [] ws) (gV [] zs) Q (E σ) hr I2.env0 (hb.to s2 [] ws I2.kIn hl) r2 q2) fun r s' hq => ?_)
  match r, hq with
  | .error e', hq => exact hx σ pins H2 s2 e' s' I2 hq
  | .ok (.ret _), hq => exact I2.after hq
  | .ok .next, hq => exact hq.elim
  | .ok .brk, hq => exact hq.elim
  | .ok .cont, hq => exact hq.elim

/-- of several defs that the slot may hold, and that may raise -/
structure HeldX (P : Program) (w : World) (K : PySem.W.Frag) (mg : Str → Option Value) (base : Heap) (k : Nat) (f : Addr) (sp : Sp) : Prop where
  ex : ∃ (fd : FuncData) (ps : List Str), FnOk P w K mg base (L2.CX P w) k f fd ps sp ∧ PySem.W.keepIn K (.ref f) = true ∧ Binds K fd ps []
def tCallAX (i : Nat) (S : Addr → Option Sp) (E : XK) (t : TA) : TE := fun σ H Q => ∃ f sp, σ[i]? = some (some (.ref f)) ∧ S f = some sp ∧ t σ H fun vs H1 => sp vs H1 Q E
theorem pe_callAX {S : Addr → Option Sp} (A : ∀ f sp, S f = some sp → HeldX X.prog X.w X.K X.mg X.base k f sp) (hr : Room k X.A) (hN : X.N[i]? = some x) (hv : Vis X.env.scope x) (hx : Passes (L2.CX X.prog X.w) X E) (ha : PA X (e :: es) t)
    (hdb : (x == ("__debug__" : Str)) = false := by decide) (hcd : (x == ("__classdict__" : Str)) = false := by decide)
    (he : starEach (e :: es) X.env = (false, eval e X.env) :: starEach es X.env := by rfl) (hpl : (backTo pos (starEach es X.env)).any (·.1) = false := by rfl) : PE X (.Call (.Name x p) (e :: es) [] pos) (tCallAX i S E t) := by
  refine ⟨fun pins s σ H Q I h => ?_⟩
  obtain ⟨f, sp, hs, hS, ht⟩ := h
  obtain ⟨fd, ps, F, hk, hb⟩ := (A f sp hS).ex
  refine (pe_callL (i := i) (f := f) (sp := sp) (dvs := []) (E := E) F hr hN hv hk hb .nil hx ha hdb hcd he hpl).run pins s σ H Q I ⟨hs, ?_⟩
  simp only [List.append_nil]
  exact ht

/-! ### repr -/
/-- repr(x): the data's text -/
def rRepr (K : PySem.W.Frag) : List V → Hp → VK → Prop := fun xs H Q => ∃ (x : V) (d : PyData), xs = [x] ∧ Dp K H x d ∧ (((∃ a, x = .ref a) ∧ d.showable = true ∧ d.hasDict = false ∧ d.depth ≤ 20) ∨ ∃ z, x = .str z) ∧ d.shown.length ≤ sizeLine ∧ Q (.str d.shown) H
theorem cr_repr (gd : X.A.guards = some []) (hu : X.A.units + 30 < cLine) : CallR X (.builtin "repr") (rRepr X.K) := by
  intro pins s σ H xs us Q I r h
  obtain ⟨x, d, rfl, hd, hx, hz, q⟩ := h
  obtain ⟨u, rfl, ru⟩ := vals1 r
  rcases hx with ⟨⟨a, rfl⟩, h1, h2, h3⟩ | ⟨z, rfl⟩
  · obtain ⟨as, rd⟩ := Dp.reads I d _ _ hd ru
    obtain rfl : u = Value.ref a := ru
    exact repr_of_reads' rd h1 (fun z => by rw [h2] at z; cases z) gd (by omega) (fun _ _ e => e) (fun h' u' tk kp => ⟨.str d.shown, H, I.kept (t' := tk) kp, ⟨u', rfl⟩, q⟩) hz
  · cases hd
    obtain ⟨t, rfl⟩ := ru
    exact P.repr_of_str ⟨.str (reprText z), H, I.tok _, ⟨_, rfl⟩, q⟩ hz
end

/-! ### a law's end -/
/-- what the caller of the law has: the script alone is told -/
theorem law_env {P : Program} {w : World} {K : PySem.W.Frag} {mg mb : Str → Option Value} {a : Addr} {s : Shared} {vs : List Value} {ns : List Int}
    (KX : K.In s.heap) (hns : s.heap.Ns mainGlobals mg) (hb : s.heap.Ns builtinsNs mb) (hbb : ∀ x : Str, x ≠ "__name__" → mb x = bootBuiltins x) (hlim : s.heap.NoLimit) (hg : s.gens = #[])
    (ha : s.heap.get? a = some { cls := .type "list", data := .seq vs.toArray }) (hi : IntsAre vs ns) (hl : ns.length ≤ sizeLine) :
    ∃ (H : Hp) (base : Heap), Only H ∧ SqL K H a (ns.map V.int) ∧ K.In base ∧ base.Ns mainGlobals mg ∧ Env0 P w K mg base callerA [] s H ∧
      ∀ (u : Value) (s' : Shared), CE [] P w H s (fun v _ => v = .bl true) u s' → u = .bool true ∧ OldK s.heap s'.heap ∧ s'.os = s.os ∧ AllBare s'.gens := by
  have rv := vals_ints hi
  have lenV := hi.length
  -- the script is told, unless it is one of the module's own objects
  let H : Hp := fun b => if b = a ∧ K.lookup a = none then some (.frz { cls := .type "list", data := .seq vs.toArray } (.lst (ns.map V.int))) else none
  have Hat : ∀ {b : Addr} {u : HO}, H b = some u → b = a ∧ K.lookup a = none ∧ u = .frz { cls := .type "list", data := .seq vs.toArray } (.lst (ns.map V.int)) := fun {b u} e => by
    by_cases c : b = a ∧ K.lookup a = none
    · have e' := (if_pos c).symm.trans e
      exact ⟨c.1, c.2, (Option.some.inj e').symm⟩
    · have e' := (if_neg c).symm.trans e
      cases e'
  have only : Only H := fun b => by
    cases q : H b with
    | none => exact .inl rfl
    | some u => exact .inr ⟨_, _, by rw [(Hat q).2.2]⟩
  have ok : HOk P w H s.heap := fun b u e => by
    obtain ⟨rfl, _, rfl⟩ := Hat e
    exact ⟨ha, by rw [List.length_map]; exact hl, vs, _, rv, ha⟩
  have sq : SqL K H a (ns.map V.int) := by
    cases hk : K.lookup a with
    | some o =>
      have e := KX a o hk
      rw [ha] at e
      cases e
      exact .inr ⟨_, vs.toArray, _, hk, rfl, rfl, rfl, by rw [List.size_toArray, lenV]; exact hl, by simpa using rv⟩
    | none => exact .inl (.inr ⟨_, if_pos ⟨rfl, hk⟩⟩)
  have out : ∀ {b : Addr} {o : Obj}, s.heap.get? b = some o → H b = none → (hidT s.heap H).get? b = some o := fun e n => hidT_get e n
  have dct : ∀ {b : Addr} {o : Obj} {es : Array DictEntry} {ep : Nat}, s.heap.get? b = some o → o.data = .dict es ep → H b = none := fun {b o es ep} e d => by
    cases q : H b with
    | none => rfl
    | some u =>
      obtain ⟨rfl, _, _⟩ := Hat q
      rw [ha] at e
      cases e
      cases (show Data.seq vs.toArray _ = Data.dict es ep from d)
  have nsO : ∀ {b : Addr} {m : Str → Option Value}, s.heap.Ns b m → (hidT s.heap H).Ns b m := fun {b m} ⟨o, es, ep, e, d, r⟩ => ⟨o, es, ep, out e (dct e d), d, r⟩
  have KB : K.In (hidT s.heap H) := fun b o e => out (KX b o e) (by
    cases q : H b with
    | none => rfl
    | some u =>
      obtain ⟨rfl, n, _⟩ := Hat q
      rw [n] at e
      cases e)
  obtain ⟨mc, c1, c2⟩ := hlim
  have md : Mod K mg (hidT s.heap H) := ⟨KB, nsO hns, ⟨mb, nsO hb, hbb⟩, ⟨mc, nsO c1, c2⟩⟩
  refine ⟨H, hidT s.heap H, only, sq, KB, nsO hns, ⟨rfl, md, fun b o e => of_hidT e, Nat.le_of_eq (hidT_size _ _), trivial, fun b hb => absurd (show b ∈ ([] : List Addr) from hb) List.not_mem_nil, ok, .of_eq hg⟩, fun u s' c => ?_⟩
  obtain ⟨v, H', os, bare, un, ok', rv', q⟩ := c
  subst q
  refine ⟨rv', OldK.of_keep fun b o e => ?_, os, bare⟩
  cases q : H b with
  | none => exact un.keep b o e q List.not_mem_nil List.not_mem_nil
  | some u =>
    obtain ⟨rfl, n, rfl⟩ := Hat q
    rw [ha] at e
    cases e
    exact (ok' _ _ (un.frzs _ _ _ q)).1
theorem walk_ofG {l : PySem.W.OpenLaw} {n k : Nat} {q : Program} {loose : List Str} {XP : (Str → Option Value) → Heap → Prop} {YP : World → Heap → Prop} {d : DefRec} {x : Str}
    (hn : l.most = some n) (hn2 : n ≤ sizeLine) (hdf : d.params.defaults = []) (hr : Room k callerA)
    (F : ∀ (w : World) (mg : Str → Option Value) (fa : Addr) (h : Heap), YP w h → h.Ns mainGlobals mg → mg d.name = some (.ref fa) →
      ∃ (K : PySem.W.Frag) (fd : FuncData) (sp : Sp), K.In h ∧ (∀ (s : Shared) (u : Value), BindsTo s fd ⟨[u], []⟩ [(x, u)]) ∧
        (∀ (H : Hp) (a : Addr) (ns : List Int), ns.length ≤ n → Only H → SqL K H a (ns.map V.int) → sp [.ref a] H (fun v _ => v = .bl true) fun _ _ _ => False) ∧
        ∀ base : Heap, K.In base → base.Ns mainGlobals mg → FnG l.prog w K mg base CX0 k fa fd [x] sp) :
    PySem.W.WalkO q loose XP YP l.row.toRowW d [] (fun f vs => PySem.call f vs) := by
  refine Att.attach_call hn hdf fun w s₀ s mg mb fa o pm cd doc a vs ns G Y ho hd hcd hmg hobj hi hlen hg => ?_
  obtain ⟨K, fd, sp, KX, hb, hsp, hF⟩ := F w mg fa _ Y G.T.g hmg
  obtain ⟨H, base, only, sq, KB, NB, e0, fin⟩ := law_env (P := l.prog) (w := w) KX G.T.g G.T.b G.T.builtins G.T.nolimit hg hobj hi (Nat.le_trans hlen hn2)
  refine codeAny_mono ((hF base KB NB).run callerA [] s H ⟨[.ref a], []⟩ [.ref a] [.ref a] _ _ rfl hr e0 (hb s (.ref a)) (.cons rfl .nil) (hsp H a ns hlen only sq)) fun r s' h => ?_
  match r, h with
  | .error _, h => exact h.elim
  | .ok .next, h => exact h.elim
  | .ok .brk, h => exact h.elim
  | .ok .cont, h => exact h.elim
  | .ok (.ret u), h =>
    obtain ⟨rfl, r2⟩ := fin u s' h
    exact ⟨rfl, r2⟩
end L2.EG

set_option Elab.async false
set_option linter.all false
set_option maxRecDepth 100000
set_option maxHeartbeats 4000000
/-! Own rules, part seven: name = {..} by a comprehension; a field as one of a pair of targets. -/
namespace L2.EG
open PySem PySem.Spec PyProof.Rows
section
variable {X : Cx}
/-- name = {k: v for ..} on one line, the name a local -/
theorem ps_setDc {i : Nat} {y : Str} {py : Pos} {kx vx tg iter : Expr} {ifs : List Expr} {scope : Scope} {own : List (Str × Nat)} {pos spos : Pos} {wi : TI} {g : TG} {tt : TT} {tk tv : TE} (hc : X.calm = true) (hN : X.N.Nodup) (hy : X.N[i]? = some y)
    (hyl : X.env.scope.names.lookup y = some .local) (hsw : swapsWith (.DictComp kx vx [⟨tg, iter, ifs, 0⟩] scope pos) (some (.Name y py)) spos.line X.env = pure true) (hi : PI X tg iter wi) (ok : BlkOk X.N X.env.scope scope own)
    (hg : ∀ (s : Shared) (H : Hp) (C : Addr) (cl : List (Str × Addr)) (fp : List Addr), PG (X.blk s H scope (compEnvC scope cl C X.env) fp) tg g) (ht : ∀ (s : Shared) (H : Hp) (C : Addr) (cl : List (Str × Addr)) (fp : List Addr), PTs (X.blk s H scope (compEnvC scope cl C X.env) fp) ifs tt)
    (hk : ∀ (s : Shared) (H : Hp) (C : Addr) (cl : List (Str × Addr)) (fp : List Addr), PE (X.blk s H scope (compEnvC scope cl C X.env) fp) kx tk)
    (he : ∀ (s : Shared) (H : Hp) (C : Addr) (cl : List (Str × Addr)) (fp : List Addr), PE (X.blk s H scope (compEnvC scope cl C X.env) fp) vx tv) (hs : ∀ x, foldedSetIterable iter X.env x = pure x := by intro _; rfl) :
    PS X (.Assign [.Name y py] (.DictComp kx vx [⟨tg, iter, ifs, 0⟩] scope pos) spos) (tAsg (tDc wi g tt tk tv (own.map (·.2))) (gName i)) := by
  refine ⟨fun pins s σ H D I h => ?_⟩
  rw [exec_Assign_Name_used _ _ _ _ hsw]
  refine wpAny_bind (wpAny_standAt (wpAny_bind ?_))
  show wpAny _ X.A (do let _ ← comprehension (.DictComp kx vx [⟨tg, iter, ifs, 0⟩] scope pos) scope X.env (firstIterPos [⟨tg, iter, ifs, 0⟩] pos) newDict false (eval iter X.env) (some (assign (.Name y py) X.env))) _ _ s
  refine wpAny_bind (thn (dc_core (Q := fun x H1 => gName i x σ H1 D.nx) (Qf := fun _ z => SP X pins D .next z) hc hN I hi ok hg ht hk he hs h fun L C z m H' I' q hn f => ?_) fun _ z hq => wpAny_pure (wpAny_pure hq))
  show wpAny _ _ (assign (.Name y py) X.env (.ref L)) _ _ _
  refine wpAny_assign_Name (store_ok2 (v := V.ref L) I' hN hy (.inl hyl) rfl (fun s2 I2 hsb => ?_) (.inr hyl))
  obtain ⟨a, sb, ha⟩ := hsb
  obtain ⟨f0, f1, f2, f3, f4, f5⟩ := f
  have off : C ≠ a := ha.elim (fun z => z ▸ f1) fun z e => f4 y a z e.symm
  exact ⟨m, hn.sameBut sb off, fun h3 sb3 => ⟨_, H', I2.turned (t' := s2.toks) (fun b o hb e => (sb3.2 b hb).trans e) f0 f1 f3 f4 f5, q⟩⟩
theorem sw_dc {kx vx : Expr} {gs : List Comprehension} {scope : Scope} {pos py : Pos} {y : Str} {l : Nat} {env : Env} (hk : env.scope.kind = .function) (hy : env.scope.names.lookup y = some .local) (hl : (py.line == pos.line) = true)
    (ha : (scope.names.any fun (n, k) => n == y && (k == .local || k == .cell)) = false) : swapsWith (.DictComp kx vx gs scope pos) (some (.Name y py)) l env = pure true := by
  have ky : env.kindOf y = some .local := hy
  have kb : env.blockKind = .function := by unfold Env.blockKind; rw [hk]; rfl
  unfold swapsWith
  simp only [kb, ky, ha, Expr.pos, hl]
  rfl
/-- o.f = .., as one of several targets -/
def gFld (K : PySem.W.Frag) (ta : TE) (f : Str) : TG := fun v σ H Q => ta σ H fun x H1 => ∃ a C dx fs, x = .ref a ∧ H1 a = some (.ins C dx fs) ∧ Cls K C ∧ NoAttr K C f ∧ fs.length < 1000 ∧ Q σ (upd H1 a (.ins C dx (putF f v fs)))
theorem pg_fld {o : Expr} {f : Str} {ta : TE} {pos : Pos} (ho : PE X o ta) : PG X (.Attribute o f pos) (gFld X.K ta f) := by
  refine ⟨fun pins s σ H v u Q I r h => ?_⟩
  rw [assign_Attribute]
  refine wpAny_bind (wpAny_holding (thn (ho.run pins s σ H _ I h) fun ov s1 hx => ?_))
  obtain ⟨x, H1, I1, rx, a, C, dx, fs, ex, ea, c, n, l, q⟩ := hx
  subst ex
  obtain rfl : ov = Value.ref a := rx
  refine wpAny_bind (wpAny_standAt (wpAny_bind (wpAny_holding (setattr_ok I1 ea c n l r fun s2 I2 => ?_))))
  exact wpAny_release ⟨σ, _, I2, q⟩
end
end L2.EG

set_option Elab.async false
set_option linter.all false
set_option maxRecDepth 100000
set_option maxHeartbeats 4000000
/-! The frame of the proof: what stands at the top, promises by name. -/
namespace L2.EG
open PySem PySem.Spec PyProof.Rows

/-- the top's statements -/
abbrev top (i : Nat) : Stmt := PySem.Challenge.pw_everygrain_k17_whole_only_packs_are_read.main.body.getD i (.Pass ⟨0, 0, 0, 0⟩)
/-- a class's statements -/
def clsBody : Stmt → List Stmt
  | .ClassDef _ _ _ body _ _ _ _ _ _ _ => body
  | _ => []
/-- where one is -/
structure Md where
  P : Program
  w : World
  K : PySem.W.Frag
  mg : Str → Option Value
  base : Heap
/-- a def of the top -/
structure Fd (M : Md) (x : Str) (st : Stmt) : Prop where
  ex : ∃ (f : Addr) (fd : FuncData), M.mg x = some (.ref f) ∧ FunD M.K x x (defArgs st) (defBody st) (defScope st) [] [] f fd
/-- a def of the top keeps its promise; X: what it may let out -/
structure PmX (M : Md) (CX : CXT) (x : Str) (k : Nat) (ps : List Str) (sp : Sp) : Prop where
  ex : ∃ (f : Addr) (fd : FuncData), M.mg x = some (.ref f) ∧ PySem.W.keepIn M.K (.ref f) = true ∧ Binds M.K fd ps [] ∧ FnOk M.P M.w M.K M.mg M.base CX k f fd ps sp
abbrev Md.pm (M : Md) (x : Str) (k : Nat) (ps : List Str) (sp : Sp) : Prop := PmX M CX0 x k ps sp
abbrev Md.pmx (M : Md) (x : Str) (k : Nat) (ps : List Str) (sp : Sp) : Prop := PmX M (L2.CX M.P M.w) x k ps sp
theorem PmX.mono {M : Md} {CX : CXT} {x : Str} {j k : Nat} {ps : List Str} {sp : Sp} (h : PmX M CX x j ps sp) (l : j ≤ k) : PmX M CX x k ps sp := by
  obtain ⟨f, fd, a, b, c, d⟩ := h.ex
  exact ⟨f, fd, a, b, c, d.mono l⟩
/-- the context of a def's body -/
abbrev Md.cx (M : Md) (CX : CXT) (N : List Str) (qual : Str) (st : Stmt) (f : Addr) (cdv : Value) (A : Around) (outer : List Env) (s : Shared) (H : Hp) (E : XK) : Cx := cxOf CX M.P M.w M.K M.mg M.base N qual (defScope st) f cdv A outer s H E
section
variable {M : Md} {x : Str} {st : Stmt} {N ps : List Str} {k : Nat} {sp : Sp}
/-- THE RULE for a def that lets nothing out -/
theorem Fd.ok (F : Fd M x st) (S : FnScope N ps (defScope st)) (len : ∀ vs H Q E, sp vs H Q E → vs.length = ps.length)
    (bd : ∀ (kV doc pm : Value) (an : Option Addr) (cdv ct : Value) (us : List Value), us.length = ps.length → bindArgs (PySem.W.fnOf x x (defArgs st) (defBody st) (defScope st) .none kV doc pm an cdv ct) ⟨us, []⟩ = pure (ps.zip us))
    (body : ∀ (f : Addr) (cdv : Value) (A : Around) (outer : List Env) (s : Shared) (H : Hp) (vs : List V) (Q : VK) (E : XK), Room k (A.deeper (envOfC x (defScope st) s.heap.objs.size f cdv)) → sp vs H Q E →
      ∃ t, PSs (M.cx CX0 N x st f cdv A outer s H E).nox (defBody st) t ∧ t { nx := fun _ H' => Q .non H', rt := Q } (start N vs) H) : M.pm x (k + 1) ps sp := by
  obtain ⟨f, fd, hm, F⟩ := F.ex
  refine ⟨f, fd, hm, F.kp, F.bindsN bd, F.ok S len fun cdv A outer s H vs Q E hr h => ?_⟩
  obtain ⟨t, h1, h2⟩ := body f cdv A outer s H vs Q E hr h
  exact ⟨t, h1.nox, h2⟩
/-- the same for one that may raise -/
theorem Fd.okX (F : Fd M x st) (S : FnScope N ps (defScope st)) (len : ∀ vs H Q E, sp vs H Q E → vs.length = ps.length)
    (bd : ∀ (kV doc pm : Value) (an : Option Addr) (cdv ct : Value) (us : List Value), us.length = ps.length → bindArgs (PySem.W.fnOf x x (defArgs st) (defBody st) (defScope st) .none kV doc pm an cdv ct) ⟨us, []⟩ = pure (ps.zip us))
    (body : ∀ (f : Addr) (cdv : Value) (A : Around) (outer : List Env) (s : Shared) (H : Hp) (vs : List V) (Q : VK) (E : XK), Room k (A.deeper (envOfC x (defScope st) s.heap.objs.size f cdv)) → sp vs H Q E →
      ∃ t, PSs (M.cx (L2.CX M.P M.w) N x st f cdv A outer s H E) (defBody st) t ∧ t { nx := fun _ H' => Q .non H', rt := Q } (start N vs) H) : M.pmx x (k + 1) ps sp := by
  obtain ⟨f, fd, hm, F⟩ := F.ex
  exact ⟨f, fd, hm, F.kp, F.bindsN bd, F.ok S len fun cdv A outer s H vs Q E hr h => body f cdv A outer s H vs Q E hr h⟩
end
/-- the module a context stands in -/
abbrev mdOf (X : Cx) : Md := ⟨X.prog, X.w, X.K, X.mg, X.base⟩
section
variable {X : Cx} {k : Nat} {ps : List Str} {sp : Sp} {x : Str} {p pos : Pos} {e : Expr} {es : List Expr} {t : TA}
def tPm (sp : Sp) (E : St → XK) (t : TA) : TE := fun σ H Q => t σ H fun vs H1 => sp vs H1 Q (E σ)
/-- f(e, ..) -/
theorem pe_pm (F : PmX (mdOf X) CX0 x k ps sp) (hr : Room k X.A) (hg : Gl X x) (ha : PA X (e :: es) t) (hdb : (x == ("__debug__" : Str)) = false := by decide) (he : starEach (e :: es) X.env = (false, eval e X.env) :: starEach es X.env := by rfl)
    (hpl : (backTo pos (starEach es X.env)).any (·.1) = false := by rfl) : PE X (.Call (.Name x p) (e :: es) [] pos) (tPm sp (fun _ => E0) t) := by
  obtain ⟨f, fd, hm, hk, hb, F⟩ := F.ex
  exact pe_callS (E := fun _ => E0) F hr hg hm hk hb (fun _ _ _ _ _ _ _ h => h.elim) ha hdb he hpl
/-- f(e, ..), f may raise -/
theorem pe_pmx {E : St → XK} (F : PmX (mdOf X) (L2.CX X.prog X.w) x k ps sp) (hr : Room k X.A) (hg : Gl X x) (hx : ∀ σ, PassesAt (L2.CX X.prog X.w) X σ (E σ)) (ha : PA X (e :: es) t) (hdb : (x == ("__debug__" : Str)) = false := by decide)
    (he : starEach (e :: es) X.env = (false, eval e X.env) :: starEach es X.env := by rfl) (hpl : (backTo pos (starEach es X.env)).any (·.1) = false := by rfl) : PE X (.Call (.Name x p) (e :: es) [] pos) (tPm sp E t) := by
  obtain ⟨f, fd, hm, hk, hb, F⟩ := F.ex
  exact pe_callS F hr hg hm hk hb hx ha hdb he hpl
end
/-- the built-in names that the module leaves alone -/
structure Bn (M : Md) : Prop where
  isinstance : M.mg "isinstance" = none
  list : M.mg "list" = none
  tuple : M.mg "tuple" = none
  int : M.mg "int" = none
  bool : M.mg "bool" = none
  len : M.mg "len" = none
  range : M.mg "range" = none
  all : M.mg "all" = none
  sum : M.mg "sum" = none
  abs : M.mg "abs" = none
  max : M.mg "max" = none
  min : M.mg "min" = none
  sorted : M.mg "sorted" = none
  set : M.mg "set" = none
  enumerate : M.mg "enumerate" = none
  zip : M.mg "zip" = none
  reversed : M.mg "reversed" = none
  repr : M.mg "repr" = none
/-- an exception class that is raised without arguments -/
structure Ec (M : Md) (x : Str) (C : Addr) : Prop where
  gC : M.mg x = some (.ref C)
  ex : ∃ (fI : Addr) (fd : FuncData), ExF M.K C fI ∧ FnOk M.P M.w M.K M.mg M.base CX0 2 fI fd ["self"] (spIni C) ∧ Binds M.K fd ["self"] []
theorem pmk_ec {X : Cx} {x : Str} {C : Addr} {p pos : Pos} (T : Ec (mdOf X) x C) (hr : Room 3 X.A) (hg : Gl X x) (hdb : (x == ("__debug__" : Str)) = false := by decide) : PMk X (.Call (.Name x p) [] [] pos) (fun _ H Q => Q (.ref C) none H) := by
  obtain ⟨fI, fd, a, b, c⟩ := T.ex
  exact pmk_ex a b hr c hg T.gC hdb
/-- a method of the class at C -/
structure MtX (M : Md) (CX : CXT) (C : Addr) (m : Str) (k : Nat) (ps : List Str) (sp : Sp) : Prop where
  ex : ∃ (f : Addr) (fd : FuncData), Meth M.K C m f ∧ Binds M.K fd ps [] ∧ FnOk M.P M.w M.K M.mg M.base CX k f fd ps sp
abbrev Md.mt (M : Md) (C : Addr) (m : Str) (k : Nat) (ps : List Str) (sp : Sp) : Prop := MtX M CX0 C m k ps sp
abbrev Md.mtx (M : Md) (C : Addr) (m : Str) (k : Nat) (ps : List Str) (sp : Sp) : Prop := MtX M (L2.CX M.P M.w) C m k ps sp
/-- a def of a class -/
structure Fm (M : Md) (C : Addr) (m qual : Str) (st : Stmt) : Prop where
  ex : ∃ (f : Addr) (fd : FuncData), Meth M.K C m f ∧ FunD M.K m qual (defArgs st) (defBody st) (defScope st) [] [] f fd
section
variable {M : Md} {C : Addr} {m qual : Str} {st : Stmt} {N ps : List Str} {k : Nat} {sp : Sp}
theorem Fm.ok (F : Fm M C m qual st) (S : FnScope N ps (defScope st)) (len : ∀ vs H Q E, sp vs H Q E → vs.length = ps.length)
    (bd : ∀ (kV doc pm : Value) (an : Option Addr) (cdv ct : Value) (us : List Value), us.length = ps.length → bindArgs (PySem.W.fnOf m qual (defArgs st) (defBody st) (defScope st) .none kV doc pm an cdv ct) ⟨us, []⟩ = pure (ps.zip us))
    (body : ∀ (f : Addr) (cdv : Value) (A : Around) (outer : List Env) (s : Shared) (H : Hp) (vs : List V) (Q : VK) (E : XK), Room k (A.deeper (envOfC qual (defScope st) s.heap.objs.size f cdv)) → sp vs H Q E →
      ∃ t, PSs (M.cx CX0 N qual st f cdv A outer s H E).nox (defBody st) t ∧ t { nx := fun _ H' => Q .non H', rt := Q } (start N vs) H) : M.mt C m (k + 1) ps sp := by
  obtain ⟨f, fd, hm, F⟩ := F.ex
  refine ⟨f, fd, hm, F.bindsN bd, F.ok S len fun cdv A outer s H vs Q E hr h => ?_⟩
  obtain ⟨t, h1, h2⟩ := body f cdv A outer s H vs Q E hr h
  exact ⟨t, h1.nox, h2⟩
theorem Fm.okX (F : Fm M C m qual st) (S : FnScope N ps (defScope st)) (len : ∀ vs H Q E, sp vs H Q E → vs.length = ps.length)
    (bd : ∀ (kV doc pm : Value) (an : Option Addr) (cdv ct : Value) (us : List Value), us.length = ps.length → bindArgs (PySem.W.fnOf m qual (defArgs st) (defBody st) (defScope st) .none kV doc pm an cdv ct) ⟨us, []⟩ = pure (ps.zip us))
    (body : ∀ (f : Addr) (cdv : Value) (A : Around) (outer : List Env) (s : Shared) (H : Hp) (vs : List V) (Q : VK) (E : XK), Room k (A.deeper (envOfC qual (defScope st) s.heap.objs.size f cdv)) → sp vs H Q E →
      ∃ t, PSs (M.cx (L2.CX M.P M.w) N qual st f cdv A outer s H E) (defBody st) t ∧ t { nx := fun _ H' => Q .non H', rt := Q } (start N vs) H) : M.mtx C m (k + 1) ps sp := by
  obtain ⟨f, fd, hm, F⟩ := F.ex
  exact ⟨f, fd, hm, F.bindsN bd, F.ok S len fun cdv A outer s H vs Q E hr h => body f cdv A outer s H vs Q E hr h⟩
end
theorem px0 {X : Cx} {E : XK} : ∀ σ, PassesAt CX0 X σ E := fun _ _ _ _ _ _ _ h => h.elim
theorem passes_at {CX : CXT} {X : Cx} {E : XK} (h : ∀ σ, PassesAt CX X σ E) : Passes CX X E := fun pins σ H s e s' I c => h σ pins H s e s' I c
section
variable {X : Cx} {CX : CXT} {C : Addr} {k : Nat} {ps : List Str} {sp : Sp} {E : XK} {m x : Str} {p pos apos : Pos} {o e : Expr} {es : List Expr} {to : TE} {t tk : TA} {kws : List Keyword}
/-- o.m() -/
theorem pe_mt0 {pl : Sem Bool} (c : Cls X.K C) (F : MtX (mdOf X) CX C m k ps sp) (hr : Room k X.A) (hx : ∀ σ, PassesAt CX X σ E) (ho : PE X o to)
    (ht : eval (.Call (.Attribute o m apos) [] [] pos) X.env = (do
      let ov ← eval o X.env
      standAt apos.atName
      let (f, first) ← holding [ov] (getMethod ov m pl)
      callWith pos f first (backTo pos (starEach [] X.env)) (backToKw pos (keywordEach [] X.env))) := by rfl) : PE X (.Call (.Attribute o m apos) [] [] pos) (tMeth C m sp [] E to tNil) := by
  obtain ⟨f, fd, hm, hb, F⟩ := F.ex
  exact pe_meth0 ho c hm F hr hb .nil (passes_at hx) ht
/-- o.m(e, ..) -/
theorem pe_mt {pl : Sem Bool} (c : Cls X.K C) (F : MtX (mdOf X) CX C m k ps sp) (hr : Room k X.A) (hx : ∀ σ, PassesAt CX X σ E) (ho : PE X o to) (ha : PA X (e :: es) t)
    (hst : starEach (e :: es) X.env = (false, eval e X.env) :: starEach es X.env := by rfl) (hpl : (backTo pos (starEach es X.env)).any (·.1) = false := by rfl)
    (ht : eval (.Call (.Attribute o m apos) (e :: es) [] pos) X.env = (do
      let ov ← eval o X.env
      standAt apos.atName
      let (f, first) ← holding [ov] (getMethod ov m pl)
      callWith pos f first (backTo pos (starEach (e :: es) X.env)) (backToKw pos (keywordEach [] X.env))) := by rfl) : PE X (.Call (.Attribute o m apos) (e :: es) [] pos) (tMeth C m sp [] E to t) := by
  obtain ⟨f, fd, hm, hb, F⟩ := F.ex
  exact pe_meth ho c hm F hr hb .nil (passes_at hx) ha hst hpl ht
/-- C(e, ..) -/
theorem pe_mk (M : ∀ f, PySem.W.findIn X.K (.ref C) "__init__" = some (some (.ref f)) → Mk X.K C f) (F : MtX (mdOf X) CX0 C "__init__" k ps sp) (hr : Room (k + 1) X.A) (hg : Gl X x) (hm : X.mg x = some (.ref C)) (ha : PA X (e :: es) t)
    (hdb : (x == ("__debug__" : Str)) = false := by decide) (he : starEach (e :: es) X.env = (false, eval e X.env) :: starEach es X.env := by rfl) (hpl : (backTo pos (starEach es X.env)).any (·.1) = false := by rfl) :
    PE X (.Call (.Name x p) (e :: es) [] pos) (tMake C sp [] E0 t) := by
  obtain ⟨f, fd, hm2, hb, F⟩ := F.ex
  exact pe_make (M f hm2.at_) F hr hg hm hb .nil pass0 ha hdb he hpl
/-- a def with one keyword-only parameter behind one by place -/
structure PmK (M : Md) (x : Str) (k : Nat) (key : Str) (ps : List Str) (sp : Sp) : Prop where
  ex : ∃ (f : Addr) (fd : FuncData), M.mg x = some (.ref f) ∧ PySem.W.keepIn M.K (.ref f) = true ∧ KBn M.K fd ps 1 [key] (fun us ws => us ++ ws) (fun vs zs => vs ++ zs) ∧ FnOk M.P M.w M.K M.mg M.base CX0 k f fd ps sp
theorem pe_told {key : Str} (F : PmK (mdOf X) x k key ps sp) (hr : Room k X.A) (hg : Gl X x) (ha : PA X (e :: es) t) (hkw : PK X kws tk) (hall : (backToKw pos (keywordEach kws X.env)).all (·.1.isSome) = true := by rfl)
    (hks : (backToKw pos (keywordEach kws X.env)).filterMap (·.1) = [key] := by rfl) (hdb : (x == ("__debug__" : Str)) = false := by decide) (he : starEach (e :: es) X.env = (false, eval e X.env) :: starEach es X.env := by rfl)
    (hpl : ((backTo pos (starEach (e :: es) X.env)).any (·.1) || (backToKw pos (keywordEach kws X.env)).any (·.1.isNone)) = false := by rfl) : PE X (.Call (.Name x p) (e :: es) kws pos) (tCallN 1 1 sp (fun vs zs => vs ++ zs) E0 t tk) := by
  obtain ⟨f, fd, hm, hk, hb, F⟩ := F.ex
  exact pe_callN F hr hg hm hk hb (fun _ _ _ _ _ _ _ h => h.elim) ha hkw hall hks hdb he hpl
/-- f(k = e), one parameter -/
structure PmW (M : Md) (x : Str) (k : Nat) (key : Str) (sp : Sp) : Prop where
  ex : ∃ (f : Addr) (fd : FuncData), M.mg x = some (.ref f) ∧ PySem.W.keepIn M.K (.ref f) = true ∧ KBinds M.K fd [key] [key] (fun us ws => us ++ ws) (fun vs zs => vs ++ zs) ∧ FnOk M.P M.w M.K M.mg M.base (L2.CX M.P M.w) k f fd [key] sp
theorem pe_unkw {key : Str} {E : St → XK} (F : PmW (mdOf X) x k key sp) (hr : Room k X.A) (hg : Gl X x) (hx : ∀ σ, PassesAt (L2.CX X.prog X.w) X σ (E σ)) (hkw : PK X kws tk) (hall : (backToKw pos (keywordEach kws X.env)).all (·.1.isSome) = true := by rfl)
    (hks : (backToKw pos (keywordEach kws X.env)).filterMap (·.1) = [key] := by rfl) (hdb : (x == ("__debug__" : Str)) = false := by decide) (hno : (backToKw pos (keywordEach kws X.env)).any (·.1.isNone) = false := by rfl) :
    PE X (.Call (.Name x p) [] kws pos) (fun σ H Q => tk σ H fun zs H2 => sp zs H2 Q (E σ)) := by
  obtain ⟨f, fd, hm, hk, hb, F⟩ := F.ex
  exact pe_callKw F hr hg hm hk hb hx hkw hall hks hdb hno
end
theorem pxX {X : Cx} {E : XK} (tk : Takes X (fun cls d _ H => E cls d H)) : ∀ σ, PassesAt (L2.CX X.prog X.w) X σ E := passAt tk
/-- xs[i], t[i], xs[a:b], K said -/
theorem pe_ixL {X : Cx} {K : PySem.W.Frag} {a b : Expr} {ta tb : TE} {pos : Pos} (ha : PE X a ta) (hb : PE X b tb) (hs : PlainIx b) (hK : X.K = K := by rfl) : PE X (.Subscript a b pos) (tOp (rIxL K) ta tb) := by
  subst hK
  exact pe_ix ix_list ha hb hs
theorem pe_ixT {X : Cx} {K : PySem.W.Frag} {a b : Expr} {ta tb : TE} {pos : Pos} (ha : PE X a ta) (hb : PE X b tb) (hs : PlainIx b) (hK : X.K = K := by rfl) : PE X (.Subscript a b pos) (tOp (rIxT K) ta tb) := by
  subst hK
  exact pe_ix ix_tup ha hb hs
theorem pe_slL {X : Cx} {K : PySem.W.Frag} {e : Expr} {lo hi : Option Expr} {p2 pos : Pos} {te : TE} {tl th : TO} (he : PE X e te) (hl : PO X lo tl) (hu : PO X hi th) (hK : X.K = K := by rfl) : PE X (.Subscript e (.Slice lo hi none p2) pos) (tSl (rSlL K) te tl th) := by
  subst hK
  exact pe_slice sl_list he hl hu
/-- o.f, o.f = e, K said -/
theorem pe_fldK {X : Cx} {K : PySem.W.Frag} {e : Expr} {f : Str} {pos : Pos} {ta : TE} (he : PE X e ta) (hK : X.K = K := by rfl) (hb : attributeBase e f X.env (eval e X.env) = eval e X.env := by rfl) : PE X (.Attribute e f pos) (tFld K ta f) := by
  subst hK
  exact pe_fld he hb
theorem ps_fldK {X : Cx} {K : PySem.W.Frag} {o value : Expr} {f : Str} {pos pos' : Pos} {ta tv : TE} (ha : PE X o ta) (hv : PE X value tv) (hK : X.K = K := by rfl) (hs : swapsWith value (some (.Attribute o f pos')) pos.line X.env = pure false := by rfl) :
    PS X (.Assign [.Attribute o f pos'] value pos) (sFld K ta tv f) := by
  subst hK
  exact ps_fld ha hv hs
/-- len(xs) -/
def rLn (K : PySem.W.Frag) : List V → Hp → VK → Prop := fun xs H Q => ∃ (p : Addr) (ys : List V), xs = [.ref p] ∧ (SqL K H p ys ∨ SqT K H p ys) ∧ Q (.int ys.length) H
theorem pe_len {X : Cx} {K : PySem.W.Frag} {e : Expr} {te : TE} {p pos : Pos} (hg : Gl X "len") (hm : X.mg "len" = none) (he : PE X e te) (hK : X.K = K := by rfl) (hs : starEach [e] X.env = (false, eval e X.env) :: starEach [] X.env := by rfl) : PE X (.Call (.Name "len" p) [e] [] pos) (tCB (rLn K) (tCons te tNil)) := by
  subst hK
  exact pe_callB call_len_seq hg hm (by decide +kernel) (pa_cons (hs := hs) he pa_nil) (by decide) (by decide) hs
theorem or_eqD {X : Cx} {K : PySem.W.Frag} (hu : X.A.units + 64 < cLine) (hK : X.K = K := by rfl) : OpR X (compareOp .Eq) (rEqD K) := by
  subst hK
  exact op_eqD hu
theorem or_neD {X : Cx} {K : PySem.W.Frag} (hu : X.A.units + 64 < cLine) (hK : X.K = K := by rfl) : OpR X (compareOp .NotEq) (rNeD K) := by
  subst hK
  exact op_neD hu
theorem cr_setLK {X : Cx} {K : PySem.W.Frag} {w : World} (hc : X.calm = true) (hK : X.K = K := by rfl) (hw : X.w = w := by rfl) : CallR X (.type "set") (rSetL K w) := by
  subst hK
  subst hw
  exact cr_setL hc
theorem cr_sortSetK {X : Cx} {w : World} (hc : X.calm = true) (hw : X.w = w := by rfl) : CallR X (.builtin "sorted") (rSortSet w) := by
  subst hw
  exact cr_sortSet hc
/-- the class Reader -/
structure RdF (M : Md) (C : Addr) : Prop where
  mg : M.mg "Reader" = some (.ref C)
  cl : Cls M.K C
  mkr : ∀ f, PySem.W.findIn M.K (.ref C) "__init__" = some (some (.ref f)) → Mk M.K C f
  nO : NoAttr M.K C "octets"
  nA : NoAttr M.K C "at"
/-- the module's numbers -/
structure Ks (M : Md) : Prop where
  BASE : ∃ t, M.mg "BASE" = some (.int 128 t)
  MOST : ∃ t, M.mg "MOST" = some (.int 255 t)
end L2.EG

set_option Elab.async false
set_option linter.all false
set_option maxRecDepth 100000
set_option maxHeartbeats 4000000
/-! The plain functions: how numbers, times, values are told and read. -/
namespace EgM

/-! ### numbers as octets -/
def numN (n : Nat) : List Int := if h : n < 128 then [(n : Int)] else ((128 + n % 128 : Nat) : Int) :: numN (n / 128)
termination_by n
decreasing_by omega
def numO (i : Int) : List Int := numN i.toNat
theorem numO_small {i : Int} (h0 : 0 ≤ i) (h : i < 128) : numO i = [i] := by
  unfold numO
  rw [numN, dif_pos (by omega)]
  congr 1
  omega
theorem numO_big {i : Int} (h : 128 ≤ i) : numO i = (128 + i % 128) :: numO (i / 128) := by
  unfold numO
  rw [numN, dif_neg (by omega)]
  have e1 : ((128 + i.toNat % 128 : Nat) : Int) = 128 + i % 128 := by omega
  have e2 : i.toNat / 128 = (i / 128).toNat := by omega
  rw [e1, e2]
def zig (v : Int) : Int := if 0 ≤ v then 2 * v else -2 * v - 1
theorem zig_nn (v : Int) : 0 ≤ zig v := by
  unfold zig
  split <;> omega
def sgnO (v : Int) : List Int := numO (zig v)
def unz (c : Int) : Int := if c % 2 = 0 then c / 2 else -(c / 2) - 1
theorem zig_unz {c : Int} (h : 0 ≤ c) : zig (unz c) = c := by
  unfold zig unz
  split <;> split <;> omega
theorem numO_len : ∀ (k : Nat) {i : Int}, 0 ≤ i → i < 128 ^ (k + 1) → (numO i).length ≤ k + 1
  | 0, i, h0, h => by
    rw [numO_small h0 (by simpa using h)]
    simp
  | k + 1, i, h0, h => by
    by_cases c : i < 128
    · rw [numO_small h0 c]
      simp
    · rw [numO_big (by omega)]
      have e : (128 : Int) ^ (k + 1 + 1) = 128 ^ (k + 1) * 128 := Int.pow_succ ..
      rw [e] at h
      have := numO_len k (i := i / 128) (by omega) (by omega)
      simp only [List.length_cons]
      omega
theorem numO_pos (i : Int) : 1 ≤ (numO i).length := by
  unfold numO
  rw [numN]
  split <;> simp
theorem numN_oct : ∀ (n : Nat), ∀ o ∈ numN n, 0 ≤ o ∧ o ≤ 255 := by
  intro n
  induction n using Nat.strongRecOn with
  | _ n ih =>
    intro o ho
    rw [numN] at ho
    split at ho
    · simp at ho
      omega
    · rcases List.mem_cons.mp ho with e | ho
      · omega
      · exact ih (n / 128) (by omega) o ho
theorem numO_oct (i : Int) : ∀ o ∈ numO i, 0 ≤ o ∧ o ≤ 255 := numN_oct _

/-! ### errors, reading a number -/
inductive Er where
  | short | malf
  deriving DecidableEq
/-- value, octets used, the last one -/
def rdRaw : List Int → Option (Int × Nat × Int)
  | [] => none
  | o :: r => if o < 128 then some (o, 1, o) else match rdRaw r with
    | none => none
    | some (v, n, z) => some (128 * v + o % 128, n + 1, z)
abbrev Res (α : Type) := Except Er (α × Nat)
def num (os : List Int) (at_ : Nat) : Res Int := match rdRaw (os.drop at_) with
  | none => .error .short
  | some (v, n, z) => if 1 < n ∧ z = 0 then .error .malf else .ok (v, at_ + n)
def bindR {α β : Type} (r : Res α) (k : α → Nat → Res β) : Res β := match r with
  | .error e => .error e
  | .ok (x, a) => k x a
@[simp] theorem bindR_ok {α β : Type} (x : α) (a : Nat) (k : α → Nat → Res β) : bindR (.ok (x, a)) k = k x a := rfl
@[simp] theorem bindR_error {α β : Type} (e : Er) (k : α → Nat → Res β) : bindR (.error e : Res α) k = .error e := rfl
theorem bindR_inv {α β : Type} {r : Res α} {k : α → Nat → Res β} {p : β × Nat} (h : bindR r k = .ok p) : ∃ x a, r = .ok (x, a) ∧ k x a = .ok p := by
  cases r with
  | error e => simp at h
  | ok q => exact ⟨q.1, q.2, rfl, h⟩
def sgn (os : List Int) (at_ : Nat) : Res Int := bindR (num os at_) fun c a => .ok (unz c, a)
/-- octets: 0 to 255 -/
def Oct (os : List Int) : Prop := ∀ o ∈ os, 0 ≤ o ∧ o ≤ 255
theorem Oct.drop {os : List Int} (h : Oct os) (n : Nat) : Oct (os.drop n) := fun o ho => h o (List.mem_of_mem_drop ho)
theorem Oct.take {os : List Int} (h : Oct os) (n : Nat) : Oct (os.take n) := fun o ho => h o (List.mem_of_mem_take ho)
theorem Oct.app {a b : List Int} (h : Oct a) (k : Oct b) : Oct (a ++ b) := fun o ho => (List.mem_append.mp ho).elim (h o) (k o)

theorem rdRaw_ok : ∀ {l : List Int} {v : Int} {n : Nat} {z : Int}, Oct l → rdRaw l = some (v, n, z) → 1 ≤ n ∧ n ≤ l.length ∧ 0 ≤ v ∧ (z ≠ 0 → 1 ≤ v) ∧ (n = 1 → v = z ∧ v < 128) ∧ v < 128 ^ n ∧ l[n - 1]? = some z ∧ 0 ≤ z ∧ z < 128 ∧ ∀ i, i + 1 < n → ∃ o, l[i]? = some o ∧ 128 ≤ o
  | [], _, _, _, _, h => by simp [rdRaw] at h
  | o :: r, v, n, z, ho, h => by
    have ho0 := ho o (by simp)
    unfold rdRaw at h
    split at h
    · next c =>
      simp only [Option.some.injEq, Prod.mk.injEq] at h
      obtain ⟨rfl, rfl, rfl⟩ := h
      refine ⟨by omega, by simp, by omega, by omega, fun _ => ⟨rfl, c⟩, by omega, by simp, by omega, c, fun i hi => by omega⟩
    · next c =>
      cases e : rdRaw r with
      | none => rw [e] at h; simp at h
      | some p =>
        obtain ⟨v', n', z'⟩ := p
        rw [e] at h
        simp only [Option.some.injEq, Prod.mk.injEq] at h
        obtain ⟨rfl, rfl, rfl⟩ := h
        obtain ⟨a1, a2, a3, a4, a5, a6, a7, a8, a9, a10⟩ := rdRaw_ok (fun x hx => ho x (List.mem_cons_of_mem _ hx)) e
        have e2 : (128 : Int) ^ (n' + 1) = 128 ^ n' * 128 := Int.pow_succ ..
        refine ⟨by omega, by simp; omega, by omega, fun hz => by have := a4 hz; omega, by omega, by rw [e2]; omega, ?_, a8, a9, fun i hi => ?_⟩
        · obtain ⟨m, rfl⟩ : ∃ m, n' = m + 1 := ⟨n' - 1, by omega⟩
          simpa using a7
        · match i, hi with
          | 0, _ => exact ⟨o, by simp, by omega⟩
          | i + 1, hi =>
            obtain ⟨u, q1, q2⟩ := a10 i (by omega)
            exact ⟨u, by simpa using q1, q2⟩
/-- canonical: the number's octets are those that were read -/
theorem rdRaw_canon : ∀ {l : List Int} {v : Int} {n : Nat} {z : Int}, Oct l → rdRaw l = some (v, n, z) → ¬ (1 < n ∧ z = 0) → numO v = l.take n
  | [], _, _, _, _, h, _ => by simp [rdRaw] at h
  | o :: r, v, n, z, ho, h, hc => by
    have ho0 := ho o (by simp)
    unfold rdRaw at h
    split at h
    · next c =>
      simp only [Option.some.injEq, Prod.mk.injEq] at h
      obtain ⟨rfl, rfl, rfl⟩ := h
      rw [numO_small (by omega) c]
      simp
    · next c =>
      cases e : rdRaw r with
      | none => rw [e] at h; simp at h
      | some p =>
        obtain ⟨v', n', z'⟩ := p
        rw [e] at h
        simp only [Option.some.injEq, Prod.mk.injEq] at h
        obtain ⟨rfl, rfl, rfl⟩ := h
        have ho' : Oct r := fun x hx => ho x (List.mem_cons_of_mem _ hx)
        obtain ⟨a1, a2, a3, a4, a5, a6, a7, a8, a9, a10⟩ := rdRaw_ok ho' e
        have hz : z' ≠ 0 := fun q => hc ⟨by omega, q⟩
        have h1 := a4 hz
        have ih := rdRaw_canon ho' e fun q => hz q.2
        rw [numO_big (by omega)]
        have e1 : 128 + (128 * v' + o % 128) % 128 = o := by omega
        have e2 : (128 * v' + o % 128) / 128 = v' := by omega
        rw [e1, e2, ih]
        simp
theorem rdRaw_none : ∀ {l : List Int}, rdRaw l = none → ∀ o ∈ l, 128 ≤ o
  | [], _, o, ho => by simp at ho
  | x :: r, h, o, ho => by
    unfold rdRaw at h
    split at h
    · simp at h
    · next c =>
      cases e : rdRaw r with
      | some p => obtain ⟨v', n', z'⟩ := p; rw [e] at h; simp at h
      | none =>
        rcases List.mem_cons.mp ho with q | q
        · omega
        · exact rdRaw_none e o q
theorem rdRaw_take : ∀ {l : List Int} {v : Int} {n : Nat} {z : Int} (m : Nat), rdRaw l = some (v, n, z) → (n ≤ m → rdRaw (l.take m) = some (v, n, z)) ∧ (m < n → rdRaw (l.take m) = none)
  | [], _, _, _, _, h => by simp [rdRaw] at h
  | o :: r, v, n, z, m, h => by
    unfold rdRaw at h
    split at h
    · next c =>
      simp only [Option.some.injEq, Prod.mk.injEq] at h
      obtain ⟨rfl, rfl, rfl⟩ := h
      refine ⟨fun hm => ?_, fun hm => ?_⟩
      · obtain ⟨k, rfl⟩ : ∃ k, m = k + 1 := ⟨m - 1, by omega⟩
        simp [rdRaw, c]
      · obtain rfl : m = 0 := by omega
        simp [rdRaw]
    · next c =>
      cases e : rdRaw r with
      | none => rw [e] at h; simp at h
      | some p =>
        obtain ⟨v', n', z'⟩ := p
        rw [e] at h
        simp only [Option.some.injEq, Prod.mk.injEq] at h
        obtain ⟨rfl, rfl, rfl⟩ := h
        refine ⟨fun hm => ?_, fun hm => ?_⟩
        · obtain ⟨k, rfl⟩ : ∃ k, m = k + 1 := ⟨m - 1, by omega⟩
          have q := (rdRaw_take k e).1 (by omega)
          simp [rdRaw, c, q]
        · match m with
          | 0 => simp [rdRaw]
          | k + 1 =>
            have q := (rdRaw_take k e).2 (by omega)
            simp [rdRaw, c, q]

/-! ### readers that see no further than they read -/
structure Pfx {α : Type} (r : List Int → Nat → Res α) : Prop where
  up : ∀ {os at_ v a}, r os at_ = .ok (v, a) → at_ ≤ a ∧ (at_ ≤ os.length → a ≤ os.length)
  same : ∀ {os at_ v a}, r os at_ = .ok (v, a) → ∀ e, a ≤ e → r (os.take e) at_ = .ok (v, a)
  short : ∀ {os at_ v a}, r os at_ = .ok (v, a) → ∀ e, at_ ≤ e → e < a → r (os.take e) at_ = .error .short
theorem num_up {os : List Int} {at_ : Nat} {v : Int} {a : Nat} (h : num os at_ = .ok (v, a)) : at_ < a ∧ a ≤ os.length := by
  unfold num at h
  split at h
  · simp at h
  · next v' n z e =>
    split at h
    · simp at h
    · simp only [Except.ok.injEq, Prod.mk.injEq] at h
      obtain ⟨rfl, rfl⟩ := h
      have h1 : ∀ {l : List Int} {v : Int} {n : Nat} {z : Int}, rdRaw l = some (v, n, z) → 1 ≤ n ∧ n ≤ l.length := by
        intro l
        induction l with
        | nil => intro v n z h; simp [rdRaw] at h
        | cons o r ih =>
          intro v n z h
          unfold rdRaw at h
          split at h
          · simp only [Option.some.injEq, Prod.mk.injEq] at h
            obtain ⟨rfl, rfl, rfl⟩ := h
            simp
          · cases e : rdRaw r with
            | none => rw [e] at h; simp at h
            | some p =>
              obtain ⟨v', n', z'⟩ := p
              rw [e] at h
              simp only [Option.some.injEq, Prod.mk.injEq] at h
              obtain ⟨rfl, rfl, rfl⟩ := h
              have := ih e
              simp
              omega
      have q := h1 e
      rw [List.length_drop] at q
      omega
theorem pfx_num : Pfx num where
  up := fun h => ⟨Nat.le_of_lt (num_up h).1, fun _ => (num_up h).2⟩
  same := fun {os at_ v a} h e he => by
    unfold num at h ⊢
    rw [List.drop_take]
    split at h
    · simp at h
    · next v' n z q =>
      split at h
      · simp at h
      · next c =>
        simp only [Except.ok.injEq, Prod.mk.injEq] at h
        obtain ⟨rfl, rfl⟩ := h
        rw [(rdRaw_take (e - at_) q).1 (by omega)]
        simp only
        rw [if_neg c]
  short := fun {os at_ v a} h e he hl => by
    unfold num at h ⊢
    rw [List.drop_take]
    split at h
    · simp at h
    · next v' n z q =>
      split at h
      · simp at h
      · simp only [Except.ok.injEq, Prod.mk.injEq] at h
        obtain ⟨rfl, rfl⟩ := h
        rw [(rdRaw_take (e - at_) q).2 (by omega)]
theorem Pfx.bind {α β : Type} {r : List Int → Nat → Res α} {k : α → List Int → Nat → Res β} (hr : Pfx r) (hk : ∀ a, Pfx (k a)) : Pfx fun os at_ => bindR (r os at_) fun x a => k x os a where
  up := fun {os at_ v a} h => by
    obtain ⟨x, a1, e, h⟩ := bindR_inv h
    have u1 := hr.up e
    have u2 := (hk x).up h
    exact ⟨Nat.le_trans u1.1 u2.1, fun z => u2.2 (u1.2 z)⟩
  same := fun {os at_ v a} h e he => by
    obtain ⟨x, a1, q, h⟩ := bindR_inv h
    have u2 := (hk x).up h
    show bindR (r (os.take e) at_) _ = _
    rw [hr.same q e (Nat.le_trans u2.1 he)]
    exact (hk x).same h e he
  short := fun {os at_ v a} h e he hl => by
    obtain ⟨x, a1, q, h⟩ := bindR_inv h
    show bindR (r (os.take e) at_) _ = _
    by_cases c : e < a1
    · rw [hr.short q e he c]
      rfl
    · rw [hr.same q e (by omega)]
      exact (hk x).short h e (by omega) hl
theorem Pfx.pure {α : Type} (x : α) : Pfx fun _ at_ => (.ok (x, at_) : Res α) where
  up := fun h => by simp only [Except.ok.injEq, Prod.mk.injEq] at h; omega
  same := fun h e _ => h
  short := fun h e h1 h2 => by simp only [Except.ok.injEq, Prod.mk.injEq] at h; omega
theorem Pfx.error {α : Type} (x : Er) : Pfx fun _ _ => (.error x : Res α) where
  up := fun h => by simp at h
  same := fun h => by simp at h
  short := fun h => by simp at h
theorem pfx_sgn : Pfx sgn := pfx_num.bind (k := fun c _ a => .ok (unz c, a)) fun c => Pfx.pure (unz c)
end EgM

set_option Elab.async false
set_option linter.all false
set_option maxRecDepth 100000
set_option maxHeartbeats 4000000
/-! The plain functions, part two: times, values, packs. -/
namespace EgM

/-! ### telling -/
def dO (vs : List Int) (k : Nat) : Int := if k = 0 then vs.getD 0 0 else vs.getD k 0 - vs.getD (k - 1) 0
def diffs (vs : List Int) : List Int := (List.range vs.length).map (dO vs)
def tO (ts : List Int) (k : Nat) : List Int := if k = 0 then numO (ts.getD 0 0) else if k = 1 then numO (ts.getD 1 0 - ts.getD 0 0 - 1) else sgnO (ts.getD k 0 - 2 * ts.getD (k - 1) 0 + ts.getD (k - 2) 0)
def timesO (ts : List Int) : List Int := numO ts.length ++ (List.range ts.length).flatMap (tO ts)
def rstep (found : List (Int × Int)) (v : Int) : List (Int × Int) := match found.getLast? with
  | none => [(v, 1)]
  | some (u, m) => if u = v then found.dropLast ++ [(u, m + 1)] else found ++ [(v, 1)]
def runsL (vs : List Int) : List (Int × Int) := vs.foldl rstep []
/-- set down in order, each once -/
def insD (v : Int) : List Int → List Int
  | [] => [v]
  | u :: r => if v < u then v :: u :: r else if v = u then u :: r else u :: insD v r
def srt (vs : List Int) : List Int := vs.foldr insD []
def kO (known : List Int) (k : Nat) : List Int := if k = 0 then sgnO (known.getD 0 0) else numO (known.getD k 0 - known.getD (k - 1) 0 - 1)
def toldK (known vs : List Int) : List Int := numO known.length ++ ((List.range known.length).flatMap (kO known) ++ vs.flatMap fun v => numO (known.idxOf v))
def told (way : Nat) (vs : List Int) : List Int := match way with
  | 0 => vs.flatMap sgnO
  | 1 => (diffs vs).flatMap sgnO
  | 2 => (runsL vs).flatMap fun p => sgnO p.1 ++ numO (p.2 - 1)
  | _ => toldK (srt vs) vs
def row (vs : List Int) (way : Nat) : List Int := (way : Int) :: told way vs
/-- the first of the shortest -/
def better (best r : List Int) : List Int := if r.length < best.length then r else best
def packed (vs : List Int) : List Int := better (better (better (row vs 0) (row vs 1)) (row vs 2)) (row vs 3)
theorem better_or (a b : List Int) : better a b = a ∨ better a b = b := by
  unfold better
  split <;> simp
theorem packed_row (vs : List Int) : ∃ w, w < 4 ∧ packed vs = row vs w := by
  unfold packed
  rcases better_or (better (better (row vs 0) (row vs 1)) (row vs 2)) (row vs 3) with e | e
  · rw [e]
    rcases better_or (better (row vs 0) (row vs 1)) (row vs 2) with e | e
    · rw [e]
      rcases better_or (row vs 0) (row vs 1) with e | e
      · exact ⟨0, by omega, e⟩
      · exact ⟨1, by omega, e⟩
    · exact ⟨2, by omega, e⟩
  · exact ⟨3, by omega, e⟩
theorem packed_le (vs : List Int) (w : Nat) (h : w < 4) : (packed vs).length ≤ (row vs w).length := by
  unfold packed better
  match w, h with
  | 0, _ => repeat (split <;> try omega)
  | 1, _ => repeat (split <;> try omega)
  | 2, _ => repeat (split <;> try omega)
  | 3, _ => repeat (split <;> try omega)

/-! ### strictly sorted lists -/
theorem srt_mem : ∀ (vs : List Int) (k : Int), k ∈ srt vs ↔ k ∈ vs := by
  have h : ∀ (l : List Int) (v k : Int), k ∈ insD v l ↔ k = v ∨ k ∈ l := by
    intro l v k
    induction l with
    | nil => simp [insD]
    | cons u r ih =>
      unfold insD
      split
      · simp
      · split
        · next e => subst e; simp
        · simp only [List.mem_cons, ih]
          constructor
          · rintro (a | a | a)
            · exact .inr (.inl a)
            · exact .inl a
            · exact .inr (.inr a)
          · rintro (a | a | a)
            · exact .inr (.inl a)
            · exact .inl a
            · exact .inr (.inr a)
  intro vs k
  induction vs with
  | nil => simp [srt]
  | cons v r ih =>
    show k ∈ insD v (srt r) ↔ _
    rw [h, ih]
    simp
theorem srt_lt (vs : List Int) : (srt vs).Pairwise (· < ·) := by
  have hm : ∀ (l : List Int) (v k : Int), k ∈ insD v l → k = v ∨ k ∈ l := by
    intro l v k
    induction l with
    | nil => simp [insD]
    | cons u r ih =>
      unfold insD
      split
      · simp
      · split
        · next e => subst e; simp
        · simp only [List.mem_cons]
          rintro (a | a)
          · exact .inr (.inl a)
          · rcases ih a with b | b
            · exact .inl b
            · exact .inr (.inr b)
  have h : ∀ (l : List Int) (v : Int), l.Pairwise (· < ·) → (insD v l).Pairwise (· < ·) := by
    intro l v
    induction l with
    | nil => intro _; simp [insD]
    | cons u r ih =>
      intro hp
      obtain ⟨h1, h2⟩ := List.pairwise_cons.mp hp
      unfold insD
      split
      · next c => exact List.pairwise_cons.mpr ⟨fun y hy => by
          rcases List.mem_cons.mp hy with e | e
          · omega
          · have := h1 y e; omega, hp⟩
      · split
        · exact hp
        · next c d =>
          refine List.pairwise_cons.mpr ⟨fun y hy => ?_, ih h2⟩
          rcases hm r v y hy with e | e
          · omega
          · exact h1 y e
  induction vs with
  | nil => exact List.Pairwise.nil
  | cons v r ih => exact h _ v ih
theorem lt_uniq : ∀ {a b : List Int}, a.Pairwise (· < ·) → b.Pairwise (· < ·) → (∀ k, k ∈ a ↔ k ∈ b) → a = b
  | [], [], _, _, _ => rfl
  | [], y :: b, _, _, h => by have := (h y).2 (by simp); simp at this
  | x :: a, [], _, _, h => by have := (h x).1 (by simp); simp at this
  | x :: a, y :: b, ha, hb, h => by
    obtain ⟨a1, a2⟩ := List.pairwise_cons.mp ha
    obtain ⟨b1, b2⟩ := List.pairwise_cons.mp hb
    have e : x = y := by
      have h1 := (h x).1 (by simp)
      have h2 := (h y).2 (by simp)
      rcases List.mem_cons.mp h1 with q | q
      · exact q
      · rcases List.mem_cons.mp h2 with q2 | q2
        · exact q2.symm
        · have := a1 y q2
          have := b1 x q
          omega
    subst e
    rw [lt_uniq a2 b2 fun k => ⟨fun hk => ?_, fun hk => ?_⟩]
    · rcases List.mem_cons.mp ((h k).1 (List.mem_cons_of_mem _ hk)) with q | q
      · have := a1 k hk; omega
      · exact q
    · rcases List.mem_cons.mp ((h k).2 (List.mem_cons_of_mem _ hk)) with q | q
      · have := b1 k hk; omega
      · exact q
theorem srt_uniq {vs ns : List Int} (h : ns.Pairwise (· < ·)) (hm : ∀ k, k ∈ ns ↔ k ∈ vs) : ns = srt vs := lt_uniq h (srt_lt vs) fun k => (hm k).trans (srt_mem vs k).symm
theorem srt_len (vs : List Int) : (srt vs).length ≤ vs.length := by
  have h : ∀ (l : List Int) (v : Int), (insD v l).length ≤ l.length + 1 := by
    intro l v
    induction l with
    | nil => simp [insD]
    | cons u r ih =>
      unfold insD
      split
      · simp
      · split
        · simp
        · simp; omega
  induction vs with
  | nil => simp [srt]
  | cons v r ih =>
    have := h (srt r) v
    show (insD v (srt r)).length ≤ _
    simp
    omega

/-! ### reading in loops -/
abbrev FU : Nat := 401
def loopR {σ : Type} (go : σ → Bool) (step : σ → List Int → Nat → Res σ) : Nat → σ → List Int → Nat → Res σ
  | 0, s, _, a => if go s then .error .short else .ok (s, a)
  | f + 1, s, os, a => if go s then bindR (step s os a) fun s' a' => loopR go step f s' os a' else .ok (s, a)
theorem pfx_loop {σ : Type} {go : σ → Bool} {step : σ → List Int → Nat → Res σ} (h : ∀ s, Pfx (step s)) : ∀ f s, Pfx (loopR go step f s)
  | 0, s => by
    have e : loopR go step 0 s = fun _ a => if go s then .error .short else .ok (s, a) := rfl
    rw [e]
    cases go s
    · exact Pfx.pure s
    · exact Pfx.error _
  | f + 1, s => by
    have e : loopR go step (f + 1) s = fun os a => if go s then bindR (step s os a) fun s' a' => loopR go step f s' os a' else .ok (s, a) := rfl
    rw [e]
    cases go s
    · exact Pfx.pure s
    · exact (h s).bind (k := fun s' => loopR go step f s') fun s' => pfx_loop h f s'
theorem loop_inv {σ : Type} {go : σ → Bool} {step : σ → List Int → Nat → Res σ} {os : List Int} (P : σ → Nat → Prop) (hs : ∀ s a s' a', P s a → go s = true → step s os a = .ok (s', a') → P s' a') :
    ∀ f s a s' a', P s a → loopR go step f s os a = .ok (s', a') → P s' a' ∧ go s' = false
  | 0, s, a, s', a', p, h => by
    unfold loopR at h
    cases e : go s
    · rw [e] at h
      simp only [Bool.false_eq_true, if_false, Except.ok.injEq, Prod.mk.injEq] at h
      obtain ⟨rfl, rfl⟩ := h
      exact ⟨p, e⟩
    · rw [e] at h
      simp at h
  | f + 1, s, a, s', a', p, h => by
    unfold loopR at h
    cases e : go s
    · rw [e] at h
      simp only [Bool.false_eq_true, if_false, Except.ok.injEq, Prod.mk.injEq] at h
      obtain ⟨rfl, rfl⟩ := h
      exact ⟨p, e⟩
    · rw [e] at h
      simp only [if_true] at h
      obtain ⟨s1, a1, q, h⟩ := bindR_inv h
      exact loop_inv P hs f s1 a1 s' a' (hs s a s1 a1 p e q) h

/-- the times' next -/
def tmStep (s : List Int × Int) (os : List Int) (a : Nat) : Res (List Int × Int) := bindR (num os a) fun c a' =>
  if s.1 = [] then .ok (([c], s.2), a') else
    if (if s.1.length = 1 then c + 1 else s.2 + unz c) < 1 then .error .malf else .ok ((s.1 ++ [s.1.getLastD 0 + (if s.1.length = 1 then c + 1 else s.2 + unz c)], (if s.1.length = 1 then c + 1 else s.2 + unz c)), a')
def times (os : List Int) (a : Nat) : Res (List Int) := bindR (num os a) fun many a1 => bindR (loopR (fun s : List Int × Int => decide ((s.1.length : Int) < many)) tmStep FU ([], 0) os a1) fun s a2 => .ok (s.1, a2)
def knStep (s : List Int) (os : List Int) (a : Nat) : Res (List Int) := bindR (num os a) fun c a' => .ok (s ++ [if s = [] then unz c else s.getLastD 0 + c + 1], a')
def knownR (os : List Int) (a : Nat) : Res (List Int) := bindR (num os a) fun many a1 => loopR (fun s : List Int => decide ((s.length : Int) < many)) knStep FU [] os a1
def vStep (kind : Int) (known : List Int) (count : Nat) (s : List Int) (os : List Int) (a : Nat) : Res (List Int) := bindR (num os a) fun c a1 =>
  if kind = 2 then bindR (num os a1) fun m a2 => if (count : Int) - s.length < m + 1 then .error .malf else .ok (s ++ List.replicate (m + 1).toNat (unz c), a2)
  else if kind = 3 then (if (known.length : Int) ≤ c then .error .malf else .ok (s ++ [known.getD c.toNat 0], a1))
  else .ok (s ++ [unz c + (if kind = 1 then s.getLastD 0 else 0)], a1)
def valsK (kind : Int) (count : Nat) (os : List Int) (a : Nat) : Res (List Int) := bindR (if kind = 3 then knownR os a else .ok ([], a)) fun known a1 => loopR (fun s : List Int => decide (s.length < count)) (vStep kind known count) FU [] os a1
def hd (os : List Int) (a : Nat) : Res Int := match os[a]? with
  | none => .error .short
  | some o => .ok (o, a + 1)
def valsFrom (count : Nat) (os : List Int) (a : Nat) : Res (List Int) := bindR (hd os a) fun o a1 => if 3 < o then .error .malf else valsK o count os a1
def unVals (count : Nat) (os : List Int) (a : Nat) : Res (List Int) := bindR (valsFrom count os a) fun vs a1 => if packed vs = (os.drop a).take (a1 - a) then .ok (vs, a1) else .error .malf
def parts (os : List Int) : Res (List Int × List Int) := bindR (times os 0) fun ts a => bindR (unVals ts.length os a) fun vs a2 => .ok ((ts, vs), a2)
def unpackR (os : List Int) : Except Er (List Int × List Int) := match parts os with
  | .error e => .error e
  | .ok (p, a) => if a < os.length then .error .malf else .ok p

theorem pfx_times : Pfx times := by
  refine pfx_num.bind (k := fun many os a1 => bindR (loopR (fun s : List Int × Int => decide ((s.1.length : Int) < many)) tmStep FU ([], 0) os a1) fun s a2 => .ok (s.1, a2)) fun many => ?_
  refine (pfx_loop (fun s => ?_) FU ([], 0)).bind (k := fun (s : List Int × Int) _ a2 => (.ok (s.1, a2) : Res (List Int))) fun s => Pfx.pure s.1
  refine pfx_num.bind (k := fun c _ a' => if s.1 = [] then .ok (([c], s.2), a') else
    if (if s.1.length = 1 then c + 1 else s.2 + unz c) < 1 then .error .malf else .ok ((s.1 ++ [s.1.getLastD 0 + (if s.1.length = 1 then c + 1 else s.2 + unz c)], (if s.1.length = 1 then c + 1 else s.2 + unz c)), a')) fun c => ?_
  by_cases h : s.1 = []
  · simp only [h, if_true]
    exact Pfx.pure _
  · simp only [h, if_false]
    by_cases g : (if s.1.length = 1 then c + 1 else s.2 + unz c) < 1
    · simp only [g, if_true]
      exact Pfx.error _
    · simp only [g, if_false]
      exact Pfx.pure _
theorem pfx_known : Pfx knownR := by
  refine pfx_num.bind (k := fun many os a1 => loopR (fun s : List Int => decide ((s.length : Int) < many)) knStep FU [] os a1) fun many => pfx_loop (fun s => ?_) FU []
  exact pfx_num.bind (k := fun c _ a' => .ok (s ++ [if s = [] then unz c else s.getLastD 0 + c + 1], a')) fun c => Pfx.pure _
theorem pfx_hd : Pfx hd where
  up := fun {os at_ v a} h => by
    unfold hd at h
    split at h
    · simp at h
    · next o e =>
      simp only [Except.ok.injEq, Prod.mk.injEq] at h
      obtain ⟨h1, _⟩ := List.getElem?_eq_some_iff.mp e
      omega
  same := fun {os at_ v a} h e he => by
    unfold hd at h ⊢
    split at h
    · simp at h
    · next o q =>
      simp only [Except.ok.injEq, Prod.mk.injEq] at h
      obtain ⟨rfl, rfl⟩ := h
      rw [List.getElem?_take_of_lt (by omega), q]
  short := fun {os at_ v a} h e he hl => by
    unfold hd at h ⊢
    split at h
    · simp at h
    · next o q =>
      simp only [Except.ok.injEq, Prod.mk.injEq] at h
      obtain ⟨rfl, rfl⟩ := h
      have : (os.take e)[at_]? = none := List.getElem?_eq_none (by rw [List.length_take]; omega)
      rw [this]
theorem pfx_vals (count : Nat) : Pfx (valsFrom count) := by
  refine pfx_hd.bind (k := fun o os a1 => if 3 < o then .error .malf else valsK o count os a1) fun o => ?_
  by_cases h : 3 < o
  · simp only [h, if_true]
    exact Pfx.error _
  · simp only [h, if_false]
    refine Pfx.bind (r := fun os a => if o = 3 then knownR os a else .ok ([], a)) (k := fun known os a1 => loopR (fun s : List Int => decide (s.length < count)) (vStep o known count) FU [] os a1) ?_ fun known => pfx_loop (fun s => ?_) FU []
    · by_cases h3 : o = 3
      · simp only [h3, if_true]
        exact pfx_known
      · simp only [h3, if_false]
        exact Pfx.pure _
    · refine pfx_num.bind (k := fun c os a1 => if o = 2 then bindR (num os a1) fun m a2 => if (count : Int) - s.length < m + 1 then .error .malf else .ok (s ++ List.replicate (m + 1).toNat (unz c), a2)
        else if o = 3 then (if (known.length : Int) ≤ c then .error .malf else .ok (s ++ [known.getD c.toNat 0], a1)) else .ok (s ++ [unz c + (if o = 1 then s.getLastD 0 else 0)], a1)) fun c => ?_
      by_cases h2 : o = 2
      · simp only [h2, if_true]
        refine pfx_num.bind (k := fun m _ a2 => if (count : Int) - s.length < m + 1 then .error .malf else .ok (s ++ List.replicate (m + 1).toNat (unz c), a2)) fun m => ?_
        by_cases hm : (count : Int) - s.length < m + 1
        · simp only [hm, if_true]
          exact Pfx.error _
        · simp only [hm, if_false]
          exact Pfx.pure _
      · simp only [h2, if_false]
        by_cases h3 : o = 3
        · simp only [h3, if_true]
          by_cases hc : (known.length : Int) ≤ c
          · simp only [hc, if_true]
            exact Pfx.error _
          · simp only [hc, if_false]
            exact Pfx.pure _
        · simp only [h3, if_false]
          exact Pfx.pure _

theorem parts_inv {os : List Int} {ts vs : List Int} {a2 : Nat} (h : parts os = .ok ((ts, vs), a2)) :
    ∃ a, times os 0 = .ok (ts, a) ∧ valsFrom ts.length os a = .ok (vs, a2) ∧ packed vs = (os.drop a).take (a2 - a) ∧ a ≤ a2 ∧ a2 ≤ os.length := by
  obtain ⟨ts', a, e1, h⟩ := bindR_inv h
  obtain ⟨vs', a', e2, h⟩ := bindR_inv h
  simp only [Except.ok.injEq, Prod.mk.injEq] at h
  obtain ⟨⟨rfl, rfl⟩, rfl⟩ := h
  obtain ⟨vs1, a1, e3, h⟩ := bindR_inv e2
  split at h
  · next c =>
    simp only [Except.ok.injEq, Prod.mk.injEq] at h
    obtain ⟨rfl, rfl⟩ := h
    have u1 := pfx_times.up e1
    have u2 := (pfx_vals _).up e3
    exact ⟨a, e1, e3, c, u2.1, u2.2 (u1.2 (Nat.zero_le _))⟩
  · simp at h
/-- a shorter beginning of a whole pack is short -/
theorem unpack_short {os : List Int} {p : List Int × List Int} (h : unpackR os = .ok p) (e : Nat) (he : e < os.length) : unpackR (os.take e) = .error .short := by
  unfold unpackR at h
  split at h
  · simp at h
  · next p' a2 q =>
    obtain ⟨ts, vs⟩ := p'
    split at h
    · simp at h
    · next c =>
      obtain ⟨a, e1, e2, _, l1, l2⟩ := parts_inv q
      have hp : parts (os.take e) = .error .short := by
        unfold parts
        by_cases d : e < a
        · rw [pfx_times.short e1 e (Nat.zero_le _) d]
          rfl
        · rw [pfx_times.same e1 e (by omega)]
          simp only [bindR_ok]
          unfold unVals
          rw [(pfx_vals _).short e2 e (by omega) (by omega)]
          rfl
      unfold unpackR
      rw [hp]
end EgM

set_option Elab.async false
set_option linter.all false
set_option maxRecDepth 100000
set_option maxHeartbeats 4000000
/-! The plain functions, part three: what was read is told again; how large it may be. -/
namespace EgM

/-! ### small facts of lists -/
theorem getD_lt {l r : List Int} {k : Nat} (h : k < l.length) : (l ++ r).getD k 0 = l.getD k 0 := by
  rw [List.getD_eq_getElem?_getD, List.getD_eq_getElem?_getD, List.getElem?_append_left h]
theorem getD_end {l : List Int} {x : Int} : (l ++ [x]).getD l.length 0 = x := by
  rw [List.getD_eq_getElem?_getD, List.getElem?_append_right (Nat.le_refl _)]
  simp
theorem getLastD_at {l : List Int} (h : l ≠ []) : l.getLastD 0 = l.getD (l.length - 1) 0 := by
  rw [List.getLastD_eq_getLast?, List.getLast?_eq_getElem?, List.getD_eq_getElem?_getD]
theorem getD_mem {l : List Int} {k : Nat} (h : k < l.length) : l.getD k 0 ∈ l := by
  rw [List.getD_eq_getElem?_getD, List.getElem?_eq_getElem h]
  exact List.getElem_mem h
theorem tO_app {l r : List Int} {k : Nat} (h : k < l.length) : tO (l ++ r) k = tO l k := by
  unfold tO
  split
  · next e => subst e; rw [getD_lt h]
  · split
    · next e => subst e; rw [getD_lt h, getD_lt (by omega)]
    · rw [getD_lt h, getD_lt (by omega), getD_lt (by omega)]
theorem flatMap_congr {α : Type} {l : List α} {f g : α → List Int} (h : ∀ x ∈ l, f x = g x) : l.flatMap f = l.flatMap g := by
  induction l with
  | nil => rfl
  | cons a r ih => rw [List.flatMap_cons, List.flatMap_cons, h a (by simp), ih fun x hx => h x (List.mem_cons_of_mem _ hx)]
theorem range_flat (n : Nat) (f : Nat → List Int) : (List.range (n + 1)).flatMap f = (List.range n).flatMap f ++ f n := by
  rw [List.range_succ, List.flatMap_append]
  simp
theorem flat_len {α : Type} {l : List α} {f : α → List Int} {b : Nat} (h : ∀ x ∈ l, (f x).length ≤ b) : (l.flatMap f).length ≤ b * l.length := by
  induction l with
  | nil => simp
  | cons a r ih =>
    rw [List.flatMap_cons, List.length_append, List.length_cons, Nat.mul_succ]
    have h1 := h a (by simp)
    have h2 := ih fun x hx => h x (List.mem_cons_of_mem _ hx)
    omega

/-! ### what a number's reading tells -/
theorem num_facts {os : List Int} {a : Nat} {c : Int} {a' : Nat} (ho : Oct os) (h : num os a = .ok (c, a')) : 0 ≤ c ∧ numO c = (os.drop a).take (a' - a) ∧ a < a' ∧ a' ≤ os.length := by
  have u := num_up h
  unfold num at h
  split at h
  · simp at h
  · next v n z e =>
    split at h
    · simp at h
    · next k =>
      simp only [Except.ok.injEq, Prod.mk.injEq] at h
      obtain ⟨rfl, rfl⟩ := h
      have q := rdRaw_ok (ho.drop a) e
      refine ⟨q.2.2.1, ?_, u.1, u.2⟩
      rw [rdRaw_canon (ho.drop a) e k]
      congr 1
      omega
theorem take_more {os : List Int} {a a' : Nat} (h : a ≤ a') : os.take a' = os.take a ++ (os.drop a).take (a' - a) := by
  have e : a' = a + (a' - a) := by omega
  rw [e, List.take_add]
  congr 2
  omega

/-! ### times -/
/-- while times are read: s what was found, a where one stands -/
structure TI (os : List Int) (B many : Int) (s : List Int × Int) (a : Nat) : Prop where
  told : numO many ++ (List.range s.1.length).flatMap (tO s.1) = os.take a
  le : (s.1.length : Int) ≤ many
  len : s.1.length ≤ a
  al : a ≤ os.length
  g0 : s.1 = [] → s.2 = 0
  g2 : 2 ≤ s.1.length → s.2 = s.1.getD (s.1.length - 1) 0 - s.1.getD (s.1.length - 2) 0
  up : s.1.Pairwise (· < ·)
  nn : ∀ x ∈ s.1, 0 ≤ x
  gn : 0 ≤ s.2
  gB : s.2 ≤ s.1.length * B
  xB : ∀ x ∈ s.1, x ≤ s.1.length * (s.1.length * B)
theorem unz_le {c B : Int} (h0 : 0 ≤ c) (h : c < B) : -B ≤ unz c ∧ unz c ≤ B := by
  unfold unz
  split <;> omega
theorem pw_last {l : List Int} {x : Int} (h : l.Pairwise (· < ·)) (hn : l ≠ []) (hx : l.getD (l.length - 1) 0 < x) : (l ++ [x]).Pairwise (· < ·) := by
  rw [List.pairwise_append]
  refine ⟨h, by simp, fun y hy z hz => ?_⟩
  obtain rfl := List.mem_singleton.mp hz
  obtain ⟨i, hi, rfl⟩ := List.getElem_of_mem hy
  have e : l.getD (l.length - 1) 0 = l[l.length - 1]'(by omega) := by
    rw [List.getD_eq_getElem?_getD, List.getElem?_eq_getElem (by omega)]
    rfl
  by_cases c : i = l.length - 1
  · subst c
    omega
  · have := List.pairwise_iff_getElem.mp h i (l.length - 1) hi (by omega) (by omega)
    omega
theorem TI.step {os : List Int} {B many : Int} (ho : Oct os) (hB : ∀ a c a', num os a = .ok (c, a') → c < B) {s : List Int × Int} {a : Nat} {s' : List Int × Int} {a' : Nat} (I : TI os B many s a) (go : (s.1.length : Int) < many)
    (h : tmStep s os a = .ok (s', a')) : TI os B many s' a' := by
  obtain ⟨found, gap⟩ := s
  obtain ⟨c, a1, e, h⟩ := bindR_inv h
  obtain ⟨c0, cO, l1, l2⟩ := num_facts ho e
  have cB := hB _ _ _ e
  have hB0 : 0 < B := by omega
  obtain ⟨i1, i2, i3, i4, i5, i6, i7, i8, i9, i10, i11⟩ := I
  simp only at i1 i2 i3 i4 i5 i6 i7 i8 i9 i10 i11 go h
  by_cases hn : found = []
  · subst hn
    rw [if_pos rfl] at h
    simp only [Except.ok.injEq, Prod.mk.injEq] at h
    obtain ⟨rfl, rfl⟩ := h
    have g := i5 rfl
    subst g
    have e0 : numO many = os.take a := by simpa using i1
    refine ⟨?_, ?_, ?_, l2, fun z => by simp at z, fun z => by simp at z, by simp, fun x hx => by simp at hx; omega, by simp, ?_, fun x hx => ?_⟩
    · show numO many ++ (List.range 1).flatMap (tO [c]) = _
      rw [take_more (Nat.le_of_lt l1), ← cO, e0]
      simp [tO]
    · show ((1 : Nat) : Int) ≤ many
      simp only [List.length_nil] at go
      omega
    · show 1 ≤ a1
      omega
    · show (0 : Int) ≤ ((1 : Nat) : Int) * B
      omega
    · simp at hx
      subst hx
      show x ≤ ((1 : Nat) : Int) * (((1 : Nat) : Int) * B)
      omega
  · rw [if_neg hn] at h
    generalize hG : (if found.length = 1 then c + 1 else gap + unz c) = g at h
    by_cases hg : g < 1
    · rw [if_pos hg] at h
      simp at h
    · rw [if_neg hg] at h
      simp only [Except.ok.injEq, Prod.mk.injEq] at h
      obtain ⟨rfl, rfl⟩ := h
      have lp : 1 ≤ found.length := List.length_pos_iff.mpr hn
      rw [getLastD_at hn]
      have ub := unz_le c0 cB
      have gle : g ≤ (found.length + 1 : Nat) * B := by
        have e1 : ((found.length + 1 : Nat) : Int) * B = found.length * B + B := by rw [Int.natCast_add, Int.add_mul]; simp
        rw [e1]
        have lB : B ≤ found.length * B := by
          have := Int.mul_le_mul_of_nonneg_right (show (1 : Int) ≤ found.length by omega) (Int.le_of_lt hB0)
          omega
        split at hG <;> omega
      have lm := getD_mem (l := found) (k := found.length - 1) (by omega)
      have lx := i11 _ lm
      have ln := i8 _ lm
      generalize hL : found.getD (found.length - 1) 0 = last at *
      have hlen : (found ++ [last + g]).length = found.length + 1 := by simp
      refine ⟨?_, ?_, ?_, l2, fun z => by simp at z, fun _ => ?_, pw_last i7 hn (by omega), fun x hx => ?_, by omega, ?_, fun x hx => ?_⟩
      · show numO many ++ (List.range (found ++ [last + g]).length).flatMap (tO (found ++ [last + g])) = _
        rw [hlen, range_flat, take_more (Nat.le_of_lt l1), ← cO, ← i1, ← List.append_assoc]
        have e2 : (List.range found.length).flatMap (tO (found ++ [last + g])) = (List.range found.length).flatMap (tO found) := flatMap_congr fun k hk => tO_app (List.mem_range.mp hk)
        rw [e2]
        congr 1
        unfold tO
        rw [if_neg (by omega)]
        by_cases h1 : found.length = 1
        · rw [if_pos h1] at hG
          rw [if_pos h1]
          have q1 : (found ++ [last + g]).getD 1 0 = last + g := by
            have := getD_end (l := found) (x := last + g)
            rw [h1] at this
            exact this
          have q0 : (found ++ [last + g]).getD 0 0 = last := by
            rw [getD_lt (by omega), ← hL, h1]
          rw [q1, q0]
          congr 1
          omega
        · rw [if_neg h1] at hG
          rw [if_neg h1]
          have g2 := i6 (by omega)
          rw [getD_end, getD_lt (by omega), getD_lt (by omega), hL]
          unfold sgnO
          have e3 : last + g - 2 * last + found.getD (found.length - 2) 0 = unz c := by omega
          rw [e3, zig_unz c0]
      · show (((found ++ [last + g]).length : Nat) : Int) ≤ many
        rw [hlen]
        omega
      · show (found ++ [last + g]).length ≤ a1
        rw [hlen]
        omega
      · show g = (found ++ [last + g]).getD ((found ++ [last + g]).length - 1) 0 - (found ++ [last + g]).getD ((found ++ [last + g]).length - 2) 0
        rw [hlen]
        have e4 : found.length + 1 - 1 = found.length := by omega
        have e5 : found.length + 1 - 2 = found.length - 1 := by omega
        rw [e4, e5, getD_end, getD_lt (by omega), hL]
        omega
      · rcases List.mem_append.mp hx with q | q
        · exact i8 x q
        · simp at q
          omega
      · show g ≤ ((found ++ [last + g]).length : Nat) * B
        rw [hlen]
        exact gle
      · show x ≤ ((found ++ [last + g]).length : Nat) * (((found ++ [last + g]).length : Nat) * B)
        rw [hlen]
        have m1 : (found.length : Int) * B ≤ ((found.length + 1 : Nat) : Int) * B := Int.mul_le_mul_of_nonneg_right (by omega) (Int.le_of_lt hB0)
        have m2 : (found.length : Int) * (found.length * B) ≤ (found.length : Int) * (((found.length + 1 : Nat) : Int) * B) := Int.mul_le_mul_of_nonneg_left m1 (by omega)
        have m3 : (((found.length + 1 : Nat) : Int)) * (((found.length + 1 : Nat) : Int) * B) = found.length * (((found.length + 1 : Nat) : Int) * B) + ((found.length + 1 : Nat) : Int) * B := by
          rw [Int.natCast_add found.length 1, Int.add_mul]
          simp
        rw [m3]
        rcases List.mem_append.mp hx with q | q
        · have := i11 x q
          omega
        · simp at q
          omega
theorem times_facts {os : List Int} {B : Int} (ho : Oct os) (hB : ∀ a c a', num os a = .ok (c, a') → c < B) {ts : List Int} {a : Nat} (h : times os 0 = .ok (ts, a)) :
    timesO ts = os.take a ∧ ts.Pairwise (· < ·) ∧ (∀ x ∈ ts, 0 ≤ x ∧ x ≤ ts.length * (ts.length * B)) ∧ ts.length ≤ a ∧ a ≤ os.length := by
  obtain ⟨many, a1, e, h⟩ := bindR_inv h
  obtain ⟨s, a2, q, h⟩ := bindR_inv h
  simp only [Except.ok.injEq, Prod.mk.injEq] at h
  obtain ⟨rfl, rfl⟩ := h
  obtain ⟨c0, cO, l1, l2⟩ := num_facts ho e
  have I0 : TI os B many ([], 0) a1 := ⟨by simpa using cO, by simpa using c0, by simp, l2, fun _ => rfl, fun z => by simp at z, by simp, by simp, by simp, by simp, by simp⟩
  obtain ⟨I, g⟩ := loop_inv (TI os B many) (fun s a s' a' p gs hs => TI.step ho hB p (by simpa using gs) hs) FU ([], 0) a1 s a2 I0 q
  have hlen : (s.1.length : Int) = many := by
    have g' := of_decide_eq_false g
    have := I.le
    omega
  refine ⟨?_, I.up, fun x hx => ⟨I.nn x hx, I.xB x hx⟩, I.len, I.al⟩
  unfold timesO
  rw [hlen]
  exact I.told

/-! ### values -/
theorem known_facts {os : List Int} {B : Int} (ho : Oct os) (hB : ∀ a c a', num os a = .ok (c, a') → c < B) {a : Nat} {ks : List Int} {a' : Nat} (h : knownR os a = .ok (ks, a')) : (∀ x ∈ ks, -(ks.length * B) ≤ x ∧ x ≤ ks.length * B) ∧ ks.length ≤ a' ∧ a' ≤ os.length := by
  obtain ⟨many, a1, e, h⟩ := bindR_inv h
  obtain ⟨c0, cO, l1, l2⟩ := num_facts ho e
  have B0 : 0 < B := by have := hB _ _ _ e; omega
  refine (loop_inv (fun s a => (∀ x ∈ s, -(s.length * B) ≤ x ∧ x ≤ s.length * B) ∧ s.length ≤ a ∧ a ≤ os.length) (fun s a s' a' p _ hs => ?_) FU [] a1 ks a' ⟨by simp, by simp, l2⟩ h).1
  obtain ⟨p1, p2, p3⟩ := p
  obtain ⟨c, a3, e3, hs⟩ := bindR_inv hs
  simp only [Except.ok.injEq, Prod.mk.injEq] at hs
  obtain ⟨rfl, rfl⟩ := hs
  obtain ⟨d0, dO, m1, m2⟩ := num_facts ho e3
  have dB := hB _ _ _ e3
  have ub := unz_le d0 dB
  have hl : (s ++ [if s = [] then unz c else s.getLastD 0 + c + 1]).length = s.length + 1 := by simp
  have hm : ((s.length + 1 : Nat) : Int) * B = s.length * B + B := by rw [Int.natCast_add, Int.add_mul]; simp
  have sB : 0 ≤ (s.length : Int) * B := Int.mul_nonneg (by omega) (by omega)
  refine ⟨fun x hx => ?_, by rw [hl]; omega, m2⟩
  rw [hl, hm]
  rcases List.mem_append.mp hx with q | q
  · have := p1 x q
    omega
  · have q := List.mem_singleton.mp q
    split at q
    · omega
    · next hn =>
      have lp : 1 ≤ s.length := List.length_pos_iff.mpr hn
      rw [getLastD_at hn] at q
      have := p1 _ (getD_mem (l := s) (k := s.length - 1) (by omega))
      omega
theorem vals_facts {os : List Int} {B : Int} (ho : Oct os) (hl : os.length ≤ 400) (hB : ∀ a c a', num os a = .ok (c, a') → c < B) {count a : Nat} {vs : List Int} {a' : Nat} (hc : count ≤ 400) (h : valsFrom count os a = .ok (vs, a')) :
    vs.length = count ∧ ∀ x ∈ vs, -(401 * B) ≤ x ∧ x ≤ 401 * B := by
  obtain ⟨o, a1, e, h⟩ := bindR_inv h
  split at h
  · simp at h
  · obtain ⟨known, a2, e2, h⟩ := bindR_inv h
    have kn : ∀ x ∈ known, -(401 * B) ≤ x ∧ x ≤ 401 * B := by
      split at e2
      · obtain ⟨k1, k2, k3⟩ := known_facts ho hB e2
        intro x hx
        have := k1 x hx
        have B0 : 0 ≤ B := by
          obtain ⟨many, a1, e, _⟩ := bindR_inv e2
          have := hB _ _ _ e
          have := (num_facts ho e).1
          omega
        have : (known.length : Int) * B ≤ 401 * B := Int.mul_le_mul_of_nonneg_right (by omega) B0
        omega
      · simp only [Except.ok.injEq, Prod.mk.injEq] at e2
        obtain ⟨rfl, _⟩ := e2
        simp
    have main := loop_inv (fun s a => s.length ≤ count ∧ (∀ x ∈ s, -(401 * B) ≤ x ∧ x ≤ 401 * B) ∧ (o = 1 → s ≠ [] → -(s.length * B) ≤ s.getLastD 0 ∧ s.getLastD 0 ≤ s.length * B)) (fun s a s' a' p g hs => ?_) FU [] a2 vs a' ⟨by simp, by simp, fun _ z => absurd rfl z⟩ h
    · obtain ⟨⟨m1, m2, _⟩, m3⟩ := main
      have := of_decide_eq_false m3
      exact ⟨by omega, m2⟩
    · have g := of_decide_eq_true g
      obtain ⟨p1, p2, p3⟩ := p
      obtain ⟨c, a3, e3, hs⟩ := bindR_inv hs
      obtain ⟨d0, dO, n1, n2⟩ := num_facts ho e3
      have dB := hB _ _ _ e3
      have ub := unz_le d0 dB
      have B0 : 0 < B := by omega
      split at hs
      · next h2 =>
        obtain ⟨m, a4, e4, hs⟩ := bindR_inv hs
        split at hs
        · simp at hs
        · next hm =>
          simp only [Except.ok.injEq, Prod.mk.injEq] at hs
          obtain ⟨rfl, rfl⟩ := hs
          have m0 := (num_facts ho e4).1
          refine ⟨by rw [List.length_append, List.length_replicate]; omega, fun x hx => ?_, fun z => by omega⟩
          rcases List.mem_append.mp hx with q | q
          · exact p2 x q
          · have := List.eq_of_mem_replicate q
            omega
      · split at hs
        · split at hs
          · simp at hs
          · next h3 hk =>
            simp only [Except.ok.injEq, Prod.mk.injEq] at hs
            obtain ⟨rfl, rfl⟩ := hs
            refine ⟨by rw [List.length_append, List.length_singleton]; omega, fun x hx => ?_, fun z => by omega⟩
            rcases List.mem_append.mp hx with q | q
            · exact p2 x q
            · have q := List.mem_singleton.mp q
              rw [q]
              exact kn _ (getD_mem (by omega))
        · next h2 h3 =>
          simp only [Except.ok.injEq, Prod.mk.injEq] at hs
          obtain ⟨rfl, rfl⟩ := hs
          have hl2 : (s ++ [unz c + if o = 1 then s.getLastD 0 else 0]).length = s.length + 1 := by simp
          have hm : ((s.length + 1 : Nat) : Int) * B = s.length * B + B := by rw [Int.natCast_add, Int.add_mul]; simp
          have sB : 0 ≤ (s.length : Int) * B := Int.mul_nonneg (by omega) (by omega)
          have sB2 : (s.length : Int) * B ≤ 400 * B := Int.mul_le_mul_of_nonneg_right (by omega) (by omega)
          have new : -(s.length * B) - B ≤ unz c + (if o = 1 then s.getLastD 0 else 0) ∧ unz c + (if o = 1 then s.getLastD 0 else 0) ≤ s.length * B + B := by
            split
            · next h1 =>
              by_cases hn : s = []
              · subst hn
                simp
                omega
              · have := p3 h1 hn
                omega
            · omega
          refine ⟨by rw [hl2]; omega, fun x hx => ?_, fun h1 _ => ?_⟩
          · rcases List.mem_append.mp hx with q | q
            · exact p2 x q
            · have q := List.mem_singleton.mp q
              omega
          · rw [hl2, hm, List.getLastD_concat]
            omega
end EgM

set_option Elab.async false
set_option linter.all false
set_option maxRecDepth 100000
set_option maxHeartbeats 4000000
/-! The program's defs, part one: shapes. -/
namespace L2.EG
open PySem PySem.Spec PyProof.Rows EgM
open Evl (Ex ex_l ex_t)

/-- a list or a tuple -/
def SqA (K : PySem.W.Frag) (H : Hp) (a : Addr) (xs : List V) : Prop := SqL K H a xs ∨ SqT K H a xs
theorem SqA.ex {K : PySem.W.Frag} {H H' : Hp} {a : Addr} {xs : List V} (h : SqA K H a xs) (e : Ex H H') : SqA K H' a xs := h.imp (ex_l e) (ex_t e)
theorem SqA.ty {K : PySem.W.Frag} {H : Hp} {a : Addr} {xs : List V} (h : SqA K H a xs) : TyX K H (.ref a) (.type "list") ∨ TyX K H (.ref a) (.type "tuple") := by
  rcases h with ((h | ⟨o, h⟩) | ⟨o, _, _, e, c, _⟩) | ((h | ⟨o, h⟩) | ⟨o, _, _, e, c, _⟩)
  · exact .inl (.base (.lst h))
  · exact .inl (.base (.frz h))
  · exact .inl (.kList e c)
  · exact .inr (.base (.tup h))
  · exact .inr (.fTuple h)
  · exact .inr (.kTuple e c)

def spIsList (K : PySem.W.Frag) : Sp := fun vs H Q _ => ∃ (a : Addr) (xs : List V), vs = [.ref a] ∧ SqA K H a xs ∧ ∀ H', Ex H H' → Q (.bl true) H'
-- slots of is_list: 0 value
theorem sc_is_list : FnScope ["value"] ["value"] (defScope (top 13)) := ⟨rfl, rfl, rfl, by decide +kernel, rfl, by decide +kernel, by decide +kernel⟩
theorem ok_is_list {M : Md} (B : Bn M) (F : Fd M "is_list" (top 13)) : M.pm "is_list" 1 ["value"] (spIsList M.K) := by
  refine F.ok sc_is_list ?len (fun _ _ _ _ _ _ us hl => match us, hl with | [_], _ => rfl) (fun f cdv A outer s H vs Q E hr h => ?body)
  case len =>
    rintro _ _ _ _ ⟨_, _, rfl, _⟩
    rfl
  case body =>
    refine ⟨_, (pss_one (ps_ret (pe_callB call_isiT rfl B.isinstance (by decide +kernel) (pa_cons (pv 0) (pa_cons (pe_tup (pa_cons (pe_bltn (v := .ty "list") rfl B.list (by decide +kernel) rfl) (pa_cons (pe_bltn (v := .ty "tuple") rfl B.tuple (by decide +kernel) rfl) pa_nil))) pa_nil))))), ?_⟩
    obtain ⟨a, xs, rfl, hs, q⟩ := h
    refine ⟨_, rfl, by show 2 ≤ sizeLine; decide, fun p hp => ?_⟩
    have e := Ex.new (o := .tup [.ty "list", .ty "tuple"]) hp
    rcases (hs.ex e).ty with ty | ty
    · exact ⟨.ref a, p, [.ty "list", .ty "tuple"], _, [.type "list", .type "tuple"], true, rfl, upd_same, .cons (.ty _) (.cons (.ty _) .nil), ty, rfl, q _ e⟩
    · exact ⟨.ref a, p, [.ty "list", .ty "tuple"], _, [.type "list", .type "tuple"], true, rfl, upd_same, .cons (.ty _) (.cons (.ty _) .nil), ty, rfl, q _ e⟩
/-- a whole number -/
def spInt : Sp := fun vs H Q _ => ∃ n : Int, vs = [.int n] ∧ Q (.bl true) H
-- slots of is_integer: 0 value
theorem sc_is_integer : FnScope ["value"] ["value"] (defScope (top 14)) := ⟨rfl, rfl, rfl, by decide +kernel, rfl, by decide +kernel, by decide +kernel⟩
theorem ok_is_integer {M : Md} (B : Bn M) (F : Fd M "is_integer" (top 14)) : M.pm "is_integer" 1 ["value"] (spInt) := by
  refine F.ok sc_is_integer ?len (fun _ _ _ _ _ _ us hl => match us, hl with | [_], _ => rfl) (fun f cdv A outer s H vs Q E hr h => ?body)
  case len =>
    rintro _ _ _ _ ⟨_, rfl, _⟩
    rfl
  case body =>
    refine ⟨_, (pss_one (ps_ret (pe_and (pe_callB call_isi rfl B.isinstance (by decide +kernel) (pa_cons (pv 0) (pa_cons (pe_bltn (v := .ty "int") rfl B.int (by decide +kernel) rfl) pa_nil))) (pe_one (pe_not (pe_callB call_isi rfl B.isinstance (by decide +kernel) (pa_cons (pv 0) (pa_cons (pe_bltn (v := .ty "bool") rfl B.bool (by decide +kernel) rfl) pa_nil)))))))), ?_⟩
    obtain ⟨n, rfl, q⟩ := h
    refine ⟨_, rfl, .int n, .ty "int", .type "int", .type "int", true, rfl, .ty _, .base (.int n), rfl, true, rfl, ?_⟩
    exact ⟨_, rfl, .int n, .ty "bool", .type "int", .type "bool", false, rfl, .ty _, .base (.int n), rfl, false, rfl, q⟩
-- slots of is_value: 0 value
theorem sc_is_value : FnScope ["value"] ["value"] (defScope (top 15)) := ⟨rfl, rfl, rfl, by decide +kernel, rfl, by decide +kernel, by decide +kernel⟩
theorem ok_is_value {M : Md} (c_is_integer : M.pm "is_integer" 1 ["value"] spInt) (F : Fd M "is_value" (top 15)) : M.pm "is_value" 2 ["value"] (spInt) := by
  refine F.ok sc_is_value ?len (fun _ _ _ _ _ _ us hl => match us, hl with | [_], _ => rfl) (fun f cdv A outer s H vs Q E hr h => ?body)
  case len =>
    rintro _ _ _ _ ⟨_, rfl, _⟩
    rfl
  case body =>
    refine ⟨_, (pss_one (ps_ret (pe_pm c_is_integer (hr.mono (by decide)) rfl (pa_cons (pv 0) pa_nil)))), ?_⟩
    obtain ⟨n, rfl, q⟩ := h
    exact ⟨_, rfl, n, rfl, q⟩
def spCount : Sp := fun vs H Q _ => ∃ n : Int, vs = [.int n] ∧ Q (.bl (decide (0 ≤ n))) H
-- slots of is_count: 0 value
theorem sc_is_count : FnScope ["value"] ["value"] (defScope (top 16)) := ⟨rfl, rfl, rfl, by decide +kernel, rfl, by decide +kernel, by decide +kernel⟩
theorem ok_is_count {M : Md} (c_is_integer : M.pm "is_integer" 1 ["value"] spInt) (F : Fd M "is_count" (top 16)) : M.pm "is_count" 2 ["value"] (spCount) := by
  refine F.ok sc_is_count ?len (fun _ _ _ _ _ _ us hl => match us, hl with | [_], _ => rfl) (fun f cdv A outer s H vs Q E hr h => ?body)
  case len =>
    rintro _ _ _ _ ⟨_, rfl, _⟩
    rfl
  case body =>
    refine ⟨_, (pss_one (ps_ret (pe_and (pe_pm c_is_integer (hr.mono (by decide)) rfl (pa_cons (pv 0) pa_nil)) (pe_one (pe_cmpR op_ge (pv 0) pe_int (nomark _)))))), ?_⟩
    obtain ⟨n, rfl, q⟩ := h
    exact ⟨_, rfl, n, rfl, true, rfl, _, rfl, _, _, rfl, rfl, q⟩
def spCheck : Sp := fun vs H Q _ => ∃ n : Int, vs = [.int n] ∧ 0 ≤ n ∧ Q .non H
-- slots of check_count: 0 value
theorem sc_check_count : FnScope ["value"] ["value"] (defScope (top 17)) := ⟨rfl, rfl, rfl, by decide +kernel, rfl, by decide +kernel, by decide +kernel⟩
theorem ok_check_count {M : Md} (c_is_count : M.pm "is_count" 2 ["value"] spCount) (F : Fd M "check_count" (top 17)) : M.pm "check_count" 3 ["value"] (spCheck) := by
  refine F.ok sc_check_count ?len (fun _ _ _ _ _ _ us hl => match us, hl with | [_], _ => rfl) (fun f cdv A outer s H vs Q E hr h => ?body)
  case len =>
    rintro _ _ _ _ ⟨_, rfl, _⟩
    rfl
  case body =>
    refine ⟨_, (pss_one (ps_if (pt_not (pt_val (pe_pm c_is_count (hr.mono (by decide)) rfl (pa_cons (pv 0) pa_nil))))
        (pss_one ps_never)
        pss_nil)), ?_⟩
    obtain ⟨n, rfl, h0, q⟩ := h
    refine ⟨_, rfl, n, rfl, _, rfl, ?_⟩
    rw [decide_eq_true h0]
    exact q
end L2.EG

set_option Elab.async false
set_option linter.all false
set_option maxRecDepth 100000
set_option maxHeartbeats 4000000
/-! The program's defs, part two: octets. -/
namespace L2.EG
open PySem PySem.Spec PyProof.Rows EgM
open Evl (Ex ex_l ex_t)

/-- either of two readings -/
theorem pi_or {X : Cx} {tg iter : Expr} {w1 w2 : TI} (h1 : PI X tg iter w1) (h2 : PI X tg iter w2) : PI X tg iter (fun σ H R => w1 σ H R ∨ w2 σ H R) :=
  ⟨fun pins s σ H R I h => h.elim (h1.run pins s σ H R I) (h2.run pins s σ H R I)⟩
theorem dT {p : Prop} [Decidable p] (h : p) : V.bl (decide p) = .bl true := by rw [decide_eq_true h]
theorem dF {p : Prop} [Decidable p] (h : ¬ p) : V.bl (decide p) = .bl false := by rw [decide_eq_false h]
theorem sz {n : Nat} (h : n ≤ 1000000) : n ≤ sizeLine := by rw [sizeLine_eq]; omega
theorem szl {n : Nat} (h : n < 1000000) : n < sizeLine := by rw [sizeLine_eq]; omega
/-- a comprehension whose elements are worked out without a trace -/
theorem lc_map {J : It} {n : Nat} {G : Hp → Prop} {Y : Nat → Hp → V → Hp → Prop} (w : Walk J n G Y) {g : TG} {te : TE} {vs : List Nat} {σ : St} {H1 : Hp} {D : Addr} {Qd : Hp → Prop} (ys : List V) (hn : ys.length = n) (hz : n < 1000000) (nD : H1 D = none)
    (hG : ∀ H, Ex H1 H → G H) (hY : ∀ i H x H', Y i H x H' → Ex H H')
    (hs : ∀ i x y H H' (Q : VK), ys[i]? = some y → Ex H1 H → Y i H x H' → (∀ H2, Ex H' H2 → Q y H2) → g x (wipe σ vs) H' fun σ2 H2 => wipe σ2 vs = wipe σ vs ∧ te σ2 H2 Q)
    (gm : ∀ x σ H (Q Q' : St → Hp → Prop), (∀ σ' H', Q σ' H' → Q' σ' H') → g x σ H Q → g x σ H Q') (hd : ∀ H, Ex H1 H → H D = some (.lst ys) → Qd H) :
    ∃ W : Nat → Nat → Hp → Prop, (∃ m, W 0 m (upd H1 D (.lst []))) ∧ ∀ i m H, W i m H →
      (J.stop i H ∧ Qd H) ∨ (J.go i H ∧ ∃ Nx : Hp → Prop, (∀ H', Nx H' → ∃ m', m' < m ∧ W (i + 1) m' H') ∧ ∀ x H', J.yld i H x H' → g x (wipe σ vs) H' fun σ2 H2 => wipe σ2 vs = wipe σ vs ∧ tYes σ2 H2 fun b H3 =>
        if b = true then te σ2 H3 fun y H4 => ∃ acc, H4 D = some (.lst acc) ∧ acc.length < sizeLine ∧ Nx (upd H4 D (.lst (acc ++ [y]))) else Nx H3) := by
  refine lc_it w (fun i H => Ex H1 H ∧ H D = some (.lst (ys.take i))) ⟨Ex.new nD, by rw [upd_same]; rfl⟩ (fun i H _ p => hG H p.1) (fun i x H H' hi p y => ?_) fun H p => hd H p.1 (by rw [p.2, List.take_of_length_le (by omega)])
  have hy : ys[i]? = some ys[i] := List.getElem?_eq_getElem (by omega)
  have e := hY i H x H' y
  refine gm _ _ _ _ _ (fun σ2 H2 q => ⟨q.1, ?_⟩) (hs i x ys[i] H H' (fun y H4 => ∃ acc, H4 D = some (.lst acc) ∧ acc.length < sizeLine ∧ Ex H1 (upd H4 D (.lst (acc ++ [y]))) ∧ upd H4 D (.lst (acc ++ [y])) D = some (.lst (ys.take (i + 1)))) hy p.1 y fun H4 e4 => ?_)
  · simp only [tYes, if_true]
    exact q.2
  · refine ⟨ys.take i, e4 D _ (e D _ p.2), ?_, (p.1.trans (e.trans e4)).mut nD, ?_⟩
    · rw [List.length_take]
      exact szl (by omega)
    · rw [upd_same, List.take_add_one, hy]
      rfl
theorem gn_mono {i : Nat} : ∀ x σ H (Q Q' : St → Hp → Prop), (∀ σ' H', Q σ' H' → Q' σ' H') → gName i x σ H Q → gName i x σ H Q' := fun _ _ _ _ _ m h => m _ _ h
theorem gn_mono2 {K : PySem.W.Frag} {i j : Nat} : ∀ x σ H (Q Q' : St → Hp → Prop), (∀ σ' H', Q σ' H' → Q' σ' H') → gTup K 2 (gCons (gName i) (gCons (gName j) gNil)) x σ H Q → gTup K 2 (gCons (gName i) (gCons (gName j) gNil)) x σ H Q' := by
  rintro x σ H Q Q' m ⟨a, xs, e, h1, h2, v, r, e2, v2, r2, e3, h3, h4⟩
  exact ⟨a, xs, e, h1, h2, v, r, e2, v2, r2, e3, h3, m _ _ h4⟩
/-- whole numbers as values -/
abbrev iv (xs : List Int) : List V := xs.map V.int
theorem iv_at {xs : List Int} {i : Nat} {v : V} (h : (iv xs)[i]? = some v) : ∃ n, xs[i]? = some n ∧ v = .int n := by
  rw [List.getElem?_map] at h
  cases e : xs[i]? with
  | none => rw [e] at h; cases h
  | some n => rw [e] at h; cases h; exact ⟨n, rfl, rfl⟩
theorem all_true {n : Nat} : (List.replicate n true).all id = true := by
  rw [List.all_eq_true]
  intro x hx
  rw [List.eq_of_mem_replicate hx]
  rfl

def spIsOct (K : PySem.W.Frag) : Sp := fun vs H Q _ => ∃ (a : Addr) (xs : List Int), vs = [.ref a] ∧ SqA K H a (iv xs) ∧ Oct xs ∧ xs.length < 1000000 ∧ ∀ H', Ex H H' → Q (.bl true) H'
-- slots of is_octets: 0 value, 1 item
theorem sc_is_octets : FnScope ["value", "item"] ["value"] (defScope (top 24)) := ⟨rfl, rfl, rfl, by decide +kernel, rfl, by decide +kernel, by decide +kernel⟩
theorem ok_is_octets {M : Md} (B : Bn M) (kk : Ks M) (c_is_list : M.pm "is_list" 1 ["value"] (spIsList M.K)) (c_is_integer : M.pm "is_integer" 1 ["value"] spInt) (F : Fd M "is_octets" (top 24)) : M.pm "is_octets" 2 ["value"] (spIsOct M.K) := by
  obtain ⟨tM, kMOST⟩ := kk.MOST
  refine F.ok sc_is_octets ?len (fun _ _ _ _ _ _ us hl => match us, hl with | [_], _ => rfl) (fun f cdv A outer s H vs Q E hr h => ?body)
  case len =>
    rintro _ _ _ _ ⟨_, _, rfl, _⟩
    rfl
  case body =>
    refine ⟨_, (pss_one (ps_ret (pe_and (pe_pm c_is_list (hr.mono (by decide)) rfl (pa_cons (pv 0) pa_nil)) (pe_one (pe_callB (cr_all rfl) rfl B.all (by decide +kernel) (pa_cons (pe_lc (own := [("item", 1)]) (g := (gName 1)) (tt := tYes) rfl sc_is_octets.nd (pi_or (pi_list (pv 0)) (pi_tup (pv 0))) (blkOk_by (N := ["value", "item"]) (sc := defScope (top 24)) (by decide +kernel)) (fun _ _ _ _ _ => (pg_name (i := 1) sc_is_octets.nd rfl (Or.inl rfl))) (fun _ _ _ _ _ => pts_nil) (fun _ _ _ _ _ => (pe_and (pe_pm c_is_integer (hr.mono (by decide)) rfl (pa_cons (pv 1) pa_nil)) (pe_one (pe_chain op_le op_le pe_int (pv 1) (pe_glob (v := .int 255) rfl kMOST ⟨_, rfl⟩)))))) pa_nil)))))), ?_⟩
    obtain ⟨a, xs, rfl, hs, oct, hz, q⟩ := h
    refine ⟨_, rfl, a, iv xs, rfl, hs, fun H1 e1 => ⟨true, rfl, ?_⟩⟩
    have hs1 := hs.ex e1
    have step : ∀ i x y H H' (Q : VK), (List.replicate xs.length (V.bl true))[i]? = some y → Ex H1 H → YAt (iv xs) i H x H' → (∀ H2, Ex H' H2 → Q y H2) → gName 1 x (wipe (start ["value", "item"] [.ref a]) [1]) H' fun σ2 H2 => wipe σ2 [1] = wipe (start ["value", "item"] [.ref a]) [1] ∧
        (tAndV (tPm spInt (fun _ => E0) (tCons (tVar 1) tNil)) (tChain (rI0 fun i j => .bl (decide (i ≤ j))) (rI0 fun i j => .bl (decide (i ≤ j))) (tC (.int 0)) (tVar 1) (tC (.int 255)))) σ2 H2 Q := by
      intro i x y H H' Q hy _ y2 q2
      obtain ⟨rfl, hx⟩ := y2
      obtain ⟨n, hn, rfl⟩ := iv_at hx
      have ho := oct n (List.mem_of_getElem? hn)
      have ey : y = .bl true := List.eq_of_mem_replicate (List.mem_of_getElem? hy)
      subst ey
      refine ⟨rfl, _, rfl, n, rfl, true, rfl, _, rfl, _, _, rfl, rfl, true, dT ho.1, ?_⟩
      refine ⟨_, _, rfl, rfl, ?_⟩
      show Q (.bl (decide (n ≤ 255))) _
      rw [dT ho.2]
      exact q2 _ (Ex.refl _)
    have fin : ∀ H2, Ex H1 H2 → ∀ D, H2 D = some (.lst (List.replicate xs.length (V.bl true))) → ∃ (a : Addr) (bs : List Bool), [V.ref D] = [V.ref a] ∧ SqL M.K H2 a (bs.map V.bl) ∧ Q (.bl (bs.all id)) H2 := by
      intro H2 e2 D hD
      refine ⟨D, List.replicate xs.length true, rfl, SqL.of (by rw [hD, List.map_replicate]), ?_⟩
      rw [all_true]
      exact q _ (e1.trans e2)
    rcases hs1 with hs1 | hs1
    · exact .inl ⟨_, rfl, a, rfl, ⟨_, hs1⟩, fun D hD => lc_map walk_list (List.replicate xs.length (V.bl true)) (by simp) (by simpa using hz) hD (fun H e => ex_l e hs1) (fun _ _ _ _ y => by rw [y.1]; exact Ex.refl _) step gn_mono fun H2 e2 hD2 => fin H2 e2 D hD2⟩
    · exact .inr ⟨_, rfl, a, rfl, ⟨_, hs1⟩, fun D hD => lc_map walk_tup (List.replicate xs.length (V.bl true)) (by simp) (by simpa using hz) hD (fun H e => ex_t e hs1) (fun _ _ _ _ y => by rw [y.1]; exact Ex.refl _) step gn_mono fun H2 e2 hD2 => fin H2 e2 D hD2⟩
def spCheckOct (K : PySem.W.Frag) : Sp := fun vs H Q _ => ∃ (a : Addr) (xs : List Int), vs = [.ref a] ∧ SqA K H a (iv xs) ∧ Oct xs ∧ xs.length < 1000000 ∧ ∀ H', Ex H H' → Q .non H'
-- slots of check_octets: 0 value
theorem sc_check_octets : FnScope ["value"] ["value"] (defScope (top 25)) := ⟨rfl, rfl, rfl, by decide +kernel, rfl, by decide +kernel, by decide +kernel⟩
theorem ok_check_octets {M : Md} (c_is_octets : M.pm "is_octets" 2 ["value"] (spIsOct M.K)) (F : Fd M "check_octets" (top 25)) : M.pm "check_octets" 3 ["value"] (spCheckOct M.K) := by
  refine F.ok sc_check_octets ?len (fun _ _ _ _ _ _ us hl => match us, hl with | [_], _ => rfl) (fun f cdv A outer s H vs Q E hr h => ?body)
  case len =>
    rintro _ _ _ _ ⟨_, _, rfl, _⟩
    rfl
  case body =>
    refine ⟨_, (pss_one (ps_if (pt_not (pt_val (pe_pm c_is_octets (hr.mono (by decide)) rfl (pa_cons (pv 0) pa_nil))))
        (pss_one ps_never)
        pss_nil)), ?_⟩
    obtain ⟨a, xs, rfl, hs, oct, hz, q⟩ := h
    exact ⟨_, rfl, a, xs, rfl, hs, oct, hz, fun H' e => ⟨true, rfl, q _ e⟩⟩
end L2.EG

set_option Elab.async false
set_option linter.all false
set_option maxRecDepth 100000
set_option maxHeartbeats 4000000
/-! The program's defs, part three: numbers as octets. -/
namespace L2.EG
open PySem PySem.Spec PyProof.Rows EgM
open Evl (Ex ex_l ex_t)

/-- a new list of whole numbers -/
def retL (H : Hp) (Q : VK) (xs : List Int) : Prop := ∀ (H' : Hp) (p : Addr), Ex H H' → H p = none → H' p = some (.lst (iv xs)) → Q (.ref p) H'
theorem pow_le_pow {a b : Nat} (h : a ≤ b) : (128 : Int) ^ a ≤ 128 ^ b := by
  obtain ⟨k, rfl⟩ := Nat.le.dest h
  rw [Int.pow_add]
  have h1 : (1 : Int) ≤ 128 ^ k := by
    have : (0 : Int) < 128 ^ k := Int.pow_pos (by decide)
    omega
  have h2 : (0 : Int) ≤ 128 ^ a := Int.le_of_lt (Int.pow_pos (by decide))
  have := Int.mul_le_mul_of_nonneg_left h1 h2
  omega
def spNumO : Sp := fun vs H Q _ => ∃ n : Int, vs = [.int n] ∧ 0 ≤ n ∧ n < 128 ^ 5000 ∧ retL H Q (numO n)
-- slots of number_octets: 0 count, 1 found, 2 rest
theorem sc_number_octets : FnScope ["count", "found", "rest"] ["count"] (defScope (top 26)) := ⟨rfl, rfl, rfl, by decide +kernel, rfl, by decide +kernel, by decide +kernel⟩
theorem ok_number_octets {M : Md} (B : Bn M) (kk : Ks M) (c_check_count : M.pm "check_count" 3 ["value"] spCheck) (F : Fd M "number_octets" (top 26)) : M.pm "number_octets" 4 ["count"] (spNumO) := by
  obtain ⟨tB, kBASE⟩ := kk.BASE
  refine F.ok sc_number_octets ?len (fun _ _ _ _ _ _ us hl => match us, hl with | [_], _ => rfl) (fun f cdv A outer s H vs Q E hr h => ?body)
  case len =>
    rintro _ _ _ _ ⟨_, rfl, _⟩
    rfl
  case body =>
    refine ⟨_, (pss_cons (ps_expr (pe_pm c_check_count (hr.mono (by decide)) rfl (pa_cons (pv 0) pa_nil)))
      (pss_cons (ps_par (i := 1) (j := 2) rfl sc_number_octets.nd rfl rfl (by decide) rfl rfl (pa_cons (pe_lst pa_nil) (pa_cons (pv 0) pa_nil)) (by rfl))
      (pss_cons (ps_while PassesOwn.never (pt_cmpR op_ge (pv 2) (pe_glob (v := .int 128) rfl kBASE ⟨_, rfl⟩) (nomark _))
        (pss_cons (ps_expr (pe_bm PySem.F.plainAttrs_list PySem.F.slot_list_append PySem.F.type_list_append mt_append (pv 1) (pa_cons (pe_op op_add (pe_glob (v := .int 128) rfl kBASE ⟨_, rfl⟩) (pe_op op_mod (pv 2) (pe_glob (v := .int 128) rfl kBASE ⟨_, rfl⟩))) pa_nil)))
        (pss_one (ps_set (i := 2) sc_number_octets.nd rfl (Or.inl rfl) (pe_op op_fdiv (pv 2) (pe_glob (v := .int 128) rfl kBASE ⟨_, rfl⟩))))))
      (pss_cons (ps_expr (pe_bm PySem.F.plainAttrs_list PySem.F.slot_list_append PySem.F.type_list_append mt_append (pv 1) (pa_cons (pv 2) pa_nil)))
      (pss_one (ps_ret (pv 1))))))), ?_⟩
    obtain ⟨n, rfl, h0, hz, q⟩ := h
    have lz := numO_len 4999 h0 hz
    refine ⟨_, rfl, n, rfl, h0, ?_⟩
    refine ⟨by show 0 ≤ sizeLine; decide, fun p hp => ⟨_, rfl, _, _, rfl, ?_⟩⟩
    refine ⟨fun m σ H2 => ∃ (r : Int) (acc : List Int), σ = [some (.int n), some (.ref p), some (.int r)] ∧ Ex H H2 ∧ H2 p = some (.lst (iv acc)) ∧ 0 ≤ r ∧ acc ++ numO r = numO n ∧ m = r.toNat, ⟨_, n, [], rfl, Ex.new hp, upd_same, h0, rfl, rfl⟩, ?_⟩
    rintro m σ H2 ⟨r, acc, rfl, e2, hp2, r0, eq, rfl⟩
    have la : acc.length + (numO r).length ≤ 5000 := by rw [← List.length_append, eq]; exact lz
    have lr := numO_pos r
    refine ⟨_, rfl, _, _, rfl, rfl, _, rfl, ?_⟩
    by_cases c : (128 : Int) ≤ r
    · rw [decide_eq_true c]
      refine ⟨_, fun σ' H' z => z, ?_⟩
      have lb := numO_big c
      refine ⟨_, rfl, .inl ⟨rfl, _, SqL.of hp2⟩, _, rfl, _, _, rfl, rfl, by show (0 : Int) < 128; decide, _, _, rfl, rfl, _, _, _, rfl, rfl, hp2, ?_, ?_⟩
      · rw [List.length_map]; exact szl (by omega)
      · refine ⟨_, rfl, _, _, rfl, rfl, ⟨by decide, by decide⟩, ?_⟩
        refine ⟨(r / 128).toNat, by omega, r / 128, acc ++ [128 + r % 128], rfl, e2.mut hp, ?_, by omega, ?_, rfl⟩
        · rw [upd_same, iv, iv, List.map_append]; rfl
        · rw [← eq, lb, List.append_assoc]; rfl
    · rw [decide_eq_false c]
      refine ⟨_, rfl, .inl ⟨rfl, _, SqL.of hp2⟩, _, rfl, _, _, _, rfl, rfl, hp2, ?_, ?_⟩
      · rw [List.length_map]; exact szl (by omega)
      · refine ⟨_, rfl, q _ p (e2.mut hp) hp ?_⟩
        rw [upd_same, ← eq, numO_small r0 (by omega), iv, iv, List.map_append]
        rfl
def spSgnO : Sp := fun vs H Q _ => ∃ n : Int, vs = [.int n] ∧ -(128 ^ 4000) < n ∧ n < 128 ^ 4000 ∧ retL H Q (sgnO n)
theorem zig_lt {n : Int} {k : Nat} (h1 : -(128 ^ k) < n) (h2 : n < 128 ^ k) : zig n < 128 ^ (k + 1) := by
  have e : (128 : Int) ^ (k + 1) = 128 ^ k * 128 := Int.pow_succ ..
  have h0 : (0 : Int) < 128 ^ k := Int.pow_pos (by decide)
  unfold zig
  rw [e]
  split <;> omega
-- slots of signed_octets: 0 value
theorem sc_signed_octets : FnScope ["value"] ["value"] (defScope (top 27)) := ⟨rfl, rfl, rfl, by decide +kernel, rfl, by decide +kernel, by decide +kernel⟩
theorem ok_signed_octets {M : Md} (c_is_integer : M.pm "is_integer" 1 ["value"] spInt) (c_number_octets : M.pm "number_octets" 4 ["count"] spNumO) (F : Fd M "signed_octets" (top 27)) : M.pm "signed_octets" 5 ["value"] (spSgnO) := by
  refine F.ok sc_signed_octets ?len (fun _ _ _ _ _ _ us hl => match us, hl with | [_], _ => rfl) (fun f cdv A outer s H vs Q E hr h => ?body)
  case len =>
    rintro _ _ _ _ ⟨_, rfl, _⟩
    rfl
  case body =>
    refine ⟨_, (pss_cons (ps_if (pt_not (pt_val (pe_pm c_is_integer (hr.mono (by decide)) rfl (pa_cons (pv 0) pa_nil))))
        (pss_one ps_never)
        pss_nil)
      (pss_one (ps_ret (pe_pm c_number_octets (hr.mono (by decide)) rfl (pa_cons (pe_ifExp (pt_cmpR op_ge (pv 0) pe_int (nomark _)) (pe_op op_mul pe_int (pv 0)) (pe_op op_sub (pe_op op_mul (pe_un un_neg pe_int) (pv 0)) pe_int)) pa_nil))))), ?_⟩
    obtain ⟨n, rfl, h1, h2, q⟩ := h
    refine ⟨_, rfl, n, rfl, true, rfl, ?_⟩
    refine ⟨_, rfl, _, _, rfl, rfl, _, rfl, ?_⟩
    have zl := Int.lt_of_lt_of_le (zig_lt h1 h2) (pow_le_pow (b := 5000) (by omega))
    by_cases c : (0 : Int) ≤ n
    · rw [decide_eq_true c]
      have e : zig n = 2 * n := if_pos c
      exact ⟨_, rfl, _, _, rfl, rfl, .inl ⟨by decide, by decide⟩, 2 * n, rfl, by omega, by rw [← e]; exact zl, by rw [← e]; exact q⟩
    · rw [decide_eq_false c]
      have e : zig n = -2 * n - 1 := if_neg c
      exact ⟨_, rfl, _, rfl, _, _, rfl, rfl, .inl ⟨by decide, by decide⟩, _, _, rfl, rfl, -2 * n - 1, rfl, by omega, by rw [← e]; exact zl, by rw [← e]; exact q⟩
end L2.EG

set_option Elab.async false
set_option linter.all false
set_option maxRecDepth 100000
set_option maxHeartbeats 4000000
/-! The program's defs, part four: number_at, the Reader. -/
namespace EgM
/-- the value of octets, the last first -/
def val : List Int → Int
  | [] => 0
  | o :: r => 128 * val r + o % 128
theorem rdRaw_run : ∀ (j : Nat) {l : List Int} {z : Int}, (∀ i, i < j → ∃ o, l[i]? = some o ∧ 128 ≤ o) → l[j]? = some z → 0 ≤ z → z < 128 → rdRaw l = some (val (l.take (j + 1)), j + 1, z)
  | 0, l, z, _, hz, h0, h1 => by
    match l, hz with
    | x :: r, hz =>
      have e : x = z := by simpa using hz
      subst e
      simp [rdRaw, h1, val]
      omega
  | j + 1, l, z, h, hz, h0, h1 => by
    match l, hz with
    | x :: r, hz =>
      obtain ⟨o, e, ho⟩ := h 0 (by omega)
      have e : x = o := by simpa using e
      subst e
      have ih := rdRaw_run j (l := r) (z := z) (fun i hi => by
        obtain ⟨o, e, ho⟩ := h (i + 1) (by omega)
        exact ⟨o, by simpa using e, ho⟩) (by simpa using hz) h0 h1
      unfold rdRaw
      rw [if_neg (by omega), ih]
      rfl
theorem rdRaw_all : ∀ {l : List Int}, (∀ o ∈ l, 128 ≤ o) → rdRaw l = none
  | [], _ => rfl
  | o :: r, h => by
    unfold rdRaw
    rw [if_neg (by have := h o (by simp); omega), rdRaw_all fun x hx => h x (List.mem_cons_of_mem _ hx)]
theorem val_drop {l : List Int} {k : Nat} {o : Int} (h : l[k]? = some o) : val (l.drop k) = 128 * val (l.drop (k + 1)) + o % 128 := by
  have hk : k < l.length := (List.getElem?_eq_some_iff.mp h).1
  rw [List.drop_eq_getElem_cons hk]
  have e : l[k] = o := (List.getElem?_eq_some_iff.mp h).2
  rw [e]
  rfl
end EgM
namespace L2.EG
open PySem PySem.Spec PyProof.Rows EgM
open Evl (Ex ex_l ex_t)

/-- a slice within the list -/
theorem cut_nat {xs : List V} {a b : Nat} (h : a ≤ b) (hb : b ≤ xs.length) : cutV xs (some (a : Int)) (some (b : Int)) = (xs.drop a).take (b - a) := by
  unfold cutV
  rw [HT.sIx_nat, HT.sIx_nat, Nat.min_eq_left (Nat.le_trans h hb), Nat.min_eq_left hb]
theorem iv_cut {os : List Int} {a b : Nat} : ((iv os).drop a).take b = iv ((os.drop a).take b) := by
  rw [iv, iv, List.map_take, List.map_drop]
theorem iv_get {os : List Int} {i : Nat} {o : Int} (h : os[i]? = some o) : (iv os)[i]? = some (.int o) := by
  rw [List.getElem?_map, h]
  rfl
/-- the class of an error -/
def ce (cS cM : Addr) : Er → Value
  | .short => .ref cS
  | .malf => .ref cM
/-- a test that leaves all as it is -/
def Tv (t : TT) (σ : L2.St) (H : Hp) (b : Bool) : Prop := ∀ Q : Bool → Hp → Prop, Q b H → t σ H Q
theorem Tv.and {t u : TT} {σ : L2.St} {H : Hp} {a b : Bool} (h1 : Tv t σ H a) (h2 : a = true → Tv u σ H b) : Tv (tAnd t u) σ H (a && b) := fun Q q => h1 _ (by
  cases a with
  | true => exact iteT (h2 rfl Q q)
  | false => exact iteF q)
theorem Tv.or {t u : TT} {σ : L2.St} {H : Hp} {a b : Bool} (h1 : Tv t σ H a) (h2 : a = false → Tv u σ H b) : Tv (tOr t u) σ H (a || b) := fun Q q => h1 _ (by
  cases a with
  | true => exact iteT q
  | false => exact iteF (h2 rfl Q q))
theorem Tv.not {t : TT} {σ : L2.St} {H : Hp} {a : Bool} (h1 : Tv t σ H a) : Tv (tNot t) σ H (!a) := fun Q q => h1 _ q
theorem Tv.is {t : TT} {σ : L2.St} {H : Hp} {a b : Bool} (h : Tv t σ H a) (e : a = b) : Tv t σ H b := e ▸ h
theorem nx_go {D : Ends} {σ : L2.St} {H : Hp} (h : D.nx σ H) : tNext D σ H := h
theorem seq_go {a b : TS} {D : Ends} {σ : L2.St} {H : Hp} (h : a { D with nx := b D } σ H) : tSeq a b D σ H := h
theorem if_go {c : TT} {t u : TS} {D : Ends} {σ : L2.St} {H : Hp} {b : Bool} (h : Tv c σ H b) (hb : if b = true then t D σ H else u D σ H) : tIfS c t u D σ H := h _ hb
theorem dec_int' {i j : Int} : decide (V.int i = V.int j) = decide (i = j) := by
  rw [Bool.eq_iff_iff, decide_eq_true_eq, decide_eq_true_eq]
  exact ⟨fun h => V.int.inj h, fun h => by rw [h]⟩
/-- number_at -/
def spNumAt (K : PySem.W.Frag) (cS cM : Addr) : Sp := fun vs H Q E => ∃ (a : Addr) (n : Int) (os : List Int) (at_ : Nat), vs = [.ref a, .int n] ∧ n = (at_ : Int) ∧ SqL K H a (iv os) ∧ Oct os ∧ at_ ≤ os.length ∧ os.length < 1000000 ∧
  (match num os at_ with
    | .ok (v, a') => ∀ (H' : Hp) (p : Addr), Ex H H' → H p = none → H' p = some (.tup [.int v, .int (a' : Int)]) → Q (.ref p) H'
    | .error e => ∀ H', Ex H H' → E (ce cS cM e) none H')
-- slots of number_at: 0 octets, 1 at, 2 last, 3 found, 4 octet
theorem sc_number_at : FnScope ["octets", "at", "last", "found", "octet"] ["octets", "at"] (defScope (top 28)) := ⟨rfl, rfl, rfl, by decide +kernel, rfl, by decide +kernel, by decide +kernel⟩
theorem ok_number_at {M : Md} (B : Bn M) (kk : Ks M) {cS cM : Addr} (eShort : Ec M "Short" cS) (eMalformed : Ec M "Malformed" cM) (F : Fd M "number_at" (top 28)) : M.pmx "number_at" 4 ["octets", "at"] (spNumAt M.K cS cM) := by
  obtain ⟨tB, kBASE⟩ := kk.BASE
  refine F.okX sc_number_at ?len (fun _ _ _ _ _ _ us hl => match us, hl with | [_, _], _ => rfl) (fun f cdv A outer s H vs Q E hr h => ?body)
  case len =>
    rintro _ _ _ _ ⟨_, _, _, _, rfl, _⟩
    rfl
  case body =>
    refine ⟨_, (pss_cons (ps_set (i := 2) sc_number_at.nd rfl (Or.inl rfl) (pv 1))
      (pss_cons (ps_while (passes_of rfl) (PW.pt (pw_and (pt_cmpR op_lt (pv 2) (pe_len (K := M.K) rfl B.len (pv 0)) (nomark _)) (pw_and1 (pt_cmpR op_ge (pe_ixL (K := M.K) (pv 0) (pv 2) (fun _ _ => rfl)) (pe_glob (v := .int 128) rfl kBASE ⟨_, rfl⟩) (nomark _)))))
        (pss_one (ps_aug (i := 2) sc_number_at.nd rfl (Or.inl rfl) pe_int ip_add)))
      (pss_cons (ps_if (pt_cmpR op_ge (pv 2) (pe_len (K := M.K) rfl B.len (pv 0)) (nomark _))
        (pss_one (ps_raise rfl (takes_of rfl rfl rfl rfl) (pmk_ec eShort (hr.mono (by decide)) rfl)))
        pss_nil)
      (pss_cons (ps_if (PW.pt (pw_and (pt_cmpR op_gt (pv 2) (pv 1) (nomark _)) (pw_and1 (pt_cmpR op_eq (pe_ixL (K := M.K) (pv 0) (pv 2) (fun _ _ => rfl)) pe_int (nomark _)))))
        (pss_one (ps_raise rfl (takes_of rfl rfl rfl rfl) (pmk_ec eMalformed (hr.mono (by decide)) rfl)))
        pss_nil)
      (pss_cons (ps_set (i := 3) sc_number_at.nd rfl (Or.inl rfl) pe_int)
      (pss_cons (ps_for (passes_of rfl) rfl (pi_reversed rfl B.reversed (pa_cons (pe_slL (K := M.K) (pv 0) (po_some (pv 1)) (po_some (pe_op op_add (pv 2) pe_int))) pa_nil)) (pg_name (i := 4) sc_number_at.nd rfl (Or.inl rfl))
        (pss_one (ps_set (i := 3) sc_number_at.nd rfl (Or.inl rfl) (pe_op op_add (pe_op op_mul (pe_glob (v := .int 128) rfl kBASE ⟨_, rfl⟩) (pv 3)) (pe_op op_mod (pv 4) (pe_glob (v := .int 128) rfl kBASE ⟨_, rfl⟩))))))
      (pss_one (ps_ret (pe_tup (pa_cons (pv 3) (pa_cons (pe_op op_add (pv 2) pe_int) pa_nil))))))))))), ?_⟩
    obtain ⟨a, n, os, at_, rfl, rfl, hs, oct, hat, hz, out⟩ := h
    refine ⟨_, rfl, ?_⟩
    refine ⟨fun m σ H2 => ∃ j : Nat, σ = [some (.ref a), some (.int (at_ : Int)), some (.int ((at_ + j : Nat) : Int)), none, none] ∧ H2 = H ∧ at_ + j ≤ os.length ∧ (∀ i, i < j → ∃ o, os[at_ + i]? = some o ∧ 128 ≤ o) ∧ m = os.length - j, ⟨_, 0, rfl, rfl, hat, fun i hi => by omega, rfl⟩, ?_⟩
    rintro m σ H2 ⟨j, rfl, rfl, hj, run, rfl⟩
    have dropj : ∀ i, i < j → ∃ o, (os.drop at_)[i]? = some o ∧ 128 ≤ o := fun i hi => by
      obtain ⟨o, e, ho⟩ := run i hi
      exact ⟨o, by rw [List.getElem?_drop]; exact e, ho⟩
    refine ⟨_, rfl, _, rfl, a, iv os, rfl, .inl hs, _, _, rfl, rfl, _, rfl, ?_⟩
    have el : (iv os).length = os.length := by simp
    rw [el]
    by_cases c : ((at_ + j : Nat) : Int) < (os.length : Nat)
    · rw [decide_eq_true c]
      have hlt : at_ + j < os.length := by omega
      have ho : os[at_ + j]? = some os[at_ + j] := List.getElem?_eq_getElem hlt
      have bd := oct _ (List.getElem_mem hlt)
      generalize os[at_ + j] = o at ho bd
      have ho' := iv_get ho
      refine ⟨_, rfl, _, rfl, a, iv os, _, _, rfl, rfl, hs, atI_nat ho', _, _, rfl, rfl, _, rfl, ?_⟩
      by_cases c2 : (128 : Int) ≤ o
      · rw [decide_eq_true c2]
        refine ⟨_, fun σ' H' z => z, ?_⟩
        refine ⟨_, rfl, _, _, rfl, rfl, ?_⟩
        refine ⟨os.length - (j + 1), by omega, j + 1, ?_, rfl, by omega, fun i hi => ?_, rfl⟩
        · have e : ((at_ + j : Nat) : Int) + 1 = ((at_ + (j + 1) : Nat) : Int) := by omega
          show [_, _, some (V.int (((at_ + j : Nat) : Int) + 1)), _, _] = _
          rw [e]
        · by_cases q : i = j
          · subst q
            exact ⟨o, ho, c2⟩
          · exact run i (by omega)
      · rw [decide_eq_false c2]
        -- the number's last octet stands at at_ + j
        have rr := rdRaw_run j dropj (z := o) (by rw [List.getElem?_drop]; exact ho) bd.1 (by omega)
        refine ⟨_, rfl, _, rfl, a, iv os, rfl, .inl hs, _, _, rfl, rfl, _, rfl, ?_⟩
        rw [el, decide_eq_false (by omega)]
        refine iteF (nx_go ?_)
        dsimp only
        refine seq_go (if_go (Tv.and (a := decide ((at_ : Int) < ((at_ + j : Nat) : Int))) (b := decide (o = 0)) (fun Q q => ⟨_, rfl, _, rfl, _, _, rfl, rfl, _, rfl, q⟩) fun _ Q q => ⟨_, rfl, _, rfl, a, iv os, _, _, rfl, rfl, hs, atI_nat ho', rfl, _, rfl, by rw [dec_int']; exact q⟩) ?_)
        by_cases bad : 1 < j + 1 ∧ o = 0
        · have en : num os at_ = .error .malf := by
            unfold num
            rw [rr]
            simp only
            rw [if_pos bad]
          rw [en] at out
          rw [decide_eq_true (by omega), decide_eq_true bad.2]
          exact out H2 (Ex.refl _)
        · have en : num os at_ = .ok (val ((os.drop at_).take (j + 1)), at_ + (j + 1)) := by
            unfold num
            rw [rr]
            simp only
            rw [if_neg bad]
          rw [en] at out
          have eb : (decide ((at_ : Int) < ((at_ + j : Nat) : Int)) && decide (o = 0)) = false := by
            rw [Bool.and_eq_false_iff, decide_eq_false_iff_not, decide_eq_false_iff_not]
            omega
          rw [eb]
          generalize hsl : (os.drop at_).take (j + 1) = sl at out
          have lsl : sl.length = j + 1 := by rw [← hsl, List.length_take, List.length_drop]; omega
          refine ⟨_, rfl, _, rfl, _, rfl, _, rfl, _, _, rfl, rfl, _, rfl, a, iv os, rfl, hs, fun p hp => ?_⟩
          have ecut : cutV (iv os) (some (at_ : Int)) (some (((at_ + j : Nat) : Int) + 1)) = iv sl := by
            have e : ((at_ + j : Nat) : Int) + 1 = ((at_ + (j + 1) : Nat) : Int) := by omega
            rw [e, cut_nat (by omega) (by rw [List.length_map]; omega), iv_cut, Nat.add_sub_cancel_left, hsl]
          have hp2 : (upd H2 p (.lst (cutV (iv os) (some (at_ : Int)) (some (((at_ + j : Nat) : Int) + 1))))) p = some (.lst (iv sl)) := by rw [upd_same, ecut]
          refine ⟨p, iv sl, rfl, SqL.of hp2, ?_⟩
          refine for_it walk_rev (fun i σ H' => ∃ w, σ = [some (.ref a), some (.int (at_ : Int)), some (.int ((at_ + j : Nat) : Int)), some (.int (val (sl.drop (j + 1 - i)))), w] ∧ H' = upd H2 p (.lst (cutV (iv os) (some (at_ : Int)) (some (((at_ + j : Nat) : Int) + 1))))) ⟨none, ?_, rfl⟩ (fun i σ H' _ h => by obtain ⟨_, _, rfl⟩ := h; exact SqL.of hp2) ?_ ?_
          · rw [Nat.sub_zero, List.drop_of_length_le (by omega)]
            rfl
          · rintro i x σ H3 H4 hi ⟨w, rfl, rfl⟩ ⟨rfl, hx⟩
            rw [List.length_map] at hi hx
            obtain ⟨o', ho', rfl⟩ := iv_at hx
            rw [lsl] at hi ho'
            have e1 : j + 1 - 1 - i = j + 1 - (i + 1) := by omega
            have e2 : j + 1 - (i + 1) + 1 = j + 1 - i := by omega
            rw [e1] at ho'
            have vd := val_drop ho'
            rw [e2] at vd
            refine ⟨_, rfl, _, _, rfl, rfl, .inl ⟨by decide, by decide⟩, _, rfl, _, _, rfl, rfl, by show (0 : Int) < 128; decide, _, _, rfl, rfl, ?_⟩
            refine ⟨some (.int o'), ?_, rfl⟩
            rw [vd]
            rfl
          · rintro σ H3 ⟨w, rfl, rfl⟩
            rw [List.length_map, lsl, Nat.sub_self, List.drop_zero]
            refine ⟨_, rfl, _, rfl, _, _, rfl, rfl, by show 2 ≤ sizeLine; decide, fun t ht => ?_⟩
            have e3 := Ex.new (o := .lst (cutV (iv os) (some (at_ : Int)) (some (((at_ + j : Nat) : Int) + 1)))) hp
            refine out _ t (e3.trans (Ex.new ht)) ?_ ?_
            · exact Evl.fresh_back e3 ht
            · rw [upd_same]
              rfl
    · rw [decide_eq_false c]
      have e : at_ + j = os.length := by omega
      refine ⟨_, rfl, _, rfl, a, iv os, rfl, .inl hs, _, _, rfl, rfl, _, rfl, ?_⟩
      rw [el, decide_eq_true (by omega)]
      have rn : rdRaw (os.drop at_) = none := rdRaw_all fun o ho => by
        obtain ⟨i, hi, rfl⟩ := List.getElem_of_mem ho
        rw [List.length_drop] at hi
        obtain ⟨o, e1, e2⟩ := dropj i (by omega)
        rw [List.getElem?_eq_getElem (by rw [List.length_drop]; omega)] at e1
        rw [Option.some.inj e1]
        exact e2
      have en : num os at_ = .error .short := by
        unfold num
        rw [rn]
      rw [en] at out
      exact out H2 (Ex.refl _)
end L2.EG

set_option Elab.async false
set_option linter.all false
set_option maxRecDepth 100000
set_option maxHeartbeats 4000000
/-! The program's defs, part five: the Reader. -/
namespace L2.EG
open PySem PySem.Spec PyProof.Rows EgM
open Evl (Ex ex_l ex_t)

/-- all but p stands as it stood -/
def ExB (p : Addr) (H H' : Hp) : Prop := ∀ b o, b ≠ p → H b = some o → H' b = some o
theorem ExB.refl (p : Addr) (H : Hp) : ExB p H H := fun _ _ _ h => h
theorem ExB.trans {p : Addr} {H H1 H2 : Hp} (a : ExB p H H1) (b : ExB p H1 H2) : ExB p H H2 := fun c o n h => b c o n (a c o n h)
theorem ExB.of {p : Addr} {H H' : Hp} (e : Ex H H') : ExB p H H' := fun b o _ h => e b o h
theorem ExB.mut {p q : Addr} {H H' : Hp} {o : HO} (e : ExB p H H') (h : H q = none) : ExB p H (upd H' q o) := fun b u n hb => by
  rw [upd_ne (ne_of_none hb h)]
  exact e b u n hb
theorem ExB.set {p : Addr} {H H' : Hp} {o : HO} (e : ExB p H H') : ExB p H (upd H' p o) := fun b u n hb => by
  rw [upd_ne n]
  exact e b u n hb
/-- a Reader's fields -/
abbrev rdF (l : Addr) (a : Int) : List (Str × V) := [(("octets" : Str), V.ref l), (("at" : Str), V.int a)]
/-- a Reader at p: its list at l, of the octets os; it stands at a -/
def RdA (C : Addr) (H : Hp) (p l : Addr) (os : List Int) (a : Nat) : Prop := (∃ dx, H p = some (.ins C dx (rdF l a))) ∧ H l = some (.lst (iv os))
theorem RdA.ne {C : Addr} {H : Hp} {p l : Addr} {os : List Int} {a : Nat} (h : RdA C H p l os a) : l ≠ p := fun e => by
  obtain ⟨⟨dx, h1⟩, h2⟩ := h
  rw [e, h1] at h2
  cases h2
theorem RdA.ex {C : Addr} {H H' : Hp} {p l : Addr} {os : List Int} {a : Nat} (h : RdA C H p l os a) (e : Ex H H') : RdA C H' p l os a := by
  obtain ⟨⟨dx, h1⟩, h2⟩ := h
  exact ⟨⟨dx, e _ _ h1⟩, e _ _ h2⟩
theorem RdA.lt {C : Addr} {H : Hp} {p l q : Addr} {os : List Int} {a : Nat} (h : RdA C H p l os a) (n : H q = none) : q ≠ p := fun e => by
  obtain ⟨⟨dx, h1⟩, _⟩ := h
  rw [e, h1] at n
  cases n
/-- the Reader's step to another place -/
theorem RdA.go {C : Addr} {H : Hp} {p l : Addr} {os : List Int} {a : Nat} {dx : Addr} (h : H p = some (.ins C dx (rdF l a))) (hl : H l = some (.lst (iv os))) (a' : Nat) :
    RdA C (upd H p (.ins C dx (putF "at" (.int (a' : Int)) (rdF l a)))) p l os a' := by
  have e : putF "at" (V.int (a' : Int)) (rdF l a) = rdF l a' := rfl
  refine ⟨⟨dx, by rw [upd_same, e]⟩, ?_⟩
  rw [upd_ne (RdA.ne ⟨⟨dx, h⟩, hl⟩)]
  exact hl

def spInit (K : PySem.W.Frag) (C : Addr) : Sp := fun vs H Q _ => ∃ (x a dx : Addr) (os : List Int), vs = [.ref x, .ref a] ∧ H x = some (.ins C dx []) ∧ SqA K H a (iv os) ∧ Oct os ∧ os.length < 1000000 ∧
  ∀ (H' : Hp) (l : Addr), ExB x H H' → H l = none → RdA C H' x l os 0 → Q .non H'
-- slots of Reader.__init__: 0 self, 1 octets
theorem sc_Reader___init__ : FnScope ["self", "octets"] ["self", "octets"] (defScope ((clsBody (top 29)).getD 0 (.Pass ⟨0, 0, 0, 0⟩))) := ⟨rfl, rfl, rfl, by decide +kernel, rfl, by decide +kernel, by decide +kernel⟩
theorem ok_Reader___init__ {M : Md} {C : Addr} (B : Bn M) (R : RdF M C) (c_check_octets : M.pm "check_octets" 3 ["value"] (spCheckOct M.K)) (F : Fm M C "__init__" "Reader.__init__" ((clsBody (top 29)).getD 0 (.Pass ⟨0, 0, 0, 0⟩))) : M.mt C "__init__" 4 ["self", "octets"] (spInit M.K C) := by
  refine F.ok sc_Reader___init__ ?len (fun _ _ _ _ _ _ us hl => match us, hl with | [_, _], _ => rfl) (fun f cdv A outer s H vs Q E hr h => ?body)
  case len =>
    rintro _ _ _ _ ⟨_, _, _, _, rfl, _⟩
    rfl
  case body =>
    refine ⟨_, (pss_cons (ps_expr (pe_pm c_check_octets (hr.mono (by decide)) rfl (pa_cons (pv 1) pa_nil)))
      (pss_cons (ps_fldK (K := M.K) (pv 0) (pe_callTy call_list_of rfl B.list (by decide +kernel) (pa_cons (pv 1) pa_nil)))
      (pss_one (ps_fldK (K := M.K) (pv 0) pe_int)))), ?_⟩
    obtain ⟨x, a, dx, os, rfl, hx, hs, oct, hz, q⟩ := h
    refine ⟨_, rfl, a, os, rfl, hs, oct, hz, fun H1 e1 => ?_⟩
    have hs1 := hs.ex e1
    have hx1 := e1 _ _ hx
    refine ⟨_, rfl, a, iv os, rfl, hs1, fun l hl => ?_⟩
    have nx : x ≠ l := fun e => by
      rw [e] at hx1
      rw [hx1] at hl
      cases hl
    have hx2 : (upd H1 l (.lst (iv os))) x = some (.ins C dx []) := by rw [upd_ne nx]; exact hx1
    refine ⟨_, rfl, x, C, dx, [], rfl, hx2, R.cl, R.nO, by show 0 < 1000; decide, ?_⟩
    refine ⟨_, rfl, x, C, dx, _, rfl, upd_same, R.cl, R.nA, by show 1 < 1000; decide, ?_⟩
    refine q _ l ?_ (Evl.fresh_back e1 hl) ⟨⟨dx, ?_⟩, ?_⟩
    · exact ExB.set (ExB.set ((ExB.of e1).mut (Evl.fresh_back e1 hl)))
    · rw [upd_same]
      rfl
    · rw [upd_ne nx.symm, upd_ne nx.symm, upd_same]
def spLeft (C : Addr) : Sp := fun vs H Q _ => ∃ (p l : Addr) (os : List Int) (a : Nat), vs = [.ref p] ∧ RdA C H p l os a ∧ Q (.int ((os.length : Int) - (a : Int))) H
-- slots of Reader.left: 0 self
theorem sc_Reader_left : FnScope ["self"] ["self"] (defScope ((clsBody (top 29)).getD 2 (.Pass ⟨0, 0, 0, 0⟩))) := ⟨rfl, rfl, rfl, by decide +kernel, rfl, by decide +kernel, by decide +kernel⟩
theorem ok_Reader_left {M : Md} {C : Addr} (B : Bn M) (R : RdF M C) (F : Fm M C "left" "Reader.left" ((clsBody (top 29)).getD 2 (.Pass ⟨0, 0, 0, 0⟩))) : M.mt C "left" 1 ["self"] (spLeft C) := by
  refine F.ok sc_Reader_left ?len (fun _ _ _ _ _ _ us hl => match us, hl with | [_], _ => rfl) (fun f cdv A outer s H vs Q E hr h => ?body)
  case len =>
    rintro _ _ _ _ ⟨_, _, _, _, rfl, _⟩
    rfl
  case body =>
    refine ⟨_, (pss_one (ps_ret (pe_op op_sub (pe_len (K := M.K) rfl B.len (pe_fldK (K := M.K) (pv 0))) (pe_fldK (K := M.K) (pv 0))))), ?_⟩
    obtain ⟨p, l, os, a, rfl, ⟨⟨dx, h1⟩, h2⟩, q⟩ := h
    refine ⟨_, rfl, p, C, dx, _, _, rfl, h1, R.cl, R.nO, rfl, l, iv os, rfl, .inl (SqL.of h2), ?_⟩
    refine ⟨_, rfl, p, C, dx, _, _, rfl, h1, R.cl, R.nA, rfl, _, _, rfl, rfl, ?_⟩
    rw [List.length_map]
    exact q
/-- what reading gives: x, and the Reader stands behind it; or an error, and it stands anywhere -/
def rdO {α : Type} (C cS cM p l : Addr) (os : List Int) (H : Hp) (r : Res α) (ok : α → Hp → Prop) (E : XK) : Prop := match r with
  | .ok (x, a') => ∀ H', ExB p H H' → RdA C H' p l os a' → ok x H'
  | .error e => ∀ a' H', ExB p H H' → RdA C H' p l os a' → E (ce cS cM e) none H'
def spSigned (C cS cM : Addr) : Sp := fun vs H Q E => ∃ (p l : Addr) (os : List Int) (a : Nat), vs = [.ref p] ∧ RdA C H p l os a ∧ Oct os ∧ os.length < 1000000 ∧ a ≤ os.length ∧ rdO C cS cM p l os H (sgn os a) (fun v H' => Q (.int v) H') E
def spTake (C cS cM : Addr) : Sp := fun vs H Q E => ∃ (p l : Addr) (os : List Int) (a : Nat), vs = [.ref p, .int 1] ∧ RdA C H p l os a ∧ a ≤ os.length ∧ rdO C cS cM p l os H (hd os a) (fun o H' => ∀ q, H q = none → H' q = some (.lst [.int o]) → Q (.ref q) H') E
-- slots of Reader.take: 0 self, 1 count
theorem sc_Reader_take : FnScope ["self", "count"] ["self", "count"] (defScope ((clsBody (top 29)).getD 3 (.Pass ⟨0, 0, 0, 0⟩))) := ⟨rfl, rfl, rfl, by decide +kernel, rfl, by decide +kernel, by decide +kernel⟩
theorem ok_Reader_take {M : Md} {C cS cM : Addr} (B : Bn M) (R : RdF M C) (eShort : Ec M "Short" cS) (c_check_count : M.pm "check_count" 3 ["value"] spCheck) (c_Reader_left : M.mt C "left" 1 ["self"] (spLeft C)) (F : Fm M C "take" "Reader.take" ((clsBody (top 29)).getD 3 (.Pass ⟨0, 0, 0, 0⟩))) : M.mtx C "take" 4 ["self", "count"] (spTake C cS cM) := by
  refine F.okX sc_Reader_take ?len (fun _ _ _ _ _ _ us hl => match us, hl with | [_, _], _ => rfl) (fun f cdv A outer s H vs Q E hr h => ?body)
  case len =>
    rintro _ _ _ _ ⟨_, _, _, _, rfl, _⟩
    rfl
  case body =>
    refine ⟨_, (pss_cons (ps_expr (pe_pm c_check_count (hr.mono (by decide)) rfl (pa_cons (pv 1) pa_nil)))
      (pss_cons (ps_if (pt_cmpR op_gt (pv 1) (pe_mt0 R.cl c_Reader_left (hr.mono (by decide)) (px0 (E := E0)) (pv 0)) (nomark _))
        (pss_one (ps_raise rfl (takes_of rfl rfl rfl rfl) (pmk_ec eShort (hr.mono (by decide)) rfl)))
        pss_nil)
      (pss_cons (ps_fldaug (pv 0) (pv 1) in_add)
      (pss_one (ps_ret (pe_slL (K := M.K) (pe_fldK (K := M.K) (pv 0)) (po_some (pe_op op_sub (pe_fldK (K := M.K) (pv 0)) (pv 1))) (po_some (pe_fldK (K := M.K) (pv 0))))))))), ?_⟩
    obtain ⟨p, l, os, a, rfl, rd, ha, out⟩ := h
    refine ⟨_, rfl, 1, rfl, by decide, ?_⟩
    obtain ⟨⟨dx, h1⟩, h2⟩ := id rd
    refine ⟨_, rfl, _, rfl, p, dx, _, rfl, h1, rfl, p, l, os, a, rfl, rd, _, _, rfl, rfl, _, rfl, ?_⟩
    by_cases c : (os.length : Int) - (a : Int) < 1
    · rw [decide_eq_true c]
      have e : hd os a = .error .short := by
        unfold hd
        rw [List.getElem?_eq_none (by omega)]
      rw [e] at out
      exact out a H (ExB.refl _ _) rd
    · rw [decide_eq_false c]
      have lt : a < os.length := by omega
      have ho : os[a]? = some os[a] := List.getElem?_eq_getElem lt
      generalize os[a] = o at ho
      have e : hd os a = .ok (o, a + 1) := by
        unfold hd
        rw [ho]
      rw [e] at out
      refine ⟨_, rfl, p, C, dx, _, _, rfl, h1, R.cl, R.nA, rfl, _, rfl, _, _, rfl, rfl, dx, _, h1, by show 2 < 1000; decide, ?_⟩
      have rd2 := RdA.go h1 h2 (a + 1)
      have en : ((a : Int) + 1) = ((a + 1 : Nat) : Int) := by omega
      have rdp : (upd H p (.ins C dx (putF "at" (.int ((a : Int) + 1)) (rdF l a)))) p = some (.ins C dx (rdF l ((a : Int) + 1))) := upd_same
      have rdl : SqL M.K (upd H p (.ins C dx (putF "at" (.int ((a : Int) + 1)) (rdF l a)))) l (iv os) := SqL.of (by rw [upd_ne rd.ne]; exact h2)
      refine ⟨_, rfl, p, C, dx, _, _, rfl, rdp, R.cl, R.nO, rfl, _, rfl, p, C, dx, _, _, rfl, rdp, R.cl, R.nA, rfl, _, rfl, _, _, rfl, rfl, _, rfl, _, rfl, p, C, dx, _, _, rfl, rdp, R.cl, R.nA, rfl, _, rfl, l, iv os, rfl, rdl, fun q hq => ?_⟩
      have nq : H q = none := by
        have np : q ≠ p := fun z => by
          rw [z, rdp] at hq
          cases hq
        rw [upd_ne np] at hq
        exact hq
      have e1 : ((a : Int) + 1 - 1) = ((a : Nat) : Int) := by omega
      have ec : cutV (iv os) (some ((a : Int) + 1 - 1)) (some ((a : Int) + 1)) = [.int o] := by
        rw [e1, en, cut_nat (by omega) (by rw [List.length_map]; omega), iv_cut]
        have e2 : a + 1 - a = 1 := by omega
        rw [e2, List.drop_eq_getElem_cons lt]
        have e3 : os[a] = o := (List.getElem?_eq_some_iff.mp ho).2
        rw [e3]
        rfl
      refine out _ ((ExB.set (ExB.refl _ _)).mut nq) (rd2.ex (Ex.new hq)) q nq ?_
      rw [upd_same, ec]
def spNumber (C cS cM : Addr) : Sp := fun vs H Q E => ∃ (p l : Addr) (os : List Int) (a : Nat), vs = [.ref p] ∧ RdA C H p l os a ∧ Oct os ∧ os.length < 1000000 ∧ a ≤ os.length ∧ rdO C cS cM p l os H (num os a) (fun v H' => Q (.int v) H') E
-- slots of Reader.number: 0 self, 1 found
theorem sc_Reader_number : FnScope ["self", "found"] ["self"] (defScope ((clsBody (top 29)).getD 4 (.Pass ⟨0, 0, 0, 0⟩))) := ⟨rfl, rfl, rfl, by decide +kernel, rfl, by decide +kernel, by decide +kernel⟩
theorem ok_Reader_number {M : Md} {C cS cM : Addr} (R : RdF M C) (c_number_at : M.pmx "number_at" 4 ["octets", "at"] (spNumAt M.K cS cM)) (F : Fm M C "number" "Reader.number" ((clsBody (top 29)).getD 4 (.Pass ⟨0, 0, 0, 0⟩))) : M.mtx C "number" 5 ["self"] (spNumber C cS cM) := by
  refine F.okX sc_Reader_number ?len (fun _ _ _ _ _ _ us hl => match us, hl with | [_], _ => rfl) (fun f cdv A outer s H vs Q E hr h => ?body)
  case len =>
    rintro _ _ _ _ ⟨_, _, _, _, rfl, _⟩
    rfl
  case body =>
    refine ⟨_, (pss_cons (ps_asg (pe_pmx c_number_at (hr.mono (by decide)) rfl (pxX (E := E) (takes_of rfl rfl rfl rfl)) (pa_cons (pe_fldK (K := M.K) (pv 0)) (pa_cons (pe_fldK (K := M.K) (pv 0)) pa_nil))) (pg_tup rfl (pgs_cons (pg_name (i := 1) sc_Reader_number.nd rfl (Or.inl rfl)) (pgs_cons (pg_fld (pv 0)) pgs_nil))))
      (pss_one (ps_ret (pv 1)))), ?_⟩
    obtain ⟨p, l, os, a, rfl, rd, oct, hz, ha, out⟩ := h
    obtain ⟨⟨dx, h1⟩, h2⟩ := id rd
    refine ⟨_, rfl, p, C, dx, _, _, rfl, h1, R.cl, R.nO, rfl, _, rfl, p, C, dx, _, _, rfl, h1, R.cl, R.nA, rfl, l, a, os, a, rfl, rfl, SqL.of h2, oct, ha, hz, ?_⟩
    cases e : num os a with
    | error er =>
      rw [e] at out
      exact fun H' e' => out a H' (ExB.of e') (rd.ex e')
    | ok q =>
      obtain ⟨v, a'⟩ := q
      rw [e] at out
      intro H' t e' nt ht
      have h1' := e' _ _ h1
      refine ⟨t, _, rfl, SqT.of ht, rfl, _, _, rfl, _, _, rfl, _, rfl, p, C, dx, _, rfl, h1', R.cl, R.nA, by show 2 < 1000; decide, rfl, ?_⟩
      exact ⟨_, rfl, out _ (ExB.set (ExB.of e')) (RdA.go h1' (e' _ _ h2) a')⟩
-- slots of Reader.signed: 0 self, 1 found
theorem sc_Reader_signed : FnScope ["self", "found"] ["self"] (defScope ((clsBody (top 29)).getD 5 (.Pass ⟨0, 0, 0, 0⟩))) := ⟨rfl, rfl, rfl, by decide +kernel, rfl, by decide +kernel, by decide +kernel⟩
theorem ok_Reader_signed {M : Md} {C cS cM : Addr} (R : RdF M C) (c_Reader_number : M.mtx C "number" 5 ["self"] (spNumber C cS cM)) (F : Fm M C "signed" "Reader.signed" ((clsBody (top 29)).getD 5 (.Pass ⟨0, 0, 0, 0⟩))) : M.mtx C "signed" 6 ["self"] (spSigned C cS cM) := by
  refine F.okX sc_Reader_signed ?len (fun _ _ _ _ _ _ us hl => match us, hl with | [_], _ => rfl) (fun f cdv A outer s H vs Q E hr h => ?body)
  case len =>
    rintro _ _ _ _ ⟨_, _, _, _, rfl, _⟩
    rfl
  case body =>
    refine ⟨_, (pss_cons (ps_set (i := 1) sc_Reader_signed.nd rfl (Or.inl rfl) (pe_mt0 R.cl c_Reader_number (hr.mono (by decide)) (pxX (E := E) (takes_of rfl rfl rfl rfl)) (pv 0)))
      (pss_one (ps_ret (pe_ifExp (pt_cmpR op_eq (pe_op op_mod (pv 1) pe_int) pe_int (nomark _)) (pe_op op_fdiv (pv 1) pe_int) (pe_op op_sub (pe_un un_neg (pe_op op_fdiv (pv 1) pe_int)) pe_int))))), ?_⟩
    obtain ⟨p, l, os, a, rfl, rd, oct, hz, ha, out⟩ := h
    obtain ⟨⟨dx, h1⟩, h2⟩ := id rd
    refine ⟨_, rfl, p, dx, _, rfl, h1, rfl, p, l, os, a, rfl, rd, oct, hz, ha, ?_⟩
    unfold sgn at out
    cases e : num os a with
    | error er =>
      rw [e] at out
      exact out
    | ok q =>
      obtain ⟨v, a'⟩ := q
      rw [e] at out
      intro H' e' rd'
      refine ⟨_, rfl, _, _, rfl, rfl, by show (0 : Int) < 2; decide, rfl, _, rfl, ?_⟩
      rw [dec_int']
      by_cases c : v % 2 = 0
      · rw [decide_eq_true c]
        refine ⟨_, rfl, _, _, rfl, rfl, ⟨by decide, by decide⟩, ?_⟩
        have eu : unz v = v / 2 := if_pos c
        have o : Q (.int (unz v)) H' := out H' e' rd'
        rw [eu] at o
        exact o
      · rw [decide_eq_false c]
        refine ⟨_, rfl, _, _, rfl, rfl, ⟨by decide, by decide⟩, _, rfl, _, _, rfl, rfl, ?_⟩
        have eu : unz v = -(v / 2) - 1 := if_neg c
        have o : Q (.int (unz v)) H' := out H' e' rd'
        rw [eu] at o
        exact o
end L2.EG

set_option Elab.async false
set_option linter.all false
set_option maxRecDepth 100000
set_option maxHeartbeats 4000000
/-! The program's defs, part six: ways of telling values. -/
namespace L2.EG
open PySem PySem.Spec PyProof.Rows EgM
open Evl (Ex ex_l ex_t)

/-- all of a comprehension's tests hold -/
theorem all_yes {J : It} {n : Nat} {G : Hp → Prop} {Y : Nat → Hp → V → Hp → Prop} (w : Walk J n G Y) {g : TG} {te : TE} {vs : List Nat} {σ : St} {H1 : Hp} {D : Addr} {Qd : Hp → Prop} (hz : n < 1000000) (nD : H1 D = none)
    (hG : ∀ H, Ex H1 H → G H) (hY : ∀ i H x H', Y i H x H' → Ex H H')
    (hs : ∀ i x H H' (Q : VK), i < n → Ex H1 H → Y i H x H' → (∀ H2, Ex H' H2 → Q (.bl true) H2) → g x (wipe σ vs) H' fun σ2 H2 => wipe σ2 vs = wipe σ vs ∧ te σ2 H2 Q)
    (gm : ∀ x σ H (Q Q' : St → Hp → Prop), (∀ σ' H', Q σ' H' → Q' σ' H') → g x σ H Q → g x σ H Q') (q : ∀ H, Ex H1 H → ∀ bs : List Bool, H D = some (.lst (bs.map V.bl)) → bs.all id = true → Qd H) :
    ∃ W : Nat → Nat → Hp → Prop, (∃ m, W 0 m (upd H1 D (.lst []))) ∧ ∀ i m H, W i m H →
      (J.stop i H ∧ Qd H) ∨ (J.go i H ∧ ∃ Nx : Hp → Prop, (∀ H', Nx H' → ∃ m', m' < m ∧ W (i + 1) m' H') ∧ ∀ x H', J.yld i H x H' → g x (wipe σ vs) H' fun σ2 H2 => wipe σ2 vs = wipe σ vs ∧ tYes σ2 H2 fun b H3 =>
        if b = true then te σ2 H3 fun y H4 => ∃ acc, H4 D = some (.lst acc) ∧ acc.length < sizeLine ∧ Nx (upd H4 D (.lst (acc ++ [y]))) else Nx H3) :=
  lc_map w (List.replicate n (V.bl true)) (by simp) hz nD hG hY (fun i x y H H' Q hy e h q2 => by
    have hi : i < n := by
      have := (List.getElem?_eq_some_iff.mp hy).1
      simpa using this
    have ey : y = .bl true := List.eq_of_mem_replicate (List.mem_of_getElem? hy)
    subst ey
    exact hs i x H H' Q hi e h q2) gm fun H e hD => q H e (List.replicate n true) (by rw [hD, List.map_replicate]) all_true
theorem yat_ex {xs : List V} : ∀ i H x H', YAt xs i H x H' → Ex H H' := fun _ _ _ _ y => by rw [y.1]; exact Ex.refl _
theorem yfn_ex {f : Nat → V} : ∀ i H x H', YFn f i H x H' → Ex H H' := fun _ _ _ _ y => by rw [y.1]; exact Ex.refl _
theorem ypair_ex {f g : Nat → Option V} : ∀ i H x H', YPair f g i H x H' → Ex H H' := fun _ _ _ _ y => by
  obtain ⟨T, a, b, _, h, rfl, _⟩ := y
  exact Ex.new h
/-- values of a moderate size, not too many -/
structure Sm (xs : List Int) : Prop where
  few : xs.length ≤ 1000
  lo : ∀ x ∈ xs, -(128 ^ 50) < x
  hi : ∀ x ∈ xs, x < 128 ^ 50
theorem p50 : (128 : Int) ^ 51 = 128 ^ 50 * 128 := Int.pow_succ ..
theorem Sm.diffs {xs : List Int} (h : Sm xs) : (diffs xs).length = xs.length ∧ ∀ x ∈ diffs xs, -(128 ^ 51) < x ∧ x < 128 ^ 51 := by
  refine ⟨by unfold EgM.diffs; simp, fun x hx => ?_⟩
  unfold EgM.diffs at hx
  obtain ⟨k, hk, rfl⟩ := List.mem_map.mp hx
  have hk := List.mem_range.mp hk
  have m1 := getD_mem (l := xs) (k := k) hk
  have m2 := getD_mem (l := xs) (k := k - 1) (by omega)
  have m3 := getD_mem (l := xs) (k := 0) (by omega)
  have a1 := h.lo _ m1
  have a2 := h.hi _ m1
  have b1 := h.lo _ m2
  have b2 := h.hi _ m2
  have c1 := h.lo _ m3
  have c2 := h.hi _ m3
  have p0 : (0 : Int) < 128 ^ 50 := Int.pow_pos (by decide)
  have := p50
  unfold dO
  split <;> omega
theorem sgn_len {x : Int} {k : Nat} (h1 : -(128 ^ k) < x) (h2 : x < 128 ^ k) : (sgnO x).length ≤ k + 1 := numO_len k (zig_nn x) (zig_lt h1 h2)

/-- a list of whole numbers, not changed: nothing else happens -/
def spCkV (K : PySem.W.Frag) : Sp := fun vs H Q _ => ∃ (a : Addr) (xs : List Int), vs = [.ref a] ∧ SqL K H a (iv xs) ∧ xs.length < 1000000 ∧ ∀ H', Ex H H' → Q .non H'
-- slots of check_values: 0 values, 1 value
theorem sc_check_values : FnScope ["values", "value"] ["values"] (defScope (top 32)) := ⟨rfl, rfl, rfl, by decide +kernel, rfl, by decide +kernel, by decide +kernel⟩
theorem ok_check_values {M : Md} (B : Bn M) (c_is_list : M.pm "is_list" 1 ["value"] (spIsList M.K)) (c_is_value : M.pm "is_value" 2 ["value"] spInt) (F : Fd M "check_values" (top 32)) : M.pm "check_values" 3 ["values"] (spCkV M.K) := by
  refine F.ok sc_check_values ?len (fun _ _ _ _ _ _ us hl => match us, hl with | [_], _ => rfl) (fun f cdv A outer s H vs Q E hr h => ?body)
  case len =>
    rintro _ _ _ _ ⟨_, _, rfl, _⟩
    rfl
  case body =>
    refine ⟨_, (pss_one (ps_if (PW.pt (pw_or (pt_not (pt_val (pe_pm c_is_list (hr.mono (by decide)) rfl (pa_cons (pv 0) pa_nil)))) (pw_or1 (pt_not (pt_val (pe_callB (cr_all rfl) rfl B.all (by decide +kernel) (pa_cons (pe_lc (own := [("value", 1)]) (g := (gName 1)) (tt := tYes) rfl sc_check_values.nd (pi_list (pv 0)) (blkOk_by (N := ["values", "value"]) (sc := defScope (top 32)) (by decide +kernel)) (fun _ _ _ _ _ => (pg_name (i := 1) sc_check_values.nd rfl (Or.inl rfl))) (fun _ _ _ _ _ => pts_nil) (fun _ _ _ _ _ => (pe_pm c_is_value (hr.mono (by decide)) rfl (pa_cons (pv 1) pa_nil)))) pa_nil)))))))
        (pss_one ps_never)
        pss_nil)), ?_⟩
    obtain ⟨a, xs, rfl, hs, hz, q⟩ := h
    refine ⟨_, rfl, a, iv xs, rfl, .inl hs, fun H1 e1 => ⟨true, rfl, ?_⟩⟩
    have hs1 := ex_l e1 hs
    refine ⟨_, rfl, a, rfl, ⟨_, hs1⟩, fun D hD => all_yes walk_list (by simpa using hz) hD (fun H e => ex_l e hs1) yat_ex (fun i x H H' Q hi _ y q2 => ?_) gn_mono fun H2 e2 bs hb hall => ?_⟩
    · obtain ⟨rfl, hx⟩ := y
      obtain ⟨n, hn, rfl⟩ := iv_at hx
      exact ⟨rfl, _, rfl, n, rfl, q2 _ (Ex.refl _)⟩
    · refine ⟨D, bs, rfl, SqL.of hb, ?_⟩
      rw [hall]
      exact ⟨true, rfl, q _ (e1.trans e2)⟩
/-- from a list of whole numbers a new one -/
def spMapL (K : PySem.W.Frag) (f : List Int → List Int) : Sp := fun vs H Q _ => ∃ (a : Addr) (xs : List Int), vs = [.ref a] ∧ SqL K H a (iv xs) ∧ Sm xs ∧ retL H Q (f xs)
-- slots of differences: 0 values*, 1 at, 2 value
theorem sc_differences : FnScope ["values", "at", "value"] ["values"] (defScope (top 33)) := ⟨rfl, rfl, rfl, by decide +kernel, rfl, by decide +kernel, by decide +kernel⟩
theorem ok_differences {M : Md} (B : Bn M) (F : Fd M "differences" (top 33)) : M.pm "differences" 1 ["values"] (spMapL M.K diffs) := by
  refine F.ok sc_differences ?len (fun _ _ _ _ _ _ us hl => match us, hl with | [_], _ => rfl) (fun f cdv A outer s H vs Q E hr h => ?body)
  case len =>
    rintro _ _ _ _ ⟨_, _, rfl, _⟩
    rfl
  case body =>
    refine ⟨_, (pss_one (ps_ret (pe_lc (own := [("at", 1), ("value", 2)]) (g := (gTup M.K 2 (gCons (gName 1) (gCons (gName 2) gNil)))) (tt := tYes) rfl sc_differences.nd (pi_enum rfl B.enumerate (pa_cons (pv 0) pa_nil)) (blkOk_by (N := ["values", "at", "value"]) (sc := defScope (top 33)) (by decide +kernel)) (fun _ _ _ _ _ => (pg_tup rfl (pgs_cons (pg_name (i := 1) sc_differences.nd rfl (Or.inl rfl)) (pgs_cons (pg_name (i := 2) sc_differences.nd rfl (Or.inl rfl)) pgs_nil)))) (fun _ _ _ _ _ => pts_nil) (fun _ _ _ _ _ => (pe_ifExp (pt_cmpR op_eq (pv 1) pe_int (nomark _)) (pv 2) (pe_op op_sub (pv 2) (pe_ixL (K := M.K) (pv 0) (pe_op op_sub (pv 1) pe_int) (fun _ _ => rfl)))))))), ?_⟩
    obtain ⟨a, xs, rfl, hs, sm, q⟩ := h
    refine ⟨_, rfl, a, iv xs, rfl, hs, fun D hD => lc_map walk_enum (iv (diffs xs)) (by simp [diffs]) (by have := sm.few; simp; omega) hD (fun H e => ex_l e hs) ypair_ex (fun i x y H1 H' Q hy e1 y2 q2 => ?_) gn_mono2 fun H2 e2 h2 => q _ D e2 hD h2⟩
    obtain ⟨T, u, v, rfl, hT, rfl, hu, hv⟩ := y2
    cases hu
    obtain ⟨n, hn, rfl⟩ := iv_at hv
    obtain ⟨d, hd, rfl⟩ := iv_at hy
    have hs2 := ex_l (e1.trans (Ex.new (o := .tup [.int (i : Nat), .int n]) hT)) hs
    have gD : xs.getD i 0 = n := by rw [List.getD_eq_getElem?_getD, hn]; rfl
    have hil : i < xs.length := (List.getElem?_eq_some_iff.mp hn).1
    have ed : d = dO xs i := by
      unfold diffs at hd
      rw [List.getElem?_map, List.getElem?_range hil] at hd
      exact (Option.some.inj hd).symm
    refine ⟨T, _, rfl, SqT.of upd_same, rfl, _, _, rfl, _, _, rfl, rfl, rfl, ?_⟩
    refine ⟨_, rfl, rfl, _, rfl, ?_⟩
    rw [dec_int']
    by_cases c : ((i : Nat) : Int) = 0
    · rw [decide_eq_true c]
      have e0 : i = 0 := by omega
      refine ⟨_, rfl, ?_⟩
      have en : d = n := by rw [ed, dO, if_pos e0, ← gD, e0]
      rw [en] at q2
      exact q2 _ (Ex.refl _)
    · rw [decide_eq_false c]
      have en : d = n - xs.getD (i - 1) 0 := by rw [ed, dO, if_neg (by omega), gD]
      have hp : xs[i - 1]? = some (xs.getD (i - 1) 0) := by
        rw [List.getD_eq_getElem?_getD, List.getElem?_eq_getElem (by omega)]
        rfl
      have ei : ((i : Nat) : Int) - 1 = ((i - 1 : Nat) : Int) := by omega
      refine ⟨_, rfl, _, rfl, _, rfl, _, _, rfl, rfl, a, iv xs, _, _, rfl, rfl, hs2, by rw [ei]; exact atI_nat (iv_get hp), _, _, rfl, rfl, ?_⟩
      rw [en] at q2
      exact q2 _ (Ex.refl _)
def spPlain (K : PySem.W.Frag) : Sp := fun vs H Q _ => ∃ (a : Addr) (xs : List Int), vs = [.ref a] ∧ SqL K H a (iv xs) ∧ xs.length ≤ 1000 ∧ (∀ x ∈ xs, -(128 ^ 51) < x ∧ x < 128 ^ 51) ∧ retL H Q (xs.flatMap sgnO)
-- slots of by_plain: 0 values, 1 found, 2 value
theorem sc_by_plain : FnScope ["values", "found", "value"] ["values"] (defScope (top 35)) := ⟨rfl, rfl, rfl, by decide +kernel, rfl, by decide +kernel, by decide +kernel⟩
theorem ok_by_plain {M : Md} (c_signed_octets : M.pm "signed_octets" 5 ["value"] spSgnO) (F : Fd M "by_plain" (top 35)) : M.pm "by_plain" 6 ["values"] (spPlain M.K) := by
  refine F.ok sc_by_plain ?len (fun _ _ _ _ _ _ us hl => match us, hl with | [_], _ => rfl) (fun f cdv A outer s H vs Q E hr h => ?body)
  case len =>
    rintro _ _ _ _ ⟨_, _, rfl, _⟩
    rfl
  case body =>
    refine ⟨_, (pss_cons (ps_set (i := 1) sc_by_plain.nd rfl (Or.inl rfl) (pe_lst pa_nil))
      (pss_cons (ps_for PassesOwn.never rfl (pi_list (pv 0)) (pg_name (i := 2) sc_by_plain.nd rfl (Or.inl rfl))
        (pss_one (ps_expr (pe_bm PySem.F.plainAttrs_list PySem.F.slot_list_extend PySem.F.type_list_extend mt_extend (pv 1) (pa_cons (pe_pm c_signed_octets (hr.mono (by decide)) rfl (pa_cons (pv 2) pa_nil)) pa_nil)))))
      (pss_one (ps_ret (pv 1))))), ?_⟩
    obtain ⟨a, xs, rfl, hs, few, bd, q⟩ := h
    refine ⟨by show 0 ≤ sizeLine; decide, fun p hp => ?_⟩
    have e0 := Ex.new (o := .lst []) hp
    refine ⟨_, rfl, a, rfl, ⟨_, ex_l e0 hs⟩, ?_⟩
    refine for_it walk_list (fun i σ H' => ∃ w, σ = [some (.ref a), some (.ref p), w] ∧ Ex H H' ∧ H' p = some (.lst (iv ((xs.take i).flatMap sgnO)))) ⟨none, rfl, e0, upd_same⟩ (fun i σ H' _ h => by obtain ⟨_, _, e, _⟩ := h; exact ex_l e hs) ?_ ?_
    · rintro i x σ H3 H4 hi ⟨w, rfl, e3, h3⟩ ⟨rfl, hx⟩
      obtain ⟨n, hn, rfl⟩ := iv_at hx
      have b := bd n (List.mem_of_getElem? hn)
      refine ⟨_, rfl, .inl ⟨rfl, _, SqL.of h3⟩, _, rfl, n, rfl, Int.lt_of_le_of_lt (Int.neg_le_neg (pow_le_pow (b := 4000) (by omega))) b.1, Int.lt_of_lt_of_le b.2 (pow_le_pow (by omega)), fun H5 r e5 nr hr => ?_⟩
      have lt := flat_len (l := xs.take i) (f := sgnO) (b := 52) (fun x hx => by have := bd x (List.mem_of_mem_take hx); exact sgn_len this.1 this.2)
      have ll := sgn_len b.1 b.2
      refine ⟨_, _, _, _, rfl, rfl, e5 _ _ h3, hr, ?_, ?_⟩
      · rw [List.length_map, List.length_map]
        rw [List.length_take] at lt
        exact sz (by omega)
      · refine ⟨some (.int n), rfl, (e3.trans e5).mut hp, ?_⟩
        rw [upd_same, List.take_add_one, hn]
        simp [iv]
    · rintro σ H3 ⟨w, rfl, e3, h3⟩
      rw [List.length_map, List.take_of_length_le (Nat.le_refl _)] at h3
      exact ⟨_, rfl, q _ p e3 hp h3⟩
end L2.EG

set_option Elab.async false
set_option linter.all false
set_option maxRecDepth 100000
set_option maxHeartbeats 4000000
/-! The program's defs, part seven: runs. -/
namespace EgM
theorem rstep_snoc (rs : List (Int × Int)) (u m v : Int) : rstep (rs ++ [(u, m)]) v = if u = v then rs ++ [(u, m + 1)] else (rs ++ [(u, m)]) ++ [(v, 1)] := by
  unfold rstep
  rw [List.getLast?_concat, List.dropLast_concat]
theorem runs_snoc (l : List Int) (v : Int) : runsL (l ++ [v]) = rstep (runsL l) v := by
  unfold runsL
  rw [List.foldl_append]
  rfl
theorem snoc_cases {α : Type} (l : List α) : l = [] ∨ ∃ r x, l = r ++ [x] := by
  by_cases h : l = []
  · exact .inl h
  · exact .inr ⟨l.dropLast, l.getLast h, (List.dropLast_concat_getLast h).symm⟩
theorem runs_facts (xs : List Int) : (runsL xs).length ≤ xs.length ∧ ∀ r ∈ runsL xs, r.1 ∈ xs ∧ 1 ≤ r.2 ∧ r.2 ≤ xs.length := by
  have h : ∀ n, ∀ l : List Int, l.length = n → (runsL l).length ≤ l.length ∧ ∀ r ∈ runsL l, r.1 ∈ l ∧ 1 ≤ r.2 ∧ r.2 ≤ l.length := by
    intro n
    induction n with
    | zero =>
      intro l hl
      rw [List.length_eq_zero_iff.mp hl]
      simp [runsL]
    | succ n ih =>
      intro l hl
      rcases snoc_cases l with rfl | ⟨r, v, rfl⟩
      · simp at hl
      · have hr : r.length = n := by simpa using hl
        obtain ⟨i1, i2⟩ := ih r hr
        rw [runs_snoc]
        rcases snoc_cases (runsL r) with e | ⟨q, ⟨u, m⟩, e⟩
        · rw [e]
          unfold rstep
          simp
          omega
        · rw [e] at i1 i2 ⊢
          have iu := i2 (u, m) (by simp)
          rw [rstep_snoc]
          split
          · next c =>
            refine ⟨by simp at i1 ⊢; omega, fun x hx => ?_⟩
            rcases List.mem_append.mp hx with y | y
            · have := i2 x (List.mem_append_left _ y)
              exact ⟨List.mem_append_left _ this.1, this.2.1, by simp; omega⟩
            · rw [List.mem_singleton.mp y]
              exact ⟨List.mem_append_left _ iu.1, by simp; omega, by simp; omega⟩
          · refine ⟨by simp at i1 ⊢; omega, fun x hx => ?_⟩
            rcases List.mem_append.mp hx with y | y
            · have := i2 x y
              exact ⟨List.mem_append_left _ this.1, this.2.1, by simp; omega⟩
            · rw [List.mem_singleton.mp y]
              exact ⟨by simp, by simp, by simp; omega⟩
  exact h _ xs rfl
end EgM
namespace L2.EG
open PySem PySem.Spec PyProof.Rows EgM
open Evl (Ex ex_l ex_t)

/-- new tuples of two whole numbers -/
def TupL (H : Hp) (ts : List V) (rs : List (Int × Int)) : Prop := Paired (fun v r => ∃ q, v = V.ref q ∧ H q = some (.tup [.int r.1, .int r.2])) ts rs
theorem TupL.ex {H H' : Hp} {ts : List V} {rs : List (Int × Int)} (h : TupL H ts rs) (e : Ex H H') : TupL H' ts rs := h.mono fun _ _ ⟨q, a, b⟩ => ⟨q, a, e _ _ b⟩
theorem TupL.mut {H : Hp} {p : Addr} {xs : List V} {o : HO} {ts : List V} {rs : List (Int × Int)} (h : TupL H ts rs) (hp : H p = some (.lst xs)) : TupL (upd H p o) ts rs := h.mono fun _ _ ⟨q, a, b⟩ => ⟨q, a, by
  rw [upd_ne fun e => by rw [e, hp] at b; cases b]
  exact b⟩
theorem TupL.snoc_inv {H : Hp} : ∀ {ts : List V} {rs : List (Int × Int)} {u m : Int}, TupL H ts (rs ++ [(u, m)]) → ∃ ts' q, ts = ts' ++ [.ref q] ∧ H q = some (.tup [.int u, .int m]) ∧ TupL H ts' rs
  | _, [], u, m, .cons ⟨q, e, h⟩ .nil => ⟨[], q, by rw [e]; rfl, h, .nil⟩
  | _, _ :: rs, u, m, .cons h r => by
    obtain ⟨ts', q, e, h2, h3⟩ := TupL.snoc_inv (rs := rs) r
    exact ⟨_ :: ts', q, by rw [e]; rfl, h2, .cons h h3⟩
theorem TupL.nil_inv {H : Hp} {ts : List V} (h : TupL H ts []) : ts = [] := by
  cases h
  rfl
theorem TupL.at {H : Hp} : ∀ {ts : List V} {rs : List (Int × Int)} {i : Nat} {x : V}, TupL H ts rs → ts[i]? = some x → ∃ q r, rs[i]? = some r ∧ x = .ref q ∧ H q = some (.tup [.int r.1, .int r.2])
  | _, _, _, _, .nil, e => by cases e
  | _, _, 0, _, .cons ⟨q, a, b⟩ _, e => by cases e; exact ⟨q, _, rfl, a, b⟩
  | _, _, i + 1, _, .cons _ t, e => TupL.at (i := i) t e
/-- the data of such lists -/
def dI (xs : List Int) : PyData := .list (xs.map .int)
def dP (rs : List (Int × Int)) : PyData := .list (rs.map fun r => .tuple [.int r.1, .int r.2])
theorem Dp.ints {K : PySem.W.Frag} {H : Hp} {a : Addr} {xs : List Int} (h : SqL K H a (iv xs)) : Dp K H (.ref a) (dI xs) := by
  refine .lst h ?_
  clear h
  induction xs with
  | nil => exact .nil
  | cons x r ih => exact .cons (.int x) ih
theorem Dp.pairs {K : PySem.W.Frag} {H : Hp} {a : Addr} {ts : List V} {rs : List (Int × Int)} (h : SqL K H a ts) (t : TupL H ts rs) : Dp K H (.ref a) (dP rs) := by
  refine .lst h ?_
  clear h
  induction t with
  | nil => exact .nil
  | cons e _ ih =>
    obtain ⟨q, rfl, hq⟩ := e
    exact .cons (.tup (SqT.of hq) (.cons (.int _) (.cons (.int _) .nil))) ih
theorem shaped_ints (xs : List Int) : SeqAt.shaped (dI xs) = true := by
  have h : ∀ l : List Int, PyData.canLayAll0 (l.map .int) = true ∧ PyData.depthAll (l.map .int) = 0 := by
    intro l
    induction l with
    | nil => exact ⟨rfl, rfl⟩
    | cons x r ih => exact ⟨by rw [List.map_cons, PyData.canLayAll0, ih.1]; rfl, by rw [List.map_cons, PyData.depthAll, ih.2]; rfl⟩
  unfold SeqAt.shaped dI
  rw [PyData.canLay0, PyData.depth, (h xs).1, (h xs).2]
  rfl
theorem shaped_pairs (rs : List (Int × Int)) : SeqAt.shaped (dP rs) = true := by
  have h : ∀ l : List (Int × Int), PyData.canLayAll0 (l.map fun r => .tuple [.int r.1, .int r.2]) = true ∧ PyData.depthAll (l.map fun r => .tuple [.int r.1, .int r.2]) ≤ 1 := by
    intro l
    induction l with
    | nil => exact ⟨rfl, Nat.zero_le _⟩
    | cons x r ih =>
      refine ⟨by rw [List.map_cons, PyData.canLayAll0, ih.1]; rfl, ?_⟩
      rw [List.map_cons, PyData.depthAll]
      have e : PyData.depth (.tuple [.int x.1, .int x.2]) = 1 := rfl
      rw [e]
      exact Nat.max_le.mpr ⟨Nat.le_refl _, ih.2⟩
  unfold SeqAt.shaped dP
  rw [PyData.canLay0, PyData.depth, (h rs).1]
  have := (h rs).2
  simp
  omega
theorem eqv_ints : ∀ (xs ys : List Int), PyData.eqv (dI xs) (dI ys) = decide (xs = ys) := by
  have h : ∀ (xs ys : List Int), PyData.eqvAll (xs.map .int) (ys.map .int) = decide (xs = ys) := by
    intro xs
    induction xs with
    | nil =>
      intro ys
      cases ys with
      | nil => rfl
      | cons y r => rfl
    | cons x r ih =>
      intro ys
      cases ys with
      | nil => rfl
      | cons y r' =>
        rw [List.map_cons, List.map_cons, PyData.eqvAll, ih r', PyData.eqv]
        rw [Bool.eq_iff_iff]
        simp
  exact fun xs ys => h xs ys
theorem eqv_pairs_nil (rs : List (Int × Int)) : PyData.eqv (dP rs) (dI []) = decide (rs = []) := by
  cases rs with
  | nil => rfl
  | cons r l => rfl
/-- a new list of new pairs -/
def retP (H : Hp) (Q : VK) (rs : List (Int × Int)) : Prop := ∀ (H' : Hp) (p : Addr) (ts : List V), Ex H H' → H p = none → H' p = some (.lst ts) → TupL H' ts rs → Q (.ref p) H'
def spRuns (K : PySem.W.Frag) : Sp := fun vs H Q _ => ∃ (a : Addr) (xs : List Int), vs = [.ref a] ∧ SqL K H a (iv xs) ∧ xs.length ≤ 1000 ∧ retP H Q (runsL xs)
theorem ixN_last (n : Nat) : ixN (n + 1) (-1) = some n := by
  unfold ixN
  rw [if_neg (by decide), if_pos (by omega)]
  congr 1
  omega
theorem atI_end {ts : List V} {v : V} : atI (ts ++ [v]) (-1) = some v := atI_last ts v
-- slots of by_differences: 0 values
theorem sc_by_differences : FnScope ["values"] ["values"] (defScope (top 36)) := ⟨rfl, rfl, rfl, by decide +kernel, rfl, by decide +kernel, by decide +kernel⟩
theorem ok_by_differences {M : Md} (c_differences : M.pm "differences" 1 ["values"] (spMapL M.K diffs)) (c_by_plain : M.pm "by_plain" 6 ["values"] (spPlain M.K)) (F : Fd M "by_differences" (top 36)) : M.pm "by_differences" 7 ["values"] (spMapL M.K (fun xs => (diffs xs).flatMap sgnO)) := by
  refine F.ok sc_by_differences ?len (fun _ _ _ _ _ _ us hl => match us, hl with | [_], _ => rfl) (fun f cdv A outer s H vs Q E hr h => ?body)
  case len =>
    rintro _ _ _ _ ⟨_, _, rfl, _⟩
    rfl
  case body =>
    refine ⟨_, (pss_one (ps_ret (pe_pm c_by_plain (hr.mono (by decide)) rfl (pa_cons (pe_pm c_differences (hr.mono (by decide)) rfl (pa_cons (pv 0) pa_nil)) pa_nil)))), ?_⟩
    obtain ⟨a, xs, rfl, hs, sm, q⟩ := h
    refine ⟨_, rfl, a, xs, rfl, hs, sm, fun H1 d e1 nd hd => ?_⟩
    obtain ⟨d1, d2⟩ := sm.diffs
    exact ⟨d, diffs xs, rfl, SqL.of hd, by rw [d1]; exact sm.few, d2, fun H2 p e2 np hp => q H2 p (e1.trans e2) (Evl.fresh_back e1 np) hp⟩
-- slots of runs: 0 values, 1 found, 2 value
theorem sc_runs : FnScope ["values", "found", "value"] ["values"] (defScope (top 34)) := ⟨rfl, rfl, rfl, by decide +kernel, rfl, by decide +kernel, by decide +kernel⟩
theorem ok_runs {M : Md}  (F : Fd M "runs" (top 34)) : M.pm "runs" 1 ["values"] (spRuns M.K) := by
  refine F.ok sc_runs ?len (fun _ _ _ _ _ _ us hl => match us, hl with | [_], _ => rfl) (fun f cdv A outer s H vs Q E hr h => ?body)
  case len =>
    rintro _ _ _ _ ⟨_, _, rfl, _⟩
    rfl
  case body =>
    refine ⟨_, (pss_cons (ps_set (i := 1) sc_runs.nd rfl (Or.inl rfl) (pe_lst pa_nil))
      (pss_cons (ps_for PassesOwn.never rfl (pi_list (pv 0)) (pg_name (i := 2) sc_runs.nd rfl (Or.inl rfl))
        (pss_one (ps_if (PW.pt (pw_and (pt_cmpR (or_neD (K := M.K) hr.units) (pv 1) (pe_lst pa_nil) (nomark _)) (pw_and1 (pt_cmpR op_eq (pe_ixT (K := M.K) (pe_ixL (K := M.K) (pv 1) (pe_un un_neg pe_int) (fun _ _ => rfl)) pe_int (fun _ _ => rfl)) (pv 2) (nomark _)))))
          (pss_one (ps_asg (pe_tup (pa_cons (pv 2) (pa_cons (pe_op op_add (pe_ixT (K := M.K) (pe_ixL (K := M.K) (pv 1) (pe_un un_neg pe_int) (fun _ _ => rfl)) pe_int (fun _ _ => rfl)) pe_int) pa_nil))) (pg_sub (pv 1) (pe_un un_neg pe_int) set_list)))
          (pss_one (ps_expr (pe_bm PySem.F.plainAttrs_list PySem.F.slot_list_append PySem.F.type_list_append mt_append (pv 1) (pa_cons (pe_tup (pa_cons (pv 2) (pa_cons pe_int pa_nil))) pa_nil)))))))
      (pss_one (ps_ret (pv 1))))), ?_⟩
    obtain ⟨a, xs, rfl, hs, few, q⟩ := h
    refine ⟨by show 0 ≤ sizeLine; decide, fun p hp => ?_⟩
    have e0 := Ex.new (o := .lst []) hp
    refine ⟨_, rfl, a, rfl, ⟨_, ex_l e0 hs⟩, ?_⟩
    refine for_it walk_list (fun i σ H' => ∃ w ts, σ = [some (.ref a), some (.ref p), w] ∧ Ex H H' ∧ H' p = some (.lst ts) ∧ TupL H' ts (runsL (xs.take i))) ⟨none, [], rfl, e0, upd_same, .nil⟩ (fun i σ H' _ h => by obtain ⟨_, _, _, e, _⟩ := h; exact ex_l e hs) ?_ ?_
    · rintro i x σ H3 H4 hi ⟨w, ts, rfl, e3, h3, tl⟩ ⟨rfl, hx⟩
      obtain ⟨n, hn, rfl⟩ := iv_at hx
      have lt : (runsL (xs.take i)).length ≤ i := Nat.le_trans (runs_facts _).1 (by rw [List.length_take]; exact Nat.min_le_left _ _)
      have hil : i < xs.length := (List.getElem?_eq_some_iff.mp hn).1
      have etk : runsL (xs.take (i + 1)) = rstep (runsL (xs.take i)) n := by
        rw [List.take_add_one, hn]
        exact runs_snoc _ _
      rw [etk]
      generalize runsL (xs.take i) = rs at tl lt
      have lts : ts.length = rs.length := tl.length
      refine ⟨_, rfl, by show 0 ≤ sizeLine; decide, fun z nz => ?_⟩
      have ez := Ex.new (o := .lst []) nz
      refine ⟨dP rs, dI [], Dp.pairs (SqL.of (ez _ _ h3)) (tl.ex ez), Dp.ints (xs := []) (SqL.of upd_same), shaped_pairs rs, rfl, _, rfl, ?_⟩
      rw [eqv_pairs_nil]
      have h3z := ez _ _ h3
      rcases snoc_cases rs with rfl | ⟨rs', ⟨u, m⟩, rfl⟩
      · -- nothing found so far
        have ets := tl.nil_inv
        subst ets
        refine ⟨_, rfl, .inl ⟨rfl, _, SqL.of h3z⟩, _, rfl, by show 2 ≤ sizeLine; decide, fun t nt => ?_⟩
        have et := ez.trans (Ex.new (o := .tup [.int n, .int 1]) nt)
        refine ⟨p, [], _, rfl, rfl, et _ _ h3, by decide, ?_⟩
        refine ⟨some (.int n), [.ref t], rfl, (e3.trans et).mut hp, by rw [upd_same]; rfl, ?_⟩
        exact TupL.mut (.cons ⟨t, rfl, upd_same⟩ .nil) (et _ _ h3)
      · obtain ⟨ts', q', rfl, hq, tl'⟩ := tl.snoc_inv
        have hqz := ez _ _ hq
        rw [decide_eq_false (by simp)]
        refine ⟨_, rfl, _, rfl, p, _, _, _, rfl, rfl, SqL.of h3z, atI_end, q', _, _, _, rfl, rfl, SqT.of hqz, rfl, _, rfl, rfl, _, rfl, ?_⟩
        rw [dec_int', rstep_snoc]
        have lts' : ts'.length + 1 ≤ i := by simp at lts lt; omega
        by_cases c : u = n
        · rw [decide_eq_true c, if_pos c]
          refine ⟨_, rfl, _, rfl, _, rfl, p, _, _, _, rfl, rfl, SqL.of h3z, atI_end, q', _, _, _, rfl, rfl, SqT.of hqz, rfl, _, _, rfl, rfl, by show 2 ≤ sizeLine; decide, fun t nt => ?_⟩
          have et := ez.trans (Ex.new (o := .tup [.int n, .int (m + 1)]) nt)
          refine ⟨_, rfl, _, rfl, p, _, _, ts'.length, rfl, rfl, et _ _ h3, ?_, ?_⟩
          · rw [List.length_append]
            exact ixN_last _
          · have es : (ts' ++ [V.ref q']).set ts'.length (.ref t) = ts' ++ [.ref t] := by simp
            rw [es]
            refine ⟨some (.int n), ts' ++ [.ref t], rfl, (e3.trans et).mut hp, upd_same, ?_⟩
            refine TupL.mut (Paired.snoc (tl'.ex et) ⟨t, rfl, ?_⟩) (et _ _ h3)
            rw [c]
            exact upd_same
        · rw [decide_eq_false c, if_neg c]
          refine ⟨_, rfl, .inl ⟨rfl, _, SqL.of h3z⟩, _, rfl, by show 2 ≤ sizeLine; decide, fun t nt => ?_⟩
          have et := ez.trans (Ex.new (o := .tup [.int n, .int 1]) nt)
          refine ⟨p, _, _, rfl, rfl, et _ _ h3, szl (by simp; omega), ?_⟩
          refine ⟨some (.int n), _, rfl, (e3.trans et).mut hp, upd_same, ?_⟩
          exact TupL.mut (Paired.snoc (tl.ex et) ⟨t, rfl, upd_same⟩) (et _ _ h3)
    · rintro σ H3 ⟨w, ts, rfl, e3, h3, tl⟩
      rw [List.length_map, List.take_of_length_le (Nat.le_refl _)] at tl
      exact ⟨_, rfl, q _ p ts e3 hp h3 tl⟩
-- slots of by_runs: 0 values, 1 found, 2 value, 3 many
theorem sc_by_runs : FnScope ["values", "found", "value", "many"] ["values"] (defScope (top 37)) := ⟨rfl, rfl, rfl, by decide +kernel, rfl, by decide +kernel, by decide +kernel⟩
theorem ok_by_runs {M : Md} (c_runs : M.pm "runs" 1 ["values"] (spRuns M.K)) (c_signed_octets : M.pm "signed_octets" 5 ["value"] spSgnO) (c_number_octets : M.pm "number_octets" 4 ["count"] spNumO) (F : Fd M "by_runs" (top 37)) : M.pm "by_runs" 6 ["values"] (spMapL M.K (told 2)) := by
  refine F.ok sc_by_runs ?len (fun _ _ _ _ _ _ us hl => match us, hl with | [_], _ => rfl) (fun f cdv A outer s H vs Q E hr h => ?body)
  case len =>
    rintro _ _ _ _ ⟨_, _, rfl, _⟩
    rfl
  case body =>
    refine ⟨_, (pss_cons (ps_set (i := 1) sc_by_runs.nd rfl (Or.inl rfl) (pe_lst pa_nil))
      (pss_cons (ps_for PassesOwn.never rfl (pi_list (pe_pm c_runs (hr.mono (by decide)) rfl (pa_cons (pv 0) pa_nil))) (pg_tup rfl (pgs_cons (pg_name (i := 2) sc_by_runs.nd rfl (Or.inl rfl)) (pgs_cons (pg_name (i := 3) sc_by_runs.nd rfl (Or.inl rfl)) pgs_nil)))
        (pss_one (ps_expr (pe_bm PySem.F.plainAttrs_list PySem.F.slot_list_extend PySem.F.type_list_extend mt_extend (pv 1) (pa_cons (pe_op op_cat (pe_pm c_signed_octets (hr.mono (by decide)) rfl (pa_cons (pv 2) pa_nil)) (pe_pm c_number_octets (hr.mono (by decide)) rfl (pa_cons (pe_op op_sub (pv 3) pe_int) pa_nil))) pa_nil)))))
      (pss_one (ps_ret (pv 1))))), ?_⟩
    obtain ⟨a, xs, rfl, hs, sm, q⟩ := h
    refine ⟨by show 0 ≤ sizeLine; decide, fun p hp => ?_⟩
    have e0 := Ex.new (o := .lst []) hp
    refine ⟨_, rfl, a, xs, rfl, ex_l e0 hs, sm.few, fun H1 r ts e1 nr hr tl => ?_⟩
    have e01 := e0.trans e1
    obtain ⟨rl, rf⟩ := runs_facts xs
    have few := sm.few
    refine ⟨r, rfl, ⟨_, SqL.of hr⟩, ?_⟩
    refine for_it walk_list (fun i σ H' => ∃ w w2, σ = [some (.ref a), some (.ref p), w, w2] ∧ Ex H H' ∧ H' p = some (.lst (iv (((runsL xs).take i).flatMap fun p => sgnO p.1 ++ numO (p.2 - 1)))) ∧ H' r = some (.lst ts) ∧ TupL H' ts (runsL xs)) ⟨none, none, rfl, e01, e1 _ _ upd_same, hr, tl⟩
      (fun i σ H' _ h => by obtain ⟨_, _, _, _, _, e, _⟩ := h; exact SqL.of e) ?_ ?_
    · rintro i x σ H3 H4 hi ⟨w, w2, rfl, e3, h3, h4, tl3⟩ ⟨rfl, hx⟩
      obtain ⟨q', ⟨u, m⟩, hn, rfl, hq⟩ := tl3.at hx
      have fu := rf _ (List.mem_of_getElem? hn)
      have b1 := sm.lo u fu.1
      have b2 := sm.hi u fu.1
      have fm : 1 ≤ m ∧ m ≤ xs.length := fu.2
      have mz : m - 1 < 128 ^ 2 := by
        have : (128 : Int) ^ 2 = 16384 := by decide
        omega
      refine ⟨q', _, rfl, SqT.of hq, rfl, _, _, rfl, _, _, rfl, rfl, ?_⟩
      refine ⟨_, rfl, .inl ⟨rfl, _, SqL.of h3⟩, _, rfl, u, rfl, Int.lt_of_le_of_lt (Int.neg_le_neg (pow_le_pow (b := 4000) (by omega))) b1, Int.lt_of_lt_of_le b2 (pow_le_pow (by omega)), fun H5 r5 e5 n5 h5 => ?_⟩
      refine ⟨_, rfl, _, _, rfl, rfl, m - 1, rfl, by omega, Int.lt_of_lt_of_le mz (pow_le_pow (by omega)), fun H6 r6 e6 n6 h6 => ?_⟩
      have lu := sgn_len b1 b2
      have lm := numO_len 1 (i := m - 1) (by omega) mz
      refine ⟨_, _, _, _, rfl, rfl, e6 _ _ h5, h6, by rw [List.length_map, List.length_map]; exact sz (by omega), fun r7 n7 => ?_⟩
      have e7 := (e5.trans e6).trans (Ex.new (o := .lst (iv (sgnO u) ++ iv (numO (m - 1)))) n7)
      have lt := flat_len (l := (runsL xs).take i) (f := fun p : Int × Int => sgnO p.1 ++ numO (p.2 - 1)) (b := 60) (fun y hy => by
        have fy := rf _ (List.mem_of_mem_take hy)
        have l1 := sgn_len (sm.lo _ fy.1) (sm.hi _ fy.1)
        have l2 := numO_len 1 (i := y.2 - 1) (by omega) (by
          have : (128 : Int) ^ 2 = 16384 := by decide
          omega)
        rw [List.length_append]
        omega)
      rw [List.length_take] at lt
      refine ⟨_, _, _, _, rfl, rfl, e7 _ _ h3, upd_same, ?_, ?_⟩
      · rw [List.length_append, List.length_map, List.length_map, List.length_map]
        exact sz (by omega)
      · have np : p ≠ r := fun z => by
          rw [← z, upd_same] at nr
          cases nr
        refine ⟨some (.int u), some (.int m), rfl, (e3.trans e7).mut hp, ?_, ?_, ?_⟩
        · rw [upd_same, List.take_add_one, hn]
          simp [iv]
        · rw [upd_ne np.symm]
          exact e7 _ _ h4
        · exact (tl3.ex e7).mut (e7 _ _ h3)
    · rintro σ H3 ⟨w, w2, rfl, e3, h3, h4, tl3⟩
      have el : ts.length = (runsL xs).length := tl.length
      rw [el, List.take_of_length_le (Nat.le_refl _)] at h3
      exact ⟨_, rfl, q _ p e3 hp h3⟩
end L2.EG

set_option Elab.async false
set_option linter.all false
set_option maxRecDepth 100000
set_option maxHeartbeats 4000000
/-! The program's defs, part eight: by_dictionary. -/
namespace EgM
theorem pw_get {l : List Int} (h : l.Pairwise (· < ·)) {i : Nat} (h0 : 0 < i) (hi : i < l.length) : l.getD (i - 1) 0 < l.getD i 0 := by
  rw [List.getD_eq_getElem?_getD, List.getD_eq_getElem?_getD, List.getElem?_eq_getElem hi, List.getElem?_eq_getElem (by omega)]
  exact List.pairwise_iff_getElem.mp h (i - 1) i (by omega) hi (by omega)
end EgM
namespace L2.EG
open PySem PySem.Spec PyProof.Rows EgM
open Evl (Ex ex_l ex_t)

/-- a dict comprehension over a walk -/
theorem dc_it {J : It} {n : Nat} {G : Hp → Prop} {Y : Nat → Hp → V → Hp → Prop} (w : Walk J n G Y) {g : TG} {tk tv : TE} {vs : List Nat} {σ : St} {H1 : Hp} {D : Addr} {Qd : Hp → Prop} (Pv : Nat → Hp → Prop) (h0 : Pv 0 (upd H1 D (.dK []))) (hG : ∀ i H, i ≤ n → Pv i H → G H)
    (hs : ∀ i x H H', i < n → Pv i H → Y i H x H' → g x (wipe σ vs) H' fun σ2 H2 => wipe σ2 vs = wipe σ vs ∧ tk σ2 H2 fun y H4 => tv σ2 H4 fun z H5 => ∃ kvs k, y = kV k ∧ H5 D = some (.dK kvs) ∧ kvs.length < sizeLine ∧ Pv (i + 1) (upd H5 D (.dK (putK kvs k z))))
    (gm : ∀ x σ H (Q Q' : St → Hp → Prop), (∀ σ' H', Q σ' H' → Q' σ' H') → g x σ H Q → g x σ H Q') (hd : ∀ H, Pv n H → Qd H) :
    ∃ W : Nat → Nat → Hp → Prop, (∃ m, W 0 m (upd H1 D (.dK []))) ∧ ∀ i m H, W i m H →
      (J.stop i H ∧ Qd H) ∨ (J.go i H ∧ ∃ Nx : Hp → Prop, (∀ H', Nx H' → ∃ m', m' < m ∧ W (i + 1) m' H') ∧ ∀ x H', J.yld i H x H' → g x (wipe σ vs) H' fun σ2 H2 => wipe σ2 vs = wipe σ vs ∧ tYes σ2 H2 fun b H3 =>
        if b = true then tk σ2 H3 fun y H4 => tv σ2 H4 fun z H5 => ∃ kvs k, y = kV k ∧ H5 D = some (.dK kvs) ∧ kvs.length < sizeLine ∧ Nx (upd H5 D (.dK (putK kvs k z))) else Nx H3) := by
  refine ⟨fun i m H => m = n - i ∧ i ≤ n ∧ Pv i H, ⟨n, rfl, Nat.zero_le _, h0⟩, ?_⟩
  rintro i m H ⟨rfl, hi, p⟩
  by_cases hlt : i < n
  · refine .inr ⟨w.goes i H hlt (hG i H hi p), Pv (i + 1), fun H' p' => ⟨n - (i + 1), by omega, rfl, hlt, p'⟩, fun x H' y => ?_⟩
    refine gm _ _ _ _ _ (fun σ2 H2 q => ⟨q.1, ?_⟩) (hs i x H H' hlt p (w.yields i H x H' hlt (hG i H hi p) y))
    simp only [tYes, if_true]
    exact q.2
  · have e : i = n := by omega
    subst e
    exact .inl ⟨w.stops H (hG _ H hi p), hd H p⟩
-- slots of by_dictionary: 0 values, 1 known, 2 places, 3 at, 4 value, 5 found, 6 distance
theorem sc_by_dictionary : FnScope ["values", "known", "places", "at", "value", "found", "distance"] ["values"] (defScope (top 38)) := ⟨rfl, rfl, rfl, by decide +kernel, rfl, by decide +kernel, by decide +kernel⟩
theorem ok_by_dictionary {M : Md} (B : Bn M) (c_differences : M.pm "differences" 1 ["values"] (spMapL M.K diffs)) (c_signed_octets : M.pm "signed_octets" 5 ["value"] spSgnO) (c_number_octets : M.pm "number_octets" 4 ["count"] spNumO) (F : Fd M "by_dictionary" (top 38)) : M.pm "by_dictionary" 6 ["values"] (spMapL M.K (told 3)) := by
  refine F.ok sc_by_dictionary ?len (fun _ _ _ _ _ _ us hl => match us, hl with | [_], _ => rfl) (fun f cdv A outer s H vs Q E hr h => ?body)
  case len =>
    rintro _ _ _ _ ⟨_, _, rfl, _⟩
    rfl
  case body =>
    refine ⟨_, (pss_cons (ps_set (i := 1) sc_by_dictionary.nd rfl (Or.inl rfl) (pe_callB (cr_sortSetK (w := M.w) rfl) rfl B.sorted (by decide +kernel) (pa_cons (pe_callTy (cr_setLK (K := M.K) (w := M.w) rfl) rfl B.set (by decide +kernel) (pa_cons (pv 0) pa_nil)) pa_nil)))
      (pss_cons (ps_setDc (i := 2) (own := [("at", 3), ("value", 4)]) (g := (gTup M.K 2 (gCons (gName 3) (gCons (gName 4) gNil)))) (tt := tYes) rfl sc_by_dictionary.nd rfl rfl (sw_dc rfl rfl rfl (by decide +kernel)) (pi_enum rfl B.enumerate (pa_cons (pv 1) pa_nil)) (blkOk_by (N := ["values", "known", "places", "at", "value", "found", "distance"]) (sc := defScope (top 38)) (by decide +kernel)) (fun _ _ _ _ _ => (pg_tup rfl (pgs_cons (pg_name (i := 3) sc_by_dictionary.nd rfl (Or.inl rfl)) (pgs_cons (pg_name (i := 4) sc_by_dictionary.nd rfl (Or.inl rfl)) pgs_nil)))) (fun _ _ _ _ _ => pts_nil) (fun _ _ _ _ _ => (pv 4)) (fun _ _ _ _ _ => (pv 3)))
      (pss_cons (ps_set (i := 5) sc_by_dictionary.nd rfl (Or.inl rfl) (pe_pm c_number_octets (hr.mono (by decide)) rfl (pa_cons (pe_len (K := M.K) rfl B.len (pv 1)) pa_nil)))
      (pss_cons (ps_for PassesOwn.never rfl (pi_enum rfl B.enumerate (pa_cons (pe_pm c_differences (hr.mono (by decide)) rfl (pa_cons (pv 1) pa_nil)) pa_nil)) (pg_tup rfl (pgs_cons (pg_name (i := 3) sc_by_dictionary.nd rfl (Or.inl rfl)) (pgs_cons (pg_name (i := 6) sc_by_dictionary.nd rfl (Or.inl rfl)) pgs_nil)))
        (pss_one (ps_expr (pe_bm PySem.F.plainAttrs_list PySem.F.slot_list_extend PySem.F.type_list_extend mt_extend (pv 5) (pa_cons (pe_ifExp (pt_cmpR op_eq (pv 3) pe_int (nomark _)) (pe_pm c_signed_octets (hr.mono (by decide)) rfl (pa_cons (pv 6) pa_nil)) (pe_pm c_number_octets (hr.mono (by decide)) rfl (pa_cons (pe_op op_sub (pv 6) pe_int) pa_nil))) pa_nil)))))
      (pss_cons (ps_for PassesOwn.never rfl (pi_list (pv 0)) (pg_name (i := 4) sc_by_dictionary.nd rfl (Or.inl rfl))
        (pss_one (ps_expr (pe_bm PySem.F.plainAttrs_list PySem.F.slot_list_extend PySem.F.type_list_extend mt_extend (pv 5) (pa_cons (pe_pm c_number_octets (hr.mono (by decide)) rfl (pa_cons (pe_dget (hu_of hr) (pv 2) (pv 4) (fun _ _ => rfl)) pa_nil)) pa_nil)))))
      (pss_one (ps_ret (pv 5)))))))), ?_⟩
    obtain ⟨a, xs, rfl, hs, sm, q⟩ := h
    have few := sm.few
    refine ⟨_, rfl, a, xs, rfl, hs, few, fun s c ns => ⟨s, _, c, rfl, upd_same, fun ks pk lt mem nk => ?_⟩⟩
    have ek : ks = srt xs := srt_uniq lt fun k => by rw [mem]; simp
    subst ek
    generalize hks : srt xs = ks at *
    have lk : ks.length ≤ xs.length := by rw [← hks]; exact srt_len xs
    have mk : ∀ k, k ∈ ks ↔ k ∈ xs := fun k => by rw [← hks]; exact srt_mem xs k
    have smk : Sm ks := ⟨by omega, fun x hx => sm.lo x ((mk x).1 hx), fun x hx => sm.hi x ((mk x).1 hx)⟩
    generalize hH2 : upd (upd H s (SetO M.w s (fun j => decide (j ∈ xs)) c)) pk (.lst (iv ks)) = H2
    have e2 : Ex H H2 := by rw [← hH2]; exact (Ex.new ns).trans (Ex.new nk)
    have hk2 : H2 pk = some (.lst (iv ks)) := by rw [← hH2]; exact upd_same
    -- the dict of places
    refine ⟨_, rfl, pk, iv ks, rfl, SqL.of hk2, fun D nD => ?_⟩
    refine dc_it walk_enum (fun i H' => Ex H2 H' ∧ ∃ kvs, H' D = some (.dK kvs) ∧ kvs.length ≤ i ∧ ∀ j k, j < i → ks[j]? = some k → valV kvs (Sum.inl k) = some (.int (j : Nat))) ⟨Ex.new nD, [], upd_same, Nat.le_refl _, fun j k hj => by omega⟩ (fun i H' _ h => SqL.of (h.1 _ _ hk2)) ?_ gn_mono2 ?_
    · rintro i x H3 H4 hi ⟨e3, kvs, h3, l3, v3⟩ ⟨T, u, v, rfl, nT, rfl, hu, hv⟩
      cases hu
      obtain ⟨k, hk, rfl⟩ := iv_at hv
      have eT := Ex.new (o := .tup [.int (i : Nat), .int k]) nT
      rw [List.length_map] at hi
      refine ⟨T, _, rfl, SqT.of upd_same, rfl, _, _, rfl, _, _, rfl, rfl, rfl, _, rfl, _, rfl, kvs, Sum.inl k, rfl, eT _ _ h3, szl (by omega), ?_, _, upd_same, ?_, ?_⟩
      · exact (e3.trans eT).mut nD
      · have := length_putK kvs (Sum.inl k : Key) (.int (i : Nat))
        omega
      · intro j k' hj hk'
        rw [valV_put]
        by_cases ej : j = i
        · subst ej
          rw [hk] at hk'
          cases hk'
          rw [if_pos rfl]
        · have nk' : k' ≠ k := fun z => by
            have h1 := List.getElem?_eq_some_iff.mp hk'
            have h2 := List.getElem?_eq_some_iff.mp hk
            obtain ⟨q1, q2⟩ := h1
            obtain ⟨q3, q4⟩ := h2
            have := List.pairwise_iff_getElem.mp lt j i q1 q3 (by omega)
            omega
          rw [if_neg fun z => nk' (Sum.inl.inj z)]
          exact v3 j k' (by omega) hk'
    · rintro H3 ⟨e3, kvs, h3, l3, v3⟩
      rw [List.length_map] at l3 v3
      have hk3 := e3 _ _ hk2
      refine ⟨_, rfl, pk, iv ks, rfl, .inl (SqL.of hk3), _, rfl, by omega, ?_, ?_⟩
      · rw [List.length_map]
        have : (128 : Int) ^ 2 ≤ 128 ^ 5000 := pow_le_pow (by omega)
        have e : (128 : Int) ^ 2 = 16384 := by decide
        omega
      · rw [List.length_map]
        intro H4 p e4 np hp
        have e04 := (e2.trans e3).trans e4
        have hk4 := e4 _ _ hk3
        refine ⟨_, rfl, pk, ks, rfl, SqL.of hk4, smk, fun H5 d e5 nd hd => ?_⟩
        have npd : p ≠ d := fun z => by
          rw [← z, hp] at nd
          cases nd
        have len0 := numO_len 1 (i := ((ks.length : Nat) : Int)) (by omega) (by
          have e : (128 : Int) ^ 2 = 16384 := by decide
          omega)
        have kol : ∀ i, i < ks.length → (kO ks i).length ≤ 52 := fun i hi => by
          have m1 := getD_mem (l := ks) (k := i) hi
          have m2 := getD_mem (l := ks) (k := i - 1) (by omega)
          have m3 := getD_mem (l := ks) (k := 0) (by omega)
          unfold kO
          split
          · have := sgn_len (smk.lo _ m3) (smk.hi _ m3)
            omega
          · next ne =>
            have := pw_get lt (i := i) (by omega) hi
            have a1 := smk.hi _ m1
            have b1 := smk.lo _ m2
            have := p50
            exact Nat.le_trans (numO_len 50 (by omega) (by omega)) (by omega)
        refine ⟨d, _, rfl, SqL.of hd, ?_⟩
        have nH : H p = none := Evl.fresh_back (e2.trans e3) np
        have e05 := e04.trans e5
        have npk : pk ≠ p := fun z => by rw [z, np] at hk3; cases hk3
        have hD5 := e5 _ _ (e4 _ _ h3)
        have npD : D ≠ p := fun z => by rw [z, np] at h3; cases h3
        have hk5 := e5 _ _ hk4
        have hp5 := e5 _ _ hp
        have back : ∀ H', ExB p H5 H' → Ex H H' := fun H' e b o hb => e b o (fun z => by rw [z, nH] at hb; cases hb) (e05 b o hb)
        have ld := (Sm.diffs smk).1
        refine for_it walk_enum (fun i σ H' => ∃ w w', σ = [some (.ref a), some (.ref pk), some (.ref D), w, none, some (.ref p), w'] ∧ ExB p H5 H' ∧ H' p = some (.lst (iv (numO ks.length ++ (List.range i).flatMap (kO ks))))) ⟨none, none, rfl, ExB.refl _ _, by rw [hp5]; simp⟩
          (fun i σ H' _ h => by obtain ⟨_, _, _, e, _⟩ := h; exact SqL.of (e _ _ npd.symm hd)) ?_ ?_
        · rintro i x σ H6 H7 hi ⟨w, w', rfl, e6, h6⟩ ⟨T, u, v, rfl, nT, rfl, hu, hv⟩
          cases hu
          obtain ⟨dd, hdd, rfl⟩ := iv_at hv
          rw [List.length_map] at hi
          have hik : i < ks.length := by omega
          have edd : dd = dO ks i := by
            unfold diffs at hdd
            rw [List.getElem?_map, List.getElem?_range hik] at hdd
            exact (Option.some.inj hdd).symm
          have eT := Ex.new (o := .tup [.int (i : Nat), .int dd]) nT
          have h6T := eT _ _ h6
          have lacc := flat_len (l := List.range i) (f := kO ks) (b := 52) (fun j hj => kol j (by have := List.mem_range.mp hj; omega))
          rw [List.length_range] at lacc
          have lk := kol i hik
          refine ⟨T, _, rfl, SqT.of upd_same, rfl, _, _, rfl, _, _, rfl, rfl, ?_⟩
          refine ⟨_, rfl, .inl ⟨rfl, _, SqL.of h6T⟩, _, rfl, rfl, _, rfl, ?_⟩
          rw [dec_int']
          -- either way a new list of kO ks i, set behind
          have fin : ∀ (H8 : Hp) (r : Addr), Ex (upd H6 T (.tup [.int (i : Nat), .int dd])) H8 → H8 r = some (.lst (iv (kO ks i))) → ∃ l b zs ys, V.ref p = V.ref l ∧ [V.ref r] = [V.ref b] ∧ H8 l = some (.lst zs) ∧ H8 b = some (.lst ys) ∧ zs.length + ys.length ≤ sizeLine ∧
              ∃ w w', [some (V.ref a), some (.ref pk), some (.ref D), some (.int (i : Nat)), none, some (.ref p), some (.int dd)] = [some (V.ref a), some (.ref pk), some (.ref D), w, none, some (.ref p), w'] ∧ ExB p H5 (upd H8 l (.lst (zs ++ ys))) ∧
                (upd H8 l (.lst (zs ++ ys))) p = some (.lst (iv (numO ks.length ++ (List.range (i + 1)).flatMap (kO ks)))) := fun H8 r e8 hr => by
            refine ⟨p, r, _, _, rfl, rfl, e8 _ _ h6T, hr, ?_, _, _, rfl, ?_, ?_⟩
            · rw [List.length_map, List.length_map, List.length_append]
              exact sz (by omega)
            · exact ExB.set (e6.trans (ExB.of (eT.trans e8)))
            · rw [upd_same, range_flat, iv, iv, iv, List.map_append, List.map_append, List.map_append, List.append_assoc]
          by_cases c : ((i : Nat) : Int) = 0
          · rw [decide_eq_true c]
            have ei : i = 0 := by omega
            have ekd : dd = ks.getD 0 0 := by rw [edd, dO, if_pos ei]
            have m3 := getD_mem (l := ks) (k := 0) (by omega)
            refine ⟨_, rfl, dd, rfl, ?_, ?_, fun H8 r e8 nr hr => fin H8 r e8 ?_⟩
            · have := smk.lo _ m3
              have : (128 : Int) ^ 50 ≤ 128 ^ 4000 := pow_le_pow (by omega)
              omega
            · have := smk.hi _ m3
              have : (128 : Int) ^ 50 ≤ 128 ^ 4000 := pow_le_pow (by omega)
              omega
            · rw [hr, kO, if_pos ei, ← ekd]
          · rw [decide_eq_false c]
            have ei : i ≠ 0 := by omega
            have ekd : dd = ks.getD i 0 - ks.getD (i - 1) 0 := by rw [edd, dO, if_neg ei]
            have m1 := smk.hi _ (getD_mem (l := ks) (k := i) hik)
            have m2 := smk.lo _ (getD_mem (l := ks) (k := i - 1) (by omega))
            have m4 := pw_get lt (i := i) (by omega) hik
            have : (128 : Int) ^ 51 ≤ 128 ^ 5000 := pow_le_pow (by omega)
            have := p50
            refine ⟨_, rfl, _, _, rfl, rfl, dd - 1, rfl, by omega, by omega, fun H8 r e8 nr hr => fin H8 r e8 ?_⟩
            rw [hr, kO, if_neg ei, ekd]
        · rintro σ H6 ⟨w, w', rfl, e6, h6⟩
          rw [List.length_map, ld] at h6
          have lA := flat_len (l := List.range ks.length) (f := kO ks) (b := 52) (fun j hj => kol j (List.mem_range.mp hj))
          rw [List.length_range] at lA
          generalize hA : numO ks.length ++ (List.range ks.length).flatMap (kO ks) = A at h6
          have hA2 : A.length ≤ 2 + 52 * ks.length := by rw [← hA, List.length_append]; omega
          refine ⟨_, rfl, a, rfl, ⟨_, ex_l (back _ e6) hs⟩, ?_⟩
          refine for_it walk_list (fun i σ H' => ∃ w2, σ = [some (.ref a), some (.ref pk), some (.ref D), w, w2, some (.ref p), w'] ∧ ExB p H5 H' ∧ H' p = some (.lst (iv (A ++ (xs.take i).flatMap fun v => numO (ks.idxOf v))))) ⟨none, rfl, e6, by rw [h6]; simp⟩
            (fun i σ H' _ h => by obtain ⟨_, _, e, _⟩ := h; exact ex_l (back _ e) hs) ?_ ?_
          · rintro i x σ H7 H8 hi ⟨w2, rfl, e7, h7⟩ ⟨rfl, hx⟩
            obtain ⟨n, hn, rfl⟩ := iv_at hx
            have nk' : n ∈ ks := (mk n).2 (List.mem_of_getElem? hn)
            have il := List.idxOf_lt_length_of_mem nk'
            have ig : ks[ks.idxOf n]? = some n := by rw [List.getElem?_eq_getElem il, List.getElem_idxOf il]
            have vv := v3 _ _ il ig
            have hD7 := e7 _ _ npD hD5
            have idl : ∀ v ∈ xs, (numO ((ks.idxOf v : Nat) : Int)).length ≤ 2 := fun v hv => by
              have := List.idxOf_lt_length_of_mem ((mk v).2 hv)
              exact numO_len 1 (by omega) (by
                have e : (128 : Int) ^ 2 = 16384 := by decide
                omega)
            have lacc := flat_len (l := xs.take i) (f := fun v => numO (ks.idxOf v : Nat)) (b := 2) (fun v hv => idl v (List.mem_of_mem_take hv))
            rw [List.length_take] at lacc
            have ln := idl n (List.mem_of_getElem? hn)
            refine ⟨_, rfl, .inl ⟨rfl, _, SqL.of h7⟩, _, rfl, _, rfl, D, .int (ks.idxOf n : Nat), rfl, ?_, _, rfl, by omega, ?_, fun H9 r e9 nr hr => ?_⟩
            · rw [← vv]
              exact DGet.k (k := Sum.inl n) hD7
            · have e : (128 : Int) ^ 2 = 16384 := by decide
              have : (128 : Int) ^ 2 ≤ 128 ^ 5000 := pow_le_pow (by omega)
              omega
            · refine ⟨p, r, _, _, rfl, rfl, e9 _ _ h7, hr, ?_, some (.int n), rfl, ?_, ?_⟩
              · rw [List.length_map, List.length_map, List.length_append]
                exact sz (by omega)
              · exact ExB.set (e7.trans (ExB.of e9))
              · rw [upd_same, List.take_add_one, hn]
                simp [iv]
          · rintro σ H7 ⟨w2, rfl, e7, h7⟩
            rw [List.length_map, List.take_of_length_le (Nat.le_refl _), ← hA, List.append_assoc] at h7
            refine ⟨_, rfl, q _ p (back _ e7) nH ?_⟩
            rw [h7]
            show _ = some (HO.lst (iv (toldK (srt xs) xs)))
            rw [hks]
            rfl
end L2.EG

set_option Elab.async false
set_option linter.all false
set_option maxRecDepth 100000
set_option maxHeartbeats 4000000
/-! The program's defs, part nine: told_in, pack_values. -/
namespace L2.EG
open PySem PySem.Spec PyProof.Rows EgM
open Evl (Ex ex_l ex_t)

/-- a call of a def that a local holds: the reading says which promise -/
def tCallP (M : Md) (k i : Nat) (t : TA) : TE := fun σ H Q => ∃ f sp, σ[i]? = some (some (.ref f)) ∧ Held M.P M.w M.K M.mg M.base k f sp ∧ t σ H fun vs H1 => sp vs H1 Q (fun _ _ _ => False)
def tCallPX (M : Md) (k i : Nat) (E : XK) (t : TA) : TE := fun σ H Q => ∃ f sp, σ[i]? = some (some (.ref f)) ∧ HeldX M.P M.w M.K M.mg M.base k f sp ∧ t σ H fun vs H1 => sp vs H1 Q E
section
variable {X : Cx} {M : Md} {k i : Nat} {E : XK} {x : Str} {p pos : Pos} {e : Expr} {es : List Expr} {t : TA}
theorem pe_callP (hr : Room k X.A) (hN : X.N[i]? = some x) (hv : Vis X.env.scope x) (ha : PA X (e :: es) t) (hM : mdOf X = M := by rfl) (hdb : (x == ("__debug__" : Str)) = false := by decide) (hcd : (x == ("__classdict__" : Str)) = false := by decide)
    (he : starEach (e :: es) X.env = (false, eval e X.env) :: starEach es X.env := by rfl) (hpl : (backTo pos (starEach es X.env)).any (·.1) = false := by rfl) : PE X (.Call (.Name x p) (e :: es) [] pos) (tCallP M k i t) := by
  subst hM
  refine ⟨fun pins s σ H Q I h => ?_⟩
  obtain ⟨f, sp, hs, hH, ht⟩ := h
  obtain ⟨fd, ps, F, hk, hb⟩ := hH.ex
  refine (pe_callL (i := i) (f := f) (sp := sp) (dvs := []) (E := fun _ _ _ => False) F hr hN hv hk hb .nil (fun _ _ _ _ _ _ _ z => z.elim) ha hdb hcd he hpl).run pins s σ H Q I ⟨hs, ?_⟩
  simp only [List.append_nil]
  exact ht
theorem pe_callPX (hr : Room k X.A) (hN : X.N[i]? = some x) (hv : Vis X.env.scope x) (hx : ∀ σ, PassesAt (L2.CX X.prog X.w) X σ E) (ha : PA X (e :: es) t) (hM : mdOf X = M := by rfl) (hdb : (x == ("__debug__" : Str)) = false := by decide) (hcd : (x == ("__classdict__" : Str)) = false := by decide)
    (he : starEach (e :: es) X.env = (false, eval e X.env) :: starEach es X.env := by rfl) (hpl : (backTo pos (starEach es X.env)).any (·.1) = false := by rfl) : PE X (.Call (.Name x p) (e :: es) [] pos) (tCallPX M k i E t) := by
  subst hM
  refine ⟨fun pins s σ H Q I h => ?_⟩
  obtain ⟨f, sp, hs, hH, ht⟩ := h
  obtain ⟨fd, ps, F, hk, hb⟩ := hH.ex
  refine (pe_callL (i := i) (f := f) (sp := sp) (dvs := []) (E := E) F hr hN hv hk hb .nil (passes_at hx) ha hdb hcd he hpl).run pins s σ H Q I ⟨hs, ?_⟩
  simp only [List.append_nil]
  exact ht
end
theorem PmX.held {M : Md} {x : Str} {j k : Nat} {ps : List Str} {sp : Sp} {f : Addr} (h : M.pm x j ps sp) (hf : M.mg x = some (.ref f)) (l : j ≤ k) : Held M.P M.w M.K M.mg M.base k f sp := by
  obtain ⟨g, fd, a, b, c, d⟩ := h.ex
  rw [hf] at a
  cases a
  exact ⟨fd, ps, d.mono l, b, c⟩
theorem PmX.heldX {M : Md} {x : Str} {j k : Nat} {ps : List Str} {sp : Sp} {f : Addr} (h : M.pmx x j ps sp) (hf : M.mg x = some (.ref f)) (l : j ≤ k) : HeldX M.P M.w M.K M.mg M.base k f sp := by
  obtain ⟨g, fd, a, b, c, d⟩ := h.ex
  rw [hf] at a
  cases a
  exact ⟨fd, ps, d.mono l, b, c⟩
/-- a tuple of four defs -/
structure Four (M : Md) (x : Str) (a : Addr) (n0 n1 n2 n3 : Str) : Prop where
  mg : M.mg x = some (.ref a)
  ex : ∃ f0 f1 f2 f3 : Addr, M.mg n0 = some (.ref f0) ∧ M.mg n1 = some (.ref f1) ∧ M.mg n2 = some (.ref f2) ∧ M.mg n3 = some (.ref f3) ∧ ∀ H, SqT M.K H a [.ref f0, .ref f1, .ref f2, .ref f3]
abbrev Tel (M : Md) (a : Addr) : Prop := Four M "TELLERS" a "by_plain" "by_differences" "by_runs" "by_dictionary"
/-- told_in's def -/
structure FdK (M : Md) (x : Str) (st : Stmt) (kws : List (Str × V)) : Prop where
  ex : ∃ (f : Addr) (fd : FuncData), M.mg x = some (.ref f) ∧ FunD M.K x x (defArgs st) (defBody st) (defScope st) [] kws f fd
def spTold (K : PySem.W.Frag) : Sp := fun vs H Q _ => ∃ (a : Addr) (w : Nat) (xs : List Int), vs = [.ref a, .int (w : Int)] ∧ w < 4 ∧ SqL K H a (iv xs) ∧ Sm xs ∧ retL H Q (told w xs)
theorem sc_told_in : FnScope ["values", "way", "teller"] ["values", "way"] (defScope (top 40)) := ⟨rfl, rfl, rfl, by decide +kernel, rfl, by decide +kernel, by decide +kernel⟩
theorem spMapL_of {K : PySem.W.Frag} {f : List Int → List Int} {a : Addr} {xs : List Int} {H : Hp} {Q : VK} {E : XK} (h1 : SqL K H a (iv xs)) (h2 : Sm xs) (h3 : retL H Q (f xs)) : spMapL K f [.ref a] H Q E := ⟨a, xs, rfl, h1, h2, h3⟩
theorem ok_told_in {M : Md} {aT : Addr} (B : Bn M) (T : Tel M aT) (c_check_values : M.pm "check_values" 3 ["values"] (spCkV M.K)) (c_is_count : M.pm "is_count" 2 ["value"] spCount)
    (c0 : M.pm "by_plain" 6 ["values"] (spPlain M.K)) (c1 : M.pm "by_differences" 7 ["values"] (spMapL M.K (fun xs => (diffs xs).flatMap sgnO))) (c2 : M.pm "by_runs" 6 ["values"] (spMapL M.K (told 2))) (c3 : M.pm "by_dictionary" 6 ["values"] (spMapL M.K (told 3)))
    (F : FdK M "told_in" (top 40) [("way", .int 0)]) : PmK M "told_in" 8 "way" ["values", "way"] (spTold M.K) := by
  obtain ⟨f, fd, hm, F⟩ := F.ex
  have kTELLERS := T.mg
  refine ⟨f, fd, hm, F.kp, ⟨?_, fun r1 r2 => r1.append r2⟩, F.ok sc_told_in ?_ fun cdv A outer s H vs Q E hr h => ?_⟩
  · intro s us ws X l1 l2
    obtain ⟨oc, od, dV, kV, doc, pm, an, cdv, ct, osl, rfl, lk, hcd, hD, hK⟩ := F.ex
    rcases hD with ⟨_, rfl⟩ | ⟨e, _⟩
    · rcases hK with e | ⟨D, rfl, hq⟩
      · cases e
      · match us, ws, l1, l2 with
        | [u], [v], _, _ => exact BindsTo.of_eq rfl
    · exact absurd rfl e
  · rintro _ _ _ _ ⟨_, _, _, rfl, _⟩
    rfl
  · have D : PSs (M.cx CX0 ["values", "way", "teller"] "told_in" (top 40) f cdv A outer s H E).nox (defBody (top 40)) _ := (pss_cons (ps_expr (pe_pm c_check_values (hr.mono (by decide)) rfl (pa_cons (pv 0) pa_nil)))
      (pss_cons (ps_if (PW.pt (pw_or (pt_not (pt_val (pe_pm c_is_count (hr.mono (by decide)) rfl (pa_cons (pv 1) pa_nil)))) (pw_or1 (pt_cmpR op_ge (pv 1) (pe_len (K := M.K) rfl B.len (pe_glob (v := .ref aT) rfl kTELLERS rfl)) (nomark _)))))
        (pss_one ps_never)
        pss_nil)
      (pss_cons (ps_set (i := 2) sc_told_in.nd rfl (Or.inl rfl) (pe_ixT (K := M.K) (pe_glob (v := .ref aT) rfl kTELLERS rfl) (pv 1) (fun _ _ => rfl)))
      (pss_one (ps_ret (pe_callP (M := M) (k := 7) (i := 2) (hr.mono (by decide)) rfl (Or.inl rfl) (pa_cons (pv 0) pa_nil)))))))
    refine ⟨_, PSs.nox D, ?_⟩
    obtain ⟨a, w, xs, rfl, hw, hs, sm, q⟩ := h
    obtain ⟨f0, f1, f2, f3, g0, g1, g2, g3, hT⟩ := T.ex
    refine ⟨_, rfl, a, xs, rfl, hs, by have := sm.few; omega, fun H1 e1 => ?_⟩
    refine ⟨_, rfl, _, rfl, _, rfl, ?_⟩
    rw [decide_eq_true (show (0 : Int) ≤ (w : Int) by omega)]
    refine ⟨_, rfl, aT, [.ref f0, .ref f1, .ref f2, .ref f3], rfl, .inr (hT _), _, _, rfl, rfl, _, rfl, ?_⟩
    rw [decide_eq_false (show ¬ ((([V.ref f0, V.ref f1, V.ref f2, V.ref f3].length : Nat) : Int) ≤ (w : Int)) by show ¬ (((4 : Nat) : Int) ≤ (w : Int)); omega)]
    have hs1 := ex_l e1 hs
    have q1 : ∀ ys, ys = told w xs → retL H1 Q ys := fun ys ey H' p e np hp => q H' p (e1.trans e) (Evl.fresh_back e1 np) (by rw [hp, ey])
    match w, hw with
    | 0, _ => exact ⟨_, rfl, aT, _, _, _, rfl, rfl, hT _, rfl, f0, _, rfl, c0.held g0 (by decide), _, rfl, a, xs, rfl, hs1, sm.few, fun x hx => ⟨by have := sm.lo x hx; have := p50; omega, by have := sm.hi x hx; have := p50; omega⟩, q1 _ rfl⟩
    | 1, _ => exact ⟨_, rfl, aT, _, _, _, rfl, rfl, hT _, rfl, f1, _, rfl, c1.held g1 (by decide), _, rfl, spMapL_of (E := fun _ _ _ => False) hs1 sm (q1 _ rfl)⟩
    | 2, _ => exact ⟨_, rfl, aT, _, _, _, rfl, rfl, hT _, rfl, f2, _, rfl, c2.held g2 (by decide), _, rfl, spMapL_of (E := fun _ _ _ => False) hs1 sm (q1 _ rfl)⟩
    | 3, _ => exact ⟨_, rfl, aT, _, _, _, rfl, rfl, hT _, rfl, f3, _, rfl, c3.held g3 (by decide), _, rfl, spMapL_of (E := fun _ _ _ => False) hs1 sm (q1 _ rfl)⟩
/-- the rows that were made so far -/
def RowsU (H0 H : Hp) (xs : List Int) (i : Nat) (acc : List V) : Prop := acc.length = i ∧ ∀ j, j < i → ∃ r : Addr, acc[j]? = some (.ref r) ∧ H0 r = none ∧ H r = some (.lst (iv (row xs j)))
theorem least_packed {xs : List Int} {i : Nat} (hi : i < 4) (h : LeastTo (fun j => (row xs j).length) i 3) : packed xs = row xs i := by
  obtain ⟨h1, h2⟩ := h
  have a0 := h2 0 (by omega)
  have a1 := h2 1 (by omega)
  have a2 := h2 2 (by omega)
  have a3 := h2 3 (by omega)
  simp only at a0 a1 a2 a3
  unfold packed better
  match i, hi with
  | 0, _ => rw [if_neg (by omega : ¬ (row xs 1).length < (row xs 0).length), if_neg (by omega : ¬ (row xs 2).length < (row xs 0).length), if_neg (by omega)]
  | 1, _ => rw [if_pos (by have := a0.2 (by omega); omega : (row xs 1).length < (row xs 0).length), if_neg (by omega : ¬ (row xs 2).length < (row xs 1).length), if_neg (by omega)]
  | 2, _ =>
    have b0 := a0.2 (by omega)
    have b1 := a1.2 (by omega)
    by_cases c : (row xs 1).length < (row xs 0).length
    · rw [if_pos c, if_pos b1, if_neg (by omega)]
    · rw [if_neg c, if_pos b0, if_neg (by omega)]
  | 3, _ =>
    have b0 := a0.2 (by omega)
    have b1 := a1.2 (by omega)
    have b2 := a2.2 (by omega)
    refine if_pos ?_
    by_cases c : (row xs 1).length < (row xs 0).length
    · rw [if_pos c]
      by_cases d : (row xs 2).length < (row xs 1).length
      · rw [if_pos d]; exact b2
      · rw [if_neg d]; exact b1
    · rw [if_neg c]
      by_cases d : (row xs 2).length < (row xs 0).length
      · rw [if_pos d]; exact b2
      · rw [if_neg d]; exact b0
theorem told_len {xs : List Int} (h : Sm xs) (w : Nat) : (told w xs).length ≤ 110 * xs.length + 10 := by
  obtain ⟨d1, d2⟩ := h.diffs
  unfold told
  split
  · have := flat_len (l := xs) (f := sgnO) (b := 52) fun x hx => Nat.le_trans (sgn_len (h.lo x hx) (h.hi x hx)) (by omega)
    omega
  · have := flat_len (l := diffs xs) (f := sgnO) (b := 52) fun x hx => sgn_len (d2 x hx).1 (d2 x hx).2
    omega
  · obtain ⟨rl, rf⟩ := runs_facts xs
    have few := h.few
    have := flat_len (l := runsL xs) (f := fun p : Int × Int => sgnO p.1 ++ numO (p.2 - 1)) (b := 60) (fun y hy => by
      have fy := rf y hy
      have l1 := sgn_len (h.lo _ fy.1) (h.hi _ fy.1)
      have l2 := numO_len 1 (i := y.2 - 1) (by omega) (by
        have : (128 : Int) ^ 2 = 16384 := by decide
        omega)
      rw [List.length_append]
      omega)
    omega
  · have few := h.few
    have lk := srt_len xs
    have lt := srt_lt xs
    have mk := srt_mem xs
    generalize srt xs = ks at *
    have e : (128 : Int) ^ 2 = 16384 := by decide
    have l0 := numO_len 1 (i := ((ks.length : Nat) : Int)) (by omega) (by omega)
    have lA := flat_len (l := List.range ks.length) (f := kO ks) (b := 52) (fun i hi => by
      have hi := List.mem_range.mp hi
      have m1 := (mk _).1 (getD_mem (l := ks) (k := i) hi)
      have m2 := (mk _).1 (getD_mem (l := ks) (k := i - 1) (by omega))
      have m3 := (mk _).1 (getD_mem (l := ks) (k := 0) (by omega))
      unfold kO
      split
      · have := sgn_len (h.lo _ m3) (h.hi _ m3)
        omega
      · next ne =>
        have := pw_get lt (i := i) (by omega) hi
        have a1 := h.hi _ m1
        have b1 := h.lo _ m2
        have := p50
        exact Nat.le_trans (numO_len 50 (by omega) (by omega)) (by omega))
    have lB := flat_len (l := xs) (f := fun v => numO ((ks.idxOf v : Nat) : Int)) (b := 2) fun v hv => by
      have := List.idxOf_lt_length_of_mem ((mk v).2 hv)
      exact numO_len 1 (by omega) (by omega)
    rw [List.length_range] at lA
    unfold toldK
    rw [List.length_append, List.length_append]
    omega
-- slots of pack_values: 0 values*, 1 rows, 2 way
theorem sc_pack_values : FnScope ["values", "rows", "way"] ["values"] (defScope (top 41)) := ⟨rfl, rfl, rfl, by decide +kernel, rfl, by decide +kernel, by decide +kernel⟩
theorem ok_pack_values {M : Md} {aT : Addr} (B : Bn M) (T : Tel M aT) (c_check_values : M.pm "check_values" 3 ["values"] (spCkV M.K)) (c_told_in : PmK M "told_in" 8 "way" ["values", "way"] (spTold M.K)) (F : Fd M "pack_values" (top 41)) : M.pm "pack_values" 9 ["values"] (spMapL M.K packed) := by
  have kTELLERS := T.mg
  refine F.ok sc_pack_values ?len (fun _ _ _ _ _ _ us hl => match us, hl with | [_], _ => rfl) (fun f cdv A outer s H vs Q E hr h => ?body)
  case len =>
    rintro _ _ _ _ ⟨_, _, rfl, _⟩
    rfl
  case body =>
    refine ⟨_, (pss_cons (ps_expr (pe_pm c_check_values (hr.mono (by decide)) rfl (pa_cons (pv 0) pa_nil)))
      (pss_cons (ps_setLc (i := 1) (own := [("way", 2)]) (g := (gName 2)) (tt := tYes) rfl sc_pack_values.nd rfl rfl (sw_true rfl rfl rfl (by decide +kernel)) (pi_range1 rfl B.range (pa_cons (pe_len (K := M.K) rfl B.len (pe_glob (v := .ref aT) rfl kTELLERS rfl)) pa_nil)) (blkOk_by (N := ["values", "rows", "way"]) (sc := defScope (top 41)) (by decide +kernel)) (fun _ _ _ _ _ => (pg_name (i := 2) sc_pack_values.nd rfl (Or.inl rfl))) (fun _ _ _ _ _ => pts_nil) (fun _ _ _ _ _ => (pe_op op_cat (pe_lst (pa_cons (pv 2) pa_nil)) (pe_told c_told_in (hr.mono (by decide)) rfl (pa_cons (pv 0) pa_nil) (pk_cons (pv 2) pk_nil)))))
      (pss_one (ps_ret (pe_minLen rfl rfl B.min rfl B.len (pa_cons (pv 1) pa_nil)))))), ?_⟩
    obtain ⟨a, xs, rfl, hs, sm, q⟩ := h
    obtain ⟨f0, f1, f2, f3, g0, g1, g2, g3, hT⟩ := T.ex
    have few := sm.few
    refine ⟨_, rfl, a, xs, rfl, hs, by omega, fun H1 e1 => ?_⟩
    have hs1 := ex_l e1 hs
    refine ⟨aT, [.ref f0, .ref f1, .ref f2, .ref f3], rfl, .inr (hT _), 4, rfl, by decide, by decide, fun D nD => ?_⟩
    refine lc_range (lo := 0) (n := 4) (fun i H' => Ex H1 H' ∧ ∃ acc, H' D = some (.lst acc) ∧ RowsU (upd H1 D (.lst [])) H' xs i acc) ⟨Ex.new nD, [], upd_same, rfl, fun j hj => by omega⟩ ?_ ?_
    · rintro i H3 hi ⟨e3, acc, h3, la, ra⟩
      have el : (0 : Int) + (i : Int) = (i : Int) := by omega
      rw [el]
      refine ⟨rfl, ?_⟩
      simp only [tYes, if_true]
      refine ⟨_, rfl, by show 1 ≤ sizeLine; decide, fun z nz => ?_⟩
      have ez := Ex.new (o := .lst [V.int (i : Int)]) nz
      refine ⟨_, rfl, _, rfl, rfl, rfl, a, i, xs, rfl, hi, ex_l (e3.trans ez) hs1, sm, fun H4 r e4 nr hr => ?_⟩
      have lt := told_len sm i
      refine ⟨z, r, _, _, rfl, rfl, e4 _ _ upd_same, hr, by rw [List.length_map, List.length_singleton]; exact sz (by omega), fun t nt => ?_⟩
      have et := (ez.trans e4).trans (Ex.new (o := .lst ([V.int (i : Int)] ++ iv (told i xs))) nt)
      have e3t := e3.trans et
      have n1t : H1 t = none := Evl.fresh_back ((e3.trans ez).trans e4) nt
      refine ⟨acc, et _ _ h3, szl (by omega), e3t.mut nD, _, upd_same, by rw [List.length_append, la]; rfl, fun j hj => ?_⟩
      by_cases c : j = i
      · subst c
        have ntD : t ≠ D := fun z => by rw [z] at nt; rw [(ez.trans e4) _ _ h3] at nt; cases nt
        refine ⟨t, by rw [List.getElem?_append_right (by omega), la]; simp, by rw [upd_ne ntD]; exact n1t, ?_⟩
        rw [upd_ne ntD, upd_same]
        rfl
      · obtain ⟨r', q1, q2, q3⟩ := ra j (by omega)
        refine ⟨r', by rw [List.getElem?_append_left (by omega)]; exact q1, q2, ?_⟩
        rw [upd_ne (fun z => ?_)]
        · exact et _ _ q3
        · rw [z, upd_same] at q2
          cases q2
    · rintro H3 ⟨e3, acc, h3, la, ra⟩
      refine ⟨_, rfl, D, acc, fun j => (row xs j).length, rfl, SqL.of h3, by omega, fun i x hx => ?_, fun i x hx best => ?_⟩
      · have hi : i < 4 := by rw [← la]; exact (List.getElem?_eq_some_iff.mp hx).1
        obtain ⟨r, q1, q2, q3⟩ := ra i hi
        rw [hx] at q1
        cases q1
        exact ⟨r, _, rfl, SqL.of q3, by simp⟩
      · have hi : i < 4 := by rw [← la]; exact (List.getElem?_eq_some_iff.mp hx).1
        obtain ⟨r, q1, q2, q3⟩ := ra i hi
        rw [hx] at q1
        cases q1
        rw [la] at best
        have nrD : r ≠ D := fun z => by rw [z, upd_same] at q2; cases q2
        rw [upd_ne nrD] at q2
        exact q _ r (e1.trans e3) (Evl.fresh_back e1 q2) (by rw [q3, least_packed hi best])
end L2.EG

set_option Elab.async false
set_option linter.all false
set_option maxRecDepth 100000
set_option maxHeartbeats 4000000
/-! The program's defs, part ten: ways of reading values. -/
namespace EgM
/-- what is still to be read gives R -/
structure Tl {σ : Type} (go : σ → Bool) (step : σ → List Int → Nat → Res σ) (os : List Int) (R : Res σ) (f : Nat) (s : σ) (a : Nat) : Prop where
  eq : loopR go step f s os a = R
  fuel : os.length < a + f
  al : a ≤ os.length
theorem Tl.stop {σ : Type} {go : σ → Bool} {step : σ → List Int → Nat → Res σ} {os : List Int} {R : Res σ} {f : Nat} {s : σ} {a : Nat} (T : Tl go step os R f s a) (h : go s = false) : R = .ok (s, a) := by
  rw [← T.eq]
  cases f <;> simp [loopR, h]
theorem Tl.go {σ : Type} {go : σ → Bool} {step : σ → List Int → Nat → Res σ} {os : List Int} {R : Res σ} {f : Nat} {s : σ} {a : Nat} (T : Tl go step os R f s a) (h : go s = true) :
    ∃ f', f = f' + 1 ∧ (∀ e, step s os a = .error e → R = .error e) ∧ ∀ s' a', step s os a = .ok (s', a') → a < a' → a' ≤ os.length → Tl go step os R f' s' a' := by
  have e1 := T.fuel
  have e2 := T.al
  obtain ⟨f', rfl⟩ : ∃ f', f = f' + 1 := ⟨f - 1, by omega⟩
  have e := T.eq
  unfold loopR at e
  rw [if_pos h] at e
  refine ⟨f', rfl, fun er he => ?_, fun s' a' hs l1 l2 => ⟨?_, by omega, l2⟩⟩
  · rw [he] at e
    exact e.symm
  · rw [hs] at e
    exact e
/-- octets of a moderate number, whose numbers are moderate -/
structure OsOk (os : List Int) : Prop where
  oct : Oct os
  len : os.length ≤ 400
  sm : ∀ a c a', num os a = .ok (c, a') → c < 128 ^ 30
theorem OsOk.z {os : List Int} (h : OsOk os) : os.length < 1000000 := by have := h.len; omega
end EgM
namespace L2.EG
open PySem PySem.Spec PyProof.Rows EgM
open Evl (Ex ex_l ex_t)

section
variable {α β : Type} {C cS cM p l : Addr} {os : List Int} {H H1 : Hp} {R : Res α} {r : Res β} {ok : α → Hp → Prop} {ok' : β → Hp → Prop} {E : XK}
theorem rdO_err (out : rdO C cS cM p l os H R ok E) (ex : ExB p H H1) {e : Er} (hR : R = .error e) : ∀ a' H', ExB p H1 H' → RdA C H' p l os a' → E (ce cS cM e) none H' := fun a' H' e' rd => by
  rw [hR] at out
  exact out a' H' (ex.trans e') rd
theorem rdO_ok (out : rdO C cS cM p l os H R ok E) {x : α} {a : Nat} (hR : R = .ok (x, a)) : ∀ H', ExB p H H' → RdA C H' p l os a → ok x H' := by
  rw [hR] at out
  exact out
theorem rdO_sub (out : rdO C cS cM p l os H R ok E) (ex : ExB p H H1) (he : ∀ e, r = .error e → R = .error e) (hk : ∀ x a', r = .ok (x, a') → ∀ H', ExB p H1 H' → RdA C H' p l os a' → ok' x H') : rdO C cS cM p l os H1 r ok' E := by
  cases h : r with
  | error e => exact rdO_err out ex (he e h)
  | ok q =>
    obtain ⟨x, a⟩ := q
    exact hk x a h
end
theorem sgn_num {os : List Int} {a : Nat} : sgn os a = bindR (num os a) fun c a => .ok (unz c, a) := rfl
theorem bindR_err {α β : Type} {r : Res α} {k : α → Nat → Res β} {e : Er} (h : r = .error e) : bindR r k = .error e := by rw [h]; rfl
theorem bindR_at {α β : Type} {r : Res α} {k : α → Nat → Res β} {x : α} {a : Nat} (h : r = .ok (x, a)) : bindR r k = k x a := by rw [h]; rfl
theorem RdA.ltl {C : Addr} {H : Hp} {p l q : Addr} {os : List Int} {a : Nat} (h : RdA C H p l os a) (n : H q = none) : q ≠ l := fun e => by
  have h2 := h.2
  rw [← e, n] at h2
  cases h2
/-- a new object of H0's may change -/
theorem RdA.mut {C : Addr} {H0 H : Hp} {p l q : Addr} {os : List Int} {a a0 : Nat} {o : HO} (h : RdA C H p l os a) (h0 : RdA C H0 p l os a0) (n : H0 q = none) : RdA C (upd H q o) p l os a := by
  obtain ⟨⟨dx, h1⟩, h2⟩ := h
  exact ⟨⟨dx, by rw [upd_ne (h0.lt n).symm]; exact h1⟩, by rw [upd_ne (h0.ltl n).symm]; exact h2⟩
/-- reading into a new list -/
def rdL (H : Hp) (Q : VK) (xs : List Int) (H' : Hp) : Prop := ∀ q, H q = none → H' q = some (.lst (iv xs)) → Q (.ref q) H'
/-- a def that reads count values -/
def spRead (C cS cM : Addr) (r : Nat → List Int → Nat → Res (List Int)) : Sp := fun vs H Q E => ∃ (p l : Addr) (os : List Int) (a count : Nat), vs = [.ref p, .int (count : Int)] ∧ RdA C H p l os a ∧ OsOk os ∧ a ≤ os.length ∧ count ≤ 400 ∧ rdO C cS cM p l os H (r count os a) (rdL H Q) E
abbrev vGo (count : Nat) : List Int → Bool := fun s => decide (s.length < count)
abbrev vLoop (kind : Int) (known : List Int) (count : Nat) (os : List Int) (a : Nat) : Res (List Int) := loopR (vGo count) (vStep kind known count) FU [] os a
theorem vtl {kind : Int} {known : List Int} {count : Nat} {os : List Int} {a : Nat} (O : OsOk os) (ha : a ≤ os.length) : Tl (vGo count) (vStep kind known count) os (vLoop kind known count os a) FU [] a := ⟨rfl, by have := O.len; simp only [FU]; omega, ha⟩
-- slots of read_plain: 0 reader*, 1 count, 2 _
theorem sc_read_plain : FnScope ["reader", "count", "_"] ["reader", "count"] (defScope (top 42)) := ⟨rfl, rfl, rfl, by decide +kernel, rfl, by decide +kernel, by decide +kernel⟩
theorem ok_read_plain {M : Md} {C cS cM : Addr} (B : Bn M) (R : RdF M C) (c_Reader_signed : M.mtx C "signed" 6 ["self"] (spSigned C cS cM)) (F : Fd M "read_plain" (top 42)) : M.pmx "read_plain" 7 ["reader", "count"] (spRead C cS cM (vLoop 0 [])) := by
  refine F.okX sc_read_plain ?len (fun _ _ _ _ _ _ us hl => match us, hl with | [_, _], _ => rfl) (fun f cdv A outer s H vs Q E hr h => ?body)
  case len =>
    rintro _ _ _ _ ⟨_, _, _, _, _, rfl, _⟩
    rfl
  case body =>
    refine ⟨_, (pss_one (ps_ret (pe_lcX (E := E) (own := [("_", 2)]) (g := (gName 2)) (tt := tYes) rfl rfl (takes_of rfl rfl rfl rfl) rfl sc_read_plain.nd (pi_range1 rfl B.range (pa_cons (pv 1) pa_nil)) (blkOk_by (N := ["reader", "count", "_"]) (sc := defScope (top 42)) (by decide +kernel)) (fun _ _ _ _ _ _ => (pg_name (i := 2) sc_read_plain.nd rfl (Or.inl rfl))) (fun _ _ _ _ _ _ => pts_nil) (fun _ _ _ _ _ _ hE => (pe_mt0 R.cl c_Reader_signed (hr.mono (by decide)) hE (pv 0)))))), ?_⟩
    obtain ⟨p, l, os, a, count, rfl, rd, O, ha, hc, out⟩ := h
    refine ⟨_, rfl, (count : Int), rfl, by omega, by omega, fun D nD => ?_⟩
    have ec : ((count : Nat) : Int).toNat = count := by omega
    rw [ec]
    have npD : D ≠ p := rd.lt nD
    refine lc_range (lo := 0) (n := count) (fun i H' => ∃ f s b, ExB p H H' ∧ RdA C H' p l os b ∧ H' D = some (.lst (iv s)) ∧ s.length = i ∧ Tl (vGo count) (vStep 0 [] count) os (vLoop 0 [] count os a) f s b)
      ⟨FU, [], a, (ExB.refl _ _).mut nD, rd.ex (Ex.new nD), upd_same, rfl, vtl O ha⟩ ?_ ?_
    · rintro i H3 hi ⟨f, s, b, e3, rd3, h3, ls, T⟩
      refine ⟨rfl, ?_⟩
      simp only [tYes, if_true]
      obtain ⟨⟨dx, h31⟩, h32⟩ := id rd3
      obtain ⟨f', rfl, T1, T2⟩ := T.go (decide_eq_true (by omega))
      have es : vStep 0 [] count s os b = bindR (num os b) fun c a1 => .ok (s ++ [unz c + 0], a1) := rfl
      rw [es] at T1 T2
      refine ⟨_, rfl, p, dx, _, rfl, h31, rfl, p, l, os, b, rfl, rd3, O.oct, O.z, T.al, ?_⟩
      refine rdO_sub out e3 (fun er he => ?_) fun x b' he H4 e4 rd4 => ?_
      · rw [sgn_num] at he
        cases q : num os b with
        | error er' =>
          rw [bindR_err q] at he
          exact T1 er (by rw [bindR_err q]; cases he; rfl)
        | ok y =>
          obtain ⟨c, b1⟩ := y
          rw [bindR_at q] at he
          cases he
      · rw [sgn_num] at he
        obtain ⟨c, b1, q, he⟩ := bindR_inv he
        cases he
        obtain ⟨l1, l2⟩ := num_up q
        have T3 := T2 _ _ (bindR_at q) l1 l2
        refine ⟨iv s, e4 _ _ npD h3, by rw [List.length_map]; exact szl (by omega), ?_⟩
        refine ⟨f', s ++ [unz c], b', (e3.trans e4).mut nD, ?_, ?_, by simp; omega, ?_⟩
        · exact rd4.mut rd nD
        · rw [upd_same]; simp [iv]
        · rw [Int.add_zero] at T3
          exact T3
    · rintro H3 ⟨f, s, b, e3, rd3, h3, ls, T⟩
      have eR := T.stop (decide_eq_false (by omega))
      exact rdO_ok out eR H3 e3 rd3 D nD h3
-- slots of read_differences: 0 reader, 1 count, 2 found, 3 last, 4 _
theorem sc_read_differences : FnScope ["reader", "count", "found", "last", "_"] ["reader", "count"] (defScope (top 43)) := ⟨rfl, rfl, rfl, by decide +kernel, rfl, by decide +kernel, by decide +kernel⟩
theorem ok_read_differences {M : Md} {C cS cM : Addr} (B : Bn M) (R : RdF M C) (c_Reader_signed : M.mtx C "signed" 6 ["self"] (spSigned C cS cM)) (F : Fd M "read_differences" (top 43)) : M.pmx "read_differences" 7 ["reader", "count"] (spRead C cS cM (vLoop 1 [])) := by
  refine F.okX sc_read_differences ?len (fun _ _ _ _ _ _ us hl => match us, hl with | [_, _], _ => rfl) (fun f cdv A outer s H vs Q E hr h => ?body)
  case len =>
    rintro _ _ _ _ ⟨_, _, _, _, _, rfl, _⟩
    rfl
  case body =>
    refine ⟨_, (pss_cons (ps_par (i := 2) (j := 3) rfl sc_read_differences.nd rfl rfl (by decide) rfl rfl (pa_cons (pe_lst pa_nil) (pa_cons pe_int pa_nil)) (by rfl))
      (pss_cons (ps_for (passes_of rfl) rfl (pi_range1 rfl B.range (pa_cons (pv 1) pa_nil)) (pg_name (i := 4) sc_read_differences.nd rfl (Or.inl rfl))
        (pss_cons (ps_set (i := 3) sc_read_differences.nd rfl (Or.inl rfl) (pe_op op_add (pv 3) (pe_mt0 R.cl c_Reader_signed (hr.mono (by decide)) (pxX (E := E) (takes_of rfl rfl rfl rfl)) (pv 0))))
        (pss_one (ps_expr (pe_bm PySem.F.plainAttrs_list PySem.F.slot_list_append PySem.F.type_list_append mt_append (pv 2) (pa_cons (pv 3) pa_nil))))))
      (pss_one (ps_ret (pv 2))))), ?_⟩
    obtain ⟨p, l, os, a, count, rfl, rd, O, ha, hc, out⟩ := h
    refine ⟨by show 0 ≤ sizeLine; decide, fun D nD => ⟨_, _, rfl, ?_⟩⟩
    have npD : D ≠ p := rd.lt nD
    refine ⟨_, rfl, (count : Int), rfl, by omega, by omega, ?_⟩
    have ec : ((count : Nat) : Int).toNat = count := by omega
    rw [ec]
    refine for_range (lo := 0) (n := count) (fun i σ H' => ∃ w f s b, σ = [some (.ref p), some (.int (count : Int)), some (.ref D), some (.int (s.getLastD 0)), w] ∧ ExB p H H' ∧ RdA C H' p l os b ∧ H' D = some (.lst (iv s)) ∧ s.length = i ∧ Tl (vGo count) (vStep 1 [] count) os (vLoop 1 [] count os a) f s b)
      ⟨none, FU, [], a, rfl, (ExB.refl _ _).mut nD, rd.ex (Ex.new nD), upd_same, rfl, vtl O ha⟩ ?_ ?_
    · rintro i σ H3 hi ⟨w, f, s, b, rfl, e3, rd3, h3, ls, T⟩
      obtain ⟨⟨dx, h31⟩, h32⟩ := id rd3
      obtain ⟨f', rfl, T1, T2⟩ := T.go (decide_eq_true (by omega))
      have es : vStep 1 [] count s os b = bindR (num os b) fun c a1 => .ok (s ++ [unz c + s.getLastD 0], a1) := rfl
      rw [es] at T1 T2
      refine ⟨_, rfl, _, rfl, p, dx, _, rfl, h31, rfl, p, l, os, b, rfl, rd3, O.oct, O.z, T.al, ?_⟩
      refine rdO_sub out e3 (fun er he => ?_) fun x b' he H4 e4 rd4 => ?_
      · rw [sgn_num] at he
        cases q : num os b with
        | error er' =>
          rw [bindR_err q] at he
          exact T1 er (by rw [bindR_err q]; cases he; rfl)
        | ok y =>
          obtain ⟨c, b1⟩ := y
          rw [bindR_at q] at he
          cases he
      · rw [sgn_num] at he
        obtain ⟨c, b1, q, he⟩ := bindR_inv he
        cases he
        obtain ⟨l1, l2⟩ := num_up q
        have T3 := T2 _ _ (bindR_at q) l1 l2
        have h4 := e4 _ _ npD h3
        refine ⟨_, _, rfl, rfl, ?_⟩
        refine ⟨_, rfl, .inl ⟨rfl, _, SqL.of h4⟩, _, rfl, D, _, _, rfl, rfl, h4, by rw [List.length_map]; exact szl (by omega), ?_⟩
        refine ⟨some (.int (0 + (i : Int))), f', s ++ [unz c + s.getLastD 0], b', ?_, (e3.trans e4).mut nD, rd4.mut rd nD, ?_, by simp; omega, T3⟩
        · rw [List.getLastD_concat, Int.add_comm (unz c)]
          rfl
        · rw [upd_same, Int.add_comm (unz c)]
          simp [iv]
    · rintro σ H3 ⟨w, f, s, b, rfl, e3, rd3, h3, ls, T⟩
      have eR := T.stop (decide_eq_false (by omega))
      exact ⟨_, rfl, rdO_ok out eR H3 e3 rd3 D nD h3⟩
-- slots of read_runs: 0 reader, 1 count, 2 found, 3 value, 4 many
theorem sc_read_runs : FnScope ["reader", "count", "found", "value", "many"] ["reader", "count"] (defScope (top 44)) := ⟨rfl, rfl, rfl, by decide +kernel, rfl, by decide +kernel, by decide +kernel⟩
theorem ok_read_runs {M : Md} {C cS cM : Addr} (B : Bn M) (R : RdF M C) (eMalformed : Ec M "Malformed" cM) (c_Reader_signed : M.mtx C "signed" 6 ["self"] (spSigned C cS cM)) (c_Reader_number : M.mtx C "number" 5 ["self"] (spNumber C cS cM)) (F : Fd M "read_runs" (top 44)) : M.pmx "read_runs" 7 ["reader", "count"] (spRead C cS cM (vLoop 2 [])) := by
  refine F.okX sc_read_runs ?len (fun _ _ _ _ _ _ us hl => match us, hl with | [_, _], _ => rfl) (fun f cdv A outer s H vs Q E hr h => ?body)
  case len =>
    rintro _ _ _ _ ⟨_, _, _, _, _, rfl, _⟩
    rfl
  case body =>
    refine ⟨_, (pss_cons (ps_set (i := 2) sc_read_runs.nd rfl (Or.inl rfl) (pe_lst pa_nil))
      (pss_cons (ps_while (passes_of rfl) (pt_cmpR op_lt (pe_len (K := M.K) rfl B.len (pv 2)) (pv 1) (nomark _))
        (pss_cons (ps_set (i := 3) sc_read_runs.nd rfl (Or.inl rfl) (pe_mt0 R.cl c_Reader_signed (hr.mono (by decide)) (pxX (E := E) (takes_of rfl rfl rfl rfl)) (pv 0)))
        (pss_cons (ps_set (i := 4) sc_read_runs.nd rfl (Or.inl rfl) (pe_op op_add (pe_mt0 R.cl c_Reader_number (hr.mono (by decide)) (pxX (E := E) (takes_of rfl rfl rfl rfl)) (pv 0)) pe_int))
        (pss_cons (ps_if (pt_cmpR op_gt (pv 4) (pe_op op_sub (pv 1) (pe_len (K := M.K) rfl B.len (pv 2))) (nomark _))
          (pss_one (ps_raise rfl (takes_of rfl rfl rfl rfl) (pmk_ec eMalformed (hr.mono (by decide)) rfl)))
          pss_nil)
        (pss_one (ps_expr (pe_bm PySem.F.plainAttrs_list PySem.F.slot_list_extend PySem.F.type_list_extend mt_extend (pv 2) (pa_cons (pe_op op_rep (pe_lst (pa_cons (pv 3) pa_nil)) (pv 4)) pa_nil))))))))
      (pss_one (ps_ret (pv 2))))), ?_⟩
    obtain ⟨p, l, os, a, count, rfl, rd, O, ha, hc, out⟩ := h
    refine ⟨by show 0 ≤ sizeLine; decide, fun D nD => ?_⟩
    have npD : D ≠ p := rd.lt nD
    refine ⟨fun f σ H' => ∃ w w2 s b, σ = [some (.ref p), some (.int (count : Int)), some (.ref D), w, w2] ∧ ExB p H H' ∧ RdA C H' p l os b ∧ H' D = some (.lst (iv s)) ∧ s.length ≤ count ∧ Tl (vGo count) (vStep 2 [] count) os (vLoop 2 [] count os a) f s b,
      ⟨FU, none, none, [], a, rfl, (ExB.refl _ _).mut nD, rd.ex (Ex.new nD), upd_same, Nat.zero_le _, vtl O ha⟩, ?_⟩
    rintro f σ H3 ⟨w, w2, s, b, rfl, e3, rd3, h3, ls, T⟩
    obtain ⟨⟨dx, h31⟩, h32⟩ := id rd3
    refine ⟨_, rfl, D, _, rfl, .inl (SqL.of h3), _, rfl, _, _, rfl, rfl, _, rfl, ?_⟩
    rw [List.length_map]
    by_cases c : ((s.length : Nat) : Int) < (count : Int)
    · rw [decide_eq_true c]
      refine ⟨_, fun σ' H' z => z, ?_⟩
      obtain ⟨f', rfl, T1, T2⟩ := T.go (decide_eq_true (by omega))
      have es : vStep 2 [] count s os b = bindR (num os b) fun c a1 => bindR (num os a1) fun m a2 => if (count : Int) - s.length < m + 1 then .error .malf else .ok (s ++ List.replicate (m + 1).toNat (unz c), a2) := rfl
      rw [es] at T1 T2
      refine ⟨_, rfl, p, dx, _, rfl, h31, rfl, p, l, os, b, rfl, rd3, O.oct, O.z, T.al, ?_⟩
      refine rdO_sub out e3 (fun er he => ?_) fun x b' he H4 e4 rd4 => ?_
      · rw [sgn_num] at he
        cases q : num os b with
        | error er' =>
          rw [bindR_err q] at he
          exact T1 er (by rw [bindR_err q]; cases he; rfl)
        | ok y =>
          obtain ⟨c, b1⟩ := y
          rw [bindR_at q] at he
          cases he
      · rw [sgn_num] at he
        obtain ⟨cc, b1, q, he⟩ := bindR_inv he
        cases he
        obtain ⟨l1, l2⟩ := num_up q
        rw [bindR_at q] at T1 T2
        have h4 := e4 _ _ npD h3
        have e34 := e3.trans e4
        obtain ⟨⟨dx4, h41⟩, h42⟩ := id rd4
        refine ⟨_, rfl, p, dx4, _, rfl, h41, rfl, p, l, os, b', rfl, rd4, O.oct, O.z, l2, ?_⟩
        refine rdO_sub out e34 (fun er he => T1 er (bindR_err he)) fun m b2 he H5 e5 rd5 => ?_
        obtain ⟨m1, m2⟩ := num_up he
        have m0 := (num_facts O.oct he).1
        rw [bindR_at he] at T1 T2
        have h5 := e5 _ _ npD h4
        have e35 := e34.trans e5
        refine ⟨_, _, rfl, rfl, ?_⟩
        refine ⟨_, rfl, _, rfl, _, rfl, D, _, rfl, .inl (SqL.of h5), _, _, rfl, rfl, _, _, rfl, rfl, _, rfl, ?_⟩
        rw [List.length_map]
        by_cases d : (count : Int) - (s.length : Int) < m + 1
        · rw [decide_eq_true d]
          rw [if_pos d] at T1
          have eR := T1 .malf rfl
          exact rdO_err out e35 eR b2 H5 (ExB.refl _ _) rd5
        · rw [decide_eq_false d]
          rw [if_neg d] at T2
          have T3 := T2 _ _ rfl (by omega) m2
          refine ⟨_, rfl, .inl ⟨rfl, _, SqL.of h5⟩, _, rfl, by show 1 ≤ sizeLine; decide, fun z nz => ?_⟩
          refine ⟨_, rfl, z, m + 1, _, rfl, rfl, upd_same, by omega, by omega, by show 1 * (m + 1).toNat ≤ sizeLine; exact sz (by omega), fun y ny => ?_⟩
          have ez := (Ex.new (o := .lst [V.int (unz cc)]) nz).trans (Ex.new (o := .lst (List.replicate (m + 1).toNat [V.int (unz cc)]).flatten) ny)
          have er : (List.replicate (m + 1).toNat [V.int (unz cc)]).flatten = iv (List.replicate (m + 1).toNat (unz cc)) := by
            rw [List.flatten_replicate_singleton, iv, List.map_replicate]
          refine ⟨D, y, _, _, rfl, rfl, ez _ _ h5, upd_same, ?_, ?_⟩
          · rw [er, List.length_map, List.length_map, List.length_replicate]
            exact sz (by omega)
          · refine ⟨f', by omega, some (.int (unz cc)), some (.int (m + 1)), s ++ List.replicate (m + 1).toNat (unz cc), b2, rfl, (e35.trans (ExB.of ez)).mut nD, (rd5.ex ez).mut rd nD, ?_, ?_, T3⟩
            · rw [upd_same, er]
              simp [iv]
            · rw [List.length_append, List.length_replicate]
              omega
    · rw [decide_eq_false c]
      have eR := T.stop (decide_eq_false (by omega))
      exact ⟨_, rfl, rdO_ok out eR H3 e3 rd3 D nD h3⟩
end L2.EG

set_option Elab.async false
set_option linter.all false
set_option maxRecDepth 100000
set_option maxHeartbeats 4000000
/-! The program's defs, part eleven: read_known, read_dictionary, values_from, unpack_values. -/
namespace L2.EG
open PySem PySem.Spec PyProof.Rows EgM
open Evl (Ex ex_l ex_t)

def spKnown (C cS cM : Addr) : Sp := fun vs H Q E => ∃ (p l : Addr) (os : List Int) (a : Nat), vs = [.ref p] ∧ RdA C H p l os a ∧ OsOk os ∧ a ≤ os.length ∧ rdO C cS cM p l os H (knownR os a) (rdL H Q) E
abbrev kGo (many : Int) : List Int → Bool := fun s => decide ((s.length : Int) < many)
-- slots of read_known: 0 reader, 1 many, 2 known
theorem sc_read_known : FnScope ["reader", "many", "known"] ["reader"] (defScope (top 45)) := ⟨rfl, rfl, rfl, by decide +kernel, rfl, by decide +kernel, by decide +kernel⟩
theorem ok_read_known {M : Md} {C cS cM : Addr} (B : Bn M) (R : RdF M C) (c_Reader_signed : M.mtx C "signed" 6 ["self"] (spSigned C cS cM)) (c_Reader_number : M.mtx C "number" 5 ["self"] (spNumber C cS cM)) (F : Fd M "read_known" (top 45)) : M.pmx "read_known" 7 ["reader"] (spKnown C cS cM) := by
  refine F.okX sc_read_known ?len (fun _ _ _ _ _ _ us hl => match us, hl with | [_], _ => rfl) (fun f cdv A outer s H vs Q E hr h => ?body)
  case len =>
    rintro _ _ _ _ ⟨_, _, _, _, rfl, _⟩
    rfl
  case body =>
    refine ⟨_, (pss_cons (ps_par (i := 1) (j := 2) rfl sc_read_known.nd rfl rfl (by decide) rfl rfl (pa_cons (pe_mt0 R.cl c_Reader_number (hr.mono (by decide)) (pxX (E := E) (takes_of rfl rfl rfl rfl)) (pv 0)) (pa_cons (pe_lst pa_nil) pa_nil)) (by rfl))
      (pss_cons (ps_while (passes_of rfl) (pt_cmpR op_lt (pe_len (K := M.K) rfl B.len (pv 2)) (pv 1) (nomark _))
        (pss_one (ps_expr (pe_bm PySem.F.plainAttrs_list PySem.F.slot_list_append PySem.F.type_list_append mt_append (pv 2) (pa_cons (pe_ifExp (pt_cmpR (or_neD (K := M.K) hr.units) (pv 2) (pe_lst pa_nil) (nomark _)) (pe_op op_add (pe_op op_add (pe_ixL (K := M.K) (pv 2) (pe_un un_neg pe_int) (fun _ _ => rfl)) (pe_mt0 R.cl c_Reader_number (hr.mono (by decide)) (pxX (E := E) (takes_of rfl rfl rfl rfl)) (pv 0))) pe_int) (pe_mt0 R.cl c_Reader_signed (hr.mono (by decide)) (pxX (E := E) (takes_of rfl rfl rfl rfl)) (pv 0))) pa_nil)))))
      (pss_one (ps_ret (pv 2))))), ?_⟩
    obtain ⟨p, l, os, a, rfl, rd, O, ha, out⟩ := h
    obtain ⟨⟨dx0, h01⟩, h02⟩ := id rd
    refine ⟨_, rfl, p, dx0, _, rfl, h01, rfl, p, l, os, a, rfl, rd, O.oct, O.z, ha, ?_⟩
    refine rdO_sub out (ExB.refl _ _) (fun er he => bindR_err he) fun many a1 he H1 e1 rd1 => ?_
    obtain ⟨n1, n2⟩ := num_up he
    have eK : knownR os a = loopR (kGo many) knStep FU [] os a1 := bindR_at he
    refine ⟨by show 0 ≤ sizeLine; decide, fun D nD => ⟨_, _, rfl, ?_⟩⟩
    have npD : D ≠ p := rd1.lt nD
    have eD := Ex.new (o := .lst []) nD
    have back : ∀ {H' : Hp}, ExB p H1 H' → ∀ q, H1 q = none → H q = none := fun _ q nq => by
      cases z : H q with
      | none => rfl
      | some o =>
        by_cases c : q = p
        · rw [c] at nq
          exact absurd rfl (rd1.lt nq)
        · rw [e1 q o c z] at nq
          cases nq
    refine ⟨fun f σ H' => ∃ s b, σ = [some (.ref p), some (.int many), some (.ref D)] ∧ ExB p H1 H' ∧ RdA C H' p l os b ∧ H' D = some (.lst (iv s)) ∧ s.length ≤ b ∧ Tl (kGo many) knStep os (knownR os a) f s b,
      ⟨FU, [], a1, rfl, (ExB.refl _ _).mut nD, rd1.ex eD, upd_same, Nat.zero_le _, eK.symm, by have := O.len; simp only [FU]; omega, n2⟩, ?_⟩
    rintro f σ H3 ⟨s, b, rfl, e3, rd3, h3, ls, T⟩
    obtain ⟨⟨dx, h31⟩, h32⟩ := id rd3
    refine ⟨_, rfl, D, _, rfl, .inl (SqL.of h3), _, rfl, _, _, rfl, rfl, _, rfl, ?_⟩
    rw [List.length_map]
    by_cases c : ((s.length : Nat) : Int) < many
    · rw [decide_eq_true c]
      refine ⟨_, fun σ' H' z => z, ?_⟩
      obtain ⟨f', rfl, T1, T2⟩ := T.go (decide_eq_true c)
      have es : knStep s os b = bindR (num os b) fun c a' => .ok (s ++ [if s = [] then unz c else s.getLastD 0 + c + 1], a') := rfl
      rw [es] at T1 T2
      have bl := T.al
      have lO := O.len
      refine ⟨_, rfl, .inl ⟨rfl, _, SqL.of h3⟩, _, rfl, by show 0 ≤ sizeLine; decide, fun z nz => ?_⟩
      have ez := Ex.new (o := .lst []) nz
      have h3z := ez _ _ h3
      have rdz := rd3.ex ez
      have e3z := e3.trans (ExB.of ez)
      refine ⟨dI s, dI [], Dp.ints (SqL.of h3z), Dp.ints (xs := []) (SqL.of upd_same), shaped_ints s, rfl, _, rfl, ?_⟩
      rw [eqv_ints]
      -- the number's value set behind
      have fin : ∀ (cc : Int) (b' : Nat) (H4 : Hp) (v : Int), num os b = .ok (cc, b') → ExB p (upd H3 z (.lst [])) H4 → RdA C H4 p l os b' → v = (if s = [] then unz cc else s.getLastD 0 + cc + 1) →
          ∃ l' zs y, V.ref D = .ref l' ∧ [V.int v] = [y] ∧ H4 l' = some (.lst zs) ∧ zs.length < sizeLine ∧ ∃ m', m' < f' + 1 ∧ ∃ s b, [some (V.ref p), some (.int many), some (.ref D)] = [some (V.ref p), some (.int many), some (.ref D)] ∧ ExB p H1 (upd H4 l' (.lst (zs ++ [y]))) ∧
            RdA C (upd H4 l' (.lst (zs ++ [y]))) p l os b ∧ (upd H4 l' (.lst (zs ++ [y]))) D = some (.lst (iv s)) ∧ s.length ≤ b ∧ Tl (kGo many) knStep os (knownR os a) m' s b := fun cc b' H4 v q e4 rd4 ev => by
        obtain ⟨l1, l2⟩ := num_up q
        have T3 := T2 _ _ (bindR_at q) l1 l2
        refine ⟨D, _, _, rfl, rfl, e4 _ _ npD h3z, by rw [List.length_map]; exact szl (by omega), f', by omega, s ++ [v], b', rfl, (e3z.trans e4).mut nD, rd4.mut rd1 nD, by rw [upd_same]; simp [iv], by simp; omega, ?_⟩
        rw [ev]
        exact T3
      by_cases d : s = []
      · rw [decide_eq_true d]
        obtain ⟨⟨dx', hz1⟩, hz2⟩ := id rdz
        refine ⟨_, rfl, p, dx', _, rfl, hz1, rfl, p, l, os, b, rfl, rdz, O.oct, O.z, bl, ?_⟩
        refine rdO_sub out (e1.trans e3z) (fun er he => ?_) fun x b' he H4 e4 rd4 => ?_
        · rw [sgn_num] at he
          cases q : num os b with
          | error er' =>
            rw [bindR_err q] at he
            exact T1 er (by rw [bindR_err q]; cases he; rfl)
          | ok y =>
            obtain ⟨c, b1⟩ := y
            rw [bindR_at q] at he
            cases he
        · rw [sgn_num] at he
          obtain ⟨cc, b1, q, he⟩ := bindR_inv he
          cases he
          exact fin cc b' H4 _ q e4 rd4 (by rw [if_pos d])
      · rw [decide_eq_false d]
        obtain ⟨⟨dx', hz1⟩, hz2⟩ := id rdz
        rcases snoc_cases s with e | ⟨s0, w, rfl⟩
        · exact absurd e d
        · have hlast : atI (iv (s0 ++ [w])) (-1) = some (.int w) := by
            rw [iv, List.map_append]
            exact atI_end
          refine ⟨_, rfl, _, rfl, D, _, _, _, rfl, rfl, SqL.of h3z, hlast, _, rfl, p, dx', _, rfl, hz1, rfl, p, l, os, b, rfl, rdz, O.oct, O.z, bl, ?_⟩
          refine rdO_sub out (e1.trans e3z) (fun er he => T1 er (bindR_err he)) fun x b' he H4 e4 rd4 => ?_
          refine ⟨_, _, rfl, rfl, _, _, rfl, rfl, fin x b' H4 _ he e4 rd4 ?_⟩
          rw [if_neg d, List.getLastD_concat]
    · rw [decide_eq_false c]
      have eR := T.stop (decide_eq_false c)
      refine ⟨_, rfl, rdO_ok out eR H3 (e1.trans e3) rd3 D (back e3 D nD) h3⟩
/-- fresh behind, fresh ahead: the Reader is there -/
theorem ExB.back {C : Addr} {p l : Addr} {os : List Int} {a : Nat} {H H1 : Hp} (e : ExB p H H1) (rd : RdA C H1 p l os a) {q : Addr} (nq : H1 q = none) : H q = none := by
  cases z : H q with
  | none => rfl
  | some o =>
    by_cases c : q = p
    · exact absurd c (rd.lt nq)
    · rw [e q o c z] at nq
      cases nq
def valsD (count : Nat) (os : List Int) (a : Nat) : Res (List Int) := bindR (knownR os a) fun known a1 => vLoop 3 known count os a1
-- slots of read_dictionary: 0 reader, 1 count, 2 known, 3 found, 4 place
theorem sc_read_dictionary : FnScope ["reader", "count", "known", "found", "place"] ["reader", "count"] (defScope (top 46)) := ⟨rfl, rfl, rfl, by decide +kernel, rfl, by decide +kernel, by decide +kernel⟩
theorem ok_read_dictionary {M : Md} {C cS cM : Addr} (B : Bn M) (R : RdF M C) (eMalformed : Ec M "Malformed" cM) (c_read_known : M.pmx "read_known" 7 ["reader"] (spKnown C cS cM)) (c_Reader_number : M.mtx C "number" 5 ["self"] (spNumber C cS cM)) (F : Fd M "read_dictionary" (top 46)) : M.pmx "read_dictionary" 8 ["reader", "count"] (spRead C cS cM valsD) := by
  refine F.okX sc_read_dictionary ?len (fun _ _ _ _ _ _ us hl => match us, hl with | [_, _], _ => rfl) (fun f cdv A outer s H vs Q E hr h => ?body)
  case len =>
    rintro _ _ _ _ ⟨_, _, _, _, _, rfl, _⟩
    rfl
  case body =>
    refine ⟨_, (pss_cons (ps_par (i := 2) (j := 3) rfl sc_read_dictionary.nd rfl rfl (by decide) rfl rfl (pa_cons (pe_pmx c_read_known (hr.mono (by decide)) rfl (pxX (E := E) (takes_of rfl rfl rfl rfl)) (pa_cons (pv 0) pa_nil)) (pa_cons (pe_lst pa_nil) pa_nil)) (by rfl))
      (pss_cons (ps_while (passes_of rfl) (pt_cmpR op_lt (pe_len (K := M.K) rfl B.len (pv 3)) (pv 1) (nomark _))
        (pss_cons (ps_set (i := 4) sc_read_dictionary.nd rfl (Or.inl rfl) (pe_mt0 R.cl c_Reader_number (hr.mono (by decide)) (pxX (E := E) (takes_of rfl rfl rfl rfl)) (pv 0)))
        (pss_cons (ps_if (pt_cmpR op_ge (pv 4) (pe_len (K := M.K) rfl B.len (pv 2)) (nomark _))
          (pss_one (ps_raise rfl (takes_of rfl rfl rfl rfl) (pmk_ec eMalformed (hr.mono (by decide)) rfl)))
          pss_nil)
        (pss_one (ps_expr (pe_bm PySem.F.plainAttrs_list PySem.F.slot_list_append PySem.F.type_list_append mt_append (pv 3) (pa_cons (pe_ixL (K := M.K) (pv 2) (pv 4) (fun _ _ => rfl)) pa_nil)))))))
      (pss_one (ps_ret (pv 3))))), ?_⟩
    obtain ⟨p, l, os, a, count, rfl, rd, O, ha, hc, out⟩ := h
    refine ⟨_, rfl, p, l, os, a, rfl, rd, O, ha, ?_⟩
    refine rdO_sub out (ExB.refl _ _) (fun er he => bindR_err he) fun known a1 he H1 e1 rd1 k nk hk => ?_
    have eK : valsD count os a = vLoop 3 known count os a1 := bindR_at he
    have n2 := (pfx_known.up he).2 ha
    refine ⟨by show 0 ≤ sizeLine; decide, fun D nD => ⟨_, _, rfl, ?_⟩⟩
    have npD : D ≠ p := rd1.lt nD
    have npk : k ≠ p := rd.lt nk
    have nkD : k ≠ D := fun z => by rw [← z, hk] at nD; cases nD
    have eD := Ex.new (o := .lst []) nD
    refine ⟨fun f σ H' => ∃ w s b, σ = [some (.ref p), some (.int (count : Int)), some (.ref k), some (.ref D), w] ∧ ExB p H1 H' ∧ RdA C H' p l os b ∧ H' k = some (.lst (iv known)) ∧ H' D = some (.lst (iv s)) ∧ s.length ≤ count ∧ Tl (vGo count) (vStep 3 known count) os (valsD count os a) f s b,
      ⟨FU, none, [], a1, rfl, (ExB.refl _ _).mut nD, rd1.ex eD, eD _ _ hk, upd_same, Nat.zero_le _, eK.symm, by have := O.len; simp only [FU]; omega, n2⟩, ?_⟩
    rintro f σ H3 ⟨w, s, b, rfl, e3, rd3, hk3, h3, ls, T⟩
    obtain ⟨⟨dx, h31⟩, h32⟩ := id rd3
    refine ⟨_, rfl, D, _, rfl, .inl (SqL.of h3), _, rfl, _, _, rfl, rfl, _, rfl, ?_⟩
    rw [List.length_map]
    by_cases c : ((s.length : Nat) : Int) < (count : Int)
    · rw [decide_eq_true c]
      refine ⟨_, fun σ' H' z => z, ?_⟩
      obtain ⟨f', rfl, T1, T2⟩ := T.go (decide_eq_true (by omega))
      have es : vStep 3 known count s os b = bindR (num os b) fun c a1 => if (known.length : Int) ≤ c then .error .malf else .ok (s ++ [known.getD c.toNat 0], a1) := rfl
      rw [es] at T1 T2
      refine ⟨_, rfl, p, dx, _, rfl, h31, rfl, p, l, os, b, rfl, rd3, O.oct, O.z, T.al, ?_⟩
      refine rdO_sub out (e1.trans e3) (fun er he => T1 er (bindR_err he)) fun x b' he H4 e4 rd4 => ?_
      obtain ⟨l1, l2⟩ := num_up he
      have x0 := (num_facts O.oct he).1
      rw [bindR_at he] at T1 T2
      have h4 := e4 _ _ npD h3
      have hk4 := e4 _ _ npk hk3
      refine ⟨_, rfl, _, rfl, k, _, rfl, .inl (SqL.of hk4), _, _, rfl, rfl, _, rfl, ?_⟩
      rw [List.length_map]
      by_cases d : ((known.length : Nat) : Int) ≤ x
      · rw [decide_eq_true d]
        rw [if_pos d] at T1
        exact rdO_err out ((e1.trans e3).trans e4) (T1 .malf rfl) b' H4 (ExB.refl _ _) rd4
      · rw [decide_eq_false d]
        rw [if_neg d] at T2
        have T3 := T2 _ _ rfl l1 l2
        have hx : known[x.toNat]? = some (known.getD x.toNat 0) := by
          rw [List.getD_eq_getElem?_getD, List.getElem?_eq_getElem (by omega)]
          rfl
        have ex : x = ((x.toNat : Nat) : Int) := by omega
        refine ⟨_, rfl, .inl ⟨rfl, _, SqL.of h4⟩, _, rfl, _, rfl, k, iv known, x, .int (known.getD x.toNat 0), rfl, rfl, SqL.of hk4, by rw [ex]; exact atI_nat (iv_get hx), D, _, _, rfl, rfl, h4, by rw [List.length_map]; exact szl (by omega), ?_⟩
        refine ⟨f', by omega, some (.int x), s ++ [known.getD x.toNat 0], b', rfl, (e3.trans e4).mut nD, rd4.mut rd1 nD, by rw [upd_ne nkD]; exact hk4, by rw [upd_same]; simp [iv], by simp; omega, T3⟩
    · rw [decide_eq_false c]
      have eR := T.stop (decide_eq_false (by omega))
      exact ⟨_, rfl, rdO_ok out eR H3 (e1.trans e3) rd3 D (e1.back rd1 nD) h3⟩
theorem vals_kind (o : Int) (count : Nat) (os : List Int) (a : Nat) : valsK o count os a = if o = 3 then valsD count os a else vLoop o [] count os a := by
  unfold valsK valsD
  by_cases c : o = 3
  · subst c
    rfl
  · rw [if_neg c, if_neg c]
    rfl
abbrev Rea (M : Md) (a : Addr) : Prop := Four M "READERS" a "read_plain" "read_differences" "read_runs" "read_dictionary"
-- slots of values_from: 0 reader, 1 count, 2 way, 3 read
theorem sc_values_from : FnScope ["reader", "count", "way", "read"] ["reader", "count"] (defScope (top 48)) := ⟨rfl, rfl, rfl, by decide +kernel, rfl, by decide +kernel, by decide +kernel⟩
theorem ok_values_from {M : Md} {C cS cM aR : Addr} (B : Bn M) (R : RdF M C) (T : Rea M aR) (eMalformed : Ec M "Malformed" cM) (c_Reader_take : M.mtx C "take" 4 ["self", "count"] (spTake C cS cM)) (c0 : M.pmx "read_plain" 7 ["reader", "count"] (spRead C cS cM (vLoop 0 []))) (c1 : M.pmx "read_differences" 7 ["reader", "count"] (spRead C cS cM (vLoop 1 []))) (c2 : M.pmx "read_runs" 7 ["reader", "count"] (spRead C cS cM (vLoop 2 []))) (c3 : M.pmx "read_dictionary" 8 ["reader", "count"] (spRead C cS cM valsD)) (F : Fd M "values_from" (top 48)) : M.pmx "values_from" 10 ["reader", "count"] (spRead C cS cM valsFrom) := by
  have kREADERS := T.mg
  refine F.okX sc_values_from ?len (fun _ _ _ _ _ _ us hl => match us, hl with | [_, _], _ => rfl) (fun f cdv A outer s H vs Q E hr h => ?body)
  case len =>
    rintro _ _ _ _ ⟨_, _, _, _, _, rfl, _⟩
    rfl
  case body =>
    refine ⟨_, (pss_cons (ps_set (i := 2) sc_values_from.nd rfl (Or.inl rfl) (pe_ixL (K := M.K) (pe_mt R.cl c_Reader_take (hr.mono (by decide)) (pxX (E := E) (takes_of rfl rfl rfl rfl)) (pv 0) (pa_cons pe_int pa_nil)) pe_int (fun _ _ => rfl)))
      (pss_cons (ps_if (pt_cmpR op_ge (pv 2) (pe_len (K := M.K) rfl B.len (pe_glob (v := .ref aR) rfl kREADERS rfl)) (nomark _))
        (pss_one (ps_raise rfl (takes_of rfl rfl rfl rfl) (pmk_ec eMalformed (hr.mono (by decide)) rfl)))
        pss_nil)
      (pss_cons (ps_set (i := 3) sc_values_from.nd rfl (Or.inl rfl) (pe_ixT (K := M.K) (pe_glob (v := .ref aR) rfl kREADERS rfl) (pv 2) (fun _ _ => rfl)))
      (pss_one (ps_ret (pe_callPX (M := M) (k := 9) (i := 3) (hr.mono (by decide)) rfl (Or.inl rfl) (pxX (E := E) (takes_of rfl rfl rfl rfl)) (pa_cons (pv 0) (pa_cons (pv 1) pa_nil)))))))), ?_⟩
    obtain ⟨p, l, os, a, count, rfl, rd, O, ha, hc, out⟩ := h
    obtain ⟨f0, f1, f2, f3, g0, g1, g2, g3, hT⟩ := T.ex
    obtain ⟨⟨dx, h1⟩, h2⟩ := id rd
    refine ⟨_, rfl, p, dx, _, rfl, h1, rfl, p, l, os, a, rfl, rd, ha, ?_⟩
    refine rdO_sub out (ExB.refl _ _) (fun er he => bindR_err he) fun o a1 he H1 e1 rd1 q nq hq => ?_
    have eV : valsFrom count os a = if 3 < o then .error .malf else valsK o count os a1 := bindR_at he
    have n2 := (pfx_hd.up he).2 ha
    have ho : 0 ≤ o ∧ o ≤ 255 := by
      unfold hd at he
      split at he
      · cases he
      · next o' e =>
        simp only [Except.ok.injEq, Prod.mk.injEq] at he
        rw [← he.1]
        exact O.oct _ (List.mem_of_getElem? e)
    refine ⟨q, [.int o], 0, .int o, rfl, rfl, SqL.of hq, rfl, ?_⟩
    refine ⟨_, rfl, aR, [.ref f0, .ref f1, .ref f2, .ref f3], rfl, .inr (hT _), _, _, rfl, rfl, _, rfl, ?_⟩
    by_cases c : (([V.ref f0, V.ref f1, V.ref f2, V.ref f3].length : Nat) : Int) ≤ o
    · rw [decide_eq_true c]
      have c' : 3 < o := by
        have : ((4 : Nat) : Int) ≤ o := c
        omega
      rw [if_pos c'] at eV
      exact rdO_err out e1 eV a1 H1 (ExB.refl _ _) rd1
    · rw [decide_eq_false c]
      have c' : ¬ 3 < o := fun z => c (show ((4 : Nat) : Int) ≤ o by omega)
      rw [if_neg c', vals_kind] at eV
      rw [eV] at out
      -- the def that reads hands on
      have fin : ∀ (r : Nat → List Int → Nat → Res (List Int)), (if o = 3 then valsD count os a1 else vLoop o [] count os a1) = r count os a1 → spRead C cS cM r [.ref p, .int (count : Int)] H1 Q E := fun r er =>
        ⟨p, l, os, a1, count, rfl, rd1, O, n2, hc, by
          rw [er] at out
          refine rdO_sub out e1 (fun _ he => he) fun xs a2 he H2 e2 rd2 => ?_
          intro z nz hz
          exact rdO_ok out he H2 (e1.trans e2) rd2 z (e1.back rd1 nz) hz⟩
      have e0123 : o = 0 ∨ o = 1 ∨ o = 2 ∨ o = 3 := by omega
      rcases e0123 with rfl | rfl | rfl | rfl
      · exact ⟨_, rfl, aR, _, _, _, rfl, rfl, hT _, rfl, f0, _, rfl, c0.heldX g0 (by decide), _, rfl, _, rfl, fin _ rfl⟩
      · exact ⟨_, rfl, aR, _, _, _, rfl, rfl, hT _, rfl, f1, _, rfl, c1.heldX g1 (by decide), _, rfl, _, rfl, fin _ rfl⟩
      · exact ⟨_, rfl, aR, _, _, _, rfl, rfl, hT _, rfl, f2, _, rfl, c2.heldX g2 (by decide), _, rfl, _, rfl, fin _ rfl⟩
      · exact ⟨_, rfl, aR, _, _, _, rfl, rfl, hT _, rfl, f3, _, rfl, c3.heldX g3 (by decide), _, rfl, _, rfl, fin _ rfl⟩
end L2.EG

set_option Elab.async false
set_option linter.all false
set_option maxRecDepth 100000
set_option maxHeartbeats 4000000
/-! The program's defs, part twelve: unpack_values, times. -/
namespace L2.EG
open PySem PySem.Spec PyProof.Rows EgM
open Evl (Ex ex_l ex_t)

/-- how the two classes are met -/
structure Mt (M : Md) (cS cM : Addr) : Prop where
  anyS : PySem.W.exmAny M.K (.ref cS) [.ref cS, .ref cM] = some true
  anyM : PySem.W.exmAny M.K (.ref cM) [.ref cS, .ref cM] = some true
  ss : PySem.W.exmOne M.K (.ref cS) (.ref cS) = some true
  ms : PySem.W.exmOne M.K (.ref cM) (.ref cS) = some false
  mm : PySem.W.exmOne M.K (.ref cM) (.ref cM) = some true
theorem Mt.any {M : Md} {cS cM : Addr} (T : Mt M cS cM) (e : Er) : PySem.W.exmAny M.K (ce cS cM e) [.ref cS, .ref cM] = some true := by
  cases e
  · exact T.anyS
  · exact T.anyM
theorem sm_vals {os : List Int} (O : OsOk os) {count a : Nat} {vs : List Int} {a' : Nat} (hc : count ≤ 400) (h : valsFrom count os a = .ok (vs, a')) : Sm vs ∧ vs.length = count := by
  obtain ⟨h1, h2⟩ := vals_facts O.oct O.len O.sm hc h
  have e : (128 : Int) ^ 50 = 128 ^ 30 * 128 ^ 20 := by rw [← Int.pow_add]
  have e2 : (128 : Int) ^ 20 = 1393796574908163946345982392040522594123776 := by decide
  have p : (0 : Int) < 128 ^ 30 := Int.pow_pos (by decide)
  refine ⟨⟨by omega, fun x hx => ?_, fun x hx => ?_⟩, h1⟩
  · have := (h2 x hx).1
    rw [e, e2]
    omega
  · have := (h2 x hx).2
    rw [e, e2]
    omega
-- slots of unpack_values: 0 reader, 1 count, 2 begin, 3 found
theorem sc_unpack_values : FnScope ["reader", "count", "begin", "found"] ["reader", "count"] (defScope (top 49)) := ⟨rfl, rfl, rfl, by decide +kernel, rfl, by decide +kernel, by decide +kernel⟩
theorem ok_unpack_values {M : Md} {C cS cM : Addr} (R : RdF M C) (X2 : Mt M cS cM) (eShort : Ec M "Short" cS) (eMalformed : Ec M "Malformed" cM) (c_check_count : M.pm "check_count" 3 ["value"] spCheck) (c_values_from : M.pmx "values_from" 10 ["reader", "count"] (spRead C cS cM valsFrom)) (c_pack_values : M.pm "pack_values" 9 ["values"] (spMapL M.K packed)) (F : Fd M "unpack_values" (top 49)) : M.pmx "unpack_values" 11 ["reader", "count"] (spRead C cS cM unVals) := by
  refine F.okX sc_unpack_values ?len (fun _ _ _ _ _ _ us hl => match us, hl with | [_, _], _ => rfl) (fun f cdv A outer s H vs Q E hr h => ?body)
  case len =>
    rintro _ _ _ _ ⟨_, _, _, _, _, rfl, _⟩
    rfl
  case body =>
    refine ⟨_, (pss_cons (ps_expr (pe_pm c_check_count (hr.mono (by decide)) rfl (pa_cons (pv 1) pa_nil)))
      (pss_cons (ps_set (i := 2) sc_unpack_values.nd rfl (Or.inl rfl) (pe_fldK (K := M.K) (pv 0)))
      (pss_cons (ps_try_re rfl rfl rfl rfl eShort.gC rfl eMalformed.gC (L2H.passesAt_of rfl) (takes_of rfl rfl rfl rfl) (fun W pn xe tk po =>
        (pss_cons (ps_set (i := 3) sc_unpack_values.nd rfl (Or.inl rfl) (pe_pmx (E := WE W) c_values_from (hr.mono (by decide)) rfl (passAt tk) (pa_cons (pv 0) (pa_cons (pv 1) pa_nil))))
        (pss_one (ps_if (pt_cmpR (or_neD (K := M.K) hr.units) (pe_pm c_pack_values (hr.mono (by decide)) rfl (pa_cons (pv 3) pa_nil)) (pe_slL (K := M.K) (pe_fldK (K := M.K) (pv 0)) (po_some (pv 2)) (po_some (pe_fldK (K := M.K) (pv 0)))) (nomark _))
          (pss_one (ps_raise rfl tk (pmk_ec eMalformed (hr.mono (by decide)) rfl)))
          pss_nil)))) (fun _ _ => (ps_fldK (K := M.K) (pv 0) (pv 2))))
      (pss_one (ps_ret (pv 3)))))), ?_⟩
    obtain ⟨p, l, os, a, count, rfl, rd, O, ha, hc, out⟩ := h
    obtain ⟨⟨dx, h1⟩, h2⟩ := id rd
    refine ⟨_, rfl, (count : Int), rfl, by omega, ?_⟩
    refine ⟨_, rfl, p, C, dx, _, _, rfl, h1, R.cl, R.nA, rfl, ?_⟩
    -- an error: the Reader goes back
    have bad : ∀ er, unVals count os a = .error er → ∀ (w : Option V) a' H', ExB p H H' → RdA C H' p l os a' → wRe M.K (.ref cS) (.ref cM) (sFld M.K (tVar 0) (tVar 2) "at") (fun cls d _ H => E cls d H) (ce cS cM er) none [some (.ref p), some (.int (count : Int)), some (.int (a : Int)), w] H' := fun er he w a' H' e' rd' => by
      obtain ⟨⟨dx', h1'⟩, h2'⟩ := id rd'
      refine ⟨X2.any er, _, rfl, _, rfl, p, C, dx', _, rfl, h1', R.cl, R.nA, by show 2 < 1000; decide, ?_⟩
      exact rdO_err out (ExB.refl _ _) he a _ (ExB.set e') (RdA.go h1' h2' a)
    refine ⟨_, rfl, _, rfl, p, l, os, a, count, rfl, rd, O, ha, hc, ?_⟩
    cases hv : valsFrom count os a with
    | error er => exact fun a' H' e' rd' => bad er (bindR_err hv) none a' H' e' rd'
    | ok y =>
      obtain ⟨vs, a1⟩ := y
      have eU : unVals count os a = if packed vs = (os.drop a).take (a1 - a) then .ok (vs, a1) else .error .malf := bindR_at hv
      intro H1 e1 rd1 q nq hq
      obtain ⟨sm, lv⟩ := sm_vals O hc hv
      have n1 := (pfx_vals count).up hv
      refine ⟨_, rfl, q, vs, rfl, SqL.of hq, sm, fun H2 r e2 nr hr => ?_⟩
      have rd2 := rd1.ex e2
      obtain ⟨⟨dx2, h12⟩, h22⟩ := id rd2
      refine ⟨_, rfl, p, C, dx2, _, _, rfl, h12, R.cl, R.nO, rfl, _, rfl, _, rfl, _, rfl, p, C, dx2, _, _, rfl, h12, R.cl, R.nA, rfl, _, rfl, l, iv os, rfl, SqL.of h22, fun z nz => ?_⟩
      have ez := Ex.new (o := .lst (cutV (iv os) (some (a : Int)) (some (a1 : Int)))) nz
      have ec : cutV (iv os) (some (a : Int)) (some (a1 : Int)) = iv ((os.drop a).take (a1 - a)) := by
        rw [cut_nat n1.1 (by rw [List.length_map]; exact n1.2 ha), iv_cut]
      have hz : (upd H2 z (.lst (cutV (iv os) (some (a : Int)) (some (a1 : Int))))) z = some (.lst (iv ((os.drop a).take (a1 - a)))) := by rw [upd_same, ec]
      refine ⟨dI (packed vs), dI ((os.drop a).take (a1 - a)), Dp.ints (SqL.of (ez _ _ hr)), Dp.ints (SqL.of hz), shaped_ints _, shaped_ints _, _, rfl, ?_⟩
      rw [eqv_ints]
      have e12 := e1.trans (ExB.of (e2.trans ez))
      by_cases c : packed vs = (os.drop a).take (a1 - a)
      · rw [decide_eq_true c]
        rw [if_pos c] at eU
        exact ⟨_, rfl, rdO_ok out eU _ e12 (rd2.ex ez) q nq (ez _ _ (e2 _ _ hq))⟩
      · rw [decide_eq_false c]
        rw [if_neg c] at eU
        exact bad .malf eU (some (.ref q)) a1 _ e12 (rd2.ex ez)
end L2.EG

set_option Elab.async false
set_option linter.all false
set_option maxRecDepth 100000
set_option maxHeartbeats 4000000
/-! The program's defs, part thirteen: times. -/
namespace L2.EG
open PySem PySem.Spec PyProof.Rows EgM
open Evl (Ex ex_l ex_t)

/-- times of a moderate size -/
structure TmOk (ts : List Int) : Prop where
  few : ts.length ≤ 1000
  up : ts.Pairwise (· < ·)
  nn : ∀ x ∈ ts, 0 ≤ x
  hi : ∀ x ∈ ts, x < 128 ^ 50
def spIsTimes (K : PySem.W.Frag) : Sp := fun vs H Q _ => ∃ (a : Addr) (ts : List Int), vs = [.ref a] ∧ SqL K H a (iv ts) ∧ TmOk ts ∧ ∀ H', Ex H H' → Q (.bl true) H'
theorem iv_ix {ts : List Int} {i : Nat} (h : i < ts.length) : atI (iv ts) ((i : Nat) : Int) = some (.int (ts.getD i 0)) := by
  refine atI_nat (iv_get ?_)
  rw [List.getD_eq_getElem?_getD, List.getElem?_eq_getElem h]
  rfl
-- slots of is_times: 0 value*, 1 time, 2 at
theorem sc_is_times : FnScope ["value", "time", "at"] ["value"] (defScope (top 51)) := ⟨rfl, rfl, rfl, by decide +kernel, rfl, by decide +kernel, by decide +kernel⟩
theorem ok_is_times {M : Md} (B : Bn M) (c_is_list : M.pm "is_list" 1 ["value"] (spIsList M.K)) (c_is_count : M.pm "is_count" 2 ["value"] spCount) (F : Fd M "is_times" (top 51)) : M.pm "is_times" 3 ["value"] (spIsTimes M.K) := by
  refine F.ok sc_is_times ?len (fun _ _ _ _ _ _ us hl => match us, hl with | [_], _ => rfl) (fun f cdv A outer s H vs Q E hr h => ?body)
  case len =>
    rintro _ _ _ _ ⟨_, _, rfl, _⟩
    rfl
  case body =>
    refine ⟨_, (pss_cons (ps_if (PW.pt (pw_or (pt_not (pt_val (pe_pm c_is_list (hr.mono (by decide)) rfl (pa_cons (pv 0) pa_nil)))) (pw_or1 (pt_not (pt_val (pe_callB (cr_all rfl) rfl B.all (by decide +kernel) (pa_cons (pe_lc (own := [("time", 1)]) (g := (gName 1)) (tt := tYes) rfl sc_is_times.nd (pi_list (pv 0)) (blkOk_by (N := ["value", "time", "at"]) (sc := defScope (top 51)) (by decide +kernel)) (fun _ _ _ _ _ => (pg_name (i := 1) sc_is_times.nd rfl (Or.inl rfl))) (fun _ _ _ _ _ => pts_nil) (fun _ _ _ _ _ => (pe_pm c_is_count (hr.mono (by decide)) rfl (pa_cons (pv 1) pa_nil)))) pa_nil)))))))
        (pss_one (ps_ret pe_bl))
        pss_nil)
      (pss_one (ps_ret (pe_callB (cr_all rfl) rfl B.all (by decide +kernel) (pa_cons (pe_lc (own := [("at", 2)]) (g := (gName 2)) (tt := tYes) rfl sc_is_times.nd (pi_range2 rfl B.range (pa_cons pe_int (pa_cons (pe_len (K := M.K) rfl B.len (pv 0)) pa_nil))) (blkOk_by (N := ["value", "time", "at"]) (sc := defScope (top 51)) (by decide +kernel)) (fun _ _ _ _ _ => (pg_name (i := 2) sc_is_times.nd rfl (Or.inl rfl))) (fun _ _ _ _ _ => pts_nil) (fun _ _ _ _ _ => (pe_cmpR op_lt (pe_ixL (K := M.K) (pv 0) (pe_op op_sub (pv 2) pe_int) (fun _ _ => rfl)) (pe_ixL (K := M.K) (pv 0) (pv 2) (fun _ _ => rfl)) (nomark _)))) pa_nil))))), ?_⟩
    obtain ⟨a, ts, rfl, hs, tm, q⟩ := h
    have few := tm.few
    refine ⟨_, rfl, a, iv ts, rfl, .inl hs, fun H1 e1 => ⟨true, rfl, ?_⟩⟩
    have hs1 := ex_l e1 hs
    refine ⟨_, rfl, a, rfl, ⟨_, hs1⟩, fun D hD => all_yes walk_list (by rw [List.length_map]; omega) hD (fun H e => ex_l e hs1) yat_ex (fun i x H H' Q hi _ y q2 => ?_) gn_mono fun H2 e2 bs hb hall => ?_⟩
    · obtain ⟨rfl, hx⟩ := y
      obtain ⟨n, hn, rfl⟩ := iv_at hx
      refine ⟨rfl, _, rfl, n, rfl, ?_⟩
      rw [dT (tm.nn n (List.mem_of_getElem? hn))]
      exact q2 _ (Ex.refl _)
    · refine ⟨D, bs, rfl, SqL.of hb, ?_⟩
      rw [hall]
      have hs2 := ex_l e2 hs1
      refine ⟨true, rfl, _, rfl, a, _, rfl, .inl hs2, 1, _, rfl, ⟨by decide, by decide, by omega, by rw [List.length_map]; omega⟩, fun D2 nD2 => ?_⟩
      rw [List.length_map]
      have en : (((ts.length : Nat) : Int) - 1).toNat = ts.length - 1 := by omega
      rw [en]
      refine all_yes walk_range (by omega) nD2 (fun _ _ => True.intro) yfn_ex (fun i x H3 H' Q hi e3 y q2 => ?_) gn_mono fun H3 e3 bs hb hall => ?_
      · obtain ⟨rfl, rfl⟩ := y
        have hs3 := ex_l e3 hs2
        have e0 : (1 : Int) + (i : Int) - 1 = ((i : Nat) : Int) := by omega
        have e4 : (1 : Int) + (i : Int) = ((i + 1 : Nat) : Int) := by omega
        have lt := pw_get tm.up (i := i + 1) (by omega) (by omega)
        rw [Nat.add_sub_cancel] at lt
        refine ⟨rfl, _, rfl, _, rfl, _, _, rfl, rfl, a, iv ts, _, .int (ts.getD i 0), rfl, rfl, hs3, by rw [e0]; exact iv_ix (by omega), _, rfl, _, rfl, a, iv ts, _, .int (ts.getD (i + 1) 0), rfl, rfl, hs3, by rw [e4]; exact iv_ix (by omega), _, _, rfl, rfl, ?_⟩
        have q3 := q2 _ (Ex.refl _)
        rw [← dT lt] at q3
        exact q3
      · refine ⟨D2, bs, rfl, SqL.of hb, ?_⟩
        rw [hall]
        exact q _ ((e1.trans e2).trans e3)
def spPackT (K : PySem.W.Frag) : Sp := fun vs H Q _ => ∃ (a : Addr) (ts : List Int), vs = [.ref a] ∧ SqL K H a (iv ts) ∧ TmOk ts ∧ retL H Q (timesO ts)
theorem tO_len {ts : List Int} (h : TmOk ts) {i : Nat} (hi : i < ts.length) : (tO ts i).length ≤ 52 := by
  have p := p50
  have m0 := getD_mem (l := ts) (k := 0) (by omega)
  have mi := getD_mem (l := ts) (k := i) hi
  have m1 := getD_mem (l := ts) (k := i - 1) (by omega)
  have m2 := getD_mem (l := ts) (k := i - 2) (by omega)
  have a0 := h.nn _ m0
  have a1 := h.nn _ m1
  have a2 := h.nn _ m2
  have ai := h.nn _ mi
  have b0 := h.hi _ m0
  have b1 := h.hi _ m1
  have b2 := h.hi _ m2
  have bi := h.hi _ mi
  unfold tO
  split
  · exact Nat.le_trans (numO_len 49 a0 b0) (by omega)
  · split
    · next e =>
      subst e
      have := pw_get h.up (i := 1) (by omega) hi
      simp only [Nat.sub_self] at this
      exact Nat.le_trans (numO_len 49 (by omega) (by omega)) (by omega)
    · exact Nat.le_trans (sgn_len (k := 51) (by omega) (by omega)) (by omega)
-- slots of pack_times: 0 times, 1 found, 2 at, 3 time
theorem sc_pack_times : FnScope ["times", "found", "at", "time"] ["times"] (defScope (top 52)) := ⟨rfl, rfl, rfl, by decide +kernel, rfl, by decide +kernel, by decide +kernel⟩
theorem ok_pack_times {M : Md} (B : Bn M) (c_is_times : M.pm "is_times" 3 ["value"] (spIsTimes M.K)) (c_signed_octets : M.pm "signed_octets" 5 ["value"] spSgnO) (c_number_octets : M.pm "number_octets" 4 ["count"] spNumO) (F : Fd M "pack_times" (top 52)) : M.pm "pack_times" 6 ["times"] (spPackT M.K) := by
  refine F.ok sc_pack_times ?len (fun _ _ _ _ _ _ us hl => match us, hl with | [_], _ => rfl) (fun f cdv A outer s H vs Q E hr h => ?body)
  case len =>
    rintro _ _ _ _ ⟨_, _, rfl, _⟩
    rfl
  case body =>
    refine ⟨_, (pss_cons (ps_if (pt_not (pt_val (pe_pm c_is_times (hr.mono (by decide)) rfl (pa_cons (pv 0) pa_nil))))
        (pss_one ps_never)
        pss_nil)
      (pss_cons (ps_set (i := 1) sc_pack_times.nd rfl (Or.inl rfl) (pe_pm c_number_octets (hr.mono (by decide)) rfl (pa_cons (pe_len (K := M.K) rfl B.len (pv 0)) pa_nil)))
      (pss_cons (ps_for PassesOwn.never rfl (pi_enum rfl B.enumerate (pa_cons (pv 0) pa_nil)) (pg_tup rfl (pgs_cons (pg_name (i := 2) sc_pack_times.nd rfl (Or.inl rfl)) (pgs_cons (pg_name (i := 3) sc_pack_times.nd rfl (Or.inl rfl)) pgs_nil)))
        (pss_one (ps_if (pt_cmpR op_eq (pv 2) pe_int (nomark _))
          (pss_one (ps_expr (pe_bm PySem.F.plainAttrs_list PySem.F.slot_list_extend PySem.F.type_list_extend mt_extend (pv 1) (pa_cons (pe_pm c_number_octets (hr.mono (by decide)) rfl (pa_cons (pv 3) pa_nil)) pa_nil))))
          (pss_one (ps_if (pt_cmpR op_eq (pv 2) pe_int (nomark _))
            (pss_one (ps_expr (pe_bm PySem.F.plainAttrs_list PySem.F.slot_list_extend PySem.F.type_list_extend mt_extend (pv 1) (pa_cons (pe_pm c_number_octets (hr.mono (by decide)) rfl (pa_cons (pe_op op_sub (pe_op op_sub (pv 3) (pe_ixL (K := M.K) (pv 0) pe_int (fun _ _ => rfl))) pe_int) pa_nil)) pa_nil))))
            (pss_one (ps_expr (pe_bm PySem.F.plainAttrs_list PySem.F.slot_list_extend PySem.F.type_list_extend mt_extend (pv 1) (pa_cons (pe_pm c_signed_octets (hr.mono (by decide)) rfl (pa_cons (pe_op op_add (pe_op op_sub (pv 3) (pe_op op_mul pe_int (pe_ixL (K := M.K) (pv 0) (pe_op op_sub (pv 2) pe_int) (fun _ _ => rfl)))) (pe_ixL (K := M.K) (pv 0) (pe_op op_sub (pv 2) pe_int) (fun _ _ => rfl))) pa_nil)) pa_nil)))))))))
      (pss_one (ps_ret (pv 1)))))), ?_⟩
    obtain ⟨a, ts, rfl, hs, tm, q⟩ := h
    have few := tm.few
    have e14 : (128 : Int) ^ 2 = 16384 := by decide
    have pz : (128 : Int) ^ 2 ≤ 128 ^ 5000 := pow_le_pow (by omega)
    refine ⟨_, rfl, a, ts, rfl, hs, tm, fun H1 e1 => ⟨true, rfl, ?_⟩⟩
    have hs1 := ex_l e1 hs
    refine ⟨_, rfl, a, _, rfl, .inl hs1, _, rfl, by omega, by rw [List.length_map]; omega, fun H2 p e2 np hp => ?_⟩
    rw [List.length_map] at hp
    have hs2 := ex_l e2 hs1
    have nH := Evl.fresh_back e1 np
    have e12 := e1.trans e2
    have len0 := numO_len 1 (i := ((ts.length : Nat) : Int)) (by omega) (by omega)
    refine ⟨_, rfl, a, iv ts, rfl, hs2, ?_⟩
    refine for_it walk_enum (fun i σ H' => ∃ w w', σ = [some (.ref a), some (.ref p), w, w'] ∧ Ex H H' ∧ H' p = some (.lst (iv (numO ts.length ++ (List.range i).flatMap (tO ts))))) ⟨none, none, rfl, e12, by rw [hp]; simp⟩ (fun i σ H' _ h => by obtain ⟨_, _, _, e, _⟩ := h; exact ex_l e hs) ?_ ?_
    · rintro i x σ H3 H4 hi ⟨w, w', rfl, e3, h3⟩ ⟨T, u, v, rfl, nT, rfl, hu, hv⟩
      cases hu
      obtain ⟨n, hn, rfl⟩ := iv_at hv
      rw [List.length_map] at hi
      have gD : ts.getD i 0 = n := by rw [List.getD_eq_getElem?_getD, hn]; rfl
      have eT := Ex.new (o := .tup [.int (i : Nat), .int n]) nT
      have h3T := eT _ _ h3
      have hs3 := ex_l (e3.trans eT) hs
      have lacc := flat_len (l := List.range i) (f := tO ts) (b := 52) (fun j hj => tO_len tm (by have := List.mem_range.mp hj; omega))
      rw [List.length_range] at lacc
      have lk := tO_len tm hi
      have fin : ∀ (H8 : Hp) (r : Addr), Ex (upd H3 T (.tup [.int (i : Nat), .int n])) H8 → H8 r = some (.lst (iv (tO ts i))) → ∃ l b zs ys, V.ref p = V.ref l ∧ [V.ref r] = [V.ref b] ∧ H8 l = some (.lst zs) ∧ H8 b = some (.lst ys) ∧ zs.length + ys.length ≤ sizeLine ∧
          ∃ w w', [some (V.ref a), some (.ref p), some (.int (i : Nat)), some (.int n)] = [some (V.ref a), some (.ref p), w, w'] ∧ Ex H (upd H8 l (.lst (zs ++ ys))) ∧
            (upd H8 l (.lst (zs ++ ys))) p = some (.lst (iv (numO ts.length ++ (List.range (i + 1)).flatMap (tO ts)))) := fun H8 r e8 hr => by
        refine ⟨p, r, _, _, rfl, rfl, e8 _ _ h3T, hr, ?_, _, _, rfl, ?_, ?_⟩
        · rw [List.length_map, List.length_map, List.length_append]
          exact sz (by omega)
        · exact (e3.trans (eT.trans e8)).mut nH
        · rw [upd_same, range_flat, iv, iv, iv, List.map_append, List.map_append, List.map_append, List.append_assoc]
      refine ⟨T, _, rfl, SqT.of upd_same, rfl, _, _, rfl, _, _, rfl, rfl, ?_⟩
      refine ⟨_, rfl, rfl, _, rfl, ?_⟩
      rw [dec_int']
      have bn := tm.hi _ (List.mem_of_getElem? hn)
      have an := tm.nn _ (List.mem_of_getElem? hn)
      have p5 : (128 : Int) ^ 50 ≤ 128 ^ 5000 := pow_le_pow (by omega)
      have p51 := p50
      have p4 : (128 : Int) ^ 51 ≤ 128 ^ 4000 := pow_le_pow (by omega)
      by_cases c : ((i : Nat) : Int) = 0
      · rw [decide_eq_true c]
        have ei : i = 0 := by omega
        refine ⟨_, rfl, .inl ⟨rfl, _, SqL.of h3T⟩, _, rfl, n, rfl, an, by omega, fun H8 r e8 nr hr => fin H8 r e8 ?_⟩
        rw [hr, tO, if_pos ei, ← gD, ei]
      · rw [decide_eq_false c]
        refine ⟨_, rfl, rfl, _, rfl, ?_⟩
        rw [dec_int']
        have m0 := getD_mem (l := ts) (k := 0) (by omega)
        have a0 := tm.nn _ m0
        have b0 := tm.hi _ m0
        by_cases c1 : ((i : Nat) : Int) = 1
        · rw [decide_eq_true c1]
          have ei : i = 1 := by omega
          subst ei
          have lt := pw_get tm.up (i := 1) (by omega) hi
          simp only [Nat.sub_self] at lt
          refine ⟨_, rfl, .inl ⟨rfl, _, SqL.of h3T⟩, _, rfl, _, rfl, a, iv ts, _, .int (ts.getD 0 0), rfl, rfl, hs3, iv_ix (i := 0) (by omega), _, _, rfl, rfl, _, _, rfl, rfl, n - ts.getD 0 0 - 1, rfl, by omega, by omega, fun H8 r e8 nr hr => fin H8 r e8 ?_⟩
          rw [hr, tO, if_neg (by omega), if_pos rfl, gD]
        · rw [decide_eq_false c1]
          have m1 := getD_mem (l := ts) (k := i - 1) (by omega)
          have m2 := getD_mem (l := ts) (k := i - 2) (by omega)
          have a1 := tm.nn _ m1
          have a2 := tm.nn _ m2
          have b1 := tm.hi _ m1
          have b2 := tm.hi _ m2
          have e1' : ((i : Nat) : Int) - 1 = ((i - 1 : Nat) : Int) := by omega
          have e2' : ((i : Nat) : Int) - 2 = ((i - 2 : Nat) : Int) := by omega
          refine ⟨_, rfl, .inl ⟨rfl, _, SqL.of h3T⟩, _, rfl, _, rfl, _, rfl, _, _, rfl, rfl, a, iv ts, _, .int (ts.getD (i - 1) 0), rfl, rfl, hs3, by rw [e1']; exact iv_ix (by omega), _, _, rfl, rfl, .inl ⟨by decide, by decide⟩, _, _, rfl, rfl, ?_⟩
          refine ⟨_, rfl, _, rfl, _, _, rfl, rfl, a, iv ts, _, .int (ts.getD (i - 2) 0), rfl, rfl, hs3, by rw [e2']; exact iv_ix (by omega), _, _, rfl, rfl, n - 2 * ts.getD (i - 1) 0 + ts.getD (i - 2) 0, rfl, by omega, by omega, fun H8 r e8 nr hr => fin H8 r e8 ?_⟩
          rw [hr, tO, if_neg (by omega), if_neg (by omega), gD]
    · rintro σ H3 ⟨w, w', rfl, e3, h3⟩
      rw [List.length_map] at h3
      exact ⟨_, rfl, q _ p e3 nH h3⟩
/-- what times_from, unpack_times read -/
def spTimes (C cS cM : Addr) : Sp := fun vs H Q E => ∃ (p l : Addr) (os : List Int) (a : Nat), vs = [.ref p] ∧ RdA C H p l os a ∧ OsOk os ∧ a ≤ os.length ∧ rdO C cS cM p l os H (times os a) (rdL H Q) E
abbrev tGo (many : Int) : List Int × Int → Bool := fun s => decide ((s.1.length : Int) < many)
-- slots of times_from: 0 reader, 1 many, 2 found, 3 gap
theorem sc_times_from : FnScope ["reader", "many", "found", "gap"] ["reader"] (defScope (top 53)) := ⟨rfl, rfl, rfl, by decide +kernel, rfl, by decide +kernel, by decide +kernel⟩
theorem ok_times_from {M : Md} {C cS cM : Addr} (B : Bn M) (R : RdF M C) (eMalformed : Ec M "Malformed" cM) (c_Reader_signed : M.mtx C "signed" 6 ["self"] (spSigned C cS cM)) (c_Reader_number : M.mtx C "number" 5 ["self"] (spNumber C cS cM)) (F : Fd M "times_from" (top 53)) : M.pmx "times_from" 7 ["reader"] (spTimes C cS cM) := by
  refine F.okX sc_times_from ?len (fun _ _ _ _ _ _ us hl => match us, hl with | [_], _ => rfl) (fun f cdv A outer s H vs Q E hr h => ?body)
  case len =>
    rintro _ _ _ _ ⟨_, _, _, _, rfl, _⟩
    rfl
  case body =>
    refine ⟨_, (pss_cons (ps_par3 (i := 1) (j := 2) (l := 3) rfl sc_times_from.nd rfl rfl rfl (by decide) (by decide) (by decide) rfl rfl rfl (pa_cons (pe_mt0 R.cl c_Reader_number (hr.mono (by decide)) (pxX (E := E) (takes_of rfl rfl rfl rfl)) (pv 0)) (pa_cons (pe_lst pa_nil) (pa_cons pe_int pa_nil))) (by rfl))
      (pss_cons (ps_while (passes_of rfl) (pt_cmpR op_lt (pe_len (K := M.K) rfl B.len (pv 2)) (pv 1) (nomark _))
        (pss_one (ps_if (pt_cmpR (or_eqD (K := M.K) hr.units) (pv 2) (pe_lst pa_nil) (nomark _))
          (pss_one (ps_expr (pe_bm PySem.F.plainAttrs_list PySem.F.slot_list_append PySem.F.type_list_append mt_append (pv 2) (pa_cons (pe_mt0 R.cl c_Reader_number (hr.mono (by decide)) (pxX (E := E) (takes_of rfl rfl rfl rfl)) (pv 0)) pa_nil))))
          (pss_cons (ps_set (i := 3) sc_times_from.nd rfl (Or.inl rfl) (pe_ifExp (pt_cmpR op_eq (pe_len (K := M.K) rfl B.len (pv 2)) pe_int (nomark _)) (pe_op op_add (pe_mt0 R.cl c_Reader_number (hr.mono (by decide)) (pxX (E := E) (takes_of rfl rfl rfl rfl)) (pv 0)) pe_int) (pe_op op_add (pv 3) (pe_mt0 R.cl c_Reader_signed (hr.mono (by decide)) (pxX (E := E) (takes_of rfl rfl rfl rfl)) (pv 0)))))
          (pss_cons (ps_if (pt_cmpR op_lt (pv 3) pe_int (nomark _))
            (pss_one (ps_raise rfl (takes_of rfl rfl rfl rfl) (pmk_ec eMalformed (hr.mono (by decide)) rfl)))
            pss_nil)
          (pss_one (ps_expr (pe_bm PySem.F.plainAttrs_list PySem.F.slot_list_append PySem.F.type_list_append mt_append (pv 2) (pa_cons (pe_op op_add (pe_ixL (K := M.K) (pv 2) (pe_un un_neg pe_int) (fun _ _ => rfl)) (pv 3)) pa_nil)))))))))
      (pss_one (ps_ret (pv 2))))), ?_⟩
    obtain ⟨p, l, os, a, rfl, rd, O, ha, out⟩ := h
    obtain ⟨⟨dx0, h01⟩, h02⟩ := id rd
    refine ⟨_, rfl, p, dx0, _, rfl, h01, rfl, p, l, os, a, rfl, rd, O.oct, O.z, ha, ?_⟩
    refine rdO_sub out (ExB.refl _ _) (fun er he => bindR_err he) fun many a1 he H1 e1 rd1 => ?_
    obtain ⟨n1, n2⟩ := num_up he
    have eK : times os a = bindR (loopR (tGo many) tmStep FU ([], 0) os a1) fun s a2 => .ok (s.1, a2) := bindR_at he
    generalize hR0 : loopR (tGo many) tmStep FU ([], 0) os a1 = R0 at eK
    refine ⟨by show 0 ≤ sizeLine; decide, fun D nD => ⟨_, _, _, rfl, ?_⟩⟩
    have npD : D ≠ p := rd1.lt nD
    have eD := Ex.new (o := .lst []) nD
    have lO := O.len
    refine ⟨fun f σ H' => ∃ s b, σ = [some (.ref p), some (.int many), some (.ref D), some (.int s.2)] ∧ ExB p H1 H' ∧ RdA C H' p l os b ∧ H' D = some (.lst (iv s.1)) ∧ s.1.length ≤ b ∧ Tl (tGo many) tmStep os R0 f s b,
      ⟨FU, ([], 0), a1, rfl, (ExB.refl _ _).mut nD, rd1.ex eD, upd_same, Nat.zero_le _, hR0, by simp only [FU]; omega, n2⟩, ?_⟩
    rintro f σ H3 ⟨⟨s, g⟩, b, rfl, e3, rd3, h3, ls, T⟩
    simp only at h3 ls
    obtain ⟨⟨dx, h31⟩, h32⟩ := id rd3
    refine ⟨_, rfl, D, _, rfl, .inl (SqL.of h3), _, rfl, _, _, rfl, rfl, _, rfl, ?_⟩
    rw [List.length_map]
    by_cases c : ((s.length : Nat) : Int) < many
    · rw [decide_eq_true c]
      refine ⟨_, fun σ' H' z => z, ?_⟩
      obtain ⟨f', rfl, T1, T2⟩ := T.go (decide_eq_true c)
      have es : tmStep (s, g) os b = bindR (num os b) fun c a' => if s = [] then .ok (([c], g), a') else
          if (if s.length = 1 then c + 1 else g + unz c) < 1 then .error .malf else .ok ((s ++ [s.getLastD 0 + (if s.length = 1 then c + 1 else g + unz c)], (if s.length = 1 then c + 1 else g + unz c)), a') := rfl
      rw [es] at T1 T2
      have bl := T.al
      refine ⟨_, rfl, by show 0 ≤ sizeLine; decide, fun z nz => ?_⟩
      have ez := Ex.new (o := .lst []) nz
      have h3z := ez _ _ h3
      have rdz := rd3.ex ez
      have e3z := e3.trans (ExB.of ez)
      obtain ⟨⟨dxz, hz1⟩, hz2⟩ := id rdz
      refine ⟨dI s, dI [], Dp.ints (SqL.of h3z), Dp.ints (xs := []) (SqL.of upd_same), shaped_ints s, rfl, _, rfl, ?_⟩
      rw [eqv_ints]
      -- an error of the loop is the whole's
      have bad : ∀ er, R0 = .error er → times os a = .error er := fun er he => by rw [eK, he]; rfl
      by_cases d : s = []
      · rw [decide_eq_true d]
        subst d
        refine ⟨_, rfl, .inl ⟨rfl, _, SqL.of h3z⟩, _, rfl, p, dxz, _, rfl, hz1, rfl, p, l, os, b, rfl, rdz, O.oct, O.z, bl, ?_⟩
        refine rdO_sub out (e1.trans e3z) (fun er he => bad er (T1 er (bindR_err he))) fun x b' he H4 e4 rd4 => ?_
        obtain ⟨l1, l2⟩ := num_up he
        rw [bindR_at he, if_pos rfl] at T2
        refine ⟨D, _, _, rfl, rfl, e4 _ _ npD h3z, by rw [List.length_map]; exact szl (by show 0 < 1000000; decide), f', by omega, ([x], g), b', rfl, (e3z.trans e4).mut nD, rd4.mut rd1 nD, by rw [upd_same]; rfl, by show 1 ≤ b'; omega, T2 _ _ rfl l1 l2⟩
      · rw [decide_eq_false d]
        refine ⟨_, rfl, D, _, rfl, .inl (SqL.of h3z), rfl, _, rfl, ?_⟩
        rw [dec_int', List.length_map]
        -- behind the gap
        have fin : ∀ (cc : Int) (b' : Nat) (H4 : Hp) (gg : Int), num os b = .ok (cc, b') → ExB p (upd H3 z (.lst [])) H4 → RdA C H4 p l os b' → gg = (if s.length = 1 then cc + 1 else g + unz cc) →
            (gg < 1 → E (.ref cM) none H4) ∧ (¬ gg < 1 → H4 D = some (.lst (iv s)) ∧ (iv s).length < sizeLine ∧ ∃ w, atI (iv s) (-1) = some (.int w) ∧ ∃ m', m' < f' + 1 ∧ ∃ s2 b, [some (V.ref p), some (.int many), some (.ref D), some (.int gg)] = [some (V.ref p), some (.int many), some (.ref D), some (.int s2.2)] ∧
              ExB p H1 (upd H4 D (.lst (iv s ++ [.int (w + gg)]))) ∧ RdA C (upd H4 D (.lst (iv s ++ [.int (w + gg)]))) p l os b ∧ (upd H4 D (.lst (iv s ++ [.int (w + gg)]))) D = some (.lst (iv s2.1)) ∧ s2.1.length ≤ b ∧ Tl (tGo many) tmStep os R0 m' s2 b) := fun cc b' H4 gg q e4 rd4 eg => by
          obtain ⟨l1, l2⟩ := num_up q
          have T1' := T1
          have T2' := T2
          rw [bindR_at q, if_neg d, ← eg] at T1' T2'
          refine ⟨fun lt => ?_, fun ge => ?_⟩
          · rw [if_pos lt] at T1'
            exact rdO_err out (e1.trans (e3z.trans e4)) (bad .malf (T1' .malf rfl)) b' H4 (ExB.refl _ _) rd4
          · rw [if_neg ge] at T2'
            rcases snoc_cases s with e | ⟨s0, w, rfl⟩
            · exact absurd e d
            · have hlast : atI (iv (s0 ++ [w])) (-1) = some (.int w) := by
                rw [iv, List.map_append]
                exact atI_end
              have T3 := T2' _ _ rfl l1 l2
              rw [List.getLastD_concat] at T3
              refine ⟨e4 _ _ npD h3z, by rw [List.length_map]; exact szl (by omega), w, hlast, f', by omega, (s0 ++ [w] ++ [w + gg], gg), b', rfl, (e3z.trans e4).mut nD, rd4.mut rd1 nD, ?_, ?_, T3⟩
              · rw [upd_same]
                simp [iv]
              · show (s0 ++ [w] ++ [w + gg]).length ≤ b'
                rw [List.length_append]
                have : ([w + gg] : List Int).length = 1 := rfl
                omega
        by_cases c1 : ((s.length : Nat) : Int) = 1
        · rw [decide_eq_true c1]
          refine ⟨_, rfl, p, dxz, _, rfl, hz1, rfl, p, l, os, b, rfl, rdz, O.oct, O.z, bl, ?_⟩
          refine rdO_sub out (e1.trans e3z) (fun er he => bad er (T1 er (bindR_err he))) fun x b' he H4 e4 rd4 => ?_
          refine ⟨_, _, rfl, rfl, ?_⟩
          obtain ⟨f1, f2⟩ := fin x b' H4 (x + 1) he e4 rd4 (by rw [if_pos (by omega)])
          refine ⟨_, rfl, _, _, rfl, rfl, _, rfl, ?_⟩
          by_cases lt : x + 1 < 1
          · rw [decide_eq_true lt]
            exact f1 lt
          · rw [decide_eq_false lt]
            obtain ⟨h4, hz4, w, hw, rest⟩ := f2 lt
            exact ⟨_, rfl, .inl ⟨rfl, _, SqL.of h4⟩, _, rfl, _, rfl, D, _, _, _, rfl, rfl, SqL.of h4, hw, _, rfl, _, _, rfl, rfl, D, _, _, rfl, rfl, h4, hz4, rest⟩
        · rw [decide_eq_false c1]
          refine ⟨_, rfl, _, rfl, p, dxz, _, rfl, hz1, rfl, p, l, os, b, rfl, rdz, O.oct, O.z, bl, ?_⟩
          refine rdO_sub out (e1.trans e3z) (fun er he => ?_) fun x b' he H4 e4 rd4 => ?_
          · rw [sgn_num] at he
            cases q : num os b with
            | error er' =>
              rw [bindR_err q] at he
              exact bad er (T1 er (by rw [bindR_err q]; cases he; rfl))
            | ok y =>
              obtain ⟨c, b1⟩ := y
              rw [bindR_at q] at he
              cases he
          · rw [sgn_num] at he
            obtain ⟨cc, b1, q, he⟩ := bindR_inv he
            cases he
            refine ⟨_, _, rfl, rfl, ?_⟩
            obtain ⟨f1, f2⟩ := fin cc b' H4 (g + unz cc) q e4 rd4 (by rw [if_neg (by omega)])
            refine ⟨_, rfl, _, _, rfl, rfl, _, rfl, ?_⟩
            by_cases lt : g + unz cc < 1
            · rw [decide_eq_true lt]
              exact f1 lt
            · rw [decide_eq_false lt]
              obtain ⟨h4, hz4, w, hw, rest⟩ := f2 lt
              exact ⟨_, rfl, .inl ⟨rfl, _, SqL.of h4⟩, _, rfl, _, rfl, D, _, _, _, rfl, rfl, SqL.of h4, hw, _, rfl, _, _, rfl, rfl, D, _, _, rfl, rfl, h4, hz4, rest⟩
    · rw [decide_eq_false c]
      have eR := T.stop (decide_eq_false c)
      have eT : times os a = .ok (s, b) := by rw [eK, eR]; rfl
      exact ⟨_, rfl, rdO_ok out eT H3 (e1.trans e3) rd3 D (e1.back rd1 nD) h3⟩
-- slots of unpack_times: 0 reader, 1 begin, 2 found
theorem sc_unpack_times : FnScope ["reader", "begin", "found"] ["reader"] (defScope (top 54)) := ⟨rfl, rfl, rfl, by decide +kernel, rfl, by decide +kernel, by decide +kernel⟩
theorem ok_unpack_times {M : Md} {C cS cM : Addr} (R : RdF M C) (X2 : Mt M cS cM) (eShort : Ec M "Short" cS) (eMalformed : Ec M "Malformed" cM) (c_times_from : M.pmx "times_from" 7 ["reader"] (spTimes C cS cM)) (F : Fd M "unpack_times" (top 54)) : M.pmx "unpack_times" 8 ["reader"] (spTimes C cS cM) := by
  refine F.okX sc_unpack_times ?len (fun _ _ _ _ _ _ us hl => match us, hl with | [_], _ => rfl) (fun f cdv A outer s H vs Q E hr h => ?body)
  case len =>
    rintro _ _ _ _ ⟨_, _, _, _, rfl, _⟩
    rfl
  case body =>
    refine ⟨_, (pss_cons (ps_set (i := 1) sc_unpack_times.nd rfl (Or.inl rfl) (pe_fldK (K := M.K) (pv 0)))
      (pss_cons (ps_try_re rfl rfl rfl rfl eShort.gC rfl eMalformed.gC (L2H.passesAt_of rfl) (takes_of rfl rfl rfl rfl) (fun W pn xe tk po =>
        (pss_one (ps_set (i := 2) sc_unpack_times.nd rfl (Or.inl rfl) (pe_pmx (E := WE W) c_times_from (hr.mono (by decide)) rfl (passAt tk) (pa_cons (pv 0) pa_nil))))) (fun _ _ => (ps_fldK (K := M.K) (pv 0) (pv 1))))
      (pss_one (ps_ret (pv 2))))), ?_⟩
    obtain ⟨p, l, os, a, rfl, rd, O, ha, out⟩ := h
    obtain ⟨⟨dx, h1⟩, h2⟩ := id rd
    refine ⟨_, rfl, p, C, dx, _, _, rfl, h1, R.cl, R.nA, rfl, ?_⟩
    refine ⟨_, rfl, p, l, os, a, rfl, rd, O, ha, ?_⟩
    cases hv : times os a with
    | error er =>
      intro a' H' e' rd'
      obtain ⟨⟨dx', h1'⟩, h2'⟩ := id rd'
      refine ⟨X2.any er, _, rfl, _, rfl, p, C, dx', _, rfl, h1', R.cl, R.nA, by show 2 < 1000; decide, ?_⟩
      exact rdO_err out (ExB.refl _ _) hv a _ (ExB.set e') (RdA.go h1' h2' a)
    | ok y =>
      obtain ⟨ts, a1⟩ := y
      intro H1 e1 rd1 q nq hq
      exact ⟨_, rfl, rdO_ok out hv H1 e1 rd1 q nq hq⟩
end L2.EG

set_option Elab.async false
set_option linter.all false
set_option maxRecDepth 100000
set_option maxHeartbeats 4000000
/-! The program's defs, part fourteen: points, pack, unpack. -/
namespace L2.EG
open PySem PySem.Spec PyProof.Rows EgM
open Evl (Ex ex_l ex_t)

def spPoint (K : PySem.W.Frag) : Sp := fun vs H Q _ => ∃ (q : Addr) (t v : Int), vs = [.ref q] ∧ H q = some (.tup [.int t, .int v]) ∧ 0 ≤ t ∧ Q (.bl true) H
-- slots of is_point: 0 value
theorem sc_is_point : FnScope ["value"] ["value"] (defScope (top 19)) := ⟨rfl, rfl, rfl, by decide +kernel, rfl, by decide +kernel, by decide +kernel⟩
theorem ok_is_point {M : Md} (B : Bn M) (c_is_count : M.pm "is_count" 2 ["value"] spCount) (c_is_value : M.pm "is_value" 2 ["value"] spInt) (F : Fd M "is_point" (top 19)) : M.pm "is_point" 3 ["value"] (spPoint M.K) := by
  refine F.ok sc_is_point ?len (fun _ _ _ _ _ _ us hl => match us, hl with | [_], _ => rfl) (fun f cdv A outer s H vs Q E hr h => ?body)
  case len =>
    rintro _ _ _ _ ⟨_, _, _, rfl, _⟩
    rfl
  case body =>
    refine ⟨_, (pss_one (ps_ret (pe_and (pe_callB call_isi rfl B.isinstance (by decide +kernel) (pa_cons (pv 0) (pa_cons (pe_bltn (v := .ty "tuple") rfl B.tuple (by decide +kernel) rfl) pa_nil))) (pe_and (pe_cmpR op_eq (pe_len (K := M.K) rfl B.len (pv 0)) pe_int (nomark _)) (pe_and (pe_pm c_is_count (hr.mono (by decide)) rfl (pa_cons (pe_ixT (K := M.K) (pv 0) pe_int (fun _ _ => rfl)) pa_nil)) (pe_one (pe_pm c_is_value (hr.mono (by decide)) rfl (pa_cons (pe_ixT (K := M.K) (pv 0) pe_int (fun _ _ => rfl)) pa_nil)))))))), ?_⟩
    obtain ⟨p, t, v, rfl, hp, t0, q⟩ := h
    refine ⟨_, rfl, .ref p, .ty "tuple", .type "tuple", .type "tuple", true, rfl, .ty _, .base (.tup hp), rfl, true, rfl, ?_⟩
    refine ⟨_, rfl, p, _, rfl, .inr (SqT.of hp), rfl, true, rfl, ?_⟩
    refine ⟨_, rfl, p, _, 0, .int t, rfl, rfl, SqT.of hp, rfl, t, rfl, true, dT t0, ?_⟩
    exact ⟨_, rfl, p, _, 1, .int v, rfl, rfl, SqT.of hp, rfl, v, rfl, q⟩
def spPoints (K : PySem.W.Frag) : Sp := fun vs H Q _ => ∃ (a : Addr) (tl : List V) (rs : List (Int × Int)), vs = [.ref a] ∧ H a = some (.lst tl) ∧ TupL H tl rs ∧ TmOk (rs.map Prod.fst) ∧ ∀ H', Ex H H' → Q (.bl true) H'
theorem fst_get {rs : List (Int × Int)} {i : Nat} {r : Int × Int} (h : rs[i]? = some r) : (rs.map Prod.fst).getD i 0 = r.1 := by
  rw [List.getD_eq_getElem?_getD, List.getElem?_map, h]
  rfl
-- slots of is_points: 0 value*, 1 one, 2 k
theorem sc_is_points : FnScope ["value", "one", "k"] ["value"] (defScope (top 20)) := ⟨rfl, rfl, rfl, by decide +kernel, rfl, by decide +kernel, by decide +kernel⟩
theorem ok_is_points {M : Md} (B : Bn M) (c_is_list : M.pm "is_list" 1 ["value"] (spIsList M.K)) (c_is_point : M.pm "is_point" 3 ["value"] (spPoint M.K)) (F : Fd M "is_points" (top 20)) : M.pm "is_points" 4 ["value"] (spPoints M.K) := by
  refine F.ok sc_is_points ?len (fun _ _ _ _ _ _ us hl => match us, hl with | [_], _ => rfl) (fun f cdv A outer s H vs Q E hr h => ?body)
  case len =>
    rintro _ _ _ _ ⟨_, _, _, rfl, _⟩
    rfl
  case body =>
    refine ⟨_, (pss_cons (ps_if (PW.pt (pw_or (pt_not (pt_val (pe_pm c_is_list (hr.mono (by decide)) rfl (pa_cons (pv 0) pa_nil)))) (pw_or1 (pt_not (pt_val (pe_callB (cr_all rfl) rfl B.all (by decide +kernel) (pa_cons (pe_lc (own := [("one", 1)]) (g := (gName 1)) (tt := tYes) rfl sc_is_points.nd (pi_list (pv 0)) (blkOk_by (N := ["value", "one", "k"]) (sc := defScope (top 20)) (by decide +kernel)) (fun _ _ _ _ _ => (pg_name (i := 1) sc_is_points.nd rfl (Or.inl rfl))) (fun _ _ _ _ _ => pts_nil) (fun _ _ _ _ _ => (pe_pm c_is_point (hr.mono (by decide)) rfl (pa_cons (pv 1) pa_nil)))) pa_nil)))))))
        (pss_one (ps_ret pe_bl))
        pss_nil)
      (pss_one (ps_ret (pe_callB (cr_all rfl) rfl B.all (by decide +kernel) (pa_cons (pe_lc (own := [("k", 2)]) (g := (gName 2)) (tt := tYes) rfl sc_is_points.nd (pi_range2 rfl B.range (pa_cons pe_int (pa_cons (pe_len (K := M.K) rfl B.len (pv 0)) pa_nil))) (blkOk_by (N := ["value", "one", "k"]) (sc := defScope (top 20)) (by decide +kernel)) (fun _ _ _ _ _ => (pg_name (i := 2) sc_is_points.nd rfl (Or.inl rfl))) (fun _ _ _ _ _ => pts_nil) (fun _ _ _ _ _ => (pe_cmpR op_lt (pe_ixT (K := M.K) (pe_ixL (K := M.K) (pv 0) (pe_op op_sub (pv 2) pe_int) (fun _ _ => rfl)) pe_int (fun _ _ => rfl)) (pe_ixT (K := M.K) (pe_ixL (K := M.K) (pv 0) (pv 2) (fun _ _ => rfl)) pe_int (fun _ _ => rfl)) (nomark _)))) pa_nil))))), ?_⟩
    obtain ⟨a, tl, rs, rfl, ha, tu, tm, q⟩ := h
    have few := tm.few
    have ltl : tl.length = rs.length := tu.length
    rw [List.length_map] at few
    refine ⟨_, rfl, a, tl, rfl, .inl (SqL.of ha), fun H1 e1 => ⟨true, rfl, ?_⟩⟩
    have hs1 := SqL.of (K := M.K) (e1 _ _ ha)
    refine ⟨_, rfl, a, rfl, ⟨_, hs1⟩, fun D hD => all_yes walk_list (by omega) hD (fun H e => ex_l e hs1) yat_ex (fun i x H2 H' Q hi e2 y q2 => ?_) gn_mono fun H2 e2 bs hb hall => ?_⟩
    · obtain ⟨rfl, hx⟩ := y
      obtain ⟨q', r, hr, rfl, hq⟩ := (tu.ex (e1.trans e2)).at hx
      refine ⟨rfl, _, rfl, q', r.1, r.2, rfl, hq, tm.nn _ (List.mem_map.mpr ⟨r, List.mem_of_getElem? hr, rfl⟩), q2 _ (Ex.refl _)⟩
    · refine ⟨D, bs, rfl, SqL.of hb, ?_⟩
      rw [hall]
      have hs2 := ex_l e2 hs1
      refine ⟨true, rfl, _, rfl, a, _, rfl, .inl hs2, 1, _, rfl, ⟨by decide, by decide, by omega, by omega⟩, fun D2 nD2 => ?_⟩
      rw [ltl]
      have en : (((rs.length : Nat) : Int) - 1).toNat = rs.length - 1 := by omega
      rw [en]
      refine all_yes walk_range (by omega) nD2 (fun _ _ => True.intro) yfn_ex (fun i x H3 H' Q hi e3 y q2 => ?_) gn_mono fun H3 e3 bs hb hall => ?_
      · obtain ⟨rfl, rfl⟩ := y
        have hs3 := ex_l e3 hs2
        have tu3 := tu.ex ((e1.trans e2).trans e3)
        have e0 : (1 : Int) + (i : Int) - 1 = ((i : Nat) : Int) := by omega
        have e4 : (1 : Int) + (i : Int) = ((i + 1 : Nat) : Int) := by omega
        have lt := pw_get tm.up (i := i + 1) (by omega) (by rw [List.length_map]; omega)
        rw [Nat.add_sub_cancel] at lt
        have x0 : tl[i]? = some tl[i] := List.getElem?_eq_getElem (by omega)
        have x1 : tl[i + 1]? = some tl[i + 1] := List.getElem?_eq_getElem (by omega)
        obtain ⟨q0, r0, hr0, ex0, hq0⟩ := tu3.at x0
        obtain ⟨q1, r1, hr1, ex1, hq1⟩ := tu3.at x1
        rw [ex0] at x0
        rw [ex1] at x1
        rw [fst_get hr0, fst_get hr1] at lt
        refine ⟨rfl, _, rfl, _, rfl, _, _, rfl, rfl, a, tl, _, .ref q0, rfl, rfl, hs3, by rw [e0]; exact atI_nat x0, q0, _, 0, .int r0.1, rfl, rfl, SqT.of hq0, rfl, _, rfl, _, rfl, a, tl, _, .ref q1, rfl, rfl, hs3, by rw [e4]; exact atI_nat x1, q1, _, 0, .int r1.1, rfl, rfl, SqT.of hq1, rfl, _, _, rfl, rfl, ?_⟩
        have q3 := q2 _ (Ex.refl _)
        rw [← dT lt] at q3
        exact q3
      · refine ⟨D2, bs, rfl, SqL.of hb, ?_⟩
        rw [hall]
        exact q _ ((e1.trans e2).trans e3)
theorem timesO_len {ts : List Int} (h : TmOk ts) : (timesO ts).length ≤ 2 + 52 * ts.length := by
  have few := h.few
  have e14 : (128 : Int) ^ 2 = 16384 := by decide
  have l0 := numO_len 1 (i := ((ts.length : Nat) : Int)) (by omega) (by omega)
  have lA := flat_len (l := List.range ts.length) (f := tO ts) (b := 52) (fun i hi => tO_len h (List.mem_range.mp hi))
  rw [List.length_range] at lA
  unfold timesO
  rw [List.length_append]
  omega
theorem packed_len {vs : List Int} (h : Sm vs) : (packed vs).length ≤ 110 * vs.length + 11 := by
  have h1 := packed_le vs 0 (by omega)
  have h2 := told_len h 0
  have e : (row vs 0).length = (told 0 vs).length + 1 := by
    unfold row
    simp
  omega
def spPack (K : PySem.W.Frag) : Sp := fun vs H Q _ => ∃ (a : Addr) (tl : List V) (rs : List (Int × Int)), vs = [.ref a] ∧ H a = some (.lst tl) ∧ TupL H tl rs ∧ TmOk (rs.map Prod.fst) ∧ Sm (rs.map Prod.snd) ∧ retL H Q (timesO (rs.map Prod.fst) ++ packed (rs.map Prod.snd))
-- slots of pack: 0 points, 1 time, 2 _, 3 value
theorem sc_pack : FnScope ["points", "time", "_", "value"] ["points"] (defScope (top 55)) := ⟨rfl, rfl, rfl, by decide +kernel, rfl, by decide +kernel, by decide +kernel⟩
theorem ok_pack {M : Md} (c_is_points : M.pm "is_points" 4 ["value"] (spPoints M.K)) (c_pack_times : M.pm "pack_times" 6 ["times"] (spPackT M.K)) (c_pack_values : M.pm "pack_values" 9 ["values"] (spMapL M.K packed)) (F : Fd M "pack" (top 55)) : M.pm "pack" 10 ["points"] (spPack M.K) := by
  refine F.ok sc_pack ?len (fun _ _ _ _ _ _ us hl => match us, hl with | [_], _ => rfl) (fun f cdv A outer s H vs Q E hr h => ?body)
  case len =>
    rintro _ _ _ _ ⟨_, _, _, rfl, _⟩
    rfl
  case body =>
    refine ⟨_, (pss_cons (ps_if (pt_not (pt_val (pe_pm c_is_points (hr.mono (by decide)) rfl (pa_cons (pv 0) pa_nil))))
        (pss_one ps_never)
        pss_nil)
      (pss_one (ps_ret (pe_op op_cat (pe_pm c_pack_times (hr.mono (by decide)) rfl (pa_cons (pe_lc (own := [("time", 1), ("_", 2)]) (g := (gTup M.K 2 (gCons (gName 1) (gCons (gName 2) gNil)))) (tt := tYes) rfl sc_pack.nd (pi_list (pv 0)) (blkOk_by (N := ["points", "time", "_", "value"]) (sc := defScope (top 55)) (by decide +kernel)) (fun _ _ _ _ _ => (pg_tup rfl (pgs_cons (pg_name (i := 1) sc_pack.nd rfl (Or.inl rfl)) (pgs_cons (pg_name (i := 2) sc_pack.nd rfl (Or.inl rfl)) pgs_nil)))) (fun _ _ _ _ _ => pts_nil) (fun _ _ _ _ _ => (pv 1))) pa_nil)) (pe_pm c_pack_values (hr.mono (by decide)) rfl (pa_cons (pe_lc (own := [("_", 2), ("value", 3)]) (g := (gTup M.K 2 (gCons (gName 2) (gCons (gName 3) gNil)))) (tt := tYes) rfl sc_pack.nd (pi_list (pv 0)) (blkOk_by (N := ["points", "time", "_", "value"]) (sc := defScope (top 55)) (by decide +kernel)) (fun _ _ _ _ _ => (pg_tup rfl (pgs_cons (pg_name (i := 2) sc_pack.nd rfl (Or.inl rfl)) (pgs_cons (pg_name (i := 3) sc_pack.nd rfl (Or.inl rfl)) pgs_nil)))) (fun _ _ _ _ _ => pts_nil) (fun _ _ _ _ _ => (pv 3))) pa_nil)))))), ?_⟩
    obtain ⟨a, tl, rs, rfl, ha, tu, tm, sm, q⟩ := h
    have few := tm.few
    have ltl : tl.length = rs.length := tu.length
    rw [List.length_map] at few
    refine ⟨_, rfl, a, tl, rs, rfl, ha, tu, tm, fun H1 e1 => ⟨true, rfl, ?_⟩⟩
    have hs1 := SqL.of (K := M.K) (e1 _ _ ha)
    have tu1 := tu.ex e1
    refine ⟨_, rfl, a, rfl, ⟨_, hs1⟩, fun D hD => lc_map walk_list (iv (rs.map Prod.fst)) (by simp; omega) (by omega) hD (fun H e => ex_l e hs1) yat_ex (fun i x y H2 H' Q hy e2 y2 q2 => ?_) gn_mono2 fun H2 e2 hD2 => ?_⟩
    · obtain ⟨rfl, hx⟩ := y2
      obtain ⟨q', r, hr, rfl, hq⟩ := (tu1.ex e2).at hx
      have ey : y = .int r.1 := by
        rw [iv, List.map_map, List.getElem?_map, hr] at hy
        exact (Option.some.inj hy).symm
      subst ey
      exact ⟨q', _, rfl, SqT.of hq, rfl, _, _, rfl, _, _, rfl, rfl, rfl, _, rfl, q2 _ (Ex.refl _)⟩
    · refine ⟨D, _, rfl, SqL.of hD2, tm, fun H3 p e3 np hp => ?_⟩
      have hs3 := ex_l (e2.trans e3) hs1
      have tu3 := tu1.ex (e2.trans e3)
      refine ⟨_, rfl, a, rfl, ⟨_, hs3⟩, fun D2 hD => lc_map walk_list (iv (rs.map Prod.snd)) (by simp; omega) (by omega) hD (fun H e => ex_l e hs3) yat_ex (fun i x y H2 H' Q hy e2 y2 q2 => ?_) gn_mono2 fun H4 e4 hD4 => ?_⟩
      · obtain ⟨rfl, hx⟩ := y2
        obtain ⟨q', r, hr, rfl, hq⟩ := (tu3.ex e2).at hx
        have ey : y = .int r.2 := by
          rw [iv, List.map_map, List.getElem?_map, hr] at hy
          exact (Option.some.inj hy).symm
        subst ey
        exact ⟨q', _, rfl, SqT.of hq, rfl, _, _, rfl, _, _, rfl, rfl, rfl, _, rfl, q2 _ (Ex.refl _)⟩
      · refine ⟨D2, _, rfl, SqL.of hD4, sm, fun H5 p2 e5 np2 hp2 => ?_⟩
        have e15 := ((e1.trans e2).trans e3).trans (e4.trans e5)
        have lt := timesO_len tm
        have lv := packed_len sm
        refine ⟨p, p2, _, _, rfl, rfl, (e4.trans e5) _ _ hp, hp2, ?_, fun z nz => ?_⟩
        · rw [List.length_map, List.length_map]
          rw [List.length_map] at lt lv
          exact sz (by omega)
        · refine q _ z (e15.trans (Ex.new nz)) (Evl.fresh_back e15 nz) ?_
          rw [upd_same, iv, iv, iv, List.map_append]
end L2.EG

set_option Elab.async false
set_option linter.all false
set_option maxRecDepth 100000
set_option maxHeartbeats 4000000
/-! The program's defs, part fifteen: unpack, the exceptions' makers. -/
namespace L2.EG
open PySem PySem.Spec PyProof.Rows EgM
open Evl (Ex ex_l ex_t)

theorem ExB.ex {p : Addr} {H H1 H2 : Hp} (e1 : Ex H H1) (e : ExB p H1 H2) (n : H p = none) : Ex H H2 := fun b o hb => e b o (fun z => by rw [z, n] at hb; cases hb) (e1 b o hb)
/-- what unpack gives -/
def upO (cS cM : Addr) (H : Hp) (r : Except Er (List Int × List Int)) (Q : VK) (E : XK) : Prop := match r with
  | .ok (ts, vs) => ∀ (H' : Hp) (p : Addr) (tl : List V), Ex H H' → H p = none → H' p = some (.lst tl) → TupL H' tl (ts.zip vs) → Q (.ref p) H'
  | .error e => ∀ H', Ex H H' → E (ce cS cM e) none H'
def spUnpack (K : PySem.W.Frag) (cS cM : Addr) : Sp := fun vs H Q E => ∃ (a : Addr) (os : List Int), vs = [.ref a] ∧ SqA K H a (iv os) ∧ OsOk os ∧ upO cS cM H (unpackR os) Q E
theorem zip_take_snoc {ts vs : List Int} {i : Nat} {t v : Int} (ht : ts[i]? = some t) (hv : vs[i]? = some v) : (ts.zip vs).take (i + 1) = (ts.zip vs).take i ++ [(t, v)] := by
  rw [List.take_add_one]
  congr 1
  have : (ts.zip vs)[i]? = some (t, v) := by
    rw [List.getElem?_zip_eq_some]
    exact ⟨ht, hv⟩
  rw [this]
  rfl
-- slots of unpack: 0 octets, 1 reader, 2 times, 3 values, 4 time, 5 value
theorem sc_unpack : FnScope ["octets", "reader", "times", "values", "time", "value"] ["octets"] (defScope (top 56)) := ⟨rfl, rfl, rfl, by decide +kernel, rfl, by decide +kernel, by decide +kernel⟩
theorem ok_unpack {M : Md} {C cS cM : Addr} (B : Bn M) (R : RdF M C) (eMalformed : Ec M "Malformed" cM) (c_Reader_init : M.mt C "__init__" 4 ["self", "octets"] (spInit M.K C)) (c_Reader_left : M.mt C "left" 1 ["self"] (spLeft C)) (c_unpack_times : M.pmx "unpack_times" 8 ["reader"] (spTimes C cS cM)) (c_unpack_values : M.pmx "unpack_values" 11 ["reader", "count"] (spRead C cS cM unVals)) {f : Addr} {fd : FuncData} (F : FunD M.K "unpack" "unpack" (defArgs (top 56)) (defBody (top 56)) (defScope (top 56)) [] [] f fd) : FnOk M.P M.w M.K M.mg M.base (L2.CX M.P M.w) 12 f fd ["octets"] (spUnpack M.K cS cM) := by
  refine F.ok sc_unpack ?len (fun cdv A outer s H vs Q E hr h => ?body)
  case len =>
    rintro _ _ _ _ ⟨_, _, rfl, _⟩
    rfl
  case body =>
    refine ⟨_, (pss_cons (ps_set (i := 1) sc_unpack.nd rfl (Or.inl rfl) (pe_mk R.mkr c_Reader_init (hr.mono (by decide)) rfl R.mg (pa_cons (pv 0) pa_nil)))
      (pss_cons (ps_set (i := 2) sc_unpack.nd rfl (Or.inl rfl) (pe_pmx c_unpack_times (hr.mono (by decide)) rfl (pxX (E := E) (takes_of rfl rfl rfl rfl)) (pa_cons (pv 1) pa_nil)))
      (pss_cons (ps_set (i := 3) sc_unpack.nd rfl (Or.inl rfl) (pe_pmx c_unpack_values (hr.mono (by decide)) rfl (pxX (E := E) (takes_of rfl rfl rfl rfl)) (pa_cons (pv 1) (pa_cons (pe_len (K := M.K) rfl B.len (pv 2)) pa_nil))))
      (pss_cons (ps_if (pt_cmpR op_gt (pe_mt0 R.cl c_Reader_left (hr.mono (by decide)) (px0 (E := E0)) (pv 1)) pe_int (nomark _))
        (pss_one (ps_raise rfl (takes_of rfl rfl rfl rfl) (pmk_ec eMalformed (hr.mono (by decide)) rfl)))
        pss_nil)
      (pss_one (ps_ret (pe_lc (own := [("time", 4), ("value", 5)]) (g := (gTup M.K 2 (gCons (gName 4) (gCons (gName 5) gNil)))) (tt := tYes) rfl sc_unpack.nd (pi_zip rfl B.zip (pa_cons (pv 2) (pa_cons (pv 3) pa_nil))) (blkOk_by (N := ["octets", "reader", "times", "values", "time", "value"]) (sc := defScope (top 56)) (by decide +kernel)) (fun _ _ _ _ _ => (pg_tup rfl (pgs_cons (pg_name (i := 4) sc_unpack.nd rfl (Or.inl rfl)) (pgs_cons (pg_name (i := 5) sc_unpack.nd rfl (Or.inl rfl)) pgs_nil)))) (fun _ _ _ _ _ => pts_nil) (fun _ _ _ _ _ => (pe_tup (pa_cons (pv 4) (pa_cons (pv 5) pa_nil))))))))))), ?_⟩
    obtain ⟨a, os, rfl, hs, O, out⟩ := h
    refine ⟨_, rfl, fun x dx nx nd ne => ?_⟩
    have e0 : Ex H (upd (upd H dx (.own x)) x (.ins C dx [])) := (Ex.new nd).mut nx
    refine ⟨x, a, dx, os, rfl, upd_same, hs.ex e0, O.oct, O.z, fun H1 l e1 nl rd => ⟨rfl, ?_⟩⟩
    have e01 := ExB.ex e0 e1 nx
    have lO := O.len
    refine ⟨_, rfl, x, l, os, 0, rfl, rd, O, Nat.zero_le _, ?_⟩
    cases hv : times os 0 with
    | error er =>
      have eU : unpackR os = .error er := by
        unfold unpackR parts
        rw [bindR_err hv]
      rw [eU] at out
      exact fun a' H' e' _ => out H' (ExB.ex e01 e' nx)
    | ok y =>
      obtain ⟨ts, a1⟩ := y
      intro H2 e2 rd2 q nq hq
      have n1 := (pfx_times.up hv).2 (Nat.zero_le _)
      have e02 := ExB.ex e01 e2 nx
      have TF := times_facts O.oct O.sm hv
      have few : ts.length ≤ 400 := by
        have := TF.2.2.2
        omega
      have hn : ((iv ts).length : Nat) = ts.length := by simp
      refine ⟨_, rfl, _, rfl, q, iv ts, rfl, .inl (SqL.of hq), x, l, os, a1, ts.length, by rw [hn], rd2, O, n1, few, ?_⟩
      cases hw : unVals ts.length os a1 with
      | error er =>
        have eU : unpackR os = .error er := by
          unfold unpackR parts
          rw [bindR_at hv, bindR_err hw]
        rw [eU] at out
        exact fun a' H' e' _ => out H' (ExB.ex e02 e' nx)
      | ok z =>
        obtain ⟨vs, a2⟩ := z
        intro H3 e3 rd3 r nr hr
        have eP : parts os = .ok ((ts, vs), a2) := by
          unfold parts
          rw [bindR_at hv, bindR_at hw]
        obtain ⟨a1', g1, g2, g3, g4, g5⟩ := parts_inv eP
        have lv : vs.length = ts.length := (sm_vals O few g2).2
        have e03 := ExB.ex e02 e3 nx
        obtain ⟨⟨dx3, h31⟩, h32⟩ := id rd3
        refine ⟨_, rfl, x, dx3, _, rfl, h31, rfl, x, l, os, a2, rfl, rd3, _, _, rfl, rfl, _, rfl, ?_⟩
        by_cases c : (0 : Int) < (os.length : Int) - (a2 : Int)
        · rw [decide_eq_true c]
          have eU : unpackR os = .error .malf := by
            unfold unpackR
            rw [eP]
            simp only
            rw [if_pos (by omega)]
          rw [eU] at out
          exact out H3 e03
        · rw [decide_eq_false c]
          have eU : unpackR os = .ok (ts, vs) := by
            unfold unpackR
            rw [eP]
            simp only
            rw [if_neg (by omega)]
          rw [eU] at out
          have qx : q ≠ x := rd.lt nq
          have hq3 := e3 _ _ qx hq
          refine ⟨_, rfl, _, rfl, q, r, iv ts, iv vs, rfl, SqL.of hq3, SqL.of hr, fun D nD => ?_⟩
          refine lc_it (walk_zip (n := ts.length) (xs := iv ts) (ys := iv vs) (by simp; omega)) (fun i H' => Ex H3 H' ∧ ∃ acc, H' D = some (.lst acc) ∧ TupL H' acc ((ts.zip vs).take i)) ⟨Ex.new nD, [], upd_same, by rw [List.take_zero]; exact .nil⟩
            (fun i H' _ h => ⟨SqL.of (h.1 _ _ hq3), SqL.of (h.1 _ _ hr)⟩) ?_ ?_
          · rintro i y H4 H5 hi ⟨e4, acc, h4, t4⟩ ⟨T, u, v, rfl, nT, rfl, hu, hv'⟩
            obtain ⟨t, ht, rfl⟩ := iv_at hu
            obtain ⟨w, hw', rfl⟩ := iv_at hv'
            have eT := Ex.new (o := .tup [.int t, .int w]) nT
            refine ⟨T, _, rfl, SqT.of upd_same, rfl, _, _, rfl, _, _, rfl, rfl, rfl, ?_⟩
            simp only [tYes, if_true]
            refine ⟨_, rfl, _, rfl, by show 2 ≤ sizeLine; decide, fun p np => ?_⟩
            have ep := eT.trans (Ex.new (o := .tup [.int t, .int w]) np)
            have la : acc.length ≤ i := by
              rw [t4.length, List.length_take]
              exact Nat.min_le_left _ _
            refine ⟨acc, ep _ _ h4, szl (by omega), (e4.trans ep).mut nD, _, upd_same, ?_⟩
            rw [zip_take_snoc ht hw']
            exact TupL.mut (Paired.snoc (t4.ex ep) ⟨p, rfl, upd_same⟩) (ep _ _ h4)
          · rintro H4 ⟨e4, acc, h4, t4⟩
            rw [List.take_of_length_le (by rw [List.length_zip]; omega)] at t4
            exact out H4 D acc (e03.trans e4) (Evl.fresh_back e03 nD) h4 t4
/-- the makers of Short, Malformed -/
abbrev stIni (i : Nat) : Stmt := (clsBody (top i)).getD 0 (.Pass ⟨0, 0, 0, 0⟩)
theorem sc_ini10 : FnScope ["self"] ["self"] (defScope (stIni 10)) := ⟨rfl, rfl, rfl, by decide +kernel, rfl, by decide +kernel, by decide +kernel⟩
theorem sc_ini11 : FnScope ["self"] ["self"] (defScope (stIni 11)) := ⟨rfl, rfl, rfl, by decide +kernel, rfl, by decide +kernel, by decide +kernel⟩
theorem ok_ini10 {M : Md} {G C fI : Addr} {fd : FuncData} (T : GrF M.K M.mg G) (X : ExF M.K C fI) (F : FunD M.K "__init__" "Short.__init__" (defArgs (stIni 10)) (defBody (stIni 10)) (defScope (stIni 10)) [] [] fI fd) :
    FnOk M.P M.w M.K M.mg M.base CX0 2 fI fd ["self"] (spIni C) := by
  refine F.ok sc_ini10 ?_ fun cdv A outer s H vs Q E hr h => ?_
  · rintro _ _ _ _ ⟨_, rfl, _⟩
    rfl
  · obtain ⟨a, rfl, ha, q⟩ := h
    have D : PSs (M.cx CX0 ["self"] "Short.__init__" (stIni 10) fI cdv A outer s H E).nox (defBody (stIni 10)) _ := pss_one (ps_expr (pe_gin T rfl (pa_cons (pv 0) (pa_cons pe_str pa_nil))))
    exact ⟨_, PSs.nox D, _, rfl, a, C, fI, _, rfl, by decide, X, ha, q⟩
theorem ok_ini11 {M : Md} {G C fI : Addr} {fd : FuncData} (T : GrF M.K M.mg G) (X : ExF M.K C fI) (F : FunD M.K "__init__" "Malformed.__init__" (defArgs (stIni 11)) (defBody (stIni 11)) (defScope (stIni 11)) [] [] fI fd) :
    FnOk M.P M.w M.K M.mg M.base CX0 2 fI fd ["self"] (spIni C) := by
  refine F.ok sc_ini11 ?_ fun cdv A outer s H vs Q E hr h => ?_
  · rintro _ _ _ _ ⟨_, rfl, _⟩
    rfl
  · obtain ⟨a, rfl, ha, q⟩ := h
    have D : PSs (M.cx CX0 ["self"] "Malformed.__init__" (stIni 11) fI cdv A outer s H E).nox (defBody (stIni 11)) _ := pss_one (ps_expr (pe_gin T rfl (pa_cons (pv 0) (pa_cons pe_str pa_nil))))
    exact ⟨_, PSs.nox D, _, rfl, a, C, fI, _, rfl, by decide, X, ha, q⟩
theorem binds_ini {M : Md} {i : Nat} {q : Str} {fI : Addr} {fd : FuncData} (F : FunD M.K "__init__" q (defArgs (stIni i)) (defBody (stIni i)) (defScope (stIni i)) [] [] fI fd)
    (h : ∀ (kV doc pm : Value) (an : Option Addr) (cdv ct : Value) (us : List Value), us.length = 1 → bindArgs (PySem.W.fnOf "__init__" q (defArgs (stIni i)) (defBody (stIni i)) (defScope (stIni i)) .none kV doc pm an cdv ct) ⟨us, []⟩ = pure ((["self"] : List Str).zip us)) : Binds M.K fd ["self"] [] := F.bindsN h
end L2.EG

set_option Elab.async false
set_option linter.all false
set_option maxRecDepth 100000
set_option maxHeartbeats 4000000
/-! The law's defs, part one: telling. -/
namespace L2.EG
open PySem PySem.Spec PyProof.Rows EgM
open Evl (Ex ex_l ex_t)

def spLNum : Sp := fun vs H Q _ => ∃ n : Int, vs = [.int n] ∧ 0 ≤ n ∧ n < 128 ^ 41 ∧ retL H Q (numO n)
-- slots of _law_number: 0 _law_count, 1 _law_found, 2 _law_rest, 3 _law_turn
theorem sc__law_number : FnScope ["_law_count", "_law_found", "_law_rest", "_law_turn"] ["_law_count"] (defScope (top 64)) := ⟨rfl, rfl, rfl, by decide +kernel, rfl, by decide +kernel, by decide +kernel⟩
theorem ok__law_number {M : Md} (B : Bn M) (F : Fd M "_law_number" (top 64)) : M.pm "_law_number" 1 ["_law_count"] (spLNum) := by
  refine F.ok sc__law_number ?len (fun _ _ _ _ _ _ us hl => match us, hl with | [_], _ => rfl) (fun f cdv A outer s H vs Q E hr h => ?body)
  case len =>
    rintro _ _ _ _ ⟨_, rfl, _⟩
    rfl
  case body =>
    refine ⟨_, (pss_cons (ps_par (i := 1) (j := 2) rfl sc__law_number.nd rfl rfl (by decide) rfl rfl (pa_cons (pe_lst pa_nil) (pa_cons (pv 0) pa_nil)) (by rfl))
      (pss_cons (ps_for PassesOwn.never rfl (pi_range1 rfl B.range (pa_cons pe_int pa_nil)) (pg_name (i := 3) sc__law_number.nd rfl (Or.inl rfl))
        (pss_one (ps_if (pt_cmpR op_ge (pv 2) pe_int (nomark _))
          (pss_cons (ps_expr (pe_bm PySem.F.plainAttrs_list PySem.F.slot_list_append PySem.F.type_list_append mt_append (pv 1) (pa_cons (pe_op op_add pe_int (pe_op op_mod (pe_callTy call_int1 rfl B.int (by decide +kernel) (pa_cons (pv 2) pa_nil)) pe_int)) pa_nil)))
          (pss_one (ps_set (i := 2) sc__law_number.nd rfl (Or.inl rfl) (pe_op op_fdiv (pv 2) pe_int))))
          pss_nil)))
      (pss_one (ps_ret (pe_op op_cat (pv 1) (pe_lst (pa_cons (pv 2) pa_nil))))))), ?_⟩
    obtain ⟨n, rfl, h0, hz, q⟩ := h
    have lz := numO_len 40 h0 hz
    refine ⟨by show 0 ≤ sizeLine; decide, fun p hp => ⟨_, rfl, _, _, rfl, ?_⟩⟩
    refine ⟨40, rfl, by decide, by decide, ?_⟩
    refine for_range (lo := 0) (n := 40) (fun i σ H2 => ∃ (r : Int) (acc : List Int) (w : Option V), σ = [some (.int n), some (.ref p), some (.int r), w] ∧ Ex H H2 ∧ H2 p = some (.lst (iv acc)) ∧ 0 ≤ r ∧ acc ++ numO r = numO n ∧ r < 128 ^ (41 - i)) ⟨n, [], none, rfl, Ex.new hp, upd_same, h0, rfl, hz⟩ ?_ ?_
    · rintro i σ H2 hi ⟨r, acc, w, rfl, e2, hp2, r0, eq, rb⟩
      have la : acc.length + (numO r).length ≤ 41 := by rw [← List.length_append, eq]; exact lz
      refine ⟨_, rfl, _, _, rfl, rfl, _, rfl, ?_⟩
      by_cases c : (128 : Int) ≤ r
      · rw [decide_eq_true c]
        have lb := numO_big c
        have lr := numO_pos r
        refine ⟨_, rfl, .inl ⟨rfl, _, SqL.of hp2⟩, _, rfl, .inl ⟨r, rfl, _, _, rfl, rfl, by show (0 : Int) < 128; decide, _, _, rfl, rfl, _, _, _, rfl, rfl, hp2, ?_, ?_⟩⟩
        · rw [List.length_map]; exact szl (by omega)
        · refine ⟨_, rfl, _, _, rfl, rfl, ⟨by decide, by decide⟩, ?_⟩
          refine ⟨r / 128, acc ++ [128 + r % 128], _, rfl, e2.mut hp, ?_, by omega, ?_, ?_⟩
          · rw [upd_same, iv, iv, List.map_append]; rfl
          · rw [← eq, lb, List.append_assoc]; rfl
          · have e : (128 : Int) ^ (41 - i) = 128 ^ (41 - (i + 1)) * 128 := by
              have : 41 - i = (41 - (i + 1)) + 1 := by omega
              rw [this, Int.pow_succ]
            rw [e] at rb
            omega
      · rw [decide_eq_false c]
        refine ⟨r, acc, _, rfl, e2, hp2, r0, eq, ?_⟩
        have : (128 : Int) ^ 1 ≤ 128 ^ (41 - (i + 1)) := pow_le_pow (by omega)
        omega
    · rintro σ H2 ⟨r, acc, w, rfl, e2, hp2, r0, eq, rb⟩
      have la : acc.length + (numO r).length ≤ 41 := by rw [← List.length_append, eq]; exact lz
      have r1 : r < 128 := by simpa using rb
      refine ⟨_, rfl, _, rfl, by show 1 ≤ sizeLine; decide, fun z nz => ?_⟩
      have ez := Ex.new (o := .lst [V.int r]) nz
      refine ⟨p, z, _, _, rfl, rfl, ez _ _ hp2, upd_same, by rw [List.length_map]; exact sz (by show acc.length + 1 ≤ 1000000; omega), fun t nt => ?_⟩
      have e3 := e2.trans ez
      refine q _ t (e3.trans (Ex.new nt)) (Evl.fresh_back e3 nt) ?_
      rw [upd_same, ← eq, numO_small r0 r1, iv, iv, List.map_append]
      rfl
def spLSgn : Sp := fun vs H Q _ => ∃ n : Int, vs = [.int n] ∧ -(128 ^ 40) < n ∧ n < 128 ^ 40 ∧ retL H Q (sgnO n)
-- slots of _law_signed: 0 _law_value
theorem sc__law_signed : FnScope ["_law_value"] ["_law_value"] (defScope (top 65)) := ⟨rfl, rfl, rfl, by decide +kernel, rfl, by decide +kernel, by decide +kernel⟩
theorem ok__law_signed {M : Md} (c__law_number : M.pm "_law_number" 1 ["_law_count"] spLNum) (F : Fd M "_law_signed" (top 65)) : M.pm "_law_signed" 2 ["_law_value"] (spLSgn) := by
  refine F.ok sc__law_signed ?len (fun _ _ _ _ _ _ us hl => match us, hl with | [_], _ => rfl) (fun f cdv A outer s H vs Q E hr h => ?body)
  case len =>
    rintro _ _ _ _ ⟨_, rfl, _⟩
    rfl
  case body =>
    refine ⟨_, (pss_one (ps_ret (pe_pm c__law_number (hr.mono (by decide)) rfl (pa_cons (pe_ifExp (pt_cmpR op_ge (pv 0) pe_int (nomark _)) (pe_op op_mul pe_int (pv 0)) (pe_op op_sub (pe_op op_mul (pe_un un_neg pe_int) (pv 0)) pe_int)) pa_nil)))), ?_⟩
    obtain ⟨n, rfl, h1, h2, q⟩ := h
    refine ⟨_, rfl, _, _, rfl, rfl, _, rfl, ?_⟩
    have zl := zig_lt h1 h2
    by_cases c : (0 : Int) ≤ n
    · rw [decide_eq_true c]
      have e : zig n = 2 * n := if_pos c
      exact ⟨_, rfl, _, _, rfl, rfl, .inl ⟨by decide, by decide⟩, 2 * n, rfl, by omega, by rw [← e]; exact zl, by rw [← e]; exact q⟩
    · rw [decide_eq_false c]
      have e : zig n = -2 * n - 1 := if_neg c
      exact ⟨_, rfl, _, rfl, _, _, rfl, rfl, .inl ⟨by decide, by decide⟩, _, _, rfl, rfl, -2 * n - 1, rfl, by omega, by rw [← e]; exact zl, by rw [← e]; exact q⟩
end L2.EG

set_option Elab.async false
set_option linter.all false
set_option maxRecDepth 100000
set_option maxHeartbeats 4000000
/-! The law's defs, part two: telling times, runs, values. -/
namespace EgM
theorem range_get (xs : List Int) : (List.range xs.length).map (fun k => xs.getD k 0) = xs := by
  apply List.ext_getElem
  · simp
  · intro i h1 h2
    simp [List.getD_eq_getElem?_getD, h2]
theorem told_zero (xs : List Int) : told 0 xs = (List.range xs.length).flatMap fun k => sgnO (xs.getD k 0) := by
  show xs.flatMap sgnO = _
  have h : (List.range xs.length).flatMap (fun k => sgnO (xs.getD k 0)) = ((List.range xs.length).map fun k => xs.getD k 0).flatMap sgnO := by rw [List.flatMap_map]
  rw [h, range_get]
theorem told_one (xs : List Int) : told 1 xs = (List.range xs.length).flatMap fun k => sgnO (dO xs k) := by
  show (diffs xs).flatMap sgnO = _
  unfold diffs
  rw [List.flatMap_map]
end EgM
namespace L2.EG
open PySem PySem.Spec PyProof.Rows EgM
open Evl (Ex ex_l ex_t)

/-- smaller values -/
structure SmL (xs : List Int) : Prop where
  few : xs.length ≤ 1000
  lo : ∀ x ∈ xs, -(128 ^ 35) < x
  hi : ∀ x ∈ xs, x < 128 ^ 35
theorem p35 : (128 : Int) ^ 35 * 128 = 128 ^ 36 := (Int.pow_succ ..).symm
theorem p36 : (128 : Int) ^ 36 ≤ 128 ^ 40 := pow_le_pow (by omega)
theorem p35p : (0 : Int) < 128 ^ 35 := Int.pow_pos (by decide)
theorem SmL.sm {xs : List Int} (h : SmL xs) : Sm xs := by
  have e : (128 : Int) ^ 35 ≤ 128 ^ 50 := pow_le_pow (by omega)
  exact ⟨h.few, fun x hx => by have := h.lo x hx; omega, fun x hx => by have := h.hi x hx; omega⟩
structure TmL (ts : List Int) : Prop where
  few : ts.length ≤ 1000
  up : ts.Pairwise (· < ·)
  nn : ∀ x ∈ ts, 0 ≤ x
  hi : ∀ x ∈ ts, x < 128 ^ 35
theorem TmL.tm {xs : List Int} (h : TmL xs) : TmOk xs := by
  have e : (128 : Int) ^ 35 ≤ 128 ^ 50 := pow_le_pow (by omega)
  exact ⟨h.few, h.up, h.nn, fun x hx => by have := h.hi x hx; omega⟩
def spLTimes (K : PySem.W.Frag) : Sp := fun vs H Q _ => ∃ (a : Addr) (ts : List Int), vs = [.ref a] ∧ SqL K H a (iv ts) ∧ TmL ts ∧ retL H Q (timesO ts)
-- slots of _law_times_told: 0 _law_times_here, 1 _law_found, 2 _law_k
theorem sc__law_times_told : FnScope ["_law_times_here", "_law_found", "_law_k"] ["_law_times_here"] (defScope (top 66)) := ⟨rfl, rfl, rfl, by decide +kernel, rfl, by decide +kernel, by decide +kernel⟩
theorem ok__law_times_told {M : Md} (B : Bn M) (c__law_signed : M.pm "_law_signed" 2 ["_law_value"] spLSgn) (c__law_number : M.pm "_law_number" 1 ["_law_count"] spLNum) (F : Fd M "_law_times_told" (top 66)) : M.pm "_law_times_told" 3 ["_law_times_here"] (spLTimes M.K) := by
  refine F.ok sc__law_times_told ?len (fun _ _ _ _ _ _ us hl => match us, hl with | [_], _ => rfl) (fun f cdv A outer s H vs Q E hr h => ?body)
  case len =>
    rintro _ _ _ _ ⟨_, _, rfl, _⟩
    rfl
  case body =>
    refine ⟨_, (pss_cons (ps_set (i := 1) sc__law_times_told.nd rfl (Or.inl rfl) (pe_pm c__law_number (hr.mono (by decide)) rfl (pa_cons (pe_len (K := M.K) rfl B.len (pv 0)) pa_nil)))
      (pss_cons (ps_for PassesOwn.never rfl (pi_range1 rfl B.range (pa_cons (pe_len (K := M.K) rfl B.len (pv 0)) pa_nil)) (pg_name (i := 2) sc__law_times_told.nd rfl (Or.inl rfl))
        (pss_one (ps_if (pt_cmpR op_eq (pv 2) pe_int (nomark _))
          (pss_one (ps_expr (pe_bm PySem.F.plainAttrs_list PySem.F.slot_list_extend PySem.F.type_list_extend mt_extend (pv 1) (pa_cons (pe_pm c__law_number (hr.mono (by decide)) rfl (pa_cons (pe_ixL (K := M.K) (pv 0) pe_int (fun _ _ => rfl)) pa_nil)) pa_nil))))
          (pss_one (ps_if (pt_cmpR op_eq (pv 2) pe_int (nomark _))
            (pss_one (ps_expr (pe_bm PySem.F.plainAttrs_list PySem.F.slot_list_extend PySem.F.type_list_extend mt_extend (pv 1) (pa_cons (pe_pm c__law_number (hr.mono (by decide)) rfl (pa_cons (pe_op op_sub (pe_op op_sub (pe_ixL (K := M.K) (pv 0) pe_int (fun _ _ => rfl)) (pe_ixL (K := M.K) (pv 0) pe_int (fun _ _ => rfl))) pe_int) pa_nil)) pa_nil))))
            (pss_one (ps_expr (pe_bm PySem.F.plainAttrs_list PySem.F.slot_list_extend PySem.F.type_list_extend mt_extend (pv 1) (pa_cons (pe_pm c__law_signed (hr.mono (by decide)) rfl (pa_cons (pe_op op_sub (pe_op op_sub (pe_ixL (K := M.K) (pv 0) (pv 2) (fun _ _ => rfl)) (pe_ixL (K := M.K) (pv 0) (pe_op op_sub (pv 2) pe_int) (fun _ _ => rfl))) (pe_op op_sub (pe_ixL (K := M.K) (pv 0) (pe_op op_sub (pv 2) pe_int) (fun _ _ => rfl)) (pe_ixL (K := M.K) (pv 0) (pe_op op_sub (pv 2) pe_int) (fun _ _ => rfl)))) pa_nil)) pa_nil)))))))))
      (pss_one (ps_ret (pv 1))))), ?_⟩
    obtain ⟨a, ts, rfl, hs, tm, q⟩ := h
    have few := tm.few
    have e14 : (128 : Int) ^ 2 = 16384 := by decide
    have pz : (128 : Int) ^ 2 ≤ 128 ^ 41 := pow_le_pow (by omega)
    refine ⟨_, rfl, a, _, rfl, .inl hs, _, rfl, by omega, by rw [List.length_map]; omega, fun H2 p e2 np hp => ?_⟩
    rw [List.length_map] at hp
    have hs2 := ex_l e2 hs
    have len0 := numO_len 1 (i := ((ts.length : Nat) : Int)) (by omega) (by omega)
    refine ⟨_, rfl, a, _, rfl, .inl hs2, _, rfl, by omega, by rw [List.length_map]; omega, ?_⟩
    have el : ((((iv ts).length : Nat) : Int)).toNat = ts.length := by rw [List.length_map]; omega
    rw [el]
    refine for_range (lo := 0) (n := ts.length) (fun i σ H' => ∃ w, σ = [some (.ref a), some (.ref p), w] ∧ Ex H H' ∧ H' p = some (.lst (iv (numO ts.length ++ (List.range i).flatMap (tO ts))))) ⟨none, rfl, e2, by rw [hp]; simp⟩ ?_ ?_
    · rintro i σ H3 hi ⟨w, rfl, e3, h3⟩
      have ei0 : (0 : Int) + (i : Int) = ((i : Nat) : Int) := by omega
      rw [ei0]
      have hs3 := ex_l e3 hs
      have lacc := flat_len (l := List.range i) (f := tO ts) (b := 52) (fun j hj => tO_len tm.tm (by have := List.mem_range.mp hj; omega))
      rw [List.length_range] at lacc
      have lk := tO_len tm.tm hi
      have fin : ∀ (H8 : Hp) (r : Addr), Ex H3 H8 → H8 r = some (.lst (iv (tO ts i))) → ∃ l b zs ys, V.ref p = V.ref l ∧ [V.ref r] = [V.ref b] ∧ H8 l = some (.lst zs) ∧ H8 b = some (.lst ys) ∧ zs.length + ys.length ≤ sizeLine ∧
          ∃ w, [some (V.ref a), some (.ref p), some (.int (i : Nat))] = [some (V.ref a), some (.ref p), w] ∧ Ex H (upd H8 l (.lst (zs ++ ys))) ∧
            (upd H8 l (.lst (zs ++ ys))) p = some (.lst (iv (numO ts.length ++ (List.range (i + 1)).flatMap (tO ts)))) := fun H8 r e8 hr => by
        refine ⟨p, r, _, _, rfl, rfl, e8 _ _ h3, hr, ?_, _, rfl, ?_, ?_⟩
        · rw [List.length_map, List.length_map, List.length_append]
          exact sz (by omega)
        · exact (e3.trans e8).mut np
        · rw [upd_same, range_flat, iv, iv, iv, List.map_append, List.map_append, List.map_append, List.append_assoc]
      refine ⟨_, rfl, rfl, _, rfl, ?_⟩
      rw [dec_int']
      have p35 := p35
      have p36 := p36
      have p5 : (128 : Int) ^ 35 ≤ 128 ^ 41 := pow_le_pow (by omega)
      have m0 := getD_mem (l := ts) (k := 0) (by omega)
      have a0 := tm.nn _ m0
      have b0 := tm.hi _ m0
      have mi := getD_mem (l := ts) (k := i) hi
      have ai := tm.nn _ mi
      have bi := tm.hi _ mi
      by_cases c : ((i : Nat) : Int) = 0
      · rw [decide_eq_true c]
        have ei : i = 0 := by omega
        refine ⟨_, rfl, .inl ⟨rfl, _, SqL.of h3⟩, _, rfl, a, iv ts, _, .int (ts.getD 0 0), rfl, rfl, hs3, iv_ix (i := 0) (by omega), _, rfl, a0, by omega, fun H8 r e8 nr hr => fin H8 r e8 ?_⟩
        rw [hr, tO, if_pos ei]
      · rw [decide_eq_false c]
        refine ⟨_, rfl, rfl, _, rfl, ?_⟩
        rw [dec_int']
        by_cases c1 : ((i : Nat) : Int) = 1
        · rw [decide_eq_true c1]
          have ei : i = 1 := by omega
          subst ei
          have lt := pw_get tm.up (i := 1) (by omega) hi
          simp only [Nat.sub_self] at lt
          refine ⟨_, rfl, .inl ⟨rfl, _, SqL.of h3⟩, _, rfl, a, iv ts, _, .int (ts.getD 1 0), rfl, rfl, hs3, iv_ix (i := 1) (by omega), _, rfl, a, iv ts, _, .int (ts.getD 0 0), rfl, rfl, hs3, iv_ix (i := 0) (by omega), _, _, rfl, rfl, _, _, rfl, rfl, ts.getD 1 0 - ts.getD 0 0 - 1, rfl, by omega, by omega, fun H8 r e8 nr hr => fin H8 r e8 ?_⟩
          rw [hr, tO, if_neg (by omega), if_pos rfl]
        · rw [decide_eq_false c1]
          have m1 := getD_mem (l := ts) (k := i - 1) (by omega)
          have m2 := getD_mem (l := ts) (k := i - 2) (by omega)
          have a1 := tm.nn _ m1
          have a2 := tm.nn _ m2
          have b1 := tm.hi _ m1
          have b2 := tm.hi _ m2
          have e1' : ((i : Nat) : Int) - 1 = ((i - 1 : Nat) : Int) := by omega
          have e2' : ((i : Nat) : Int) - 2 = ((i - 2 : Nat) : Int) := by omega
          have g1 : atI (iv ts) (((i : Nat) : Int) - 1) = some (.int (ts.getD (i - 1) 0)) := by rw [e1']; exact iv_ix (by omega)
          have g2 : atI (iv ts) (((i : Nat) : Int) - 2) = some (.int (ts.getD (i - 2) 0)) := by rw [e2']; exact iv_ix (by omega)
          refine ⟨_, rfl, .inl ⟨rfl, _, SqL.of h3⟩, _, rfl, _, rfl, a, iv ts, _, .int (ts.getD i 0), rfl, rfl, hs3, iv_ix (by omega), _, rfl, _, rfl, _, _, rfl, rfl, a, iv ts, _, _, rfl, rfl, hs3, g1, _, _, rfl, rfl, ?_⟩
          refine ⟨_, rfl, _, rfl, _, _, rfl, rfl, a, iv ts, _, _, rfl, rfl, hs3, g1, _, rfl, _, rfl, _, _, rfl, rfl, a, iv ts, _, _, rfl, rfl, hs3, g2, _, _, rfl, rfl, _, _, rfl, rfl, ts.getD i 0 - ts.getD (i - 1) 0 - (ts.getD (i - 1) 0 - ts.getD (i - 2) 0), rfl, by omega, by omega, fun H8 r e8 nr hr => fin H8 r e8 ?_⟩
          have ev : ts.getD i 0 - ts.getD (i - 1) 0 - (ts.getD (i - 1) 0 - ts.getD (i - 2) 0) = ts.getD i 0 - 2 * ts.getD (i - 1) 0 + ts.getD (i - 2) 0 := by omega
          rw [hr, tO, if_neg (by omega), if_neg (by omega), ev]
    · rintro σ H3 ⟨w, rfl, e3, h3⟩
      exact ⟨_, rfl, q _ p e3 np h3⟩
-- slots of _law_runs: 0 _law_values_here, 1 _law_found, 2 _law_value
theorem sc__law_runs : FnScope ["_law_values_here", "_law_found", "_law_value"] ["_law_values_here"] (defScope (top 67)) := ⟨rfl, rfl, rfl, by decide +kernel, rfl, by decide +kernel, by decide +kernel⟩
theorem ok__law_runs {M : Md}  (F : Fd M "_law_runs" (top 67)) : M.pm "_law_runs" 1 ["_law_values_here"] (spRuns M.K) := by
  refine F.ok sc__law_runs ?len (fun _ _ _ _ _ _ us hl => match us, hl with | [_], _ => rfl) (fun f cdv A outer s H vs Q E hr h => ?body)
  case len =>
    rintro _ _ _ _ ⟨_, _, rfl, _⟩
    rfl
  case body =>
    refine ⟨_, (pss_cons (ps_set (i := 1) sc__law_runs.nd rfl (Or.inl rfl) (pe_lst pa_nil))
      (pss_cons (ps_for PassesOwn.never rfl (pi_list (pv 0)) (pg_name (i := 2) sc__law_runs.nd rfl (Or.inl rfl))
        (pss_one (ps_if (PW.pt (pw_and (pt_cmpR (or_neD (K := M.K) hr.units) (pv 1) (pe_lst pa_nil) (nomark _)) (pw_and1 (pt_cmpR op_eq (pe_ixT (K := M.K) (pe_ixL (K := M.K) (pv 1) (pe_un un_neg pe_int) (fun _ _ => rfl)) pe_int (fun _ _ => rfl)) (pv 2) (nomark _)))))
          (pss_one (ps_asg (pe_tup (pa_cons (pv 2) (pa_cons (pe_op op_add (pe_ixT (K := M.K) (pe_ixL (K := M.K) (pv 1) (pe_un un_neg pe_int) (fun _ _ => rfl)) pe_int (fun _ _ => rfl)) pe_int) pa_nil))) (pg_sub (pv 1) (pe_un un_neg pe_int) set_list)))
          (pss_one (ps_expr (pe_bm PySem.F.plainAttrs_list PySem.F.slot_list_append PySem.F.type_list_append mt_append (pv 1) (pa_cons (pe_tup (pa_cons (pv 2) (pa_cons pe_int pa_nil))) pa_nil)))))))
      (pss_one (ps_ret (pv 1))))), ?_⟩
    obtain ⟨a, xs, rfl, hs, few, q⟩ := h
    refine ⟨by show 0 ≤ sizeLine; decide, fun p hp => ?_⟩
    have e0 := Ex.new (o := .lst []) hp
    refine ⟨_, rfl, a, rfl, ⟨_, ex_l e0 hs⟩, ?_⟩
    refine for_it walk_list (fun i σ H' => ∃ w ts, σ = [some (.ref a), some (.ref p), w] ∧ Ex H H' ∧ H' p = some (.lst ts) ∧ TupL H' ts (runsL (xs.take i))) ⟨none, [], rfl, e0, upd_same, .nil⟩ (fun i σ H' _ h => by obtain ⟨_, _, _, e, _⟩ := h; exact ex_l e hs) ?_ ?_
    · rintro i x σ H3 H4 hi ⟨w, ts, rfl, e3, h3, tl⟩ ⟨rfl, hx⟩
      obtain ⟨n, hn, rfl⟩ := iv_at hx
      have lt : (runsL (xs.take i)).length ≤ i := Nat.le_trans (runs_facts _).1 (by rw [List.length_take]; exact Nat.min_le_left _ _)
      have hil : i < xs.length := (List.getElem?_eq_some_iff.mp hn).1
      have etk : runsL (xs.take (i + 1)) = rstep (runsL (xs.take i)) n := by
        rw [List.take_add_one, hn]
        exact runs_snoc _ _
      rw [etk]
      generalize runsL (xs.take i) = rs at tl lt
      have lts : ts.length = rs.length := tl.length
      refine ⟨_, rfl, by show 0 ≤ sizeLine; decide, fun z nz => ?_⟩
      have ez := Ex.new (o := .lst []) nz
      refine ⟨dP rs, dI [], Dp.pairs (SqL.of (ez _ _ h3)) (tl.ex ez), Dp.ints (xs := []) (SqL.of upd_same), shaped_pairs rs, rfl, _, rfl, ?_⟩
      rw [eqv_pairs_nil]
      have h3z := ez _ _ h3
      rcases snoc_cases rs with rfl | ⟨rs', ⟨u, m⟩, rfl⟩
      · -- nothing found so far
        have ets := tl.nil_inv
        subst ets
        refine ⟨_, rfl, .inl ⟨rfl, _, SqL.of h3z⟩, _, rfl, by show 2 ≤ sizeLine; decide, fun t nt => ?_⟩
        have et := ez.trans (Ex.new (o := .tup [.int n, .int 1]) nt)
        refine ⟨p, [], _, rfl, rfl, et _ _ h3, by decide, ?_⟩
        refine ⟨some (.int n), [.ref t], rfl, (e3.trans et).mut hp, by rw [upd_same]; rfl, ?_⟩
        exact TupL.mut (.cons ⟨t, rfl, upd_same⟩ .nil) (et _ _ h3)
      · obtain ⟨ts', q', rfl, hq, tl'⟩ := tl.snoc_inv
        have hqz := ez _ _ hq
        rw [decide_eq_false (by simp)]
        refine ⟨_, rfl, _, rfl, p, _, _, _, rfl, rfl, SqL.of h3z, atI_end, q', _, _, _, rfl, rfl, SqT.of hqz, rfl, _, rfl, rfl, _, rfl, ?_⟩
        rw [dec_int', rstep_snoc]
        have lts' : ts'.length + 1 ≤ i := by simp at lts lt; omega
        by_cases c : u = n
        · rw [decide_eq_true c, if_pos c]
          refine ⟨_, rfl, _, rfl, _, rfl, p, _, _, _, rfl, rfl, SqL.of h3z, atI_end, q', _, _, _, rfl, rfl, SqT.of hqz, rfl, _, _, rfl, rfl, by show 2 ≤ sizeLine; decide, fun t nt => ?_⟩
          have et := ez.trans (Ex.new (o := .tup [.int n, .int (m + 1)]) nt)
          refine ⟨_, rfl, _, rfl, p, _, _, ts'.length, rfl, rfl, et _ _ h3, ?_, ?_⟩
          · rw [List.length_append]
            exact ixN_last _
          · have es : (ts' ++ [V.ref q']).set ts'.length (.ref t) = ts' ++ [.ref t] := by simp
            rw [es]
            refine ⟨some (.int n), ts' ++ [.ref t], rfl, (e3.trans et).mut hp, upd_same, ?_⟩
            refine TupL.mut (Paired.snoc (tl'.ex et) ⟨t, rfl, ?_⟩) (et _ _ h3)
            rw [c]
            exact upd_same
        · rw [decide_eq_false c, if_neg c]
          refine ⟨_, rfl, .inl ⟨rfl, _, SqL.of h3z⟩, _, rfl, by show 2 ≤ sizeLine; decide, fun t nt => ?_⟩
          have et := ez.trans (Ex.new (o := .tup [.int n, .int 1]) nt)
          refine ⟨p, _, _, rfl, rfl, et _ _ h3, szl (by simp; omega), ?_⟩
          refine ⟨some (.int n), _, rfl, (e3.trans et).mut hp, upd_same, ?_⟩
          exact TupL.mut (Paired.snoc (tl.ex et) ⟨t, rfl, upd_same⟩) (et _ _ h3)
    · rintro σ H3 ⟨w, ts, rfl, e3, h3, tl⟩
      rw [List.length_map, List.take_of_length_le (Nat.le_refl _)] at tl
      exact ⟨_, rfl, q _ p ts e3 hp h3 tl⟩
end L2.EG

set_option Elab.async false
set_option linter.all false
set_option maxRecDepth 100000
set_option maxHeartbeats 4000000
/-! The law's defs, part three: _law_told, _law_packed. -/
namespace L2.EG
open PySem PySem.Spec PyProof.Rows EgM
open Evl (Ex ex_l ex_t)

def spLTold (K : PySem.W.Frag) : Sp := fun vs H Q _ => ∃ (a : Addr) (w : Nat) (xs : List Int), vs = [.ref a, .int (w : Int)] ∧ w < 4 ∧ SqL K H a (iv xs) ∧ SmL xs ∧ retL H Q (told w xs)
theorem SmL.sgn {xs : List Int} (h : SmL xs) {x : Int} (hx : x ∈ xs) : -(128 ^ 40) < x ∧ x < 128 ^ 40 := by
  have e : (128 : Int) ^ 35 ≤ 128 ^ 40 := pow_le_pow (by omega)
  have := h.lo x hx
  have := h.hi x hx
  omega
theorem SmL.kO {ks : List Int} (h : SmL ks) (lt : ks.Pairwise (· < ·)) {i : Nat} (hi : i < ks.length) (ne : i ≠ 0) : 0 ≤ ks.getD i 0 - ks.getD (i - 1) 0 - 1 ∧ ks.getD i 0 - ks.getD (i - 1) 0 - 1 < 128 ^ 41 := by
  have := pw_get lt (i := i) (by omega) hi
  have a1 := h.hi _ (getD_mem (l := ks) (k := i) hi)
  have b1 := h.lo _ (getD_mem (l := ks) (k := i - 1) (by omega))
  have p1 := p35
  have p2 : (128 : Int) ^ 36 ≤ 128 ^ 41 := pow_le_pow (by omega)
  omega
-- slots of _law_told: 0 _law_values_here, 1 _law_kind, 2 _law_found, 3 _law_k, 4 _law_value, 5 _law_many, 6 _law_known_here, 7 _law_spots
theorem sc__law_told : FnScope ["_law_values_here", "_law_kind", "_law_found", "_law_k", "_law_value", "_law_many", "_law_known_here", "_law_spots"] ["_law_values_here", "_law_kind"] (defScope (top 68)) := ⟨rfl, rfl, rfl, by decide +kernel, rfl, by decide +kernel, by decide +kernel⟩
theorem ok__law_told {M : Md} (B : Bn M) (c__law_runs : M.pm "_law_runs" 1 ["_law_values_here"] (spRuns M.K)) (c__law_signed : M.pm "_law_signed" 2 ["_law_value"] spLSgn) (c__law_number : M.pm "_law_number" 1 ["_law_count"] spLNum) (F : Fd M "_law_told" (top 68)) : M.pm "_law_told" 4 ["_law_values_here", "_law_kind"] (spLTold M.K) := by
  refine F.ok sc__law_told ?len (fun _ _ _ _ _ _ us hl => match us, hl with | [_, _], _ => rfl) (fun f cdv A outer s H vs Q E hr h => ?body)
  case len =>
    rintro _ _ _ _ ⟨_, _, _, rfl, _⟩
    rfl
  case body =>
    refine ⟨_, (pss_cons (ps_set (i := 2) sc__law_told.nd rfl (Or.inl rfl) (pe_lst pa_nil))
      (pss_cons (ps_if (pt_cmpR op_lt (pv 1) pe_int (nomark _))
        (pss_one (ps_for PassesOwn.never rfl (pi_range1 rfl B.range (pa_cons (pe_len (K := M.K) rfl B.len (pv 0)) pa_nil)) (pg_name (i := 3) sc__law_told.nd rfl (Or.inl rfl))
          (pss_one (ps_expr (pe_bm PySem.F.plainAttrs_list PySem.F.slot_list_extend PySem.F.type_list_extend mt_extend (pv 2) (pa_cons (pe_pm c__law_signed (hr.mono (by decide)) rfl (pa_cons (pe_op op_sub (pe_ixL (K := M.K) (pv 0) (pv 3) (fun _ _ => rfl)) (pe_ifExp (PW.pt (pw_and (pt_cmpR op_eq (pv 1) pe_int (nomark _)) (pw_and1 (pt_cmpR op_gt (pv 3) pe_int (nomark _))))) (pe_ixL (K := M.K) (pv 0) (pe_op op_sub (pv 3) pe_int) (fun _ _ => rfl)) pe_int)) pa_nil)) pa_nil))))))
        (pss_one (ps_if (pt_cmpR op_eq (pv 1) pe_int (nomark _))
          (pss_one (ps_for PassesOwn.never rfl (pi_list (pe_pm c__law_runs (hr.mono (by decide)) rfl (pa_cons (pv 0) pa_nil))) (pg_tup rfl (pgs_cons (pg_name (i := 4) sc__law_told.nd rfl (Or.inl rfl)) (pgs_cons (pg_name (i := 5) sc__law_told.nd rfl (Or.inl rfl)) pgs_nil)))
            (pss_one (ps_expr (pe_bm PySem.F.plainAttrs_list PySem.F.slot_list_extend PySem.F.type_list_extend mt_extend (pv 2) (pa_cons (pe_op op_cat (pe_pm c__law_signed (hr.mono (by decide)) rfl (pa_cons (pv 4) pa_nil)) (pe_pm c__law_number (hr.mono (by decide)) rfl (pa_cons (pe_op op_sub (pv 5) pe_int) pa_nil))) pa_nil))))))
          (pss_cons (ps_par (i := 6) (j := 7) rfl sc__law_told.nd rfl rfl (by decide) rfl rfl (pa_cons (pe_callB (cr_sortSetK (w := M.w) rfl) rfl B.sorted (by decide +kernel) (pa_cons (pe_callTy (cr_setLK (K := M.K) (w := M.w) rfl) rfl B.set (by decide +kernel) (pa_cons (pv 0) pa_nil)) pa_nil)) (pa_cons pe_dnewK pa_nil)) (by rfl))
          (pss_cons (ps_expr (pe_bm PySem.F.plainAttrs_list PySem.F.slot_list_extend PySem.F.type_list_extend mt_extend (pv 2) (pa_cons (pe_pm c__law_number (hr.mono (by decide)) rfl (pa_cons (pe_len (K := M.K) rfl B.len (pv 6)) pa_nil)) pa_nil)))
          (pss_cons (ps_for PassesOwn.never rfl (pi_range1 rfl B.range (pa_cons (pe_len (K := M.K) rfl B.len (pv 6)) pa_nil)) (pg_name (i := 3) sc__law_told.nd rfl (Or.inl rfl))
            (pss_cons (ps_dput (hu_of hr) (pv 7) (pe_ixL (K := M.K) (pv 6) (pv 3) (fun _ _ => rfl)) (pv 3) rfl)
            (pss_one (ps_expr (pe_bm PySem.F.plainAttrs_list PySem.F.slot_list_extend PySem.F.type_list_extend mt_extend (pv 2) (pa_cons (pe_ifExp (pt_cmpR op_eq (pv 3) pe_int (nomark _)) (pe_pm c__law_signed (hr.mono (by decide)) rfl (pa_cons (pe_ixL (K := M.K) (pv 6) (pv 3) (fun _ _ => rfl)) pa_nil)) (pe_pm c__law_number (hr.mono (by decide)) rfl (pa_cons (pe_op op_sub (pe_op op_sub (pe_ixL (K := M.K) (pv 6) (pv 3) (fun _ _ => rfl)) (pe_ixL (K := M.K) (pv 6) (pe_op op_sub (pv 3) pe_int) (fun _ _ => rfl))) pe_int) pa_nil))) pa_nil))))))
          (pss_one (ps_for PassesOwn.never rfl (pi_list (pv 0)) (pg_name (i := 4) sc__law_told.nd rfl (Or.inl rfl))
            (pss_one (ps_expr (pe_bm PySem.F.plainAttrs_list PySem.F.slot_list_extend PySem.F.type_list_extend mt_extend (pv 2) (pa_cons (pe_pm c__law_number (hr.mono (by decide)) rfl (pa_cons (pe_dget (hu_of hr) (pv 7) (pv 4) (fun _ _ => rfl)) pa_nil)) pa_nil))))))))))))
      (pss_one (ps_ret (pv 2))))), ?_⟩
    obtain ⟨a, w, xs, rfl, hw, hs, sm, q⟩ := h
    have few := sm.few
    refine ⟨by show 0 ≤ sizeLine; decide, fun p hp => ?_⟩
    have e0 := Ex.new (o := .lst []) hp
    refine ⟨_, rfl, _, _, rfl, rfl, _, rfl, ?_⟩
    by_cases c2 : ((w : Nat) : Int) < 2
    · rw [decide_eq_true c2]
      refine ⟨_, rfl, a, _, rfl, .inl (ex_l e0 hs), _, rfl, by omega, by rw [List.length_map]; omega, ?_⟩
      have el : ((((iv xs).length : Nat) : Int)).toNat = xs.length := by rw [List.length_map]; omega
      rw [el]
      have et : told w xs = (List.range xs.length).flatMap fun k => sgnO (if w = 1 then dO xs k else xs.getD k 0) := by
        match w, c2 with
        | 0, _ => exact told_zero xs
        | 1, _ => exact told_one xs
      have bd : ∀ k, k < xs.length → -(128 ^ 40) < (if w = 1 then dO xs k else xs.getD k 0) ∧ (if w = 1 then dO xs k else xs.getD k 0) < 128 ^ 40 := fun k hk => by
        have p1 := p35
        have p2 := p36
        have p3 := p35p
        have mi := getD_mem (l := xs) (k := k) hk
        have mj := getD_mem (l := xs) (k := k - 1) (by omega)
        have m0 := getD_mem (l := xs) (k := 0) (by omega)
        have := sm.lo _ mi
        have := sm.hi _ mi
        have := sm.lo _ mj
        have := sm.hi _ mj
        have := sm.lo _ m0
        have := sm.hi _ m0
        unfold dO
        split
        · split <;> omega
        · omega
      generalize hf : (fun k => sgnO (if w = 1 then dO xs k else xs.getD k 0)) = f at et
      refine for_range (lo := 0) (n := xs.length) (fun i σ H' => ∃ w3, σ = [some (.ref a), some (.int (w : Int)), some (.ref p), w3, none, none, none, none] ∧ Ex H H' ∧ H' p = some (.lst (iv ((List.range i).flatMap f)))) ⟨none, rfl, e0, upd_same⟩ ?_ ?_
      · rintro i σ H3 hi ⟨w3, rfl, e3, h3⟩
        have ei0 : (0 : Int) + (i : Int) = ((i : Nat) : Int) := by omega
        rw [ei0]
        have hs3 := ex_l e3 hs
        have bi := bd i hi
        have li : ∀ k, k < xs.length → (f k).length ≤ 41 := fun k hk => by rw [← hf]; exact sgn_len (bd k hk).1 (bd k hk).2
        have lacc := flat_len (l := List.range i) (f := f) (b := 41) (fun j hj => li j (by have := List.mem_range.mp hj; omega))
        rw [List.length_range] at lacc
        have lk := li i hi
        have fin : ∀ (H8 : Hp) (r : Addr), Ex H3 H8 → H8 r = some (.lst (iv (f i))) → ∃ l b zs ys, V.ref p = V.ref l ∧ [V.ref r] = [V.ref b] ∧ H8 l = some (.lst zs) ∧ H8 b = some (.lst ys) ∧ zs.length + ys.length ≤ sizeLine ∧
            ∃ w3, [some (V.ref a), some (.int (w : Int)), some (.ref p), some (.int (i : Nat)), none, none, none, none] = [some (V.ref a), some (.int (w : Int)), some (.ref p), w3, none, none, none, none] ∧ Ex H (upd H8 l (.lst (zs ++ ys))) ∧
              (upd H8 l (.lst (zs ++ ys))) p = some (.lst (iv ((List.range (i + 1)).flatMap f))) := fun H8 r e8 hr => by
          refine ⟨p, r, _, _, rfl, rfl, e8 _ _ h3, hr, ?_, _, rfl, ?_, ?_⟩
          · rw [List.length_map, List.length_map]
            exact sz (by omega)
          · exact (e3.trans e8).mut hp
          · rw [upd_same, range_flat, iv, iv, iv, List.map_append]
        refine ⟨_, rfl, .inl ⟨rfl, _, SqL.of h3⟩, _, rfl, _, rfl, a, iv xs, _, .int (xs.getD i 0), rfl, rfl, hs3, iv_ix hi, ?_⟩
        refine Tv.and (a := decide ((w : Int) = 1)) (b := decide ((0 : Int) < (i : Int))) (fun Q q => ⟨_, rfl, rfl, _, rfl, by rw [dec_int']; exact q⟩) (fun _ Q q => ⟨_, rfl, _, _, rfl, rfl, _, rfl, q⟩) _ ?_
        by_cases d : w = 1 ∧ i ≠ 0
        · rw [decide_eq_true (by omega), decide_eq_true (by omega)]
          have e1' : ((i : Nat) : Int) - 1 = ((i - 1 : Nat) : Int) := by omega
          have g1 : atI (iv xs) (((i : Nat) : Int) - 1) = some (.int (xs.getD (i - 1) 0)) := by rw [e1']; exact iv_ix (by omega)
          have ev : (if w = 1 then dO xs i else xs.getD i 0) = xs.getD i 0 - xs.getD (i - 1) 0 := by rw [if_pos d.1, dO, if_neg d.2]
          rw [ev] at bi
          refine ⟨_, rfl, _, rfl, _, _, rfl, rfl, a, iv xs, _, _, rfl, rfl, hs3, g1, _, _, rfl, rfl, xs.getD i 0 - xs.getD (i - 1) 0, rfl, bi.1, bi.2, fun H8 r e8 nr hr => fin H8 r e8 ?_⟩
          rw [hr, ← hf]
          simp only [ev]
        · have eb : (decide ((w : Int) = 1) && decide ((0 : Int) < (i : Int))) = false := by
            rw [Bool.and_eq_false_iff, decide_eq_false_iff_not, decide_eq_false_iff_not]
            omega
          rw [eb]
          have ev : (if w = 1 then dO xs i else xs.getD i 0) = xs.getD i 0 - 0 := by
            split
            · next z =>
              have : i = 0 := by omega
              rw [dO, if_pos this, this]
              omega
            · omega
          rw [ev] at bi
          refine ⟨_, _, rfl, rfl, xs.getD i 0 - 0, rfl, bi.1, bi.2, fun H8 r e8 nr hr => fin H8 r e8 ?_⟩
          rw [hr, ← hf]
          simp only [ev]
      · rintro σ H3 ⟨w3, rfl, e3, h3⟩
        rw [← et] at h3
        exact ⟨_, rfl, q _ p e3 hp h3⟩
    · rw [decide_eq_false c2]
      refine ⟨_, rfl, rfl, _, rfl, ?_⟩
      rw [dec_int']
      by_cases c3 : ((w : Nat) : Int) = 2
      · rw [decide_eq_true c3]
        have ew : w = 2 := by omega
        subst ew
        refine ⟨_, rfl, a, xs, rfl, ex_l e0 hs, sm.few, fun H1 r ts e1 nr hr tl => ?_⟩
        have e01 := e0.trans e1
        obtain ⟨rl, rf⟩ := runs_facts xs
        refine ⟨r, rfl, ⟨_, SqL.of hr⟩, ?_⟩
        refine for_it walk_list (fun i σ H' => ∃ w4 w5, σ = [some (.ref a), some (.int ((2 : Nat) : Int)), some (.ref p), none, w4, w5, none, none] ∧ Ex H H' ∧ H' p = some (.lst (iv (((runsL xs).take i).flatMap fun p => sgnO p.1 ++ numO (p.2 - 1)))) ∧ H' r = some (.lst ts) ∧ TupL H' ts (runsL xs)) ⟨none, none, rfl, e01, e1 _ _ upd_same, hr, tl⟩
          (fun i σ H' _ h => by obtain ⟨_, _, _, _, _, e, _⟩ := h; exact SqL.of e) ?_ ?_
        · rintro i x σ H3 H4 hi ⟨w4, w5, rfl, e3, h3, h4, tl3⟩ ⟨rfl, hx⟩
          obtain ⟨q', ⟨u, m⟩, hn, rfl, hq⟩ := tl3.at hx
          have fu := rf _ (List.mem_of_getElem? hn)
          have fm : 1 ≤ m ∧ m ≤ xs.length := fu.2
          have mz : m - 1 < 128 ^ 2 := by
            have : (128 : Int) ^ 2 = 16384 := by decide
            omega
          have su : -(128 ^ 40) < u ∧ u < 128 ^ 40 := sm.sgn fu.1
          refine ⟨q', _, rfl, SqT.of hq, rfl, _, _, rfl, _, _, rfl, rfl, ?_⟩
          refine ⟨_, rfl, .inl ⟨rfl, _, SqL.of h3⟩, _, rfl, u, rfl, su.1, su.2, fun H5 r5 e5 n5 h5 => ?_⟩
          refine ⟨_, rfl, _, _, rfl, rfl, m - 1, rfl, by omega, Int.lt_of_lt_of_le mz (pow_le_pow (by omega)), fun H6 r6 e6 n6 h6 => ?_⟩
          have lu := sgn_len su.1 su.2
          have lm := numO_len 1 (i := m - 1) (by omega) mz
          refine ⟨_, _, _, _, rfl, rfl, e6 _ _ h5, h6, by rw [List.length_map, List.length_map]; exact sz (by omega), fun r7 n7 => ?_⟩
          have e7 := (e5.trans e6).trans (Ex.new (o := .lst (iv (sgnO u) ++ iv (numO (m - 1)))) n7)
          have lt := flat_len (l := (runsL xs).take i) (f := fun p : Int × Int => sgnO p.1 ++ numO (p.2 - 1)) (b := 60) (fun y hy => by
            have fy := rf _ (List.mem_of_mem_take hy)
            have sy := sm.sgn fy.1
            have l1 := sgn_len sy.1 sy.2
            have l2 := numO_len 1 (i := y.2 - 1) (by omega) (by
              have : (128 : Int) ^ 2 = 16384 := by decide
              omega)
            rw [List.length_append]
            omega)
          rw [List.length_take] at lt
          refine ⟨_, _, _, _, rfl, rfl, e7 _ _ h3, upd_same, ?_, ?_⟩
          · rw [List.length_append, List.length_map, List.length_map, List.length_map]
            exact sz (by omega)
          · have np : p ≠ r := fun z => by
              rw [← z, upd_same] at nr
              cases nr
            refine ⟨some (.int u), some (.int m), rfl, (e3.trans e7).mut hp, ?_, ?_, ?_⟩
            · rw [upd_same, List.take_add_one, hn]
              simp [iv]
            · rw [upd_ne np.symm]
              exact e7 _ _ h4
            · exact (tl3.ex e7).mut (e7 _ _ h3)
        · rintro σ H3 ⟨w4, w5, rfl, e3, h3, h4, tl3⟩
          have el : ts.length = (runsL xs).length := tl.length
          rw [el, List.take_of_length_le (Nat.le_refl _)] at h3
          exact ⟨_, rfl, q _ p e3 hp h3⟩
      · rw [decide_eq_false c3]
        have ew : w = 3 := by omega
        subst ew
        have hs0 := ex_l e0 hs
        refine ⟨_, rfl, a, xs, rfl, hs0, few, fun s c ns => ⟨s, _, c, rfl, upd_same, fun ks pk lt mem nk => ?_⟩⟩
        have ek : ks = srt xs := srt_uniq lt fun k => by rw [mem]; simp
        subst ek
        generalize hks : srt xs = ks at *
        have lk : ks.length ≤ xs.length := by rw [← hks]; exact srt_len xs
        have mk : ∀ k, k ∈ ks ↔ k ∈ xs := fun k => by rw [← hks]; exact srt_mem xs k
        have smk : SmL ks := ⟨by omega, fun x hx => sm.lo x ((mk x).1 hx), fun x hx => sm.hi x ((mk x).1 hx)⟩
        generalize hH2 : upd (upd (upd H p (.lst [])) s (SetO M.w s (fun j => decide (j ∈ xs)) c)) pk (.lst (iv ks)) = H2
        have e02 : Ex (upd H p (.lst [])) H2 := by rw [← hH2]; exact (Ex.new ns).trans (Ex.new nk)
        have e2 := e0.trans e02
        have hk2 : H2 pk = some (.lst (iv ks)) := by rw [← hH2]; exact upd_same
        have hp2 : H2 p = some (.lst []) := e02 _ _ upd_same
        refine fun D nD => ⟨_, _, rfl, ?_⟩
        have eD := Ex.new (o := .dK []) nD
        have e14 : (128 : Int) ^ 2 = 16384 := by decide
        have pz : (128 : Int) ^ 2 ≤ 128 ^ 41 := pow_le_pow (by omega)
        have npk : pk ≠ p := fun z => by rw [z, upd_ne (fun y => by rw [← y, upd_same] at ns; cases ns), upd_same] at nk; cases nk
        have npD : D ≠ p := fun z => by rw [z, hp2] at nD; cases nD
        have npkD : pk ≠ D := fun z => by rw [← z, hk2] at nD; cases nD
        refine ⟨_, rfl, .inl ⟨rfl, _, SqL.of (eD _ _ hp2)⟩, _, rfl, pk, iv ks, rfl, .inl (SqL.of (eD _ _ hk2)), _, rfl, by omega, by rw [List.length_map]; omega, fun H4 r e4 nr hr => ?_⟩
        rw [List.length_map] at hr
        have len0 := numO_len 1 (i := ((ks.length : Nat) : Int)) (by omega) (by omega)
        refine ⟨p, r, _, _, rfl, rfl, e4 _ _ (eD _ _ hp2), hr, by rw [List.length_map]; exact sz (by show 0 + _ ≤ _; omega), ?_⟩
        have e2D := eD.trans e4
        have kol : ∀ i, i < ks.length → (kO ks i).length ≤ 41 := fun i hi => by
          unfold kO
          split
          · have := smk.sgn (getD_mem (l := ks) (k := 0) (by omega))
            exact sgn_len this.1 this.2
          · next ne =>
            have := smk.kO lt hi ne
            exact numO_len 40 this.1 this.2
        -- known: its places, its distances
        have hk4 : H4 pk = some (.lst (iv ks)) := e2D _ _ hk2
        refine ⟨_, rfl, pk, iv ks, rfl, .inl (SqL.of (by rw [upd_ne npk]; exact hk4)), _, rfl, by omega, by rw [List.length_map]; omega, ?_⟩
        have el : ((((iv ks).length : Nat) : Int)).toNat = ks.length := by rw [List.length_map]; omega
        rw [el]
        refine for_range (lo := 0) (n := ks.length) (fun i σ H' => ∃ w3, σ = [some (.ref a), some (.int ((3 : Nat) : Int)), some (.ref p), w3, none, none, some (.ref pk), some (.ref D)] ∧ Ex H H' ∧ H' p = some (.lst (iv (numO ks.length ++ (List.range i).flatMap (kO ks)))) ∧ H' pk = some (.lst (iv ks)) ∧
          ∃ kvs, H' D = some (.dK kvs) ∧ kvs.length ≤ i ∧ ∀ j k, j < i → ks[j]? = some k → valV kvs (Sum.inl k) = some (.int (j : Nat)))
          ⟨none, rfl, (e2.trans e2D).mut hp, by rw [upd_same]; simp, by rw [upd_ne npk]; exact hk4, [], by rw [upd_ne npD]; exact e4 _ _ upd_same, Nat.le_refl _, fun j k hj => by omega⟩ ?_ ?_
        · rintro i σ H5 hi ⟨w3, rfl, e5, h5, hk5, kvs, hD5, lv, vv⟩
          have ei0 : (0 : Int) + (i : Int) = ((i : Nat) : Int) := by omega
          rw [ei0]
          have gi := iv_ix hi
          refine ⟨_, rfl, _, rfl, _, rfl, _, rfl, pk, iv ks, _, _, rfl, rfl, SqL.of hk5, gi, D, _, rfl, DPut.k (k := Sum.inl (ks.getD i 0)) hD5 (szl (by omega)), ?_⟩
          generalize hkv : putK kvs (Sum.inl (ks.getD i 0) : Key) (.int (i : Nat)) = kvs2
          have lv2 : kvs2.length ≤ i + 1 := by
            have := length_putK kvs (Sum.inl (ks.getD i 0) : Key) (.int (i : Nat))
            rw [hkv] at this
            omega
          have vv2 : ∀ j k, j < i + 1 → ks[j]? = some k → valV kvs2 (Sum.inl k) = some (.int (j : Nat)) := by
            intro j k' hj hk'
            have hik : ks[i]? = some (ks.getD i 0) := by
              rw [List.getD_eq_getElem?_getD, List.getElem?_eq_getElem hi]
              rfl
            rw [← hkv, valV_put]
            by_cases ej : j = i
            · subst ej
              rw [hk'] at hik
              cases hik
              rw [if_pos rfl]
            · have nk' : k' ≠ ks.getD i 0 := fun z => by
                obtain ⟨q1, q2⟩ := List.getElem?_eq_some_iff.mp hk'
                obtain ⟨q3, q4⟩ := List.getElem?_eq_some_iff.mp hik
                have := List.pairwise_iff_getElem.mp lt j i q1 q3 (by omega)
                omega
              rw [if_neg fun z => nk' (Sum.inl.inj z)]
              exact vv j k' (by omega) hk'
          have e5D : Ex H (upd H5 D (.dK kvs2)) := e5.mut (Evl.fresh_back e2 nD)
          have h5D : (upd H5 D (.dK kvs2)) p = some (.lst (iv (numO ks.length ++ (List.range i).flatMap (kO ks)))) := by rw [upd_ne npD.symm]; exact h5
          have hk5D : (upd H5 D (.dK kvs2)) pk = some (.lst (iv ks)) := by rw [upd_ne npkD]; exact hk5
          have lacc := flat_len (l := List.range i) (f := kO ks) (b := 41) (fun j hj => kol j (by have := List.mem_range.mp hj; omega))
          rw [List.length_range] at lacc
          have lki := kol i hi
          have fin : ∀ (H8 : Hp) (r : Addr), Ex (upd H5 D (.dK kvs2)) H8 → H8 r = some (.lst (iv (kO ks i))) → ∃ l b zs ys, V.ref p = V.ref l ∧ [V.ref r] = [V.ref b] ∧ H8 l = some (.lst zs) ∧ H8 b = some (.lst ys) ∧ zs.length + ys.length ≤ sizeLine ∧
              ∃ w3, [some (V.ref a), some (.int ((3 : Nat) : Int)), some (.ref p), some (.int (i : Nat)), none, none, some (.ref pk), some (.ref D)] = [some (V.ref a), some (.int ((3 : Nat) : Int)), some (.ref p), w3, none, none, some (.ref pk), some (.ref D)] ∧ Ex H (upd H8 l (.lst (zs ++ ys))) ∧
                (upd H8 l (.lst (zs ++ ys))) p = some (.lst (iv (numO ks.length ++ (List.range (i + 1)).flatMap (kO ks)))) ∧ (upd H8 l (.lst (zs ++ ys))) pk = some (.lst (iv ks)) ∧
                ∃ kvs, (upd H8 l (.lst (zs ++ ys))) D = some (.dK kvs) ∧ kvs.length ≤ i + 1 ∧ ∀ j k, j < i + 1 → ks[j]? = some k → valV kvs (Sum.inl k) = some (.int (j : Nat)) := fun H8 r e8 hr => by
            refine ⟨p, r, _, _, rfl, rfl, e8 _ _ h5D, hr, ?_, _, rfl, ?_, ?_, ?_, kvs2, ?_, lv2, vv2⟩
            · rw [List.length_map, List.length_map, List.length_append]
              exact sz (by omega)
            · exact (e5D.trans e8).mut hp
            · rw [upd_same, range_flat, iv, iv, iv, List.map_append, List.map_append, List.map_append, List.append_assoc]
            · rw [upd_ne npk]
              exact e8 _ _ hk5D
            · rw [upd_ne npD]
              exact e8 _ _ upd_same
          refine ⟨_, rfl, .inl ⟨rfl, _, SqL.of h5D⟩, _, rfl, rfl, _, rfl, ?_⟩
          rw [dec_int']
          by_cases c : ((i : Nat) : Int) = 0
          · rw [decide_eq_true c]
            have ei : i = 0 := by omega
            subst ei
            have su := smk.sgn (getD_mem (l := ks) (k := 0) hi)
            refine ⟨_, rfl, _, rfl, pk, iv ks, _, _, rfl, rfl, SqL.of hk5D, gi, _, rfl, su.1, su.2, fun H8 r e8 nr hr => fin H8 r e8 ?_⟩
            rw [hr, kO, if_pos rfl]
          · rw [decide_eq_false c]
            have ei : i ≠ 0 := by omega
            have su := smk.kO lt hi ei
            have e1' : ((i : Nat) : Int) - 1 = ((i - 1 : Nat) : Int) := by omega
            have g1 : atI (iv ks) (((i : Nat) : Int) - 1) = some (.int (ks.getD (i - 1) 0)) := by rw [e1']; exact iv_ix (by omega)
            refine ⟨_, rfl, _, rfl, pk, iv ks, _, _, rfl, rfl, SqL.of hk5D, gi, _, rfl, _, rfl, _, _, rfl, rfl, pk, iv ks, _, _, rfl, rfl, SqL.of hk5D, g1, _, _, rfl, rfl, _, _, rfl, rfl, ks.getD i 0 - ks.getD (i - 1) 0 - 1, rfl, su.1, su.2, fun H8 r e8 nr hr => fin H8 r e8 ?_⟩
            rw [hr, kO, if_neg ei]
        · rintro σ H5 ⟨w3, rfl, e5, h5, hk5, kvs, hD5, lv, vv⟩
          have lA := flat_len (l := List.range ks.length) (f := kO ks) (b := 41) (fun j hj => kol j (List.mem_range.mp hj))
          rw [List.length_range] at lA
          generalize hA : numO ks.length ++ (List.range ks.length).flatMap (kO ks) = A at h5
          have hA2 : A.length ≤ 2 + 41 * ks.length := by rw [← hA, List.length_append]; omega
          refine ⟨_, rfl, a, rfl, ⟨_, ex_l e5 hs⟩, ?_⟩
          refine for_it walk_list (fun i σ H' => ∃ w4, σ = [some (.ref a), some (.int ((3 : Nat) : Int)), some (.ref p), w3, w4, none, some (.ref pk), some (.ref D)] ∧ Ex H H' ∧ H' D = some (.dK kvs) ∧ H' p = some (.lst (iv (A ++ (xs.take i).flatMap fun v => numO (ks.idxOf v))))) ⟨none, rfl, e5, hD5, by rw [h5]; simp⟩
            (fun i σ H' _ h => by obtain ⟨_, _, e, _⟩ := h; exact ex_l e hs) ?_ ?_
          · rintro i x σ H7 H8 hi ⟨w4, rfl, e7, hD7, h7⟩ ⟨rfl, hx⟩
            obtain ⟨n, hn, rfl⟩ := iv_at hx
            have nk' : n ∈ ks := (mk n).2 (List.mem_of_getElem? hn)
            have il := List.idxOf_lt_length_of_mem nk'
            have ig : ks[ks.idxOf n]? = some n := by rw [List.getElem?_eq_getElem il, List.getElem_idxOf il]
            have vn := vv _ _ il ig
            have idl : ∀ v ∈ xs, (numO ((ks.idxOf v : Nat) : Int)).length ≤ 2 := fun v hv => by
              have := List.idxOf_lt_length_of_mem ((mk v).2 hv)
              exact numO_len 1 (by omega) (by omega)
            have lacc := flat_len (l := xs.take i) (f := fun v => numO (ks.idxOf v : Nat)) (b := 2) (fun v hv => idl v (List.mem_of_mem_take hv))
            rw [List.length_take] at lacc
            have ln := idl n (List.mem_of_getElem? hn)
            refine ⟨_, rfl, .inl ⟨rfl, _, SqL.of h7⟩, _, rfl, _, rfl, D, .int (ks.idxOf n : Nat), rfl, ?_, _, rfl, by omega, by omega, fun H9 r e9 nr hr => ?_⟩
            · rw [← vn]
              exact DGet.k (k := Sum.inl n) hD7
            · refine ⟨p, r, _, _, rfl, rfl, e9 _ _ h7, hr, ?_, some (.int n), rfl, (e7.trans e9).mut hp, ?_, ?_⟩
              · rw [List.length_map, List.length_map, List.length_append]
                exact sz (by omega)
              · rw [upd_ne npD]
                exact e9 _ _ hD7
              · rw [upd_same, List.take_add_one, hn]
                simp [iv]
          · rintro σ H7 ⟨w4, rfl, e7, hD7, h7⟩
            rw [List.length_map, List.take_of_length_le (Nat.le_refl _), ← hA, List.append_assoc] at h7
            refine ⟨_, rfl, q _ p e7 hp ?_⟩
            rw [h7]
            show _ = some (HO.lst (iv (toldK (srt xs) xs)))
            rw [hks]
            rfl
end L2.EG

set_option Elab.async false
set_option linter.all false
set_option maxRecDepth 100000
set_option maxHeartbeats 4000000
/-! The law's defs, part four: _law_packed, _law_from, _law_next. -/
namespace EgM
def bst (xs : List Int) : Nat → List Int
  | 0 => row xs 0
  | i + 1 => better (bst xs i) (row xs i)
theorem bst_packed (xs : List Int) : bst xs 4 = packed xs := by
  have e : better (row xs 0) (row xs 0) = row xs 0 := by
    unfold better
    split <;> rfl
  show better (better (better (better (row xs 0) (row xs 0)) (row xs 1)) (row xs 2)) (row xs 3) = _
  rw [e]
  rfl
end EgM
namespace L2.EG
open PySem PySem.Spec PyProof.Rows EgM
open Evl (Ex ex_l ex_t)
def spLPacked (K : PySem.W.Frag) : Sp := fun vs H Q _ => ∃ (a : Addr) (xs : List Int), vs = [.ref a] ∧ SqL K H a (iv xs) ∧ SmL xs ∧ retL H Q (packed xs)
-- slots of _law_packed: 0 _law_values_here*, 1 _law_rows, 2 _law_kind, 3 _law_best, 4 _law_row
theorem sc__law_packed : FnScope ["_law_values_here", "_law_rows", "_law_kind", "_law_best", "_law_row"] ["_law_values_here"] (defScope (top 69)) := ⟨rfl, rfl, rfl, by decide +kernel, rfl, by decide +kernel, by decide +kernel⟩
theorem ok__law_packed {M : Md} (B : Bn M) (c__law_told : M.pm "_law_told" 4 ["_law_values_here", "_law_kind"] (spLTold M.K)) (F : Fd M "_law_packed" (top 69)) : M.pm "_law_packed" 5 ["_law_values_here"] (spLPacked M.K) := by
  refine F.ok sc__law_packed ?len (fun _ _ _ _ _ _ us hl => match us, hl with | [_], _ => rfl) (fun f cdv A outer s H vs Q E hr h => ?body)
  case len =>
    rintro _ _ _ _ ⟨_, _, rfl, _⟩
    rfl
  case body =>
    refine ⟨_, (pss_cons (ps_setLc (i := 1) (own := [("_law_kind", 2)]) (g := (gName 2)) (tt := tYes) rfl sc__law_packed.nd rfl rfl (sw_true rfl rfl rfl (by decide +kernel)) (pi_range1 rfl B.range (pa_cons pe_int pa_nil)) (blkOk_by (N := ["_law_values_here", "_law_rows", "_law_kind", "_law_best", "_law_row"]) (sc := defScope (top 69)) (by decide +kernel)) (fun _ _ _ _ _ => (pg_name (i := 2) sc__law_packed.nd rfl (Or.inl rfl))) (fun _ _ _ _ _ => pts_nil) (fun _ _ _ _ _ => (pe_op op_cat (pe_lst (pa_cons (pv 2) pa_nil)) (pe_pm c__law_told (hr.mono (by decide)) rfl (pa_cons (pv 0) (pa_cons (pv 2) pa_nil))))))
      (pss_cons (ps_set (i := 3) sc__law_packed.nd rfl (Or.inl rfl) (pe_ixL (K := M.K) (pv 1) pe_int (fun _ _ => rfl)))
      (pss_cons (ps_for PassesOwn.never rfl (pi_list (pv 1)) (pg_name (i := 4) sc__law_packed.nd rfl (Or.inl rfl))
        (pss_one (ps_set (i := 3) sc__law_packed.nd rfl (Or.inl rfl) (pe_ifExp (pt_cmpR op_lt (pe_len (K := M.K) rfl B.len (pv 4)) (pe_len (K := M.K) rfl B.len (pv 3)) (nomark _)) (pv 4) (pv 3)))))
      (pss_one (ps_ret (pv 3)))))), ?_⟩
    obtain ⟨a, xs, rfl, hs, sm, q⟩ := h
    have few := sm.few
    refine ⟨4, rfl, by decide, by decide, fun D nD => ?_⟩
    refine lc_range (lo := 0) (n := 4) (fun i H' => Ex H H' ∧ ∃ acc, H' D = some (.lst acc) ∧ RowsU (upd H D (.lst [])) H' xs i acc) ⟨Ex.new nD, [], upd_same, rfl, fun j hj => by omega⟩ ?_ ?_
    · rintro i H3 hi ⟨e3, acc, h3, la, ra⟩
      have el : (0 : Int) + (i : Int) = (i : Int) := by omega
      rw [el]
      refine ⟨rfl, ?_⟩
      simp only [tYes, if_true]
      refine ⟨_, rfl, by show 1 ≤ sizeLine; decide, fun z nz => ?_⟩
      have ez := Ex.new (o := .lst [V.int (i : Int)]) nz
      refine ⟨_, rfl, _, rfl, a, i, xs, rfl, hi, ex_l (e3.trans ez) hs, sm, fun H4 r e4 nr hr => ?_⟩
      have lt := told_len sm.sm i
      refine ⟨z, r, _, _, rfl, rfl, e4 _ _ upd_same, hr, by rw [List.length_map, List.length_singleton]; exact sz (by omega), fun t nt => ?_⟩
      have et := (ez.trans e4).trans (Ex.new (o := .lst ([V.int (i : Int)] ++ iv (told i xs))) nt)
      have e3t := e3.trans et
      have n1t : H t = none := Evl.fresh_back ((e3.trans ez).trans e4) nt
      refine ⟨acc, et _ _ h3, szl (by omega), e3t.mut nD, _, upd_same, by rw [List.length_append, la]; rfl, fun j hj => ?_⟩
      by_cases c : j = i
      · subst c
        have ntD : t ≠ D := fun z => by rw [z] at nt; rw [(ez.trans e4) _ _ h3] at nt; cases nt
        refine ⟨t, by rw [List.getElem?_append_right (by omega), la]; simp, by rw [upd_ne ntD]; exact n1t, ?_⟩
        rw [upd_ne ntD, upd_same]
        rfl
      · obtain ⟨r', q1, q2, q3⟩ := ra j (by omega)
        refine ⟨r', by rw [List.getElem?_append_left (by omega)]; exact q1, q2, ?_⟩
        rw [upd_ne (fun z => ?_)]
        · exact et _ _ q3
        · rw [z, upd_same] at q2
          cases q2
    · rintro H3 ⟨e3, acc, h3, la, ra⟩
      obtain ⟨r0, p1, p2, p3⟩ := ra 0 (by omega)
      refine ⟨_, rfl, D, acc, 0, .ref r0, rfl, rfl, SqL.of h3, atI_nat p1, ?_⟩
      refine ⟨_, rfl, D, rfl, ⟨_, SqL.of h3⟩, ?_⟩
      refine for_it walk_list (fun i σ H' => ∃ w r k, σ = [some (.ref a), some (.ref D), k, some (.ref r), w] ∧ H' = H3 ∧ (upd H D (.lst [])) r = none ∧ H3 r = some (.lst (iv (bst xs i)))) ⟨none, r0, none, rfl, rfl, p2, p3⟩ (fun i σ H' _ h => by obtain ⟨_, _, _, _, rfl, _⟩ := h; exact SqL.of h3) ?_ ?_
      · rintro i x σ H4 H5 hi ⟨w, r, k, rfl, rfl, n2, h2⟩ ⟨rfl, hx⟩
        rw [la] at hi
        obtain ⟨r', s1, s2, s3⟩ := ra i hi
        rw [hx] at s1
        cases s1
        refine ⟨_, rfl, r', _, rfl, .inl (SqL.of s3), _, rfl, r, _, rfl, .inl (SqL.of h2), _, _, rfl, rfl, _, rfl, ?_⟩
        rw [List.length_map, List.length_map]
        by_cases c : ((row xs i).length : Int) < ((bst xs i).length : Int)
        · rw [decide_eq_true c]
          refine ⟨_, rfl, some (.ref r'), r', k, rfl, rfl, s2, ?_⟩
          rw [s3, bst, better, if_pos (by omega)]
        · rw [decide_eq_false c]
          refine ⟨_, rfl, some (.ref r'), r, k, rfl, rfl, n2, ?_⟩
          rw [h2, bst, better, if_neg (by omega)]
      · rintro σ H4 ⟨w, r, k, rfl, rfl, n2, h2⟩
        rw [la, bst_packed] at h2
        have nrD : r ≠ D := fun z => by rw [z, upd_same] at n2; cases n2
        rw [upd_ne nrD] at n2
        exact ⟨_, rfl, q _ r e3 n2 h2⟩
def spLFrom : Sp := fun vs H Q _ => ∃ c : Int, vs = [.int c] ∧ Q (.int (unz c)) H
-- slots of _law_from: 0 _law_count
theorem sc__law_from : FnScope ["_law_count"] ["_law_count"] (defScope (top 71)) := ⟨rfl, rfl, rfl, by decide +kernel, rfl, by decide +kernel, by decide +kernel⟩
theorem ok__law_from {M : Md} (B : Bn M) (F : Fd M "_law_from" (top 71)) : M.pm "_law_from" 1 ["_law_count"] (spLFrom) := by
  refine F.ok sc__law_from ?len (fun _ _ _ _ _ _ us hl => match us, hl with | [_], _ => rfl) (fun f cdv A outer s H vs Q E hr h => ?body)
  case len =>
    rintro _ _ _ _ ⟨_, rfl, _⟩
    rfl
  case body =>
    refine ⟨_, (pss_one (ps_ret (pe_ifExp (pt_cmpR op_eq (pe_op op_mod (pe_callTy call_int1 rfl B.int (by decide +kernel) (pa_cons (pv 0) pa_nil)) pe_int) pe_int (nomark _)) (pe_un un_neg (pe_op op_fdiv (pe_op op_add (pv 0) pe_int) pe_int)) (pe_op op_fdiv (pv 0) pe_int)))), ?_⟩
    obtain ⟨c, rfl, q⟩ := h
    refine ⟨_, rfl, .inl ⟨c, rfl, _, _, rfl, rfl, by show (0 : Int) < 2; decide, rfl, _, rfl, ?_⟩⟩
    rw [dec_int']
    by_cases d : c % 2 = 1
    · rw [decide_eq_true d]
      refine ⟨_, rfl, _, _, rfl, rfl, _, _, rfl, rfl, ⟨by decide, by decide⟩, _, rfl, ?_⟩
      have e : unz c = -((c + 1) / 2) := by
        unfold unz
        rw [if_neg (by omega)]
        omega
      rw [e] at q
      exact q
    · rw [decide_eq_false d]
      refine ⟨_, rfl, _, _, rfl, rfl, ⟨by decide, by decide⟩, ?_⟩
      have e : unz c = c / 2 := by
        unfold unz
        rw [if_pos (by omega)]
      rw [e] at q
      exact q
end L2.EG

set_option Elab.async false
set_option linter.all false
set_option maxRecDepth 100000
set_option maxHeartbeats 4000000
/-! The law's defs, part five: _law_next. -/
namespace EgM
theorem val_snoc : ∀ (l : List Int) (o : Int), val (l ++ [o]) = val l + 128 ^ l.length * (o % 128)
  | [], o => by simp [val]
  | x :: r, o => by
    have ih := val_snoc r o
    show 128 * val (r ++ [o]) + x % 128 = (128 * val r + x % 128) + 128 ^ (r.length + 1) * (o % 128)
    rw [ih, Int.pow_succ, Int.mul_add, Int.mul_comm (128 ^ r.length) 128, Int.mul_assoc]
    omega
end EgM
namespace L2.EG
open PySem PySem.Spec PyProof.Rows EgM
open Evl (Ex ex_l ex_t)

def es : Er → Str
  | .short => "short"
  | .malf => "malformed"
/-- the law's mark at m: octets at o, standing at a, what went wrong -/
def MkA (H : Hp) (m o : Addr) (a : Int) (s : Str) : Prop := H m = some (.lst [.ref o, .int a, .str s])
theorem sq_upd {K : PySem.W.Frag} {H : Hp} {o m : Addr} {xs ys : List V} {u : HO} (h : SqL K H o xs) (hm : H m = some (.lst ys)) (ne : xs ≠ ys) : SqL K (upd H m u) o xs := by
  rcases h with (h | ⟨ob, h⟩) | h
  · refine .inl (.inl ?_)
    rw [upd_ne fun z => ?_]
    · exact h
    · rw [z, hm] at h
      cases h
      exact ne rfl
  · refine .inl (.inr ⟨ob, ?_⟩)
    rw [upd_ne fun z => ?_]
    · exact h
    · rw [z, hm] at h
      cases h
  · exact .inr h
theorem iv_ne {os : List Int} {o : Addr} {r : List V} : iv os ≠ (.ref o :: r) := by
  cases os with
  | nil => intro h; cases h
  | cons x l => intro h; cases h
theorem asg_go {te : TE} {g : TG} {D : Ends} {σ : L2.St} {H : Hp} (h : te σ H fun x H1 => g x σ H1 D.nx) : tAsg te g D σ H := h
theorem ifx_go {c : TT} {ta tb : TE} {σ : L2.St} {H : Hp} {b : Bool} {Q : VK} (h : Tv c σ H b) (hb : if b = true then ta σ H Q else tb σ H Q) : tIf c ta tb σ H Q := h _ hb
/-- what a step of the law's reading leaves -/
def mkO {α : Type} (m o : Addr) (H : Hp) (r : Res α) (ok : α → Hp → Prop) (bad : Hp → Prop) : Prop := match r with
  | .ok (x, a') => ∀ H', ExB m H H' → MkA H' m o (a' : Int) "" → ok x H'
  | .error e => ∀ a' H', ExB m H H' → MkA H' m o a' (es e) → bad H'
def spLNext (K : PySem.W.Frag) : Sp := fun vs H Q _ => ∃ (m o : Addr) (a : Nat) (s : Str) (os : List Int), vs = [.ref m] ∧ MkA H m o (a : Int) s ∧ SqL K H o (iv os) ∧ Oct os ∧ os.length < 1000000 ∧ a < 1000000 ∧ mkO m o H (num os a) (fun v H' => Q (.int v) H') (fun H' => ∀ v, Q (.int v) H')
-- slots of _law_next: 0 _law_mark, 1 _law_octets_here, 2 _law_at, 3 _law_found, 4 _law_factor, 5 _law_k
theorem sc__law_next : FnScope ["_law_mark", "_law_octets_here", "_law_at", "_law_found", "_law_factor", "_law_k"] ["_law_mark"] (defScope (top 70)) := ⟨rfl, rfl, rfl, by decide +kernel, rfl, by decide +kernel, by decide +kernel⟩
theorem ok__law_next {M : Md} (B : Bn M) (F : Fd M "_law_next" (top 70)) : M.pm "_law_next" 1 ["_law_mark"] (spLNext M.K) := by
  refine F.ok sc__law_next ?len (fun _ _ _ _ _ _ us hl => match us, hl with | [_], _ => rfl) (fun f cdv A outer s H vs Q E hr h => ?body)
  case len =>
    rintro _ _ _ _ ⟨_, _, _, _, _, rfl, _⟩
    rfl
  case body =>
    refine ⟨_, (pss_cons (ps_asg (pe_tup (pa_cons (pe_ixL (K := M.K) (pv 0) pe_int (fun _ _ => rfl)) (pa_cons (pe_ixL (K := M.K) (pv 0) pe_int (fun _ _ => rfl)) (pa_cons pe_int (pa_cons pe_int pa_nil))))) (pg_tup rfl (pgs_cons (pg_name (i := 1) sc__law_next.nd rfl (Or.inl rfl)) (pgs_cons (pg_name (i := 2) sc__law_next.nd rfl (Or.inl rfl)) (pgs_cons (pg_name (i := 3) sc__law_next.nd rfl (Or.inl rfl)) (pgs_cons (pg_name (i := 4) sc__law_next.nd rfl (Or.inl rfl)) pgs_nil))))))
      (pss_cons (ps_for PassesOwn.never rfl (pi_range2 rfl B.range (pa_cons (pv 2) (pa_cons (pe_len (K := M.K) rfl B.len (pv 1)) pa_nil))) (pg_name (i := 5) sc__law_next.nd rfl (Or.inl rfl))
        (pss_cons (ps_par (i := 3) (j := 4) rfl sc__law_next.nd rfl rfl (by decide) rfl rfl (pa_cons (pe_op op_add (pv 3) (pe_op op_mul (pe_op op_mod (pe_callTy call_int1 rfl B.int (by decide +kernel) (pa_cons (pe_ixL (K := M.K) (pv 1) (pv 5) (fun _ _ => rfl)) pa_nil)) pe_int) (pv 4))) (pa_cons (pe_op op_mul (pv 4) pe_int) pa_nil)) (by rfl))
        (pss_one (ps_if (pt_cmpR op_lt (pe_ixL (K := M.K) (pv 1) (pv 5) (fun _ _ => rfl)) pe_int (nomark _))
          (pss_cons (ps_asg (pe_op op_add (pv 5) pe_int) (pg_sub (pv 0) pe_int set_list))
          (pss_cons (ps_asg (pe_ifExp (PW.pt (pw_and (pt_cmpR op_gt (pv 5) (pv 2) (nomark _)) (pw_and1 (pt_cmpR op_eq (pe_ixL (K := M.K) (pv 1) (pv 5) (fun _ _ => rfl)) pe_int (nomark _))))) pe_str pe_str) (pg_sub (pv 0) pe_int set_list))
          (pss_one (ps_ret (pv 3)))))
          pss_nil))))
      (pss_cons (ps_asg pe_str (pg_sub (pv 0) pe_int set_list))
      (pss_one (ps_ret pe_int))))), ?_⟩
    obtain ⟨m, o, a, s, os, rfl, hm, hs, oct, hz, ha, out⟩ := h
    have hm' : H m = some (.lst [.ref o, .int (a : Int), .str s]) := hm
    refine ⟨_, rfl, m, _, 0, .ref o, rfl, rfl, SqL.of hm', rfl, _, rfl, m, _, 1, .int (a : Int), rfl, rfl, SqL.of hm', rfl, by show 4 ≤ sizeLine; decide, fun t nt => ?_⟩
    refine ⟨t, _, rfl, SqT.of upd_same, rfl, _, _, rfl, _, _, rfl, _, _, rfl, _, _, rfl, rfl, ?_⟩
    have et := Ex.new (o := .tup [V.ref o, .int (a : Int), .int 0, .int 1]) nt
    generalize hH1 : upd H t (.tup [V.ref o, .int (a : Int), .int 0, .int 1]) = H1 at et
    have hs1 := ex_l et hs
    have hm1 := et _ _ hm'
    refine ⟨_, rfl, _, rfl, o, _, rfl, .inl hs1, (a : Int), _, rfl, ⟨by omega, by omega, by omega, by rw [List.length_map]; omega⟩, ?_⟩
    have en : ((((iv os).length : Nat) : Int) - (a : Int)).toNat = os.length - a := by rw [List.length_map]; omega
    rw [en]
    refine for_range (lo := (a : Int)) (n := os.length - a) (fun i σ H' => ∃ w, σ = [some (.ref m), some (.ref o), some (.int (a : Int)), some (.int (val ((os.drop a).take i))), some (.int (128 ^ i)), w] ∧ H' = H1 ∧ ∀ j, j < i → ∃ x, (os.drop a)[j]? = some x ∧ 128 ≤ x) ⟨none, rfl, rfl, fun j hj => by omega⟩ ?_ ?_
    · rintro i σ H2 hi ⟨w, rfl, rfl, run⟩
      have ek : (a : Int) + (i : Int) = ((a + i : Nat) : Int) := by omega
      rw [ek]
      have lt : a + i < os.length := by omega
      have ho : os[a + i]? = some os[a + i] := List.getElem?_eq_getElem lt
      have bd := oct _ (List.getElem_mem lt)
      generalize os[a + i] = x at ho bd
      have hd' : (os.drop a)[i]? = some x := by rw [List.getElem?_drop]; exact ho
      have gx := atI_nat (iv_get ho)
      have ev : val ((os.drop a).take (i + 1)) = val ((os.drop a).take i) + x % 128 * 128 ^ i := by
        rw [List.take_add_one, hd']
        show val (_ ++ [x]) = _
        rw [val_snoc]
        have l : ((os.drop a).take i).length = i := by rw [List.length_take, List.length_drop]; omega
        rw [l, Int.mul_comm]
      refine ⟨_, rfl, _, rfl, _, rfl, o, iv os, _, _, rfl, rfl, hs1, gx, .inl ⟨x, rfl, _, _, rfl, rfl, by show (0 : Int) < 128; decide, _, rfl, _, _, rfl, rfl, .inl ⟨by omega, by omega⟩, _, _, rfl, rfl, _, rfl, _, _, rfl, rfl, .inr ⟨by decide, by decide⟩, _, _, rfl, ?_⟩⟩
      refine ⟨_, rfl, _, rfl, o, iv os, _, _, rfl, rfl, hs1, gx, _, _, rfl, rfl, _, rfl, ?_⟩
      by_cases c : x < 128
      · rw [decide_eq_true c]
        have rr := rdRaw_run i run hd' bd.1 c
        refine ⟨_, rfl, _, _, rfl, rfl, _, rfl, m, _, 1, 1, rfl, rfl, hm1, rfl, ?_⟩
        have hm2 : ∀ u, (upd H2 m (.lst u)) m = some (.lst u) := fun _ => upd_same
        dsimp only
        refine seq_go (asg_go (ifx_go (Tv.and (a := decide ((a : Int) < ((a + i : Nat) : Int))) (b := decide (x = 0)) (fun Q q => ⟨_, rfl, _, rfl, _, _, rfl, rfl, _, rfl, q⟩) (fun _ Q q => ⟨_, rfl, _, rfl, o, iv os, _, _, rfl, rfl, sq_upd hs1 hm1 iv_ne, gx, rfl, _, rfl, by rw [dec_int']; exact q⟩)) ?_))
        by_cases bad : 1 < i + 1 ∧ x = 0
        · have e : num os a = .error .malf := by
            unfold num
            rw [rr]
            simp only
            rw [if_pos bad]
          rw [e] at out
          rw [decide_eq_true (by omega), decide_eq_true bad.2]
          refine ⟨_, rfl, m, _, 2, 2, rfl, rfl, upd_same, rfl, _, rfl, ?_⟩
          refine out ((a + i : Nat) + 1 : Int) _ (ExB.set (ExB.set (ExB.of et))) ?_ _
          show (upd _ m _) m = _
          rw [upd_same]
          rfl
        · have e : num os a = .ok (val ((os.drop a).take (i + 1)), a + (i + 1)) := by
            unfold num
            rw [rr]
            simp only
            rw [if_neg bad]
          rw [e] at out
          have eb : (decide ((a : Int) < ((a + i : Nat) : Int)) && decide (x = 0)) = false := by
            rw [Bool.and_eq_false_iff, decide_eq_false_iff_not, decide_eq_false_iff_not]
            omega
          rw [eb]
          refine ⟨_, rfl, m, _, 2, 2, rfl, rfl, upd_same, rfl, _, rfl, ?_⟩
          rw [ev] at out
          refine out _ (ExB.set (ExB.set (ExB.of et))) ?_
          show (upd _ m _) m = _
          rw [upd_same]
          rfl
      · rw [decide_eq_false c]
        refine ⟨some (.int ((a + i : Nat) : Int)), ?_, rfl, fun j hj => ?_⟩
        · rw [ev]
          have e2 : (128 : Int) ^ (i + 1) = 128 ^ i * 128 := Int.pow_succ ..
          rw [e2]
          rfl
        · by_cases e : j = i
          · subst e
            exact ⟨x, hd', by omega⟩
          · exact run j (by omega)
    · rintro σ H2 ⟨w, rfl, rfl, run⟩
      have rn : rdRaw (os.drop a) = none := rdRaw_all fun y hy => by
        obtain ⟨j, hj, rfl⟩ := List.getElem_of_mem hy
        rw [List.length_drop] at hj
        obtain ⟨x, q1, q2⟩ := run j hj
        rw [List.getElem?_eq_getElem (by rw [List.length_drop]; omega)] at q1
        rw [Option.some.inj q1]
        exact q2
      have e : num os a = .error .short := by
        unfold num
        rw [rn]
      rw [e] at out
      refine ⟨_, rfl, m, _, 2, 2, rfl, rfl, hm1, rfl, ?_⟩
      refine out (a : Int) _ (ExB.set (ExB.of et)) ?_ 0
      show (upd _ m _) m = _
      rw [upd_same]
      rfl
end L2.EG

set_option Elab.async false
set_option linter.all false
set_option maxRecDepth 100000
set_option maxHeartbeats 4000000
/-! The law's defs, part six: _law_known, _law_times_read. -/
namespace L2.EG
open PySem PySem.Spec PyProof.Rows EgM
open Evl (Ex ex_l ex_t)

/-- how a step went -/
def How {α : Type} (r : Res α) (x : α) (a : Int) (s : Str) : Prop := (s = "" ∧ ∃ b : Nat, r = .ok (x, b) ∧ a = (b : Int)) ∨ ∃ er, r = .error er ∧ s = es er
theorem mkO_all {α : Type} {m o : Addr} {H : Hp} {r : Res α} {G : α → Hp → Prop} (h : ∀ v H1 a s, ExB m H H1 → MkA H1 m o a s → How r v a s → G v H1) : mkO m o H r (fun v H' => G v H') (fun H' => ∀ v, G v H') := by
  cases e : r with
  | error er => exact fun a H' e1 mk v => h v H' a _ e1 mk (.inr ⟨er, e, rfl⟩)
  | ok p =>
    obtain ⟨x, b⟩ := p
    exact fun H' e1 mk => h x H' b _ e1 mk (.inl ⟨rfl, b, e, rfl⟩)
theorem mkO_fin {α : Type} {m o : Addr} {H H' : Hp} {r : Res α} {ok : α → Hp → Prop} {bad : Hp → Prop} {x : α} {a : Int} {s : Str} (out : mkO m o H r ok bad) (e : ExB m H H') (mk : MkA H' m o a s) (h : How r x a s) : ok x H' ∨ bad H' := by
  rcases h with ⟨rfl, b, er, rfl⟩ | ⟨er, e1, rfl⟩
  · rw [er] at out
    exact .inl (out H' e mk)
  · rw [e1] at out
    exact .inr (out a H' e mk)
theorem es_ne (e : Er) : es e ≠ "" := by cases e <;> decide
theorem dec_str {i j : Str} : decide (V.str i = V.str j) = decide (i = j) := by
  rw [Bool.eq_iff_iff, decide_eq_true_eq, decide_eq_true_eq]
  exact ⟨fun h => V.str.inj h, fun h => by rw [h]⟩
/-- while a loop reads: fine so far, or an error that is the whole's -/
def Lst {σ : Type} (go : σ → Bool) (step : σ → List Int → Nat → Res σ) (os : List Int) (R : Res σ) (s : σ) (len : Nat) (a : Int) (str : Str) (i : Nat) : Prop :=
  (str = "" ∧ ∃ (b f : Nat), a = (b : Int) ∧ Tl go step os R f s b ∧ len ≤ b ∧ (len = i ∨ go s = false)) ∨ ∃ er, R = .error er ∧ str = es er
theorem MkA.at0 {K : PySem.W.Frag} {H : Hp} {m o : Addr} {a : Int} {s : Str} (h : MkA H m o a s) : SqL K H m [.ref o, .int a, .str s] := SqL.of h
theorem MkA.mut {H : Hp} {m o D : Addr} {a : Int} {s : Str} {u : HO} (h : MkA H m o a s) (n : D ≠ m) : MkA (upd H D u) m o a s := by
  show (upd H D u) m = _
  rw [upd_ne n.symm]
  exact h
theorem MkA.ne {H : Hp} {m o D : Addr} {a : Int} {s : Str} (h : MkA H m o a s) (n : H D = none) : D ≠ m := fun z => by
  have h' : H m = _ := h
  rw [z, h'] at n
  cases n
theorem sq_exb {K : PySem.W.Frag} {H H' : Hp} {m o : Addr} {xs ys : List V} (h : SqL K H o xs) (e : ExB m H H') (hm : H m = some (.lst ys)) (ne : xs ≠ ys) : SqL K H' o xs := by
  rcases h with (h | ⟨ob, h⟩) | h
  · refine .inl (.inl (e _ _ (fun z => ?_) h))
    rw [z, hm] at h
    cases h
    exact ne rfl
  · refine .inl (.inr ⟨ob, e _ _ (fun z => ?_) h⟩)
    rw [z, hm] at h
    cases h
  · exact .inr h
def spLKnown (K : PySem.W.Frag) : Sp := fun vs H Q _ => ∃ (m o : Addr) (a : Nat) (os : List Int), vs = [.ref m] ∧ MkA H m o (a : Int) "" ∧ SqL K H o (iv os) ∧ OsOk os ∧ a ≤ os.length ∧
  mkO m o H (knownR os a) (fun ks H' => ∀ q, H q = none → H' q = some (.lst (iv ks)) → Q (.ref q) H') (fun H' => ∀ q ks, H q = none → H' q = some (.lst (iv ks)) → Q (.ref q) H')
-- slots of _law_known: 0 _law_mark, 1 _law_many, 2 _law_known_here, 3 _law_k, 4 _law_step
theorem sc__law_known : FnScope ["_law_mark", "_law_many", "_law_known_here", "_law_k", "_law_step"] ["_law_mark"] (defScope (top 73)) := ⟨rfl, rfl, rfl, by decide +kernel, rfl, by decide +kernel, by decide +kernel⟩
theorem ok__law_known {M : Md} (B : Bn M) (c__law_next : M.pm "_law_next" 1 ["_law_mark"] (spLNext M.K)) (c__law_from : M.pm "_law_from" 1 ["_law_count"] spLFrom) (F : Fd M "_law_known" (top 73)) : M.pm "_law_known" 2 ["_law_mark"] (spLKnown M.K) := by
  refine F.ok sc__law_known ?len (fun _ _ _ _ _ _ us hl => match us, hl with | [_], _ => rfl) (fun f cdv A outer s H vs Q E hr h => ?body)
  case len =>
    rintro _ _ _ _ ⟨_, _, _, _, rfl, _⟩
    rfl
  case body =>
    refine ⟨_, (pss_cons (ps_par (i := 1) (j := 2) rfl sc__law_known.nd rfl rfl (by decide) rfl rfl (pa_cons (pe_pm c__law_next (hr.mono (by decide)) rfl (pa_cons (pv 0) pa_nil)) (pa_cons (pe_lst pa_nil) pa_nil)) (by rfl))
      (pss_cons (ps_for PassesOwn.never rfl (pi_range1 rfl B.range (pa_cons (pe_op op_add (pe_len (K := M.K) rfl B.len (pe_ixL (K := M.K) (pv 0) pe_int (fun _ _ => rfl))) pe_int) pa_nil)) (pg_name (i := 3) sc__law_known.nd rfl (Or.inl rfl))
        (pss_one (ps_if (PW.pt (pw_and (pt_cmpR op_eq (pe_ixL (K := M.K) (pv 0) pe_int (fun _ _ => rfl)) pe_str (nomark _)) (pw_and1 (pt_cmpR op_lt (pv 3) (pv 1) (nomark _)))))
          (pss_cons (ps_set (i := 4) sc__law_known.nd rfl (Or.inl rfl) (pe_pm c__law_next (hr.mono (by decide)) rfl (pa_cons (pv 0) pa_nil)))
          (pss_one (ps_expr (pe_bm PySem.F.plainAttrs_list PySem.F.slot_list_append PySem.F.type_list_append mt_append (pv 2) (pa_cons (pe_ifExp (pt_cmpR op_eq (pv 3) pe_int (nomark _)) (pe_pm c__law_from (hr.mono (by decide)) rfl (pa_cons (pv 4) pa_nil)) (pe_op op_add (pe_op op_add (pe_ixL (K := M.K) (pv 2) (pe_un un_neg pe_int) (fun _ _ => rfl)) (pv 4)) pe_int)) pa_nil)))))
          pss_nil)))
      (pss_one (ps_ret (pv 2))))), ?_⟩
    obtain ⟨m, o, a, os, rfl, hm, hs, O, ha, out⟩ := h
    have lO := O.len
    refine ⟨_, rfl, m, o, a, _, os, rfl, hm, hs, O.oct, O.z, by omega, mkO_all fun many H1 a1 s1 e1 mk1 how => ?_⟩
    have hs1 := sq_exb hs e1 hm iv_ne
    refine ⟨by show 0 ≤ sizeLine; decide, fun D nD => ⟨_, _, rfl, ?_⟩⟩
    have nDm := mk1.ne nD
    have eD := Ex.new (o := .lst []) nD
    have e1D : ExB m H (upd H1 D (.lst [])) := e1.trans (ExB.of eD)
    have nH : H D = none := by
      cases z : H D with
      | none => rfl
      | some u => rw [e1 D u nDm z] at nD; cases nD
    refine ⟨_, rfl, m, _, 0, .ref o, rfl, rfl, SqL.of (mk1.mut nDm), rfl, o, iv os, rfl, .inl (ex_l eD hs1), _, _, rfl, rfl, _, rfl, by omega, by rw [List.length_map]; omega, ?_⟩
    have en : ((((iv os).length : Nat) : Int) + 1).toNat = os.length + 1 := by rw [List.length_map]; omega
    rw [en]
    refine for_range (lo := 0) (n := os.length + 1) (fun i σ H' => ∃ w w2 ks a' s, σ = [some (.ref m), some (.int many), some (.ref D), w, w2] ∧ ExB m H H' ∧ MkA H' m o a' s ∧ H' D = some (.lst (iv ks)) ∧ ks.length ≤ i ∧ Lst (kGo many) knStep os (knownR os a) ks ks.length a' s i)
      ⟨none, none, [], a1, s1, rfl, e1D, mk1.mut nDm, upd_same, Nat.le_refl _, ?_⟩ ?_ ?_
    · rcases how with ⟨rfl, b, q, rfl⟩ | ⟨er, q, rfl⟩
      · obtain ⟨l1, l2⟩ := num_up q
        have eK : knownR os a = loopR (kGo many) knStep FU [] os b := bindR_at q
        exact .inl ⟨rfl, b, FU, rfl, ⟨eK.symm, by simp only [FU]; omega, l2⟩, Nat.zero_le _, .inl rfl⟩
      · exact .inr ⟨er, bindR_err q, rfl⟩
    · rintro i σ H2 hi ⟨w, w2, ks, a', s, rfl, e2, mk2, h2, lk, st⟩
      have ei0 : (0 : Int) + (i : Int) = (i : Int) := by omega
      rw [ei0]
      have hs2 := sq_exb hs e2 hm iv_ne
      refine if_go (Tv.and (a := decide (s = "")) (b := decide ((i : Int) < many)) (fun Q q => ⟨_, rfl, m, _, 2, .str s, rfl, rfl, SqL.of mk2, rfl, rfl, _, rfl, by rw [dec_str]; exact q⟩) (fun _ Q q => ⟨_, rfl, _, rfl, _, _, rfl, rfl, _, rfl, q⟩)) ?_
      by_cases c : s = "" ∧ (i : Int) < many
      · rw [decide_eq_true c.1, decide_eq_true c.2]
        obtain ⟨rfl, cm⟩ := c
        rcases st with ⟨_, b, f, rfl, T, lb, li⟩ | ⟨er, _, z⟩
        · have lei : ks.length = i := by
            rcases li with z | z
            · exact z
            · have z := of_decide_eq_false z
              omega
          obtain ⟨f', rfl, T1, T2⟩ := T.go (decide_eq_true (by omega))
          have es' : knStep ks os b = bindR (num os b) fun c a' => .ok (ks ++ [if ks = [] then unz c else ks.getLastD 0 + c + 1], a') := rfl
          rw [es'] at T1 T2
          have bl := T.al
          refine ⟨_, rfl, m, o, b, _, os, rfl, mk2, hs2, O.oct, O.z, by omega, mkO_all fun c H3 a3 s3 e3 mk3 how => ?_⟩
          have h3 := e3 _ _ nDm h2
          have e23 := e2.trans e3
          -- the end of the turn
          have fin : ∀ v : Int, v = (if ks = [] then unz c else ks.getLastD 0 + c + 1) → ∃ l' zs y, V.ref D = .ref l' ∧ [V.int v] = [y] ∧ H3 l' = some (.lst zs) ∧ zs.length < sizeLine ∧
              ∃ w w2 ks a' s, [some (V.ref m), some (.int many), some (.ref D), some (.int (i : Int)), some (.int c)] = [some (V.ref m), some (.int many), some (.ref D), w, w2] ∧ ExB m H (upd H3 l' (.lst (zs ++ [y]))) ∧ MkA (upd H3 l' (.lst (zs ++ [y]))) m o a' s ∧
                (upd H3 l' (.lst (zs ++ [y]))) D = some (.lst (iv ks)) ∧ ks.length ≤ i + 1 ∧ Lst (kGo many) knStep os (knownR os a) ks ks.length a' s (i + 1) := fun v ev => by
            refine ⟨D, _, _, rfl, rfl, h3, by rw [List.length_map]; exact szl (by omega), _, _, ks ++ [v], a3, s3, rfl, e23.mut nH, mk3.mut nDm, by rw [upd_same]; simp [iv], by simp; omega, ?_⟩
            rcases how with ⟨rfl, b3, q, rfl⟩ | ⟨er, q, rfl⟩
            · obtain ⟨l1, l2⟩ := num_up q
              have T3 := T2 _ _ (bindR_at q) l1 l2
              rw [← ev] at T3
              exact .inl ⟨rfl, b3, f', rfl, T3, by simp; omega, .inl (by simp; omega)⟩
            · exact .inr ⟨er, T1 er (bindR_err q), rfl⟩
          refine ⟨_, rfl, .inl ⟨rfl, _, SqL.of h3⟩, _, rfl, rfl, _, rfl, ?_⟩
          rw [dec_int']
          by_cases d : ((i : Nat) : Int) = 0
          · rw [decide_eq_true d]
            have ek : ks = [] := List.length_eq_zero_iff.mp (by omega)
            exact ⟨_, rfl, c, rfl, fin _ (by rw [if_pos ek])⟩
          · rw [decide_eq_false d]
            rcases snoc_cases ks with e | ⟨k0, x, rfl⟩
            · subst e
              simp at lei
              omega
            · have hlast : atI (iv (k0 ++ [x])) (-1) = some (.int x) := by
                rw [iv, List.map_append]
                exact atI_end
              refine ⟨_, rfl, _, rfl, D, _, _, _, rfl, rfl, SqL.of h3, hlast, _, rfl, _, _, rfl, rfl, _, _, rfl, rfl, fin _ ?_⟩
              rw [if_neg (by simp), List.getLastD_concat]
        · exact absurd z.symm (es_ne er)
      · have eb : (decide (s = "") && decide ((i : Int) < many)) = false := by
          rw [Bool.and_eq_false_iff, decide_eq_false_iff_not, decide_eq_false_iff_not]
          by_cases z : s = ""
          · exact .inr fun y => c ⟨z, y⟩
          · exact .inl z
        rw [eb]
        refine ⟨_, w2, ks, a', s, rfl, e2, mk2, h2, by omega, ?_⟩
        rcases st with ⟨rfl, b, f, rfl, T, lb, li⟩ | z
        · refine .inl ⟨rfl, b, f, rfl, T, lb, .inr (decide_eq_false ?_)⟩
          have : ¬ (i : Int) < many := fun y => c ⟨rfl, y⟩
          rcases li with z | z
          · omega
          · exact of_decide_eq_false z
        · exact .inr z
    · rintro σ H2 ⟨w, w2, ks, a', s, rfl, e2, mk2, h2, lk, st⟩
      refine ⟨_, rfl, ?_⟩
      have how : How (knownR os a) ks a' s := by
        rcases st with ⟨rfl, b, f, rfl, T, lb, li⟩ | ⟨er, z1, z2⟩
        · refine .inl ⟨rfl, b, ?_, rfl⟩
          rcases li with z | z
          · have := T.al
            omega
          · exact T.stop z
        · exact .inr ⟨er, z1, z2⟩
      rcases mkO_fin out e2 mk2 how with z | z
      · exact z D nH h2
      · exact z D ks nH h2
end L2.EG

set_option Elab.async false
set_option linter.all false
set_option maxRecDepth 100000
set_option maxHeartbeats 4000000
/-! The law's defs, part seven: _law_times_read. -/
namespace L2.EG
open PySem PySem.Spec PyProof.Rows EgM
open Evl (Ex ex_l ex_t)

/-- an expression whose value leaves no trace -/
def Vv (t : TE) (σ : L2.St) (H : Hp) (v : V) : Prop := ∀ Q : VK, Q v H → t σ H Q
theorem Vv.ifx {c : TT} {ta tb : TE} {σ : L2.St} {H : Hp} {b : Bool} {v : V} (h : Tv c σ H b) (ha : b = true → Vv ta σ H v) (hb : b = false → Vv tb σ H v) : Vv (tIf c ta tb) σ H v := fun Q q => h _ (by
  cases b with
  | true => exact iteT (ha rfl Q q)
  | false => exact iteF (hb rfl Q q))
/-- what the law reads: a new list of a new list and a number, or a text -/
def lrO (H : Hp) (r : Res (List Int)) (Q : VK) : Prop := match r with
  | .ok (xs, a) => ∀ (H' : Hp) (p q : Addr), Ex H H' → H p = none → H q = none → H' p = some (.lst [.ref q, .int (a : Int)]) → H' q = some (.lst (iv xs)) → Q (.ref p) H'
  | .error e => ∀ H', Ex H H' → Q (.str (es e)) H'
def spLTimesR (K : PySem.W.Frag) : Sp := fun vs H Q _ => ∃ (o : Addr) (os : List Int), vs = [.ref o, .int 0] ∧ SqL K H o (iv os) ∧ OsOk os ∧ lrO H (times os 0) Q
-- slots of _law_times_read: 0 _law_octets_here, 1 _law_at, 2 _law_mark, 3 _law_found, 4 _law_gap, 5 _law_many, 6 _law_k, 7 _law_count
theorem sc__law_times_read : FnScope ["_law_octets_here", "_law_at", "_law_mark", "_law_found", "_law_gap", "_law_many", "_law_k", "_law_count"] ["_law_octets_here", "_law_at"] (defScope (top 72)) := ⟨rfl, rfl, rfl, by decide +kernel, rfl, by decide +kernel, by decide +kernel⟩
theorem ok__law_times_read {M : Md} (B : Bn M) (c__law_next : M.pm "_law_next" 1 ["_law_mark"] (spLNext M.K)) (c__law_from : M.pm "_law_from" 1 ["_law_count"] spLFrom) (F : Fd M "_law_times_read" (top 72)) : M.pm "_law_times_read" 2 ["_law_octets_here", "_law_at"] (spLTimesR M.K) := by
  refine F.ok sc__law_times_read ?len (fun _ _ _ _ _ _ us hl => match us, hl with | [_, _], _ => rfl) (fun f cdv A outer s H vs Q E hr h => ?body)
  case len =>
    rintro _ _ _ _ ⟨_, _, rfl, _⟩
    rfl
  case body =>
    refine ⟨_, (pss_cons (ps_par3 (i := 2) (j := 3) (l := 4) rfl sc__law_times_read.nd rfl rfl rfl (by decide) (by decide) (by decide) rfl rfl rfl (pa_cons (pe_lst (pa_cons (pv 0) (pa_cons (pv 1) (pa_cons pe_str pa_nil)))) (pa_cons (pe_lst pa_nil) (pa_cons pe_int pa_nil))) (by rfl))
      (pss_cons (ps_set (i := 5) sc__law_times_read.nd rfl (Or.inl rfl) (pe_pm c__law_next (hr.mono (by decide)) rfl (pa_cons (pv 2) pa_nil)))
      (pss_cons (ps_for PassesOwn.never rfl (pi_range1 rfl B.range (pa_cons (pe_op op_add (pe_len (K := M.K) rfl B.len (pv 0)) pe_int) pa_nil)) (pg_name (i := 6) sc__law_times_read.nd rfl (Or.inl rfl))
        (pss_one (ps_if (PW.pt (pw_and (pt_cmpR op_eq (pe_ixL (K := M.K) (pv 2) pe_int (fun _ _ => rfl)) pe_str (nomark _)) (pw_and1 (pt_cmpR op_lt (pv 6) (pv 5) (nomark _)))))
          (pss_cons (ps_set (i := 7) sc__law_times_read.nd rfl (Or.inl rfl) (pe_pm c__law_next (hr.mono (by decide)) rfl (pa_cons (pv 2) pa_nil)))
          (pss_cons (ps_if (pt_cmpR op_gt (pv 6) pe_int (nomark _))
            (pss_one (ps_set (i := 4) sc__law_times_read.nd rfl (Or.inl rfl) (pe_ifExp (pt_cmpR op_eq (pv 6) pe_int (nomark _)) (pe_op op_add (pv 7) pe_int) (pe_op op_add (pv 4) (pe_pm c__law_from (hr.mono (by decide)) rfl (pa_cons (pv 7) pa_nil))))))
            pss_nil)
          (pss_cons (ps_if (PW.pt (pw_and (pt_cmpR op_eq (pe_ixL (K := M.K) (pv 2) pe_int (fun _ _ => rfl)) pe_str (nomark _)) (pw_and (pt_cmpR op_gt (pv 6) pe_int (nomark _)) (pw_and1 (pt_cmpR op_lt (pv 4) pe_int (nomark _))))))
            (pss_one (ps_asg pe_str (pg_sub (pv 2) pe_int set_list)))
            pss_nil)
          (pss_one (ps_expr (pe_bm PySem.F.plainAttrs_list PySem.F.slot_list_append PySem.F.type_list_append mt_append (pv 3) (pa_cons (pe_ifExp (pt_cmpR op_eq (pv 6) pe_int (nomark _)) (pv 7) (pe_op op_add (pe_ixL (K := M.K) (pv 3) (pe_un un_neg pe_int) (fun _ _ => rfl)) (pv 4))) pa_nil)))))))
          pss_nil)))
      (pss_one (ps_ret (pe_ifExp (pt_cmpR op_eq (pe_ixL (K := M.K) (pv 2) pe_int (fun _ _ => rfl)) pe_str (nomark _)) (pe_lst (pa_cons (pv 3) (pa_cons (pe_ixL (K := M.K) (pv 2) pe_int (fun _ _ => rfl)) pa_nil))) (pe_ixL (K := M.K) (pv 2) pe_int (fun _ _ => rfl)))))))), ?_⟩
    obtain ⟨o, os, rfl, hs, O, out⟩ := h
    have lO := O.len
    refine ⟨_, rfl, _, rfl, by show 3 ≤ sizeLine; decide, fun m nm => ⟨by show 0 ≤ sizeLine; decide, fun D nD => ⟨_, _, _, rfl, ?_⟩⟩⟩
    have e0 := Ex.new (o := .lst [V.ref o, .int 0, .str ""]) nm
    have eD := Ex.new (o := .lst []) nD
    have nDm : D ≠ m := fun z => by rw [z, upd_same] at nD; cases nD
    have nDH : H D = none := Evl.fresh_back e0 nD
    have hm0 : (upd H m (.lst [V.ref o, .int 0, .str ""])) m = some (.lst [V.ref o, .int ((0 : Nat) : Int), .str ""]) := upd_same
    generalize hHm : upd H m (.lst [V.ref o, .int 0, .str ""]) = Hm at *
    have hm : (upd Hm D (.lst [])) m = some (.lst [V.ref o, .int ((0 : Nat) : Int), .str ""]) := by rw [upd_ne nDm.symm]; exact hm0
    have hs0 := ex_l (e0.trans eD) hs
    have back : ∀ {H' : Hp}, ExB m Hm H' → Ex H H' := fun e => ExB.ex e0 e nm
    refine ⟨_, rfl, m, o, 0, _, os, rfl, hm, hs0, O.oct, O.z, by omega, mkO_all fun many H1 a1 s1 e1' mk1 how => ?_⟩
    have hD1 := e1' _ _ nDm upd_same
    have e1 := (ExB.of eD).trans e1'
    have hs1 := ex_l (back e1) hs
    refine ⟨_, rfl, o, iv os, rfl, .inl hs1, _, _, rfl, rfl, _, rfl, by omega, by rw [List.length_map]; omega, ?_⟩
    have en : ((((iv os).length : Nat) : Int) + 1).toNat = os.length + 1 := by rw [List.length_map]; omega
    rw [en]
    refine for_range (lo := 0) (n := os.length + 1) (fun i σ H' => ∃ w w2 fs g a' s R0, σ = [some (.ref o), some (.int 0), some (.ref m), some (.ref D), some (.int g), some (.int many), w, w2] ∧ ExB m Hm H' ∧ MkA H' m o a' s ∧ H' D = some (.lst (iv fs)) ∧ fs.length ≤ i ∧
        times os 0 = bindR R0 (fun s a2 => .ok (s.1, a2)) ∧ Lst (tGo many) tmStep os R0 (fs, g) fs.length a' s i) ?_ ?_ ?_
    · rcases how with ⟨rfl, b, q, rfl⟩ | ⟨er, q, rfl⟩
      · obtain ⟨l1, l2⟩ := num_up q
        have eK : times os 0 = bindR (loopR (tGo many) tmStep FU ([], 0) os b) fun s a2 => .ok (s.1, a2) := bindR_at q
        exact ⟨none, none, [], 0, _, _, loopR (tGo many) tmStep FU ([], 0) os b, rfl, e1, mk1, hD1, Nat.le_refl _, eK, .inl ⟨rfl, b, FU, rfl, ⟨rfl, by simp only [FU]; omega, l2⟩, Nat.zero_le _, .inl rfl⟩⟩
      · exact ⟨none, none, [], 0, _, _, .error er, rfl, e1, mk1, hD1, Nat.le_refl _, bindR_err q, .inr ⟨er, rfl, rfl⟩⟩
    · rintro i σ H2 hi ⟨w, w2, fs, g, a', s, R0, rfl, e2, mk2, h2, lk, eT, st⟩
      have ei0 : (0 : Int) + (i : Int) = (i : Int) := by omega
      rw [ei0]
      have hs2 := ex_l (back e2) hs
      refine if_go (Tv.and (a := decide (s = "")) (b := decide ((i : Int) < many)) (fun Q q => ⟨_, rfl, m, _, 2, .str s, rfl, rfl, SqL.of mk2, rfl, rfl, _, rfl, by rw [dec_str]; exact q⟩) (fun _ Q q => ⟨_, rfl, _, rfl, _, _, rfl, rfl, _, rfl, q⟩)) ?_
      by_cases c : s = "" ∧ (i : Int) < many
      · rw [decide_eq_true c.1, decide_eq_true c.2]
        obtain ⟨rfl, cm⟩ := c
        rcases st with ⟨_, b, f, rfl, T, lb, li⟩ | ⟨er, _, z⟩
        · have lei : fs.length = i := by
            rcases li with z | z
            · exact z
            · have z : ¬ ((fs.length : Int) < many) := of_decide_eq_false z
              omega
          obtain ⟨f', rfl, T1, T2⟩ := T.go (decide_eq_true (show (fs.length : Int) < many by omega))
          have es' : tmStep (fs, g) os b = bindR (num os b) fun c a' => if fs = [] then .ok (([c], g), a') else
            if (if fs.length = 1 then c + 1 else g + unz c) < 1 then .error .malf else .ok ((fs ++ [fs.getLastD 0 + (if fs.length = 1 then c + 1 else g + unz c)], (if fs.length = 1 then c + 1 else g + unz c)), a') := rfl
          rw [es'] at T1 T2
          have bl := T.al
          refine ⟨_, rfl, m, o, b, _, os, rfl, mk2, hs2, O.oct, O.z, by omega, mkO_all fun c H3 a3 s3 e3 mk3 how => ?_⟩
          have h3 := e3 _ _ nDm h2
          have e23 := e2.trans e3
          by_cases d : i = 0
          · -- the first
            have ef : fs = [] := List.length_eq_zero_iff.mp (by omega)
            subst ef
            subst d
            refine ⟨_, rfl, _, _, rfl, rfl, _, rfl, ?_⟩
            rw [decide_eq_false (by omega)]
            refine iteF (nx_go ?_)
            dsimp only
            refine seq_go (if_go (Tv.and (a := decide (s3 = "")) (b := false) (fun Q q => ⟨_, rfl, m, _, 2, .str s3, rfl, rfl, SqL.of mk3, rfl, rfl, _, rfl, by rw [dec_str]; exact q⟩)
              (fun _ => Tv.and (a := false) (b := false) (fun Q q => ⟨_, rfl, _, _, rfl, rfl, _, rfl, q⟩) fun z => by cases z)) ?_)
            rw [Bool.and_false]
            refine ⟨_, rfl, .inl ⟨rfl, _, SqL.of h3⟩, _, rfl, rfl, _, rfl, ?_⟩
            rw [dec_int', decide_eq_true (by omega)]
            refine ⟨_, rfl, D, _, _, rfl, rfl, h3, szl (by show 0 < 1000000; decide), ?_⟩
            refine ⟨_, _, [c], g, a3, s3, R0, rfl, e23.mut nD, mk3.mut nDm, by rw [upd_same]; rfl, by simp, eT, ?_⟩
            · rcases how with ⟨rfl, b3, q, rfl⟩ | ⟨er, q, rfl⟩
              · obtain ⟨l1, l2⟩ := num_up q
                rw [bindR_at q, if_pos rfl] at T2
                exact .inl ⟨rfl, b3, f', rfl, T2 _ _ rfl l1 l2, by simp; omega, .inl rfl⟩
              · exact .inr ⟨er, T1 er (bindR_err q), rfl⟩
          · -- a further one
            have nf : fs ≠ [] := fun z => by rw [z] at lei; exact d lei.symm
            have V4 : Vv (tIf (tTest (tOp rEq (tVar 6) (tC (.int 1)))) (tOp (rI0 fun i j => .int (i + j)) (tVar 7) (tC (.int 1))) (tOp (rI0 fun i j => .int (i + j)) (tVar 4) (tPm spLFrom (fun _ => E0) (tCons (tVar 7) tNil))))
                [some (V.ref o), some (.int 0), some (.ref m), some (.ref D), some (.int g), some (.int many), some (.int (i : Int)), some (.int c)] H3 (.int (if fs.length = 1 then c + 1 else g + unz c)) := by
              refine Vv.ifx (b := decide ((i : Int) = 1)) (fun Q q => ⟨_, rfl, rfl, _, rfl, by rw [dec_int']; exact q⟩) (fun z Q q => ?_) fun z Q q => ?_
              · rw [if_pos (by have := of_decide_eq_true z; omega)] at q
                exact ⟨_, rfl, _, _, rfl, rfl, q⟩
              · rw [if_neg (by have := of_decide_eq_false z; omega)] at q
                exact ⟨_, rfl, _, rfl, c, rfl, _, _, rfl, rfl, q⟩
            generalize hG : (if fs.length = 1 then c + 1 else g + unz c) = gg at V4
            refine ⟨_, rfl, _, _, rfl, rfl, _, rfl, ?_⟩
            rw [decide_eq_true (show (0 : Int) < (i : Int) by omega)]
            refine iteT (asg_go (V4 _ ?_))
            dsimp only [gName]
            refine seq_go (if_go (Tv.and (a := decide (s3 = "")) (b := decide (0 < (i : Int)) && decide (gg < 1)) (fun Q q => ⟨_, rfl, m, _, 2, .str s3, rfl, rfl, SqL.of mk3, rfl, rfl, _, rfl, by rw [dec_str]; exact q⟩)
              (fun _ => Tv.and (fun Q q => ⟨_, rfl, _, _, rfl, rfl, _, rfl, q⟩) fun _ Q q => ⟨_, rfl, _, _, rfl, rfl, _, rfl, q⟩)) ?_)
            -- the turn's end, whatever the mark says
            have fin : ∀ (H4 : Hp) (s4 : Str), ExB m H3 H4 → MkA H4 m o a3 s4 → Lst (tGo many) tmStep os R0 (fs ++ [fs.getLastD 0 + gg], gg) (fs.length + 1) a3 s4 (i + 1) → ∃ l zs y, V.ref D = .ref l ∧ [V.int (fs.getLastD 0 + gg)] = [y] ∧ H4 l = some (.lst zs) ∧ zs.length < sizeLine ∧
                ∃ w w2 fs g a' s R0, [some (V.ref o), some (.int 0), some (.ref m), some (.ref D), some (.int gg), some (.int many), some (.int (i : Int)), some (.int c)] = [some (V.ref o), some (.int 0), some (.ref m), some (.ref D), some (.int g), some (.int many), w, w2] ∧
                  ExB m Hm (upd H4 l (.lst (zs ++ [y]))) ∧ MkA (upd H4 l (.lst (zs ++ [y]))) m o a' s ∧ (upd H4 l (.lst (zs ++ [y]))) D = some (.lst (iv fs)) ∧ fs.length ≤ i + 1 ∧ times os 0 = bindR R0 (fun s a2 => .ok (s.1, a2)) ∧ Lst (tGo many) tmStep os R0 (fs, g) fs.length a' s (i + 1) :=
              fun H4 s4 e4 mk4 st4 => ⟨D, _, _, rfl, rfl, e4 _ _ nDm h3, by rw [List.length_map]; exact szl (by omega), _, _, fs ++ [fs.getLastD 0 + gg], gg, a3, s4, R0, rfl, (e23.trans e4).mut nD, mk4.mut nDm, by rw [upd_same]; simp [iv], by simp; omega, eT, by simpa using st4⟩
            have hlast : atI (iv fs) (-1) = some (.int (fs.getLastD 0)) := by
              rcases snoc_cases fs with e | ⟨f0, x, rfl⟩
              · exact absurd e nf
              · rw [iv, List.map_append, List.getLastD_concat]
                exact atI_end
            by_cases z : s3 = "" ∧ gg < 1
            · rw [decide_eq_true z.1, decide_eq_true (show (0 : Int) < (i : Int) by omega), decide_eq_true z.2]
              refine ⟨_, rfl, m, _, 2, 2, rfl, rfl, mk3, rfl, ?_⟩
              have mk4 : MkA (upd H3 m (.lst ([V.ref o, .int a3, .str s3].set 2 (.str "malformed")))) m o a3 "malformed" := by
                show (upd H3 m _) m = _
                rw [upd_same]
                rfl
              refine ⟨_, rfl, .inl ⟨rfl, _, SqL.of ((ExB.set (o := .lst ([V.ref o, .int a3, .str s3].set 2 (.str "malformed"))) (ExB.refl m H3)) _ _ nDm h3)⟩, _, rfl, rfl, _, rfl, ?_⟩
              rw [dec_int', decide_eq_false (by omega)]
              refine ⟨_, rfl, _, rfl, D, _, _, _, rfl, rfl, SqL.of ((ExB.set (o := .lst ([V.ref o, .int a3, .str s3].set 2 (.str "malformed"))) (ExB.refl m H3)) _ _ nDm h3), hlast, _, rfl, _, _, rfl, rfl, fin _ "malformed" (ExB.set (ExB.refl _ _)) mk4 (.inr ⟨.malf, ?_, rfl⟩)⟩
              rcases how with ⟨_, b3, q, rfl⟩ | ⟨er, q, y⟩
              · rw [bindR_at q, if_neg nf, hG, if_pos z.2] at T1
                exact T1 .malf rfl
              · rw [z.1] at y
                exact absurd y.symm (es_ne er)
            · have eb : (decide (s3 = "") && (decide (0 < (i : Int)) && decide (gg < 1))) = false := by
                rw [decide_eq_true (show (0 : Int) < (i : Int) by omega), Bool.true_and, Bool.and_eq_false_iff, decide_eq_false_iff_not, decide_eq_false_iff_not]
                by_cases y : s3 = ""
                · exact .inr fun x => z ⟨y, x⟩
                · exact .inl y
              rw [eb]
              refine ⟨_, rfl, .inl ⟨rfl, _, SqL.of h3⟩, _, rfl, rfl, _, rfl, ?_⟩
              rw [dec_int', decide_eq_false (by omega)]
              refine ⟨_, rfl, _, rfl, D, _, _, _, rfl, rfl, SqL.of h3, hlast, _, rfl, _, _, rfl, rfl, fin H3 s3 (ExB.refl _ _) mk3 ?_⟩
              rcases how with ⟨y, b3, q, rfl⟩ | ⟨er, q, y⟩
              · obtain ⟨l1, l2⟩ := num_up q
                rw [bindR_at q, if_neg nf, hG, if_neg (fun x => z ⟨y, x⟩)] at T2
                exact .inl ⟨y, b3, f', rfl, T2 _ _ rfl l1 l2, by omega, .inl (by omega)⟩
              · exact .inr ⟨er, T1 er (bindR_err q), y⟩
        · exact absurd z.symm (es_ne er)
      · have eb : (decide (s = "") && decide ((i : Int) < many)) = false := by
          rw [Bool.and_eq_false_iff, decide_eq_false_iff_not, decide_eq_false_iff_not]
          by_cases z : s = ""
          · exact .inr fun y => c ⟨z, y⟩
          · exact .inl z
        rw [eb]
        refine ⟨_, w2, fs, g, a', s, R0, rfl, e2, mk2, h2, by omega, eT, ?_⟩
        rcases st with ⟨rfl, b, f, rfl, T, lb, li⟩ | z
        · refine .inl ⟨rfl, b, f, rfl, T, lb, .inr (decide_eq_false ?_)⟩
          have : ¬ (i : Int) < many := fun y => c ⟨rfl, y⟩
          rcases li with z | z
          · show ¬ ((fs.length : Int) < many)
            omega
          · exact of_decide_eq_false z
        · exact .inr z
    · rintro σ H2 ⟨w, w2, fs, g, a', s, R0, rfl, e2, mk2, h2, lk, eT, st⟩
      refine ⟨_, rfl, m, _, 2, .str s, rfl, rfl, SqL.of mk2, rfl, rfl, _, rfl, ?_⟩
      rw [dec_str]
      rcases st with ⟨rfl, b, f, rfl, T, lb, li⟩ | ⟨er, z1, rfl⟩
      · rw [decide_eq_true rfl]
        have eR : R0 = .ok ((fs, g), b) := by
          rcases li with z | z
          · have := T.al
            omega
          · exact T.stop z
        rw [eR] at eT
        rw [show times os 0 = .ok (fs, b) from eT] at out
        refine ⟨_, rfl, _, rfl, m, _, 1, _, rfl, rfl, SqL.of mk2, rfl, by show 2 ≤ sizeLine; decide, fun p np => ?_⟩
        have eb := back e2
        exact out _ p D (eb.trans (Ex.new np)) (Evl.fresh_back eb np) nDH upd_same ((Ex.new np) _ _ h2)
      · rw [decide_eq_false (es_ne er)]
        rw [z1] at eT
        rw [show times os 0 = .error er from eT] at out
        exact ⟨_, rfl, m, _, 2, _, rfl, rfl, SqL.of mk2, rfl, out _ (back e2)⟩
end L2.EG

set_option Elab.async false
set_option linter.all false
set_option maxRecDepth 100000
set_option maxHeartbeats 4000000
/-! The law's defs, part eight: _law_one_read. -/
namespace L2.EG
open PySem PySem.Spec PyProof.Rows EgM
open Evl (Ex ex_l ex_t)

def spLOne (K : PySem.W.Frag) : Sp := fun vs H Q _ => ∃ (m o k f : Addr) (a count : Nat) (kind : Int) (os known s : List Int), vs = [.ref m, .int kind, .ref k, .ref f, .int ((count : Int) - (s.length : Int))] ∧ MkA H m o (a : Int) "" ∧ SqL K H o (iv os) ∧ OsOk os ∧ a ≤ os.length ∧
  SqL K H k (iv known) ∧ SqL K H f (iv s) ∧ 0 ≤ kind ∧ kind ≤ 3 ∧ s.length < count ∧ count ≤ 400 ∧
  ∀ (H' : Hp) (q : Addr) (ch : List Int) (a' : Int) (str : Str), ExB m H H' → MkA H' m o a' str → H q = none → H' q = some (.lst (iv ch)) → ch.length ≤ 401 → How (vStep kind known count s os a) (s ++ ch) a' str → Q (.ref q) H'
theorem MkA.set2 {H : Hp} {m o : Addr} {a : Int} {s t : Str} : MkA (upd H m (.lst ([V.ref o, .int a, .str s].set 2 (.str t)))) m o a t := by
  show (upd H m _) m = _
  rw [upd_same]
  rfl
-- slots of _law_one_read: 0 _law_mark, 1 _law_kind, 2 _law_known_here, 3 _law_found, 4 _law_wanted, 5 _law_count, 6 _law_many
theorem sc__law_one_read : FnScope ["_law_mark", "_law_kind", "_law_known_here", "_law_found", "_law_wanted", "_law_count", "_law_many"] ["_law_mark", "_law_kind", "_law_known_here", "_law_found", "_law_wanted"] (defScope (top 74)) := ⟨rfl, rfl, rfl, by decide +kernel, rfl, by decide +kernel, by decide +kernel⟩
theorem ok__law_one_read {M : Md} (B : Bn M) (c__law_next : M.pm "_law_next" 1 ["_law_mark"] (spLNext M.K)) (c__law_from : M.pm "_law_from" 1 ["_law_count"] spLFrom) (F : Fd M "_law_one_read" (top 74)) : M.pm "_law_one_read" 2 ["_law_mark", "_law_kind", "_law_known_here", "_law_found", "_law_wanted"] (spLOne M.K) := by
  refine F.ok sc__law_one_read ?len (fun _ _ _ _ _ _ us hl => match us, hl with | [_, _, _, _, _], _ => rfl) (fun f cdv A outer s H vs Q E hr h => ?body)
  case len =>
    rintro _ _ _ _ ⟨_, _, _, _, _, _, _, _, _, _, rfl, _⟩
    rfl
  case body =>
    refine ⟨_, (pss_cons (ps_set (i := 5) sc__law_one_read.nd rfl (Or.inl rfl) (pe_pm c__law_next (hr.mono (by decide)) rfl (pa_cons (pv 0) pa_nil)))
      (pss_cons (ps_if (PW.pt (pw_and (pt_cmpR op_eq (pe_ixL (K := M.K) (pv 0) pe_int (fun _ _ => rfl)) pe_str (nomark _)) (pw_and1 (pt_cmpR op_eq (pv 1) pe_int (nomark _)))))
        (pss_cons (ps_set (i := 6) sc__law_one_read.nd rfl (Or.inl rfl) (pe_op op_add (pe_pm c__law_next (hr.mono (by decide)) rfl (pa_cons (pv 0) pa_nil)) pe_int))
        (pss_cons (ps_if (PW.pt (pw_and (pt_cmpR op_eq (pe_ixL (K := M.K) (pv 0) pe_int (fun _ _ => rfl)) pe_str (nomark _)) (pw_and1 (pt_cmpR op_gt (pv 6) (pv 4) (nomark _)))))
          (pss_one (ps_asg pe_str (pg_sub (pv 0) pe_int set_list)))
          pss_nil)
        (pss_one (ps_ret (pe_op op_rep (pe_lst (pa_cons (pe_pm c__law_from (hr.mono (by decide)) rfl (pa_cons (pv 5) pa_nil)) pa_nil)) (pe_ifExp (pt_cmpR op_eq (pe_ixL (K := M.K) (pv 0) pe_int (fun _ _ => rfl)) pe_str (nomark _)) (pv 6) pe_int))))))
        pss_nil)
      (pss_cons (ps_if (PW.pt (pw_and (pt_cmpR op_eq (pe_ixL (K := M.K) (pv 0) pe_int (fun _ _ => rfl)) pe_str (nomark _)) (pw_and1 (pt_cmpR op_eq (pv 1) pe_int (nomark _)))))
        (pss_cons (ps_if (pt_cmpR op_ge (pv 5) (pe_len (K := M.K) rfl B.len (pv 2)) (nomark _))
          (pss_cons (ps_asg pe_str (pg_sub (pv 0) pe_int set_list))
          (pss_one (ps_ret (pe_lst pa_nil))))
          pss_nil)
        (pss_one (ps_ret (pe_lst (pa_cons (pe_ixL (K := M.K) (pv 2) (pv 5) (fun _ _ => rfl)) pa_nil)))))
        pss_nil)
      (pss_one (ps_ret (pe_lst (pa_cons (pe_op op_add (pe_pm c__law_from (hr.mono (by decide)) rfl (pa_cons (pv 5) pa_nil)) (pe_ifExp (PW.pt (pw_and (pt_cmpR op_eq (pv 1) pe_int (nomark _)) (pw_and1 (pt_cmpR (or_neD (K := M.K) hr.units) (pv 3) (pe_lst pa_nil) (nomark _))))) (pe_ixL (K := M.K) (pv 3) (pe_un un_neg pe_int) (fun _ _ => rfl)) pe_int)) pa_nil))))))), ?_⟩
    obtain ⟨m, o, k, f0, a, count, kind, os, known, s, rfl, hm, hs, O, ha, hk, hf, k0, k3, lt, hc, out⟩ := h
    have lO := O.len
    refine ⟨_, rfl, m, o, a, _, os, rfl, hm, hs, O.oct, O.z, by omega, mkO_all fun c H1 a1 s1 e1 mk1 how => ?_⟩
    have hk1 := sq_exb hk e1 hm iv_ne
    have hf1 := sq_exb hf e1 hm iv_ne
    have hs1 := sq_exb hs e1 hm iv_ne
    have back : ∀ {H' : Hp} {a : Int} {s : Str}, ExB m H H' → MkA H' m o a s → ∀ q, H' q = none → H q = none := fun {H' _ _} e mk q n => by
      cases z : H q with
      | none => rfl
      | some u =>
        rw [e q u (mk.ne n) z] at n
        cases n
    dsimp only [gName]
    refine seq_go (if_go (Tv.and (a := decide (s1 = "")) (b := decide (kind = 2)) (fun Q q => ⟨_, rfl, m, _, 2, .str s1, rfl, rfl, SqL.of mk1, rfl, rfl, _, rfl, by rw [dec_str]; exact q⟩) (fun _ Q q => ⟨_, rfl, rfl, _, rfl, by rw [dec_int']; exact q⟩)) ?_)
    by_cases c2 : s1 = "" ∧ kind = 2
    · rw [decide_eq_true c2.1, decide_eq_true c2.2]
      obtain ⟨rfl, rfl⟩ := c2
      rcases how with ⟨_, b, q1, rfl⟩ | ⟨er, _, z⟩
      · obtain ⟨l1, l2⟩ := num_up q1
        have es' : vStep 2 known count s os a = bindR (num os b) fun m a2 => if (count : Int) - s.length < m + 1 then .error .malf else .ok (s ++ List.replicate (m + 1).toNat (unz c), a2) := by
          unfold vStep
          rw [bindR_at q1, if_pos rfl]
        refine ⟨_, rfl, m, o, b, _, os, rfl, mk1, hs1, O.oct, O.z, by omega, mkO_all fun mm H2 a2 s2 e2 mk2 how2 => ?_⟩
        have e12 := e1.trans e2
        refine ⟨_, _, rfl, rfl, ?_⟩
        dsimp only [gName]
        refine seq_go (if_go (Tv.and (a := decide (s2 = "")) (b := decide ((count : Int) - (s.length : Int) < mm + 1)) (fun Q q => ⟨_, rfl, m, _, 2, .str s2, rfl, rfl, SqL.of mk2, rfl, rfl, _, rfl, by rw [dec_str]; exact q⟩) (fun _ Q q => ⟨_, rfl, _, rfl, _, _, rfl, rfl, _, rfl, q⟩)) ?_)
        -- the list that is handed back
        have fin : ∀ (H3 : Hp) (s3 : Str) (n : Int), ExB m H H3 → MkA H3 m o a2 s3 → n = (if s3 = "" then mm + 1 else 0) → 0 ≤ n → n ≤ 400 → How (vStep 2 known count s os a) (s ++ List.replicate n.toNat (unz c)) a2 s3 →
            tRet (tOp rRep (tLst (tCons (tPm spLFrom (fun _ => E0) (tCons (tVar 5) tNil)) tNil)) (tIf (tTest (tOp rEq (tOp (rIxL M.K) (tVar 0) (tC (.int 2))) (tC (.str "")))) (tVar 6) (tC (.int 0)))) { nx := fun _ H' => Q .non H', rt := Q }
              [some (.ref m), some (.int 2), some (.ref k), some (.ref f0), some (.int ((count : Int) - (s.length : Int))), some (.int c), some (.int (mm + 1))] H3 := fun H3 s3 n e3 mk3 en n0 ln how3 => by
          refine ⟨_, rfl, c, rfl, by show 1 ≤ sizeLine; decide, fun z nz => ?_⟩
          have ez := Ex.new (o := .lst [V.int (unz c)]) nz
          have nzm := mk3.ne nz
          refine Vv.ifx (b := decide (s3 = "")) (v := .int n) (fun Q q => ⟨_, rfl, m, _, 2, .str s3, rfl, rfl, SqL.of (mk3.mut nzm), rfl, rfl, _, rfl, by rw [dec_str]; exact q⟩) (fun y Q q => ⟨_, rfl, by rw [en, if_pos (of_decide_eq_true y)] at q; exact q⟩) (fun y Q q => by rw [en, if_neg (of_decide_eq_false y)] at q; exact q) _ ?_
          · refine ⟨z, n, _, rfl, rfl, upd_same, ?_, by omega, by show 1 * n.toNat ≤ sizeLine; exact sz (by omega), fun y ny => ?_⟩
            · omega
            · have er : (List.replicate n.toNat [V.int (unz c)]).flatten = iv (List.replicate n.toNat (unz c)) := by
                rw [List.flatten_replicate_singleton, iv, List.map_replicate]
              have nym := (mk3.mut (u := .lst [V.int (unz c)]) nzm).ne ny
              exact out _ y _ a2 s3 (e3.trans (ExB.of (ez.trans (Ex.new ny)))) ((mk3.mut nzm).mut nym) (back (e3.trans (ExB.of ez)) (mk3.mut nzm) y ny) (by rw [upd_same, er]) (by rw [List.length_replicate]; omega) how3
        by_cases z : s2 = "" ∧ (count : Int) - (s.length : Int) < mm + 1
        · rw [decide_eq_true z.1, decide_eq_true z.2]
          refine ⟨_, rfl, m, _, 2, 2, rfl, rfl, mk2, rfl, ?_⟩
          refine fin _ "malformed" 0 (ExB.set e12) MkA.set2 (by rw [if_neg (by decide)]) (by omega) (by omega) (.inr ⟨.malf, ?_, rfl⟩)
          rcases how2 with ⟨_, b2, q2, _⟩ | ⟨er, _, y⟩
          · rw [es', bindR_at q2, if_pos z.2]
          · rw [z.1] at y
            exact absurd y.symm (es_ne er)
        · have eb : (decide (s2 = "") && decide ((count : Int) - (s.length : Int) < mm + 1)) = false := by
            rw [Bool.and_eq_false_iff, decide_eq_false_iff_not, decide_eq_false_iff_not]
            by_cases y : s2 = ""
            · exact .inr fun x => z ⟨y, x⟩
            · exact .inl y
          rw [eb]
          refine iteF (nx_go ?_)
          dsimp only
          rcases how2 with ⟨rfl, b2, q2, rfl⟩ | ⟨er, q2, rfl⟩
          · have m0 := (num_facts O.oct q2).1
            have le : ¬ (count : Int) - (s.length : Int) < mm + 1 := fun x => z ⟨rfl, x⟩
            exact fin H2 "" (mm + 1) e12 mk2 (by rw [if_pos rfl]) (by omega) (by omega) (.inl ⟨rfl, b2, by rw [es', bindR_at q2, if_neg le], rfl⟩)
          · exact fin H2 (es er) 0 e12 mk2 (by rw [if_neg (es_ne er)]) (by omega) (by omega) (.inr ⟨er, by rw [es', bindR_err q2], rfl⟩)
      · exact absurd z.symm (es_ne er)
    · have eb : (decide (s1 = "") && decide (kind = 2)) = false := by
        rw [Bool.and_eq_false_iff, decide_eq_false_iff_not, decide_eq_false_iff_not]
        by_cases y : s1 = ""
        · exact .inr fun x => c2 ⟨y, x⟩
        · exact .inl y
      rw [eb]
      refine iteF (nx_go ?_)
      dsimp only
      refine seq_go (if_go (Tv.and (a := decide (s1 = "")) (b := decide (kind = 3)) (fun Q q => ⟨_, rfl, m, _, 2, .str s1, rfl, rfl, SqL.of mk1, rfl, rfl, _, rfl, by rw [dec_str]; exact q⟩) (fun _ Q q => ⟨_, rfl, rfl, _, rfl, by rw [dec_int']; exact q⟩)) ?_)
      by_cases c3 : s1 = "" ∧ kind = 3
      · rw [decide_eq_true c3.1, decide_eq_true c3.2]
        obtain ⟨rfl, rfl⟩ := c3
        rcases how with ⟨_, b, q1, rfl⟩ | ⟨er, _, z⟩
        · have es' : vStep 3 known count s os a = if (known.length : Int) ≤ c then .error .malf else .ok (s ++ [known.getD c.toNat 0], b) := by
            unfold vStep
            rw [bindR_at q1, if_neg (by decide), if_pos rfl]
          have c0 := (num_facts O.oct q1).1
          refine ⟨_, rfl, _, rfl, k, _, rfl, .inl hk1, _, _, rfl, rfl, _, rfl, ?_⟩
          rw [List.length_map]
          by_cases d : ((known.length : Nat) : Int) ≤ c
          · rw [decide_eq_true d]
            refine ⟨_, rfl, m, _, 2, 2, rfl, rfl, mk1, rfl, ?_⟩
            refine ⟨by show 0 ≤ sizeLine; decide, fun y ny => ?_⟩
            have mk2 : MkA (upd H1 m (.lst ([V.ref o, .int (b : Int), .str ""].set 2 (.str "malformed")))) m o (b : Int) "malformed" := MkA.set2
            have e2 : ExB m H (upd H1 m (.lst ([V.ref o, .int (b : Int), .str ""].set 2 (.str "malformed")))) := ExB.set e1
            exact out _ y [] _ "malformed" (e2.trans (ExB.of (Ex.new ny))) (mk2.mut (mk2.ne ny)) (back e2 mk2 y ny) upd_same (by show 0 ≤ 401; decide) (.inr ⟨.malf, by rw [es', if_pos d], rfl⟩)
          · rw [decide_eq_false d]
            have hx : known[c.toNat]? = some (known.getD c.toNat 0) := by
              rw [List.getD_eq_getElem?_getD, List.getElem?_eq_getElem (by omega)]
              rfl
            have ex : c = ((c.toNat : Nat) : Int) := by omega
            refine ⟨_, rfl, _, rfl, k, iv known, c, .int (known.getD c.toNat 0), rfl, rfl, hk1, by rw [ex]; exact atI_nat (iv_get hx), by show 1 ≤ sizeLine; decide, fun y ny => ?_⟩
            exact out _ y [known.getD c.toNat 0] _ "" (e1.trans (ExB.of (Ex.new ny))) (mk1.mut (mk1.ne ny)) (back e1 mk1 y ny) upd_same (by show 1 ≤ 401; decide) (.inl ⟨rfl, b, by rw [es', if_neg d], rfl⟩)
        · exact absurd z.symm (es_ne er)
      · have eb : (decide (s1 = "") && decide (kind = 3)) = false := by
          rw [Bool.and_eq_false_iff, decide_eq_false_iff_not, decide_eq_false_iff_not]
          by_cases y : s1 = ""
          · exact .inr fun x => c3 ⟨y, x⟩
          · exact .inl y
        rw [eb]
        -- one number, and the last one where differences are told
        have how3 : How (vStep kind known count s os a) (s ++ [unz c + (if kind = 1 then s.getLastD 0 else 0)]) a1 s1 := by
          rcases how with ⟨rfl, b, q1, rfl⟩ | ⟨er, q1, rfl⟩
          · refine .inl ⟨rfl, b, ?_, rfl⟩
            unfold vStep
            rw [bindR_at q1, if_neg (fun x => c2 ⟨rfl, x⟩), if_neg (fun x => c3 ⟨rfl, x⟩)]
          · refine .inr ⟨er, ?_, rfl⟩
            unfold vStep
            rw [bindR_err q1]
        have fin : ∀ (H2 : Hp) (v : Int), Ex H1 H2 → v = (if kind = 1 then s.getLastD 0 else 0) → 1 ≤ sizeLine ∧ ∀ y, H2 y = none → Q (.ref y) (upd H2 y (.lst [V.int (unz c + v)])) := fun H2 v e2 ev => by
          refine ⟨sz (by decide), fun y ny => ?_⟩
          have e12 := e1.trans (ExB.of e2)
          have mk2 : MkA H2 m o a1 s1 := e2 _ _ mk1
          exact out _ y [unz c + v] a1 s1 (e12.trans (ExB.of (Ex.new ny))) (mk2.mut (mk2.ne ny)) (back e12 mk2 y ny) upd_same (by show 1 ≤ 401; decide) (by rw [ev]; exact how3)
        refine ⟨_, rfl, c, rfl, ?_⟩
        refine ⟨_, rfl, rfl, _, rfl, ?_⟩
        rw [dec_int']
        by_cases k1 : kind = 1
        · rw [decide_eq_true k1]
          refine ⟨_, rfl, by show 0 ≤ sizeLine; decide, fun z nz => ?_⟩
          have ez := Ex.new (o := .lst []) nz
          refine ⟨dI s, dI [], Dp.ints (ex_l ez hf1), Dp.ints (xs := []) (SqL.of upd_same), shaped_ints s, rfl, _, rfl, ?_⟩
          rw [eqv_ints]
          by_cases d : s = []
          · rw [decide_eq_true d]
            refine ⟨_, _, rfl, rfl, fin _ 0 ez ?_⟩
            rw [if_pos k1, d]
            rfl
          · rw [decide_eq_false d]
            have hlast : atI (iv s) (-1) = some (.int (s.getLastD 0)) := by
              rcases snoc_cases s with e | ⟨s0, x, rfl⟩
              · exact absurd e d
              · rw [iv, List.map_append, List.getLastD_concat]
                exact atI_end
            refine ⟨_, rfl, _, rfl, f0, iv s, _, _, rfl, rfl, ex_l ez hf1, hlast, _, _, rfl, rfl, fin _ _ ez (by rw [if_pos k1])⟩
        · rw [decide_eq_false k1]
          exact ⟨_, _, rfl, rfl, fin _ 0 (Ex.refl _) (by rw [if_neg k1])⟩
end L2.EG

set_option Elab.async false
set_option linter.all false
set_option maxRecDepth 100000
set_option maxHeartbeats 4000000
/-! The law's defs, part nine: _law_read. -/
namespace EgM
theorem vStep_len {kind : Int} {known : List Int} {count : Nat} {s : List Int} {os : List Int} {a : Nat} {s' : List Int} {a' : Nat} (ho : Oct os) (lt : s.length < count) (h : vStep kind known count s os a = .ok (s', a')) : s.length + 1 ≤ s'.length ∧ s'.length ≤ count ∧ a < a' ∧ a' ≤ os.length := by
  obtain ⟨c, a1, e, h⟩ := bindR_inv h
  obtain ⟨u1, u2⟩ := num_up e
  split at h
  · obtain ⟨m, a2, e2, h⟩ := bindR_inv h
    obtain ⟨u3, u4⟩ := num_up e2
    have m0 := (num_facts ho e2).1
    split at h
    · simp at h
    · simp only [Except.ok.injEq, Prod.mk.injEq] at h
      obtain ⟨rfl, rfl⟩ := h
      rw [List.length_append, List.length_replicate]
      omega
  · split at h
    · split at h
      · simp at h
      · simp only [Except.ok.injEq, Prod.mk.injEq] at h
        obtain ⟨rfl, rfl⟩ := h
        simp
        omega
    · simp only [Except.ok.injEq, Prod.mk.injEq] at h
      obtain ⟨rfl, rfl⟩ := h
      simp
      omega
end EgM
namespace L2.EG
open PySem PySem.Spec PyProof.Rows EgM
open Evl (Ex ex_l ex_t)

theorem sml_vals {os : List Int} (O : OsOk os) {count a : Nat} {vs : List Int} {a' : Nat} (hc : count ≤ 400) (h : valsFrom count os a = .ok (vs, a')) : SmL vs := by
  obtain ⟨h1, h2⟩ := vals_facts O.oct O.len O.sm hc h
  have e : (128 : Int) ^ 35 = 128 ^ 30 * 128 ^ 5 := by rw [← Int.pow_add]
  have e2 : (128 : Int) ^ 5 = 34359738368 := by decide
  have p : (0 : Int) < 128 ^ 30 := Int.pow_pos (by decide)
  refine ⟨by omega, fun x hx => ?_, fun x hx => ?_⟩
  · have := (h2 x hx).1
    rw [e, e2]
    omega
  · have := (h2 x hx).2
    rw [e, e2]
    omega
def spLRead (K : PySem.W.Frag) : Sp := fun vs H Q _ => ∃ (o : Addr) (a count : Nat) (os : List Int), vs = [.ref o, .int (a : Int), .int (count : Int)] ∧ SqL K H o (iv os) ∧ OsOk os ∧ a ≤ os.length ∧ count ≤ 400 ∧ lrO H (unVals count os a) Q
-- slots of _law_read: 0 _law_octets_here, 1 _law_at, 2 _law_count, 3 _law_kind, 4 _law_mark, 5 _law_found, 6 _law_known_here, 7 _law_turn
theorem sc__law_read : FnScope ["_law_octets_here", "_law_at", "_law_count", "_law_kind", "_law_mark", "_law_found", "_law_known_here", "_law_turn"] ["_law_octets_here", "_law_at", "_law_count"] (defScope (top 75)) := ⟨rfl, rfl, rfl, by decide +kernel, rfl, by decide +kernel, by decide +kernel⟩
theorem ok__law_read {M : Md} (B : Bn M) (c__law_known : M.pm "_law_known" 2 ["_law_mark"] (spLKnown M.K)) (c__law_one_read : M.pm "_law_one_read" 2 ["_law_mark", "_law_kind", "_law_known_here", "_law_found", "_law_wanted"] (spLOne M.K)) (c__law_packed : M.pm "_law_packed" 5 ["_law_values_here"] (spLPacked M.K)) (F : Fd M "_law_read" (top 75)) : M.pm "_law_read" 6 ["_law_octets_here", "_law_at", "_law_count"] (spLRead M.K) := by
  refine F.ok sc__law_read ?len (fun _ _ _ _ _ _ us hl => match us, hl with | [_, _, _], _ => rfl) (fun f cdv A outer s H vs Q E hr h => ?body)
  case len =>
    rintro _ _ _ _ ⟨_, _, _, _, rfl, _⟩
    rfl
  case body =>
    refine ⟨_, (pss_cons (ps_if (PW.pt (pw_or (pt_cmpR op_ge (pv 1) (pe_len (K := M.K) rfl B.len (pv 0)) (nomark _)) (pw_or1 (pt_cmpR op_gt (pe_ixL (K := M.K) (pv 0) (pv 1) (fun _ _ => rfl)) pe_int (nomark _)))))
        (pss_one (ps_ret (pe_ifExp (pt_cmpR op_ge (pv 1) (pe_len (K := M.K) rfl B.len (pv 0)) (nomark _)) pe_str pe_str)))
        pss_nil)
      (pss_cons (ps_par3 (i := 3) (j := 4) (l := 5) rfl sc__law_read.nd rfl rfl rfl (by decide) (by decide) (by decide) rfl rfl rfl (pa_cons (pe_ixL (K := M.K) (pv 0) (pv 1) (fun _ _ => rfl)) (pa_cons (pe_lst (pa_cons (pv 0) (pa_cons (pe_op op_add (pv 1) pe_int) (pa_cons pe_str pa_nil)))) (pa_cons (pe_lst pa_nil) pa_nil))) (by rfl))
      (pss_cons (ps_set (i := 6) sc__law_read.nd rfl (Or.inl rfl) (pe_ifExp (pt_cmpR op_eq (pv 3) pe_int (nomark _)) (pe_pm c__law_known (hr.mono (by decide)) rfl (pa_cons (pv 4) pa_nil)) (pe_lst pa_nil)))
      (pss_cons (ps_for PassesOwn.never rfl (pi_range1 rfl B.range (pa_cons (pv 2) pa_nil)) (pg_name (i := 7) sc__law_read.nd rfl (Or.inl rfl))
        (pss_one (ps_if (PW.pt (pw_and (pt_cmpR op_eq (pe_ixL (K := M.K) (pv 4) pe_int (fun _ _ => rfl)) pe_str (nomark _)) (pw_and1 (pt_cmpR op_lt (pe_len (K := M.K) rfl B.len (pv 5)) (pv 2) (nomark _)))))
          (pss_one (ps_set (i := 5) sc__law_read.nd rfl (Or.inl rfl) (pe_op op_cat (pv 5) (pe_pm c__law_one_read (hr.mono (by decide)) rfl (pa_cons (pv 4) (pa_cons (pv 3) (pa_cons (pv 6) (pa_cons (pv 5) (pa_cons (pe_op op_sub (pv 2) (pe_len (K := M.K) rfl B.len (pv 5))) pa_nil)))))))))
          pss_nil)))
      (pss_cons (ps_if (pt_cmpR op_ne (pe_ixL (K := M.K) (pv 4) pe_int (fun _ _ => rfl)) pe_str (nomark _))
        (pss_one (ps_ret (pe_ixL (K := M.K) (pv 4) pe_int (fun _ _ => rfl))))
        pss_nil)
      (pss_one (ps_ret (pe_ifExp (pt_cmpR (or_eqD (K := M.K) hr.units) (pe_slL (K := M.K) (pv 0) (po_some (pv 1)) (po_some (pe_ixL (K := M.K) (pv 4) pe_int (fun _ _ => rfl)))) (pe_pm c__law_packed (hr.mono (by decide)) rfl (pa_cons (pv 5) pa_nil)) (nomark _)) (pe_lst (pa_cons (pv 5) (pa_cons (pe_ixL (K := M.K) (pv 4) pe_int (fun _ _ => rfl)) pa_nil))) pe_str)))))))), ?_⟩
    obtain ⟨o, a, count, os, rfl, hs, O, ha, hc, out⟩ := h
    have lO := O.len
    have el : (iv os).length = os.length := by simp
    by_cases h0 : os.length ≤ a
    · -- nothing is left
      have eU : unVals count os a = .error .short := by
        have : hd os a = .error .short := by
          unfold hd
          rw [List.getElem?_eq_none h0]
        unfold unVals valsFrom
        rw [bindR_err this]
        rfl
      rw [eU] at out
      refine ⟨_, rfl, _, rfl, o, _, rfl, .inl hs, _, _, rfl, rfl, _, rfl, ?_⟩
      rw [el, decide_eq_true (show ((os.length : Nat) : Int) ≤ (a : Int) by omega)]
      refine ⟨_, rfl, _, rfl, o, _, rfl, .inl hs, _, _, rfl, rfl, _, rfl, ?_⟩
      rw [el, decide_eq_true (show ((os.length : Nat) : Int) ≤ (a : Int) by omega)]
      exact out H (Ex.refl _)
    · have lt : a < os.length := by omega
      have ho : os[a]? = some os[a] := List.getElem?_eq_getElem lt
      have bd := O.oct _ (List.getElem_mem lt)
      generalize os[a] = kind at ho bd
      have gk := atI_nat (iv_get ho)
      have eh : hd os a = .ok (kind, a + 1) := by
        unfold hd
        rw [ho]
      refine ⟨_, rfl, _, rfl, o, _, rfl, .inl hs, _, _, rfl, rfl, _, rfl, ?_⟩
      rw [el, decide_eq_false (show ¬ ((os.length : Nat) : Int) ≤ (a : Int) by omega)]
      refine ⟨_, rfl, _, rfl, o, iv os, _, _, rfl, rfl, hs, gk, _, _, rfl, rfl, _, rfl, ?_⟩
      by_cases h3 : (3 : Int) < kind
      · rw [decide_eq_true h3]
        have eU : unVals count os a = .error .malf := by
          unfold unVals valsFrom
          rw [bindR_at eh, if_pos h3]
          rfl
        rw [eU] at out
        refine ⟨_, rfl, _, rfl, o, _, rfl, .inl hs, _, _, rfl, rfl, _, rfl, ?_⟩
        rw [el, decide_eq_false (show ¬ ((os.length : Nat) : Int) ≤ (a : Int) by omega)]
        exact out H (Ex.refl _)
      · rw [decide_eq_false h3]
        have eV : valsFrom count os a = if kind = 3 then valsD count os (a + 1) else vLoop kind [] count os (a + 1) := by
          unfold valsFrom
          rw [bindR_at eh, if_neg h3, vals_kind]
        generalize hV : valsFrom count os a = VR at eV
        refine ⟨_, rfl, _, rfl, o, iv os, _, _, rfl, rfl, hs, gk, _, rfl, _, rfl, _, _, rfl, rfl, by show 3 ≤ sizeLine; decide, fun m nm => ⟨by show 0 ≤ sizeLine; decide, fun D nD => ⟨_, _, _, rfl, ?_⟩⟩⟩
        have ea : (a : Int) + 1 = ((a + 1 : Nat) : Int) := by omega
        let Hm : Hp := upd H m (.lst [V.ref o, .int ((a : Int) + 1), .str ""])
        have e0 : Ex H Hm := Ex.new nm
        have hm0 : Hm m = some (.lst [V.ref o, .int ((a + 1 : Nat) : Int), .str ""]) := by
          show (upd H m _) m = _
          rw [upd_same, ea]
        have nD : Hm D = none := nD
        have nDm : D ≠ m := fun z => by rw [z, hm0] at nD; cases nD
        have eD := Ex.new (o := .lst []) nD
        have mk0 : MkA Hm m o ((a + 1 : Nat) : Int) "" := hm0
        have mk1 : MkA (upd Hm D (.lst [])) m o ((a + 1 : Nat) : Int) "" := mk0.mut nDm
        have backX : ∀ {H' : Hp}, ExB m Hm H' → Ex H H' := fun e => ExB.ex e0 e nm
        have back : ∀ {H' : Hp} {a : Int} {s : Str}, ExB m Hm H' → MkA H' m o a s → ∀ q, H' q = none → H q = none := fun {H' _ _} e mk q n => by
          refine Evl.fresh_back e0 (?_ : Hm q = none)
          cases z : Hm q with
          | none => rfl
          | some u =>
            rw [e q u (mk.ne n) z] at n
            cases n
        have hs1 := ex_l (e0.trans eD) hs
        -- behind the values that are known
        have rest : ∀ (H1 : Hp) (k : Addr) (known : List Int) (a1 : Int) (s1 : Str), ExB m Hm H1 → MkA H1 m o a1 s1 → H1 D = some (.lst []) → H1 k = some (.lst (iv known)) →
            ((s1 = "" ∧ ∃ b : Nat, a1 = (b : Int) ∧ b ≤ os.length ∧ VR = vLoop kind known count os b) ∨ ∃ er, VR = .error er ∧ s1 = es er) →
            tSeq (tFor (iRng1 (tCons (tVar 2) tNil)) (gName 7) (tIfS (tAnd (tTest (tOp rEq (tOp (rIxL M.K) (tVar 4) (tC (.int 2))) (tC (.str "")))) (tTest (tOp (rI0 fun i j => .bl (decide (i < j))) (tCB (rLn M.K) (tCons (tVar 5) tNil)) (tVar 2))))
                (tAsg (tOp rCat (tVar 5) (tPm (spLOne M.K) (fun _ => E0) (tCons (tVar 4) (tCons (tVar 3) (tCons (tVar 6) (tCons (tVar 5) (tCons (tOp (rI0 fun i j => .int (i - j)) (tVar 2) (tCB (rLn M.K) (tCons (tVar 5) tNil))) tNil))))))) (gName 5)) tNext))
              (tSeq (tIfS (tTest (tOp rNe (tOp (rIxL M.K) (tVar 4) (tC (.int 2))) (tC (.str "")))) (tRet (tOp (rIxL M.K) (tVar 4) (tC (.int 2)))) tNext)
                (tRet (tIf (tTest (tOp (rEqD M.K) (tSl (rSlL M.K) (tVar 0) (tPart (tVar 1)) (tPart (tOp (rIxL M.K) (tVar 4) (tC (.int 1))))) (tPm (spLPacked M.K) (fun _ => E0) (tCons (tVar 5) tNil)))) (tLst (tCons (tVar 5) (tCons (tOp (rIxL M.K) (tVar 4) (tC (.int 1))) tNil))) (tC (.str "malformed")))))
              { nx := fun _ H' => Q .non H', rt := Q } [some (.ref o), some (.int (a : Int)), some (.int (count : Int)), some (.int kind), some (.ref m), some (.ref D), some (.ref k), none] H1 := by
          intro H1 k known a1 s1 e1 mk1 hD1 hk1 st1
          have nkm : k ≠ m := fun z => by
            have h : H1 m = some (.lst [V.ref o, .int a1, .str s1]) := mk1
            rw [← z, hk1] at h
            exact iv_ne (HO.lst.inj (Option.some.inj h))
          refine ⟨_, rfl, (count : Int), rfl, by omega, by omega, ?_⟩
          have en : ((count : Nat) : Int).toNat = count := by omega
          rw [en]
          refine for_range (lo := 0) (n := count) (fun i σ H' => ∃ w fl s a' str, σ = [some (.ref o), some (.int (a : Int)), some (.int (count : Int)), some (.int kind), some (.ref m), some (.ref fl), some (.ref k), w] ∧ ExB m Hm H' ∧ MkA H' m o a' str ∧ Hm fl = none ∧ H' fl = some (.lst (iv s)) ∧ H' k = some (.lst (iv known)) ∧ s.length ≤ 801 ∧
            (((str = "" ∧ ∃ b f : Nat, a' = (b : Int) ∧ Tl (vGo count) (vStep kind known count) os VR f s b ∧ i ≤ s.length ∧ s.length ≤ count) ∨ (str = "" ∧ ∃ b : Nat, a' = (b : Int) ∧ VR = .ok (s, b) ∧ count ≤ s.length)) ∨ ∃ er, VR = .error er ∧ str = es er))
            ⟨none, D, [], a1, s1, rfl, e1, mk1, nD, hD1, hk1, by decide, ?_⟩ ?_ ?_
          · rcases st1 with ⟨z, b, z2, lb, z3⟩ | z
            · exact .inl (.inl ⟨z, b, FU, z2, ⟨z3.symm, by simp only [FU]; omega, lb⟩, Nat.zero_le _, Nat.zero_le _⟩)
            · exact .inr z
          · rintro i σ H2 hi ⟨w, fl, s, a', str, rfl, e2, mk2, nfl, h2, hk2, ls, st⟩
            have ei0 : (0 : Int) + (i : Int) = (i : Int) := by omega
            rw [ei0]
            have hs2 := ex_l (backX e2) hs
            have els : (iv s).length = s.length := by simp
            refine if_go (Tv.and (a := decide (str = "")) (b := decide (((iv s).length : Int) < (count : Int))) (fun Q q => ⟨_, rfl, m, _, 2, .str str, rfl, rfl, SqL.of mk2, rfl, rfl, _, rfl, by rw [dec_str]; exact q⟩) (fun _ Q q => ⟨_, rfl, fl, _, rfl, .inl (SqL.of h2), _, rfl, _, _, rfl, rfl, _, rfl, q⟩)) ?_
            rw [els]
            by_cases c : str = "" ∧ (s.length : Int) < (count : Int)
            · rw [decide_eq_true c.1, decide_eq_true c.2]
              obtain ⟨rfl, cm⟩ := c
              rcases st with (⟨_, b, f, rfl, T, li, lc⟩ | ⟨_, b, rfl, z, z2⟩) | ⟨er, _, z⟩
              · have ltc : s.length < count := by omega
                obtain ⟨f', rfl, T1, T2⟩ := T.go (decide_eq_true ltc)
                refine ⟨_, rfl, _, rfl, _, rfl, _, rfl, _, rfl, _, rfl, _, rfl, fl, _, rfl, .inl (SqL.of h2), _, _, rfl, rfl, m, o, k, fl, b, count, kind, os, known, s, by rw [els], mk2, hs2, O, T.al, SqL.of hk2, SqL.of h2, bd.1, by omega, ltc, hc, fun H3 q ch a3 s3 e3 mk3 nq hq lch how => ?_⟩
                have nflm : fl ≠ m := fun z => by rw [z, hm0] at nfl; cases nfl
                have h3 := e3 _ _ nflm h2
                have hk3 := e3 _ _ nkm hk2
                refine ⟨fl, q, _, _, rfl, rfl, h3, hq, by rw [List.length_map, List.length_map]; exact sz (by omega), fun y ny => ?_⟩
                have ey := Ex.new (o := .lst (iv s ++ iv ch)) ny
                have e23 := (e2.trans e3).trans (ExB.of ey)
                have nym := mk3.ne ny
                have nyH : Hm y = none := by
                  cases z : Hm y with
                  | none => rfl
                  | some u => rw [(e2.trans e3) y u nym z] at ny; cases ny
                refine ⟨_, y, s ++ ch, a3, s3, rfl, e23, mk3.mut nym, nyH, by rw [upd_same]; simp [iv], ey _ _ hk3, by rw [List.length_append]; omega, ?_⟩
                rcases how with ⟨rfl, b3, q3, rfl⟩ | ⟨er, q3, rfl⟩
                · obtain ⟨v1, v2, v3, v4⟩ := vStep_len O.oct ltc q3
                  exact .inl (.inl ⟨rfl, b3, f', rfl, T2 _ _ q3 v3 v4, by omega, v2⟩)
                · exact .inr ⟨er, T1 er q3, rfl⟩
              · omega
              · exact absurd z.symm (es_ne er)
            · have eb : (decide (str = "") && decide ((s.length : Int) < (count : Int))) = false := by
                rw [Bool.and_eq_false_iff, decide_eq_false_iff_not, decide_eq_false_iff_not]
                by_cases z : str = ""
                · exact .inr fun y => c ⟨z, y⟩
                · exact .inl z
              rw [eb]
              refine ⟨_, fl, s, a', str, rfl, e2, mk2, nfl, h2, hk2, ls, ?_⟩
              rcases st with (⟨rfl, b, f, rfl, T, li, lc⟩ | z) | z
              · have : ¬ (s.length : Int) < (count : Int) := fun y => c ⟨rfl, y⟩
                exact .inl (.inr ⟨rfl, b, rfl, T.stop (decide_eq_false (by omega)), by omega⟩)
              · exact .inl (.inr z)
              · exact .inr z
          · rintro σ H2 ⟨w, fl, s, a', str, rfl, e2, mk2, nfl, h2, hk2, ls, st⟩
            have eX := backX e2
            have hs2 := ex_l eX hs
            have how : How VR s a' str := by
              rcases st with (⟨rfl, b, f, rfl, T, li, lc⟩ | ⟨rfl, b, rfl, z, _⟩) | ⟨er, z1, z2⟩
              · exact .inl ⟨rfl, b, T.stop (decide_eq_false (by omega)), rfl⟩
              · exact .inl ⟨rfl, b, z, rfl⟩
              · exact .inr ⟨er, z1, z2⟩
            refine ⟨_, rfl, m, _, 2, .str str, rfl, rfl, SqL.of mk2, rfl, rfl, _, rfl, ?_⟩
            rw [dec_str]
            rcases how with ⟨rfl, b, q, rfl⟩ | ⟨er, q, rfl⟩
            · have eU : unVals count os a = if packed s = (os.drop a).take (b - a) then .ok (s, b) else .error .malf := by
                unfold unVals
                rw [hV]
                exact bindR_at q
              have n1 := (pfx_vals count).up (hV.trans q)
              rw [decide_eq_true rfl]
              refine ⟨_, rfl, _, rfl, _, rfl, _, rfl, m, _, 1, _, rfl, rfl, SqL.of mk2, rfl, _, rfl, o, iv os, rfl, hs2, fun z nz => ?_⟩
              have ez := Ex.new (o := .lst (cutV (iv os) (some (a : Int)) (some (b : Int)))) nz
              have ec : cutV (iv os) (some (a : Int)) (some (b : Int)) = iv ((os.drop a).take (b - a)) := by
                rw [cut_nat n1.1 (by rw [List.length_map]; exact n1.2 (by omega)), iv_cut]
              have hz : (upd H2 z (.lst (cutV (iv os) (some (a : Int)) (some (b : Int))))) z = some (.lst (iv ((os.drop a).take (b - a)))) := by rw [upd_same, ec]
              have nzm := mk2.ne nz
              refine ⟨_, rfl, fl, s, rfl, SqL.of (ez _ _ h2), sml_vals O hc (hV.trans q), fun H3 p e3 np hp => ?_⟩
              refine ⟨dI ((os.drop a).take (b - a)), dI (packed s), Dp.ints (SqL.of (e3 _ _ hz)), Dp.ints (SqL.of hp), shaped_ints _, shaped_ints _, _, rfl, ?_⟩
              rw [eqv_ints]
              have e23 := (eX.trans ez).trans e3
              by_cases c : packed s = (os.drop a).take (b - a)
              · rw [decide_eq_true c.symm]
                rw [if_pos c] at eU
                rw [eU] at out
                have mk3 : MkA H3 m o (b : Int) "" := (ez.trans e3) _ _ mk2
                refine ⟨_, rfl, _, rfl, m, _, 1, _, rfl, rfl, SqL.of mk3, rfl, by show 2 ≤ sizeLine; decide, fun y ny => ?_⟩
                refine out _ y fl (e23.trans (Ex.new ny)) (Evl.fresh_back e23 ny) (Evl.fresh_back e0 nfl) upd_same ?_
                exact (Ex.new ny) _ _ ((ez.trans e3) _ _ h2)
              · rw [decide_eq_false fun z => c z.symm]
                rw [if_neg c] at eU
                rw [eU] at out
                exact out H3 e23
            · rw [decide_eq_false (es_ne er)]
              have eU : unVals count os a = .error er := by
                unfold unVals
                rw [hV]
                exact bindR_err q
              rw [eU] at out
              exact ⟨_, rfl, m, _, 2, _, rfl, rfl, SqL.of mk2, rfl, out _ eX⟩
        refine ⟨_, rfl, rfl, _, rfl, ?_⟩
        rw [dec_int']
        by_cases k3 : kind = 3
        · rw [decide_eq_true k3]
          rw [if_pos k3] at eV
          refine ⟨_, rfl, m, o, a + 1, os, rfl, mk1, hs1, O, by omega, ?_⟩
          cases q : knownR os (a + 1) with
          | error er =>
            intro a' H' e' mk' z ks nz hz
            refine rest H' z ks a' (es er) ((ExB.of eD).trans e') mk' (e' _ _ nDm upd_same) hz (.inr ⟨er, ?_, rfl⟩)
            rw [eV]
            unfold valsD
            rw [bindR_err q]
          | ok y =>
            obtain ⟨ks, b⟩ := y
            intro H' e' mk' z nz hz
            refine rest H' z ks b "" ((ExB.of eD).trans e') mk' (e' _ _ nDm upd_same) hz (.inl ⟨rfl, b, rfl, (pfx_known.up q).2 (by omega), ?_⟩)
            rw [eV]
            unfold valsD
            rw [bindR_at q, k3]
        · rw [decide_eq_false k3]
          rw [if_neg k3] at eV
          refine ⟨by show 0 ≤ sizeLine; decide, fun z nz => ?_⟩
          have ez := Ex.new (o := .lst []) nz
          have nzm := mk1.ne nz
          exact rest _ z [] _ "" ((ExB.of eD).trans (ExB.of ez)) (mk1.mut nzm) (ez _ _ upd_same) upd_same (.inl ⟨rfl, a + 1, rfl, by omega, eV⟩)
end L2.EG

set_option Elab.async false
set_option linter.all false
set_option maxRecDepth 100000
set_option maxHeartbeats 4000000
/-! The law's defs, part ten: _law_parts_due. -/
namespace L2.EG
open PySem PySem.Spec PyProof.Rows EgM
open Evl (Ex ex_l ex_t)

/-- a new list of a new list of points and a number; or a text -/
def ptO (os : List Int) (H : Hp) (Q : VK) : Prop := match parts os with
  | .ok ((ts, vs), a2) => ∀ (H' : Hp) (p q : Addr) (tl : List V), Ex H H' → H p = none → H q = none → H' p = some (.lst [.ref q, .int ((os.length : Int) - (a2 : Int))]) → H' q = some (.lst tl) → TupL H' tl (ts.zip vs) → Q (.ref p) H'
  | .error e => ∀ H', Ex H H' → Q (.str (es e)) H'
def spLParts (K : PySem.W.Frag) : Sp := fun vs H Q _ => ∃ (o : Addr) (os : List Int), vs = [.ref o] ∧ SqL K H o (iv os) ∧ OsOk os ∧ ptO os H Q
-- slots of _law_parts_due: 0 _law_octets_here, 1 _law_times_here*, 2 _law_values_here*, 3 _law_k
theorem sc__law_parts_due : FnScope ["_law_octets_here", "_law_times_here", "_law_values_here", "_law_k"] ["_law_octets_here"] (defScope (top 76)) := ⟨rfl, rfl, rfl, by decide +kernel, rfl, by decide +kernel, by decide +kernel⟩
theorem ok__law_parts_due {M : Md} (B : Bn M) (c__law_times_read : M.pm "_law_times_read" 2 ["_law_octets_here", "_law_at"] (spLTimesR M.K)) (c__law_read : M.pm "_law_read" 6 ["_law_octets_here", "_law_at", "_law_count"] (spLRead M.K)) (F : Fd M "_law_parts_due" (top 76)) : M.pm "_law_parts_due" 7 ["_law_octets_here"] (spLParts M.K) := by
  refine F.ok sc__law_parts_due ?len (fun _ _ _ _ _ _ us hl => match us, hl with | [_], _ => rfl) (fun f cdv A outer s H vs Q E hr h => ?body)
  case len =>
    rintro _ _ _ _ ⟨_, _, rfl, _⟩
    rfl
  case body =>
    refine ⟨_, (pss_cons (ps_set (i := 1) sc__law_parts_due.nd rfl (Or.inr rfl) (pe_pm c__law_times_read (hr.mono (by decide)) rfl (pa_cons (pv 0) (pa_cons pe_int pa_nil))))
      (pss_cons (ps_if (pt_not (pt_val (pe_callB call_isi rfl B.isinstance (by decide +kernel) (pa_cons (pv 1) (pa_cons (pe_bltn (v := .ty "list") rfl B.list (by decide +kernel) rfl) pa_nil)))))
        (pss_one (ps_ret (pv 1)))
        pss_nil)
      (pss_cons (ps_set (i := 2) sc__law_parts_due.nd rfl (Or.inr rfl) (pe_pm c__law_read (hr.mono (by decide)) rfl (pa_cons (pv 0) (pa_cons (pe_ixL (K := M.K) (pv 1) pe_int (fun _ _ => rfl)) (pa_cons (pe_len (K := M.K) rfl B.len (pe_ixL (K := M.K) (pv 1) pe_int (fun _ _ => rfl))) pa_nil)))))
      (pss_cons (ps_if (pt_not (pt_val (pe_callB call_isi rfl B.isinstance (by decide +kernel) (pa_cons (pv 2) (pa_cons (pe_bltn (v := .ty "list") rfl B.list (by decide +kernel) rfl) pa_nil)))))
        (pss_one (ps_ret (pv 2)))
        pss_nil)
      (pss_one (ps_ret (pe_lst (pa_cons (pe_lc (own := [("_law_k", 3)]) (g := (gName 3)) (tt := tYes) rfl sc__law_parts_due.nd (pi_range1 rfl B.range (pa_cons (pe_len (K := M.K) rfl B.len (pe_ixL (K := M.K) (pv 1) pe_int (fun _ _ => rfl))) pa_nil)) (blkOk_by (N := ["_law_octets_here", "_law_times_here", "_law_values_here", "_law_k"]) (sc := defScope (top 76)) (by decide +kernel)) (fun _ _ _ _ _ => (pg_name (i := 3) sc__law_parts_due.nd rfl (Or.inl rfl))) (fun _ _ _ _ _ => pts_nil) (fun _ _ _ _ _ => (pe_tup (pa_cons (pe_ixL (K := M.K) (pe_ixL (K := M.K) (pv 1) pe_int (fun _ _ => rfl)) (pv 3) (fun _ _ => rfl)) (pa_cons (pe_ixL (K := M.K) (pe_ixL (K := M.K) (pv 2) pe_int (fun _ _ => rfl)) (pv 3) (fun _ _ => rfl)) pa_nil))))) (pa_cons (pe_op op_sub (pe_len (K := M.K) rfl B.len (pv 0)) (pe_ixL (K := M.K) (pv 2) pe_int (fun _ _ => rfl))) pa_nil))))))))), ?_⟩
    obtain ⟨o, os, rfl, hs, O, out⟩ := h
    have lO := O.len
    refine ⟨_, rfl, o, os, rfl, hs, O, ?_⟩
    cases ht : times os 0 with
    | error er =>
      have eP : parts os = .error er := bindR_err ht
      unfold ptO at out
      rw [eP] at out
      intro H1 e1
      refine ⟨_, rfl, .str (es er), .ty "list", .type "str", .type "list", false, rfl, .ty _, .base (.str _), rfl, false, rfl, ?_⟩
      exact ⟨_, rfl, out H1 e1⟩
    | ok y =>
      obtain ⟨ts, a1⟩ := y
      intro H1 p q e1 np nq hp hq
      have TF := times_facts O.oct O.sm ht
      have few : ts.length ≤ 400 := by
        have := TF.2.2.2
        omega
      refine ⟨_, rfl, .ref p, .ty "list", .type "list", .type "list", true, rfl, .ty _, .base (.lst hp), rfl, true, rfl, ?_⟩
      have hs1 := ex_l e1 hs
      have el : (((iv ts).length : Nat) : Int) = (ts.length : Int) := by simp
      refine ⟨_, rfl, _, rfl, p, _, 1, _, rfl, rfl, SqL.of hp, rfl, _, rfl, p, _, 0, _, rfl, rfl, SqL.of hp, rfl, q, iv ts, rfl, .inl (SqL.of hq), o, a1, ts.length, os, by rw [el], hs1, O, TF.2.2.2.2, few, ?_⟩
      cases hv : unVals ts.length os a1 with
      | error er =>
        have eP : parts os = .error er := by
          unfold parts
          rw [bindR_at ht, bindR_err hv]
        unfold ptO at out
        rw [eP] at out
        intro H2 e2
        refine ⟨_, rfl, .str (es er), .ty "list", .type "str", .type "list", false, rfl, .ty _, .base (.str _), rfl, false, rfl, ?_⟩
        exact ⟨_, rfl, out H2 (e1.trans e2)⟩
      | ok z =>
        obtain ⟨vs, a2⟩ := z
        have eP : parts os = .ok ((ts, vs), a2) := by
          unfold parts
          rw [bindR_at ht, bindR_at hv]
        obtain ⟨a1', g1, g2, g3, g4, g5⟩ := parts_inv eP
        have lv : vs.length = ts.length := (sm_vals O few g2).2
        unfold ptO at out
        rw [eP] at out
        intro H2 r s e2 nr ns hr hs'
        have e12 := e1.trans e2
        refine ⟨_, rfl, .ref r, .ty "list", .type "list", .type "list", true, rfl, .ty _, .base (.lst hr), rfl, true, rfl, ?_⟩
        have hp2 := e2 _ _ hp
        have hq2 := e2 _ _ hq
        refine ⟨_, rfl, p, _, 0, _, rfl, rfl, SqL.of hp2, rfl, q, iv ts, rfl, .inl (SqL.of hq2), _, rfl, by omega, by omega, fun D nD => ?_⟩
        have en : (((iv ts).length : Nat) : Int).toNat = ts.length := by rw [el]; omega
        rw [en]
        refine lc_range (lo := 0) (n := ts.length) (fun i H' => Ex H2 H' ∧ ∃ acc, H' D = some (.lst acc) ∧ TupL H' acc ((ts.zip vs).take i)) ⟨Ex.new nD, [], upd_same, by rw [List.take_zero]; exact .nil⟩ ?_ ?_
        · rintro i H3 hi ⟨e3, acc, h3, t3⟩
          have ei : (0 : Int) + (i : Int) = (i : Int) := by omega
          rw [ei]
          refine ⟨rfl, ?_⟩
          simp only [tYes, if_true]
          have ht' : ts[i]? = some (ts.getD i 0) := by
            rw [List.getD_eq_getElem?_getD, List.getElem?_eq_getElem hi]
            rfl
          have hv' : vs[i]? = some (vs.getD i 0) := by
            rw [List.getD_eq_getElem?_getD, List.getElem?_eq_getElem (by omega)]
            rfl
          refine ⟨_, rfl, p, _, 0, _, rfl, rfl, SqL.of (e3 _ _ hp2), rfl, _, rfl, q, iv ts, _, _, rfl, rfl, SqL.of (e3 _ _ hq2), atI_nat (iv_get ht'), _, rfl, r, _, 0, _, rfl, rfl, SqL.of (e3 _ _ hr), rfl, _, rfl, s, iv vs, _, _, rfl, rfl, SqL.of (e3 _ _ hs'), atI_nat (iv_get hv'), by show 2 ≤ sizeLine; decide, fun x nx => ?_⟩
          have ex := Ex.new (o := .tup [.int (ts.getD i 0), .int (vs.getD i 0)]) nx
          have la : acc.length ≤ i := by
            rw [t3.length, List.length_take]
            exact Nat.min_le_left _ _
          refine ⟨acc, ex _ _ h3, szl (by omega), (e3.trans ex).mut nD, _, upd_same, ?_⟩
          rw [zip_take_snoc ht' hv']
          exact TupL.mut (Paired.snoc (t3.ex ex) ⟨x, rfl, upd_same⟩) (ex _ _ h3)
        · rintro H3 ⟨e3, acc, h3, t3⟩
          rw [List.take_of_length_le (by rw [List.length_zip]; omega)] at t3
          have hs3 := ex_l (e12.trans e3) hs
          refine ⟨_, rfl, o, _, rfl, .inl hs3, _, rfl, r, _, 1, _, rfl, rfl, SqL.of (e3 _ _ hr), rfl, _, _, rfl, rfl, by show 2 ≤ sizeLine; decide, fun x nx => ?_⟩
          have ex := Ex.new (o := .lst [V.ref D, .int ((((iv os).length : Nat) : Int) - (a2 : Int))]) nx
          refine out _ x D acc ((e12.trans e3).trans ex) (Evl.fresh_back (e12.trans e3) nx) (Evl.fresh_back e12 nD) ?_ (ex _ _ h3) (t3.ex ex)
          rw [upd_same, List.length_map]
end L2.EG

set_option Elab.async false
set_option linter.all false
set_option maxRecDepth 100000
set_option maxHeartbeats 4000000
/-! The law's defs, part eleven: what draws. -/
namespace L2.EG
open PySem PySem.Spec PyProof.Rows EgM
open Evl (Ex ex_l ex_t)

/-- a box of draws, at most n of them drawn -/
def Bx (H : Hp) (b : Addr) (n : Nat) : Prop := ∃ (a m c : Int) (g : Bool), H b = some (.lst [.int a, .bl g, .int m, .int c]) ∧ 0 ≤ m ∧ m < 2147483629 ∧ 0 ≤ c ∧ c ≤ (n : Int)
theorem Bx.mut {H : Hp} {b D : Addr} {n : Nat} {u : HO} (h : Bx H b n) (ne : D ≠ b) : Bx (upd H D u) b n := by
  obtain ⟨a, m, c, g, h, r⟩ := h
  exact ⟨a, m, c, g, by rw [upd_ne ne.symm]; exact h, r⟩
theorem Bx.ne {H : Hp} {b D : Addr} {n : Nat} (h : Bx H b n) (nD : H D = none) : D ≠ b := fun z => by
  obtain ⟨a, m, c, g, h, r⟩ := h
  rw [z, h] at nD
  cases nD
theorem Bx.mono {H : Hp} {b : Addr} {n k : Nat} (h : Bx H b n) (l : n ≤ k) : Bx H b k := by
  obtain ⟨a, m, c, g, h, r0, r1, r2, r3⟩ := h
  exact ⟨a, m, c, g, h, r0, r1, r2, by omega⟩
theorem Bx.new {H : Hp} {b D : Addr} {n : Nat} {u : HO} (h : Bx H b n) (nD : H D = none) : Bx (upd H D u) b n := h.mut (h.ne nD)
theorem Bx.ex {H H' : Hp} {b : Addr} {n : Nat} (h : Bx H b n) (e : Ex H H') : Bx H' b n := by
  obtain ⟨a, m, c, g, h, r⟩ := h
  exact ⟨a, m, c, g, e _ _ h, r⟩
/-- what is drawn -/
def spLTake : Sp := fun vs H Q _ => ∃ (b : Addr) (n : Nat) (many : Int), vs = [.ref b, .int many] ∧ Bx H b n ∧ n < 1000000 ∧ 1 ≤ many ∧ many < 1073741824 ∧
  ∀ (H' : Hp) (d : Int), ExB b H H' → Bx H' b (n + 1) → 0 ≤ d → d < many → Q (.int d) H'
theorem pick_iv {xs : List Int} {d : Int} (h0 : 0 ≤ d) (h1 : d < xs.length) : ∃ v, v ∈ xs ∧ atI (iv xs) d = some (.int v) := by
  obtain ⟨j, rfl⟩ := Int.eq_ofNat_of_zero_le h0
  have hj : j < xs.length := by omega
  refine ⟨xs[j], List.getElem_mem hj, atI_nat ?_⟩
  rw [List.getElem?_map, List.getElem?_eq_getElem hj]
  rfl
theorem cut_hi {xs : List V} {b : Nat} : cutV xs none (some (b : Int)) = xs.take b := by
  unfold cutV
  rw [HT.sIx_nat, HT.sIx_none, List.drop_zero, Nat.sub_zero]
  by_cases h : b ≤ xs.length
  · rw [Nat.min_eq_left h]
  · rw [Nat.min_eq_right (by omega), List.take_of_length_le (by omega), List.take_of_length_le (by omega)]
theorem cut_lo {xs : List V} {b : Nat} : cutV xs (some (b : Int)) none = xs.drop b := by
  unfold cutV
  rw [HT.sIx_nat, HT.sIx_none]
  by_cases h : b ≤ xs.length
  · rw [Nat.min_eq_left h, List.take_of_length_le (by rw [List.length_drop]; omega)]
  · rw [Nat.min_eq_right (by omega), List.drop_eq_nil_of_le (Nat.le_refl _), List.drop_eq_nil_of_le (by omega), List.take_nil]
theorem cut_one (xs : List Int) : cutV (iv xs) none (some 1) = iv (xs.take 1) := by
  rw [show (some (1 : Int)) = some (((1 : Nat) : Int)) from rfl, cut_hi, iv, iv, List.map_take]
theorem pow5_small {x : Int} (h0 : 0 ≤ x) (h1 : x < 2 ^ 50) : x.natAbs < 2 ^ 64 := by omega
def spLCell (K : PySem.W.Frag) : Sp := fun vs H Q _ => ∃ (s : Addr) (xs : List Int) (k : Nat), vs = [.ref s, .int (k : Int)] ∧ SqL K H s (iv xs) ∧ ∀ H' v, Ex H H' → Q (.int v) H'
-- slots of _law_cell: 0 _law_script, 1 _law_k
theorem sc__law_cell : FnScope ["_law_script", "_law_k"] ["_law_script", "_law_k"] (defScope (top 58)) := ⟨rfl, rfl, rfl, by decide +kernel, rfl, by decide +kernel, by decide +kernel⟩
theorem ok__law_cell {M : Md} (B : Bn M) (F : Fd M "_law_cell" (top 58)) : M.pm "_law_cell" 1 ["_law_script", "_law_k"] (spLCell M.K) := by
  refine F.ok sc__law_cell ?len (fun _ _ _ _ _ _ us hl => match us, hl with | [_, _], _ => rfl) (fun f cdv A outer s H vs Q E hr h => ?body)
  case len =>
    rintro _ _ _ _ ⟨_, _, _, rfl, _⟩
    rfl
  case body =>
    refine ⟨_, (pss_one (ps_ret (pe_ifExp (pt_cmpR op_lt (pv 1) (pe_len (K := M.K) rfl B.len (pv 0)) (nomark _)) (pe_ixL (K := M.K) (pv 0) (pv 1) (fun _ _ => rfl)) (pe_op op_add (pe_op op_mul pe_int (pv 1)) (pe_op op_mod (pe_callB (cr_sum rfl) rfl B.sum (by decide +kernel) (pa_cons (pe_slL (K := M.K) (pv 0) po_none (po_some pe_int)) pa_nil)) pe_int))))), ?_⟩
    obtain ⟨s, xs, k, rfl, hs, q⟩ := h
    refine ifx_go (b := decide ((k : Int) < (((iv xs).length : Nat) : Int))) (fun Q q => ⟨_, rfl, _, rfl, s, _, rfl, .inl hs, _, _, rfl, rfl, _, rfl, q⟩) ?_
    by_cases c : (k : Int) < (((iv xs).length : Nat) : Int)
    · rw [decide_eq_true c, if_pos rfl]
      have c' : k < xs.length := by rw [List.length_map] at c; omega
      obtain ⟨v, _, hv⟩ := pick_iv (xs := xs) (d := (k : Int)) (by omega) (by omega)
      exact ⟨_, rfl, _, rfl, s, _, _, _, rfl, rfl, hs, hv, q _ _ (Ex.refl _)⟩
    · rw [decide_eq_false c, if_neg (by decide)]
      refine ⟨_, rfl, _, _, rfl, rfl, .inl ⟨by decide, by decide⟩, ?_⟩
      repeat (first | refine ⟨_, rfl, ?_⟩ | refine ⟨_, _, rfl, rfl, ?_⟩)
      refine ⟨s, _, rfl, hs, fun z nz => ?_⟩
      refine ⟨z, xs.take 1, rfl, SqL.of (by rw [upd_same]; exact congrArg (fun l => some (HO.lst l)) (cut_one xs)), _, _, rfl, rfl, by show (0 : Int) < 1000033; decide, _, _, rfl, rfl, q _ _ (Ex.new nz)⟩
def spLBox : Sp := fun vs H Q _ => ∃ n : Int, vs = [.int n] ∧ ∀ (H' : Hp) (b : Addr), Ex H H' → H b = none → Bx H' b 0 → Q (.ref b) H'
-- slots of _law_box: 0 _law_great
theorem sc__law_box : FnScope ["_law_great"] ["_law_great"] (defScope (top 59)) := ⟨rfl, rfl, rfl, by decide +kernel, rfl, by decide +kernel, by decide +kernel⟩
theorem ok__law_box {M : Md} (B : Bn M) (F : Fd M "_law_box" (top 59)) : M.pm "_law_box" 1 ["_law_great"] (spLBox) := by
  refine F.ok sc__law_box ?len (fun _ _ _ _ _ _ us hl => match us, hl with | [_], _ => rfl) (fun f cdv A outer s H vs Q E hr h => ?body)
  case len =>
    rintro _ _ _ _ ⟨_, rfl, _⟩
    rfl
  case body =>
    refine ⟨_, (pss_one (ps_ret (pe_lst (pa_cons (pe_callB call_abs rfl B.abs (by decide +kernel) (pa_cons (pv 0) pa_nil)) (pa_cons (pe_cmpR op_ge (pe_callB call_abs rfl B.abs (by decide +kernel) (pa_cons (pv 0) pa_nil)) (pe_op op_pow pe_int pe_int) (nomark _)) (pa_cons (pe_op op_mod (pe_callTy call_int1 rfl B.int (by decide +kernel) (pa_cons (pe_callB call_abs rfl B.abs (by decide +kernel) (pa_cons (pv 0) pa_nil)) pa_nil)) pe_int) (pa_cons pe_int pa_nil))))))), ?_⟩
    obtain ⟨n, rfl, q⟩ := h
    repeat (first | refine ⟨_, rfl, ?_⟩ | refine ⟨_, _, rfl, rfl, ?_⟩)
    refine ⟨⟨by decide, by decide, by decide⟩, ?_⟩
    repeat (first | refine ⟨_, rfl, ?_⟩ | refine ⟨_, _, rfl, rfl, ?_⟩)
    refine .inl ⟨_, rfl, _, _, rfl, rfl, by show (0 : Int) < 2147483629; decide, ?_⟩
    refine ⟨by show 4 ≤ sizeLine; decide, fun p np => q _ p (Ex.new np) np ⟨_, _, _, _, upd_same, ?_⟩⟩
    omega
-- slots of _law_take: 0 _law_box_here, 1 _law_many, 2 _law_digit, 3 _law_mixed
theorem sc__law_take : FnScope ["_law_box_here", "_law_many", "_law_digit", "_law_mixed"] ["_law_box_here", "_law_many"] (defScope (top 60)) := ⟨rfl, rfl, rfl, by decide +kernel, rfl, by decide +kernel, by decide +kernel⟩
theorem ok__law_take {M : Md} (B : Bn M) (F : Fd M "_law_take" (top 60)) : M.pm "_law_take" 1 ["_law_box_here", "_law_many"] (spLTake) := by
  refine F.ok sc__law_take ?len (fun _ _ _ _ _ _ us hl => match us, hl with | [_, _], _ => rfl) (fun f cdv A outer s H vs Q E hr h => ?body)
  case len =>
    rintro _ _ _ _ ⟨_, _, _, rfl, _⟩
    rfl
  case body =>
    refine ⟨_, (pss_cons (ps_if (PW.pt (pw_and (pt_val (pe_ixL (K := M.K) (pv 0) pe_int (fun _ _ => rfl))) (pw_and1 (pt_cmpR op_gt (pe_ixL (K := M.K) (pv 0) pe_int (fun _ _ => rfl)) pe_int (nomark _)))))
        (pss_cons (ps_set (i := 2) sc__law_take.nd rfl (Or.inl rfl) (pe_op op_mod (pe_callTy call_int1 rfl B.int (by decide +kernel) (pa_cons (pe_ixL (K := M.K) (pv 0) pe_int (fun _ _ => rfl)) pa_nil)) (pv 1)))
        (pss_cons (ps_asg (pe_op op_fdiv (pe_ixL (K := M.K) (pv 0) pe_int (fun _ _ => rfl)) (pv 1)) (pg_sub (pv 0) pe_int set_list))
        (pss_one (ps_ret (pv 2)))))
        pss_nil)
      (pss_cons (ps_asg (pe_op op_add (pe_ixL (K := M.K) (pv 0) pe_int (fun _ _ => rfl)) pe_int) (pg_sub (pv 0) pe_int set_list))
      (pss_cons (ps_set (i := 3) sc__law_take.nd rfl (Or.inl rfl) (pe_op op_mod (pe_callTy call_int1 rfl B.int (by decide +kernel) (pa_cons (pe_op op_pow (pe_op op_add (pe_op op_add (pe_ixL (K := M.K) (pv 0) pe_int (fun _ _ => rfl)) (pe_op op_mul pe_int (pe_ixL (K := M.K) (pv 0) pe_int (fun _ _ => rfl)))) pe_int) pe_int) pa_nil)) pe_int))
      (pss_one (ps_ret (pe_op op_mod (pe_op op_fdiv (pe_op op_mod (pe_callTy call_int1 rfl B.int (by decide +kernel) (pa_cons (pe_op op_pow (pe_op op_add (pe_op op_mul (pv 3) pe_int) (pe_op op_mul pe_int (pe_ixL (K := M.K) (pv 0) pe_int (fun _ _ => rfl)))) pe_int) pa_nil)) pe_int) pe_int) (pv 1))))))), ?_⟩
    obtain ⟨b, n, many, rfl, ⟨a, m, c, g, hb, m0, m1, c0, c1⟩, hn, l1, l2, q⟩ := h
    refine seq_go (if_go (Tv.and (a := g) (b := decide (0 < a)) (fun Q q => ⟨_, rfl, b, _, 1, .bl g, rfl, rfl, SqL.of hb, rfl, g, rfl, q⟩) (fun _ Q q => ⟨_, rfl, b, _, 0, .int a, rfl, rfl, SqL.of hb, rfl, _, _, rfl, rfl, _, rfl, q⟩)) ?_)
    cases hc : (g && decide (0 < a)) with
    | true =>
      rw [Bool.and_eq_true] at hc
      have a0 : 0 < a := of_decide_eq_true hc.2
      refine ⟨_, rfl, b, _, 0, .int a, rfl, rfl, SqL.of hb, rfl, .inl ⟨a, rfl, _, rfl, _, _, rfl, rfl, by show 0 < many; omega, ?_⟩⟩
      refine ⟨_, rfl, b, _, 0, .int a, rfl, rfl, SqL.of hb, rfl, ?_⟩
      repeat (first | refine ⟨_, rfl, ?_⟩ | refine ⟨_, _, rfl, rfl, ?_⟩)
      refine ⟨⟨by omega, l2⟩, ?_⟩
      refine ⟨_, rfl, b, _, 0, 0, rfl, rfl, hb, rfl, ?_⟩
      refine ⟨_, rfl, q _ _ (ExB.refl b H).set ⟨_, m, c, g, upd_same, m0, m1, c0, by omega⟩ (Int.emod_nonneg _ (by omega)) (Int.emod_lt_of_pos _ (by omega))⟩
    | false =>
      refine nx_go ?_
      dsimp only
      refine seq_go (asg_go ⟨_, rfl, b, _, 3, .int c, rfl, rfl, SqL.of hb, rfl, ?_⟩)
      repeat (first | refine ⟨_, rfl, ?_⟩ | refine ⟨_, _, rfl, rfl, ?_⟩)
      refine ⟨b, _, 3, 3, rfl, rfl, hb, rfl, ?_⟩
      have hb1 : (upd H b (.lst ([V.int a, V.bl g, V.int m, V.int c].set 3 (.int (c + 1))))) b = some (.lst [.int a, .bl g, .int m, .int (c + 1)]) := upd_same
      have e1 : ExB b H (upd H b (.lst ([V.int a, V.bl g, V.int m, V.int c].set 3 (.int (c + 1))))) := (ExB.refl b H).set
      generalize upd H b (.lst ([V.int a, V.bl g, V.int m, V.int c].set 3 (.int (c + 1)))) = H1 at *
      dsimp only
      refine seq_go (asg_go ⟨_, rfl, b, _, 2, .int m, rfl, rfl, SqL.of hb1, rfl, _, rfl, b, _, 3, .int (c + 1), rfl, rfl, SqL.of hb1, rfl, _, _, rfl, rfl, .inl ⟨by decide, by decide⟩, ?_⟩)
      repeat (first | refine ⟨_, rfl, ?_⟩ | refine ⟨_, _, rfl, rfl, ?_⟩)
      refine ⟨⟨by decide, by decide, pow5_small (by omega) (by omega)⟩, ?_⟩
      refine .inl ⟨_, rfl, _, _, rfl, rfl, by show (0 : Int) < 2147483647; decide, ?_⟩
      dsimp only [gName]
      generalize hX : (m + 15485863 * (c + 1) + 179424673) ^ Int.toNat 5 % 2147483647 = X
      have X0 : 0 ≤ X := by rw [← hX]; exact Int.emod_nonneg _ (by decide)
      have X1 : X < 2147483647 := by rw [← hX]; exact Int.emod_lt_of_pos _ (by decide)
      refine ⟨_, rfl, _, _, rfl, rfl, .inr ⟨by decide, by decide⟩, _, rfl, b, _, 3, .int (c + 1), rfl, rfl, SqL.of hb1, rfl, _, _, rfl, rfl, .inl ⟨by decide, by decide⟩, ?_⟩
      repeat (first | refine ⟨_, rfl, ?_⟩ | refine ⟨_, _, rfl, rfl, ?_⟩)
      refine ⟨⟨by decide, by decide, pow5_small (by omega) (by omega)⟩, ?_⟩
      refine .inl ⟨_, rfl, _, _, rfl, rfl, by show (0 : Int) < 2147483587; decide, ?_⟩
      refine ⟨_, _, rfl, rfl, ⟨by decide, by decide⟩, _, rfl, _, _, rfl, rfl, by show 0 < many; omega, ?_⟩
      refine q _ _ e1 ⟨a, m, c + 1, g, hb1, m0, m1, by omega, by omega⟩ (Int.emod_nonneg _ (by omega)) (Int.emod_lt_of_pos _ (by omega))
/-- a value -/
def VOk (v : Int) : Prop := -1000000000000 ≤ v ∧ v ≤ 1000000000000
def spLGen : Sp := fun vs H Q _ => ∃ (b : Addr) (n : Nat), vs = [.ref b] ∧ Bx H b n ∧ n < 900000 ∧ ∀ (H' : Hp) (v : Int), ExB b H H' → Bx H' b (n + 3) → VOk v → Q (.int v) H'
-- slots of _law_one: 0 _law_box_here, 1 _law_pick, 2 _law_far
theorem sc__law_one : FnScope ["_law_box_here", "_law_pick", "_law_far"] ["_law_box_here"] (defScope (top 62)) := ⟨rfl, rfl, rfl, by decide +kernel, rfl, by decide +kernel, by decide +kernel⟩
theorem ok__law_one {M : Md} (B : Bn M) (c__law_take : M.pm "_law_take" 1 ["_law_box_here", "_law_many"] spLTake) (F : Fd M "_law_one" (top 62)) : M.pm "_law_one" 2 ["_law_box_here"] (spLGen) := by
  refine F.ok sc__law_one ?len (fun _ _ _ _ _ _ us hl => match us, hl with | [_], _ => rfl) (fun f cdv A outer s H vs Q E hr h => ?body)
  case len =>
    rintro _ _ _ _ ⟨_, _, rfl, _⟩
    rfl
  case body =>
    refine ⟨_, (pss_cons (ps_set (i := 1) sc__law_one.nd rfl (Or.inl rfl) (pe_pm c__law_take (hr.mono (by decide)) rfl (pa_cons (pv 0) (pa_cons pe_int pa_nil))))
      (pss_cons (ps_if (pt_cmpR op_eq (pv 1) pe_int (nomark _))
        (pss_one (ps_ret (pe_ixL (K := M.K) (pe_lst (pa_cons pe_int (pa_cons pe_int (pa_cons (pe_un un_neg pe_int) (pa_cons pe_int (pa_cons pe_int (pa_cons (pe_un un_neg pe_int) (pa_cons (pe_un un_neg pe_int) (pa_cons pe_int (pa_cons pe_int (pa_cons (pe_un un_neg pe_int) (pa_cons (pe_un un_neg pe_int) pa_nil)))))))))))) (pe_pm c__law_take (hr.mono (by decide)) rfl (pa_cons (pv 0) (pa_cons pe_int pa_nil))) (fun _ _ => rfl))))
        pss_nil)
      (pss_cons (ps_if (pt_cmpR op_eq (pv 1) pe_int (nomark _))
        (pss_one (ps_ret (pe_op op_sub (pe_pm c__law_take (hr.mono (by decide)) rfl (pa_cons (pv 0) (pa_cons pe_int pa_nil))) pe_int)))
        pss_nil)
      (pss_cons (ps_set (i := 2) sc__law_one.nd rfl (Or.inl rfl) (pe_op op_add (pe_op op_mul (pe_op op_pow pe_int pe_int) (pe_pm c__law_take (hr.mono (by decide)) rfl (pa_cons (pv 0) (pa_cons (pe_op op_pow pe_int pe_int) pa_nil)))) (pe_pm c__law_take (hr.mono (by decide)) rfl (pa_cons (pv 0) (pa_cons (pe_op op_pow pe_int pe_int) pa_nil)))))
      (pss_one (ps_ret (pe_ifExp (pt_cmpR op_eq (pv 1) pe_int (nomark _)) (pv 2) (pe_un un_neg (pv 2))))))))), ?_⟩
    obtain ⟨b, n, rfl, hb, hn, q⟩ := h
    refine ⟨_, rfl, b, n, 4, rfl, hb, by omega, by decide, by decide, fun H1 d e1 b1 d0 d1 => ?_⟩
    dsimp only [gName]
    refine seq_go (if_go (b := decide (d = 0)) (fun Q q => ⟨_, rfl, rfl, _, rfl, by rw [dec_int']; exact q⟩) ?_)
    by_cases c : d = 0
    · rw [decide_eq_true c, if_pos rfl]
      repeat (first | refine ⟨_, rfl, ?_⟩ | refine ⟨_, _, rfl, rfl, ?_⟩)
      refine ⟨by show 11 ≤ sizeLine; decide, fun p np => ?_⟩
      refine ⟨_, rfl, b, n + 1, 11, rfl, b1.new np, by omega, by decide, by decide, fun H2 x e2 b2 x0 x1 => ?_⟩
      obtain ⟨v, hv, hx⟩ := pick_iv (xs := [0, 1, -1, 63, 64, -64, -65, 8191, 8192, -8192, -8193]) x0 x1
      refine ⟨p, _, _, _, rfl, rfl, SqL.of (e2 _ _ (b1.ne np) upd_same), hx, ?_⟩
      refine q _ _ ((e1.trans (ExB.of (Ex.new np))).trans e2) (b2.mono (by omega)) ?_
      simp at hv
      unfold VOk
      omega
    rw [decide_eq_false c, if_neg (by decide)]
    refine nx_go ?_
    dsimp only
    refine seq_go (if_go (b := decide (d = 1)) (fun Q q => ⟨_, rfl, rfl, _, rfl, by rw [dec_int']; exact q⟩) ?_)
    by_cases c1 : d = 1
    · rw [decide_eq_true c1, if_pos rfl]
      refine ⟨_, rfl, b, n + 1, 2001, rfl, b1, by omega, by decide, by decide, fun H2 x e2 b2 x0 x1 => ?_⟩
      repeat (first | refine ⟨_, rfl, ?_⟩ | refine ⟨_, _, rfl, rfl, ?_⟩)
      exact q _ _ (e1.trans e2) (b2.mono (by omega)) ⟨by omega, by omega⟩
    rw [decide_eq_false c1, if_neg (by decide)]
    refine nx_go ?_
    dsimp only
    refine seq_go ?_
    repeat (first | refine ⟨_, rfl, ?_⟩ | refine ⟨_, _, rfl, rfl, ?_⟩)
    refine ⟨⟨by decide, by decide, by decide⟩, ?_⟩
    refine ⟨_, rfl, _, _, rfl, rfl, ⟨by decide, by decide, by decide⟩, b, n + 1, 1000000, rfl, b1, by omega, by decide, by decide, fun H2 x e2 b2 x0 x1 => ?_⟩
    refine ⟨_, _, rfl, rfl, .inl ⟨by decide, by decide⟩, _, rfl, _, _, rfl, rfl, ⟨by decide, by decide, by decide⟩, b, n + 2, 1000000, rfl, b2, by omega, by decide, by decide, fun H3 y e3 b3 y0 y1 => ?_⟩
    repeat (first | refine ⟨_, rfl, ?_⟩ | refine ⟨_, _, rfl, rfl, ?_⟩)
    dsimp only [gName]
    have e6 : (10 : Int) ^ Int.toNat 6 = 1000000 := by decide
    rw [e6]
    have hV : VOk (1000000 * x + y) := ⟨by omega, by omega⟩
    have hW : VOk (-(1000000 * x + y)) := ⟨by omega, by omega⟩
    refine ⟨rfl, _, rfl, ?_⟩
    have ee := (e1.trans e2).trans e3
    split
    · exact ⟨_, rfl, q _ _ ee b3 hV⟩
    · exact ⟨_, rfl, _, rfl, q _ _ ee b3 hW⟩
end L2.EG

set_option Elab.async false
set_option linter.all false
set_option maxRecDepth 100000
set_option maxHeartbeats 4000000
/-! Rows whose numbers are not too long. -/
namespace EgM

def lows (X : List Int) : Nat := X.countP (fun o => decide (o < 128))
theorem lows_app (X Y : List Int) : lows (X ++ Y) = lows X + lows Y := List.countP_append
/-- every part of a row is at most six times its low octets, and c -/
def Wn (c : Nat) (os : List Int) : Prop := ∀ A X B, os = A ++ X ++ B → X.length ≤ 6 * lows X + c
theorem Wn.mono {c d : Nat} {os : List Int} (h : Wn c os) (l : c ≤ d) : Wn d os := fun A X B e => by
  have := h A X B e
  omega
theorem Wn.short {c : Nat} {os : List Int} (h : os.length ≤ c) : Wn c os := fun A X B e => by
  have := congrArg List.length e
  simp only [List.length_append] at this
  omega
/-- one part is put in place of another -/
theorem Wn.spoil {c : Nat} {A X0 M B : List Int} (h : Wn c (A ++ X0 ++ B)) (l0 : X0.length ≤ 1) (lm : M.length ≤ 2) : Wn (c + 7) (A ++ M ++ B) := fun P X S e => by
  rw [List.append_assoc, List.append_assoc] at e
  rcases List.append_eq_append_iff.mp e with ⟨w, e1, e2⟩ | ⟨w, e1, e2⟩
  · rcases List.append_eq_append_iff.mp e2 with ⟨u, f1, f2⟩ | ⟨u, f1, f2⟩
    · have := h (A ++ X0 ++ u) X S (by rw [f2]; simp)
      omega
    · rcases List.append_eq_append_iff.mp f2 with ⟨v, g1, g2⟩ | ⟨v, g1, g2⟩
      · have := congrArg List.length f1
        have := congrArg List.length g1
        simp only [List.length_append] at *
        omega
      · have := h (A ++ X0) v S (by rw [g2]; simp)
        have := congrArg List.length f1
        rw [g1, lows_app]
        simp only [List.length_append] at *
        omega
  · rcases List.append_eq_append_iff.mp e2 with ⟨v, f1, f2⟩ | ⟨v, f1, f2⟩
    · have := h P X (v ++ X0 ++ B) (by rw [e1, f1]; simp)
      omega
    · rcases List.append_eq_append_iff.mp f2 with ⟨u, g1, g2⟩ | ⟨u, g1, g2⟩
      · have q := h P (w ++ X0 ++ u) S (by rw [e1, g2]; simp)
        have lx : lows X0 ≤ X0.length := List.countP_le_length
        rw [f1, g1]
        rw [lows_app, lows_app] at q
        rw [lows_app, lows_app]
        simp only [List.length_append] at *
        omega
      · have q := h P w (X0 ++ B) (by rw [e1]; simp)
        have := congrArg List.length g1
        rw [f1, lows_app]
        simp only [List.length_append] at *
        omega
theorem Wn.pre {c : Nat} {os : List Int} {n : Nat} (h : Wn c os) : Wn c (os.take n) := fun A X B e => by
  refine h A X (B ++ os.drop n) ?_
  rw [← List.append_assoc, ← e, List.take_append_drop]
/-- a row of whole codes -/
structure Cd (os : List Int) : Prop where
  suf : ∀ A B, os = A ++ B → B.length ≤ 6 * lows B
  win : Wn 5 os
theorem Cd.nil : Cd [] := ⟨fun A B e => by
  have := congrArg List.length e
  simp only [List.length_append, List.length_nil] at this
  omega, Wn.short (by simp)⟩
theorem Cd.app {L M : List Int} (h : Cd L) (k : Cd M) : Cd (L ++ M) := by
  refine ⟨fun A B e => ?_, fun P X S e => ?_⟩
  · rcases List.append_eq_append_iff.mp e with ⟨w, e1, e2⟩ | ⟨w, e1, e2⟩
    · exact k.suf w B e2
    · rw [e2, lows_app, List.length_append]
      have h1 := h.suf A w e1
      have h2 := k.suf [] M rfl
      omega
  · rw [List.append_assoc] at e
    rcases List.append_eq_append_iff.mp e with ⟨w, e1, e2⟩ | ⟨w, e1, e2⟩
    · exact k.win w X S (by rw [e2, List.append_assoc])
    · rcases List.append_eq_append_iff.mp e2 with ⟨u, f1, f2⟩ | ⟨u, f1, f2⟩
      · exact h.win P X u (by rw [e1, f1, List.append_assoc])
      · rw [f1, lows_app, List.length_append]
        have h1 := h.suf P w e1
        have h2 := k.win [] u S (by rw [f2]; rfl)
        omega
theorem Cd.flat {α : Type} {l : List α} {f : α → List Int} (h : ∀ x ∈ l, Cd (f x)) : Cd (l.flatMap f) := by
  induction l with
  | nil => exact Cd.nil
  | cons a r ih =>
    rw [List.flatMap_cons]
    exact (h a (by simp)).app (ih fun x hx => h x (List.mem_cons_of_mem _ hx))
/-- one code -/
theorem Cd.one {hs : List Int} {l : Int} (lt : l < 128) (hl : hs.length ≤ 5) : Cd (hs ++ [l]) := by
  have tail : ∀ A B, hs ++ [l] = A ++ B → B ≠ [] → 1 ≤ lows B := fun A B e n => by
    have : l ∈ B := by
      have e2 := congrArg List.getLast? e
      rw [List.getLast?_append, List.getLast?_append] at e2
      cases hB : B.getLast? with
      | none => exact absurd (List.getLast?_eq_none_iff.mp hB) n
      | some y =>
        rw [hB] at e2
        simp at e2
        rw [e2]
        exact List.mem_of_getLast? hB
    exact List.countP_pos_iff.mpr ⟨l, this, by simp [lt]⟩
  refine ⟨fun A B e => ?_, fun P X S e => ?_⟩
  · by_cases n : B = []
    · simp [n]
    · have := tail A B e n
      have := congrArg List.length e
      simp only [List.length_append, List.length_cons, List.length_nil] at this
      omega
  · by_cases n : S = []
    · subst n
      by_cases m : X = []
      · simp [m]
      · have := tail P X (by rw [e]; simp) m
        have := congrArg List.length e
        simp only [List.length_append, List.length_cons, List.length_nil] at this
        omega
    · have := congrArg List.length e
      simp only [List.length_append, List.length_cons, List.length_nil] at this
      have := List.length_pos_iff.mpr n
      omega
theorem Cd.low {l : Int} (lt : l < 128) : Cd [l] := Cd.one (hs := []) lt (by simp)
theorem numO_shape : ∀ (k : Nat) {i : Int}, 0 ≤ i → i < 128 ^ (k + 1) → ∃ hs l, numO i = hs ++ [l] ∧ l < 128 ∧ hs.length ≤ k
  | 0, i, h0, h1 => ⟨[], i, numO_small h0 (by simpa using h1), by simpa using h1, by simp⟩
  | k + 1, i, h0, h1 => by
    by_cases c : 128 ≤ i
    · have e : (128 : Int) ^ (k + 1 + 1) = 128 ^ (k + 1) * 128 := Int.pow_succ ..
      obtain ⟨hs, l, e1, e2, e3⟩ := numO_shape k (i := i / 128) (by omega) (by rw [e] at h1; omega)
      refine ⟨(128 + i % 128) :: hs, l, by rw [numO_big c, e1]; rfl, e2, by simp; omega⟩
    · exact ⟨[], i, numO_small h0 (by omega), by omega, by simp⟩
theorem Cd.num {i : Int} (h0 : 0 ≤ i) (h1 : i < 4398046511104) : Cd (numO i) := by
  obtain ⟨hs, l, e1, e2, e3⟩ := numO_shape 5 h0 (by simpa using h1)
  rw [e1]
  exact Cd.one e2 e3
theorem Cd.sgn {v : Int} (h0 : -2000000000000 ≤ v) (h1 : v ≤ 2000000000000) : Cd (sgnO v) := by
  refine Cd.num (zig_nn v) ?_
  unfold zig
  split <;> omega
theorem rdRaw_high : ∀ {l : List Int} {v : Int} {n : Nat} {z : Int}, rdRaw l = some (v, n, z) → ∀ o ∈ l.take (n - 1), 128 ≤ o
  | [], _, _, _, h, o, ho => by simp at ho
  | x :: r, v, n, z, h, o, ho => by
    unfold rdRaw at h
    split at h
    · simp only [Option.some.injEq, Prod.mk.injEq] at h
      obtain ⟨_, rfl, _⟩ := h
      simp at ho
    · next c =>
      cases e : rdRaw r with
      | none => rw [e] at h; simp at h
      | some p =>
        obtain ⟨v', n', z'⟩ := p
        rw [e] at h
        simp only [Option.some.injEq, Prod.mk.injEq] at h
        obtain ⟨_, rfl, _⟩ := h
        cases n' with
        | zero => simp at ho
        | succ n' =>
          rw [Nat.add_sub_cancel, List.take_succ_cons] at ho
          rcases List.mem_cons.mp ho with q | q
          · omega
          · exact rdRaw_high e o (by simpa using q)
theorem ok_of_wn {os : List Int} {c : Nat} (ho : Oct os) (hl : os.length ≤ 400) (hw : Wn c os) (hc : c ≤ 29) : OsOk os := by
  refine ⟨ho, hl, fun a v a' h => ?_⟩
  unfold num at h
  split at h
  · simp at h
  · next v' n z e =>
    split at h
    · simp at h
    · simp only [Except.ok.injEq, Prod.mk.injEq] at h
      obtain ⟨rfl, rfl⟩ := h
      have q := rdRaw_ok (ho.drop a) e
      have hh := rdRaw_high e
      have w := hw (os.take a) ((os.drop a).take (n - 1)) ((os.drop a).drop (n - 1)) (by rw [List.append_assoc, List.take_append_drop, List.take_append_drop])
      have l0 : lows ((os.drop a).take (n - 1)) = 0 := by
        refine List.countP_eq_zero.mpr fun o ho' => ?_
        have := hh o ho'
        simp
        omega
      rw [l0, List.length_take] at w
      have : n ≤ 30 := by omega
      have := L2.EG.pow_le_pow (a := n) (b := 30) this
      omega
/-- what is told is whole codes, and how long it is -/
def Cl (k : Nat) (os : List Int) : Prop := Cd os ∧ Oct os ∧ os.length ≤ k
theorem Cl.app {i j : Nat} {a b : List Int} (h : Cl i a) (k : Cl j b) : Cl (i + j) (a ++ b) := ⟨h.1.app k.1, h.2.1.app k.2.1, by have := h.2.2; have := k.2.2; rw [List.length_append]; omega⟩
theorem Cl.mono {i j : Nat} {a : List Int} (h : Cl i a) (l : i ≤ j) : Cl j a := ⟨h.1, h.2.1, Nat.le_trans h.2.2 l⟩
theorem Cl.num {i : Int} (h0 : 0 ≤ i) (h1 : i < 4398046511104) : Cl 6 (numO i) := ⟨Cd.num h0 h1, numO_oct i, numO_len 5 h0 (by simpa using h1)⟩
theorem Cl.sgn {v : Int} (h0 : -2000000000000 ≤ v) (h1 : v ≤ 2000000000000) : Cl 6 (sgnO v) := by
  refine Cl.num (zig_nn v) ?_
  unfold zig
  split <;> omega
theorem Cl.small {i : Int} (h0 : 0 ≤ i) (h1 : i < 128) : Cl 1 (numO i) := by
  rw [numO_small h0 h1]
  exact ⟨Cd.low h1, fun o ho => by simp at ho; omega, by simp⟩
theorem Cl.low {i : Int} (h0 : 0 ≤ i) (h1 : i < 128) : Cl 1 [i] := by
  rw [← numO_small h0 h1]
  exact Cl.small h0 h1
theorem Cl.flat {α : Type} {l : List α} {f : α → List Int} {k : Nat} (h : ∀ x ∈ l, Cl k (f x)) : Cl (k * l.length) (l.flatMap f) := by
  refine ⟨Cd.flat fun x hx => (h x hx).1, fun o ho => ?_, flat_len fun x hx => (h x hx).2.2⟩
  obtain ⟨x, hx, h2⟩ := List.mem_flatMap.mp ho
  exact (h x hx).2.1 o h2
/-- values, times as they are drawn -/
structure VL (n : Nat) (xs : List Int) : Prop where
  few : xs.length ≤ n
  lo : ∀ x ∈ xs, -1000000000000 ≤ x
  hi : ∀ x ∈ xs, x ≤ 1000000000000
theorem getD_le {xs : List Int} {i : Nat} {P : Int → Prop} (h : ∀ x ∈ xs, P x) (z : P 0) : P (xs.getD i 0) := by
  by_cases c : i < xs.length
  · exact h _ (getD_mem c)
  · rw [List.getD_eq_getElem?_getD, List.getElem?_eq_none (by omega)]
    exact z
theorem VL.at {n : Nat} {xs : List Int} (h : VL n xs) (i : Nat) : -1000000000000 ≤ xs.getD i 0 ∧ xs.getD i 0 ≤ 1000000000000 := ⟨getD_le h.lo (by decide), getD_le h.hi (by decide)⟩
theorem told_cl {n : Nat} {xs : List Int} (h : VL n xs) (hn : n ≤ 13) {w : Nat} : Cl 92 (told w xs) := by
  have few := h.few
  have hv : ∀ x ∈ xs, Cl 6 (sgnO x) := fun x hx => Cl.sgn (by have := h.lo x hx; omega) (by have := h.hi x hx; omega)
  unfold told
  split
  · exact (Cl.flat hv).mono (by omega)
  · unfold diffs
    rw [List.flatMap_map]
    have c := Cl.flat (l := List.range xs.length) (f := fun i => sgnO (dO xs i)) (k := 6) fun i _ => by
      have := h.at i
      have := h.at (i - 1)
      have := h.at 0
      unfold dO
      split
      · exact Cl.sgn (by omega) (by omega)
      · exact Cl.sgn (by omega) (by omega)
    rw [List.length_range] at c
    exact c.mono (by omega)
  · have rf := runs_facts xs
    have c := Cl.flat (l := runsL xs) (f := fun p => sgnO p.1 ++ numO (p.2 - 1)) (k := 7) fun p hp => by
      have := rf.2 p hp
      exact (hv _ this.1).app (Cl.small (by omega) (by omega))
    exact c.mono (by have := rf.1; omega)
  · have sl := srt_len xs
    have hm : ∀ x ∈ srt xs, x ∈ xs := fun x hx => (srt_mem xs x).1 hx
    have c1 : Cl 1 (numO (srt xs).length) := Cl.small (by omega) (by omega)
    have c2 := Cl.flat (l := List.range (srt xs).length) (f := kO (srt xs)) (k := 6) fun i hi => by
      have hi' : i < (srt xs).length := by simpa using hi
      have b : ∀ k, k < (srt xs).length → -1000000000000 ≤ (srt xs).getD k 0 ∧ (srt xs).getD k 0 ≤ 1000000000000 := fun k hk => ⟨h.lo _ (hm _ (getD_mem hk)), h.hi _ (hm _ (getD_mem hk))⟩
      unfold kO
      split
      · have := b 0 (by omega)
        exact Cl.sgn (by omega) (by omega)
      · next ne =>
        have := pw_get (srt_lt xs) (i := i) (by omega) hi'
        have := b i hi'
        have := b (i - 1) (by omega)
        exact Cl.num (by omega) (by omega)
    have c3 := Cl.flat (l := xs) (f := fun v => numO ((srt xs).idxOf v)) (k := 1) fun v _ => by
      have : (srt xs).idxOf v ≤ (srt xs).length := List.idxOf_le_length
      exact Cl.small (by omega) (by omega)
    rw [List.length_range] at c2
    exact (c1.app (c2.app c3)).mono (by omega)
theorem VL.sml {n : Nat} {xs : List Int} (h : VL n xs) (hn : n ≤ 13) : L2.EG.SmL xs := by
  have e : (10000000000000 : Int) < 128 ^ 35 := by decide
  refine ⟨by have := h.few; omega, fun x hx => ?_, fun x hx => ?_⟩
  · have := h.lo x hx
    omega
  · have := h.hi x hx
    omega
theorem packed_cl {n : Nat} {xs : List Int} (h : VL n xs) (hn : n ≤ 13) : Cl 79 (packed xs) := by
  obtain ⟨w, hw, e⟩ := packed_row xs
  have l := packed_le xs 0 (by decide)
  rw [e]
  have c := (Cl.low (i := (w : Int)) (by omega) (by omega)).app (told_cl h hn (w := w))
  refine ⟨c.1, c.2.1, ?_⟩
  rw [e] at l
  refine Nat.le_trans l ?_
  have z : (told 0 xs).length ≤ 6 * xs.length := flat_len fun x hx => (Cl.sgn (by have := h.lo x hx; omega) (by have := h.hi x hx; omega)).2.2
  have := h.few
  show (told 0 xs).length + 1 ≤ 79
  omega
structure TL (n : Nat) (ts : List Int) : Prop where
  few : ts.length ≤ n
  up : ts.Pairwise (· < ·)
  nn : ∀ x ∈ ts, 0 ≤ x
  hi : ∀ x ∈ ts, x ≤ 1100000000000
theorem TL.tml {n : Nat} {xs : List Int} (h : TL n xs) (hn : n ≤ 13) : L2.EG.TmL xs := by
  have e : (10000000000000 : Int) < 128 ^ 35 := by decide
  exact ⟨by have := h.few; omega, h.up, h.nn, fun x hx => by have := h.hi x hx; omega⟩
theorem times_cl {n : Nat} {ts : List Int} (h : TL n ts) (hn : n ≤ 12) : Cl 73 (timesO ts) := by
  have hf := h.few
  have c1 : Cl 1 (numO ts.length) := Cl.small (by omega) (by omega)
  have c2 : Cl (6 * (List.range ts.length).length) ((List.range ts.length).flatMap (tO ts)) := Cl.flat fun i hi => by
    have hi' : i < ts.length := by simpa using hi
    unfold tO
    have b0 : ∀ k, 0 ≤ ts.getD k 0 ∧ ts.getD k 0 ≤ 1100000000000 := fun k => ⟨getD_le h.nn (by decide), getD_le h.hi (by decide)⟩
    split
    · exact Cl.num (b0 _).1 (by have := b0 0; omega)
    · split
      · have lt : ts.getD 0 0 < ts.getD 1 0 := by
          have := List.pairwise_iff_getElem.mp h.up 0 1 (by omega) (by omega) (by omega)
          rw [List.getD_eq_getElem?_getD, List.getD_eq_getElem?_getD, List.getElem?_eq_getElem (by omega), List.getElem?_eq_getElem (by omega)]
          exact this
        refine Cl.num (by omega) ?_
        have := b0 0
        have := b0 1
        omega
      · next n0 n1 =>
        have h1 := pw_get h.up (i := i) (by omega) hi'
        have h2 := pw_get h.up (i := i - 1) (by omega) (by omega)
        rw [show i - 1 - 1 = i - 2 from by omega] at h2
        have := b0 i
        have := b0 (i - 1)
        have := b0 (i - 2)
        exact Cl.sgn (by omega) (by omega)
  refine (c1.app c2).mono ?_
  rw [List.length_range]
  omega
end EgM

set_option Elab.async false
set_option linter.all false
set_option maxRecDepth 100000
set_option maxHeartbeats 4000000
/-! The law's defs, part twelve: drawing times and values. -/
namespace L2.EG
open PySem PySem.Spec PyProof.Rows EgM
open Evl (Ex ex_l ex_t)

/-- one of a list's numbers is drawn -/
theorem pick_go {K : PySem.W.Frag} {b p : Addr} {n : Nat} {H : Hp} {Q : VK} (xs : List Int) {m : Int} (hb : Bx H b n) (hn : n < 1000000) (np : H p = none) (hm : m = (xs.length : Int)) (l1 : 1 ≤ xs.length) (l2 : xs.length < 1000)
    (k : ∀ H' v, ExB b H H' → Bx H' b (n + 1) → v ∈ xs → Q (.int v) H') : spLTake [.ref b, .int m] (upd H p (.lst (iv xs))) (fun y H2 => rIxL K (.ref p) y H2 Q) E0 := by
  refine ⟨b, n, m, rfl, hb.new np, hn, by omega, by omega, fun H2 x e2 b2 x0 x1 => ?_⟩
  obtain ⟨v, hv, hx⟩ := pick_iv (xs := xs) x0 (by omega)
  exact ⟨p, _, _, _, rfl, rfl, SqL.of (e2 _ _ (hb.ne np) upd_same), hx, k _ _ ((ExB.of (Ex.new np)).trans e2) b2 hv⟩
/-- if c: x = e -/
theorem if_cps {c : TT} {te : TE} {i : Nat} {D : Ends} {σ : L2.St} {H : Hp} {b : Bool} (R : V → Hp → Prop) (hc : Tv c σ H b) (ha : b = true → ∀ Q : VK, (∀ v H', R v H' → Q v H') → te σ H Q) (hb : b = false → ∃ v, σ.set i (some v) = σ ∧ R v H)
    (k : ∀ v H', R v H' → D.nx (σ.set i (some v)) H') : tIfS c (tAsg te (gName i)) tNext D σ H := if_go hc (by
  cases b with
  | true => exact ha rfl _ k
  | false =>
    obtain ⟨v, e, r⟩ := hb rfl
    have := k v H r
    rw [e] at this
    exact this)
/-- a new list, drawn from the box at b -/
def retB (b : Addr) (n : Nat) (H : Hp) (Q : VK) (G : List Int → Prop) : Prop := ∀ (H' : Hp) (q : Addr) (xs : List Int), ExB b H H' → Bx H' b n → q ≠ b → H' q = some (.lst (iv xs)) → G xs → Q (.ref q) H'
def spLTm : Sp := fun vs H Q _ => ∃ (b : Addr) (n k : Nat), vs = [.ref b, .int (k : Int)] ∧ Bx H b n ∧ n < 800000 ∧ k ≤ 12 ∧ retB b (n + 60) H Q (TL k)
-- slots of _law_times: 0 _law_box_here, 1 _law_many, 2 _law_kind, 3 _law_at, 4 _law_found, 5 _law_gap, 6 _law_k
theorem sc__law_times : FnScope ["_law_box_here", "_law_many", "_law_kind", "_law_at", "_law_found", "_law_gap", "_law_k"] ["_law_box_here", "_law_many"] (defScope (top 61)) := ⟨rfl, rfl, rfl, by decide +kernel, rfl, by decide +kernel, by decide +kernel⟩
theorem ok__law_times {M : Md} (B : Bn M) (c__law_take : M.pm "_law_take" 1 ["_law_box_here", "_law_many"] spLTake) (F : Fd M "_law_times" (top 61)) : M.pm "_law_times" 2 ["_law_box_here", "_law_many"] (spLTm) := by
  refine F.ok sc__law_times ?len (fun _ _ _ _ _ _ us hl => match us, hl with | [_, _], _ => rfl) (fun f cdv A outer s H vs Q E hr h => ?body)
  case len =>
    rintro _ _ _ _ ⟨_, _, _, rfl, _⟩
    rfl
  case body =>
    refine ⟨_, (pss_cons (ps_par3 (i := 2) (j := 3) (l := 4) rfl sc__law_times.nd rfl rfl rfl (by decide) (by decide) (by decide) rfl rfl rfl (pa_cons (pe_pm c__law_take (hr.mono (by decide)) rfl (pa_cons (pv 0) (pa_cons pe_int pa_nil))) (pa_cons (pe_ixL (K := M.K) (pe_lst (pa_cons pe_int (pa_cons (pe_pm c__law_take (hr.mono (by decide)) rfl (pa_cons (pv 0) (pa_cons pe_int pa_nil))) (pa_cons (pe_op op_sub (pe_op op_pow pe_int pe_int) (pe_op op_pow pe_int pe_int)) pa_nil)))) (pe_pm c__law_take (hr.mono (by decide)) rfl (pa_cons (pv 0) (pa_cons pe_int pa_nil))) (fun _ _ => rfl)) (pa_cons (pe_lst pa_nil) pa_nil))) (by rfl))
      (pss_cons (ps_if (pt_cmpR op_eq (pv 2) pe_int (nomark _))
        (pss_one (ps_set (i := 3) sc__law_times.nd rfl (Or.inl rfl) pe_int))
        pss_nil)
      (pss_cons (ps_set (i := 5) sc__law_times.nd rfl (Or.inl rfl) (pe_op op_add pe_int (pe_pm c__law_take (hr.mono (by decide)) rfl (pa_cons (pv 0) (pa_cons (pe_ixL (K := M.K) (pe_lst (pa_cons (pe_op op_pow pe_int pe_int) (pa_cons pe_int (pa_cons pe_int (pa_cons pe_int pa_nil))))) (pv 2) (fun _ _ => rfl)) pa_nil)))))
      (pss_cons (ps_for PassesOwn.never rfl (pi_range1 rfl B.range (pa_cons (pv 1) pa_nil)) (pg_name (i := 6) sc__law_times.nd rfl (Or.inl rfl))
        (pss_cons (ps_expr (pe_bm PySem.F.plainAttrs_list PySem.F.slot_list_append PySem.F.type_list_append mt_append (pv 4) (pa_cons (pv 3) pa_nil)))
        (pss_cons (ps_if (pt_cmpR op_eq (pv 2) pe_int (nomark _))
          (pss_one (ps_set (i := 5) sc__law_times.nd rfl (Or.inl rfl) (pe_op op_add pe_int (pe_pm c__law_take (hr.mono (by decide)) rfl (pa_cons (pv 0) (pa_cons (pe_op op_pow pe_int pe_int) pa_nil))))))
          pss_nil)
        (pss_cons (ps_if (pt_cmpR op_eq (pv 2) pe_int (nomark _))
          (pss_one (ps_set (i := 5) sc__law_times.nd rfl (Or.inl rfl) (pe_callB (call_max2 rfl) rfl B.max (by decide +kernel) (pa_cons pe_int (pa_cons (pe_op op_add (pv 5) (pe_ixL (K := M.K) (pe_lst (pa_cons pe_int (pa_cons pe_int (pa_cons (pe_un un_neg pe_int) (pa_cons (pe_un un_neg pe_int) (pa_cons pe_int (pa_cons pe_int pa_nil))))))) (pe_pm c__law_take (hr.mono (by decide)) rfl (pa_cons (pv 0) (pa_cons pe_int pa_nil))) (fun _ _ => rfl))) pa_nil)))))
          pss_nil)
        (pss_one (ps_set (i := 3) sc__law_times.nd rfl (Or.inl rfl) (pe_op op_add (pv 3) (pv 5))))))))
      (pss_one (ps_ret (pv 4))))))), ?_⟩
    obtain ⟨b, n, k, rfl, hb, hn, hk, q⟩ := h
    refine ⟨_, rfl, b, n, 4, rfl, hb, by omega, by decide, by decide, fun H1 d e1 b1 d0 d1 => ?_⟩
    refine ⟨_, rfl, b, n + 1, 200, rfl, b1, by omega, by decide, by decide, fun H2 s e2 b2 s0 s1 => ?_⟩
    repeat (first | refine ⟨_, rfl, ?_⟩ | refine ⟨_, _, rfl, rfl, ?_⟩)
    refine ⟨⟨by decide, by decide, by decide⟩, ?_⟩
    repeat (first | refine ⟨_, rfl, ?_⟩ | refine ⟨_, _, rfl, rfl, ?_⟩)
    refine ⟨⟨by decide, by decide, by decide⟩, ?_⟩
    repeat (first | refine ⟨_, rfl, ?_⟩ | refine ⟨_, _, rfl, rfl, ?_⟩)
    refine ⟨by show 3 ≤ sizeLine; decide, fun p np => ⟨_, rfl, pick_go [0, s, 10 ^ Int.toNat 12 - 10 ^ Int.toNat 7] b2 (by omega) np rfl (by simp) (by simp) fun H3 v e3 b3 hv => ?_⟩⟩
    have e03 := (e1.trans e2).trans e3
    refine ⟨by show 0 ≤ sizeLine; decide, fun p np => ?_⟩
    have e4 := Ex.new (o := .lst ([] : List V)) np
    have b4 := b3.new (u := .lst ([] : List V)) np
    have npb := b3.ne np
    have hp0 : (upd H3 p (.lst ([] : List V))) p = some (.lst []) := upd_same
    generalize upd H3 p (.lst ([] : List V)) = H4 at *
    have e04 : ExB b H H4 := e03.trans (ExB.of e4)
    have v0 : 0 ≤ v ∧ v ≤ 1000000000000 := by
      simp at hv
      omega
    refine ⟨_, _, _, rfl, ?_⟩
    dsimp only
    -- the first time
    refine seq_go (if_cps (fun x H' => H' = H4 ∧ ∃ a, x = .int a ∧ 0 ≤ a ∧ a ≤ 1000000000000) (b := decide (d = 0)) (fun Q q => ⟨_, rfl, rfl, _, rfl, by rw [dec_int']; exact q⟩) (fun _ Q k => k _ _ ⟨rfl, 0, rfl, by decide, by decide⟩) (fun _ => ⟨.int v, rfl, rfl, v, rfl, v0⟩) ?_)
    rintro _ _ ⟨rfl, a, rfl, a0, a1⟩
    dsimp only
    refine seq_go (asg_go ?_)
    repeat (first | refine ⟨_, rfl, ?_⟩ | refine ⟨_, _, rfl, rfl, ?_⟩)
    refine ⟨⟨by decide, by decide, by decide⟩, ?_⟩
    refine ⟨by show 4 ≤ sizeLine; decide, fun z nz => ?_⟩
    have e5 := Ex.new (o := .lst [V.int (10 ^ Int.toNat 9), V.int 300, V.int 300, V.int 3]) nz
    have bz := b4.new (u := .lst [V.int (10 ^ Int.toNat 9), V.int 300, V.int 300, V.int 3]) nz
    obtain ⟨u, hu, hx⟩ := pick_iv (xs := [10 ^ Int.toNat 9, 300, 300, 3]) d0 d1
    have hu' : 1 ≤ u ∧ u ≤ 1000000000 := by
      simp at hu
      omega
    refine ⟨_, rfl, z, _, _, _, rfl, rfl, SqL.of upd_same, hx, b, n + 3, u, rfl, bz, by omega, by omega, by omega, fun H6 g e6 b6 g0 g1 => ?_⟩
    have hp6 : H6 p = some (.lst []) := e6 _ _ npb (e5 _ _ hp0)
    have e06 : ExB b H H6 := (e04.trans (ExB.of e5)).trans e6
    have nH : H p = none := by
      cases c : H p with
      | none => rfl
      | some o =>
        rw [e03 _ _ npb c] at np
        cases np
    repeat (first | refine ⟨_, rfl, ?_⟩ | refine ⟨_, _, rfl, rfl, ?_⟩)
    refine ⟨by omega, by omega, ?_⟩
    refine for_range (lo := 0) (n := k) (fun i σ H' => ∃ (at_ gap : Int) (acc : List Int) (w : Option V), σ = [some (.ref b), some (.int (k : Int)), some (.int d), some (.int at_), some (.ref p), some (.int gap), w] ∧ ExB b H H' ∧ Bx H' b (n + 4 + 2 * i) ∧ H' p = some (.lst (iv acc)) ∧
      acc.length = i ∧ acc.Pairwise (· < ·) ∧ (∀ x ∈ acc, 0 ≤ x ∧ x < at_) ∧ 0 ≤ at_ ∧ at_ ≤ 1000000000000 + 1000001000 * i ∧ 1 ≤ gap ∧ gap ≤ 1000000000 + 64 * i) ⟨a, 1 + g, [], none, rfl, e06, b6, hp6, rfl, by simp, by simp, a0, by omega, by omega, by omega⟩ ?_ ?_
    · rintro i σ H7 hi ⟨at_, gap, acc, w, rfl, e7, b7, hp7, la, pw, hm, at0, at1, gp0, gp1⟩
      dsimp only [gName]
      refine seq_go ⟨_, rfl, .inl ⟨rfl, _, SqL.of hp7⟩, _, rfl, _, _, _, rfl, rfl, hp7, szl (by rw [List.length_map]; omega), ?_⟩
      have e8 : ExB b H (upd H7 p (.lst (iv acc ++ [V.int at_]))) := e7.mut nH
      have b8 := b7.mut (u := .lst (iv acc ++ [V.int at_])) npb
      have hp8 : (upd H7 p (.lst (iv acc ++ [V.int at_]))) p = some (.lst (iv (acc ++ [at_]))) := by rw [upd_same, iv, iv, List.map_append]; rfl
      generalize upd H7 p (.lst (iv acc ++ [V.int at_])) = H8 at *
      dsimp only
      refine seq_go (if_cps (fun x H' => ∃ g' : Int, x = .int g' ∧ ExB b H H' ∧ Bx H' b (n + 4 + 2 * i + 1) ∧ H' p = some (.lst (iv (acc ++ [at_]))) ∧ 1 ≤ g' ∧ g' ≤ 1000000000 + 64 * i) (b := decide (d = 0)) (fun Q q => ⟨_, rfl, rfl, _, rfl, by rw [dec_int']; exact q⟩)
        (fun _ Q k => ⟨_, rfl, _, _, rfl, rfl, ⟨by decide, by decide, by decide⟩, b, _, _, rfl, b8, by omega, by decide, by decide, fun H9 y e9 b9 y0 y1 => ⟨_, _, rfl, rfl, k _ _ ⟨_, rfl, e8.trans e9, b9, e9 _ _ npb hp8, by omega, ?_⟩⟩⟩)
        (fun _ => ⟨.int gap, rfl, gap, rfl, e8, b8.mono (by omega), hp8, gp0, gp1⟩) ?_)
      · have : (10 : Int) ^ Int.toNat 9 = 1000000000 := by decide
        omega
      rintro _ H9 ⟨g', rfl, e9, b9, hp9, g0', g1'⟩
      dsimp only
      refine seq_go (if_cps (fun x H' => ∃ g' : Int, x = .int g' ∧ ExB b H H' ∧ Bx H' b (n + 4 + 2 * i + 2) ∧ H' p = some (.lst (iv (acc ++ [at_]))) ∧ 1 ≤ g' ∧ g' ≤ 1000000000 + 64 * (i + 1 : Nat)) (b := decide (d = 2)) (fun Q q => ⟨_, rfl, rfl, _, rfl, by rw [dec_int']; exact q⟩)
        (fun _ Q k => ?_)
        (fun _ => ⟨.int g', rfl, g', rfl, e9, b9.mono (by omega), hp9, g0', by omega⟩) ?_)
      · refine ⟨_, rfl, _, rfl, _, rfl, by show 6 ≤ sizeLine; decide, fun z nz => ⟨_, rfl, pick_go [63, 64, -64, -65, 0, 1] b9 (by omega) nz rfl (by decide) (by decide) fun Ha x ea ba hx => ?_⟩⟩
        refine ⟨_, _, rfl, rfl, _, _, rfl, k _ _ ⟨_, rfl, (e9.trans ea), ba, ea _ _ npb hp9, ?_, ?_⟩⟩
        · split <;> omega
        · simp at hx
          split <;> omega
      rintro _ Hb ⟨g'', rfl, eb, bb, hpb, g0'', g1''⟩
      dsimp only
      repeat (first | refine ⟨_, rfl, ?_⟩ | refine ⟨_, _, rfl, rfl, ?_⟩)
      refine ⟨at_ + g'', g'', acc ++ [at_], _, rfl, eb, bb.mono (by omega), hpb, by rw [List.length_append, la]; rfl, ?_, fun x hx => ?_, by omega, by omega, g0'', g1''⟩
      · rw [List.pairwise_append]
        refine ⟨pw, by simp, fun x hx y hy => ?_⟩
        obtain rfl := List.mem_singleton.mp hy
        exact (hm x hx).2
      · rcases List.mem_append.mp hx with h | h
        · have := hm x h
          omega
        · obtain rfl := List.mem_singleton.mp h
          omega
    · rintro σ H7 ⟨at_, gap, acc, w, rfl, e7, b7, hp7, la, pw, hm, at0, at1, gp0, gp1⟩
      refine ⟨_, rfl, q _ p acc e7 (b7.mono (by omega)) npb hp7 ⟨by omega, pw, fun x hx => (hm x hx).1, fun x hx => ?_⟩⟩
      have := hm x hx
      omega
end L2.EG

set_option Elab.async false
set_option linter.all false
set_option maxRecDepth 100000
set_option maxHeartbeats 4000000
/-! The law's defs, part thirteen: drawing values. -/
namespace L2.EG
open PySem PySem.Spec PyProof.Rows EgM
open Evl (Ex ex_l ex_t)

def spLVl : Sp := fun vs H Q _ => ∃ (b : Addr) (n k : Nat), vs = [.ref b, .int (k : Int)] ∧ Bx H b n ∧ n < 800000 ∧ k ≤ 13 ∧ retB b (n + 60) H Q (VL k)
theorem ExB.back0 {b D : Addr} {n : Nat} {H H' : Hp} (e : ExB b H H') (hb : Bx H' b n) (nD : H' D = none) : H D = none := by
  cases c : H D with
  | none => rfl
  | some o =>
    rw [e _ _ (hb.ne nD) c] at nD
    cases nD
/-- while a list is drawn at D -/
def GI (b D : Addr) (n : Nat) (P : Int → Prop) (H : Hp) (i : Nat) (H' : Hp) : Prop := ExB b H H' ∧ Bx H' b (n + 3 * i) ∧ ∃ acc, H' D = some (.lst (iv acc)) ∧ acc.length = i ∧ ∀ x ∈ acc, P x
theorem GI.new {b D : Addr} {n : Nat} {P : Int → Prop} {H H' : Hp} (e : ExB b H H') (hb : Bx H' b n) (nD : H' D = none) : GI b D n P H 0 (upd H' D (.lst [])) :=
  ⟨e.trans (ExB.of (Ex.new nD)), (hb.new nD).mono (by omega), [], upd_same, rfl, by simp⟩
theorem GI.step {b D : Addr} {n i : Nat} {P : Int → Prop} {H H' H'' : Hp} {v : Int} (h : GI b D n P H i H') (nD : H D = none) (ne : D ≠ b) (hi : i < 1000) (e : ExB b H' H'') (hb : Bx H'' b (n + 3 * i + 3)) (hv : P v) :
    ∃ acc, H'' D = some (.lst acc) ∧ acc.length < sizeLine ∧ GI b D n P H (i + 1) (upd H'' D (.lst (acc ++ [V.int v]))) := by
  obtain ⟨e0, b0, acc, hD, la, ha⟩ := h
  refine ⟨iv acc, e _ _ ne hD, szl (by rw [List.length_map]; omega), (e0.trans e).mut nD, (hb.mut ne).mono (by omega), acc ++ [v], by rw [upd_same, iv, iv, List.map_append]; rfl, by rw [List.length_append, la]; rfl, fun x hx => ?_⟩
  rcases List.mem_append.mp hx with h | h
  · exact ha x h
  · obtain rfl := List.mem_singleton.mp h
    exact hv
-- slots of _law_values: 0 _law_box_here*, 1 _law_many*, 2 _law_kind, 3 _law_first*, 4 _law_step*, 5 _law_menu*, 6 _law_k
theorem sc__law_values : FnScope ["_law_box_here", "_law_many", "_law_kind", "_law_first", "_law_step", "_law_menu", "_law_k"] ["_law_box_here", "_law_many"] (defScope (top 63)) := ⟨rfl, rfl, rfl, by decide +kernel, rfl, by decide +kernel, by decide +kernel⟩
theorem ok__law_values {M : Md} (B : Bn M) (c__law_take : M.pm "_law_take" 1 ["_law_box_here", "_law_many"] spLTake) (c__law_one : M.pm "_law_one" 2 ["_law_box_here"] spLGen) (F : Fd M "_law_values" (top 63)) : M.pm "_law_values" 3 ["_law_box_here", "_law_many"] (spLVl) := by
  refine F.ok sc__law_values ?len (fun _ _ _ _ _ _ us hl => match us, hl with | [_, _], _ => rfl) (fun f cdv A outer s H vs Q E hr h => ?body)
  case len =>
    rintro _ _ _ _ ⟨_, _, _, rfl, _⟩
    rfl
  case body =>
    refine ⟨_, (pss_cons (ps_asg (pe_tup (pa_cons (pe_pm c__law_take (hr.mono (by decide)) rfl (pa_cons (pv 0) (pa_cons pe_int pa_nil))) (pa_cons (pe_pm c__law_one (hr.mono (by decide)) rfl (pa_cons (pv 0) pa_nil)) (pa_cons (pe_op op_sub (pe_pm c__law_take (hr.mono (by decide)) rfl (pa_cons (pv 0) (pa_cons pe_int pa_nil))) pe_int) pa_nil)))) (pg_tup rfl (pgs_cons (pg_name (i := 2) sc__law_values.nd rfl (Or.inl rfl)) (pgs_cons (pg_name (i := 3) sc__law_values.nd rfl (Or.inr rfl)) (pgs_cons (pg_name (i := 4) sc__law_values.nd rfl (Or.inr rfl)) pgs_nil)))))
      (pss_cons (ps_set (i := 5) sc__law_values.nd rfl (Or.inr rfl) (pe_lst (pa_cons (pv 3) (pa_cons (pe_pm c__law_one (hr.mono (by decide)) rfl (pa_cons (pv 0) pa_nil)) (pa_cons (pe_pm c__law_one (hr.mono (by decide)) rfl (pa_cons (pv 0) pa_nil)) pa_nil)))))
      (pss_cons (ps_if (pt_cmpR op_eq (pv 2) pe_int (nomark _))
        (pss_one (ps_ret (pe_lc (own := [("_law_k", 6)]) (g := (gName 6)) (tt := tYes) rfl sc__law_values.nd (pi_range1 rfl B.range (pa_cons (pv 1) pa_nil)) (blkOk_by (N := ["_law_box_here", "_law_many", "_law_kind", "_law_first", "_law_step", "_law_menu", "_law_k"]) (sc := defScope (top 63)) (by decide +kernel)) (fun _ _ _ _ _ => (pg_name (i := 6) sc__law_values.nd rfl (Or.inl rfl))) (fun _ _ _ _ _ => pts_nil) (fun _ _ _ _ _ => (pe_pm c__law_one (hr.mono (by decide)) rfl (pa_cons (pv 0) pa_nil))))))
        pss_nil)
      (pss_cons (ps_if (pt_cmpR op_eq (pv 2) pe_int (nomark _))
        (pss_one (ps_ret (pe_lc (own := [("_law_k", 6)]) (g := (gName 6)) (tt := tYes) rfl sc__law_values.nd (pi_range1 rfl B.range (pa_cons (pv 1) pa_nil)) (blkOk_by (N := ["_law_box_here", "_law_many", "_law_kind", "_law_first", "_law_step", "_law_menu", "_law_k"]) (sc := defScope (top 63)) (by decide +kernel)) (fun _ _ _ _ _ => (pg_name (i := 6) sc__law_values.nd rfl (Or.inl rfl))) (fun _ _ _ _ _ => pts_nil) (fun _ _ _ _ _ => (pe_op op_add (pe_op op_fdiv (pv 3) pe_int) (pe_op op_mul (pv 4) (pv 6)))))))
        pss_nil)
      (pss_cons (ps_if (pt_cmpR op_eq (pv 2) pe_int (nomark _))
        (pss_one (ps_ret (pe_lc (own := [("_law_k", 6)]) (g := (gName 6)) (tt := tYes) rfl sc__law_values.nd (pi_range1 rfl B.range (pa_cons (pv 1) pa_nil)) (blkOk_by (N := ["_law_box_here", "_law_many", "_law_kind", "_law_first", "_law_step", "_law_menu", "_law_k"]) (sc := defScope (top 63)) (by decide +kernel)) (fun _ _ _ _ _ => (pg_name (i := 6) sc__law_values.nd rfl (Or.inl rfl))) (fun _ _ _ _ _ => pts_nil) (fun _ _ _ _ _ => (pe_ixL (K := M.K) (pv 5) (pe_op op_fdiv (pe_op op_mul (pv 6) pe_int) (pe_callB (call_max2 rfl) rfl B.max (by decide +kernel) (pa_cons pe_int (pa_cons (pv 1) pa_nil)))) (fun _ _ => rfl))))))
        pss_nil)
      (pss_cons (ps_if (pt_cmpR op_eq (pv 2) pe_int (nomark _))
        (pss_one (ps_ret (pe_lc (own := [("_law_k", 6)]) (g := (gName 6)) (tt := tYes) rfl sc__law_values.nd (pi_range1 rfl B.range (pa_cons (pv 1) pa_nil)) (blkOk_by (N := ["_law_box_here", "_law_many", "_law_kind", "_law_first", "_law_step", "_law_menu", "_law_k"]) (sc := defScope (top 63)) (by decide +kernel)) (fun _ _ _ _ _ => (pg_name (i := 6) sc__law_values.nd rfl (Or.inl rfl))) (fun _ _ _ _ _ => pts_nil) (fun _ _ _ _ _ => (pe_ixL (K := M.K) (pv 5) (pe_pm c__law_take (hr.mono (by decide)) rfl (pa_cons (pv 0) (pa_cons pe_int pa_nil))) (fun _ _ => rfl))))))
        pss_nil)
      (pss_one (ps_ret (pe_op op_rep (pe_lst (pa_cons (pv 3) pa_nil)) (pv 1)))))))))), ?_⟩
    obtain ⟨b, n, k, rfl, hb, hn, hk, q⟩ := h
    refine seq_go ⟨_, rfl, b, n, 5, rfl, hb, by omega, by decide, by decide, fun H1 d e1 b1 d0 d1 => ?_⟩
    refine ⟨_, rfl, b, n + 1, rfl, b1, by omega, fun H2 v e2 b2 hv => ?_⟩
    refine ⟨_, rfl, b, n + 4, 200, rfl, b2, by omega, by decide, by decide, fun H3 s e3 b3 s0 s1 => ?_⟩
    repeat (first | refine ⟨_, rfl, ?_⟩ | refine ⟨_, _, rfl, rfl, ?_⟩)
    refine ⟨by show 3 ≤ sizeLine; decide, fun p np => ?_⟩
    refine ⟨p, _, rfl, SqT.of upd_same, rfl, ?_⟩
    have b4 := b3.new (u := .tup [V.int d, V.int v, V.int (s - 100)]) np
    have e4 : ExB b H (upd H3 p (.tup [V.int d, V.int v, V.int (s - 100)])) := ((e1.trans e2).trans e3).trans (ExB.of (Ex.new np))
    generalize upd H3 p (.tup [V.int d, V.int v, V.int (s - 100)]) = H4 at *
    refine ⟨_, _, rfl, _, _, rfl, _, _, rfl, rfl, ?_⟩
    dsimp only
    refine seq_go (asg_go ⟨_, rfl, _, rfl, b, n + 5, rfl, b4, by omega, fun H5 v2 e5 b5 hv2 => ⟨_, rfl, b, n + 8, rfl, b5, by omega, fun H6 v3 e6 b6 hv3 => ?_⟩⟩)
    refine ⟨by show 3 ≤ sizeLine; decide, fun mn nm => ?_⟩
    have e06 : ExB b H (upd H6 mn (.lst [V.int v, V.int v2, V.int v3])) := ((e4.trans e5).trans e6).trans (ExB.of (Ex.new nm))
    have b7 := b6.new (u := .lst [V.int v, V.int v2, V.int v3]) nm
    have hmn : (upd H6 mn (.lst [V.int v, V.int v2, V.int v3])) mn = some (.lst (iv [v, v2, v3])) := upd_same
    have nmb := b6.ne nm
    generalize upd H6 mn (.lst [V.int v, V.int v2, V.int v3]) = H7 at *
    have menu : ∀ x ∈ [v, v2, v3], VOk x := fun x hx => by
      simp at hx
      rcases hx with rfl | rfl | rfl
      · exact hv
      · exact hv2
      · exact hv3
    have fin : ∀ (H' : Hp) (D : Addr), D ≠ b → GI b D (n + 11) VOk H k H' → Q (.ref D) H' := fun H' D ne g => by
      obtain ⟨e, bb, acc, hD, la, ha⟩ := g
      exact q H' D acc e (bb.mono (by omega)) ne hD ⟨by omega, fun x hx => (ha x hx).1, fun x hx => (ha x hx).2⟩
    dsimp only
    -- any
    refine seq_go (if_go (b := decide (d = 0)) (fun Q q => ⟨_, rfl, rfl, _, rfl, by rw [dec_int']; exact q⟩) ?_)
    by_cases c : d = 0
    · rw [decide_eq_true c, if_pos rfl]
      refine ⟨_, rfl, _, rfl, by omega, by omega, fun D nD => ?_⟩
      have neD := b7.ne nD
      refine lc_range (lo := 0) (n := k) (GI b D (n + 11) VOk H) (GI.new e06 b7 nD) ?_ (fun H' g => fin H' D neD g)
      intro i H8 hi g
      refine ⟨rfl, ?_⟩
      simp only [tYes, if_true]
      refine ⟨_, rfl, b, _, rfl, g.2.1, by omega, fun H9 x e9 b9 hx => ?_⟩
      exact g.step (e06.back0 b7 nD) neD (by omega) e9 b9 hx
    rw [decide_eq_false c, if_neg (by decide)]
    refine nx_go ?_
    dsimp only
    -- like steps
    refine seq_go (if_go (b := decide (d = 1)) (fun Q q => ⟨_, rfl, rfl, _, rfl, by rw [dec_int']; exact q⟩) ?_)
    by_cases c : d = 1
    · rw [decide_eq_true c, if_pos rfl]
      refine ⟨_, rfl, _, rfl, by omega, by omega, fun D nD => ?_⟩
      have neD := b7.ne nD
      refine lc_range (lo := 0) (n := k) (GI b D (n + 11) VOk H) (GI.new e06 b7 nD) ?_ (fun H' g => fin H' D neD g)
      intro i H8 hi g
      refine ⟨rfl, ?_⟩
      simp only [tYes, if_true]
      refine ⟨_, rfl, _, _, rfl, rfl, ⟨by decide, by decide⟩, _, rfl, _, rfl, _, _, rfl, rfl, .inl ⟨by omega, by omega⟩, _, _, rfl, rfl, ?_⟩
      have p1 : (s - 100) * (0 + (i : Int)) ≤ 99 * (0 + (i : Int)) := Int.mul_le_mul_of_nonneg_right (by omega) (by omega)
      have p2 : (-100) * (0 + (i : Int)) ≤ (s - 100) * (0 + (i : Int)) := Int.mul_le_mul_of_nonneg_right (by omega) (by omega)
      obtain ⟨v1, v1'⟩ := hv
      exact g.step (e06.back0 b7 nD) neD (by omega) (ExB.refl b H8) (g.2.1.mono (by omega)) ⟨by omega, by omega⟩
    rw [decide_eq_false c, if_neg (by decide)]
    refine nx_go ?_
    dsimp only
    -- runs
    refine seq_go (if_go (b := decide (d = 2)) (fun Q q => ⟨_, rfl, rfl, _, rfl, by rw [dec_int']; exact q⟩) ?_)
    by_cases c : d = 2
    · rw [decide_eq_true c, if_pos rfl]
      refine ⟨_, rfl, _, rfl, by omega, by omega, fun D nD => ?_⟩
      have neD := b7.ne nD
      have nmD : mn ≠ D := fun z => by rw [z, nD] at hmn; cases hmn
      refine lc_range (lo := 0) (n := k) (fun i H' => GI b D (n + 11) VOk H i H' ∧ H' mn = some (.lst (iv [v, v2, v3]))) ⟨GI.new e06 b7 nD, by rw [upd_ne nmD]; exact hmn⟩ ?_ (fun H' g => fin H' D neD g.1)
      rintro i H8 hi ⟨g, hm8⟩
      refine ⟨rfl, ?_⟩
      simp only [tYes, if_true]
      have ek : (if (k : Int) > 1 then (k : Int) else 1) = (k : Int) := by split <;> omega
      have q0 : 0 ≤ (0 + (i : Int)) * 3 / (k : Int) := Int.ediv_nonneg (by omega) (by omega)
      have q1 : (0 + (i : Int)) * 3 / (k : Int) < 3 := Int.ediv_lt_of_lt_mul (by omega) (by omega)
      obtain ⟨x, hx, ax⟩ := pick_iv (xs := [v, v2, v3]) q0 q1
      refine ⟨_, rfl, _, rfl, _, _, rfl, rfl, .inr ⟨by decide, by decide⟩, _, rfl, _, _, rfl, ?_⟩
      rw [ek]
      refine ⟨_, _, rfl, rfl, ⟨by omega, by omega⟩, mn, _, _, _, rfl, rfl, SqL.of hm8, ax, ?_⟩
      obtain ⟨acc, a1, a2, a3⟩ := g.step (e06.back0 b7 nD) neD (by omega) (ExB.refl b H8) (g.2.1.mono (by omega)) (menu x hx)
      exact ⟨acc, a1, a2, a3, by rw [upd_ne nmD]; exact hm8⟩
    rw [decide_eq_false c, if_neg (by decide)]
    refine nx_go ?_
    dsimp only
    -- of three
    refine seq_go (if_go (b := decide (d = 3)) (fun Q q => ⟨_, rfl, rfl, _, rfl, by rw [dec_int']; exact q⟩) ?_)
    by_cases c : d = 3
    · rw [decide_eq_true c, if_pos rfl]
      refine ⟨_, rfl, _, rfl, by omega, by omega, fun D nD => ?_⟩
      have neD := b7.ne nD
      have nmD : mn ≠ D := fun z => by rw [z, nD] at hmn; cases hmn
      refine lc_range (lo := 0) (n := k) (fun i H' => GI b D (n + 11) VOk H i H' ∧ H' mn = some (.lst (iv [v, v2, v3]))) ⟨GI.new e06 b7 nD, by rw [upd_ne nmD]; exact hmn⟩ ?_ (fun H' g => fin H' D neD g.1)
      rintro i H8 hi ⟨g, hm8⟩
      refine ⟨rfl, ?_⟩
      simp only [tYes, if_true]
      refine ⟨_, rfl, _, rfl, b, _, 3, rfl, g.2.1, by omega, by decide, by decide, fun H9 y e9 b9 y0 y1 => ?_⟩
      obtain ⟨x, hx, ax⟩ := pick_iv (xs := [v, v2, v3]) y0 y1
      have hm9 := e9 _ _ nmb hm8
      refine ⟨mn, _, _, _, rfl, rfl, SqL.of hm9, ax, ?_⟩
      obtain ⟨acc, a1, a2, a3⟩ := g.step (e06.back0 b7 nD) neD (by omega) e9 (b9.mono (by omega)) (menu x hx)
      exact ⟨acc, a1, a2, a3, by rw [upd_ne nmD]; exact hm9⟩
    rw [decide_eq_false c, if_neg (by decide)]
    refine nx_go ?_
    dsimp only
    -- one
    refine ⟨_, rfl, by show 1 ≤ sizeLine; decide, fun z nz => ⟨_, rfl, z, _, _, rfl, rfl, upd_same, by omega, by omega, by show 1 * (k : Int).toNat ≤ sizeLine; exact sz (by omega), fun y ny => ?_⟩⟩
    have b8 := b7.new (u := .lst [V.int v]) nz
    have e8 := e06.trans (ExB.of (Ex.new (o := .lst [V.int v]) nz))
    have er : (List.replicate (k : Int).toNat [V.int v]).flatten = iv (List.replicate k v) := by
      rw [List.flatten_replicate_singleton, iv, List.map_replicate]
      rfl
    refine q _ y (List.replicate k v) (e8.trans (ExB.of (Ex.new ny))) ((b8.new ny).mono (by omega)) (b8.ne ny) (by rw [upd_same, er]) ⟨by simp, fun x hx => ?_, fun x hx => ?_⟩
    · rw [(List.mem_replicate.mp hx).2]
      exact hv.1
    · rw [(List.mem_replicate.mp hx).2]
      exact hv.2
end L2.EG

set_option Elab.async false
set_option linter.all false
set_option maxRecDepth 100000
set_option maxHeartbeats 4000000
/-! The law's defs, part fourteen: spoiling, drawing freely. -/
namespace L2.EG
open PySem PySem.Spec PyProof.Rows EgM
open Evl (Ex ex_l ex_t)

def spLSpoilt (K : PySem.W.Frag) : Sp := fun vs H Q _ => ∃ (b o : Addr) (n : Nat) (os : List Int), vs = [.ref b, .ref o] ∧ Bx H b n ∧ n < 800000 ∧ o ≠ b ∧ H o = some (.lst (iv os)) ∧ Oct os ∧ os.length ≤ 1000 ∧
  retB b (n + 10) H Q fun xs => Oct xs ∧ xs.length ≤ os.length + 1 ∧ ∀ c, Wn c os → Wn (c + 7) xs
theorem cut_lo1 {xs : List V} {b : Nat} : cutV xs (some ((b : Int) + 1)) none = xs.drop (b + 1) := cut_lo (b := b + 1)
theorem iv_take {os : List Int} {j : Nat} : (iv os).take j = iv (os.take j) := by rw [iv, iv, List.map_take]
theorem iv_drop {os : List Int} {j : Nat} : (iv os).drop j = iv (os.drop j) := by rw [iv, iv, List.map_drop]
theorem iv_app {xs ys : List Int} : iv xs ++ iv ys = iv (xs ++ ys) := by rw [iv, iv, iv, List.map_append]
/-- xs + ys + zs, zs made last -/
theorem cats_go {H : Hp} {Q : VK} {q1 q2 : Addr} {xs ys zs : List Int} {S : Hp → VK → Prop} (h1 : H q1 = some (.lst (iv xs))) (h2 : H q2 = some (.lst (iv ys))) (hl : xs.length + ys.length + zs.length ≤ 1000000)
    (hS : ∀ H', Ex H H' → ∀ Q' : VK, (∀ q, H' q = none → Q' (.ref q) (upd H' q (.lst (iv zs)))) → S H' Q') (k : retL H Q (xs ++ ys ++ zs)) : rCat (.ref q1) (.ref q2) H (fun x H1 => S H1 fun y H2 => rCat x y H2 Q) := by
  refine ⟨q1, q2, _, _, rfl, rfl, h1, h2, by rw [List.length_map, List.length_map]; exact sz (by omega), fun q3 n3 => ?_⟩
  have e3 := Ex.new (o := .lst (iv xs ++ iv ys)) n3
  refine hS _ e3 _ fun q4 n4 => ?_
  have e4 := Ex.new (o := .lst (iv zs)) n4
  refine ⟨q3, q4, iv xs ++ iv ys, _, rfl, rfl, e4 _ _ upd_same, upd_same, by rw [List.length_append, List.length_map, List.length_map, List.length_map]; exact sz hl, fun q5 n5 => ?_⟩
  refine k _ q5 ((e3.trans e4).trans (Ex.new n5)) (Evl.fresh_back (e3.trans e4) n5) ?_
  rw [upd_same, iv_app, iv_app]
theorem oct_one {a : Int} (h : 0 ≤ a ∧ a ≤ 255) : Oct [a] := fun x hx => by
  obtain rfl := List.mem_singleton.mp hx
  exact h
theorem oct_two {a c : Int} (h : 0 ≤ a ∧ a ≤ 255) (k : 0 ≤ c ∧ c ≤ 255) : Oct [a, c] := (oct_one h).app (oct_one k)
theorem retB.go {b : Addr} {n m : Nat} {H H1 : Hp} {Q : VK} {G : List Int → Prop} {xs : List Int} (q : retB b n H Q G) (e : ExB b H H1) (hb : Bx H1 b m) (l : m ≤ n) (g : G xs) : retL H1 Q xs :=
  fun H' p e' np hp => q H' p xs (e.trans (ExB.of e')) ((hb.ex e').mono l) (hb.ne np) hp g
-- slots of _law_spoilt: 0 _law_box_here, 1 _law_octets_here, 2 _law_pick, 3 _law_at, 4 _law_step
theorem sc__law_spoilt : FnScope ["_law_box_here", "_law_octets_here", "_law_pick", "_law_at", "_law_step"] ["_law_box_here", "_law_octets_here"] (defScope (top 77)) := ⟨rfl, rfl, rfl, by decide +kernel, rfl, by decide +kernel, by decide +kernel⟩
theorem ok__law_spoilt {M : Md} (B : Bn M) (c__law_take : M.pm "_law_take" 1 ["_law_box_here", "_law_many"] spLTake) (F : Fd M "_law_spoilt" (top 77)) : M.pm "_law_spoilt" 2 ["_law_box_here", "_law_octets_here"] (spLSpoilt M.K) := by
  refine F.ok sc__law_spoilt ?len (fun _ _ _ _ _ _ us hl => match us, hl with | [_, _], _ => rfl) (fun f cdv A outer s H vs Q E hr h => ?body)
  case len =>
    rintro _ _ _ _ ⟨_, _, _, _, rfl, _⟩
    rfl
  case body =>
    refine ⟨_, (pss_cons (ps_par (i := 2) (j := 3) rfl sc__law_spoilt.nd rfl rfl (by decide) rfl rfl (pa_cons (pe_pm c__law_take (hr.mono (by decide)) rfl (pa_cons (pv 0) (pa_cons pe_int pa_nil))) (pa_cons (pe_pm c__law_take (hr.mono (by decide)) rfl (pa_cons (pv 0) (pa_cons (pe_callB (call_max2 rfl) rfl B.max (by decide +kernel) (pa_cons pe_int (pa_cons (pe_len (K := M.K) rfl B.len (pv 1)) pa_nil))) pa_nil))) pa_nil)) (by rfl))
      (pss_cons (ps_if (PW.pt (pw_or (pt_cmpR op_eq (pv 2) pe_int (nomark _)) (pw_or1 (pt_cmpR (or_eqD (K := M.K) hr.units) (pv 1) (pe_lst pa_nil) (nomark _)))))
        (pss_one (ps_ret (pe_slL (K := M.K) (pv 1) po_none (po_some (pv 3)))))
        pss_nil)
      (pss_cons (ps_if (pt_cmpR op_eq (pv 2) pe_int (nomark _))
        (pss_one (ps_ret (pe_op op_cat (pe_slL (K := M.K) (pv 1) po_none (po_some (pv 3))) (pe_slL (K := M.K) (pv 1) (po_some (pe_op op_add (pv 3) pe_int)) po_none))))
        pss_nil)
      (pss_cons (ps_if (pt_cmpR op_eq (pv 2) pe_int (nomark _))
        (pss_one (ps_ret (pe_op op_cat (pe_op op_cat (pe_slL (K := M.K) (pv 1) po_none (po_some (pv 3))) (pe_lst (pa_cons (pe_ixL (K := M.K) (pv 1) (pv 3) (fun _ _ => rfl)) (pa_cons (pe_ixL (K := M.K) (pv 1) (pv 3) (fun _ _ => rfl)) pa_nil)))) (pe_slL (K := M.K) (pv 1) (po_some (pe_op op_add (pv 3) pe_int)) po_none))))
        pss_nil)
      (pss_cons (ps_if (pt_cmpR op_eq (pv 2) pe_int (nomark _))
        (pss_one (ps_ret (pe_op op_cat (pe_op op_cat (pe_slL (K := M.K) (pv 1) po_none (po_some (pv 3))) (pe_lst (pa_cons (pe_op op_add pe_int (pe_op op_mod (pe_callTy call_int1 rfl B.int (by decide +kernel) (pa_cons (pe_ixL (K := M.K) (pv 1) (pv 3) (fun _ _ => rfl)) pa_nil)) pe_int)) (pa_cons pe_int pa_nil)))) (pe_slL (K := M.K) (pv 1) (po_some (pe_op op_add (pv 3) pe_int)) po_none))))
        pss_nil)
      (pss_cons (ps_if (pt_cmpR op_eq (pv 2) pe_int (nomark _))
        (pss_one (ps_ret (pe_op op_cat (pe_op op_cat (pe_slL (K := M.K) (pv 1) po_none (po_some (pv 3))) (pe_lst (pa_cons (pe_pm c__law_take (hr.mono (by decide)) rfl (pa_cons (pv 0) (pa_cons pe_int pa_nil))) pa_nil))) (pe_slL (K := M.K) (pv 1) (po_some (pv 3)) po_none))))
        pss_nil)
      (pss_cons (ps_set (i := 4) sc__law_spoilt.nd rfl (Or.inl rfl) (pe_ixL (K := M.K) (pe_lst (pa_cons pe_int (pa_cons pe_int (pa_cons pe_int (pa_cons pe_int (pa_cons pe_int (pa_cons pe_int (pa_cons (pe_op op_add pe_int (pe_pm c__law_take (hr.mono (by decide)) rfl (pa_cons (pv 0) (pa_cons pe_int pa_nil)))) pa_nil)))))))) (pe_pm c__law_take (hr.mono (by decide)) rfl (pa_cons (pv 0) (pa_cons pe_int pa_nil))) (fun _ _ => rfl)))
      (pss_one (ps_ret (pe_op op_cat (pe_op op_cat (pe_slL (K := M.K) (pv 1) po_none (po_some (pv 3))) (pe_lst (pa_cons (pe_op op_mod (pe_callTy call_int1 rfl B.int (by decide +kernel) (pa_cons (pe_op op_add (pe_ixL (K := M.K) (pv 1) (pv 3) (fun _ _ => rfl)) (pv 4)) pa_nil)) pe_int) pa_nil))) (pe_slL (K := M.K) (pv 1) (po_some (pe_op op_add (pv 3) pe_int)) po_none))))))))))), ?_⟩
    obtain ⟨b, o, n, os, rfl, hb, hn, hob, ho, hO, hl, q⟩ := h
    refine seq_go ?_
    refine ⟨_, rfl, b, n, 7, rfl, hb, by omega, by decide, by decide, fun H1 d e1 b1 d0 d1 => ?_⟩
    have ho1 := e1 _ _ hob ho
    repeat (first | refine ⟨_, rfl, ?_⟩ | refine ⟨_, _, rfl, rfl, ?_⟩)
    refine ⟨_, _, rfl, .inl (SqL.of ho1), ?_⟩
    repeat (first | refine ⟨_, rfl, ?_⟩ | refine ⟨_, _, rfl, rfl, ?_⟩)
    refine ⟨_, _, rfl, b, n + 1, _, rfl, b1, by omega, by split <;> omega, by rw [List.length_map]; split <;> omega, fun H2 at_ e2 b2 a0 a1 => ?_⟩
    have ho2 := e2 _ _ hob ho1
    have e02 := e1.trans e2
    obtain ⟨j, rfl⟩ := Int.eq_ofNat_of_zero_le a0
    have hj : os ≠ [] → j < os.length := fun ne => by
      have := List.length_pos_iff.mpr ne
      rw [List.length_map] at a1
      split at a1 <;> omega
    refine ⟨_, _, rfl, ?_⟩
    dsimp only
    have cutp : ∀ H3, Ex H2 H3 → ∀ q0, H3 q0 = none → Q (.ref q0) (upd H3 q0 (.lst (cutV (iv os) none (some (j : Int))))) := fun H3 e3 q0 n0 => by
      refine q.go e02 b2 (by omega) (xs := os.take j) ⟨hO.take j, by rw [List.length_take]; omega, fun c w => (w.pre).mono (by omega)⟩ _ q0 (e3.trans (Ex.new n0)) (Evl.fresh_back e3 n0) ?_
      rw [upd_same, cut_hi, iv_take]
    refine seq_go ⟨_, rfl, rfl, _, rfl, ?_⟩
    rw [dec_int']
    by_cases c0 : d = 0
    · rw [decide_eq_true c0]
      simp only [if_true]
      refine ⟨_, rfl, _, rfl, _, rfl, o, _, rfl, SqL.of ho2, fun q0 n0 => cutp _ (Ex.refl _) q0 n0⟩
    rw [decide_eq_false c0]
    simp only [Bool.false_eq_true, if_false]
    refine ⟨_, rfl, by show 0 ≤ sizeLine; decide, fun z nz => ?_⟩
    have ez := Ex.new (o := .lst ([] : List V)) nz
    refine ⟨_, _, Dp.ints (SqL.of (ez _ _ ho2)), Dp.ints (xs := []) (SqL.of upd_same), shaped_ints _, shaped_ints _, _, rfl, ?_⟩
    rw [eqv_ints]
    have ho3 := ez _ _ ho2
    have b3 := b2.ex ez
    have e03 := e02.trans (ExB.of ez)
    generalize upd H2 z (.lst ([] : List V)) = H3 at *
    by_cases c1 : os = []
    · rw [decide_eq_true c1]
      simp only [if_true]
      exact ⟨_, rfl, _, rfl, _, rfl, o, _, rfl, SqL.of ho3, fun q0 n0 => cutp _ ez q0 n0⟩
    rw [decide_eq_false c1]
    simp only [Bool.false_eq_true, if_false]
    have hj := hj c1
    refine nx_go ?_
    dsimp only
    -- what is put in the place at j
    have os1 : os = os.take j ++ [os.getD j 0] ++ os.drop (j + 1) := by
      have e : os.drop j = os.getD j 0 :: os.drop (j + 1) := by
        rw [List.drop_eq_getElem_cons hj, List.getD_eq_getElem?_getD, List.getElem?_eq_getElem hj]
        rfl
      rw [List.append_assoc, List.singleton_append, ← e, List.take_append_drop]
    have os0 : os = os.take j ++ [] ++ os.drop j := by
      rw [List.append_nil, List.take_append_drop]
    have sp1 : ∀ M : List Int, M.length ≤ 2 → Oct M → Oct (os.take j ++ M ++ os.drop (j + 1)) ∧ (os.take j ++ M ++ os.drop (j + 1)).length ≤ os.length + 1 ∧ ∀ c, Wn c os → Wn (c + 7) (os.take j ++ M ++ os.drop (j + 1)) := fun M lm oM => by
      refine ⟨((hO.take j).app oM).app (hO.drop _), ?_, fun c w => ?_⟩
      · rw [List.length_append, List.length_append, List.length_take, List.length_drop]
        omega
      · rw [os1] at w
        exact Wn.spoil w (by simp) lm
    have sp0 : ∀ M : List Int, M.length ≤ 1 → Oct M → Oct (os.take j ++ M ++ os.drop j) ∧ (os.take j ++ M ++ os.drop j).length ≤ os.length + 1 ∧ ∀ c, Wn c os → Wn (c + 7) (os.take j ++ M ++ os.drop j) := fun M lm oM => by
      refine ⟨((hO.take j).app oM).app (hO.drop _), ?_, fun c w => ?_⟩
      · rw [List.length_append, List.length_append, List.length_take, List.length_drop]
        omega
      · rw [os0] at w
        exact Wn.spoil w (by simp) (by omega)
    have hx : atI (iv os) (j : Int) = some (.int (os.getD j 0)) := iv_ix hj
    have ox : 0 ≤ os.getD j 0 ∧ os.getD j 0 ≤ 255 := hO _ (EgM.getD_mem hj)
    -- one taken out
    refine seq_go (if_go (b := decide (d = 1)) (fun Q q => ⟨_, rfl, rfl, _, rfl, by rw [dec_int']; exact q⟩) ?_)
    by_cases c : d = 1
    · rw [decide_eq_true c, if_pos rfl]
      refine ⟨_, rfl, _, rfl, _, rfl, o, _, rfl, SqL.of ho3, fun q1 n1 => ?_⟩
      rw [cut_hi, iv_take]
      have e4 := Ex.new (o := .lst (iv (os.take j))) n1
      refine ⟨_, rfl, _, rfl, _, _, rfl, rfl, _, rfl, o, _, rfl, SqL.of (e4 _ _ ho3), fun q2 n2 => ?_⟩
      rw [cut_lo1, iv_drop]
      have e5 := Ex.new (o := .lst (iv (os.drop (j + 1)))) n2
      refine ⟨q1, q2, _, _, rfl, rfl, e5 _ _ upd_same, upd_same, by rw [List.length_map, List.length_map, List.length_take, List.length_drop]; exact sz (by omega), fun q3 n3 => ?_⟩
      refine q.go e03 b3 (by omega) (xs := os.take j ++ [] ++ os.drop (j + 1)) (sp1 [] (by simp) (fun o h => by simp at h)) _ q3 ((e4.trans e5).trans (Ex.new n3)) (Evl.fresh_back (e4.trans e5) n3) ?_
      rw [upd_same, iv_app, List.append_nil]
    rw [decide_eq_false c, if_neg (by decide)]
    refine nx_go ?_
    dsimp only
    -- doubled
    refine seq_go (if_go (b := decide (d = 2)) (fun Q q => ⟨_, rfl, rfl, _, rfl, by rw [dec_int']; exact q⟩) ?_)
    by_cases c : d = 2
    · rw [decide_eq_true c, if_pos rfl]
      refine ⟨_, rfl, _, rfl, _, rfl, o, _, rfl, SqL.of ho3, fun q1 n1 => ?_⟩
      rw [cut_hi, iv_take]
      have e4 := Ex.new (o := .lst (iv (os.take j))) n1
      have ho4 := e4 _ _ ho3
      refine ⟨_, rfl, _, rfl, o, _, _, _, rfl, rfl, SqL.of ho4, hx, _, rfl, _, rfl, o, _, _, _, rfl, rfl, SqL.of ho4, hx, by show 2 ≤ sizeLine; decide, fun q2 n2 => ?_⟩
      have e5 := Ex.new (o := .lst (iv [os.getD j 0, os.getD j 0])) n2
      have e45 := e4.trans e5
      refine cats_go (S := fun H Q => tSl (rSlL M.K) (tVar 1) _ _ _ H Q) (ys := [os.getD j 0, os.getD j 0]) (e5 _ _ upd_same) upd_same ?_ (fun H' e' Q' k => ⟨_, rfl, _, rfl, _, _, rfl, rfl, _, rfl, o, _, rfl, SqL.of (e' _ _ (e45 _ _ ho3)), fun q nq => by rw [cut_lo1, iv_drop]; exact k q nq⟩) (q.go (e03.trans (ExB.of e45)) (b3.ex e45) (by omega) (sp1 [os.getD j 0, os.getD j 0] (by simp) (oct_two ox ox)))
      rw [List.length_take, List.length_drop]
      simp
      omega
    rw [decide_eq_false c, if_neg (by decide)]
    refine nx_go ?_
    dsimp only
    -- a digit 0 too much
    refine seq_go (if_go (b := decide (d = 3)) (fun Q q => ⟨_, rfl, rfl, _, rfl, by rw [dec_int']; exact q⟩) ?_)
    by_cases c : d = 3
    · rw [decide_eq_true c, if_pos rfl]
      refine ⟨_, rfl, _, rfl, _, rfl, o, _, rfl, SqL.of ho3, fun q1 n1 => ?_⟩
      rw [cut_hi, iv_take]
      have e4 := Ex.new (o := .lst (iv (os.take j))) n1
      have ho4 := e4 _ _ ho3
      refine ⟨_, rfl, _, rfl, o, _, _, _, rfl, rfl, SqL.of ho4, hx, .inl ⟨_, rfl, _, _, rfl, rfl, by show (0 : Int) < 128; decide, _, _, rfl, rfl, by show 2 ≤ sizeLine; decide, fun q2 n2 => ?_⟩⟩
      have e5 := Ex.new (o := .lst (iv [128 + os.getD j 0 % 128, 0])) n2
      have e45 := e4.trans e5
      refine cats_go (S := fun H Q => tSl (rSlL M.K) (tVar 1) _ _ _ H Q) (ys := [128 + os.getD j 0 % 128, 0]) (e5 _ _ upd_same) upd_same ?_ (fun H' e' Q' k => ⟨_, rfl, _, rfl, _, _, rfl, rfl, _, rfl, o, _, rfl, SqL.of (e' _ _ (e45 _ _ ho3)), fun q nq => by rw [cut_lo1, iv_drop]; exact k q nq⟩) (q.go (e03.trans (ExB.of e45)) (b3.ex e45) (by omega) (sp1 [128 + os.getD j 0 % 128, 0] (by simp) (oct_two (by omega) (by omega))))
      rw [List.length_take, List.length_drop]
      simp
      omega
    rw [decide_eq_false c, if_neg (by decide)]
    refine nx_go ?_
    dsimp only
    -- put in
    refine seq_go (if_go (b := decide (d = 4)) (fun Q q => ⟨_, rfl, rfl, _, rfl, by rw [dec_int']; exact q⟩) ?_)
    by_cases c : d = 4
    · rw [decide_eq_true c, if_pos rfl]
      refine ⟨_, rfl, _, rfl, _, rfl, o, _, rfl, SqL.of ho3, fun q1 n1 => ?_⟩
      rw [cut_hi, iv_take]
      have e4 := Ex.new (o := .lst (iv (os.take j))) n1
      have ho4 := e4 _ _ ho3
      have n1b := b3.ne n1
      refine ⟨_, rfl, b, n + 2, 5, rfl, b3.new n1, by omega, by decide, by decide, fun H5 y e5 b5 y0 y1 => ?_⟩
      have ho5 := e5 _ _ hob ho4
      have h1 := e5 _ _ n1b upd_same
      refine ⟨by show 1 ≤ sizeLine; decide, fun q2 n2 => ?_⟩
      have e6 := Ex.new (o := .lst (iv [y])) n2
      refine cats_go (S := fun H Q => tSl (rSlL M.K) (tVar 1) _ _ _ H Q) (ys := [y]) (e6 _ _ h1) upd_same ?_ (fun H' e' Q' k => ⟨_, rfl, _, rfl, _, rfl, o, _, rfl, SqL.of (e' _ _ (e6 _ _ ho5)), fun q nq => by rw [cut_lo, iv_drop]; exact k q nq⟩) (q.go (((e03.trans (ExB.of e4)).trans e5).trans (ExB.of e6)) (b5.ex e6) (by omega) (sp0 [y] (by simp) (oct_one (by omega))))
      rw [List.length_take, List.length_drop]
      simp
      omega
    rw [decide_eq_false c, if_neg (by decide)]
    refine nx_go ?_
    dsimp only
    -- changed
    refine seq_go (asg_go ?_)
    repeat (first | refine ⟨_, rfl, ?_⟩ | refine ⟨_, _, rfl, rfl, ?_⟩)
    refine ⟨b, n + 2, 255, rfl, b3, by omega, by decide, by decide, fun H4 y e4 b4 y0 y1 => ?_⟩
    repeat (first | refine ⟨_, rfl, ?_⟩ | refine ⟨_, _, rfl, rfl, ?_⟩)
    refine ⟨by show 7 ≤ sizeLine; decide, fun p np => ⟨_, rfl, pick_go [1, 255, 128, 2, 254, 64, 1 + y] b4 (by omega) np rfl (by simp) (by simp) fun H5 v e5 b5 hv => ?_⟩⟩
    have ho5 := e5 _ _ hob (e4 _ _ hob ho3)
    have e05 := (e03.trans e4).trans e5
    dsimp only [gName]
    refine ⟨_, rfl, _, rfl, _, rfl, o, _, rfl, SqL.of ho5, fun q1 n1 => ?_⟩
    rw [cut_hi, iv_take]
    have e6 := Ex.new (o := .lst (iv (os.take j))) n1
    have ho6 := e6 _ _ ho5
    refine ⟨_, rfl, _, rfl, o, _, _, _, rfl, rfl, SqL.of ho6, hx, _, rfl, _, _, rfl, rfl, .inl ⟨_, rfl, _, _, rfl, rfl, by show (0 : Int) < 256; decide, by show 1 ≤ sizeLine; decide, fun q2 n2 => ?_⟩⟩
    have e7 := Ex.new (o := .lst (iv [(os.getD j 0 + v) % 256])) n2
    have e67 := e6.trans e7
    refine cats_go (S := fun H Q => tSl (rSlL M.K) (tVar 1) _ _ _ H Q) (ys := [(os.getD j 0 + v) % 256]) (e7 _ _ upd_same) upd_same ?_ (fun H' e' Q' k => ⟨_, rfl, _, rfl, _, _, rfl, rfl, _, rfl, o, _, rfl, SqL.of (e' _ _ (e67 _ _ ho5)), fun q nq => by rw [cut_lo1, iv_drop]; exact k q nq⟩) (q.go (e05.trans (ExB.of e67)) (b5.ex e67) (by omega) (sp1 [(os.getD j 0 + v) % 256] (by simp) (oct_one (by omega))))
    rw [List.length_take, List.length_drop]
    simp
    omega
end L2.EG

set_option Elab.async false
set_option linter.all false
set_option maxRecDepth 100000
set_option maxHeartbeats 4000000
/-! The law's defs, part fifteen: drawing freely. -/
namespace L2.EG
open PySem PySem.Spec PyProof.Rows EgM
open Evl (Ex ex_l ex_t)

def OcP (x : Int) : Prop := 0 ≤ x ∧ x ≤ 255
def spLFree : Sp := fun vs H Q _ => ∃ (b : Addr) (n : Nat), vs = [.ref b] ∧ Bx H b n ∧ n < 800000 ∧ retB b (n + 60) H Q fun xs => Oct xs ∧ xs.length ≤ 10
-- slots of _law_free: 0 _law_box_here*, 1 _law_many, 2 _law_found, 3 _law_k
theorem sc__law_free : FnScope ["_law_box_here", "_law_many", "_law_found", "_law_k"] ["_law_box_here"] (defScope (top 78)) := ⟨rfl, rfl, rfl, by decide +kernel, rfl, by decide +kernel, by decide +kernel⟩
theorem ok__law_free {M : Md} (B : Bn M) (c__law_take : M.pm "_law_take" 1 ["_law_box_here", "_law_many"] spLTake) (F : Fd M "_law_free" (top 78)) : M.pm "_law_free" 2 ["_law_box_here"] (spLFree) := by
  refine F.ok sc__law_free ?len (fun _ _ _ _ _ _ us hl => match us, hl with | [_], _ => rfl) (fun f cdv A outer s H vs Q E hr h => ?body)
  case len =>
    rintro _ _ _ _ ⟨_, _, rfl, _⟩
    rfl
  case body =>
    refine ⟨_, (pss_cons (ps_set (i := 1) sc__law_free.nd rfl (Or.inl rfl) (pe_pm c__law_take (hr.mono (by decide)) rfl (pa_cons (pv 0) (pa_cons pe_int pa_nil))))
      (pss_cons (ps_set (i := 2) sc__law_free.nd rfl (Or.inl rfl) (pe_op op_cat (pe_op op_cat (pe_lst (pa_cons (pv 1) pa_nil)) (pe_lc (own := [("_law_k", 3)]) (g := (gName 3)) (tt := tYes) rfl sc__law_free.nd (pi_range1 rfl B.range (pa_cons (pv 1) pa_nil)) (blkOk_by (N := ["_law_box_here", "_law_many", "_law_found", "_law_k"]) (sc := defScope (top 78)) (by decide +kernel)) (fun _ _ _ _ _ => (pg_name (i := 3) sc__law_free.nd rfl (Or.inl rfl))) (fun _ _ _ _ _ => pts_nil) (fun _ _ _ _ _ => (pe_pm c__law_take (hr.mono (by decide)) rfl (pa_cons (pv 0) (pa_cons pe_int pa_nil)))))) (pe_lst (pa_cons (pe_pm c__law_take (hr.mono (by decide)) rfl (pa_cons (pv 0) (pa_cons pe_int pa_nil))) pa_nil))))
      (pss_one (ps_ret (pe_op op_cat (pv 2) (pe_lc (own := [("_law_k", 3)]) (g := (gName 3)) (tt := tYes) rfl sc__law_free.nd (pi_range1 rfl B.range (pa_cons (pe_pm c__law_take (hr.mono (by decide)) rfl (pa_cons (pv 0) (pa_cons pe_int pa_nil))) pa_nil)) (blkOk_by (N := ["_law_box_here", "_law_many", "_law_found", "_law_k"]) (sc := defScope (top 78)) (by decide +kernel)) (fun _ _ _ _ _ => (pg_name (i := 3) sc__law_free.nd rfl (Or.inl rfl))) (fun _ _ _ _ _ => pts_nil) (fun _ _ _ _ _ => (pe_ixL (K := M.K) (pe_lst (pa_cons pe_int (pa_cons pe_int (pa_cons pe_int (pa_cons pe_int (pa_cons pe_int (pa_cons pe_int pa_nil))))))) (pe_pm c__law_take (hr.mono (by decide)) rfl (pa_cons (pv 0) (pa_cons pe_int pa_nil))) (fun _ _ => rfl))))))))), ?_⟩
    obtain ⟨b, n, rfl, hb, hn, q⟩ := h
    refine seq_go (asg_go ?_)
    refine ⟨_, rfl, b, n, 4, rfl, hb, by omega, by decide, by decide, fun H1 m e1 b1 m0 m1 => ?_⟩
    obtain ⟨m, rfl⟩ := Int.eq_ofNat_of_zero_le m0
    dsimp only [gName]
    refine seq_go (asg_go ?_)
    refine ⟨_, rfl, by show 1 ≤ sizeLine; decide, fun z nz => ?_⟩
    have bz := b1.new (u := .lst [V.int (m : Int)]) nz
    have hz : (upd H1 z (.lst [V.int (m : Int)])) z = some (.lst (iv [(m : Int)])) := upd_same
    have ez : ExB b H (upd H1 z (.lst [V.int (m : Int)])) := e1.trans (ExB.of (Ex.new nz))
    have nzb := b1.ne nz
    generalize upd H1 z (.lst [V.int (m : Int)]) = H2 at *
    refine ⟨_, rfl, _, rfl, by omega, by omega, fun D nD => ?_⟩
    have neD := bz.ne nD
    have nzD : z ≠ D := fun c => by rw [c, nD] at hz; cases hz
    refine lc_range (lo := 0) (n := m) (fun i H' => GI b D (n + 1) OcP H i H' ∧ H' z = some (.lst (iv [(m : Int)]))) ⟨GI.new ez bz nD, by rw [upd_ne nzD]; exact hz⟩ ?_ ?_
    · rintro i H8 hi ⟨g, hz8⟩
      refine ⟨rfl, ?_⟩
      simp only [tYes, if_true]
      refine ⟨_, rfl, b, _, 4, rfl, g.2.1, by omega, by decide, by decide, fun H9 y e9 b9 y0 y1 => ?_⟩
      obtain ⟨acc, a1, a2, a3⟩ := g.step (ez.back0 bz nD) neD (by omega) e9 (b9.mono (by omega)) (v := y) ⟨by omega, by omega⟩
      exact ⟨acc, a1, a2, a3, by rw [upd_ne nzD]; exact e9 _ _ nzb hz8⟩
    rintro H3 ⟨⟨e3, b3, acc, h3, la, ha⟩, hz3⟩
    have oa : Oct acc := ha
    refine ⟨z, D, _, _, rfl, rfl, hz3, h3, by rw [List.length_map, List.length_map]; exact sz (by simp; omega), fun q1 n1 => ?_⟩
    have e4 := Ex.new (o := .lst (iv [(m : Int)] ++ iv acc)) n1
    have h4 : (upd H3 q1 (.lst (iv [(m : Int)] ++ iv acc))) q1 = some (.lst (iv ((m : Int) :: acc))) := by rw [upd_same, iv_app]; rfl
    have nb4 := b3.ne n1
    have b4 := b3.ex e4
    have e04 := e3.trans (ExB.of e4)
    generalize upd H3 q1 (.lst (iv [(m : Int)] ++ iv acc)) = H4 at *
    refine ⟨_, rfl, b, _, 5, rfl, b4, by omega, by decide, by decide, fun H5 y e5 b5 y0 y1 => ?_⟩
    have h5 := e5 _ _ nb4 h4
    refine ⟨by show 1 ≤ sizeLine; decide, fun q2 n2 => ?_⟩
    have e6 := Ex.new (o := .lst (iv [y])) n2
    refine ⟨q1, q2, _, _, rfl, rfl, e6 _ _ h5, upd_same, by rw [List.length_map]; exact sz (by simp; omega), fun q3 n3 => ?_⟩
    have b6 := b5.ex e6
    have nb6 := b6.ne n3
    have b7 := b6.new (u := .lst (iv ((m : Int) :: acc) ++ iv [y])) n3
    have e07 : ExB b H (upd (upd H5 q2 (.lst (iv [y]))) q3 (.lst (iv ((m : Int) :: acc) ++ iv [y]))) := ((e04.trans e5).trans (ExB.of e6)).trans (ExB.of (Ex.new n3))
    have h7 : (upd (upd H5 q2 (.lst (iv [y]))) q3 (.lst (iv ((m : Int) :: acc) ++ iv [y]))) q3 = some (.lst (iv ((m : Int) :: acc ++ [y]))) := by rw [upd_same, iv_app]
    have o1 : Oct ((m : Int) :: acc ++ [y]) := ((oct_one (a := (m : Int)) (by omega)).app oa).app (oct_one (by omega))
    have l1 : ((m : Int) :: acc ++ [y]).length ≤ 5 := by
      rw [List.length_append, List.length_cons, la]
      simp
      omega
    generalize (m : Int) :: acc ++ [y] = xs at *
    show gName 2 (.ref q3) _ (upd (upd H5 q2 (.lst (iv [y]))) q3 (.lst (iv ((m : Int) :: acc) ++ iv [y]))) _
    generalize upd (upd H5 q2 (.lst (iv [y]))) q3 (.lst (iv ((m : Int) :: acc) ++ iv [y])) = H7 at *
    dsimp only [gName]
    refine ⟨_, rfl, _, rfl, b, _, 6, rfl, b7, by omega, by decide, by decide, fun H8 k e8 b8 k0 k1 => ?_⟩
    obtain ⟨k, rfl⟩ := Int.eq_ofNat_of_zero_le k0
    have h8 := e8 _ _ nb6 h7
    have e08 := e07.trans e8
    refine ⟨_, rfl, by omega, by omega, fun D2 nD2 => ?_⟩
    have neD2 := b8.ne nD2
    have nqD : q3 ≠ D2 := fun c => by rw [c, nD2] at h8; cases h8
    refine lc_range (lo := 0) (n := k) (fun i H' => GI b D2 _ OcP H i H' ∧ H' q3 = some (.lst (iv xs))) ⟨GI.new e08 b8 nD2, by rw [upd_ne nqD]; exact h8⟩ ?_ ?_
    · rintro i H8 hi ⟨g, hz8⟩
      refine ⟨rfl, ?_⟩
      simp only [tYes, if_true]
      refine ⟨by show 6 ≤ sizeLine; decide, fun p np => ⟨_, rfl, pick_go [0, 1, 2, 3, 128, 4] g.2.1 (by omega) np rfl (by decide) (by decide) fun H9 v e9 b9 hv => ?_⟩⟩
      obtain ⟨acc, a1, a2, a3⟩ := g.step (e08.back0 b8 nD2) neD2 (by omega) e9 (b9.mono (by omega)) (v := v) (by simp at hv; unfold OcP; omega)
      exact ⟨acc, a1, a2, a3, by rw [upd_ne nqD]; exact e9 _ _ nb6 hz8⟩
    rintro H9 ⟨⟨e9, b9, ac, h9, lc, hc⟩, hq9⟩
    refine ⟨q3, D2, _, _, rfl, rfl, hq9, h9, by rw [List.length_map, List.length_map]; exact sz (by omega), fun t nt => ?_⟩
    refine q _ t (xs ++ ac) (e9.trans (ExB.of (Ex.new nt))) ((b9.new nt).mono (by omega)) (b9.ne nt) (by rw [upd_same, iv_app]) ⟨o1.app hc, by rw [List.length_append]; omega⟩
end L2.EG

set_option Elab.async false
set_option linter.all false
set_option maxRecDepth 100000
set_option maxHeartbeats 4000000
/-! The law's defs, part sixteen: rows of octets. -/
namespace L2.EG
open PySem PySem.Spec PyProof.Rows EgM
open Evl (Ex ex_l ex_t)

/-- a list of numbers at p, not the box -/
def Lv (b : Addr) (H : Hp) (p : Addr) (xs : List Int) : Prop := p ≠ b ∧ H p = some (.lst (iv xs))
section
variable {b p q : Addr} {H H' : Hp} {xs ys : List Int} {n m : Nat} {Q : VK} {G : List Int → Prop}
theorem Lv.y (h : Lv b H p xs) (e : ExB b H H') : Lv b H' p xs := ⟨h.1, e _ _ h.1 h.2⟩
theorem Lv.x (h : Lv b H p xs) (e : Ex H H') : Lv b H' p xs := ⟨h.1, e _ _ h.2⟩
theorem Lv.new (hb : Bx H b n) (np : H p = none) : Lv b (upd H p (.lst (iv xs))) p xs := ⟨hb.ne np, upd_same⟩
theorem Lv.sq {K : PySem.W.Frag} (h : Lv b H p xs) : SqL K H p (iv xs) := SqL.of h.2
theorem cat_go (hb : Bx H b n) (hp : Lv b H p xs) (hq : Lv b H q ys) (l : xs.length + ys.length ≤ 1000000) (k : ∀ H' r, Ex H H' → Lv b H' r (xs ++ ys) → Q (.ref r) H') : rCat (.ref p) (.ref q) H Q :=
  ⟨p, q, _, _, rfl, rfl, hp.2, hq.2, by rw [List.length_map, List.length_map]; exact sz l, fun t nt => k _ t (Ex.new nt) (by rw [iv_app]; exact Lv.new hb nt)⟩
theorem retL_lv (hb : Bx H b n) (k : ∀ H' p, Ex H H' → Lv b H' p xs → Q (.ref p) H') : retL H Q xs := fun H' p e np hp => k H' p e ⟨hb.ne np, hp⟩
theorem retB_lv (k : ∀ H' p xs, ExB b H H' → Bx H' b n → Lv b H' p xs → G xs → Q (.ref p) H') : retB b n H Q G := fun H' p xs e hb ne hp g => k H' p xs e hb ⟨ne, hp⟩ g
theorem retB.fin (q : retB b n H Q G) (e : ExB b H H') (hb : Bx H' b m) (l : m ≤ n) (h : Lv b H' p xs) (g : G xs) : Q (.ref p) H' := q H' p xs e (hb.mono l) h.1 h.2 g
end
theorem ok_cl {os : List Int} {k : Nat} (h : Cl k os) (l : k ≤ 400) : OsOk os := ok_of_wn h.2.1 (Nat.le_trans h.2.2 l) h.1.win (by decide)
def spLRow : Sp := fun vs H Q _ => ∃ (b : Addr) (n : Nat), vs = [.ref b] ∧ Bx H b n ∧ n < 700000 ∧ retB b (n + 400) H Q OsOk
-- slots of _law_octets: 0 _law_box_here, 1 _law_pick, 2 _law_many, 3 _law_times_here, 4 _law_values_here, 5 _law_told_here, 6 _law_packed_here, 7 _law_way, 8 _law_gap, 9 _law_less, 10 _law_octets_here, 11 _law_turn
theorem sc__law_octets : FnScope ["_law_box_here", "_law_pick", "_law_many", "_law_times_here", "_law_values_here", "_law_told_here", "_law_packed_here", "_law_way", "_law_gap", "_law_less", "_law_octets_here", "_law_turn"] ["_law_box_here"] (defScope (top 79)) := ⟨rfl, rfl, rfl, by decide +kernel, rfl, by decide +kernel, by decide +kernel⟩
theorem ok__law_octets {M : Md} (B : Bn M) (c__law_take : M.pm "_law_take" 1 ["_law_box_here", "_law_many"] spLTake) (c__law_times : M.pm "_law_times" 2 ["_law_box_here", "_law_many"] spLTm) (c__law_values : M.pm "_law_values" 3 ["_law_box_here", "_law_many"] spLVl) (c__law_number : M.pm "_law_number" 1 ["_law_count"] spLNum) (c__law_signed : M.pm "_law_signed" 2 ["_law_value"] spLSgn) (c__law_times_told : M.pm "_law_times_told" 3 ["_law_times_here"] (spLTimes M.K)) (c__law_told : M.pm "_law_told" 4 ["_law_values_here", "_law_kind"] (spLTold M.K)) (c__law_packed : M.pm "_law_packed" 5 ["_law_values_here"] (spLPacked M.K)) (c__law_spoilt : M.pm "_law_spoilt" 2 ["_law_box_here", "_law_octets_here"] (spLSpoilt M.K)) (c__law_free : M.pm "_law_free" 2 ["_law_box_here"] spLFree) (F : Fd M "_law_octets" (top 79)) : M.pm "_law_octets" 6 ["_law_box_here"] (spLRow) := by
  refine F.ok sc__law_octets ?len (fun _ _ _ _ _ _ us hl => match us, hl with | [_], _ => rfl) (fun f cdv A outer s H vs Q E hr h => ?body)
  case len =>
    rintro _ _ _ _ ⟨_, _, rfl, _⟩
    rfl
  case body =>
    refine ⟨_, (pss_cons (ps_par (i := 1) (j := 2) rfl sc__law_octets.nd rfl rfl (by decide) rfl rfl (pa_cons (pe_pm c__law_take (hr.mono (by decide)) rfl (pa_cons (pv 0) (pa_cons pe_int pa_nil))) (pa_cons (pe_ixL (K := M.K) (pe_lst (pa_cons pe_int (pa_cons pe_int (pa_cons pe_int (pa_cons pe_int (pa_cons pe_int (pa_cons pe_int pa_nil))))))) (pe_pm c__law_take (hr.mono (by decide)) rfl (pa_cons (pv 0) (pa_cons pe_int pa_nil))) (fun _ _ => rfl)) pa_nil)) (by rfl))
      (pss_cons (ps_par (i := 3) (j := 4) rfl sc__law_octets.nd rfl rfl (by decide) rfl rfl (pa_cons (pe_pm c__law_times (hr.mono (by decide)) rfl (pa_cons (pv 0) (pa_cons (pv 2) pa_nil))) (pa_cons (pe_pm c__law_values (hr.mono (by decide)) rfl (pa_cons (pv 0) (pa_cons (pv 2) pa_nil))) pa_nil)) (by rfl))
      (pss_cons (ps_par (i := 5) (j := 6) rfl sc__law_octets.nd rfl rfl (by decide) rfl rfl (pa_cons (pe_pm c__law_times_told (hr.mono (by decide)) rfl (pa_cons (pv 3) pa_nil)) (pa_cons (pe_pm c__law_packed (hr.mono (by decide)) rfl (pa_cons (pv 4) pa_nil)) pa_nil)) (by rfl))
      (pss_cons (ps_if (pt_cmpR op_lt (pv 1) pe_int (nomark _))
        (pss_one (ps_ret (pe_op op_cat (pv 5) (pv 6))))
        pss_nil)
      (pss_cons (ps_if (pt_cmpR op_lt (pv 1) pe_int (nomark _))
        (pss_cons (ps_set (i := 7) sc__law_octets.nd rfl (Or.inl rfl) (pe_pm c__law_take (hr.mono (by decide)) rfl (pa_cons (pv 0) (pa_cons pe_int pa_nil))))
        (pss_one (ps_ret (pe_op op_cat (pe_op op_cat (pv 5) (pe_lst (pa_cons (pv 7) pa_nil))) (pe_pm c__law_told (hr.mono (by decide)) rfl (pa_cons (pv 4) (pa_cons (pv 7) pa_nil)))))))
        pss_nil)
      (pss_cons (ps_if (pt_cmpR op_eq (pv 1) pe_int (nomark _))
        (pss_one (ps_ret (pe_op op_cat (pv 5) (pe_pm c__law_packed (hr.mono (by decide)) rfl (pa_cons (pe_pm c__law_values (hr.mono (by decide)) rfl (pa_cons (pv 0) (pa_cons (pe_ixL (K := M.K) (pe_lst (pa_cons (pe_op op_add (pv 2) pe_int) (pa_cons (pe_callB (call_max2 rfl) rfl B.max (by decide +kernel) (pa_cons pe_int (pa_cons (pe_op op_sub (pv 2) pe_int) pa_nil))) pa_nil))) (pe_pm c__law_take (hr.mono (by decide)) rfl (pa_cons (pv 0) (pa_cons pe_int pa_nil))) (fun _ _ => rfl)) pa_nil))) pa_nil)))))
        pss_nil)
      (pss_cons (ps_if (pt_cmpR op_eq (pv 1) pe_int (nomark _))
        (pss_one (ps_ret (pe_op op_cat (pe_op op_cat (pv 5) (pv 6)) (pe_ixL (K := M.K) (pe_lst (pa_cons (pe_lst (pa_cons pe_int pa_nil)) (pa_cons (pe_lst (pa_cons pe_int pa_nil)) (pa_cons (pe_lst (pa_cons pe_int (pa_cons pe_int pa_nil))) (pa_cons (pe_op op_cat (pv 5) (pv 6)) pa_nil))))) (pe_pm c__law_take (hr.mono (by decide)) rfl (pa_cons (pv 0) (pa_cons pe_int pa_nil))) (fun _ _ => rfl)))))
        pss_nil)
      (pss_cons (ps_if (pt_cmpR op_eq (pv 1) pe_int (nomark _))
        (pss_cons (ps_par (i := 8) (j := 9) rfl sc__law_octets.nd rfl rfl (by decide) rfl rfl (pa_cons (pe_op op_add pe_int (pe_pm c__law_take (hr.mono (by decide)) rfl (pa_cons (pv 0) (pa_cons pe_int pa_nil)))) (pa_cons (pe_ixL (K := M.K) (pe_lst (pa_cons pe_int (pa_cons pe_int (pa_cons (pe_un un_neg pe_int) (pa_cons (pe_un un_neg pe_int) pa_nil))))) (pe_pm c__law_take (hr.mono (by decide)) rfl (pa_cons (pv 0) (pa_cons pe_int pa_nil))) (fun _ _ => rfl)) pa_nil)) (by rfl))
        (pss_one (ps_ret (pe_op op_cat (pe_op op_cat (pe_op op_cat (pe_lst (pa_cons pe_int (pa_cons (pe_pm c__law_take (hr.mono (by decide)) rfl (pa_cons (pv 0) (pa_cons pe_int pa_nil))) pa_nil))) (pe_pm c__law_number (hr.mono (by decide)) rfl (pa_cons (pe_op op_sub (pv 8) pe_int) pa_nil))) (pe_pm c__law_signed (hr.mono (by decide)) rfl (pa_cons (pe_op op_sub (pv 9) (pv 8)) pa_nil))) (pe_pm c__law_packed (hr.mono (by decide)) rfl (pa_cons (pe_lst (pa_cons pe_int (pa_cons pe_int (pa_cons pe_int pa_nil)))) pa_nil))))))
        pss_nil)
      (pss_cons (ps_if (pt_cmpR op_lt (pv 1) pe_int (nomark _))
        (pss_one (ps_ret (pe_pm c__law_free (hr.mono (by decide)) rfl (pa_cons (pv 0) pa_nil))))
        pss_nil)
      (pss_cons (ps_set (i := 10) sc__law_octets.nd rfl (Or.inl rfl) (pe_op op_cat (pv 5) (pv 6)))
      (pss_cons (ps_for PassesOwn.never rfl (pi_range1 rfl B.range (pa_cons (pe_op op_sub (pv 1) pe_int) pa_nil)) (pg_name (i := 11) sc__law_octets.nd rfl (Or.inl rfl))
        (pss_one (ps_set (i := 10) sc__law_octets.nd rfl (Or.inl rfl) (pe_pm c__law_spoilt (hr.mono (by decide)) rfl (pa_cons (pv 0) (pa_cons (pv 10) pa_nil))))))
      (pss_one (ps_ret (pv 10)))))))))))))), ?_⟩
    obtain ⟨b, n, rfl, hb, hn, q⟩ := h
    refine seq_go ?_
    refine ⟨_, rfl, b, n, 12, rfl, hb, by omega, by decide, by decide, fun H1 d e1 b1 d0 d1 => ?_⟩
    refine ⟨by show 6 ≤ sizeLine; decide, fun z nz => ⟨_, rfl, pick_go [2, 0, 1, 3, 5, 12] b1 (by omega) nz rfl (by decide) (by decide) fun H2 m e2 b2 hm => ?_⟩⟩
    have hm' : 0 ≤ m ∧ m ≤ 12 := by
      simp at hm
      omega
    obtain ⟨m, rfl⟩ := Int.eq_ofNat_of_zero_le hm'.1
    have hm12 : m ≤ 12 := by omega
    refine ⟨_, _, rfl, ?_⟩
    dsimp only
    have e02 := e1.trans e2
    -- times, values
    refine seq_go ?_
    refine ⟨_, rfl, _, rfl, b, n + 2, m, rfl, b2, by omega, hm12, retB_lv fun H3 q1 ts e3 b3 l1 tl => ?_⟩
    refine ⟨_, rfl, _, rfl, b, n + 62, m, rfl, b3, by omega, by omega, retB_lv fun H4 q2 xs e4 b4 l2 vl => ?_⟩
    have l1 := l1.y e4
    refine ⟨_, _, rfl, ?_⟩
    dsimp only
    refine seq_go ?_
    refine ⟨_, rfl, q1, ts, rfl, l1.sq, tl.tml (by omega), retL_lv b4 fun H5 p1 e5 k1 => ?_⟩
    have l2 := l2.x e5
    have b5 := b4.ex e5
    refine ⟨_, rfl, q2, xs, rfl, l2.sq, vl.sml (by omega), retL_lv b5 fun H6 p2 e6 k2 => ?_⟩
    have k1 := k1.x e6
    have l2 := l2.x e6
    have b6 := b5.ex e6
    have e06 : ExB b H H6 := ((e02.trans e3).trans e4).trans (ExB.of (e5.trans e6))
    have ct := times_cl tl hm12
    have cp := packed_cl vl (by omega)
    have ctp := ct.app cp
    refine ⟨_, _, rfl, ?_⟩
    dsimp only
    have lc1 := ct.2.2
    have lc2 := cp.2.2
    -- a pack
    refine seq_go (if_go (b := decide (d < 2)) (fun Q q => ⟨_, rfl, _, _, rfl, rfl, _, rfl, q⟩) ?_)
    by_cases c : d < 2
    · rw [decide_eq_true c, if_pos rfl]
      exact ⟨_, rfl, _, rfl, cat_go b6 k1 k2 (by omega) fun H7 r e7 lr => q.fin (e06.trans (ExB.of e7)) (b6.ex e7) (by omega) lr (ok_cl ctp (by decide))⟩
    rw [decide_eq_false c, if_neg (by decide)]
    refine nx_go ?_
    dsimp only
    -- told in some way
    refine seq_go (if_go (b := decide (d < 4)) (fun Q q => ⟨_, rfl, _, _, rfl, rfl, _, rfl, q⟩) ?_)
    by_cases c : d < 4
    · rw [decide_eq_true c, if_pos rfl]
      refine seq_go (asg_go ⟨_, rfl, b, n + 122, 4, rfl, b6, by omega, by decide, by decide, fun H7 w e7 b7 w0 w1 => ?_⟩)
      dsimp only [gName]
      obtain ⟨w, rfl⟩ := Int.eq_ofNat_of_zero_le w0
      refine ⟨_, rfl, _, rfl, by show 1 ≤ sizeLine; decide, fun z2 n2 => ?_⟩
      have e8 := Ex.new (o := .lst (iv [(w : Int)])) n2
      have k1 := (k1.y e7).x e8
      have b8 := b7.ex e8
      have l2 := (l2.y e7).x e8
      refine cat_go b8 k1 (Lv.new (xs := [(w : Int)]) b7 n2) (by simp; omega) fun H9 r e9 lr => ?_
      have b9 := b8.ex e9
      have l2 := l2.x e9
      refine ⟨_, rfl, _, rfl, q2, w, xs, rfl, by omega, l2.sq, vl.sml (by omega), retL_lv b9 fun Ha p3 ea k3 => ?_⟩
      have cw := told_cl vl (by omega) (w := w)
      have ba := b9.ex ea
      have cl3 := cw.2.2
      refine cat_go ba (lr.x ea) k3 (by rw [List.length_append]; simp; omega) fun Hb s eb ls => ?_
      have cx := (ct.app (Cl.low (i := (w : Int)) (by omega) (by omega))).app cw
      exact q.fin ((((e06.trans e7).trans (ExB.of e8)).trans (ExB.of (e9.trans ea))).trans (ExB.of eb)) (ba.ex eb) (by omega) ls (ok_cl cx (by decide))
    rw [decide_eq_false c, if_neg (by decide)]
    refine nx_go ?_
    dsimp only
    -- of another number
    refine seq_go (if_go (b := decide (d = 4)) (fun Q q => ⟨_, rfl, rfl, _, rfl, by rw [dec_int']; exact q⟩) ?_)
    by_cases c : d = 4
    · rw [decide_eq_true c, if_pos rfl]
      refine ⟨_, rfl, _, rfl, ?_⟩
      repeat (first | refine ⟨_, rfl, ?_⟩ | refine ⟨_, _, rfl, rfl, ?_⟩)
      refine ⟨_, _, rfl, by show 2 ≤ sizeLine; decide, fun z nz => ⟨_, rfl, pick_go [(m : Int) + 1, if (m : Int) - 1 > 0 then (m : Int) - 1 else 0] b6 (by omega) nz rfl (by simp) (by simp) fun H7 v e7 b7 hv => ?_⟩⟩
      have hv' : 0 ≤ v ∧ v ≤ 13 := by
        simp only [List.mem_cons, List.not_mem_nil, or_false] at hv
        rcases hv with rfl | rfl
        · omega
        · split <;> omega
      obtain ⟨v, rfl⟩ := Int.eq_ofNat_of_zero_le hv'.1
      refine ⟨b, n + 123, v, rfl, b7, by omega, by omega, retB_lv fun H8 q3 ys e8 b8 l3 vl3 => ?_⟩
      refine ⟨q3, ys, rfl, l3.sq, vl3.sml (by omega), retL_lv b8 fun H9 p3 e9 k3 => ?_⟩
      have b9 := b8.ex e9
      have cp3 := packed_cl vl3 (by omega)
      have := cp3.2.2
      exact cat_go b9 (((k1.y e7).y e8).x e9) k3 (by omega) fun Ha r ea lr => q.fin ((((e06.trans e7).trans e8).trans (ExB.of e9)).trans (ExB.of ea)) (b9.ex ea) (by omega) lr (ok_cl (ct.app cp3) (by decide))
    rw [decide_eq_false c, if_neg (by decide)]
    refine nx_go ?_
    dsimp only
    -- with octets behind
    refine seq_go (if_go (b := decide (d = 5)) (fun Q q => ⟨_, rfl, rfl, _, rfl, by rw [dec_int']; exact q⟩) ?_)
    by_cases c : d = 5
    · rw [decide_eq_true c, if_pos rfl]
      refine ⟨_, rfl, _, rfl, cat_go b6 k1 k2 (by omega) fun H7 r e7 lr => ?_⟩
      have b7 := b6.ex e7
      refine ⟨by show 1 ≤ sizeLine; decide, fun z1 n1 => ?_⟩
      have f1 := Ex.new (o := .lst (iv [0])) n1
      have z1v : Lv b _ z1 [0] := Lv.new (xs := [0]) b7 n1
      have b8 := b7.ex f1
      refine ⟨by show 1 ≤ sizeLine; decide, fun z2 n2 => ?_⟩
      have f2 := Ex.new (o := .lst (iv [255])) n2
      have z2v : Lv b _ z2 [255] := Lv.new (xs := [255]) b8 n2
      have b9 := b8.ex f2
      refine ⟨by show 2 ≤ sizeLine; decide, fun z3 n3 => ?_⟩
      have f3 := Ex.new (o := .lst (iv [1, 0])) n3
      have z3v : Lv b _ z3 [1, 0] := Lv.new (xs := [1, 0]) b9 n3
      have ba := b9.ex f3
      have f123 := (f1.trans f2).trans f3
      refine ⟨_, rfl, _, rfl, cat_go ba ((k1.x e7).x f123) ((k2.x e7).x f123) (by omega) fun Hb z4 f4 z4v => ?_⟩
      have bb := ba.ex f4
      refine ⟨by show 4 ≤ sizeLine; decide, fun Z nZ => ?_⟩
      have f5 := Ex.new (o := .lst [V.ref z1, V.ref z2, V.ref z3, V.ref z4]) nZ
      have hZ : (upd Hb Z (.lst [V.ref z1, V.ref z2, V.ref z3, V.ref z4])) Z = some (.lst [V.ref z1, V.ref z2, V.ref z3, V.ref z4]) := upd_same
      have bc := bb.ex f5
      have nZb := bb.ne nZ
      refine ⟨_, rfl, b, n + 122, 4, rfl, bc, by omega, by decide, by decide, fun Hd y ed bd y0 y1 => ?_⟩
      have hZ := ed _ _ nZb hZ
      have lr := (((lr.x f123).x f4).x f5).y ed
      have z1v := ((((z1v.x f2).x f3).x f4).x f5).y ed
      have z2v := (((z2v.x f3).x f4).x f5).y ed
      have z3v := ((z3v.x f4).x f5).y ed
      have z4v := (z4v.x f5).y ed
      have ee : ExB b H Hd := (e06.trans (ExB.of (((e7.trans f123).trans f4).trans f5))).trans ed
      have fin : ∀ (z : Addr) (M : List Int), Lv b Hd z M → M.length ≤ 152 → Oct M → Wn 12 (timesO ts ++ packed xs ++ M) → rCat (.ref r) (.ref z) Hd Q := fun z M lz lm om w => by
        refine cat_go bd lr lz (by rw [List.length_append]; omega) fun He s ee2 ls => ?_
        exact q.fin (ee.trans (ExB.of ee2)) (bd.ex ee2) (by omega) ls (ok_of_wn (ctp.2.1.app om) (by rw [List.length_append, List.length_append]; omega) w (by decide))
      have sp : ∀ M : List Int, M.length ≤ 2 → Wn 12 (timesO ts ++ packed xs ++ M) := fun M lm => by
        have := Wn.spoil (c := 5) (A := timesO ts ++ packed xs) (X0 := []) (M := M) (B := []) (by simpa using ctp.1.win) (by simp) lm
        simpa using this
      have cases : y = 0 ∨ y = 1 ∨ y = 2 ∨ y = 3 := by omega
      rcases cases with rfl | rfl | rfl | rfl
      · exact ⟨Z, _, _, _, rfl, rfl, SqL.of hZ, rfl, fin z1 [0] z1v (by simp) (oct_one (by decide)) (sp _ (by simp))⟩
      · exact ⟨Z, _, _, _, rfl, rfl, SqL.of hZ, rfl, fin z2 [255] z2v (by simp) (oct_one (by decide)) (sp _ (by simp))⟩
      · exact ⟨Z, _, _, _, rfl, rfl, SqL.of hZ, rfl, fin z3 [1, 0] z3v (by simp) (oct_two (by decide) (by decide)) (sp _ (by simp))⟩
      · exact ⟨Z, _, _, _, rfl, rfl, SqL.of hZ, rfl, fin z4 _ z4v ctp.2.2 ctp.2.1 ((ctp.app ctp).1.win.mono (by decide))⟩
    rw [decide_eq_false c, if_neg (by decide)]
    refine nx_go ?_
    dsimp only
    -- times that fall
    refine seq_go (if_go (b := decide (d = 6)) (fun Q q => ⟨_, rfl, rfl, _, rfl, by rw [dec_int']; exact q⟩) ?_)
    by_cases c : d = 6
    · rw [decide_eq_true c, if_pos rfl]
      refine seq_go ?_
      refine ⟨_, rfl, b, n + 122, 70, rfl, b6, by omega, by decide, by decide, fun H7 g e7 b7 g0 g1 => ?_⟩
      repeat (first | refine ⟨_, rfl, ?_⟩ | refine ⟨_, _, rfl, rfl, ?_⟩)
      refine ⟨by show 4 ≤ sizeLine; decide, fun z nz => ⟨_, rfl, pick_go [0, 1, -1, -70] b7 (by omega) nz rfl (by decide) (by decide) fun H8 v e8 b8 hv => ?_⟩⟩
      have hv' : -70 ≤ v ∧ v ≤ 1 := by
        simp at hv
        omega
      refine ⟨_, _, rfl, ?_⟩
      dsimp only
      refine ⟨_, rfl, b, n + 124, 99, rfl, b8, by omega, by decide, by decide, fun H9 y e9 b9 y0 y1 => ?_⟩
      refine ⟨by show 2 ≤ sizeLine; decide, fun z1 n1 => ?_⟩
      have f1 := Ex.new (o := .lst (iv [3, y])) n1
      have z1v : Lv b _ z1 [3, y] := Lv.new (xs := [3, y]) b9 n1
      have ba := b9.ex f1
      refine ⟨_, rfl, _, _, rfl, rfl, 1 + g - 1, rfl, by omega, ?_, retL_lv ba fun Hb z2 f2 z2v => ?_⟩
      · have : (128 : Int) ≤ 128 ^ 41 := by decide
        omega
      have bb := ba.ex f2
      have c2 : Cl 1 (numO (1 + g - 1)) := Cl.small (by omega) (by omega)
      have l2 := c2.2.2
      refine cat_go bb (z1v.x f2) z2v (by simp; omega) fun Hc z3 f3 z3v => ?_
      have bc := bb.ex f3
      refine ⟨_, rfl, _, rfl, _, _, rfl, rfl, v - (1 + g), rfl, ?_, ?_, retL_lv bc fun Hd z4 f4 z4v => ?_⟩
      · have : (1000 : Int) ≤ 128 ^ 40 := by decide
        omega
      · have : (1000 : Int) ≤ 128 ^ 40 := by decide
        omega
      have bd := bc.ex f4
      have c4 : Cl 6 (sgnO (v - (1 + g))) := Cl.sgn (by omega) (by omega)
      have l4 := c4.2.2
      refine cat_go bd (z3v.x f4) z4v (by simp; omega) fun He z5 f5 z5v => ?_
      have be := bd.ex f5
      have vl7 : VL 13 [7, 7, 7] := ⟨by decide, by decide, by decide⟩
      refine ⟨by show 3 ≤ sizeLine; decide, fun z6 n6 => ?_⟩
      have f6 := Ex.new (o := .lst (iv [7, 7, 7])) n6
      have z6v : Lv b _ z6 [7, 7, 7] := Lv.new (xs := [7, 7, 7]) be n6
      have bf := be.ex f6
      refine ⟨z6, [7, 7, 7], rfl, z6v.sq, vl7.sml (by decide), retL_lv bf fun Hg z7 f7 z7v => ?_⟩
      have bg := bf.ex f7
      have c7 := packed_cl vl7 (by decide)
      have l7 := c7.2.2
      refine cat_go bg ((z5v.x f6).x f7) z7v (by simp; omega) fun Hh z8 f8 z8v => ?_
      have c1 : Cl 2 [3, y] := (Cl.low (i := 3) (by decide) (by decide)).app (Cl.low (i := y) (by omega) (by omega))
      exact q.fin ((((e06.trans e7).trans e8).trans e9).trans (ExB.of ((((((f1.trans f2).trans f3).trans f4).trans f5).trans (f6.trans f7)).trans f8))) (bg.ex f8) (by omega) z8v (ok_cl (((c1.app c2).app c4).app c7) (by decide))
    rw [decide_eq_false c, if_neg (by decide)]
    refine nx_go ?_
    dsimp only
    -- free
    refine seq_go (if_go (b := decide (d < 9)) (fun Q q => ⟨_, rfl, _, _, rfl, rfl, _, rfl, q⟩) ?_)
    by_cases c : d < 9
    · rw [decide_eq_true c, if_pos rfl]
      refine ⟨_, rfl, b, n + 122, rfl, b6, by omega, retB_lv fun H7 r ys e7 b7 lr g => ?_⟩
      exact q.fin (e06.trans e7) b7 (by omega) lr (ok_of_wn g.1 (by omega) (Wn.short g.2) (by decide))
    rw [decide_eq_false c, if_neg (by decide)]
    refine nx_go ?_
    dsimp only
    -- spoilt
    refine seq_go (asg_go ⟨_, rfl, _, rfl, cat_go b6 k1 k2 (by omega) fun H7 r e7 lr => ?_⟩)
    dsimp only [gName]
    refine seq_go ?_
    refine ⟨_, rfl, _, _, rfl, rfl, _, rfl, by omega, by omega, ?_⟩
    have b7 := b6.ex e7
    refine for_range (lo := 0) (n := (d - 8).toNat) (fun i σ H' => ∃ (r : Addr) (os : List Int) (w : Option V), σ = [some (.ref b), some (.int d), some (.int (m : Int)), some (.ref q1), some (.ref q2), some (.ref p1), some (.ref p2), none, none, none, some (.ref r), w] ∧ ExB b H H' ∧ Bx H' b (n + 122 + 10 * i) ∧ Lv b H' r os ∧
      Oct os ∧ os.length ≤ 152 + i ∧ Wn (5 + 7 * i) os) ⟨r, _, none, rfl, e06.trans (ExB.of e7), b7, lr, ctp.2.1, ctp.2.2, ctp.1.win⟩ ?_ ?_
    · rintro i σ H8 hi ⟨r, os, w, rfl, e8, b8, lr, oo, lo, wn⟩
      have hi3 : i < 3 := by omega
      refine ⟨_, rfl, _, rfl, b, r, _, os, rfl, b8, by omega, lr.1, lr.2, oo, by omega, retB_lv fun H9 r2 os2 e9 b9 lr2 g => ?_⟩
      exact ⟨r2, os2, _, rfl, e8.trans e9, b9, lr2, g.1, by have := g.2.1; omega, g.2.2 _ wn⟩
    · rintro σ H8 ⟨r, os, w, rfl, e8, b8, lr, oo, lo, wn⟩
      have hd3 : (d - 8).toNat ≤ 3 := by omega
      exact ⟨_, rfl, q.fin e8 b8 (by omega) lr (ok_of_wn oo (by omega) wn (by omega))⟩
end L2.EG

set_option Elab.async false
set_option linter.all false
set_option maxRecDepth 100000
set_option maxHeartbeats 4000000
/-! The law's defs, part seventeen: what is asked. -/
namespace L2.EG
open PySem PySem.Spec PyProof.Rows EgM
open Evl (Ex ex_l ex_t)

/-- an error is met by one of the two clauses -/
theorem Mt.met {M : Md} {cS cM : Addr} (T : Mt M cS cM) {Wout : WX} {D : Ends} {d : Option Addr} {σ : L2.St} {H : Hp} (e : Er) (h : D.rt (.str (es e)) H) :
    wMany M.K Wout D [(.ref cS, fun _ _ _ => tRet (tC (.str "short"))), (.ref cM, fun _ _ _ => tRet (tC (.str "malformed")))] (ce cS cM e) d σ H := by
  cases e with
  | short => exact ⟨true, T.ss, fun _ _ _ => h, fun z => by cases z⟩
  | malf => exact ⟨false, T.ms, fun z => (by cases z), fun _ => ⟨true, T.mm, fun _ _ _ => h, fun z => by cases z⟩⟩
/-- a new list of points, or a text -/
def asO (H : Hp) (r : Except Er (List Int × List Int)) (Q : VK) : Prop := match r with
  | .ok (ts, vs) => ∀ (H' : Hp) (p : Addr) (tl : List V), Ex H H' → H p = none → H' p = some (.lst tl) → TupL H' tl (ts.zip vs) → Q (.ref p) H'
  | .error e => ∀ H', Ex H H' → Q (.str (es e)) H'
def spAsked (K : PySem.W.Frag) : Sp := fun vs H Q _ => ∃ (a : Addr) (t : Int) (os : List Int), vs = [.ref a, .int t] ∧ SqA K H a (iv os) ∧ OsOk os ∧ asO H (unpackR os) Q
-- slots of _law_asked: 0 _law_octets_here, 1 _law_turn
theorem sc__law_asked : FnScope ["_law_octets_here", "_law_turn"] ["_law_octets_here", "_law_turn"] (defScope (top 80)) := ⟨rfl, rfl, rfl, by decide +kernel, rfl, by decide +kernel, by decide +kernel⟩
theorem ok__law_asked {M : Md} {cS cM : Addr} (X2 : Mt M cS cM) (eShort : Ec M "Short" cS) (eMalformed : Ec M "Malformed" cM) (c_unpack : M.pmx "unpack" 12 ["octets"] (spUnpack M.K cS cM)) (c_unpackW : PmW M "unpack" 12 "octets" (spUnpack M.K cS cM)) (F : Fd M "_law_asked" (top 80)) : M.pm "_law_asked" 13 ["_law_octets_here", "_law_turn"] (spAsked M.K) := by
  refine F.ok sc__law_asked ?len (fun _ _ _ _ _ _ us hl => match us, hl with | [_, _], _ => rfl) (fun f cdv A outer s H vs Q E hr h => ?body)
  case len =>
    rintro _ _ _ _ ⟨_, _, _, rfl, _⟩
    rfl
  case body =>
    refine ⟨_, (pss_one (ps_try_many rfl rfl takes0 (fun W pn xe tk po =>
        (pss_one (ps_ret (pe_ifExp (pt_cmpR op_eq (pv 1) pe_int (nomark _)) (pe_pmx (E := WE W) c_unpack (hr.mono (by decide)) rfl (passAt tk) (pa_cons (pv 0) pa_nil)) (pe_unkw c_unpackW (hr.mono (by decide)) rfl (passAt tk) (pk_cons (pv 0) pk_nil))))))
        (.cons ⟨rfl, by decide, .inl eShort.gC⟩ (fun _ _ _ _ _ _ _ => (pss_one (ps_ret pe_str))) (.cons ⟨rfl, by decide, .inl eMalformed.gC⟩ (fun _ _ _ _ _ _ _ => (pss_one (ps_ret pe_str))) .nil)))), ?_⟩
    obtain ⟨a, t, os, rfl, hs, O, out⟩ := h
    refine ⟨_, rfl, rfl, _, rfl, ?_⟩
    rw [dec_int']
    have go : ∀ {σ : L2.St}, spUnpack M.K cS cM [.ref a] H Q (WE (wMany M.K (fun _ _ _ _ => False) { nx := fun _ H' => Q V.non H', rt := Q } [(.ref cS, fun _ _ _ => tRet (tC (.str "short"))), (.ref cM, fun _ _ _ => tRet (tC (.str "malformed")))]) σ) := fun {σ} => by
      refine ⟨a, os, rfl, hs, O, ?_⟩
      unfold asO at out
      unfold upO
      cases hu : unpackR os with
      | error er =>
        rw [hu] at out
        exact fun H' e' => X2.met er (out H' e')
      | ok y =>
        rw [hu] at out
        exact out
    cases decide (t = 0) with
    | true => exact ⟨_, rfl, go⟩
    | false => exact ⟨_, rfl, go⟩
def spPAsked (K : PySem.W.Frag) : Sp := fun vs H Q _ => ∃ (a : Addr) (os : List Int), vs = [.ref a] ∧ SqA K H a (iv os) ∧ OsOk os ∧ ptO os H Q
-- slots of _law_parts_asked: 0 _law_octets_here, 1 _law_reader, 2 _law_times_here*, 3 _law_values_here*, 4 _law_k
theorem sc__law_parts_asked : FnScope ["_law_octets_here", "_law_reader", "_law_times_here", "_law_values_here", "_law_k"] ["_law_octets_here"] (defScope (top 81)) := ⟨rfl, rfl, rfl, by decide +kernel, rfl, by decide +kernel, by decide +kernel⟩
theorem ok__law_parts_asked {M : Md} {C cS cM : Addr} (B : Bn M) (R : RdF M C) (X2 : Mt M cS cM) (eShort : Ec M "Short" cS) (eMalformed : Ec M "Malformed" cM) (c_Reader_init : M.mt C "__init__" 4 ["self", "octets"] (spInit M.K C)) (c_Reader_left : M.mt C "left" 1 ["self"] (spLeft C)) (c_unpack_times : M.pmx "unpack_times" 8 ["reader"] (spTimes C cS cM)) (c_unpack_values : M.pmx "unpack_values" 11 ["reader", "count"] (spRead C cS cM unVals)) (F : Fd M "_law_parts_asked" (top 81)) : M.pm "_law_parts_asked" 13 ["_law_octets_here"] (spPAsked M.K) := by
  refine F.ok sc__law_parts_asked ?len (fun _ _ _ _ _ _ us hl => match us, hl with | [_], _ => rfl) (fun f cdv A outer s H vs Q E hr h => ?body)
  case len =>
    rintro _ _ _ _ ⟨_, _, rfl, _⟩
    rfl
  case body =>
    refine ⟨_, (pss_cons (ps_set (i := 1) sc__law_parts_asked.nd rfl (Or.inl rfl) (pe_mk R.mkr c_Reader_init (hr.mono (by decide)) rfl R.mg (pa_cons (pv 0) pa_nil)))
      (pss_cons (ps_try_many rfl rfl takes0 (fun W pn xe tk po =>
        (pss_cons (ps_set (i := 2) sc__law_parts_asked.nd rfl (Or.inr rfl) (pe_pmx (E := WE W) c_unpack_times (hr.mono (by decide)) rfl (passAt tk) (pa_cons (pv 1) pa_nil)))
        (pss_one (ps_set (i := 3) sc__law_parts_asked.nd rfl (Or.inr rfl) (pe_pmx (E := WE W) c_unpack_values (hr.mono (by decide)) rfl (passAt tk) (pa_cons (pv 1) (pa_cons (pe_len (K := M.K) rfl B.len (pv 2)) pa_nil)))))))
        (.cons ⟨rfl, by decide, .inl eShort.gC⟩ (fun _ _ _ _ _ _ _ => (pss_one (ps_ret pe_str))) (.cons ⟨rfl, by decide, .inl eMalformed.gC⟩ (fun _ _ _ _ _ _ _ => (pss_one (ps_ret pe_str))) .nil)))
      (pss_cons (ps_if (PW.pt (pw_or (pt_not (pt_val (pe_callB call_isi rfl B.isinstance (by decide +kernel) (pa_cons (pv 2) (pa_cons (pe_bltn (v := .ty "list") rfl B.list (by decide +kernel) rfl) pa_nil))))) (pw_or (pt_not (pt_val (pe_callB call_isi rfl B.isinstance (by decide +kernel) (pa_cons (pv 3) (pa_cons (pe_bltn (v := .ty "list") rfl B.list (by decide +kernel) rfl) pa_nil))))) (pw_or1 (pt_cmpR op_ne (pe_len (K := M.K) rfl B.len (pv 2)) (pe_len (K := M.K) rfl B.len (pv 3)) (nomark _))))))
        (pss_one (ps_ret pe_str))
        pss_nil)
      (pss_one (ps_ret (pe_lst (pa_cons (pe_lc (own := [("_law_k", 4)]) (g := (gName 4)) (tt := tYes) rfl sc__law_parts_asked.nd (pi_range1 rfl B.range (pa_cons (pe_len (K := M.K) rfl B.len (pv 2)) pa_nil)) (blkOk_by (N := ["_law_octets_here", "_law_reader", "_law_times_here", "_law_values_here", "_law_k"]) (sc := defScope (top 81)) (by decide +kernel)) (fun _ _ _ _ _ => (pg_name (i := 4) sc__law_parts_asked.nd rfl (Or.inl rfl))) (fun _ _ _ _ _ => pts_nil) (fun _ _ _ _ _ => (pe_tup (pa_cons (pe_ixL (K := M.K) (pv 2) (pv 4) (fun _ _ => rfl)) (pa_cons (pe_ixL (K := M.K) (pv 3) (pv 4) (fun _ _ => rfl)) pa_nil))))) (pa_cons (pe_mt0 R.cl c_Reader_left (hr.mono (by decide)) (px0 (E := E0)) (pv 1)) pa_nil)))))))), ?_⟩
    obtain ⟨a, os, rfl, hs, O, out⟩ := h
    refine seq_go (asg_go ⟨_, rfl, fun x dx nx nd ne => ?_⟩)
    have e0 : Ex H (upd (upd H dx (.own x)) x (.ins C dx [])) := (Ex.new nd).mut nx
    refine ⟨x, a, dx, os, rfl, upd_same, hs.ex e0, O.oct, O.z, fun H1 l e1 nl rd => ⟨rfl, ?_⟩⟩
    have e01 := ExB.ex e0 e1 nx
    have lO := O.len
    dsimp only [gName]
    refine seq_go ?_
    refine seq_go (asg_go ⟨_, rfl, x, l, os, 0, rfl, rd, O, Nat.zero_le _, ?_⟩)
    cases hv : times os 0 with
    | error er =>
      have eP : parts os = .error er := bindR_err hv
      unfold ptO at out
      rw [eP] at out
      exact fun a' H' e' _ => X2.met er (out H' (ExB.ex e01 e' nx))
    | ok y =>
      obtain ⟨ts, a1⟩ := y
      intro H2 e2 rd2 q nq hq
      have n1 := (pfx_times.up hv).2 (Nat.zero_le _)
      have e02 := ExB.ex e01 e2 nx
      have TF := times_facts O.oct O.sm hv
      have few : ts.length ≤ 400 := by
        have := TF.2.2.2
        omega
      have hn : ((iv ts).length : Nat) = ts.length := by simp
      dsimp only [gName]
      refine asg_go ⟨_, rfl, _, rfl, q, iv ts, rfl, .inl (SqL.of hq), x, l, os, a1, ts.length, by rw [hn], rd2, O, n1, few, ?_⟩
      cases hw : unVals ts.length os a1 with
      | error er =>
        have eP : parts os = .error er := by
          unfold parts
          rw [bindR_at hv, bindR_err hw]
        unfold ptO at out
        rw [eP] at out
        exact fun a' H' e' _ => X2.met er (out H' (ExB.ex e02 e' nx))
      | ok z =>
        obtain ⟨vs, a2⟩ := z
        intro H3 e3 rd3 r nr hr3
        have eP : parts os = .ok ((ts, vs), a2) := by
          unfold parts
          rw [bindR_at hv, bindR_at hw]
        obtain ⟨a1', g1, g2, g3, g4, g5⟩ := parts_inv eP
        have lv : vs.length = ts.length := (sm_vals O few g2).2
        have e03 := ExB.ex e02 e3 nx
        unfold ptO at out
        rw [eP] at out
        have qx : q ≠ x := rd.lt nq
        have hq3 := e3 _ _ qx hq
        dsimp only [gName]
        have lq : (iv ts).length = (iv vs).length := by rw [List.length_map, List.length_map, lv]
        refine seq_go (if_go (b := false) (Tv.is (Tv.or (a := !true) (b := (!true || false)) (Tv.not (a := true) (fun Q k => ⟨_, rfl, .ref q, .ty "list", .type "list", .type "list", true, rfl, .ty _, .base (.lst hq3), rfl, true, rfl, k⟩))
          (fun _ => Tv.or (a := !true) (b := false) (Tv.not (a := true) (fun Q k => ⟨_, rfl, .ref r, .ty "list", .type "list", .type "list", true, rfl, .ty _, .base (.lst hr3), rfl, true, rfl, k⟩))
            (fun _ Q k => ⟨_, rfl, _, _, rfl, .inl (SqL.of hq3), _, rfl, _, _, rfl, .inl (SqL.of hr3), rfl, _, rfl, by rw [lq]; simpa using k⟩))) rfl) ?_)
        refine nx_go ?_
        dsimp only
        refine ⟨_, rfl, q, iv ts, rfl, .inl (SqL.of hq3), _, rfl, by omega, by omega, fun D nD => ?_⟩
        rw [hn]
        refine lc_range (lo := 0) (n := ts.length) (fun i H' => Ex H3 H' ∧ ∃ acc, H' D = some (.lst acc) ∧ TupL H' acc ((ts.zip vs).take i)) ⟨Ex.new nD, [], upd_same, by rw [List.take_zero]; exact .nil⟩ ?_ ?_
        · rintro i H4 hi ⟨e4, acc, h4, t4⟩
          have ei : (0 : Int) + (i : Int) = (i : Int) := by omega
          rw [ei]
          refine ⟨rfl, ?_⟩
          simp only [tYes, if_true]
          have ht' : ts[i]? = some (ts.getD i 0) := by
            rw [List.getD_eq_getElem?_getD, List.getElem?_eq_getElem hi]
            rfl
          have hv' : vs[i]? = some (vs.getD i 0) := by
            rw [List.getD_eq_getElem?_getD, List.getElem?_eq_getElem (by omega)]
            rfl
          refine ⟨_, rfl, _, rfl, q, iv ts, _, _, rfl, rfl, SqL.of (e4 _ _ hq3), atI_nat (iv_get ht'), _, rfl, _, rfl, r, iv vs, _, _, rfl, rfl, SqL.of (e4 _ _ hr3), atI_nat (iv_get hv'), by show 2 ≤ sizeLine; decide, fun y ny => ?_⟩
          have ex := Ex.new (o := .tup [.int (ts.getD i 0), .int (vs.getD i 0)]) ny
          have la : acc.length ≤ i := by
            rw [t4.length, List.length_take]
            exact Nat.min_le_left _ _
          refine ⟨acc, ex _ _ h4, szl (by omega), (e4.trans ex).mut nD, _, upd_same, ?_⟩
          rw [zip_take_snoc ht' hv']
          exact TupL.mut (Paired.snoc (t4.ex ex) ⟨y, rfl, upd_same⟩) (ex _ _ h4)
        · rintro H4 ⟨e4, acc, h4, t4⟩
          rw [List.take_of_length_le (by rw [List.length_zip]; omega)] at t4
          obtain ⟨⟨dx4, h41⟩, h42⟩ := id (rd3.ex e4)
          refine ⟨_, rfl, x, dx4, _, rfl, h41, rfl, x, l, os, a2, rfl, rd3.ex e4, by show 2 ≤ sizeLine; decide, fun y ny => ?_⟩
          have ex := Ex.new (o := .lst [V.ref D, .int ((os.length : Int) - (a2 : Int))]) ny
          have e04 := (e03.trans e4)
          exact out _ y D acc (e04.trans ex) (Evl.fresh_back e04 ny) (Evl.fresh_back e03 nD) upd_same (ex _ _ h4) (t4.ex ex)
end L2.EG

set_option Elab.async false
set_option linter.all false
set_option maxRecDepth 100000
set_option maxHeartbeats 4000000
/-! What may be shown; beginnings of rows. -/
namespace EgM
open L2.EG
theorem tm_times {os : List Int} (O : OsOk os) {ts : List Int} {a : Nat} (h : times os 0 = .ok (ts, a)) : TmOk ts ∧ timesO ts = os.take a ∧ ts.length ≤ 400 := by
  obtain ⟨h1, h2, h3, h4, h5⟩ := times_facts O.oct O.sm h
  have lO := O.len
  have few : ts.length ≤ 400 := by omega
  refine ⟨⟨by omega, h2, fun x hx => (h3 x hx).1, fun x hx => ?_⟩, h1, few⟩
  have b := (h3 x hx).2
  have e : (128 : Int) ^ 50 = 128 ^ 30 * 128 ^ 20 := by rw [← Int.pow_add]
  have e2 : (128 : Int) ^ 20 = 1393796574908163946345982392040522594123776 := by decide
  have p : (0 : Int) < 128 ^ 30 := Int.pow_pos (by decide)
  have c1 : (ts.length : Int) * 128 ^ 30 ≤ 400 * 128 ^ 30 := Int.mul_le_mul_of_nonneg_right (by omega) (by omega)
  have c0 : 0 ≤ (ts.length : Int) * 128 ^ 30 := Int.mul_nonneg (by omega) (by omega)
  have c2 : (ts.length : Int) * ((ts.length : Int) * 128 ^ 30) ≤ 400 * (400 * 128 ^ 30) := Int.mul_le_mul (by omega) c1 c0 (by decide)
  rw [e, e2]
  omega
theorem num_take {os : List Int} {e a : Nat} {c : Int} {a' : Nat} (h : num (os.take e) a = .ok (c, a')) : num os a = .ok (c, a') := by
  unfold num at h ⊢
  rw [List.drop_take] at h
  cases q : rdRaw (os.drop a) with
  | none =>
    have := rdRaw_none q
    split at h
    · simp at h
    · next v n z e1 =>
      -- a shorter beginning of high octets has no number
      exact absurd e1 (by
        have hh : ∀ (l : List Int), (∀ o ∈ l, 128 ≤ o) → rdRaw l = none := by
          intro l
          induction l with
          | nil => intro _; rfl
          | cons x r ih =>
            intro hl
            unfold rdRaw
            rw [if_neg (by have := hl x (by simp); omega), ih fun o ho => hl o (List.mem_cons_of_mem _ ho)]
        rw [hh _ fun o ho => this o (List.mem_of_mem_take ho)]
        simp)
  | some p =>
    obtain ⟨v, n, z⟩ := p
    obtain ⟨t1, t2⟩ := rdRaw_take (e - a) q
    by_cases c : n ≤ e - a
    · rw [t1 c] at h
      exact h
    · rw [t2 (by omega)] at h
      simp at h
theorem OsOk.take {os : List Int} (h : OsOk os) (e : Nat) : OsOk (os.take e) := ⟨h.oct.take e, Nat.le_trans (by rw [List.length_take]; exact Nat.min_le_right _ _) h.len, fun a c a' q => h.sm a c a' (num_take q)⟩
end EgM
namespace L2.EG
open PySem PySem.Spec PyProof.Rows EgM
open Evl (Ex ex_l ex_t)

/-- small enough to be shown -/
def ShI (i : Int) : Prop := -(128 ^ 50) ≤ i ∧ i ≤ 128 ^ 50
theorem ShI.log {i : Int} (h : ShI i) : i.natAbs.log2 < 1920 := by
  by_cases c : i.natAbs = 0
  · rw [c]
    decide
  · rw [Nat.log2_lt c]
    have e : (128 : Int) ^ 50 < (2 ^ 1920 : Nat) := by decide +kernel
    obtain ⟨h1, h2⟩ := h
    omega
theorem ShI.small {i : Int} (h0 : -1000 ≤ i) (h1 : i ≤ 1000) : ShI i := by
  have e : (1000 : Int) ≤ 128 ^ 50 := by decide +kernel
  exact ⟨by omega, by omega⟩
theorem ShI.len {i : Int} (h : ShI i) : (PyData.shown (.int i)).length ≤ 1921 := by
  show (Str.ofString (toString i)).length ≤ 1921
  exact PyProof.Rows.int_text_len_1921 h.log
/-- what may be shown -/
structure Sb (d : PyData) (b : Nat) : Prop where
  sh : d.showable = true
  nd : d.hasDict = false
  dp : d.depth ≤ 10
  len : d.shown.length ≤ b
theorem Sb.int {i : Int} (h : ShI i) : Sb (.int i) 1921 := ⟨by unfold PyData.showable; exact decide_eq_true h.log, rfl, Nat.zero_le _, h.len⟩
theorem all_sb {ds : List PyData} {b k : Nat} (h : ∀ d ∈ ds, Sb d b) (hk : ∀ d ∈ ds, d.depth ≤ k) : PyData.showableAll ds = true ∧ PyData.hasDictAll ds = false ∧ PyData.depthAll ds ≤ k ∧ ((PyData.shownAll ds).map (·.length)).sum ≤ b * ds.length ∧ (PyData.shownAll ds).length = ds.length := by
  induction ds with
  | nil => exact ⟨rfl, rfl, Nat.zero_le _, Nat.zero_le _, rfl⟩
  | cons d r ih =>
    obtain ⟨i1, i2, i3, i4, i5⟩ := ih (fun x hx => h x (List.mem_cons_of_mem _ hx)) (fun x hx => hk x (List.mem_cons_of_mem _ hx))
    have hd := h d (by simp)
    refine ⟨by rw [PyData.showableAll, hd.sh, i1]; rfl, by rw [PyData.hasDictAll, hd.nd, i2]; rfl, by rw [PyData.depthAll]; exact Nat.max_le.mpr ⟨hk d (by simp), i3⟩, ?_, by rw [PyData.shownAll, List.length_cons, List.length_cons, i5]⟩
    rw [PyData.shownAll, List.map_cons, List.sum_cons, List.length_cons, Nat.mul_succ]
    have := hd.len
    omega
theorem Sb.lst {ds : List PyData} {b k : Nat} (h : ∀ d ∈ ds, Sb d b) (hk : ∀ d ∈ ds, d.depth ≤ k) (k9 : k ≤ 9) : Sb (.list ds) (b * ds.length + 2 * ds.length + 3) := by
  obtain ⟨i1, i2, i3, i4, i5⟩ := all_sb h hk
  refine ⟨by rw [PyData.showable]; exact i1, by rw [PyData.hasDict]; exact i2, by rw [PyData.depth]; omega, ?_⟩
  rw [PyData.shown]
  have := listText_len_le (PyData.shownAll ds)
  omega
theorem Sb.tup {ds : List PyData} {b k : Nat} (h : ∀ d ∈ ds, Sb d b) (hk : ∀ d ∈ ds, d.depth ≤ k) (k9 : k ≤ 9) : Sb (.tuple ds) (b * ds.length + 2 * ds.length + 3) := by
  obtain ⟨i1, i2, i3, i4, i5⟩ := all_sb h hk
  refine ⟨by rw [PyData.showable]; exact i1, by rw [PyData.hasDict]; exact i2, by rw [PyData.depth]; omega, ?_⟩
  rw [PyData.shown]
  have := tupleText_len_le (PyData.shownAll ds)
  omega
theorem Sb.mono {d : PyData} {b c : Nat} (h : Sb d b) (l : b ≤ c) : Sb d c := ⟨h.sh, h.nd, h.dp, Nat.le_trans h.len l⟩
/-- pairs that may be shown -/
def ShP (rs : List (Int × Int)) : Prop := rs.length ≤ 400 ∧ ∀ r ∈ rs, ShI r.1 ∧ ShI r.2
theorem sb_ints {xs : List Int} (l : xs.length ≤ 400) (h : ∀ x ∈ xs, ShI x) : Sb (dI xs) 1000000 := by
  have q := Sb.lst (ds := xs.map .int) (b := 1921) (k := 0) (fun d hd => by
    obtain ⟨x, hx, rfl⟩ := List.mem_map.mp hd
    exact Sb.int (h x hx)) (fun d hd => by
    obtain ⟨x, hx, rfl⟩ := List.mem_map.mp hd
    exact Nat.zero_le _) (by decide)
  refine q.mono ?_
  rw [List.length_map]
  omega
theorem sb_tup {a b : Int} (h : ShI a) (k : ShI b) : Sb (.tuple [.int a, .int b]) 3900 := (Sb.tup (ds := [.int a, .int b]) (b := 1921) (k := 0) (fun d hd => by
  simp only [List.mem_cons, List.not_mem_nil, or_false] at hd
  rcases hd with rfl | rfl
  · exact Sb.int h
  · exact Sb.int k) (fun d hd => by
  simp only [List.mem_cons, List.not_mem_nil, or_false] at hd
  rcases hd with rfl | rfl <;> exact Nat.zero_le _) (by decide)).mono (by simp)
theorem sb_pairs {rs : List (Int × Int)} (h : ShP rs) : Sb (dP rs) 2000000 ∧ (dP rs).depth ≤ 2 := by
  have tdep : ∀ d ∈ rs.map (fun r => PyData.tuple [.int r.1, .int r.2]), d.depth ≤ 1 := fun d hd => by
    obtain ⟨x, hx, rfl⟩ := List.mem_map.mp hd
    exact Nat.le_refl _
  have tsb : ∀ d ∈ rs.map (fun r => PyData.tuple [.int r.1, .int r.2]), Sb d 3900 := fun d hd => by
    obtain ⟨x, hx, rfl⟩ := List.mem_map.mp hd
    exact sb_tup (h.2 x hx).1 (h.2 x hx).2
  have q := Sb.lst tsb tdep (by decide)
  refine ⟨q.mono ?_, ?_⟩
  · have := h.1
    rw [List.length_map]
    omega
  · unfold dP
    rw [PyData.depth]
    have := (all_sb tsb tdep).2.2.1
    omega
def dO2 (rs : List (Int × Int)) (n : Int) : PyData := .list [dP rs, .int n]
theorem sb_parts {rs : List (Int × Int)} {n : Int} (h : ShP rs) (k : ShI n) : Sb (dO2 rs n) 10000000 := by
  have p := sb_pairs h
  refine (Sb.lst (ds := [dP rs, .int n]) (b := 2000000) (k := 2) (fun d hd => ?_) (fun d hd => ?_) (by decide)).mono (by simp)
  · simp only [List.mem_cons, List.not_mem_nil, or_false] at hd
    rcases hd with rfl | rfl
    · exact p.1
    · exact (Sb.int k).mono (by decide)
  · simp only [List.mem_cons, List.not_mem_nil, or_false] at hd
    rcases hd with rfl | rfl
    · exact p.2
    · exact Nat.zero_le _
/-- x is d for good, and may be shown -/
def Rp (K : PySem.W.Frag) (H : Hp) (x : V) (d : PyData) : Prop := (∀ H', Ex H H' → Dp K H' x d) ∧ (((∃ a, x = .ref a) ∧ d.showable = true ∧ d.hasDict = false ∧ d.depth ≤ 20) ∨ ∃ z, x = .str z) ∧ d.shown.length ≤ sizeLine
section
variable {K : PySem.W.Frag} {H H' : Hp} {x : V} {d : PyData}
theorem Rp.ex (h : Rp K H x d) (e : Ex H H') : Rp K H' x d := ⟨fun H2 e2 => h.1 H2 (e.trans e2), h.2⟩
theorem Rp.go (h : Rp K H x d) {Q : VK} (q : Q (.str d.shown) H) : rRepr K [x] H Q := ⟨x, d, rfl, h.1 H (Ex.refl H), h.2.1, h.2.2, q⟩
theorem Sb.rp {a : Addr} {b : Nat} (h : Sb d b) (l : b ≤ 10000000) (k : ∀ H', Ex H H' → Dp K H' (.ref a) d) : Rp K H (.ref a) d := ⟨k, .inl ⟨⟨a, rfl⟩, h.sh, h.nd, Nat.le_trans h.dp (by decide)⟩, by have := h.len; rw [sizeLine_eq]; omega⟩
theorem Rp.ints {a : Addr} {xs : List Int} (hs : SqL K H a (iv xs)) (l : xs.length ≤ 400) (h : ∀ x ∈ xs, ShI x) : Rp K H (.ref a) (dI xs) := (sb_ints l h).rp (by decide) fun _ e => Dp.ints (ex_l e hs)
theorem Rp.pairs {q : Addr} {tl : List V} {rs : List (Int × Int)} (hq : H q = some (.lst tl)) (t : TupL H tl rs) (h : ShP rs) : Rp K H (.ref q) (dP rs) := (sb_pairs h).1.rp (by decide) fun _ e => Dp.pairs (SqL.of (e _ _ hq)) (t.ex e)
theorem Rp.parts {p q : Addr} {tl : List V} {rs : List (Int × Int)} {n : Int} (hp : H p = some (.lst [.ref q, .int n])) (hq : H q = some (.lst tl)) (t : TupL H tl rs) (h : ShP rs) (k : ShI n) : Rp K H (.ref p) (dO2 rs n) :=
  (sb_parts h k).rp (by decide) fun _ e => .lst (SqL.of (e _ _ hp)) (.cons (Dp.pairs (SqL.of (e _ _ hq)) (t.ex e)) (.cons (.int n) .nil))
theorem Rp.str (e : Er) : Rp K H (.str (es e)) (.str (es e)) := ⟨fun _ _ => .str _, .inr ⟨_, rfl⟩, by
  cases e
  · show (reprText "short").length ≤ sizeLine
    decide +kernel
  · show (reprText "malformed").length ≤ sizeLine
    decide +kernel⟩
end
theorem shp_zip {ts vs : List Int} (h : TmOk ts) (k : Sm vs) (l : ts.length ≤ 400) : ShP (ts.zip vs) := by
  refine ⟨by rw [List.length_zip]; omega, fun r hr => ?_⟩
  obtain ⟨h1, h2⟩ := List.of_mem_zip (a := r.1) (b := r.2) hr
  have a1 := h.nn _ h1
  have a2 := h.hi _ h1
  have a3 := k.lo _ h2
  have a4 := k.hi _ h2
  exact ⟨⟨by omega, by omega⟩, ⟨by omega, by omega⟩⟩
theorem shi_oct {os : List Int} (h : Oct os) : ∀ x ∈ os, ShI x := fun x hx => by
  have := h x hx
  exact ShI.small (by omega) (by omega)
end L2.EG

set_option Elab.async false
set_option linter.all false
set_option maxRecDepth 100000
set_option maxHeartbeats 4000000
/-! The law's defs, part eighteen: _law_octets_right. -/
namespace L2.EG
open PySem PySem.Spec PyProof.Rows EgM
open Evl (Ex ex_l ex_t)

/-- a def of the top keeps its promise where no guard is held -/
structure PmG (M : Md) (x : Str) (k : Nat) (ps : List Str) (sp : Sp) : Prop where
  ex : ∃ (f : Addr) (fd : FuncData), M.mg x = some (.ref f) ∧ PySem.W.keepIn M.K (.ref f) = true ∧ Binds M.K fd ps [] ∧ FnG M.P M.w M.K M.mg M.base CX0 k f fd ps sp
section
variable {M : Md} {x : Str} {st : Stmt} {N ps : List Str} {k : Nat} {sp : Sp}
theorem Fd.okG (F : Fd M x st) (S : FnScope N ps (defScope st)) (len : ∀ vs H Q E, sp vs H Q E → vs.length = ps.length)
    (bd : ∀ (kV doc pm : Value) (an : Option Addr) (cdv ct : Value) (us : List Value), us.length = ps.length → bindArgs (PySem.W.fnOf x x (defArgs st) (defBody st) (defScope st) .none kV doc pm an cdv ct) ⟨us, []⟩ = pure (ps.zip us))
    (body : ∀ (f : Addr) (cdv : Value) (A : Around) (outer : List Env) (s : Shared) (H : Hp) (vs : List V) (Q : VK) (E : XK), (A.deeper (envOfC x (defScope st) s.heap.objs.size f cdv)).guards = some [] → Room k (A.deeper (envOfC x (defScope st) s.heap.objs.size f cdv)) → sp vs H Q E →
      ∃ t, PSs (M.cx CX0 N x st f cdv A outer s H E).nox (defBody st) t ∧ t { nx := fun _ H' => Q .non H', rt := Q } (start N vs) H) : PmG M x (k + 1) ps sp := by
  obtain ⟨f, fd, hm, F⟩ := F.ex
  refine ⟨f, fd, hm, F.kp, F.bindsN bd, L2.EG.okG F S len fun cdv A outer s H vs Q E gd hr h => ?_⟩
  obtain ⟨t, h1, h2⟩ := body f cdv A outer s H vs Q E gd hr h
  exact ⟨t, h1.nox, h2⟩
end
theorem pe_pmG {X : Cx} {k : Nat} {ps : List Str} {sp : Sp} {x : Str} {p pos : Pos} {e : Expr} {es : List Expr} {t : TA} (F : PmG (mdOf X) x k ps sp) (gd : X.A.guards = some []) (hr : Room k X.A) (hg : Gl X x) (ha : PA X (e :: es) t) (hdb : (x == ("__debug__" : Str)) = false := by decide)
    (he : starEach (e :: es) X.env = (false, eval e X.env) :: starEach es X.env := by rfl) (hpl : (backTo pos (starEach es X.env)).any (·.1) = false := by rfl) : PE X (.Call (.Name x p) (e :: es) [] pos) (tCall sp [] E0 t) := by
  obtain ⟨f, fd, hm, hk, hb, F⟩ := F.ex
  exact pe_callG F gd hr hg hm hk hb ha hdb he hpl
/-- x = e if c else e' -/
theorem asg_if_cps {c : TT} {ta tb : TE} {i : Nat} {D : Ends} {σ : L2.St} {H : Hp} {b : Bool} (R : V → Hp → Prop) (hc : Tv c σ H b) (ha : b = true → ∀ Q : VK, (∀ v H', R v H' → Q v H') → ta σ H Q) (hb : b = false → ∀ Q : VK, (∀ v H', R v H' → Q v H') → tb σ H Q)
    (k : ∀ v H', R v H' → D.nx (σ.set i (some v)) H') : tAsg (tIf c ta tb) (gName i) D σ H := asg_go (ifx_go hc (by
  cases b with
  | true => exact ha rfl _ k
  | false => exact hb rfl _ k))
/-- what is due, and what is asked -/
structure Due (K : PySem.W.Frag) (os : List Int) (H1 : Hp) (x1 x2 : V) (d1 d2 : PyData) (L : Bool) : Prop where
  r1 : Rp K H1 x1 d1
  r2 : Rp K H1 x2 d2
  ty : if L = true then ∃ p tl, x2 = .ref p ∧ H1 p = some (.lst tl) else ∃ e, x2 = .str (es e)
  asked : ∀ (H' : Hp) (Q' : VK), Ex H1 H' → (∀ v H'', Ex H' H'' → Rp K H'' v d2 → (L = true → ∃ p tl ts vs, v = .ref p ∧ H' p = none ∧ H'' p = some (.lst tl) ∧ TupL H'' tl (List.zip ts vs) ∧ TmOk ts ∧ Sm vs ∧ ts.length = vs.length ∧ timesO ts ++ packed vs = os) → Q' v H'') → asO H' (unpackR os) Q'
  parts : ∀ (H' : Hp) (Q' : VK), Ex H1 H' → (∀ v H'', Ex H' H'' → Rp K H'' v d1 → Q' v H'') → ptO os H' Q'
  fin : L = true → 2 ≤ os.length ∧ ∀ e, e < os.length → unpackR (os.take e) = .error .short
def spRight (K : PySem.W.Frag) : Sp := fun vs H Q _ => ∃ (a : Addr) (os : List Int), vs = [.ref a] ∧ SqL K H a (iv os) ∧ OsOk os ∧ ∀ H', Ex H H' → Q (.bl true) H'
theorem sc__law_octets_right : FnScope ["_law_octets_here", "_law_parts", "_law_due", "_law_turn", "_law_handed", "_law_told_here", "_law_ends", "_law_end"] ["_law_octets_here"] (defScope (top 82)) := ⟨rfl, rfl, rfl, by decide +kernel, rfl, by decide +kernel, by decide +kernel⟩
theorem ok__law_octets_right {M : Md} (B : Bn M) (c__law_parts_due : M.pm "_law_parts_due" 7 ["_law_octets_here"] (spLParts M.K)) (c__law_asked : M.pm "_law_asked" 13 ["_law_octets_here", "_law_turn"] (spAsked M.K)) (c__law_parts_asked : M.pm "_law_parts_asked" 13 ["_law_octets_here"] (spPAsked M.K)) (c_pack : M.pm "pack" 10 ["points"] (spPack M.K)) (F : Fd M "_law_octets_right" (top 82)) : PmG M "_law_octets_right" 14 ["_law_octets_here"] (spRight M.K) := by
  refine F.okG sc__law_octets_right ?len (fun _ _ _ _ _ _ us hl => match us, hl with | [_], _ => rfl) (fun f cdv A outer s H vs Q E gd hr h => ?body)
  case len =>
    rintro _ _ _ _ ⟨_, _, rfl, _⟩
    rfl
  case body =>
    have hu30 : (A.deeper (envOfC "_law_octets_right" (defScope (top 82)) s.heap.objs.size f cdv)).units + 30 < cLine := by
      have := hr.un
      omega
    obtain ⟨a, os, rfl, hs, O, q⟩ := h
    have lO := O.len
    have eS : ∀ z : Str, (!decide (V.str z = V.str z)) = false := by simp
    obtain ⟨tr, hrest, krest⟩ : ∃ tr, PSs (M.cx CX0 ["_law_octets_here", "_law_parts", "_law_due", "_law_turn", "_law_handed", "_law_told_here", "_law_ends", "_law_end"] "_law_octets_right" (top 82) f cdv A outer s H E).nox ((defBody (top 82)).drop 3) tr ∧
        ∀ (x1 x2 : V) (d1 d2 : PyData) (H1 : Hp) (L : Bool), Ex H H1 → Due M.K os H1 x1 x2 d1 d2 L → tr { nx := fun _ H' => Q .non H', rt := Q } [some (.ref a), some x1, some x2, none, none, none, none, none] H1 := by
      refine ⟨_, (pss_cons (ps_for PassesOwn.never rfl (pi_range1 rfl B.range (pa_cons pe_int pa_nil)) (pg_name (i := 3) sc__law_octets_right.nd rfl (Or.inl rfl))
          (pss_cons (ps_set (i := 4) sc__law_octets_right.nd rfl (Or.inl rfl) (pe_ifExp (pt_cmpR op_eq (pv 3) pe_int (nomark _)) (pe_callTy call_list_of rfl B.list (by decide +kernel) (pa_cons (pv 0) pa_nil)) (pe_callTy call_tuple_of rfl B.tuple (by decide +kernel) (pa_cons (pv 0) pa_nil))))
          (pss_cons (ps_set (i := 5) sc__law_octets_right.nd rfl (Or.inl rfl) (pe_pm c__law_asked (hr.mono (by decide)) rfl (pa_cons (pv 4) (pa_cons (pv 3) pa_nil))))
          (pss_cons (ps_if (PW.pt (pw_or (pt_cmpR op_ne (pe_callB (cr_repr gd hu30) rfl B.repr (by decide +kernel) (pa_cons (pv 5) pa_nil)) (pe_callB (cr_repr gd hu30) rfl B.repr (by decide +kernel) (pa_cons (pv 2) pa_nil)) (nomark _)) (pw_or1 (pt_cmpR op_ne (pe_callB (cr_repr gd hu30) rfl B.repr (by decide +kernel) (pa_cons (pe_callTy call_list_of rfl B.list (by decide +kernel) (pa_cons (pv 4) pa_nil)) pa_nil)) (pe_callB (cr_repr gd hu30) rfl B.repr (by decide +kernel) (pa_cons (pv 0) pa_nil)) (nomark _)))))
            (pss_one (ps_ret pe_bl))
            pss_nil)
          (pss_cons (ps_if (pt_cmpR op_ne (pe_callB (cr_repr gd hu30) rfl B.repr (by decide +kernel) (pa_cons (pe_pm c__law_parts_asked (hr.mono (by decide)) rfl (pa_cons (pv 4) pa_nil)) pa_nil)) (pe_callB (cr_repr gd hu30) rfl B.repr (by decide +kernel) (pa_cons (pv 1) pa_nil)) (nomark _))
            (pss_one (ps_ret pe_bl))
            pss_nil)
          (pss_one (ps_if (pt_val (pe_callB call_isi rfl B.isinstance (by decide +kernel) (pa_cons (pv 2) (pa_cons (pe_bltn (v := .ty "list") rfl B.list (by decide +kernel) rfl) pa_nil))))
            (pss_cons (ps_if (pt_cmpR (or_neD (K := M.K) hr.units) (pe_pm c_pack (hr.mono (by decide)) rfl (pa_cons (pv 5) pa_nil)) (pv 0) (nomark _))
              (pss_one (ps_ret pe_bl))
              pss_nil)
            (pss_one (ps_expr (pe_bm PySem.F.plainAttrs_list PySem.F.slot_list_append PySem.F.type_list_append mt_append (pv 5) (pa_cons (pe_tup (pa_cons pe_int (pa_cons pe_int pa_nil))) pa_nil)))))
            pss_nil)))))))
        (pss_cons (ps_if (pt_not (pt_val (pe_callB call_isi rfl B.isinstance (by decide +kernel) (pa_cons (pv 2) (pa_cons (pe_bltn (v := .ty "list") rfl B.list (by decide +kernel) rfl) pa_nil)))))
          (pss_one (ps_ret pe_bl))
          pss_nil)
        (pss_cons (ps_set (i := 6) sc__law_octets_right.nd rfl (Or.inl rfl) (pe_callB (cr_sortSetK (w := M.w) rfl) rfl B.sorted (by decide +kernel) (pa_cons (pe_callTy (cr_setLK (K := M.K) (w := M.w) rfl) rfl B.set (by decide +kernel) (pa_cons (pe_lst (pa_cons pe_int (pa_cons pe_int (pa_cons (pe_op op_fdiv (pe_len (K := M.K) rfl B.len (pv 0)) pe_int) (pa_cons (pe_op op_sub (pe_len (K := M.K) rfl B.len (pv 0)) pe_int) pa_nil))))) pa_nil)) pa_nil)))
        (pss_one (ps_ret (pe_cmpR (or_eqD (K := M.K) hr.units) (pe_lc (own := [("_law_end", 7)]) (g := (gName 7)) rfl sc__law_octets_right.nd (pi_list (pv 6)) (blkOk_by (N := ["_law_octets_here", "_law_parts", "_law_due", "_law_turn", "_law_handed", "_law_told_here", "_law_ends", "_law_end"]) (sc := defScope (top 82)) (by decide +kernel)) (fun _ _ _ _ _ => (pg_name (i := 7) sc__law_octets_right.nd rfl (Or.inl rfl))) (fun _ _ _ _ _ => (pts_one (pt_cmpR op_ne (pe_pm c__law_asked (hr.mono (by decide)) rfl (pa_cons (pe_slL (K := M.K) (pv 0) po_none (po_some (pv 7))) (pa_cons pe_int pa_nil))) pe_str (nomark _)))) (fun _ _ _ _ _ => (pv 7))) (pe_lst pa_nil) (nomark _))))))), fun x1 x2 d1 d2 H1 L e1 D => ?_⟩
      refine seq_go ⟨_, rfl, by decide, by decide, ?_⟩
      refine for_range (lo := 0) (n := 2) (fun i σ H' => ∃ w3 w4 w5, σ = [some (.ref a), some x1, some x2, w3, w4, w5, none, none] ∧ Ex H1 H') ⟨none, none, none, rfl, Ex.refl _⟩ ?_ ?_
      · rintro i σ H2 hi ⟨w3, w4, w5, rfl, e2⟩
        dsimp only [gName]
        have hs2 := ex_l (e1.trans e2) hs
        refine seq_go (asg_if_cps (fun v H' => ∃ hd, v = .ref hd ∧ Ex H1 H' ∧ SqA M.K H' hd (iv os)) (b := decide ((0 : Int) + (i : Int) = 0)) (fun Q q => ⟨_, rfl, rfl, _, rfl, by rw [dec_int']; exact q⟩)
          (fun _ Q k => ⟨_, rfl, a, _, rfl, .inl hs2, fun l nl => k _ _ ⟨l, rfl, e2.trans (Ex.new nl), .inl (SqL.of upd_same)⟩⟩)
          (fun _ Q k => ⟨_, rfl, a, _, rfl, .inl ⟨hs2, fun l nl => k _ _ ⟨l, rfl, e2.trans (Ex.new nl), .inr (SqT.of upd_same)⟩⟩⟩) ?_)
        rintro _ H3 ⟨hd, rfl, e3, hh⟩
        dsimp only
        refine seq_go (asg_go ⟨_, rfl, _, rfl, hd, _, os, rfl, hh, O, D.asked H3 _ e3 fun v H4 e4 rv hv => ?_⟩)
        dsimp only [gName]
        have e14 := e3.trans e4
        have rx2 := D.r2.ex e14
        refine seq_go ⟨_, rfl, _, _, rfl, rv.1 _ (Ex.refl _), rv.2.1, rv.2.2, _, rfl, _, _, rfl, rx2.1 _ (Ex.refl _), rx2.2.1, rx2.2.2, rfl, _, rfl, ?_⟩
        rw [eS]
        simp only [Bool.false_eq_true, if_false]
        -- list(handed)
        refine ⟨_, rfl, hd, _, rfl, hh.ex e4, fun l nl => ?_⟩
        have e5 : Ex H4 (upd H4 l (.lst (iv os))) := Ex.new nl
        have hl5 : (upd H4 l (.lst (iv os))) l = some (.lst (iv os)) := upd_same
        generalize upd H4 l (.lst (iv os)) = H5 at *
        have e45 := e4.trans e5
        have e15 := e14.trans e5
        have rl : Rp M.K H5 (.ref l) (dI os) := Rp.ints (SqL.of hl5) lO (shi_oct O.oct)
        have hs5 := ex_l (e1.trans e15) hs
        have ro : Rp M.K H5 (.ref a) (dI os) := Rp.ints hs5 lO (shi_oct O.oct)
        refine ⟨_, _, rfl, rl.1 _ (Ex.refl _), rl.2.1, rl.2.2, _, rfl, _, _, rfl, ro.1 _ (Ex.refl _), ro.2.1, ro.2.2, rfl, _, rfl, ?_⟩
        rw [eS]
        simp only [Bool.false_eq_true, if_false]
        refine nx_go ?_
        dsimp only
        -- in parts
        refine seq_go ⟨_, rfl, hd, os, rfl, hh.ex e45, O, D.parts H5 _ e15 fun v2 H6 e6 rv2 => ?_⟩
        have e16 := e15.trans e6
        have rx1 := D.r1.ex e16
        refine ⟨_, _, rfl, rv2.1 _ (Ex.refl _), rv2.2.1, rv2.2.2, _, rfl, _, _, rfl, rx1.1 _ (Ex.refl _), rx1.2.1, rx1.2.2, rfl, _, rfl, ?_⟩
        rw [eS]
        simp only [Bool.false_eq_true, if_false]
        refine nx_go ?_
        dsimp only
        have ty := D.ty
        cases L with
        | false =>
          simp only [Bool.false_eq_true, if_false] at ty
          obtain ⟨er, rfl⟩ := ty
          refine if_go (b := false) (fun Q k => ⟨_, rfl, .str (es er), .ty "list", .type "str", .type "list", false, rfl, .ty _, .base (.str _), rfl, false, rfl, k⟩) ?_
          exact nx_go ⟨_, _, _, rfl, e16⟩
        | true =>
          simp only [if_true] at ty
          obtain ⟨p0, tl0, rfl, hp0⟩ := ty
          obtain ⟨pv, tlv, ts, vs, rfl, npv, hpv, tv, tm, sm, lv, whole⟩ := hv rfl
          refine if_go (b := true) (fun Q k => ⟨_, rfl, .ref p0, .ty "list", .type "list", .type "list", true, rfl, .ty _, .base (.lst (e16 _ _ hp0)), rfl, true, rfl, k⟩) ?_
          have ef : (List.zip ts vs).map Prod.fst = ts := List.map_fst_zip (by omega)
          have eg : (List.zip ts vs).map Prod.snd = vs := List.map_snd_zip (by omega)
          have e46 := e5.trans e6
          rw [if_pos rfl]
          refine seq_go ⟨_, rfl, pv, tlv, List.zip ts vs, rfl, e46 _ _ hpv, tv.ex e46, by rw [ef]; exact tm, by rw [eg]; exact sm, ?_⟩
          rw [ef, eg, whole]
          intro H7 p7 e7 np7 hp7
          refine ⟨_, rfl, dI os, dI os, Dp.ints (SqL.of hp7), Dp.ints (ex_l (e1.trans (e16.trans e7)) hs), shaped_ints _, shaped_ints _, _, rfl, ?_⟩
          rw [eqv_ints, decide_eq_true rfl]
          simp only [Bool.not_true, Bool.false_eq_true, if_false]
          refine nx_go ?_
          dsimp only
          have e47 := e46.trans e7
          refine ⟨_, rfl, .inl ⟨rfl, _, SqL.of (e47 _ _ hpv)⟩, by show 2 ≤ sizeLine; decide, fun y ny => ?_⟩
          have e8 := Ex.new (o := .tup [V.int 0, V.int 0]) ny
          refine ⟨_, _, _, rfl, rfl, e8 _ _ (e47 _ _ hpv), szl ?_, ?_⟩
          · rw [tv.length, List.length_zip]
            have := tm.few
            omega
          · exact ⟨_, _, _, rfl, ((e16.trans e7).trans e8).mut (Evl.fresh_back e3 npv)⟩
      · rintro σ H2 ⟨w3, w4, w5, rfl, e2⟩
        dsimp only
        have ty := D.ty
        cases L with
        | false =>
          simp only [Bool.false_eq_true, if_false] at ty
          obtain ⟨er, rfl⟩ := ty
          refine seq_go (if_go (b := true) (Tv.not (a := false) (fun Q k => ⟨_, rfl, .str (es er), .ty "list", .type "str", .type "list", false, rfl, .ty _, .base (.str _), rfl, false, rfl, k⟩)) ?_)
          exact q _ (e1.trans e2)
        | true =>
          simp only [if_true] at ty
          obtain ⟨p0, tl0, rfl, hp0⟩ := ty
          obtain ⟨l2, sh⟩ := D.fin rfl
          refine seq_go (if_go (b := false) (Tv.not (a := true) (fun Q k => ⟨_, rfl, .ref p0, .ty "list", .type "list", .type "list", true, rfl, .ty _, .base (.lst (e2 _ _ hp0)), rfl, true, rfl, k⟩)) ?_)
          refine nx_go ?_
          dsimp only
          have hs2 := ex_l (e1.trans e2) hs
          have el : (((iv os).length : Nat) : Int) = (os.length : Int) := by rw [List.length_map]
          refine seq_go (asg_go ⟨_, rfl, a, _, rfl, .inl hs2, _, _, rfl, rfl, ⟨by decide, by decide⟩, _, rfl, a, _, rfl, .inl hs2, _, _, rfl, rfl, by show 4 ≤ sizeLine; decide, fun z nz => ?_⟩)
          have ez := Ex.new (o := .lst (iv [0, 1, (((iv os).length : Nat) : Int) / 2, (((iv os).length : Nat) : Int) - 1])) nz
          refine ⟨z, [0, 1, (((iv os).length : Nat) : Int) / 2, (((iv os).length : Nat) : Int) - 1], rfl, SqL.of upd_same, by simp, fun p c np => ?_⟩
          have ep := ez.trans (Ex.new (o := SetO M.w p (fun j => decide (j ∈ [0, 1, (((iv os).length : Nat) : Int) / 2, (((iv os).length : Nat) : Int) - 1])) c) np)
          refine ⟨p, _, c, rfl, upd_same, fun ns t pw mem nt => ?_⟩
          have et := ep.trans (Ex.new (o := .lst (iv ns)) nt)
          have ht : (upd (upd (upd H2 z (.lst (iv [0, 1, (((iv os).length : Nat) : Int) / 2, (((iv os).length : Nat) : Int) - 1]))) p (SetO M.w p (fun j => decide (j ∈ [0, 1, (((iv os).length : Nat) : Int) / 2, (((iv os).length : Nat) : Int) - 1])) c)) t (.lst (iv ns))) t = some (.lst (iv ns)) := upd_same
          show gName 6 (.ref t) _ (upd (upd (upd H2 z (.lst (iv [0, 1, (((iv os).length : Nat) : Int) / 2, (((iv os).length : Nat) : Int) - 1]))) p (SetO M.w p (fun j => decide (j ∈ [0, 1, (((iv os).length : Nat) : Int) / 2, (((iv os).length : Nat) : Int) - 1])) c)) t (.lst (iv ns))) _
          generalize upd (upd (upd H2 z (.lst (iv [0, 1, (((iv os).length : Nat) : Int) / 2, (((iv os).length : Nat) : Int) - 1]))) p (SetO M.w p (fun j => decide (j ∈ [0, 1, (((iv os).length : Nat) : Int) / 2, (((iv os).length : Nat) : Int) - 1])) c)) t (.lst (iv ns)) = Ht at *
          dsimp only [gName]
          have e1t := e1.trans (e2.trans et)
          have small : ∀ n ∈ ns, 0 ≤ n ∧ n < (os.length : Int) := fun n hn => by
            have m := (mem n).1 hn
            rw [decide_eq_true_iff] at m
            simp only [List.mem_cons, List.not_mem_nil, or_false] at m
            rw [el] at m
            omega
          refine ⟨_, rfl, t, rfl, ⟨_, SqL.of ht⟩, fun D0 nD => ?_⟩
          have ntD : t ≠ D0 := fun z => by rw [z, nD] at ht; cases ht
          refine lc_list (a := t) (xs := iv ns) (fun i H' => Ex Ht H' ∧ H' D0 = some (.lst [])) ⟨Ex.new nD, upd_same⟩ (fun i H' _ h => SqL.of (h.1 _ _ ht)) ?_ ?_
          · rintro i x H3 hx ⟨e3, h3⟩
            obtain ⟨n, hn, rfl⟩ := iv_at hx
            have hn' := small n (List.mem_of_getElem? hn)
            obtain ⟨e, rfl⟩ := Int.eq_ofNat_of_zero_le hn'.1
            have he : e < os.length := by omega
            refine ⟨rfl, ?_⟩
            have hs3 := ex_l (e1t.trans e3) hs
            refine ⟨_, rfl, _, rfl, _, rfl, a, _, rfl, hs3, fun y ny => ?_⟩
            rw [cut_hi, iv_take]
            have ey := Ex.new (o := .lst (iv (os.take e))) ny
            refine ⟨y, 0, os.take e, rfl, .inl (SqL.of upd_same), O.take e, ?_⟩
            rw [sh e he]
            intro H4 e4
            have e34 := ey.trans e4
            refine ⟨rfl, _, rfl, ?_⟩
            show (if (!decide (V.str (es .short) = V.str "short")) = true then _ else _)
            rw [show (!decide (V.str (es .short) = V.str "short")) = false from eS "short"]
            simp only [Bool.false_eq_true, if_false]
            exact ⟨e3.trans e34, e34 _ _ h3⟩
          · rintro H3 ⟨e3, h3⟩
            refine ⟨by show 0 ≤ sizeLine; decide, fun y ny => ?_⟩
            have ey := Ex.new (o := .lst ([] : List V)) ny
            refine ⟨dI [], dI [], Dp.ints (xs := []) (SqL.of (ey _ _ h3)), Dp.ints (xs := []) (SqL.of upd_same), shaped_ints [], shaped_ints [], ?_⟩
            rw [eqv_ints, decide_eq_true rfl]
            exact q _ (e1t.trans (e3.trans ey))
    refine ⟨_, (pss_cons (ps_set (i := 1) sc__law_octets_right.nd rfl (Or.inl rfl) (pe_pm c__law_parts_due (hr.mono (by decide)) rfl (pa_cons (pv 0) pa_nil)))
      (pss_cons (ps_set (i := 2) sc__law_octets_right.nd rfl (Or.inl rfl) (pv 1))
      (pss_cons (ps_if (pt_val (pe_callB call_isi rfl B.isinstance (by decide +kernel) (pa_cons (pv 1) (pa_cons (pe_bltn (v := .ty "list") rfl B.list (by decide +kernel) rfl) pa_nil))))
        (pss_one (ps_set (i := 2) sc__law_octets_right.nd rfl (Or.inl rfl) (pe_ifExp (pt_cmpR op_gt (pe_ixL (K := M.K) (pv 1) pe_int (fun _ _ => rfl)) pe_int (nomark _)) pe_str (pe_ixL (K := M.K) (pv 1) pe_int (fun _ _ => rfl)))))
        pss_nil)
      hrest))), ?_⟩
    refine seq_go (asg_go ⟨_, rfl, a, os, rfl, hs, O, ?_⟩)
    dsimp only [gName]
    unfold ptO
    -- the same octets, handed later
    have pso : ∀ {H' : Hp} {Q' : VK} {r : Except Er ((List Int × List Int) × Nat)}, parts os = r → (match r with
      | .ok ((ts, vs), a2) => ∀ (H'' : Hp) (p q : Addr) (tl : List V), Ex H' H'' → H' p = none → H' q = none → H'' p = some (.lst [.ref q, .int ((os.length : Int) - (a2 : Int))]) → H'' q = some (.lst tl) → TupL H'' tl (ts.zip vs) → Q' (.ref p) H''
      | .error e => ∀ H'', Ex H' H'' → Q' (.str (es e)) H'') → ptO os H' Q' := fun {H' Q' r} e h => by
      unfold ptO
      rw [e]
      exact h
    have uso : ∀ {H' : Hp} {Q' : VK} {r : Except Er (List Int × List Int)}, unpackR os = r → asO H' r Q' → asO H' (unpackR os) Q' := fun e h => by rw [e]; exact h
    cases hp : parts os with
    | error er =>
      intro H1 e1
      have eu : unpackR os = .error er := by
        unfold unpackR
        rw [hp]
      refine seq_go (asg_go ⟨_, rfl, ?_⟩)
      dsimp only [gName]
      refine seq_go (if_go (b := false) (fun Q k => ⟨_, rfl, .str (es er), .ty "list", .type "str", .type "list", false, rfl, .ty _, .base (.str _), rfl, false, rfl, k⟩) ?_)
      refine nx_go (krest (.str (es er)) (.str (es er)) (.str (es er)) (.str (es er)) H1 false e1 ⟨Rp.str er, Rp.str er, ⟨er, rfl⟩, fun H' Q' e' k => uso eu fun H'' e'' => k _ _ e'' (Rp.str er) (fun z => by cases z), fun H' Q' e' k => pso hp fun H'' e'' => k _ _ e'' (Rp.str er), fun z => by cases z⟩)
    | ok y =>
      obtain ⟨⟨ts, vs⟩, a2⟩ := y
      intro H1 p1 q1 tl e1 np nq hp1 hq1 t1
      obtain ⟨a1, g1, g2, g3, g4, g5⟩ := parts_inv hp
      obtain ⟨tm, tt, tf⟩ := tm_times O g1
      obtain ⟨sm, lv⟩ := sm_vals O tf g2
      have shp := shp_zip tm sm tf
      have shn : ShI ((os.length : Int) - (a2 : Int)) := ShI.small (by omega) (by omega)
      have rp1 : Rp M.K H1 (.ref p1) (dO2 (ts.zip vs) ((os.length : Int) - (a2 : Int))) := Rp.parts hp1 hq1 t1 shp shn
      have pask : ∀ (H' : Hp) (Q' : VK), Ex H1 H' → (∀ v H'', Ex H' H'' → Rp M.K H'' v (dO2 (ts.zip vs) ((os.length : Int) - (a2 : Int))) → Q' v H'') → ptO os H' Q' := fun H' Q' e' k => pso hp fun H'' p' q' tl' e'' n1 n2 h1 h2 t' => k _ _ e'' (Rp.parts h1 h2 t' shp shn)
      refine seq_go (asg_go ⟨_, rfl, ?_⟩)
      dsimp only [gName]
      refine seq_go (if_go (b := true) (fun Q k => ⟨_, rfl, .ref p1, .ty "list", .type "list", .type "list", true, rfl, .ty _, .base (.lst hp1), rfl, true, rfl, k⟩) ?_)
      refine asg_go (ifx_go (b := decide ((0 : Int) < (os.length : Int) - (a2 : Int))) (fun Q k => ⟨_, rfl, p1, _, 1, _, rfl, rfl, SqL.of hp1, rfl, _, _, rfl, rfl, _, rfl, k⟩) ?_)
      by_cases c : (0 : Int) < (os.length : Int) - (a2 : Int)
      · rw [decide_eq_true c]
        have eu : unpackR os = .error .malf := by
          unfold unpackR
          rw [hp]
          simp only
          rw [if_pos (by omega)]
        exact krest (.ref p1) (.str "malformed") _ (.str (es .malf)) H1 false e1 ⟨rp1, Rp.str .malf, ⟨.malf, rfl⟩, fun H' Q' e' k => uso eu fun H'' e'' => k _ _ e'' (Rp.str .malf) (fun z => by cases z), pask, fun z => by cases z⟩
      · rw [decide_eq_false c]
        have eu : unpackR os = .ok (ts, vs) := by
          unfold unpackR
          rw [hp]
          simp only
          rw [if_neg (by omega)]
        have whole : timesO ts ++ packed vs = os := by
          have ea : a2 = os.length := by omega
          rw [tt, g3, ea, List.take_of_length_le (l := os.drop a1) (by rw [List.length_drop]; omega), List.take_append_drop]
        have l2 : 2 ≤ os.length := by
          have n1 : 1 ≤ (numO (ts.length : Int)).length := numO_pos _
          obtain ⟨w, hw, ew⟩ := packed_row vs
          rw [← whole, List.length_append, ew]
          unfold timesO row
          rw [List.length_append, List.length_cons]
          omega
        refine ⟨_, rfl, p1, _, 0, _, rfl, rfl, SqL.of hp1, rfl, ?_⟩
        exact krest (.ref p1) (.ref q1) _ (dP (ts.zip vs)) H1 true e1 ⟨rp1, Rp.pairs hq1 t1 shp, ⟨q1, tl, rfl, hq1⟩, fun H' Q' e' k => uso eu fun H'' p' tl' e'' n1 h1 t' => k _ _ e'' (Rp.pairs h1 t' shp) (fun _ => ⟨p', tl', ts, vs, rfl, n1, h1, t', tm, sm, lv.symm, whole⟩), pask,
          fun _ => ⟨l2, fun e he => unpack_short eu e he⟩⟩
end L2.EG

set_option Elab.async false
set_option linter.all false
set_option maxRecDepth 100000
set_option maxHeartbeats 4000000
/-! The law's defs, part nineteen: law. -/
namespace L2.EG
open PySem PySem.Spec PyProof.Rows EgM
open Evl (Ex ex_l ex_t)

theorem okG1 {M : Md} {x : Str} {st : Stmt} {N ps : List Str} {k : Nat} {sp : Sp} {f : Addr} {fd : FuncData} (F : FunD M.K x x (defArgs st) (defBody st) (defScope st) [] [] f fd) (S : FnScope N ps (defScope st)) (len : ∀ vs H Q E, sp vs H Q E → vs.length = ps.length)
    (body : ∀ (cdv : Value) (A : Around) (outer : List Env) (s : Shared) (H : Hp) (vs : List V) (Q : VK) (E : XK), (A.deeper (envOfC x (defScope st) s.heap.objs.size f cdv)).guards = some [] → Room k (A.deeper (envOfC x (defScope st) s.heap.objs.size f cdv)) → sp vs H Q E →
      ∃ t, PSs (M.cx CX0 N x st f cdv A outer s H E).nox (defBody st) t ∧ t { nx := fun _ H' => Q .non H', rt := Q } (start N vs) H) : FnG M.P M.w M.K M.mg M.base CX0 (k + 1) f fd ps sp := by
  refine L2.EG.okG F S len fun cdv A outer s H vs Q E gd hr h => ?_
  obtain ⟨t, h1, h2⟩ := body cdv A outer s H vs Q E gd hr h
  exact ⟨t, h1.nox, h2⟩
def spLaw (K : PySem.W.Frag) : Sp := fun vs H Q _ => ∃ (s : Addr) (ns : List Int), vs = [.ref s] ∧ SqL K H s (iv ns) ∧ ∀ H', Q (.bl true) H'
theorem sc_law : FnScope ["_law_script", "_law_k", "_law_box_here", "_law_rows", "_law_octets_here"] ["_law_script"] (defScope (top 83)) := ⟨rfl, rfl, rfl, by decide +kernel, rfl, by decide +kernel, by decide +kernel⟩
theorem ok_law {M : Md} (B : Bn M) (c__law_cell : M.pm "_law_cell" 1 ["_law_script", "_law_k"] (spLCell M.K)) (c__law_box : M.pm "_law_box" 1 ["_law_great"] spLBox) (c__law_octets : M.pm "_law_octets" 6 ["_law_box_here"] spLRow) (c__law_octets_right : PmG M "_law_octets_right" 14 ["_law_octets_here"] (spRight M.K)) {f : Addr} {fd : FuncData} (F : FunD M.K "law" "law" (defArgs (top 83)) (defBody (top 83)) (defScope (top 83)) [] [] f fd) : FnG M.P M.w M.K M.mg M.base CX0 15 f fd ["_law_script"] (spLaw M.K) := by
  refine okG1 F sc_law ?len (fun cdv A outer s H vs Q E gd hr h => ?body)
  case len =>
    rintro _ _ _ _ ⟨_, _, rfl, _⟩
    rfl
  case body =>
    refine ⟨_, (pss_cons (ps_for PassesOwn.never rfl (pi_range1 rfl B.range (pa_cons pe_int pa_nil)) (pg_name (i := 1) sc_law.nd rfl (Or.inl rfl))
        (pss_cons (ps_set (i := 2) sc_law.nd rfl (Or.inl rfl) (pe_pm c__law_box (hr.mono (by decide)) rfl (pa_cons (pe_pm c__law_cell (hr.mono (by decide)) rfl (pa_cons (pv 0) (pa_cons (pv 1) pa_nil))) pa_nil)))
        (pss_cons (ps_set (i := 3) sc_law.nd rfl (Or.inl rfl) (pe_lst (pa_cons (pe_pm c__law_octets (hr.mono (by decide)) rfl (pa_cons (pv 2) pa_nil)) (pa_cons (pe_pm c__law_octets (hr.mono (by decide)) rfl (pa_cons (pv 2) pa_nil)) (pa_cons (pe_pm c__law_octets (hr.mono (by decide)) rfl (pa_cons (pv 2) pa_nil)) pa_nil)))))
        (pss_one (ps_for PassesOwn.never rfl (pi_list (pe_op op_cat (pv 3) (pe_slL (K := M.K) (pv 3) po_none (po_some pe_int)))) (pg_name (i := 4) sc_law.nd rfl (Or.inl rfl))
          (pss_one (ps_if (pt_not (pt_val (pe_pmG c__law_octets_right gd (hr.mono (by decide)) rfl (pa_cons (pv 4) pa_nil))))
            (pss_one (ps_ret pe_bl))
            pss_nil)))))))
      (pss_one (ps_ret pe_bl))), ?_⟩
    obtain ⟨sc, ns, rfl, hs, q⟩ := h
    refine seq_go ⟨_, rfl, by decide, by decide, ?_⟩
    refine for_range (lo := 0) (n := 3) (fun i σ H' => ∃ w1 w2 w3 w4, σ = [some (.ref sc), w1, w2, w3, w4] ∧ Ex H H') ⟨none, none, none, none, rfl, Ex.refl _⟩ ?_ ?_
    · rintro i σ H1 hi ⟨w1, w2, w3, w4, rfl, e1⟩
      dsimp only [gName]
      have ei : (0 : Int) + (i : Int) = (i : Int) := by omega
      refine seq_go (asg_go ⟨_, rfl, _, rfl, sc, ns, i, by rw [ei], ex_l e1 hs, fun H2 v e2 => ⟨v, rfl, fun H3 b e3 nb hb => ?_⟩⟩)
      dsimp only [gName]
      have e13 := (e1.trans e2).trans e3
      have nHb : H b = none := Evl.fresh_back (e1.trans e2) nb
      refine seq_go (asg_go ⟨_, rfl, b, 0, rfl, hb, by decide, retB_lv fun H4 r1 o1 e4 b4 l1 O1 => ⟨_, rfl, b, 400, rfl, b4, by decide, retB_lv fun H5 r2 o2 e5 b5 l2 O2 => ⟨_, rfl, b, 800, rfl, b5, by decide, retB_lv fun H6 r3 o3 e6 b6 l3 O3 => ?_⟩⟩⟩)
      refine ⟨by show 3 ≤ sizeLine; decide, fun R nR => ?_⟩
      have l1 := ((l1.y e5).y e6)
      have l2 := l2.y e6
      have eR : Ex H6 (upd H6 R (.lst [V.ref r1, V.ref r2, V.ref r3])) := Ex.new nR
      have hR : (upd H6 R (.lst [V.ref r1, V.ref r2, V.ref r3])) R = some (.lst [V.ref r1, V.ref r2, V.ref r3]) := upd_same
      generalize upd H6 R (.lst [V.ref r1, V.ref r2, V.ref r3]) = H7 at *
      have e07 : Ex H H7 := (((ExB.ex e13 ((e4.trans e5).trans e6) nHb)).trans eR)
      dsimp only [gName]
      have l1 := l1.x eR
      have l2 := l2.x eR
      have l3 := l3.x eR
      refine ⟨_, rfl, _, rfl, _, rfl, R, _, rfl, SqL.of hR, fun R1 n1 => ?_⟩
      have f1 : Ex H7 (upd H7 R1 (.lst [V.ref r1])) := Ex.new n1
      have hR1 : (upd H7 R1 (.lst (cutV [V.ref r1, V.ref r2, V.ref r3] none (some 1)))) R1 = some (.lst [V.ref r1]) := by rw [upd_same]; rfl
      refine ⟨R, R1, _, _, rfl, rfl, f1 _ _ hR, hR1, by show 4 ≤ sizeLine; decide, fun R2 n2 => ?_⟩
      have hR2 : (upd (upd H7 R1 (.lst (cutV [V.ref r1, V.ref r2, V.ref r3] none (some 1)))) R2 (.lst ([V.ref r1, V.ref r2, V.ref r3] ++ [V.ref r1]))) R2 = some (.lst [V.ref r1, V.ref r2, V.ref r3, V.ref r1]) := upd_same
      have f2 : Ex H7 (upd (upd H7 R1 (.lst (cutV [V.ref r1, V.ref r2, V.ref r3] none (some 1)))) R2 (.lst ([V.ref r1, V.ref r2, V.ref r3] ++ [V.ref r1]))) := f1.trans (Ex.new n2)
      generalize upd (upd H7 R1 (.lst (cutV [V.ref r1, V.ref r2, V.ref r3] none (some 1)))) R2 (.lst ([V.ref r1, V.ref r2, V.ref r3] ++ [V.ref r1])) = H8 at *
      have l1 := l1.x f2
      have l2 := l2.x f2
      have l3 := l3.x f2
      have rowOk : ∀ x, x ∈ [V.ref r1, V.ref r2, V.ref r3, V.ref r1] → ∃ r os, x = .ref r ∧ H8 r = some (.lst (iv os)) ∧ OsOk os := fun x hx => by
        simp only [List.mem_cons, List.not_mem_nil, or_false] at hx
        rcases hx with rfl | rfl | rfl | rfl
        · exact ⟨r1, o1, rfl, l1.2, O1⟩
        · exact ⟨r2, o2, rfl, l2.2, O2⟩
        · exact ⟨r3, o3, rfl, l3.2, O3⟩
        · exact ⟨r1, o1, rfl, l1.2, O1⟩
      refine ⟨R2, rfl, ⟨_, SqL.of hR2⟩, ?_⟩
      refine for_it walk_list (fun i σ H' => ∃ w1 w2 w3 w4, σ = [some (.ref sc), w1, w2, w3, w4] ∧ Ex H8 H') ⟨_, _, _, _, rfl, Ex.refl _⟩ (fun i σ H' _ h => by obtain ⟨_, _, _, _, _, e⟩ := h; exact SqL.of (e _ _ hR2)) ?_ ?_
      · rintro i x σ H9 H10 hi ⟨w1, w2, w3, w4, rfl, e9⟩ ⟨rfl, hx⟩
        obtain ⟨r, os, rfl, hr', Or⟩ := rowOk x (List.mem_of_getElem? hx)
        dsimp only [gName]
        refine ⟨_, rfl, r, os, rfl, SqL.of (e9 _ _ hr'), Or, fun Ha ea => ⟨true, rfl, ?_⟩⟩
        exact ⟨_, _, _, _, rfl, e9.trans ea⟩
      · rintro σ H9 ⟨w1, w2, w3, w4, rfl, e9⟩
        exact ⟨_, _, _, _, rfl, (e07.trans f2).trans e9⟩
    · rintro σ H1 ⟨w1, w2, w3, w4, rfl, e1⟩
      exact q _
end L2.EG

set_option Elab.async false
set_option linter.all false
set_option maxRecDepth 100000
set_option maxHeartbeats 0
/-! The head: what stands when law is called. -/
namespace L2.EG
open PySem PySem.Spec PyProof.Rows EgM
def hfn0 : List He.DefD := [⟨("is_list", none), "is_list", "is_list", defArgs (top 13), defBody (top 13), defScope (top 13), [], []⟩, ⟨("is_integer", none), "is_integer", "is_integer", defArgs (top 14), defBody (top 14), defScope (top 14), [], []⟩, ⟨("is_value", none), "is_value", "is_value", defArgs (top 15), defBody (top 15), defScope (top 15), [], []⟩, ⟨("is_count", none), "is_count", "is_count", defArgs (top 16), defBody (top 16), defScope (top 16), [], []⟩, ⟨("check_count", none), "check_count", "check_count", defArgs (top 17), defBody (top 17), defScope (top 17), [], []⟩, ⟨("is_point", none), "is_point", "is_point", defArgs (top 19), defBody (top 19), defScope (top 19), [], []⟩, ⟨("is_points", none), "is_points", "is_points", defArgs (top 20), defBody (top 20), defScope (top 20), [], []⟩, ⟨("is_octets", none), "is_octets", "is_octets", defArgs (top 24), defBody (top 24), defScope (top 24), [], []⟩, ⟨("check_octets", none), "check_octets", "check_octets", defArgs (top 25), defBody (top 25), defScope (top 25), [], []⟩, ⟨("number_octets", none), "number_octets", "number_octets", defArgs (top 26), defBody (top 26), defScope (top 26), [], []⟩, ⟨("signed_octets", none), "signed_octets", "signed_octets", defArgs (top 27), defBody (top 27), defScope (top 27), [], []⟩, ⟨("number_at", none), "number_at", "number_at", defArgs (top 28), defBody (top 28), defScope (top 28), [], []⟩, ⟨("check_values", none), "check_values", "check_values", defArgs (top 32), defBody (top 32), defScope (top 32), [], []⟩, ⟨("differences", none), "differences", "differences", defArgs (top 33), defBody (top 33), defScope (top 33), [], []⟩, ⟨("runs", none), "runs", "runs", defArgs (top 34), defBody (top 34), defScope (top 34), [], []⟩, ⟨("by_plain", none), "by_plain", "by_plain", defArgs (top 35), defBody (top 35), defScope (top 35), [], []⟩, ⟨("by_differences", none), "by_differences", "by_differences", defArgs (top 36), defBody (top 36), defScope (top 36), [], []⟩, ⟨("by_runs", none), "by_runs", "by_runs", defArgs (top 37), defBody (top 37), defScope (top 37), [], []⟩, ⟨("by_dictionary", none), "by_dictionary", "by_dictionary", defArgs (top 38), defBody (top 38), defScope (top 38), [], []⟩, ⟨("told_in", none), "told_in", "told_in", defArgs (top 40), defBody (top 40), defScope (top 40), [], [("way", .int 0)]⟩]
def hfn1 : List He.DefD := [⟨("pack_values", none), "pack_values", "pack_values", defArgs (top 41), defBody (top 41), defScope (top 41), [], []⟩, ⟨("read_plain", none), "read_plain", "read_plain", defArgs (top 42), defBody (top 42), defScope (top 42), [], []⟩, ⟨("read_differences", none), "read_differences", "read_differences", defArgs (top 43), defBody (top 43), defScope (top 43), [], []⟩, ⟨("read_runs", none), "read_runs", "read_runs", defArgs (top 44), defBody (top 44), defScope (top 44), [], []⟩, ⟨("read_known", none), "read_known", "read_known", defArgs (top 45), defBody (top 45), defScope (top 45), [], []⟩, ⟨("read_dictionary", none), "read_dictionary", "read_dictionary", defArgs (top 46), defBody (top 46), defScope (top 46), [], []⟩, ⟨("values_from", none), "values_from", "values_from", defArgs (top 48), defBody (top 48), defScope (top 48), [], []⟩, ⟨("unpack_values", none), "unpack_values", "unpack_values", defArgs (top 49), defBody (top 49), defScope (top 49), [], []⟩, ⟨("is_times", none), "is_times", "is_times", defArgs (top 51), defBody (top 51), defScope (top 51), [], []⟩, ⟨("pack_times", none), "pack_times", "pack_times", defArgs (top 52), defBody (top 52), defScope (top 52), [], []⟩, ⟨("times_from", none), "times_from", "times_from", defArgs (top 53), defBody (top 53), defScope (top 53), [], []⟩, ⟨("unpack_times", none), "unpack_times", "unpack_times", defArgs (top 54), defBody (top 54), defScope (top 54), [], []⟩, ⟨("pack", none), "pack", "pack", defArgs (top 55), defBody (top 55), defScope (top 55), [], []⟩, ⟨("unpack", none), "unpack", "unpack", defArgs (top 56), defBody (top 56), defScope (top 56), [], []⟩, ⟨("_law_cell", none), "_law_cell", "_law_cell", defArgs (top 58), defBody (top 58), defScope (top 58), [], []⟩, ⟨("_law_box", none), "_law_box", "_law_box", defArgs (top 59), defBody (top 59), defScope (top 59), [], []⟩, ⟨("_law_take", none), "_law_take", "_law_take", defArgs (top 60), defBody (top 60), defScope (top 60), [], []⟩, ⟨("_law_times", none), "_law_times", "_law_times", defArgs (top 61), defBody (top 61), defScope (top 61), [], []⟩, ⟨("_law_one", none), "_law_one", "_law_one", defArgs (top 62), defBody (top 62), defScope (top 62), [], []⟩, ⟨("_law_values", none), "_law_values", "_law_values", defArgs (top 63), defBody (top 63), defScope (top 63), [], []⟩]
def hfn2 : List He.DefD := [⟨("_law_number", none), "_law_number", "_law_number", defArgs (top 64), defBody (top 64), defScope (top 64), [], []⟩, ⟨("_law_signed", none), "_law_signed", "_law_signed", defArgs (top 65), defBody (top 65), defScope (top 65), [], []⟩, ⟨("_law_times_told", none), "_law_times_told", "_law_times_told", defArgs (top 66), defBody (top 66), defScope (top 66), [], []⟩, ⟨("_law_runs", none), "_law_runs", "_law_runs", defArgs (top 67), defBody (top 67), defScope (top 67), [], []⟩, ⟨("_law_told", none), "_law_told", "_law_told", defArgs (top 68), defBody (top 68), defScope (top 68), [], []⟩, ⟨("_law_packed", none), "_law_packed", "_law_packed", defArgs (top 69), defBody (top 69), defScope (top 69), [], []⟩, ⟨("_law_next", none), "_law_next", "_law_next", defArgs (top 70), defBody (top 70), defScope (top 70), [], []⟩, ⟨("_law_from", none), "_law_from", "_law_from", defArgs (top 71), defBody (top 71), defScope (top 71), [], []⟩, ⟨("_law_times_read", none), "_law_times_read", "_law_times_read", defArgs (top 72), defBody (top 72), defScope (top 72), [], []⟩, ⟨("_law_known", none), "_law_known", "_law_known", defArgs (top 73), defBody (top 73), defScope (top 73), [], []⟩, ⟨("_law_one_read", none), "_law_one_read", "_law_one_read", defArgs (top 74), defBody (top 74), defScope (top 74), [], []⟩, ⟨("_law_read", none), "_law_read", "_law_read", defArgs (top 75), defBody (top 75), defScope (top 75), [], []⟩, ⟨("_law_parts_due", none), "_law_parts_due", "_law_parts_due", defArgs (top 76), defBody (top 76), defScope (top 76), [], []⟩, ⟨("_law_spoilt", none), "_law_spoilt", "_law_spoilt", defArgs (top 77), defBody (top 77), defScope (top 77), [], []⟩, ⟨("_law_free", none), "_law_free", "_law_free", defArgs (top 78), defBody (top 78), defScope (top 78), [], []⟩, ⟨("_law_octets", none), "_law_octets", "_law_octets", defArgs (top 79), defBody (top 79), defScope (top 79), [], []⟩, ⟨("_law_asked", none), "_law_asked", "_law_asked", defArgs (top 80), defBody (top 80), defScope (top 80), [], []⟩, ⟨("_law_parts_asked", none), "_law_parts_asked", "_law_parts_asked", defArgs (top 81), defBody (top 81), defScope (top 81), [], []⟩, ⟨("_law_octets_right", none), "_law_octets_right", "_law_octets_right", defArgs (top 82), defBody (top 82), defScope (top 82), [], []⟩, ⟨("law", none), "law", "law", defArgs (top 83), defBody (top 83), defScope (top 83), [], []⟩]
def hfn3 : List He.DefD := [⟨("Reader", some "__init__"), "__init__", "Reader.__init__", defArgs ((clsBody (top 29)).getD 0 (.Pass ⟨0, 0, 0, 0⟩)), defBody ((clsBody (top 29)).getD 0 (.Pass ⟨0, 0, 0, 0⟩)), defScope ((clsBody (top 29)).getD 0 (.Pass ⟨0, 0, 0, 0⟩)), [], []⟩, ⟨("Reader", some "left"), "left", "Reader.left", defArgs ((clsBody (top 29)).getD 2 (.Pass ⟨0, 0, 0, 0⟩)), defBody ((clsBody (top 29)).getD 2 (.Pass ⟨0, 0, 0, 0⟩)), defScope ((clsBody (top 29)).getD 2 (.Pass ⟨0, 0, 0, 0⟩)), [], []⟩, ⟨("Reader", some "take"), "take", "Reader.take", defArgs ((clsBody (top 29)).getD 3 (.Pass ⟨0, 0, 0, 0⟩)), defBody ((clsBody (top 29)).getD 3 (.Pass ⟨0, 0, 0, 0⟩)), defScope ((clsBody (top 29)).getD 3 (.Pass ⟨0, 0, 0, 0⟩)), [], []⟩, ⟨("Reader", some "number"), "number", "Reader.number", defArgs ((clsBody (top 29)).getD 4 (.Pass ⟨0, 0, 0, 0⟩)), defBody ((clsBody (top 29)).getD 4 (.Pass ⟨0, 0, 0, 0⟩)), defScope ((clsBody (top 29)).getD 4 (.Pass ⟨0, 0, 0, 0⟩)), [], []⟩, ⟨("Reader", some "signed"), "signed", "Reader.signed", defArgs ((clsBody (top 29)).getD 5 (.Pass ⟨0, 0, 0, 0⟩)), defBody ((clsBody (top 29)).getD 5 (.Pass ⟨0, 0, 0, 0⟩)), defScope ((clsBody (top 29)).getD 5 (.Pass ⟨0, 0, 0, 0⟩)), [], []⟩, ⟨("Short", some "__init__"), "__init__", "Short.__init__", defArgs (stIni 10), defBody (stIni 10), defScope (stIni 10), [], []⟩, ⟨("Malformed", some "__init__"), "__init__", "Malformed.__init__", defArgs (stIni 11), defBody (stIni 11), defScope (stIni 11), [], []⟩]
def hfn : List He.DefD := hfn0 ++ hfn1 ++ hfn2 ++ hfn3
def hfa0 : List He.Fa := [.glo "is_list", .glo "is_integer", .glo "is_value", .glo "is_count", .glo "check_count", .glo "is_point", .glo "is_points", .glo "is_octets", .glo "check_octets", .glo "number_octets", .glo "signed_octets", .glo "number_at", .glo "check_values", .glo "differences", .glo "runs", .glo "by_plain", .glo "by_differences", .glo "by_runs", .glo "by_dictionary", .glo "told_in"]
def hfa1 : List He.Fa := [.glo "pack_values", .glo "read_plain", .glo "read_differences", .glo "read_runs", .glo "read_known", .glo "read_dictionary", .glo "values_from", .glo "unpack_values", .glo "is_times", .glo "pack_times", .glo "times_from", .glo "unpack_times", .glo "pack", .glo "unpack", .glo "_law_cell", .glo "_law_box", .glo "_law_take", .glo "_law_times", .glo "_law_one", .glo "_law_values"]
def hfa2 : List He.Fa := [.glo "_law_number", .glo "_law_signed", .glo "_law_times_told", .glo "_law_runs", .glo "_law_told", .glo "_law_packed", .glo "_law_next", .glo "_law_from", .glo "_law_times_read", .glo "_law_known", .glo "_law_one_read", .glo "_law_read", .glo "_law_parts_due", .glo "_law_spoilt", .glo "_law_free", .glo "_law_octets", .glo "_law_asked", .glo "_law_parts_asked", .glo "_law_octets_right", .glo "law"]
def hfa3 : List He.Fa := [.glo "Reader", .glo "Short", .glo "Malformed", .glo "GrainError", .glo "TELLERS", .glo "READERS", .free "isinstance", .free "list", .free "tuple", .free "int", .free "bool", .free "len", .free "range", .free "all", .free "sum", .free "abs", .free "max", .free "min", .free "sorted", .free "set"]
def hfa4 : List He.Fa := [.free "enumerate", .free "zip", .free "reversed", .free "repr", .int "BASE" 128, .int "MOST" 255, .int "PLAIN" 0, .cls "Reader", .mkr "Reader", .noat "Reader" "octets", .noat "Reader" "at", .meth "Reader" "__init__", .meth "Reader" "left", .meth "Reader" "take", .meth "Reader" "number", .meth "Reader" "signed", .meth "Short" "__init__", .meth "Malformed" "__init__", .exm "Short" "Short" true, .exm "Malformed" "Short" false]
def hfa5 : List He.Fa := [.exm "Malformed" "Malformed" true]
def hfa : List He.Fa := hfa0 ++ hfa1 ++ hfa2 ++ hfa3 ++ hfa4 ++ hfa5
/-- what an exception class of the program is -/
def excB (K : PySem.W.Frag) (x : Str) : Bool := PySem.W.excInitIn K (He.ga K x) excMro "Exception.__new__" && (decide (PySem.W.typeIn K (.ref (He.ma K (He.ga K x) "__init__")) = some (.type "function")) && (PySem.W.keepIn K (.ref (He.ga K x)) &&
  (decide (PySem.W.subIn K (.ref (He.ga K x)) (.type "BaseException") = some true) && decide (PySem.W.typeIn K (.ref (He.ga K x)) = some (.type "type")))))
def ginB (K : PySem.W.Frag) (G : Addr) : Bool := match PySem.W.findCls K (.ref G) (.type "type") "__init__" with
  | some (.val (.builtin z)) => decide (z = "Exception.__init__")
  | _ => false
theorem ginB_ok {K : PySem.W.Frag} {G : Addr} (h : ginB K G = true) : PySem.W.findCls K (.ref G) (.type "type") "__init__" = some (.val (.builtin "Exception.__init__")) := by
  unfold ginB at h
  split at h
  · next z e => rw [e, of_decide_eq_true h]
  · cases h
def exB (K : PySem.W.Frag) : Bool := excB K "Short" && (excB K "Malformed" && (He.eqO (PySem.W.specialIn K (.ref (He.ga K "GrainError")) "__getattribute__") (some (some (.builtin "type.__getattribute__"))) && (PySem.W.readsIn K (He.ga K "GrainError") (.type "type") && (ginB K (He.ga K "GrainError") &&
  (decide (PySem.W.exmAny K (.ref (He.ga K "Short")) [.ref (He.ga K "Short"), .ref (He.ga K "Malformed")] = some true) && (decide (PySem.W.exmAny K (.ref (He.ga K "Malformed")) [.ref (He.ga K "Short"), .ref (He.ga K "Malformed")] = some true) &&
  (He.tupB K "TELLERS" [.glo "by_plain", .glo "by_differences", .glo "by_runs", .glo "by_dictionary"] && He.tupB K "READERS" [.glo "read_plain", .glo "read_differences", .glo "read_runs", .glo "read_dictionary"])))))))
/-! ### the hook -/
def obsH (K : PySem.W.Frag) : He.AlD × Bool := (He.obsD hfa hfn K, exB K)
def valH : He.AlD × Bool := (He.valD hfn, true)
/-- what these name -/
def lvl (g : Addr → Option Obj) (as : List Addr) : List Addr := as.flatMap fun a => match g a with
  | some o => He.refsD o
  | none => []
def lvls (g : Addr → Option Obj) : Nat → List Addr → List Addr
  | 0, as => as
  | n + 1, as => as ++ lvls g n (lvl g as)
def obsHG (n : Nat) (g : Addr → Option Obj) : He.AlD × Bool := obsH (He.frG g (cStatics :: lvls g n [mainGlobals]))
def hkH : PySem.W.Hook where
  α := He.AlD × Bool
  obs := fun s => obsHG 4 s.heap.get?
  val := fun _ => valH
  says := fun _ h => ∃ K : PySem.W.Frag, K.In h ∧ obsH K = valH
  of := fun _ _ e => ⟨_, He.frG_in, e⟩
  keeps := fun _ _ _ ⟨K, hK, c⟩ k => ⟨K, PySem.W.Frag.In.keeps hK k, c⟩
abbrev hR : PySem.W.OpenRow := PySem.W.OpenLaw.row PySem.Challenge.rw_everygrain_k17_whole_only_packs_are_read
def obH (s : PySem.W.SharedT) : He.AlD × Bool := obsHG 4 (HandSHeadRun.getT s)
theorem obH_eq (s : PySem.W.SharedT) : obH s = hkH.obs s.abs := by
  have e : HandSHeadRun.getT s = s.abs.heap.get? := funext (HandSHeadRun.getT_eq s)
  show obsHG 4 (HandSHeadRun.getT s) = obsHG 4 s.abs.heap.get?
  rw [e]
def hnm0 : List PySem.Str := ["_wall", "GrainError", "InvalidCount", "InvalidValue", "InvalidOctets", "InvalidPoints", "InvalidTimes", "InvalidValues", "InvalidWay", "Short", "Malformed", "is_list", "is_integer", "is_value", "is_count", "check_count", "is_point", "is_points", "BASE", "MOST", "is_octets", "check_octets", "number_octets", "signed_octets", "number_at", "Reader", "PLAIN", "check_values", "differences", "runs"]
def hnm1 : List PySem.Str := ["by_plain", "by_differences", "by_runs", "by_dictionary", "TELLERS", "told_in", "pack_values", "read_plain", "read_differences", "read_runs", "read_known", "read_dictionary", "READERS", "values_from", "unpack_values", "is_times", "pack_times", "times_from", "unpack_times", "pack", "unpack", "_law_cell", "_law_box", "_law_take", "_law_times", "_law_one", "_law_values", "_law_number", "_law_signed", "_law_times_told"]
def hnm2 : List PySem.Str := ["_law_runs", "_law_told", "_law_packed", "_law_next", "_law_from", "_law_times_read", "_law_known", "_law_one_read", "_law_read", "_law_parts_due", "_law_spoilt", "_law_free", "_law_octets", "_law_asked", "_law_parts_asked", "_law_octets_right"]
def hnm : List PySem.Str := hnm0 ++ hnm1 ++ hnm2
theorem hrun (w : World) : HandSHeadRun.RunEq hR (PySem.W.view hR.prog [83]) hkH obH 6000 hnm w := by
  intro os
  kernel_rfl
end L2.EG

set_option Elab.async false
set_option linter.all false
set_option maxRecDepth 100000
set_option maxHeartbeats 4000000
/-! The head's facts, put together. -/
namespace L2.EG
open PySem PySem.Spec PyProof.Rows EgM
theorem kb_unpack {K : PySem.W.Frag} {f : Addr} {fd : FuncData} (F : FunD K "unpack" "unpack" (defArgs (top 56)) (defBody (top 56)) (defScope (top 56)) [] [] f fd) : KBinds K fd ["octets"] ["octets"] (fun us ws => us ++ ws) (fun vs zs => vs ++ zs) := by
  refine ⟨?_, fun r1 r2 => r1.append r2⟩
  intro s us ws X l
  obtain ⟨oc, od, dV, kV, doc, pm, an, cdv, ct, osl, rfl, lk, hcd, hD, hK⟩ := F.ex
  rcases hD with ⟨_, rfl⟩ | ⟨e, _⟩
  · match us, ws, l with
    | [], [v], _ => exact BindsTo.of_eq rfl
    | [u], [], _ => exact BindsTo.of_eq rfl
  · exact absurd rfl e
theorem cxe {P : Program} {w : World} {K : PySem.W.Frag} {h : Heap} {mg : Str → Option Value} {base : Heap} {fd : FuncData} (X : K.In h) (G : h.Ns mainGlobals mg) (c : He.SaysD hfa hfn K) (cx : exB K = true)
    (FL : FunD K "law" "law" (defArgs (top 83)) (defBody (top 83)) (defScope (top 83)) [] [] (He.ga K "law") fd) : FnG P w K mg base CX0 15 (He.ga K "law") fd ["_law_script"] (spLaw K) := by
  let M : Md := ⟨P, w, K, mg, base⟩
  have g_Reader : M.mg "Reader" = some (.ref (He.ga K "Reader")) := He.glo_ok X G (c.fact 60 (f := .glo "Reader") rfl)
  have g_Short : M.mg "Short" = some (.ref (He.ga K "Short")) := He.glo_ok X G (c.fact 61 (f := .glo "Short") rfl)
  have g_Malformed : M.mg "Malformed" = some (.ref (He.ga K "Malformed")) := He.glo_ok X G (c.fact 62 (f := .glo "Malformed") rfl)
  have g_GrainError : M.mg "GrainError" = some (.ref (He.ga K "GrainError")) := He.glo_ok X G (c.fact 63 (f := .glo "GrainError") rfl)
  have g_TELLERS : M.mg "TELLERS" = some (.ref (He.ga K "TELLERS")) := He.glo_ok X G (c.fact 64 (f := .glo "TELLERS") rfl)
  have g_READERS : M.mg "READERS" = some (.ref (He.ga K "READERS")) := He.glo_ok X G (c.fact 65 (f := .glo "READERS") rfl)
  have B : Bn M := ⟨He.free_ok X G (c.fact 66 (f := .free "isinstance") rfl), He.free_ok X G (c.fact 67 (f := .free "list") rfl), He.free_ok X G (c.fact 68 (f := .free "tuple") rfl), He.free_ok X G (c.fact 69 (f := .free "int") rfl), He.free_ok X G (c.fact 70 (f := .free "bool") rfl), He.free_ok X G (c.fact 71 (f := .free "len") rfl), He.free_ok X G (c.fact 72 (f := .free "range") rfl), He.free_ok X G (c.fact 73 (f := .free "all") rfl), He.free_ok X G (c.fact 74 (f := .free "sum") rfl), He.free_ok X G (c.fact 75 (f := .free "abs") rfl), He.free_ok X G (c.fact 76 (f := .free "max") rfl), He.free_ok X G (c.fact 77 (f := .free "min") rfl), He.free_ok X G (c.fact 78 (f := .free "sorted") rfl), He.free_ok X G (c.fact 79 (f := .free "set") rfl), He.free_ok X G (c.fact 80 (f := .free "enumerate") rfl), He.free_ok X G (c.fact 81 (f := .free "zip") rfl), He.free_ok X G (c.fact 82 (f := .free "reversed") rfl), He.free_ok X G (c.fact 83 (f := .free "repr") rfl)⟩
  have kk : Ks M := ⟨He.int_ok X G (c.fact 84 (f := .int "BASE" 128) rfl), He.int_ok X G (c.fact 85 (f := .int "MOST" 255) rfl)⟩
  have R : RdF M (He.ga K "Reader") := ⟨g_Reader, He.cls_ok (c.fact 87 (f := .cls "Reader") rfl), fun f e => by
    have m := He.mkr_ok (c.fact 88 (f := .mkr "Reader") rfl)
    have e2 := m.init.symm.trans e
    cases e2
    exact m, He.noat_ok (c.fact 89 (f := .noat "Reader" "octets") rfl), He.noat_ok (c.fact 90 (f := .noat "Reader" "at") rfl)⟩
  unfold exB at cx
  obtain ⟨x1, cx⟩ := He.ba cx
  obtain ⟨x2, cx⟩ := He.ba cx
  obtain ⟨x3, cx⟩ := He.ba cx
  obtain ⟨x4, cx⟩ := He.ba cx
  obtain ⟨x5, cx⟩ := He.ba cx
  obtain ⟨x6, cx⟩ := He.ba cx
  obtain ⟨x7, cx⟩ := He.ba cx
  obtain ⟨x8, x9⟩ := He.ba cx
  have GF : GrF K mg (He.ga K "GrainError") := ⟨g_GrainError, He.eqO_ok x3, x4, ginB_ok x5⟩
  obtain ⟨y1, y⟩ := He.ba (show (_ && _) = true from x1)
  obtain ⟨y2, y⟩ := He.ba y
  obtain ⟨y3, y⟩ := He.ba y
  obtain ⟨y4, y5⟩ := He.ba y
  have exShort : ExF K (He.ga K "Short") (He.ma K (He.ga K "Short") "__init__") := ⟨y1, (He.meth_ok (c.fact 96 (f := .meth "Short" "__init__") rfl)).at_, of_decide_eq_true y2, y3, of_decide_eq_true y4, of_decide_eq_true y5⟩
  obtain ⟨fdShort, FShort⟩ := c.def_ 65 rfl
  have eShort : Ec M "Short" (He.ga K "Short") := ⟨g_Short, _, fdShort, exShort, ok_ini10 (M := M) GF exShort FShort, binds_ini (M := M) (i := 10) FShort fun _ _ _ _ _ _ us hl => match us, hl with | [_], _ => rfl⟩
  obtain ⟨y1, y⟩ := He.ba (show (_ && _) = true from x2)
  obtain ⟨y2, y⟩ := He.ba y
  obtain ⟨y3, y⟩ := He.ba y
  obtain ⟨y4, y5⟩ := He.ba y
  have exMalformed : ExF K (He.ga K "Malformed") (He.ma K (He.ga K "Malformed") "__init__") := ⟨y1, (He.meth_ok (c.fact 97 (f := .meth "Malformed" "__init__") rfl)).at_, of_decide_eq_true y2, y3, of_decide_eq_true y4, of_decide_eq_true y5⟩
  obtain ⟨fdMalformed, FMalformed⟩ := c.def_ 66 rfl
  have eMalformed : Ec M "Malformed" (He.ga K "Malformed") := ⟨g_Malformed, _, fdMalformed, exMalformed, ok_ini11 (M := M) GF exMalformed FMalformed, binds_ini (M := M) (i := 11) FMalformed fun _ _ _ _ _ _ us hl => match us, hl with | [_], _ => rfl⟩
  have X2 : Mt M (He.ga K "Short") (He.ga K "Malformed") := ⟨of_decide_eq_true x6, of_decide_eq_true x7, He.exm_ok (c.fact 98 (f := .exm "Short" "Short" true) rfl), He.exm_ok (c.fact 99 (f := .exm "Malformed" "Short" false) rfl), He.exm_ok (c.fact 100 (f := .exm "Malformed" "Malformed" true) rfl)⟩
  have g_is_list : M.mg "is_list" = some (.ref (He.ga K "is_list")) := He.glo_ok X G (c.fact 0 (f := .glo "is_list") rfl)
  have g_is_integer : M.mg "is_integer" = some (.ref (He.ga K "is_integer")) := He.glo_ok X G (c.fact 1 (f := .glo "is_integer") rfl)
  have g_is_value : M.mg "is_value" = some (.ref (He.ga K "is_value")) := He.glo_ok X G (c.fact 2 (f := .glo "is_value") rfl)
  have g_is_count : M.mg "is_count" = some (.ref (He.ga K "is_count")) := He.glo_ok X G (c.fact 3 (f := .glo "is_count") rfl)
  have g_check_count : M.mg "check_count" = some (.ref (He.ga K "check_count")) := He.glo_ok X G (c.fact 4 (f := .glo "check_count") rfl)
  have g_is_point : M.mg "is_point" = some (.ref (He.ga K "is_point")) := He.glo_ok X G (c.fact 5 (f := .glo "is_point") rfl)
  have g_is_points : M.mg "is_points" = some (.ref (He.ga K "is_points")) := He.glo_ok X G (c.fact 6 (f := .glo "is_points") rfl)
  have g_is_octets : M.mg "is_octets" = some (.ref (He.ga K "is_octets")) := He.glo_ok X G (c.fact 7 (f := .glo "is_octets") rfl)
  have g_check_octets : M.mg "check_octets" = some (.ref (He.ga K "check_octets")) := He.glo_ok X G (c.fact 8 (f := .glo "check_octets") rfl)
  have g_number_octets : M.mg "number_octets" = some (.ref (He.ga K "number_octets")) := He.glo_ok X G (c.fact 9 (f := .glo "number_octets") rfl)
  have g_signed_octets : M.mg "signed_octets" = some (.ref (He.ga K "signed_octets")) := He.glo_ok X G (c.fact 10 (f := .glo "signed_octets") rfl)
  have g_number_at : M.mg "number_at" = some (.ref (He.ga K "number_at")) := He.glo_ok X G (c.fact 11 (f := .glo "number_at") rfl)
  have g_check_values : M.mg "check_values" = some (.ref (He.ga K "check_values")) := He.glo_ok X G (c.fact 12 (f := .glo "check_values") rfl)
  have g_differences : M.mg "differences" = some (.ref (He.ga K "differences")) := He.glo_ok X G (c.fact 13 (f := .glo "differences") rfl)
  have g_runs : M.mg "runs" = some (.ref (He.ga K "runs")) := He.glo_ok X G (c.fact 14 (f := .glo "runs") rfl)
  have g_by_plain : M.mg "by_plain" = some (.ref (He.ga K "by_plain")) := He.glo_ok X G (c.fact 15 (f := .glo "by_plain") rfl)
  have g_by_differences : M.mg "by_differences" = some (.ref (He.ga K "by_differences")) := He.glo_ok X G (c.fact 16 (f := .glo "by_differences") rfl)
  have g_by_runs : M.mg "by_runs" = some (.ref (He.ga K "by_runs")) := He.glo_ok X G (c.fact 17 (f := .glo "by_runs") rfl)
  have g_by_dictionary : M.mg "by_dictionary" = some (.ref (He.ga K "by_dictionary")) := He.glo_ok X G (c.fact 18 (f := .glo "by_dictionary") rfl)
  have g_told_in : M.mg "told_in" = some (.ref (He.ga K "told_in")) := He.glo_ok X G (c.fact 19 (f := .glo "told_in") rfl)
  have g_pack_values : M.mg "pack_values" = some (.ref (He.ga K "pack_values")) := He.glo_ok X G (c.fact 20 (f := .glo "pack_values") rfl)
  have g_read_plain : M.mg "read_plain" = some (.ref (He.ga K "read_plain")) := He.glo_ok X G (c.fact 21 (f := .glo "read_plain") rfl)
  have g_read_differences : M.mg "read_differences" = some (.ref (He.ga K "read_differences")) := He.glo_ok X G (c.fact 22 (f := .glo "read_differences") rfl)
  have g_read_runs : M.mg "read_runs" = some (.ref (He.ga K "read_runs")) := He.glo_ok X G (c.fact 23 (f := .glo "read_runs") rfl)
  have g_read_known : M.mg "read_known" = some (.ref (He.ga K "read_known")) := He.glo_ok X G (c.fact 24 (f := .glo "read_known") rfl)
  have g_read_dictionary : M.mg "read_dictionary" = some (.ref (He.ga K "read_dictionary")) := He.glo_ok X G (c.fact 25 (f := .glo "read_dictionary") rfl)
  have g_values_from : M.mg "values_from" = some (.ref (He.ga K "values_from")) := He.glo_ok X G (c.fact 26 (f := .glo "values_from") rfl)
  have g_unpack_values : M.mg "unpack_values" = some (.ref (He.ga K "unpack_values")) := He.glo_ok X G (c.fact 27 (f := .glo "unpack_values") rfl)
  have g_is_times : M.mg "is_times" = some (.ref (He.ga K "is_times")) := He.glo_ok X G (c.fact 28 (f := .glo "is_times") rfl)
  have g_pack_times : M.mg "pack_times" = some (.ref (He.ga K "pack_times")) := He.glo_ok X G (c.fact 29 (f := .glo "pack_times") rfl)
  have g_times_from : M.mg "times_from" = some (.ref (He.ga K "times_from")) := He.glo_ok X G (c.fact 30 (f := .glo "times_from") rfl)
  have g_unpack_times : M.mg "unpack_times" = some (.ref (He.ga K "unpack_times")) := He.glo_ok X G (c.fact 31 (f := .glo "unpack_times") rfl)
  have g_pack : M.mg "pack" = some (.ref (He.ga K "pack")) := He.glo_ok X G (c.fact 32 (f := .glo "pack") rfl)
  have g_unpack : M.mg "unpack" = some (.ref (He.ga K "unpack")) := He.glo_ok X G (c.fact 33 (f := .glo "unpack") rfl)
  have g__law_cell : M.mg "_law_cell" = some (.ref (He.ga K "_law_cell")) := He.glo_ok X G (c.fact 34 (f := .glo "_law_cell") rfl)
  have g__law_box : M.mg "_law_box" = some (.ref (He.ga K "_law_box")) := He.glo_ok X G (c.fact 35 (f := .glo "_law_box") rfl)
  have g__law_take : M.mg "_law_take" = some (.ref (He.ga K "_law_take")) := He.glo_ok X G (c.fact 36 (f := .glo "_law_take") rfl)
  have g__law_times : M.mg "_law_times" = some (.ref (He.ga K "_law_times")) := He.glo_ok X G (c.fact 37 (f := .glo "_law_times") rfl)
  have g__law_one : M.mg "_law_one" = some (.ref (He.ga K "_law_one")) := He.glo_ok X G (c.fact 38 (f := .glo "_law_one") rfl)
  have g__law_values : M.mg "_law_values" = some (.ref (He.ga K "_law_values")) := He.glo_ok X G (c.fact 39 (f := .glo "_law_values") rfl)
  have g__law_number : M.mg "_law_number" = some (.ref (He.ga K "_law_number")) := He.glo_ok X G (c.fact 40 (f := .glo "_law_number") rfl)
  have g__law_signed : M.mg "_law_signed" = some (.ref (He.ga K "_law_signed")) := He.glo_ok X G (c.fact 41 (f := .glo "_law_signed") rfl)
  have g__law_times_told : M.mg "_law_times_told" = some (.ref (He.ga K "_law_times_told")) := He.glo_ok X G (c.fact 42 (f := .glo "_law_times_told") rfl)
  have g__law_runs : M.mg "_law_runs" = some (.ref (He.ga K "_law_runs")) := He.glo_ok X G (c.fact 43 (f := .glo "_law_runs") rfl)
  have g__law_told : M.mg "_law_told" = some (.ref (He.ga K "_law_told")) := He.glo_ok X G (c.fact 44 (f := .glo "_law_told") rfl)
  have g__law_packed : M.mg "_law_packed" = some (.ref (He.ga K "_law_packed")) := He.glo_ok X G (c.fact 45 (f := .glo "_law_packed") rfl)
  have g__law_next : M.mg "_law_next" = some (.ref (He.ga K "_law_next")) := He.glo_ok X G (c.fact 46 (f := .glo "_law_next") rfl)
  have g__law_from : M.mg "_law_from" = some (.ref (He.ga K "_law_from")) := He.glo_ok X G (c.fact 47 (f := .glo "_law_from") rfl)
  have g__law_times_read : M.mg "_law_times_read" = some (.ref (He.ga K "_law_times_read")) := He.glo_ok X G (c.fact 48 (f := .glo "_law_times_read") rfl)
  have g__law_known : M.mg "_law_known" = some (.ref (He.ga K "_law_known")) := He.glo_ok X G (c.fact 49 (f := .glo "_law_known") rfl)
  have g__law_one_read : M.mg "_law_one_read" = some (.ref (He.ga K "_law_one_read")) := He.glo_ok X G (c.fact 50 (f := .glo "_law_one_read") rfl)
  have g__law_read : M.mg "_law_read" = some (.ref (He.ga K "_law_read")) := He.glo_ok X G (c.fact 51 (f := .glo "_law_read") rfl)
  have g__law_parts_due : M.mg "_law_parts_due" = some (.ref (He.ga K "_law_parts_due")) := He.glo_ok X G (c.fact 52 (f := .glo "_law_parts_due") rfl)
  have g__law_spoilt : M.mg "_law_spoilt" = some (.ref (He.ga K "_law_spoilt")) := He.glo_ok X G (c.fact 53 (f := .glo "_law_spoilt") rfl)
  have g__law_free : M.mg "_law_free" = some (.ref (He.ga K "_law_free")) := He.glo_ok X G (c.fact 54 (f := .glo "_law_free") rfl)
  have g__law_octets : M.mg "_law_octets" = some (.ref (He.ga K "_law_octets")) := He.glo_ok X G (c.fact 55 (f := .glo "_law_octets") rfl)
  have g__law_asked : M.mg "_law_asked" = some (.ref (He.ga K "_law_asked")) := He.glo_ok X G (c.fact 56 (f := .glo "_law_asked") rfl)
  have g__law_parts_asked : M.mg "_law_parts_asked" = some (.ref (He.ga K "_law_parts_asked")) := He.glo_ok X G (c.fact 57 (f := .glo "_law_parts_asked") rfl)
  have g__law_octets_right : M.mg "_law_octets_right" = some (.ref (He.ga K "_law_octets_right")) := He.glo_ok X G (c.fact 58 (f := .glo "_law_octets_right") rfl)
  have g_law : M.mg "law" = some (.ref (He.ga K "law")) := He.glo_ok X G (c.fact 59 (f := .glo "law") rfl)
  have T : Tel M (He.ga K "TELLERS") := ⟨g_TELLERS, _, _, _, _, g_by_plain, g_by_differences, g_by_runs, g_by_dictionary, fun H => He.tupB_ok x8 H⟩
  have TR : Rea M (He.ga K "READERS") := ⟨g_READERS, _, _, _, _, g_read_plain, g_read_differences, g_read_runs, g_read_dictionary, fun H => He.tupB_ok x9 H⟩
  have F_is_list : Fd M "is_list" (top 13) := ⟨by
    obtain ⟨fd, F⟩ := c.def_ 0 rfl
    exact ⟨_, fd, g_is_list, F⟩⟩
  have F_is_integer : Fd M "is_integer" (top 14) := ⟨by
    obtain ⟨fd, F⟩ := c.def_ 1 rfl
    exact ⟨_, fd, g_is_integer, F⟩⟩
  have F_is_value : Fd M "is_value" (top 15) := ⟨by
    obtain ⟨fd, F⟩ := c.def_ 2 rfl
    exact ⟨_, fd, g_is_value, F⟩⟩
  have F_is_count : Fd M "is_count" (top 16) := ⟨by
    obtain ⟨fd, F⟩ := c.def_ 3 rfl
    exact ⟨_, fd, g_is_count, F⟩⟩
  have F_check_count : Fd M "check_count" (top 17) := ⟨by
    obtain ⟨fd, F⟩ := c.def_ 4 rfl
    exact ⟨_, fd, g_check_count, F⟩⟩
  have F_is_point : Fd M "is_point" (top 19) := ⟨by
    obtain ⟨fd, F⟩ := c.def_ 5 rfl
    exact ⟨_, fd, g_is_point, F⟩⟩
  have F_is_points : Fd M "is_points" (top 20) := ⟨by
    obtain ⟨fd, F⟩ := c.def_ 6 rfl
    exact ⟨_, fd, g_is_points, F⟩⟩
  have F_is_octets : Fd M "is_octets" (top 24) := ⟨by
    obtain ⟨fd, F⟩ := c.def_ 7 rfl
    exact ⟨_, fd, g_is_octets, F⟩⟩
  have F_check_octets : Fd M "check_octets" (top 25) := ⟨by
    obtain ⟨fd, F⟩ := c.def_ 8 rfl
    exact ⟨_, fd, g_check_octets, F⟩⟩
  have F_number_octets : Fd M "number_octets" (top 26) := ⟨by
    obtain ⟨fd, F⟩ := c.def_ 9 rfl
    exact ⟨_, fd, g_number_octets, F⟩⟩
  have F_signed_octets : Fd M "signed_octets" (top 27) := ⟨by
    obtain ⟨fd, F⟩ := c.def_ 10 rfl
    exact ⟨_, fd, g_signed_octets, F⟩⟩
  have F_number_at : Fd M "number_at" (top 28) := ⟨by
    obtain ⟨fd, F⟩ := c.def_ 11 rfl
    exact ⟨_, fd, g_number_at, F⟩⟩
  have F_check_values : Fd M "check_values" (top 32) := ⟨by
    obtain ⟨fd, F⟩ := c.def_ 12 rfl
    exact ⟨_, fd, g_check_values, F⟩⟩
  have F_differences : Fd M "differences" (top 33) := ⟨by
    obtain ⟨fd, F⟩ := c.def_ 13 rfl
    exact ⟨_, fd, g_differences, F⟩⟩
  have F_runs : Fd M "runs" (top 34) := ⟨by
    obtain ⟨fd, F⟩ := c.def_ 14 rfl
    exact ⟨_, fd, g_runs, F⟩⟩
  have F_by_plain : Fd M "by_plain" (top 35) := ⟨by
    obtain ⟨fd, F⟩ := c.def_ 15 rfl
    exact ⟨_, fd, g_by_plain, F⟩⟩
  have F_by_differences : Fd M "by_differences" (top 36) := ⟨by
    obtain ⟨fd, F⟩ := c.def_ 16 rfl
    exact ⟨_, fd, g_by_differences, F⟩⟩
  have F_by_runs : Fd M "by_runs" (top 37) := ⟨by
    obtain ⟨fd, F⟩ := c.def_ 17 rfl
    exact ⟨_, fd, g_by_runs, F⟩⟩
  have F_by_dictionary : Fd M "by_dictionary" (top 38) := ⟨by
    obtain ⟨fd, F⟩ := c.def_ 18 rfl
    exact ⟨_, fd, g_by_dictionary, F⟩⟩
  have F_pack_values : Fd M "pack_values" (top 41) := ⟨by
    obtain ⟨fd, F⟩ := c.def_ 20 rfl
    exact ⟨_, fd, g_pack_values, F⟩⟩
  have F_read_plain : Fd M "read_plain" (top 42) := ⟨by
    obtain ⟨fd, F⟩ := c.def_ 21 rfl
    exact ⟨_, fd, g_read_plain, F⟩⟩
  have F_read_differences : Fd M "read_differences" (top 43) := ⟨by
    obtain ⟨fd, F⟩ := c.def_ 22 rfl
    exact ⟨_, fd, g_read_differences, F⟩⟩
  have F_read_runs : Fd M "read_runs" (top 44) := ⟨by
    obtain ⟨fd, F⟩ := c.def_ 23 rfl
    exact ⟨_, fd, g_read_runs, F⟩⟩
  have F_read_known : Fd M "read_known" (top 45) := ⟨by
    obtain ⟨fd, F⟩ := c.def_ 24 rfl
    exact ⟨_, fd, g_read_known, F⟩⟩
  have F_read_dictionary : Fd M "read_dictionary" (top 46) := ⟨by
    obtain ⟨fd, F⟩ := c.def_ 25 rfl
    exact ⟨_, fd, g_read_dictionary, F⟩⟩
  have F_values_from : Fd M "values_from" (top 48) := ⟨by
    obtain ⟨fd, F⟩ := c.def_ 26 rfl
    exact ⟨_, fd, g_values_from, F⟩⟩
  have F_unpack_values : Fd M "unpack_values" (top 49) := ⟨by
    obtain ⟨fd, F⟩ := c.def_ 27 rfl
    exact ⟨_, fd, g_unpack_values, F⟩⟩
  have F_is_times : Fd M "is_times" (top 51) := ⟨by
    obtain ⟨fd, F⟩ := c.def_ 28 rfl
    exact ⟨_, fd, g_is_times, F⟩⟩
  have F_pack_times : Fd M "pack_times" (top 52) := ⟨by
    obtain ⟨fd, F⟩ := c.def_ 29 rfl
    exact ⟨_, fd, g_pack_times, F⟩⟩
  have F_times_from : Fd M "times_from" (top 53) := ⟨by
    obtain ⟨fd, F⟩ := c.def_ 30 rfl
    exact ⟨_, fd, g_times_from, F⟩⟩
  have F_unpack_times : Fd M "unpack_times" (top 54) := ⟨by
    obtain ⟨fd, F⟩ := c.def_ 31 rfl
    exact ⟨_, fd, g_unpack_times, F⟩⟩
  have F_pack : Fd M "pack" (top 55) := ⟨by
    obtain ⟨fd, F⟩ := c.def_ 32 rfl
    exact ⟨_, fd, g_pack, F⟩⟩
  have F_unpack : Fd M "unpack" (top 56) := ⟨by
    obtain ⟨fd, F⟩ := c.def_ 33 rfl
    exact ⟨_, fd, g_unpack, F⟩⟩
  have F__law_cell : Fd M "_law_cell" (top 58) := ⟨by
    obtain ⟨fd, F⟩ := c.def_ 34 rfl
    exact ⟨_, fd, g__law_cell, F⟩⟩
  have F__law_box : Fd M "_law_box" (top 59) := ⟨by
    obtain ⟨fd, F⟩ := c.def_ 35 rfl
    exact ⟨_, fd, g__law_box, F⟩⟩
  have F__law_take : Fd M "_law_take" (top 60) := ⟨by
    obtain ⟨fd, F⟩ := c.def_ 36 rfl
    exact ⟨_, fd, g__law_take, F⟩⟩
  have F__law_times : Fd M "_law_times" (top 61) := ⟨by
    obtain ⟨fd, F⟩ := c.def_ 37 rfl
    exact ⟨_, fd, g__law_times, F⟩⟩
  have F__law_one : Fd M "_law_one" (top 62) := ⟨by
    obtain ⟨fd, F⟩ := c.def_ 38 rfl
    exact ⟨_, fd, g__law_one, F⟩⟩
  have F__law_values : Fd M "_law_values" (top 63) := ⟨by
    obtain ⟨fd, F⟩ := c.def_ 39 rfl
    exact ⟨_, fd, g__law_values, F⟩⟩
  have F__law_number : Fd M "_law_number" (top 64) := ⟨by
    obtain ⟨fd, F⟩ := c.def_ 40 rfl
    exact ⟨_, fd, g__law_number, F⟩⟩
  have F__law_signed : Fd M "_law_signed" (top 65) := ⟨by
    obtain ⟨fd, F⟩ := c.def_ 41 rfl
    exact ⟨_, fd, g__law_signed, F⟩⟩
  have F__law_times_told : Fd M "_law_times_told" (top 66) := ⟨by
    obtain ⟨fd, F⟩ := c.def_ 42 rfl
    exact ⟨_, fd, g__law_times_told, F⟩⟩
  have F__law_runs : Fd M "_law_runs" (top 67) := ⟨by
    obtain ⟨fd, F⟩ := c.def_ 43 rfl
    exact ⟨_, fd, g__law_runs, F⟩⟩
  have F__law_told : Fd M "_law_told" (top 68) := ⟨by
    obtain ⟨fd, F⟩ := c.def_ 44 rfl
    exact ⟨_, fd, g__law_told, F⟩⟩
  have F__law_packed : Fd M "_law_packed" (top 69) := ⟨by
    obtain ⟨fd, F⟩ := c.def_ 45 rfl
    exact ⟨_, fd, g__law_packed, F⟩⟩
  have F__law_next : Fd M "_law_next" (top 70) := ⟨by
    obtain ⟨fd, F⟩ := c.def_ 46 rfl
    exact ⟨_, fd, g__law_next, F⟩⟩
  have F__law_from : Fd M "_law_from" (top 71) := ⟨by
    obtain ⟨fd, F⟩ := c.def_ 47 rfl
    exact ⟨_, fd, g__law_from, F⟩⟩
  have F__law_times_read : Fd M "_law_times_read" (top 72) := ⟨by
    obtain ⟨fd, F⟩ := c.def_ 48 rfl
    exact ⟨_, fd, g__law_times_read, F⟩⟩
  have F__law_known : Fd M "_law_known" (top 73) := ⟨by
    obtain ⟨fd, F⟩ := c.def_ 49 rfl
    exact ⟨_, fd, g__law_known, F⟩⟩
  have F__law_one_read : Fd M "_law_one_read" (top 74) := ⟨by
    obtain ⟨fd, F⟩ := c.def_ 50 rfl
    exact ⟨_, fd, g__law_one_read, F⟩⟩
  have F__law_read : Fd M "_law_read" (top 75) := ⟨by
    obtain ⟨fd, F⟩ := c.def_ 51 rfl
    exact ⟨_, fd, g__law_read, F⟩⟩
  have F__law_parts_due : Fd M "_law_parts_due" (top 76) := ⟨by
    obtain ⟨fd, F⟩ := c.def_ 52 rfl
    exact ⟨_, fd, g__law_parts_due, F⟩⟩
  have F__law_spoilt : Fd M "_law_spoilt" (top 77) := ⟨by
    obtain ⟨fd, F⟩ := c.def_ 53 rfl
    exact ⟨_, fd, g__law_spoilt, F⟩⟩
  have F__law_free : Fd M "_law_free" (top 78) := ⟨by
    obtain ⟨fd, F⟩ := c.def_ 54 rfl
    exact ⟨_, fd, g__law_free, F⟩⟩
  have F__law_octets : Fd M "_law_octets" (top 79) := ⟨by
    obtain ⟨fd, F⟩ := c.def_ 55 rfl
    exact ⟨_, fd, g__law_octets, F⟩⟩
  have F__law_asked : Fd M "_law_asked" (top 80) := ⟨by
    obtain ⟨fd, F⟩ := c.def_ 56 rfl
    exact ⟨_, fd, g__law_asked, F⟩⟩
  have F__law_parts_asked : Fd M "_law_parts_asked" (top 81) := ⟨by
    obtain ⟨fd, F⟩ := c.def_ 57 rfl
    exact ⟨_, fd, g__law_parts_asked, F⟩⟩
  have F__law_octets_right : Fd M "_law_octets_right" (top 82) := ⟨by
    obtain ⟨fd, F⟩ := c.def_ 58 rfl
    exact ⟨_, fd, g__law_octets_right, F⟩⟩
  have F_told_in : FdK M "told_in" (top 40) [("way", .int 0)] := ⟨by
    obtain ⟨fd, F⟩ := c.def_ 19 rfl
    exact ⟨_, fd, g_told_in, F⟩⟩
  have F_Reader___init__ : Fm M (He.ga K "Reader") "__init__" "Reader.__init__" ((clsBody (top 29)).getD 0 (.Pass ⟨0, 0, 0, 0⟩)) := ⟨by
    obtain ⟨fd, F⟩ := c.def_ 60 rfl
    exact ⟨_, fd, He.meth_ok (c.fact 91 (f := .meth "Reader" "__init__") rfl), F⟩⟩
  have F_Reader_left : Fm M (He.ga K "Reader") "left" "Reader.left" ((clsBody (top 29)).getD 2 (.Pass ⟨0, 0, 0, 0⟩)) := ⟨by
    obtain ⟨fd, F⟩ := c.def_ 61 rfl
    exact ⟨_, fd, He.meth_ok (c.fact 92 (f := .meth "Reader" "left") rfl), F⟩⟩
  have F_Reader_take : Fm M (He.ga K "Reader") "take" "Reader.take" ((clsBody (top 29)).getD 3 (.Pass ⟨0, 0, 0, 0⟩)) := ⟨by
    obtain ⟨fd, F⟩ := c.def_ 62 rfl
    exact ⟨_, fd, He.meth_ok (c.fact 93 (f := .meth "Reader" "take") rfl), F⟩⟩
  have F_Reader_number : Fm M (He.ga K "Reader") "number" "Reader.number" ((clsBody (top 29)).getD 4 (.Pass ⟨0, 0, 0, 0⟩)) := ⟨by
    obtain ⟨fd, F⟩ := c.def_ 63 rfl
    exact ⟨_, fd, He.meth_ok (c.fact 94 (f := .meth "Reader" "number") rfl), F⟩⟩
  have F_Reader_signed : Fm M (He.ga K "Reader") "signed" "Reader.signed" ((clsBody (top 29)).getD 5 (.Pass ⟨0, 0, 0, 0⟩)) := ⟨by
    obtain ⟨fd, F⟩ := c.def_ 64 rfl
    exact ⟨_, fd, He.meth_ok (c.fact 95 (f := .meth "Reader" "signed") rfl), F⟩⟩
  have c_is_list := ok_is_list (M := M) B F_is_list
  have c_is_integer := ok_is_integer (M := M) B F_is_integer
  have c_is_value := ok_is_value (M := M) c_is_integer F_is_value
  have c_is_count := ok_is_count (M := M) c_is_integer F_is_count
  have c_check_count := ok_check_count (M := M) c_is_count F_check_count
  have c_is_octets := ok_is_octets (M := M) B kk c_is_list c_is_integer F_is_octets
  have c_check_octets := ok_check_octets (M := M) c_is_octets F_check_octets
  have c_number_octets := ok_number_octets (M := M) B kk c_check_count F_number_octets
  have c_signed_octets := ok_signed_octets (M := M) c_is_integer c_number_octets F_signed_octets
  have c_number_at := ok_number_at (M := M) (cS := He.ga K "Short") (cM := He.ga K "Malformed") B kk eShort eMalformed F_number_at
  have c_Reader___init__ := ok_Reader___init__ (M := M) (C := He.ga K "Reader") B R c_check_octets F_Reader___init__
  have c_Reader_left := ok_Reader_left (M := M) (C := He.ga K "Reader") B R F_Reader_left
  have c_Reader_take := ok_Reader_take (M := M) (C := He.ga K "Reader") (cS := He.ga K "Short") (cM := He.ga K "Malformed") B R eShort c_check_count c_Reader_left F_Reader_take
  have c_Reader_number := ok_Reader_number (M := M) (C := He.ga K "Reader") (cS := He.ga K "Short") (cM := He.ga K "Malformed") R c_number_at F_Reader_number
  have c_Reader_signed := ok_Reader_signed (M := M) (C := He.ga K "Reader") (cS := He.ga K "Short") (cM := He.ga K "Malformed") R c_Reader_number F_Reader_signed
  have c_check_values := ok_check_values (M := M) B c_is_list c_is_value F_check_values
  have c_differences := ok_differences (M := M) B F_differences
  have c_by_plain := ok_by_plain (M := M) c_signed_octets F_by_plain
  have c_by_differences := ok_by_differences (M := M) c_differences c_by_plain F_by_differences
  have c_runs := ok_runs (M := M) F_runs
  have c_by_runs := ok_by_runs (M := M) c_runs c_signed_octets c_number_octets F_by_runs
  have c_by_dictionary := ok_by_dictionary (M := M) B c_differences c_signed_octets c_number_octets F_by_dictionary
  have c_told_in := ok_told_in (M := M) (aT := He.ga K "TELLERS") B T c_check_values c_is_count c_by_plain c_by_differences c_by_runs c_by_dictionary F_told_in
  have c_pack_values := ok_pack_values (M := M) (aT := He.ga K "TELLERS") B T c_check_values c_told_in F_pack_values
  have c_read_plain := ok_read_plain (M := M) (C := He.ga K "Reader") (cS := He.ga K "Short") (cM := He.ga K "Malformed") B R c_Reader_signed F_read_plain
  have c_read_differences := ok_read_differences (M := M) (C := He.ga K "Reader") (cS := He.ga K "Short") (cM := He.ga K "Malformed") B R c_Reader_signed F_read_differences
  have c_read_runs := ok_read_runs (M := M) (C := He.ga K "Reader") (cS := He.ga K "Short") (cM := He.ga K "Malformed") B R eMalformed c_Reader_signed c_Reader_number F_read_runs
  have c_read_known := ok_read_known (M := M) (C := He.ga K "Reader") (cS := He.ga K "Short") (cM := He.ga K "Malformed") B R c_Reader_signed c_Reader_number F_read_known
  have c_read_dictionary := ok_read_dictionary (M := M) (C := He.ga K "Reader") (cS := He.ga K "Short") (cM := He.ga K "Malformed") B R eMalformed c_read_known c_Reader_number F_read_dictionary
  have c_values_from := ok_values_from (M := M) (C := He.ga K "Reader") (cS := He.ga K "Short") (cM := He.ga K "Malformed") (aR := He.ga K "READERS") B R TR eMalformed c_Reader_take c_read_plain c_read_differences c_read_runs c_read_dictionary F_values_from
  have c_unpack_values := ok_unpack_values (M := M) (C := He.ga K "Reader") (cS := He.ga K "Short") (cM := He.ga K "Malformed") R X2 eShort eMalformed c_check_count c_values_from c_pack_values F_unpack_values
  have c_is_times := ok_is_times (M := M) B c_is_list c_is_count F_is_times
  have c_pack_times := ok_pack_times (M := M) B c_is_times c_signed_octets c_number_octets F_pack_times
  have c_times_from := ok_times_from (M := M) (C := He.ga K "Reader") (cS := He.ga K "Short") (cM := He.ga K "Malformed") B R eMalformed c_Reader_signed c_Reader_number F_times_from
  have c_unpack_times := ok_unpack_times (M := M) (C := He.ga K "Reader") (cS := He.ga K "Short") (cM := He.ga K "Malformed") R X2 eShort eMalformed c_times_from F_unpack_times
  have c_is_point := ok_is_point (M := M) B c_is_count c_is_value F_is_point
  have c_is_points := ok_is_points (M := M) B c_is_list c_is_point F_is_points
  have c_pack := ok_pack (M := M) c_is_points c_pack_times c_pack_values F_pack
  obtain ⟨fdU, FU⟩ := c.def_ 33 rfl
  have cU := ok_unpack (M := M) (C := He.ga K "Reader") (cS := He.ga K "Short") (cM := He.ga K "Malformed") B R eMalformed c_Reader___init__ c_Reader_left c_unpack_times c_unpack_values FU
  have c_unpack : M.pmx "unpack" 12 ["octets"] (spUnpack M.K (He.ga K "Short") (He.ga K "Malformed")) := ⟨_, fdU, g_unpack, FU.kp, FU.bindsN fun _ _ _ _ _ _ us hl => match us, hl with | [_], _ => rfl, cU⟩
  have c_unpackW : PmW M "unpack" 12 "octets" (spUnpack M.K (He.ga K "Short") (He.ga K "Malformed")) := ⟨_, fdU, g_unpack, FU.kp, kb_unpack FU, cU⟩
  have c__law_number := ok__law_number (M := M) B F__law_number
  have c__law_signed := ok__law_signed (M := M) c__law_number F__law_signed
  have c__law_times_told := ok__law_times_told (M := M) B c__law_signed c__law_number F__law_times_told
  have c__law_runs := ok__law_runs (M := M) F__law_runs
  have c__law_told := ok__law_told (M := M) B c__law_runs c__law_signed c__law_number F__law_told
  have c__law_packed := ok__law_packed (M := M) B c__law_told F__law_packed
  have c__law_from := ok__law_from (M := M) B F__law_from
  have c__law_next := ok__law_next (M := M) B F__law_next
  have c__law_known := ok__law_known (M := M) B c__law_next c__law_from F__law_known
  have c__law_times_read := ok__law_times_read (M := M) B c__law_next c__law_from F__law_times_read
  have c__law_one_read := ok__law_one_read (M := M) B c__law_next c__law_from F__law_one_read
  have c__law_read := ok__law_read (M := M) B c__law_known c__law_one_read c__law_packed F__law_read
  have c__law_parts_due := ok__law_parts_due (M := M) B c__law_times_read c__law_read F__law_parts_due
  have c__law_cell := ok__law_cell (M := M) B F__law_cell
  have c__law_box := ok__law_box (M := M) B F__law_box
  have c__law_take := ok__law_take (M := M) B F__law_take
  have c__law_one := ok__law_one (M := M) B c__law_take F__law_one
  have c__law_times := ok__law_times (M := M) B c__law_take F__law_times
  have c__law_values := ok__law_values (M := M) B c__law_take c__law_one F__law_values
  have c__law_spoilt := ok__law_spoilt (M := M) B c__law_take F__law_spoilt
  have c__law_free := ok__law_free (M := M) B c__law_take F__law_free
  have c__law_octets := ok__law_octets (M := M) B c__law_take c__law_times c__law_values c__law_number c__law_signed c__law_times_told c__law_told c__law_packed c__law_spoilt c__law_free F__law_octets
  have c__law_asked := ok__law_asked (M := M) (cS := He.ga K "Short") (cM := He.ga K "Malformed") X2 eShort eMalformed c_unpack c_unpackW F__law_asked
  have c__law_parts_asked := ok__law_parts_asked (M := M) (C := He.ga K "Reader") (cS := He.ga K "Short") (cM := He.ga K "Malformed") B R X2 eShort eMalformed c_Reader___init__ c_Reader_left c_unpack_times c_unpack_values F__law_parts_asked
  have c__law_octets_right := ok__law_octets_right (M := M) B c__law_parts_due c__law_asked c__law_parts_asked c_pack F__law_octets_right
  exact ok_law (M := M) B c__law_cell c__law_box c__law_octets c__law_octets_right FL
end L2.EG

set_option Elab.async false
set_option linter.all false
set_option maxRecDepth 100000
set_option maxHeartbeats 0
/-! The end. -/
namespace L2.EG
open PySem PySem.Spec PyProof.Rows EgM
theorem facts {P : Program} {w : World} {K : PySem.W.Frag} {h : Heap} {mg : Str → Option Value} {f : Addr} (X : K.In h) (G : h.Ns mainGlobals mg) (hlaw : mg ("law" : Str) = some (.ref f)) (c : obsH K = valH) :
    ∃ fd : FuncData, (∀ (s : Shared) (v : Value), BindsTo s fd ⟨[v], []⟩ [("_law_script", v)]) ∧ ∀ base : Heap, K.In base → base.Ns mainGlobals mg → FnG P w K mg base CX0 15 f fd ["_law_script"] (spLaw K) := by
  have cs : He.SaysD hfa hfn K := congrArg Prod.fst c
  have cx : exB K = true := congrArg Prod.snd c
  obtain ⟨fd, F⟩ := cs.def_ 59 rfl
  have e := hlaw.symm.trans (He.glo_ok X G (cs.fact 59 (f := .glo "law") rfl))
  cases e
  have b := FunD.bindsA (ps := ["_law_script"]) F fun _ _ _ _ _ _ us hl => match us, hl with | [_], _ => rfl
  exact ⟨fd, fun s v => b s [v] rfl, fun base KB GB => cxe KB GB cs cx F⟩
end L2.EG
open PySem PySem.W PySem.Calls PyProof.Rows
theorem PySem.Challenge.cw_everygrain_k17_whole_only_packs_are_read_holds : PySem.Challenge.rw_everygrain_k17_whole_only_packs_are_read.Holds := by
  w_on; o_law
  refine HandSHeadRun.head_any (r := OpenLaw.row PySem.Challenge.rw_everygrain_k17_whole_only_packs_are_read) (q := view (OpenLaw.row PySem.Challenge.rw_everygrain_k17_whole_only_packs_are_read).prog [83]) (H := L2.EG.hkH) (ob := L2.EG.obH) (M := 6000) (loose := L2.EG.hnm) (d := HandSHeadRun.topDef (OpenLaw.row PySem.Challenge.rw_everygrain_k17_whole_only_packs_are_read).prog 83) (kwd := []) L2.EG.obH_eq
    (by kernel_rfl) (fun s => by kernel_rfl) L2.EG.hrun (by kernel_rfl) (by kernel_rfl) (by kernel_rfl) (by rfl) (by first | assumption | decide +kernel) (by decide +kernel) ⟨rfl, rfl, rfl, rfl, rfl, by decide +kernel⟩ ?hw ?hc
  case hw => w_witness2
  case hc =>
    refine L2.EG.walk_ofG (l := PySem.Challenge.rw_everygrain_k17_whole_only_packs_are_read) (n := 63) (k := 15) (x := "_law_script") rfl (by decide) (by kernel_rfl) ⟨rfl, by decide, by decide⟩ ?F
    intro w mg fa h Y G hmg0
    obtain ⟨K, KX, c⟩ := Y
    have hmg : mg ("law" : PySem.Str) = some (.ref fa) := by
      have e : (HandSHeadRun.topDef (OpenLaw.row PySem.Challenge.rw_everygrain_k17_whole_only_packs_are_read).prog 83).name = ("law" : PySem.Str) := by kernel_rfl
      rw [← e]
      exact hmg0
    obtain ⟨fd, hb, hF⟩ := L2.EG.facts (P := (PySem.Challenge.rw_everygrain_k17_whole_only_packs_are_read).prog) (w := w) KX G hmg c
    exact ⟨K, fd, L2.EG.spLaw K, KX, hb, fun H a ns hl _ hS => ⟨a, ns, rfl, hS, fun _ => rfl⟩, hF⟩

