import PyProof.Rows.All
import Wide.All
import OpenK.AllK
import Wide.FinOn
import HandS.Base
import HandS.Call
import HandS.Defaults
import HandS.Dict
import HandS.Ends
import HandS.Evl
import HandS.Flow
import HandS.ForExc
import HandS.ForMost
import HandS.Head0
import HandS.Head1
import HandS.Head2
import HandS.HeadEnd
import HandS.HeadHook1
import HandS.HeadHook2
import HandS.IsInst
import HandS.List
import HandS.More
import HandS.SetBool
import HandS.SetFor
import HandS.Slots
import HandS.SlotsOwn
import HandS.Small
import HandS.SortKw
import HandS.Strs
import HandS.Style
import HandS.Text
import HandS.TryMany
import HandS.TryOnly
import HandS.TupAny
import HandS.Walk
import HandS.Words
import HandS.WordsExc
import HandS.Zip
import KE.GoesEnum
import KE.GoesMore
import KE.KExcInit
import KE.KExcSuper
import KE.KMinBuiltin
import KE.KRevSl
import KE.KStateDown
import KE.KSuper
import KE.KTryMore
import Lean
import PyProof.ListStr
import PySem.Challenge.RW_mirrordoors_k71_whole_a_desk_beside_a_ga
/-! part RulY -/
set_option Elab.async false
set_option linter.all false
set_option maxRecDepth 100000
set_option maxHeartbeats 4000000
/-! C() of an error class without an own __init__; except (A, B, C). -/
namespace Mir
open PySem PySem.Spec PyProof.Rows L2
section
variable {X : Cx} {pos : Pos}
theorem pmk_own0 {C : Addr} {bmB : List Value} {B newId initId : String} {x : Str} {p : Pos} (F : ExcBaseFacts B newId initId bmB) (q : PySem.W.excIn X.K C bmB newId = true) (gC : X.mg x = some (.ref C))
    (kC : PySem.W.keepIn X.K (.ref C) = true) (r : Raises X (.ref C)) (hg : Gl X x) (hdb : (x == ("__debug__" : Str)) = false := by decide) :
    PMk X (.Call (.Name x p) [] [] pos) (fun _ H Q => Q (.ref C) none H) := by
  intro pins s σ H Q I h
  refine wpAny_Call_Name_kw (ld_glob I hg gC ?_ hdb)
  refine PySem.W.callWith_K0 I.kIn kC ?_
  show wpAny _ _ (call (.ref C) []) _ _ _
  obtain ⟨bm, N, nm, qn, bs, hdct, sn, sub, ab, col, dd, k0, k1, k2, k3, k5, mN, hC, hN, hni, T⟩ := exc_obj I.kIn q
  refine wpAny_call_exc_subT F T hC hN hni (fun h' e hm => ?_) (Nat.zero_le _)
  exact mk_of I hm r h (I.hok.gone hm.new)
/-- what the one clause wishes of an exception that it surely takes -/
def wTup (K : PySem.W.Frag) (cs : List Value) (ts : Addr → Value → Option Addr → TS) (D : Ends) : WX := fun cls d σ H => PySem.W.exmAny K cls cs = some true ∧ ∀ a, H a = none → ts a cls d D σ H
variable {x y z : Str} {c1 c2 c3 : Value} {body suite : List Stmt} {b₀ : Stmt} {p1 p2 p3 tp pos' : Pos} {kk : Nat} {tb : WX → TS} {ts : Addr → Value → Option Addr → TS}
theorem ps_try_tup3 (hs : X.stack = X.env :: X.outer) (hf : X.env.frame = some X.env.locals) (hc1 : Names X x c1) (hc2 : Names X y c2) (hc3 : Names X z c3)
    (hb : ∀ (W : WX) (pn : List (Addr × Obj)) (xe : Value → Shared → Prop), Takes (X.tr pn xe) W → PassesOwn (model X.prog X.w) X.A X.env xe → PSs (X.tr pn xe) body (tb W))
    (hsu : ∀ (a : Addr) (oe : Obj) (cls : Value) (d : Option Addr) (pn : List (Addr × Obj)), Zc cls d oe → (∃ vs, oe.data = .fields vs) → PSs (X.suite a ((a, oe) :: pn)) (b₀ :: suite) (ts a cls d)) :
    PS X (.Try body [.ExceptHandler (some (.Tuple [.Name x p1, .Name y p2, .Name z p3] kk tp)) none (b₀ :: suite) pos'] [] [] pos) (fun D σ H => tb (wTup X.K [c1, c2, c3] ts D) D σ H) := by
  refine ⟨fun pins s σ H D I h => ?_⟩
  have ok := I.ok
  have hfr : X.A.frames = some (X.env :: X.outer) := by rw [ok.frames, hs]
  refine wpAny_Try_except ?_
  refine wpAny_mono ((hb (wTup X.K [c1, c2, c3] ts D) (X.pn ++ pins) (fun e s₁ => wpAny (model X.prog X.w) X.A (noteFrame e X.env) (fun _ s₂ => wpAny (model X.prog X.w) X.A (setFlight e none) (fun _ s₃ =>
    wpAny (model X.prog X.w) X.A (handleBy e X.env [.ExceptHandler (some (.Tuple [.Name x p1, .Name y p2, .Name z p3] kk tp)) none (b₀ :: suite) pos']) (SP X pins D) X.xe s₃) X.xe s₂) X.xe s₁) (fun u sx xx => ?_) PassesOwn.looking).run [] s σ H D (I.toTry _) h) (fun f s1 hsp => ?_) (fun e s1 he => he)
  · obtain ⟨a, G, sI, pins2, σ2, H2, cls, d, rfl, J', nb, up, sky, na, os, ag, hex, hyes⟩ := xx
    have J : Inv X pins σ2 H2 sI := J'.ofTry ok
    have sky' : Sky G (X.env :: X.outer) a (Zc cls d) X.env.locals sx.heap := by rw [← hs]; exact sky
    show wpAny (model X.prog X.w) X.A (noteFrame (.ref a) X.env) _ _ _
    refine Sky.land Zc.steady hfr hf sky' fun h3 fl3 up3 => ?_
    have J3 : Inv X pins σ2 H2 { sx with heap := h3 } := J.landed nb fl3.1 (up.trans up3) os ag
    obtain ⟨oe3, vs3, he3, hz3, hd3⟩ := fl3.there
    have apart : ∀ {h : Heap} {o : Obj} {vs : Array Value}, h.FunFrames G (X.env :: X.outer) → h.get? a = some o → o.data = .fields vs → a ∉ frs (X.env :: X.outer) := fun {h o vs} ff e dd hm => by
      obtain ⟨_, o2, e2, hnf⟩ := ff.mem hm
      rw [e] at e2
      cases e2
      exact hnf _ dd
    have nfr := apart fl3.2.2.1 he3 hd3
    have nL : a ≠ X.env.locals := fun q => nfr (List.mem_filterMap.mpr ⟨X.env, List.mem_cons_self, by rw [hf, q]⟩)
    have nF : a ∉ X.fs := fun hm => by
      obtain ⟨e, he, q⟩ := List.mem_filterMap.mp hm
      exact nfr (List.mem_filterMap.mpr ⟨e, List.mem_cons_of_mem _ he, q⟩)
    have S3 := J3.suite he3 hd3 na nL nF
    refine wpAny_handleBy_cons (codeAny_handlers_test ?_) (by intro q; cases q)
    have test : ∀ {x : Str} {c : Value} {np : Pos} {Q : Value → Shared → Prop} {E : Value → Shared → Prop}, Names X x c → Q c { sx with heap := h3 } → wpAny (model X.prog X.w) (X.A.mark (some (.ref a))) (eval (.Name x np) X.env) Q E { sx with heap := h3 } := fun {x c np Q E} hc q => by
      obtain ⟨hg, hdbg, hm | ⟨hm, hv, hnn⟩⟩ := hc
      · exact ld_glob (X := X.suite a ((a, oe3) :: (X.pn ++ pins))) S3 hg hm q hdbg
      · exact ld_blt (X := X.suite a ((a, oe3) :: (X.pn ++ pins))) S3 hg hm hv q hnn hdbg
    refine wpAny_Tuple_spliced ?_
    refine Calls.spliced_cons (test hc1 ?_)
    refine Calls.spliced_cons (test hc2 ?_)
    refine Calls.spliced_cons (test hc3 ?_)
    refine Calls.spliced_nil ⟨by show 3 ≤ sizeLine; decide, ?_⟩
    generalize hh5 : h3.push { cls := .type "tuple", data := .seq [c1, c2, c3].toArray } = h5
    have k5 : ∀ b o, h3.get? b = some o → h5.get? b = some o := fun b o q => by
      rw [← hh5]
      exact Heap.get?_push_of_some _ q
    have hp5 : h5.get? h3.objs.size = some { cls := .type "tuple", data := .seq [c1, c2, c3].toArray } := by
      rw [← hh5]
      exact Heap.get?_push_size _ rfl
    have fl5 : HandSPX.FlyingZ G (X.env :: X.outer) a (Zc cls d) h5 := by
      obtain ⟨f1, f2, f3, oe, vs, T, oT, tsq, t1, t2, t3, t4, t5, t6, t7, t8, t9⟩ := fl3
      exact ⟨fun b o q => k5 b o (f1 b o q), f2, f3.of_keeps (fun b o q _ => ⟨o, k5 b o q, rfl⟩), oe, vs, T, oT, tsq, k5 _ _ t1, t2, t3, t4, t5, t6, k5 _ _ t7, t8, t9⟩
    have up5 : h3.UpToSlots h5 := .of_keeps k5
    have J5 : Inv X pins σ2 H2 { sx with heap := h5 } := J.landed nb fl5.1 ((up.trans up3).trans up5) os ag
    have LT : PySem.W.Looks (model X.prog X.w) h5 (typeOf (.ref a)) cls := fun A Q E s k q => wpAny_typeOf_ref (k _ _ (k5 _ _ he3)) (by rw [hz3.1]; exact q)
    have LM := PySem.W.exm_tup3 (M := model X.prog X.w) (J5.kIn) LT hp5 hex
    refine LM.here ?_
    refine codeAny_handlers_suite ?_
    refine HandSPX.lands_againZ fl5 fun h4 fl4 up4 => ?_
    have J4 : Inv X pins σ2 H2 { sx with heap := h4 } := J.landed nb fl4.1 (((up.trans up3).trans up5).trans up4) os ag
    obtain ⟨oe4, vs4, he4, hz4, hd4⟩ := fl4.there
    have S4 := J4.suite he4 hd4 na nL nF
    refine wpAny_mono ((hsu a oe4 cls d (X.pn ++ pins) hz4 ⟨_, hd4⟩).run [] _ _ H2 _ S4 (hyes a na)) (fun f s6 hsp => ?_) (fun _ _ q => False.elim q)
    cases f with
    | next =>
      obtain ⟨σ6, H6, S6, q6⟩ := hsp
      exact ⟨_, _, S6.unsuite ok, q6⟩
    | brk =>
      obtain ⟨σ6, H6, S6, q6⟩ := hsp
      exact ⟨_, _, S6.unsuite ok, q6⟩
    | cont =>
      obtain ⟨σ6, H6, S6, q6⟩ := hsp
      exact ⟨_, _, S6.unsuite ok, q6⟩
    | ret u =>
      obtain ⟨v6, σ6, H6, S6, r6, q6⟩ := hsp
      exact ⟨_, _, _, S6.unsuite ok, r6, q6⟩
  · cases f with
    | next =>
      obtain ⟨σ6, H6, J6, q⟩ := hsp
      exact wpAny_execs_nil ⟨σ6, H6, J6.ofTry ok, q⟩
    | brk =>
      obtain ⟨σ6, H6, J6, q⟩ := hsp
      exact ⟨σ6, H6, J6.ofTry ok, q⟩
    | cont =>
      obtain ⟨σ6, H6, J6, q⟩ := hsp
      exact ⟨σ6, H6, J6.ofTry ok, q⟩
    | ret u =>
      obtain ⟨v, σ6, H6, J6, r, q⟩ := hsp
      exact ⟨v, σ6, H6, J6.ofTry ok, r, q⟩
end
end Mir
/-! part Rul2 -/
set_option Elab.async false
set_option linter.all false
set_option maxRecDepth 100000
set_option maxHeartbeats 4000000
/-! Rules of our own: x in obj (own __contains__, slots), max(list, key=len). -/
namespace Mir
open PySem PySem.Spec PyProof.Rows L2
section
variable {X : Cx} {pins : List (Addr × Obj)} {σ : L2.St} {H : Hp} {s : Shared}
/-! ### x in obj -/
def rInOwn (C : Addr) (sp : Sp) (E : XK) : R2 := fun x y H Q => ∃ a dx vs, y = .ref a ∧ SlX.Slt H a C dx vs ∧ sp [y, x] H (fun z H' => ∃ b, z = .bl b ∧ Q (.bl b) H') E
theorem op_in_own {CX : CXT} {k : Nat} {C g : Addr} {sp : Sp} {E : XK} (hs : PySem.W.findIn X.K (.ref C) "__contains__" = some (some (.ref g))) (hf : PySem.W.isFn X.K (.ref g) = true)
    (F : FnR X.prog X.w X.K X.mg X.base CX k g sp) (hr : Room k X.A) (hx : Passes CX X E) : OpR X (compareOp .In) (rInOwn C sp E) := by
  intro pins s σ H x y v u Q I rx ry h
  obtain ⟨a, dx, vs, rfl, ha, q⟩ := h
  cases (show u = Value.ref a from ry)
  obtain ⟨sl, od, _, J, _⟩ := SlX.slt_inst I ha
  obtain ⟨m, hF⟩ := I.fr
  refine PySem.W.in_K hF I.ok.mod.kin J hs hf ?_
  refine wpAny_mono (wpAny_call (run_fnR (us := [.ref a, v]) (vs := [.ref a, x]) F hr hx I (.cons rfl (.cons rx .nil)) q)) (fun w s' z => ?_) fun _ _ x => x
  obtain ⟨z', H', I', rz, b, ez, qz⟩ := z
  subst ez
  cases (show w = Value.bool b from rz)
  exact wpAny_truthy_bool ⟨.bl b, H', I', rfl, qz⟩

/-! ### max(list, key=len) -/
theorem kept_all {g h h' : Heap} {L : Addr} {m : Str → Option Value} (k : ∀ b o, g.get? b = some o → h.get? b = some o) (F : Fr g L h' m) (N : News g L h' (allNews g h L)) :
    ∀ b o, b ≠ L → h.get? b = some o → h'.get? b = some o := fun b o hb e => by
  cases q : g.get? b with
  | some u =>
    have := k b u q
    rw [e] at this
    cases this
    exact F.keep b _ q
  | none => exact (N (b, o) (mem_allNews hb q e)).1
theorem inv_fr {h' : Heap} {t' : Nat} {m : Str → Option Value} (I : Inv X pins σ H s) (F : Fr X.base X.env.locals s.heap m) (F' : Fr X.base X.env.locals h' m) (N : News X.base X.env.locals h' (allNews X.base s.heap X.env.locals)) :
    Inv X pins σ H { s with heap := h', toks := t' } := by
  have ka := kept_all I.bk F' N
  have nL : ∀ b u, H b = some u → b ≠ X.env.locals := fun b u e z => by
    rw [z, I.free] at e
    cases e
  have hL : ∃ o, h'.get? X.env.locals = some o := by
    obtain ⟨o, _, _, e, _⟩ := F'.ns
    exact ⟨o, e⟩
  refine I.step (g' := s.gens) (d' := s.drawn) (ch := []) (fun _ z => nomatch z) (fun b o hb _ _ e _ => ka b o hb e) (fun b o hb _ _ e _ => ⟨o.slots, ka b o hb e⟩) (fun _ _ _ _ n => n) (fun b o _ e => ?_)
    (fun _ _ e => e) (fun _ _ _ e => e) (fun b ps e => ⟨#[], by rw [e]; simp⟩) (fun m' hm => by rw [SlX.ns_only hm F.ns]; exact F'.ns) (fun b u e => ?_) I.bare
  · by_cases hb : b = X.env.locals
    · rw [hb]
      exact hL
    · exact ⟨o, ka b o hb e⟩
  · refine (I.hok b u e).stay (fun c v hc q => ka c v ?_ q) (fun _ q => q) fun _ _ q => q
    rcases hc with z | z
    · rw [z]
      exact nL b u e
    · exact nL c _ z
/-- the first of the longest -/
def rMaxLen (K : PySem.W.Frag) : V → Hp → VK → Prop := fun x H Q => ∃ (a : Addr) (xs : List V) (kf : Nat → Nat), x = .ref a ∧ SqL K H a xs ∧ 0 < xs.length ∧ (∀ i y, xs[i]? = some y → LenV K y H (kf i)) ∧
  ∀ i y, xs[i]? = some y → (∀ j, j < xs.length → kf j ≤ kf i ∧ (j < i → kf j < kf i)) → Q y H
def tMaxLen (K : PySem.W.Frag) (te : TE) : TE := fun σ H Q => te σ H fun x H1 => rMaxLen K x H1 Q
theorem pe_maxLen {e : Expr} {te : TE} {p p2 kp pos : Pos} (hc : X.calm = true) (he : PE X e te) (hg : Gl X "max") (hm : X.mg "max" = none) (hg2 : Gl X "len") (hm2 : X.mg "len" = none)
    (h1 : backTo pos (starEach (e :: []) X.env) = (false, eval e X.env) :: backTo pos (starEach [] X.env) := by rfl) (h2 : (backTo pos (starEach (e :: []) X.env)).any (·.1) = false := by rfl)
    (hst : starEach (e :: []) X.env = (false, eval e X.env) :: starEach [] X.env := by rfl) :
    PE X (.Call (.Name "max" p) [e] [⟨some "key", .Name "len" p2, kp⟩] pos) (tMaxLen X.K te) := by
  refine ⟨fun pins s σ H Q I h => ?_⟩
  refine wpAny_Call_Name_kw (ld_blt I hg hm PyProof.Rows.boot_max ?_ (by decide) (by decide))
  have ha : PA X [e] (tCons te tNil) := pa_cons he pa_nil hst
  refine PyProof.Rows.callWith_kw (thn (ha.run pos pins s σ H (fun vs H1 => match vs with | [x] => rMaxLen X.K x H1 Q | _ => False) I h) fun us s1 ⟨vs, H1, I1, r1, q1⟩ => ?_) h1 h2 rfl rfl
  show wpAny _ _ (evalAll ((do let v ← eval (.Name "len" p2) X.env; standAt pos; pure v) :: ([] : List (Sem Value)))) _ _ s1
  refine wpAny_evalAll_cons (wpAny_bind (ld_blt I1 hg2 hm2 PySem.boot_len (wpAny_bind (wpAny_standAt (wpAny_pure (wpAny_evalAll_nil ?_)))) (by decide) (by decide)))
  show wpAny _ _ (call (.builtin "max") us [(Str.ofString "key", .builtin "len")]) _ _ s1
  obtain ⟨x0, rfl⟩ : ∃ x0, vs = [x0] := by
    match vs, q1 with
    | [x], _ => exact ⟨x, rfl⟩
  obtain ⟨v0, rfl, r0⟩ := vals1 r1
  obtain ⟨a, xs, kf, ex, hx, hne, hlen, q⟩ := q1
  subst ex
  cases (show v0 = Value.ref a from r0)
  obtain ⟨its, rv, pl, hz⟩ := I1.list hx
  obtain ⟨m, F⟩ := I1.fr
  have el := rv.length
  have back : ∀ i v, its[i]? = some v → ∃ y, xs[i]? = some y ∧ RelV y v := fun i v e => by
    have hi : i < xs.length := by
      rw [el]
      exact (List.getElem?_eq_some_iff.mp e).1
    obtain ⟨u, e2, r2⟩ := rv.get (i := i) (x := xs[i]) (List.getElem?_eq_getElem hi)
    rw [e] at e2
    cases e2
    exact ⟨_, List.getElem?_eq_getElem hi, r2⟩
  have aL : a ≠ X.env.locals := fun z => by
    obtain ⟨o, n, ho, hc', hd, hdt⟩ := pl
    obtain ⟨o2, es, ep, ho2, hd2, _⟩ := F.ns
    rw [z, ho2] at ho
    cases ho
    rw [hd2] at hdt
    cases hdt
  refine PyProof.Rows.kmb_max (fun i => (kf i : Int)) (I1.ok.hd hc) F news_all (fun h F' N' => ?_) (by rw [← el]; exact hne) (fun i v hv h tk own F' N' => ?_) fun i v h' tk' hv hbest F' N' => ?_
  · obtain ⟨o, n, ho, hc', hd, hdt⟩ := pl
    exact PlainL.isList ⟨o, n, kept_all I1.bk F' N' a o aL ho, hc', hd, hdt⟩
  · obtain ⟨y, ey, ry⟩ := back i v hv
    have hl := hlen i y ey
    have I2 : Inv X pins σ H1 { s1 with heap := h, toks := tk } := inv_fr I1 F F' fun p hp => N' p (List.mem_append_left _ hp)
    have h63 := line63
    have h16 : sizeLine = 16777216 := sizeLine_eq
    cases y with
    | str z =>
      obtain ⟨t, rfl⟩ := ry
      obtain ⟨hy, e'⟩ : z.length ≤ sizeLine ∧ kf i = z.length := hl
      refine len_str (by omega) ?_
      rw [← e']
      exact PyProof.Rows.KskEnd.intro F' N' fun p hp => hp
    | ref p =>
      cases ry
      have e' : (∃ xs, SqL X.K H1 p xs ∧ kf i = xs.length) ∨ ∃ xs, SqT X.K H1 p xs ∧ kf i = xs.length := hl
      rcases e' with ⟨ys, hy, e'⟩ | ⟨ys, hy, e'⟩
      · obtain ⟨its', r', pl', hz'⟩ := I2.list hy
        have hlen' := r'.length
        refine Calls.call_len_list pl'.isList (by simp only [List.size_toArray]; omega) ?_
        have e3 : ((its'.toArray.size : Nat) : Int) = (kf i : Int) := by simp only [List.size_toArray]; rw [← hlen', e']
        rw [e3]
        exact PyProof.Rows.KskEnd.intro F' N' fun p hp => hp
      · obtain ⟨its', r', pl', hz'⟩ := I2.tuple hy
        have hlen' := r'.length
        refine len_tuple pl' (by simp only [List.size_toArray]; omega) ?_
        have e3 : ((its'.toArray.size : Nat) : Int) = (kf i : Int) := by simp only [List.size_toArray]; rw [← hlen', e']
        rw [e3]
        exact PyProof.Rows.KskEnd.intro F' N' fun p hp => hp
    | byt z =>
      obtain ⟨t, rfl⟩ := ry
      obtain ⟨hy, e'⟩ : z.size ≤ sizeLine ∧ kf i = z.size := hl
      refine PySem.W.len_bytes (by omega) ?_
      rw [← e']
      exact PyProof.Rows.KskEnd.intro F' N' fun p hp => hp
    | _ => exact (show False from hl).elim
  · obtain ⟨y, ey, ry⟩ := back i v hv
    refine ⟨y, H1, inv_fr I1 F F' N', ry, q i y ey fun j hj => ?_⟩
    obtain ⟨b1, b2⟩ := hbest j (by rw [← el]; exact hj)
    exact ⟨by omega, fun hji => by have := b2 hji; omega⟩
end
end Mir
/-! part RulX -/
set_option Elab.async false
set_option linter.all false
set_option maxRecDepth 100000
set_option maxHeartbeats 4000000
/-! Error classes of the text: `__init__(self, way)` says super().__init__(way), then self.way = way. -/
namespace Mir
namespace ErX
open PySem PySem.W PySem.Calls PyProof.Rows PySem.HandSPX
def iA (p1 p2 : Pos) : Arguments := { posonlyargs := [], args := [{ arg := "self", annotation := none, pos := p1 }, { arg := "way", annotation := none, pos := p2 }], vararg := none, kwonlyargs := [], kw_defaults := [], kwarg := none, defaults := [] }
def iB (q1 q2 q3 q4 q5 q6 q7 q8 q9 q10 : Pos) : List Stmt :=
  [.Expr (.Call (.Attribute (.Call (.Name "super" q1) [] [] q2) "__init__" q3) [.Name "way" q4] [] q5) q6, .Assign [.Attribute (.Name "self" q7) "way" q8] (.Name "way" q9) q10]
def iS : Scope := { kind := .function, names := [(PySem.Str.ofString "self", .local), (PySem.Str.ofString "way", .local), (PySem.Str.ofString "__class__", .free), (PySem.Str.ofString "super", .globalImplicit)], isGenerator := false, isCoroutine := false, more := [] }
abbrev mroX (B : String) : List Value := [.type B, .type "Exception", .type "BaseException", .type "object"]
/-- what the library says of the base -/
structure BaseX (B newId initId : String) : Prop where
  FB : ExcBaseFacts B newId initId (mroX B)
  SF : StoreFacts B (mroX B) "object.__setattr__" "object"
  KF : KxsFacts B initId
theorem base_value : BaseX "ValueError" "ValueError.__new__" "ValueError.__init__" := ⟨F.excBase_ValueError, F.store_ValueError, kxs_ValueError⟩
theorem base_lookup : BaseX "LookupError" "LookupError.__new__" "LookupError.__init__" := ⟨F.excBase_LookupError, F.store_LookupError, kxs_LookupError⟩
/-- what the written part says of the class at C -/
structure ClsX (prog : Program) (K : Frag) (mg : Str → Option Value) (x : Str) (B newId initId : String) (C : Addr) : Prop where
  gC : mg x = some (.ref C)
  q : excInitIn K C (mroX B) newId = true
  hd : ∃ cd, clsIn K C = some cd ∧ cd.hasDict = true
  ov : excOver K C (mroX B) = true
  sa : findIn K (.ref C) "__setattr__" = some (some (.builtin "object.__setattr__"))
  noN : findIn K (.ref C) "way" = some none
  kC : keepIn K (.ref C) = true
  exC : subIn K (.ref C) (.type "BaseException") = some true
  tyC : typeIn K (.ref C) = some (.type "type")
  opq : nsIn K cStatics "thirdparty.any" = some none
  sup : ks_superIn K C C "__init__" = some (some (.builtin initId))
  sb : subIn K (.ref C) (.type B) = some true
  slf : mroIn K C (.ref C) = some true
  noS : mg "super" = none
  htop : (prog.main.scope.names.lookup ("super" : Str)).isSome = false
  fn : ∃ (fI cda cc : Addr) (qual : Str) (oc : Value) (od : Option Addr) (osl : Array (Option Value)) (kV doc pm : Value) (an : Option Addr) (ct : Value) (p1 p2 q1 q2 q3 q4 q5 q6 q7 q8 q9 q10 : Pos) (ccl : Value) (cdd : Option Addr) (vs : Array Value) (ccs : Array (Option Value)) (file : Str) (tf : Tok) (cl : Value) (cld : Option Addr) (csl : Array (Option Value)),
    findIn K (.ref C) "__init__" = some (some (.ref fI)) ∧ typeIn K (.ref fI) = some (.type "function") ∧
    K.lookup fI = some ⟨oc, od, .func (ksFn "__init__" qual (iA p1 p2) (iB q1 q2 q3 q4 q5 q6 q7 q8 q9 q10) iS .none kV doc pm an (.ref cda) ct cc), osl⟩ ∧ codeIn K (.ref cda) qual = true ∧
    K.lookup cda = some ⟨ccl, cdd, .fields vs, ccs⟩ ∧ vs[2]? = some (.str file tf) ∧ ((prog.main.file : Str) == file) = true ∧ K.lookup cc = some ⟨cl, cld, .cell (some (.ref C)), csl⟩
/-- what __init__ leaves of a fresh error at x -/
structure InitEnd (h h' : Heap) (x C dx t1 : Addr) (v : Value) : Prop where
  keep : ∀ b o, b ≠ x → h.get? b = some o → h'.get? b = some o
  obj : h'.get? x = some { cls := .ref C, dict := some dx, data := .fields #[.ref t1, .none, .none, .none, .bool false, .none] }
  dbig : h.objs.size ≤ dx
  dne : dx ≠ x
  ns : h'.Ns1 dx (fun y => if y = "way" then some v else none)
/-- a made error -/
structure Made (h h' : Heap) (e C d : Addr) (v : Value) : Prop where
  keep : ∀ b o, h.get? b = some o → h'.get? b = some o
  new : h.objs.size ≤ e
  obj : ∃ oe vs, h'.get? e = some oe ∧ oe.cls = .ref C ∧ oe.dict = some d ∧ oe.data = .fields vs ∧ vs[1]? = some .none
  dbig : h.objs.size ≤ d
  dne : d ≠ e
  ns : h'.Ns1 d (fun y => if y = "way" then some v else none)
section
variable {prog : Program} {w : World} {A : Around} {E : Value → Shared → Prop} {R : Result → Shared → Prop} {h : Heap} {g : Array GenState} {d : Drawn} {t : Nat} {os : OsState} {K : Frag} {mg : Str → Option Value} {x : Str} {B newId initId : String} {C : Addr}
/-- the method-wrapper of the base's __init__, called -/
theorem call_mw {nm qn : Str} {N : Addr} {bs bm : List Value} {hdct : Bool} {sn : List Str} {sub : List Value} {ab : Bool} {col : Option Bool} {dd : Option Addr} {k0 k1 k2 k3 k5 : Option Value} {u e t0 : Addr} {rest : List Value} {Q : Value → Shared → Prop} (FB : ExcBaseFacts B newId initId (mroX B))
    (hC : h.get? C = some (excClassObj nm qn C N bs bm hdct sn sub ab col dd k0 k1 k2 k3 k5 newId)) (he : h.get? e = some (excO C t0)) (hu : h.get? u = some (kxs_mw initId e)) (hz : rest.length ≤ sizeLine)
    (hq : ∀ h' t1, (∀ b o, b ≠ e → h.get? b = some o → h'.get? b = some o) → h'.get? e = some (excO C t1) → Q .none ⟨h', g, d, t, os⟩) :
    wpAny (model prog w) A (call (.ref u) rest) Q E ⟨h, g, d, t, os⟩ := by
  refine wpAny_call (codeAny_of_tree ?_)
  show wpAny _ A.in1 (callAny (.ref u) ⟨rest, []⟩) _ _ _
  simp only [callAny]
  refine wpAny_bind (wpAny_load hu ?_)
  simp only [kxs_mw, show (Value.type "method-wrapper" == Value.type "method" || Value.type "method-wrapper" == Value.type "builtin_function_or_method" || Value.type "method-wrapper" == Value.type "method-wrapper") = true by decide, if_true]
  refine KFB.if_so (by decide) ?_
  refine wpAny_bind (check_bound_init FB.toExcCallFacts hC he rfl ?_)
  refine wpAny_bind (wpAny_pure (wpAny_pure ?_))
  refine ⟨plainId_quiet FB.init.plain _, codeAny_builtin FB.initEntry ?_⟩
  exact exc_init_tree (cls := .ref C) (t0 := t0) (dv := none) (c2 := .none) (c3 := .none) (b4 := .bool false) he hz fun h' k e' _ => hq h' _ k e'
/-- self.name = v on a fresh error -/
theorem store_way (SF : StoreFacts B (mroX B) "object.__setattr__" "object") {name : Str} {tk : Tok} {v : Value} {e : Addr} {fv : Array Value} {cd : ClassData} (X : K.In h) (he : h.get? e = some { cls := .ref C, data := .fields fv }) (hcd : clsIn K C = some cd) (hov : excOver K C (mroX B) = true) (hh : cd.hasDict = true) (ha : findIn K (.ref C) name = some none)
    (hq : ∀ h' tk' dx, (∀ b o, b ≠ e → h.get? b = some o → h'.get? b = some o) → h.objs.size ≤ dx → dx ≠ e → h'.get? e = some { cls := .ref C, dict := some dx, data := .fields fv } →
      h'.Ns1 dx (fun y => if y = name then some v else none) → R (.ok (.ret .none)) ⟨h', g, d, tk', os⟩) :
    codeAny (model prog w) A (.call (.builtin "object.__setattr__") ⟨[.ref e, .str name tk, v], []⟩) R ⟨h, g, d, t, os⟩ := by
  have I : InstAt h e { cls := .ref C, data := .fields fv } C none := ⟨he, rfl, rfl, trivial⟩
  have hes : e ≠ h.objs.size := Nat.ne_of_lt (Heap.lt_size he)
  have hcls : Looks (model prog w) h (classData C) cd := looks_clsIn X hcd
  refine osa_openX SF X I hov (r := none) (by unfold takerIn; rw [ha]; rfl) fun b => ?_
  show wpAny _ _ (Builtin.ObjectAttr.storeInOwnDict (.ref e) (.ref C) (.str name tk) name v b) _ _ _
  obtain ⟨nm, bs, mro, ns, qn, hd, sn, sb, ab, col, del⟩ := cd
  dsimp only at hh
  subst hh
  unfold Builtin.ObjectAttr.storeInOwnDict Builtin.ObjectAttr.ownDictForStores
  repeat (first | with_reducible refine store_in_new ?_ ?_ | with_reducible refine wpAny_loadPart_at he ?_ | with_reducible refine hcls.at ?_ | wp_step)
  · exact ⟨_, #[], _, (Heap.get?_update_ne _ _ _ _ hes.symm).trans (Heap.get?_push_at rfl rfl), rfl, fun z hz => absurd hz (by simp), fun _ => rfl⟩
  · intro h' tk' hn' hs
    have he1 : (h.push { cls := .type "dict", data := .dict #[] }).get? e = some { cls := .ref C, data := .fields fv } := Heap.get?_push_of_some _ he
    refine hq h' tk' h.objs.size (fun y o hy ho => ?_) (Nat.le_refl _) hes.symm ?_ hn'
    · exact (hs.2 y (Nat.ne_of_lt (Heap.lt_size ho))).trans ((Heap.get?_update_ne _ _ _ _ hy).trans (Heap.get?_push_of_some _ ho))
    · exact (hs.2 e hes).trans (Heap.get?_update_self _ he1 rfl)
end
end ErX
end Mir
/-! part RulX2 -/
set_option Elab.async false
set_option linter.all false
set_option maxRecDepth 100000
set_option maxHeartbeats 4000000
/-! Errors of the text: made and raised. -/
namespace Mir
namespace ErX
open PySem PySem.W PySem.Calls PyProof.Rows PySem.HandSPX
section
variable {prog : Program} {w : World} {A : Around} {E : Value → Shared → Prop} {R : Result → Shared → Prop} {s : Shared} {K : Frag} {mg : Str → Option Value} {x : Str} {B newId initId : String} {C : Addr}
theorem one_size (v : Value) : [v].length ≤ sizeLine := by
  rw [sizeLine_eq]
  exact (by decide : 1 ≤ 16777216)
theorem cls_at {cd : ClassData} {h : Heap} (X : K.In h) (hD : clsIn K C = some cd) : ∃ oD, h.get? C = some oD ∧ oD.data = .cls cd := by
  unfold clsIn at hD
  split at hD
  · rename_i c d cd' sl ho
    cases hD
    exact ⟨_, X _ _ ho, rfl⟩
  · cases hD
/-- how the super().__init__(way) of the text at these places is a method's call -/
def Evs (q1 q2 q3 q4 q5 : Pos) : Prop := ∃ pl : Env → Sem Bool, ∀ env, eval (.Call (.Attribute (.Call (.Name "super" q1) [] [] q2) "__init__" q3) [.Name "way" q4] [] q5) env = (do
      let ov ← attributeBase (.Call (.Name "super" q1) [] [] q2) "__init__" env (eval (.Call (.Name "super" q1) [] [] q2) env)
      standAt q3.atName
      let (f, first) ← holding [ov] (getMethod ov "__init__" (pl env))
      callWith q5 f first (backTo q5 (starEach [.Name "way" q4] env)) [])
theorem evs1 : Evs ⟨8, 8, 8, 13⟩ ⟨8, 8, 8, 15⟩ ⟨8, 8, 8, 24⟩ ⟨8, 25, 8, 28⟩ ⟨8, 8, 8, 29⟩ := ⟨_, fun env => rfl⟩
theorem ex_init (BX : BaseX B newId initId) (T : ClsX prog K mg x B newId initId C) {fI cda cc : Addr} {qual : Str} {oc : Value} {od : Option Addr} {osl : Array (Option Value)} {kV doc pm : Value} {an : Option Addr} {ct : Value} {p1 p2 q1 q2 q3 q4 q5 q6 q7 q8 q9 q10 : Pos} {ccl : Value} {cdd : Option Addr} {vs : Array Value} {ccs : Array (Option Value)} {file : Str} {tf : Tok} {cl : Value} {cld : Option Addr} {csl : Array (Option Value)}
    (ho : K.lookup fI = some ⟨oc, od, .func (ksFn "__init__" qual (iA p1 p2) (iB q1 q2 q3 q4 q5 q6 q7 q8 q9 q10) iS .none kV doc pm an (.ref cda) ct cc), osl⟩) (hcd : codeIn K (.ref cda) qual = true) (hev : Evs q1 q2 q3 q4 q5)
    (hcode : K.lookup cda = some ⟨ccl, cdd, .fields vs, ccs⟩) (hvs : vs[2]? = some (.str file tf)) (hfile : ((prog.main.file : Str) == file) = true) (hcell : K.lookup cc = some ⟨cl, cld, .cell (some (.ref C)), csl⟩)
    {e t0 : Addr} {v : Value} {mb : Str → Option Value} (X : K.In s.heap) (G : s.heap.Ns mainGlobals mg) (Bl : s.heap.Ns builtinsNs mb) (hmb : ∀ y : Str, y ≠ "__name__" → mb y = bootBuiltins y) (hlim : s.heap.NoLimit)
    (hx : s.heap.get? e = some (excO C t0)) (hnx : K.lookup e = none) (hne : e ≠ mainGlobals ∧ e ≠ builtinsNs) (hroom : A.depth < recursionLimit)
    (hq : ∀ h' tk dx t1, InitEnd s.heap h' e C dx t1 v → R (.ok (.ret .none)) { s with heap := h', toks := tk }) :
    codeAny (model prog w) A (.call (.ref fI) ⟨[.ref e, v], []⟩) R s := by
  obtain ⟨cd, hcl, hhd⟩ := T.hd
  obtain ⟨pl, hev⟩ := hev
  refine ks_codeAny_call_defAt (fd := ksFn "__init__" qual (iA p1 p2) (iB q1 q2 q3 q4 q5 q6 q7 q8 q9 q10) iS .none kV doc pm an (.ref cda) ct cc) (body := iB q1 q2 q3 q4 q5 q6 q7 q8 q9 q10) (binds := [("self", .ref e), ("way", v)]) hroom (X _ _ ho) rfl hlim (codeRec_of X hcd) rfl
    (BindsTo.of_eq (by first | rfl | with_unfolding_all rfl)) (show ∀ y ∈ iS.names, y.2 ≠ .cell by decide) (fun y hy => ?_) (fun h1 hns k1 => ?_)
  · rcases List.mem_cons.mp hy with rfl | hy
    · rfl
    · rw [List.mem_singleton.mp hy]
      rfl
  generalize hL : s.heap.objs.size = L at hns
  have X1 : K.In h1 := X.keeps k1
  have hx1 := k1 _ _ hx
  have G1 : h1.Ns mainGlobals mg := G.keeps k1
  have B1 : h1.Ns builtinsNs mb := Bl.keeps k1
  obtain ⟨oD, hD1, hD2⟩ := cls_at X1 hcl
  have I1 : InstAt h1 e (excO C t0) C none := ⟨hx1, rfl, rfl, trivial⟩
  have hself : (fun y : Str => ([(("self" : Str), Value.ref e), ("way", v)] : List (Str × Value)).reverse.lookup y) "self" = some (.ref e) := by first | rfl | decide | kernel_rfl
  have hway : (fun y : Str => ([(("self" : Str), Value.ref e), ("way", v)] : List (Str × Value)).reverse.lookup y) "way" = some v := by first | rfl | kernel_rfl
  show PySem.wpAt _ _ (.func _ (ksEnv qual iS L fI (.ref cda) cc)) (execs (iB q1 q2 q3 q4 q5 q6 q7 q8 q9 q10) (ksEnv qual iS L fI (.ref cda) cc)) _ _ _
  refine ks_wpAt_execs_cons (ks_wpAt_Expr_any (ks_wpAt_MethodCall (ks_wpAt_super_base (env := ksEnv qual iS L fI (.ref cda) cc) (f := fI) (cc := cda) rfl rfl rfl rfl (X1 _ _ ho) rfl rfl rfl (X1 _ _ hcode) rfl hvs hfile T.htop ?_) (hev _)))
  refine ks_loadName_global rfl rfl (loadGlobal_builtin (env := ksEnv qual iS L fI (.ref cda) cc) G1 T.noS B1 ((hmb _ (by decide)).trans (by decide +kernel)) ⟨rfl, ?_⟩)
  refine wpAny_loadName_free rfl rfl rfl ⟨_, X1 _ _ hcell, rfl⟩ ?_
  refine wpAny_loadName_local rfl rfl hns hself ?_
  refine ks_wpAny_isType_cls hD1 hD2 ⟨rfl, ?_⟩
  refine ks_wpAny_call_super hD1 hD2 I1.at_ I1.cls (fun c z => nomatch z) (looks_mroIn X1 T.slf) (fun h2 hso k2 => ?_)
  have X2 : K.In h2 := X1.keeps k2
  have hx2 := k2 _ _ hx1
  have I2 : InstAt h2 e (excO C t0) C none := ⟨hx2, rfl, rfl, trivial⟩
  have hsup : alongIn K "__init__" ((cd.mro.dropWhile (· != .ref C)).drop 1) = some (some (.builtin initId)) := by
    have := T.sup
    unfold ks_superIn at this
    rw [hcl] at this
    exact this
  refine kxs_getMethod BX.KF hso (looks_opaque X2 T.opq) (l₀ := cd.mro) (fun A Q E s k q => wpAny_bind ((looks_clsIn X2 hcl) A _ E s k (wpAny_pure q))) rfl X2 hsup (I2.type.andThen (looks_subIn X2 T.sb)) (ks_ne X2 I2 hcl) (by decide) ?_
  generalize hu : h2.objs.size = u
  have k3 : ∀ b o, h2.get? b = some o → (h2.push (kxs_mw initId e)).get? b = some o := fun b o q => Heap.get?_push_of_some _ q
  have hu3 : (h2.push (kxs_mw initId e)).get? u = some (kxs_mw initId e) := by
    rw [← hu]
    exact Heap.get?_push_size _ rfl
  have hn2 : h2.get? u = none := by
    rw [← hu]
    cases z : h2.get? h2.objs.size with
    | none => rfl
    | some o => exact absurd (Heap.lt_size z) (Nat.lt_irrefl _)
  refine kxs_callWith1 (i := initId) (x := e) (h₀ := h2) (L := u + 1) (news := [(u, kxs_mw initId e)]) (fun p hp => ?_) (List.mem_singleton.mpr rfl) ?_
  · rw [List.mem_singleton.mp hp]
    exact ⟨hu3, Nat.ne_of_lt (Nat.lt_succ_self u), hn2⟩
  have hns3 : (h2.push (kxs_mw initId e)).Ns L _ := (hns.keeps k2).keeps k3
  refine Calls.spliced_cons (wpAny_Name (wpAny_loadName_local rfl rfl hns3 hway ?_) (by decide)) 
  refine Calls.spliced_nil ⟨hu3, ?_⟩
  obtain ⟨nm, N, qn, bs, bm, hdct, sn, sub, ab, col, dd, k0, kk1, kk2, kk3, k5, hC, hT⟩ := excInit_of ((X2.keeps k3)) T.q
  refine call_mw BX.FB hC (k3 _ _ hx2) hu3 (one_size v) fun h4 t1 k4 hx4 => ?_
  have hse : L ≠ e := by
    rw [← hL]
    exact Nat.ne_of_gt (Heap.lt_size hx)
  have X4 : K.In h4 := fun b o q => k4 b o (fun z => by rw [z, hnx] at q; cases q) (X2.keeps k3 b o q)
  have hns4 : h4.Ns L _ := hns3.at fun o q => k4 L o hse q
  show PySem.wpAt _ _ _ (execs [.Assign [.Attribute (.Name "self" q7) "way" q8] (.Name "way" q9) q10] (ksEnv qual iS L fI (.ref cda) cc)) _ _ _
  refine wpAt_of_wpAny (wpAny_execs_cons (plainObj_wpAny_Assign_Attribute ?_))
  refine wpAny_Name (wpAny_loadName_local rfl rfl hns4 hway (wpAny_Name (wpAny_loadName_local rfl rfl hns4 hself ?_) (by decide))) (by decide)
  refine set_plain X4 (ox := excO C t1) (od := none) ⟨hx4, rfl, rfl, trivial⟩ T.sa ?_
  refine store_way BX.SF X4 hx4 hcl T.ov hhd T.noN fun h5 tk5 dx k5' dn dne hx5 hn5 => ?_
  show wpAny _ _ (execs _ _) _ _ _
  refine wpAny_execs_nil (hq h5 tk5 dx t1 ⟨fun b o hb q => k5' b o hb (k4 b o hb (k3 b o (k2 b o (k1 b o q)))), hx5, ?_, dne, hn5⟩)
  rw [hL]
  exact Nat.le_of_lt (Nat.lt_of_lt_of_le hns4.lt dn)
theorem ex_made (BX : BaseX B newId initId) (T : ClsX prog K mg x B newId initId C) (hevs : ∀ fI cda cc qual oc od osl kV doc pm an ct p1 p2 q1 q2 q3 q4 q5 q6 q7 q8 q9 q10, K.lookup fI = some ⟨oc, od, .func (ksFn "__init__" qual (iA p1 p2) (iB q1 q2 q3 q4 q5 q6 q7 q8 q9 q10) iS .none kV doc pm an (.ref cda) ct cc), osl⟩ → findIn K (.ref C) "__init__" = some (some (.ref fI)) → Evs q1 q2 q3 q4 q5)
    {v : Value} {mb : Str → Option Value} (X : K.In s.heap) (G : s.heap.Ns mainGlobals mg) (Bl : s.heap.Ns builtinsNs mb) (hmb : ∀ y : Str, y ≠ "__name__" → mb y = bootBuiltins y) (hlim : s.heap.NoLimit) (hroom : A.depth + 1 < recursionLimit)
    (hq : ∀ h' tk e d, Made s.heap h' e C d v → R (.ok (.ret (.ref e))) { s with heap := h', toks := tk }) :
    codeAny (model prog w) A (.call (.ref C) ⟨[v], []⟩) R s := by
  obtain ⟨fI, cda, cc, qual, oc, od, osl, kV, doc, pm, an, ct, p1, p2, q1, q2, q3, q4, q5, q6, q7, q8, q9, q10, ccl, cdd, vs, ccs, file, tf, cl, cld, csl, iC, tI, ho, hcd, hcode, hvs, hfile, hcell⟩ := T.fn
  obtain ⟨nm, N, qn, bs, bm, hdct, sn, sub, ab, col, dd, k0, kk1, kk2, kk3, k5, hC, hT⟩ := excInit_of X T.q
  obtain ⟨hp, g, dr, tk, os⟩ := s
  have k : ∀ b o, hp.get? b = some o → ((hp.push (kdv_tup [v])).push (excO C hp.objs.size)).get? b = some o := fun b o z => Heap.get?_push_of_some _ (Heap.get?_push_of_some _ z)
  have hget : ((hp.push (kdv_tup [v])).push (excO C hp.objs.size)).get? (hp.objs.size + 1) = some (excO C hp.objs.size) := by heap_get
  have big : ∀ {b : Addr} {o : Obj}, hp.get? b = some o → b ≠ hp.objs.size + 1 := fun z => Nat.ne_of_lt (Nat.lt_succ_of_lt (Heap.lt_size z))
  have hnx : K.lookup (hp.objs.size + 1) = none := by
    cases z : K.lookup (hp.objs.size + 1) with
    | none => rfl
    | some o => exact absurd rfl (big (X _ _ z))
  refine call_own BX.FB hT hC (looks_findIn X iC) (fun self => bind_fn X self tI) (one_size v) ?_
  refine ex_init BX T ho hcd (hevs _ _ _ _ _ _ _ _ _ _ _ _ _ _ _ _ _ _ _ _ _ _ _ _ ho iC) hcode hvs hfile hcell (s := ⟨(hp.push (kdv_tup [v])).push (excO C hp.objs.size), g, dr, tk, os⟩) (X.keeps k) (G.keeps k) (Bl.keeps k) hmb (hlim.keeps k) hget hnx
    ⟨fun z => by have := G.lt; rw [← z] at this; exact absurd (Nat.lt_of_succ_lt this) (Nat.lt_irrefl _), fun z => by have := Bl.lt; rw [← z] at this; exact absurd (Nat.lt_of_succ_lt this) (Nat.lt_irrefl _)⟩ ?_ fun h' tk' dx t1 ⟨k', hx, dn, dne, hns⟩ => ?_
  · show A.depth + 1 < recursionLimit
    exact hroom
  · have old : ∀ b o, hp.get? b = some o → h'.get? b = some o := fun b o z => k' b o (big z) (k b o z)
    have z : hp.objs.size + 1 + 1 ≤ dx := by
      have q := dn
      rw [Heap.size_push, Heap.size_push] at q
      exact q
    exact ⟨rfl, hq h' tk' (hp.objs.size + 1) dx ⟨old, Nat.le_succ _, ⟨_, _, hx, rfl, rfl, rfl, rfl⟩, Nat.le_trans (Nat.le_trans (Nat.le_succ _) (Nat.le_succ _)) z, dne, hns⟩⟩
end
end ErX
end Mir
namespace Mir
open PySem PySem.Spec PyProof.Rows L2
theorem relO_way {v : V} {v' : Value} (r : RelV v v') (f : Str) : RelO (List.lookup f [(("way" : Str), v)]) (if f = "way" then some v' else none) := by
  by_cases hw : f = "way"
  · subst hw
    rw [if_pos rfl]
    have q : List.lookup ("way" : Str) [(("way" : Str), v)] = some v := by simp [List.lookup]
    rw [q]
    exact r
  · rw [if_neg hw]
    have qw : (f == ("way" : Str)) = false := by simpa using hw
    have q2 : List.lookup f [(("way" : Str), v)] = none := by simp [List.lookup, qw]
    rw [q2]
    trivial
section
variable {X : Cx} {x : Str} {B newId initId : String} {C : Addr}
/-- x(e), an error of the text -/
def tMkX (C : Addr) (ta : TA) : L2.St → Hp → XK → Prop := fun σ H Q => ta σ H fun vs H1 => ∃ v, vs = [v] ∧ ∀ d, H1 d = none → Q (.ref C) (some d) (upd H1 d (.xd [(("way" : Str), v)]))
/-- at what places its __init__ stands -/
def EvK (K : PySem.W.Frag) (C : Addr) : Prop := ∀ fI cda cc qual oc od osl kV doc pm an ct p1 p2 q1 q2 q3 q4 q5 q6 q7 q8 q9 q10, K.lookup fI = some ⟨oc, od, .func (PySem.W.ksFn "__init__" qual (ErX.iA p1 p2) (ErX.iB q1 q2 q3 q4 q5 q6 q7 q8 q9 q10) ErX.iS .none kV doc pm an (.ref cda) ct cc), osl⟩ → PySem.W.findIn K (.ref C) "__init__" = some (some (.ref fI)) → ErX.Evs q1 q2 q3 q4 q5
theorem pmk_x {a : Expr} {ta : TA} {p pos : Pos} {k : Nat} (BX : ErX.BaseX B newId initId) (T : ErX.ClsX X.prog X.K X.mg x B newId initId C) (hev : EvK X.K C) (hr : Room k X.A) (ha : PA X [a] ta) (hg : Gl X x) (hdb : (x == ("__debug__" : Str)) = false := by decide)
    (he : starEach (a :: []) X.env = (false, eval a X.env) :: starEach [] X.env := by rfl) (hpl : (backTo pos (starEach [] X.env)).any (·.1) = false := by rfl) :
    PMk X (.Call (.Name x p) [a] [] pos) (tMkX C ta) := by
  intro pins s σ H Q I h
  refine wpAny_Call_Name_kw (ld_glob I hg T.gC ?_ hdb)
  refine PySem.W.callWith_K (h₀ := X.base) I.ok.mod.kin T.kC (thn (ha.run pos pins s σ H _ I h) fun us s1 hh => ?_) he hpl
  obtain ⟨vs, H1, I1, r1, v, ev, q1⟩ := hh
  subst ev
  refine ⟨I1.kIn, ?_⟩
  cases r1 with
  | cons rv rn =>
    rename_i v' us'
    cases rn
    show wpAny _ _ (call (.ref C) [v']) _ _ _
    have hlim := I1.nolimit
    obtain ⟨mb, Bb, hmb⟩ := I1.mod.blt
    have G1 := I1.mod.glob.keeps I1.bk
    have B1 := Bb.keeps I1.bk
    obtain ⟨hp, g, dr, tk, os⟩ := s1
    refine wpAny_call (ErX.ex_made BX T hev I1.kIn G1 B1 hmb hlim (by have := hr.dp; omega) fun h' tk' e d M => ?_)
    show MkP X pins σ Q (.ref e) ⟨h', g, dr, tk', os⟩
    obtain ⟨oe, fv, hoe, hc, hd, hdat, hone⟩ := M.obj
    have hns := M.ns
    obtain ⟨G', g1, g2⟩ := restrict h' fun b => decide (b ≠ e)
    have gk : ∀ b, b ≠ e → G'.get? b = h'.get? b := fun b hb => g1 b (decide_eq_true hb)
    have ge : G'.get? e = none := g2 e (by simp)
    have old : ∀ b o, hp.get? b = some o → G'.get? b = some o := fun b o q => (gk b (Nat.ne_of_lt (Nat.lt_of_lt_of_le (Heap.lt_size q) M.new))).trans (M.keep b o q)
    have ob : ObjOk X.prog X.w (upd H1 d (.xd [(("way" : Str), v)])) G' d (.xd [(("way" : Str), v)]) :=
      ⟨_, hns.at (fun o q => (gk d M.dne).trans q), fun f => relO_way rv f⟩
    have J : Inv X pins σ (upd H1 d (.xd [(("way" : Str), v)])) ⟨G', g, dr, tk', os⟩ := I1.laid (t' := tk') old M.dbig ob
    refine ⟨e, oe, fv, ⟨G', g, dr, tk', os⟩, _, .ref C, some d, rfl, J, fun b o q => ?_, ge, hoe, ⟨hc, hd⟩, hdat, hone, ?_, rfl, I1.bare, raises_own T.exC T.tyC, q1 d (I1.hok.fresh M.dbig)⟩
    · by_cases hb : b = e
      · have q' : G'.get? b = some o := q
        rw [hb, ge] at q'
        cases q'
      · exact (gk b hb).symm.trans q
    · rw [upd_ne (Ne.symm M.dne)]
      exact I1.hok.fresh M.new
/-- raise x(e) -/
def tRaiseX (C : Addr) (W : WX) (ta : TA) : TS := fun _ σ H => tMkX C ta σ H fun cls d H' => W cls d σ H'
theorem ps_raiseX {a : Expr} {ta : TA} {W : WX} {p pos pos2 : Pos} {k : Nat} (hc : X.calm = true) (BX : ErX.BaseX B newId initId) (T : ErX.ClsX X.prog X.K X.mg x B newId initId C) (hev : EvK X.K C) (hr : Room k X.A) (tk : Takes X W) (ha : PA X [a] ta) (hg : Gl X x) (hdb : (x == ("__debug__" : Str)) = false := by decide)
    (he : starEach (a :: []) X.env = (false, eval a X.env) :: starEach [] X.env := by rfl) (hpl : (backTo pos (starEach [] X.env)).any (·.1) = false := by rfl) :
    PS X (.Raise (some (.Call (.Name x p) [a] [] pos)) none pos2) (tRaiseX C W ta) := ps_raise hc tk (pmk_x BX T hev hr ha hg hdb he hpl)
end
end Mir
/-! part RulS -/
set_option Elab.async false
set_option linter.all false
set_option maxRecDepth 100000
set_option maxHeartbeats 4000000
/-! Sets of texts: add, sorted. -/
namespace Mir
open PySem PySem.Spec PyProof.Rows L2
abbrev SK (P : Program) (w : World) : PySem.KeyKind P w Str := PySem.strKind P w
/-- the text of an entry -/
def txt (e : Int × Value) : Str := match e.2 with
  | .str x _ => x
  | _ => Str.empty
def GoodS (w : World) (e : Int × Value) : Prop := ∃ x t, e = (hashStr w x, Value.str x t)
/-- the set at a holds just the texts L (in whatever order), and can be walked -/
def SetS (w : World) (h : Heap) (a : Addr) (L : List Str) : Prop :=
  ∃ o es ep t, h.get? a = some o ∧ o.ExactSet ∧ o.data = .set es ep t ∧ (∀ e ∈ es.toList, GoodS w e) ∧ es.toList.map txt = L ∧ L.Nodup ∧
    es.size < scanBound ∧ t.fits es.size = true ∧ Ris t.place.toList ∧ (w.params.followText "set-order" = true ∨ t.led = true)
section
variable {P : Program} {w : World} {h h' : Heap} {a : Addr} {L : List Str}
theorem SetS.at (R : SetS w h a L) (k : ∀ o, h.get? a = some o → h'.get? a = some o) : SetS w h' a L :=
  let ⟨o, es, ep, t, ho, r⟩ := R
  ⟨o, es, ep, t, k o ho, r⟩
theorem goodS_elems {l : List (Int × Value)} (g : ∀ e ∈ l, GoodS w e) : ElemsOf (SK P w) l := fun e he => by
  obtain ⟨x, t, q⟩ := g e he
  rw [q]
  exact ⟨⟨x, strKind_is P w x t, rfl⟩, rfl⟩
theorem goodS_is {e : Int × Value} (g : GoodS w e) (x : Str) : (SK P w).is x e.2 = true ↔ txt e = x := by
  obtain ⟨y, t, q⟩ := g
  rw [q]
  show Value.isStrOf x (.str y t) = true ↔ y = x
  constructor
  · intro z
    obtain ⟨u, hu⟩ := Value.isStrOf_shape z
    injection hu with h1 _
  · intro z
    rw [z]
    exact strKind_is P w x t
theorem goodS_mem {l : List (Int × Value)} (g : ∀ e ∈ l, GoodS w e) (x : Str) : x ∈ l.map txt ↔ ∃ e ∈ l, (SK P w).is x e.2 = true := by
  rw [List.mem_map]
  exact ⟨fun ⟨e, he, q⟩ => ⟨e, he, (goodS_is (g e he) x).mpr q⟩, fun ⟨e, he, q⟩ => ⟨e, he, (goodS_is (g e he) x).mp q⟩⟩
theorem SetS.setOf (R : SetS w h a L) : h.SetOf (SK P w) a (fun x => decide (x ∈ L)) L.length := by
  obtain ⟨o, es, ep, t, ho, hx, hd, g, hL, nd, hb, hf, _⟩ := R
  refine ⟨o, es, ep, t, ho, hx, hd, goodS_elems g, fun k => ?_, hb, hf, ?_⟩
  · rw [decide_eq_true_eq, ← hL]
    exact goodS_mem g k
  · rw [← hL, List.length_map, Array.length_toList]
end
section
variable {P : Program} {w : World} {A : Around} {E : Value → Shared → Prop} {s : Shared} {a : Addr} {L : List Str}
/-- behind the place: stored, laid anew if too full -/
theorem stow {g : Bool → Sem Unit} (hg : ∀ (b : Bool) (s₁ : Shared) (Q' : Unit → Shared → Prop), Q' () s₁ → wpAny (model P w) A (g b) Q' E s₁)
    {o : Obj} {es : Array (Int × Value)} {ep : Nat} {t : SetTable} (ho : s.heap.get? a = some o) (hex : o.ExactSet) (hd : o.data = .set es ep t)
    {es1 : Array (Int × Value)} {t2 : SetTable} (g1 : ∀ e ∈ es1.toList, GoodS w e) (nd1 : (es1.toList.map txt).Nodup)
    (hb1 : es1.size < scanBound) (hf2 : t2.fits es1.size = true) (hr : Ris t2.place.toList) (hl : w.params.followText "set-order" = true ∨ t2.led = true) {wasDummy : Bool} {R : Option Bool → Shared → Prop}
    (hR : ∀ h' L', Heap.SameBut a s.heap h' → L'.Perm (es1.toList.map txt) → SetS w h' a L' → R (some true) { s with heap := h' }) :
    wpAny (model P w) A (do
        storeSet a es1 t2
        if (!wasDummy && t2.tooFull) = true then do
            g (relayAll t2 es1 (SetTable.grown es1.size)).2.2
            storeSet a (relayAll t2 es1 (SetTable.grown es1.size)).1 (relayAll t2 es1 (SetTable.grown es1.size)).2.1
            pure (some true)
          else pure (some true)) R E s := by
  have o1 := PpSet.storeB_at (es' := es1) (t' := t2) ho hd
  have b1 := Heap.SameBut.update s.heap a (Obj.putSet es1 t2)
  refine wpAny_bind (wpAny_storeSet_of ho hd ?_ (fits_of_scanBound hb1))
  split
  · have p3 := relayAll_perm t2 es1 (SetTable.grown es1.size)
    have f3 := relayAll_fits t2 es1 (SetTable.grown es1.size)
    have r3 := relayAll_ris t2 es1 (SetTable.grown es1.size)
    have l3 := relayAll_led t2 es1 (SetTable.grown es1.size)
    generalize relayAll t2 es1 (SetTable.grown es1.size) = Z at p3 f3 r3 l3 ⊢
    obtain ⟨es2, t3, gave⟩ := Z
    dsimp only at p3 f3 r3 l3 ⊢
    have hs2 : es2.size = es1.size := by rw [← Array.length_toList, p3.length_eq, Array.length_toList]
    have hb2 : es2.size < scanBound := by omega
    refine wpAny_bind (hg _ _ _ (wpAny_bind (wpAny_storeSet_of o1 rfl ?_ (fits_of_scanBound hb2))))
    have o2 := PpSet.storeB_at (es' := es2) (t' := t3) o1 rfl
    exact wpAny_pure (hR _ (es2.toList.map txt) (b1.trans (Heap.SameBut.update _ a _)) (p3.map txt)
      ⟨_, es2, _, t3, o2, hex, rfl, fun e he => g1 e (p3.mem_iff.mp he), rfl, (p3.map txt).nodup_iff.mpr nd1, hb2, f3, r3, hl.imp id fun z => by rw [l3]; exact z⟩)
  · exact wpAny_pure (hR _ _ b1 (List.Perm.refl _) ⟨_, es1, _, t2, o1, hex, rfl, g1, rfl, nd1, hb1, hf2, hr, hl⟩)
theorem put_hashed {x : Str} {tk : Tok} {Q : Bool → Shared → Prop} (R : SetS w s.heap a L) (room : L.length + 1 < scanBound)
    (hQ : ∀ h' L' b, Heap.SameBut a s.heap h' → SetS w h' a L' → (x ∈ L → L' = L) → (x ∉ L → L'.Perm (x :: L)) → Q b { s with heap := h' }) :
    wpAny (model P w) A (setAddHashed a (.str x tk) ((SK P w).hash x)) Q E s := by
  obtain ⟨o, es, ep, t, ho, hex, hd, g, hL, nd, hb, hf, hr, hl⟩ := R
  have hkey : (SK P w).is x (.str x tk) = true := strKind_is P w x tk
  have hsc : (Value.str x tk).scannable = true := rfl
  have hel : ElemsOf (SK P w) es.toList := goodS_elems g
  unfold setAddHashed setAddHashedIn
  refine wpAny_holding (wpAny_bind (wpAny_setState_of ho hd hf ?_))
  dsimp only
  rw [byScan_of hsc hb hel]
  simp only [↓reduceIte]
  unfold setAddByScan
  refine wpAny_bind ?_
  refine wpAny_bind (wpAny_rule ?_)
  refine wpAny_bind (wpAny_setScan_of hkey ho hd hf hel ?_)
  cases hfi : List.findIdx? (fun e => (SK P w).is x e.2) es.toList with
  | some j =>
    dsimp only
    obtain ⟨hj, pj, _⟩ := List.findIdx?_eq_some_iff_getElem.mp hfi
    have hin : x ∈ L := by
      rw [← hL]
      exact (goodS_mem (P := P) g x).mpr ⟨es.toList[j], List.getElem_mem hj, pj⟩
    exact wpAny_pure (wpAny_pure (hQ s.heap L false (Heap.SameBut.refl a s.heap) ⟨o, es, ep, t, ho, hex, hd, g, hL, nd, hb, hf, hr, hl⟩ (fun _ => rfl) fun z => absurd hin z))
  | none =>
    dsimp only
    have hnk : x ∉ L := fun z => by
      rw [← hL] at z
      obtain ⟨e, he, q⟩ := (goodS_mem (P := P) g x).mp z
      have c := List.findIdx?_eq_none_iff.mp hfi e he
      rw [q] at c
      cases c
    have hgw : ∀ (b : Bool) {s₁ : Shared} {Q' : Unit → Shared → Prop}, Q' () s₁ → wpAny (model P w) A (match b with | true => rule "set.scan.the-table-gave-way" | false => pure ()) Q' E s₁ :=
      fun b s₁ Q' q => by cases b <;> first | exact wpAny_pure q | exact wpAny_rule q
    have pm := layNew_perm t es ((SK P w).hash x) (.str x tk)
    have hf1 := layNew_fits t es ((SK P w).hash x) (.str x tk)
    have hr1 := layNew_ris t es ((SK P w).hash x) (.str x tk) hr
    have hl1 := layNew_led t es ((SK P w).hash x) (.str x tk)
    generalize layNew t es ((SK P w).hash x) (.str x tk) = Z at pm hf1 hr1 hl1 ⊢
    obtain ⟨es1, t1, wasDummy, gave⟩ := Z
    dsimp only at pm hf1 hr1 hl1 ⊢
    rw [Array.toList_push] at pm
    have pc : es1.toList.Perm (((SK P w).hash x, Value.str x tk) :: es.toList) := pm.trans (List.perm_append_singleton _ _)
    have pk : (es1.toList.map txt).Perm (x :: L) := by
      rw [← hL]
      exact pc.map txt
    have g1 : ∀ e ∈ es1.toList, GoodS w e := fun e he => by
      rcases List.mem_cons.mp (pc.mem_iff.mp he) with z | z
      · exact ⟨x, tk, z⟩
      · exact g e z
    have nd1 : (es1.toList.map txt).Nodup := pk.nodup_iff.mpr (List.nodup_cons.mpr ⟨hnk, nd⟩)
    have hsz : es1.size = L.length + 1 := by rw [← Array.length_toList, pc.length_eq, List.length_cons, ← hL, List.length_map]
    have hb1 : es1.size < scanBound := by omega
    have hled : w.params.followText "set-order" = true ∨ t1.led = true := hl.imp id fun z => by rw [hl1]; exact z
    have fin : ∀ h' L', Heap.SameBut a s.heap h' → L'.Perm (es1.toList.map txt) → SetS w h' a L' → Q true { s with heap := h' } := fun h' L' sb p r => hQ h' L' true sb r (fun z => absurd z hnk) fun _ => p.trans pk
    refine wpAny_bind (hgw _ ?_)
    split
    · refine wpAny_bind ?_
      rw [hashByValue_scannable 8 hsc]
      refine wpAny_pure ?_
      refine stow ?_ ho hex hd g1 nd1 hb1 ?_ ?_ ?_ ?_
      · intro b s₁ Q' q; cases b <;> first | exact wpAny_pure q | exact wpAny_rule q
      · first | (split <;> first | exact hf1 | exact SetTable.fits_plain_off hf1) | exact hf1
      · first | (split <;> exact hr1) | exact hr1
      · first | (split <;> exact hled) | exact hled
      · intro h' L' sb p r; dsimp only; exact wpAny_pure (fin h' L' sb p r)
    · refine wpAny_bind (wpAny_pure ?_)
      simp only [↓reduceIte]
      refine stow ?_ ho hex hd g1 nd1 hb1 hf1 hr1 hled ?_
      · intro b s₁ Q' q; cases b <;> first | exact wpAny_pure q | exact wpAny_rule q
      · intro h' L' sb p r; dsimp only; exact wpAny_pure (fin h' L' sb p r)
/-- found.add(x) -/
theorem call_add {x : Str} {tk : Tok} {Q : Value → Shared → Prop} (R : SetS w s.heap a L) (room : L.length + 1 < scanBound)
    (hQ : ∀ h' L', Heap.SameBut a s.heap h' → SetS w h' a L' → (x ∈ L → L' = L) → (x ∉ L → L'.Perm (x :: L)) → Q .none { s with heap := h', toks := s.toks + 1 }) :
    wpAny (model P w) A (call (.builtin "set.add") [.ref a, .str x tk]) Q E s := by
  have hS : s.heap.SetOf (SK P w) a (fun x => decide (x ∈ L)) L.length := R.setOf
  refine wpAny_call_entry F.slot_set_add hS.typeIs F.entry_set_add ?_ (F.args_set_add_2 _ _)
  unfold Builtin.«set.add» Builtin.Frozenset.oneOther
  simp only [List.isEmpty_nil, bind_assoc]
  unfold Builtin.Frozenset.addrOf setAdd
  refine wpAny_bind (wpAny_pure ?_)
  try dsimp only
  refine wpAny_bind (wpAny_pure ?_)
  try dsimp only
  refine wpAny_bind ?_
  refine wpAny_holding ?_
  refine wpAny_bind ((SK P w).pyHash (strKind_is P w x tk) ?_)
  refine put_hashed (s := { s with toks := s.toks + 1 }) R room fun h' L' b sb r e1 e2 => ?_
  show wpAny _ _ (ret Value.none) _ _ _
  exact wpAny_pure ⟨_, rfl, hQ h' L' sb r e1 e2⟩
theorem setS_fresh {h : Heap} (w : World) : SetS w (h.push { cls := .type "set", dict := none, data := .set #[] 0 (.fresh 0 0 (!w.params.followText "set-order")) }) h.objs.size [] :=
  ⟨_, #[], 0, _, Heap.get?_push_size _ rfl, ⟨rfl, rfl, rfl⟩, rfl, (fun e he => by simp at he), rfl, List.nodup_nil, (by decide), (by rfl), List.Pairwise.nil, by
    show _ ∨ (!w.params.followText "set-order") = true
    cases w.params.followText "set-order"
    · exact .inr rfl
    · exact .inl rfl⟩
theorem strs_of {w : World} : ∀ {vs : List Value}, (∀ v ∈ vs, ∃ x t, v = Value.str x t) → StrsAre vs (vs.map fun v => txt (0, v))
  | [], _ => .nil
  | v :: vs, h => by
    obtain ⟨x, t, e⟩ := h v List.mem_cons_self
    subst e
    exact StrsAre.cons x t (strs_of (w := w) fun u hu => h u (List.mem_cons_of_mem _ hu))
/-- sorted(set) -/
theorem sorted_setS {Q : Value → Shared → Prop} (R : SetS w s.heap a L) (hh : A.handled = none) (h64 : L.length < 64)
    (hQ : ∀ s' p (out : Array Value) (c : Nat) (ys : List Str), (∀ b o, s.heap.get? b = some o → s'.heap.get? b = some o) → s'.gens = s.gens → s'.os = s.os → s.heap.objs.size ≤ p →
      s'.heap.get? p = some (seqObj "list" out c) → StrsAre out.toList ys → ys.Perm L → sortedS ys = true → Q (.ref p) s') :
    wpAny (model P w) A (call (.builtin "sorted") [.ref a]) Q E s := by
  obtain ⟨o, es, ep, t, ho, hex, hd, g, hL, nd, hb, hf, hr, hl⟩ := R
  refine Calls.call_function_entry kind_sorted plain_sorted entry_sorted (args_sorted1 _) ?_
  unfold Builtin.«sorted»
  refine wpAny_bind (m := checkCount "sorted" 1 1 _) (wpAny_pure ?_)
  refine wpAny_bind (collect_set (A := A.in1) hh ⟨o, ho, hex.1, hd⟩ hf hb hr hl fun s1 vs k1 hz g1 o1 pm => ?_)
  have hvl : vs.length = L.length := by rw [pm.length_eq, ← hL, List.length_map, List.length_map]
  have hI : StrsAre vs (vs.map fun v => txt (0, v)) := strs_of (w := w) fun v hv => by
    obtain ⟨e, he, q⟩ := List.mem_map.mp (pm.mem_iff.mp hv)
    obtain ⟨x, t, e2⟩ := g e he
    exact ⟨x, t, by rw [← q, e2]⟩
  have pk : (vs.map fun v => txt (0, v)).Perm L := by
    have q := pm.map fun v => txt (0, v)
    rw [List.map_map] at q
    rw [← hL]
    exact q
  refine wpAny_bind (wpAny_newList ?_ (by rw [hvl, sizeLine_eq]; omega))
  have hoL : (s1.heap.push (seqObj "list" vs.toArray 0)).get? s1.heap.objs.size = some (seqObj "list" vs.toArray 0) := Heap.get?_push_size _ rfl
  refine wpAny_bind (wpAny_holding (wpAny_call_entry slot_list_sort ⟨_, hoL, rfl⟩ entry_list_sort (list_sort_treeK strKind_oneLt hoL hI.keysOf (fun v₁ v₂ rest e => keyKind_strs (by rw [← e]; exact hI)) (by rw [hvl]; exact h64) fun st' hp hs => ⟨_, rfl, ?_⟩) (args_list_sort _)))
  obtain ⟨ys, a1, a2, a3⟩ := sorted_out_str hI hp hs
  obtain ⟨c, hc⟩ := sortedHeap_at (vs := vs) hoL
  refine wpAny_pure ⟨_, rfl, hQ _ s1.heap.objs.size _ c ys (fun b u e => ?_) g1 o1 hz hc a1 (a2.trans pk) a3⟩
  have q := k1 b u e
  have hlt := Heap.lt_size q
  refine Eq.trans (sortedHeap_old (Nat.ne_of_lt hlt) (by rw [size_push']; exact Nat.lt_succ_of_lt hlt)) ?_
  exact Heap.get?_push_of_some _ q
end
end Mir
/-! part RulS2 -/
set_option Elab.async false
set_option linter.all false
set_option maxRecDepth 100000
set_option maxHeartbeats 4000000
/-! set(texts) of a list or a tuple; sorted(set(texts)). -/
namespace Mir
open PySem PySem.Spec PyProof.Rows L2
abbrev freshSet (w : World) : Obj := { cls := .type "set", dict := none, data := .set #[] 0 (.fresh 0 0 (!w.params.followText "set-order")) }
section
variable {P : Program} {w : World} {A : Around} {E : Value → Shared → Prop} {s : Shared}
theorem setS_at {h : Heap} {a : Addr} (ho : h.get? a = some (freshSet w)) : SetS w h a [] :=
  ⟨_, #[], 0, _, ho, ⟨rfl, rfl, rfl⟩, rfl, (fun e he => by simp at he), rfl, List.nodup_nil, (by decide), (by rfl), List.Pairwise.nil, by
    show _ ∨ (!w.params.followText "set-order") = true
    cases w.params.followText "set-order"
    · exact .inr rfl
    · exact .inl rfl⟩
theorem update_texts {I : Addr} {fp wr : List Addr} {G : Array GenState → Array GenState → Prop} {n : Nat} {Pv : Nat → Value → Prop} {St : Nat → Shared → Prop} {R : Result → Shared → Prop}
    (W : WalksS P w A.in1 I fp wr G n Pv St) (S : Addr) (hSf : S ∉ fp) (xs : List Str) (hn : n = xs.length) (hb : xs.length + 1 < scanBound) (hval : ∀ i v, Pv i v → ∃ x t, xs[i]? = some x ∧ v = .str x t) :
    ∀ (k i : Nat) (s : Shared), n - i = k → i ≤ n → St i s → (∃ L, L.length ≤ i ∧ (∀ z, z ∈ L ↔ z ∈ xs.take i) ∧ SetS w s.heap S L) →
      (∀ s' L, Moved (S :: wr) G s s' → L.length ≤ n → (∀ z, z ∈ L ↔ z ∈ xs) → SetS w s'.heap S L → R (.ok (.ret .none)) s') →
      codeAny (model P w) A (.builtin "set.update.loop" ⟨[.ref S, .ref I], []⟩) R s := by
  have hSw : S ∉ wr := fun h => hSf (W.sub _ h)
  have hsub : ∀ b ∈ wr, b ∈ S :: wr := fun b hb => List.mem_cons_of_mem _ hb
  intro k
  induction k with
  | zero =>
    intro i s hk' hi hst ⟨L, hc, hm0, hS⟩ hR
    have hin : i = n := by omega
    subst hin
    refine codeAny_builtin F.entry_set_update_loop ?_
    rw [Around.under_plainId F.plain_set_update_loop _]
    refine wpAny_bind (W.done s _ _ hst fun s' hm => ?_)
    show wpAny _ A.in1 (ret Value.none) _ _ s'
    have e : xs.take i = xs := List.take_of_length_le (by omega)
    rw [e] at hm0
    exact wpAny_pure (hR s' L (hm.mono hsub) hc hm0 (hS.at fun o e => hm.heap S o hSw e))
  | succ k ih =>
    intro i s hk' hi hst ⟨L, hc, hm0, hS⟩ hR
    have hlt : i < n := by omega
    refine codeAny_builtin F.entry_set_update_loop ?_
    rw [Around.under_plainId F.plain_set_update_loop _]
    refine wpAny_bind (W.item i s _ _ hlt hst fun v s' hP hst' hm => ?_)
    obtain ⟨z, t, hz, rfl⟩ := hval i v hP
    have hS' : SetS w s'.heap S L := hS.at fun o e => hm.heap S o hSw e
    show wpAny _ A.in1 (holding [Value.str z t] (setAdd S (.str z t)) >>= _) _ _ s'
    refine wpAny_bind (wpAny_holding ?_)
    unfold setAdd
    refine wpAny_holding ?_
    refine wpAny_bind ((SK P w).pyHash (k := z) (strKind_is _ _ _ _) ?_)
    refine put_hashed (s := { s' with toks := s'.toks + 1 }) hS' (by omega) fun h' L' b hsb hS2 e1 e2 => ?_
    have hc3 : L'.length ≤ i + 1 ∧ ∀ y, y ∈ L' ↔ y ∈ xs.take (i + 1) := by
      have q : ∀ y, y ∈ xs.take (i + 1) ↔ y ∈ L ∨ y = z := fun y => by
        rw [List.take_add_one, hz, hm0 y]
        simp [List.mem_append]
      by_cases hin : z ∈ L
      · rw [e1 hin]
        exact ⟨by omega, fun y => by rw [q y]; exact ⟨.inl, fun h => h.elim id fun e => e ▸ hin⟩⟩
      · have pm := e2 hin
        refine ⟨by rw [pm.length_eq, List.length_cons]; omega, fun y => ?_⟩
        rw [q y, pm.mem_iff, List.mem_cons]
        exact Or.comm
    refine wpAny_pure ⟨plainId_quiet F.plain_set_update_loop _, ih (i + 1) _ (by omega) hlt (W.frame _ s' _ _ hst' (Nat.le_succ _) fun b hb o e => ?_) ⟨L', hc3.1, hc3.2, hS2⟩ fun s'' L2 hm'' hc'' hm2 hS'' => ?_⟩
    · rw [hsb.2 b (fun h : b = S => hSf (by rw [← h]; exact hb))]; exact e
    · refine hR s'' L2 (Moved.trans W.gtrans ((hm.mono hsub).then_heap (Nat.le_succ _) fun b o hb e => ?_) hm'') hc'' hm2 hS''
      rw [hsb.2 b (fun h : b = S => hb (by rw [h]; exact List.mem_cons_self))]; exact e
/-- a list, a tuple: what set(..) asks of it -/
abbrev SeqAt1 (T : String) (l : Addr) (items : Array Value) (h : Heap) : Prop := ∃ o, h.get? l = some o ∧ o.cls = .type T ∧ ∃ n, o.data = .seq items n
structure Src (P : Program) (w : World) (T itc : String) (l : Addr) (items : Array Value) : Prop where
  not_set : isSubtype (.type T) (.type "set") = pure false
  not_frz : isSubtype (.type T) (.type "frozenset") = pure false
  not_dict : (Value.type T == Value.type "dict") = false
  iter : ∀ (A : Around) (E : Value → Shared → Prop) (s : Shared) (Q : Value → Shared → Prop), SeqAt1 T l items s.heap →
    Q (.ref s.heap.objs.size) { s with heap := s.heap.push { cls := .type itc, data := .fields #[.ref l, .int 0 0] } } → wpAny (model P w) A (pyIter (.ref l)) Q E s
  walk : ∀ (A : Around) (I : Addr), A.handled = none → l ≠ I → ∃ St : Nat → Heap → Prop, Walks P w A I [I, l] [I] items.size (fun i v => items[i]? = some v) St ∧
    ∀ h : Heap, h.get? I = some { cls := .type itc, data := .fields #[.ref l, .int 0 0] } → SeqAt1 T l items h → St 0 h
theorem src_list (P : Program) (w : World) (l : Addr) (items : Array Value) : Src P w "list" "list_iterator" l items :=
  ⟨F.sub_list_set, F.sub_list_frozenset, by decide, fun A E s Q h q => wpAny_pyIter_list h q, fun A I hh hne => ⟨_, Walks.list hh I l hne items, fun h e k => ⟨⟨_, e, rfl, rfl⟩, k⟩⟩⟩
theorem src_tuple (P : Program) (w : World) (l : Addr) (items : Array Value) : Src P w "tuple" "tuple_iterator" l items :=
  ⟨F.sub_tuple_set, F.sub_tuple_frozenset, by decide, fun A E s Q h q => wpAny_pyIter_tuple h q, fun A I hh hne => ⟨_, Walks.tuple hh I l hne items, fun h e k => ⟨⟨_, e, rfl, rfl⟩, k⟩⟩⟩
theorem set_of_seq {T itc : String} {l : Addr} {items : Array Value} (src : Src P w T itc l items) (xs : List Str) {Q : Value → Shared → Prop} (hh : A.handled = none) (hl : SeqAt1 T l items s.heap) (hit : StrsAre items.toList xs) (hb : xs.length + 1 < scanBound)
    (h : ∀ (h' : Heap) (tk : Nat) (L : List Str), SetS w h' s.heap.objs.size L → L.length ≤ xs.length → (∀ z, z ∈ L ↔ z ∈ xs) → (∀ b o, s.heap.get? b = some o → h'.get? b = some o) → Q (.ref s.heap.objs.size) { s with heap := h', toks := tk }) :
    wpAny (model P w) A (call (.type "set") [.ref l]) Q E s := by
  have hisz : items.size = xs.length := by
    have q := StrsAre.len_eq hit
    rw [Array.length_toList] at q
    exact q
  obtain ⟨c, tl, hmro⟩ := F.called_set.mro
  have hmade := F.called_set.made
  have hsub := F.called_set.sub
  refine wpAny_call (codeAny_of_tree ?_)
  show wpAny _ _ (callAny (.type "set") _) _ _ _
  refine wpAny_pure ⟨Code.quiet_builtin _ (by decide +kernel), codeAny_builtin F.entry_type_call ?_⟩
  rw [Around.under_plain (weight_type_call_type "set" [.ref l] []) rfl]
  have h1 := F.called_set.notType
  have h2 := F.called_set.canCreate
  have hct := F.typeCall_set_1 (.ref l)
  repeat (any_goals (first | assumption | wp_step))
  refine codeAny_mono (code_set_led1 (.ref l) (E := E) (Q₁ := fun obj s₁ => obj = .ref s.heap.objs.size ∧ s₁ = { s with heap := s.heap.push (freshSet w) }) ⟨rfl, rfl⟩) fun r s₁ hr => ?_
  cases r with
  | error e => exact hr
  | ok fl =>
    cases fl with
    | ret obj =>
      obtain ⟨rfl, rfl⟩ := hr
      have hS : (s.heap.push (freshSet w)).get? s.heap.objs.size = some (freshSet w) := Heap.get?_push_size _ rfl
      have hT : Shared.TypeIs { s with heap := s.heap.push (freshSet w) } (.ref s.heap.objs.size) "set" := ⟨_, hS, rfl⟩
      have hli := F.called_set.init.lookup
      have hbi := F.called_set.init.bind (.ref s.heap.objs.size)
      repeat (any_goals (first | assumption | wp_step))
      refine codeAny_mono (codeAny_call_builtin (R := wants (fun r s₂ => r = .none ∧ ∃ h' tk L, s₂ = { s with heap := h', toks := tk } ∧ SetS w h' s.heap.objs.size L ∧ L.length ≤ xs.length ∧ (∀ z, z ∈ L ↔ z ∈ xs) ∧
          (∀ b o, s.heap.get? b = some o → h'.get? b = some o)) E) F.called_set.init.plain F.entry_set_init (check_set_init_1 hT ?_)) fun r₂ s₂ hr₂ => ?_
      · obtain ⟨ol, hol, hcl, nl, hdl⟩ := id hl
        obtain ⟨ocls, odict, odata, oslots⟩ := ol
        simp only at hcl hdl
        subst hcl; subst hdl
        have hol' : (s.heap.push (freshSet w)).get? l = some { cls := .type T, dict := odict, data := .seq items nl, slots := oslots } := Heap.get?_push_of_some _ hol
        have hsls := src.not_set
        have hslf := src.not_frz
        have hne := src.not_dict
        have hl1 : SeqAt1 T l items (s.heap.push (freshSet w)) := ⟨_, hol', rfl, nl, rfl⟩
        unfold Builtin.«set.__init__» noKeywords Builtin.Frozenset.updateFrom
        generalize hPI : pyIter = PI
        wp_walk
        subst hPI
        refine src.iter _ _ _ _ hl1 ?_
        refine wpAny_bind (wpAny_runValue ?_)
        have hlS : l < s.heap.objs.size := Heap.lt_size hol
        have hh3 : A.in1.in1.in1.handled = none := by simp [hh]
        have hneI : l ≠ (s.heap.push (freshSet w)).objs.size := by
          rw [Heap.size_push]; exact Nat.ne_of_lt (Nat.lt_succ_of_lt hlS)
        have hSf : s.heap.objs.size ∉ [(s.heap.push (freshSet w)).objs.size, l] := by
          rw [Heap.size_push]; simp only [List.mem_cons, List.mem_singleton, List.not_mem_nil, or_false, not_or]
          exact ⟨Nat.ne_of_lt (Nat.lt_succ_self _), Nat.ne_of_gt hlS⟩
        have hval : ∀ (i : Nat) (v : Value), items[i]? = some v → ∃ x t, xs[i]? = some x ∧ v = .str x t := fun i v hv => by
          have hi : i < xs.length := by rw [← hisz]; exact (Array.getElem?_eq_some_iff.mp hv).1
          obtain ⟨t, e⟩ := SS.strs_at hit i v (by rw [Array.getElem?_toList]; exact hv)
          refine ⟨xs[i], t, List.getElem?_eq_getElem hi, ?_⟩
          rw [e, List.getD_eq_getElem?_getD, List.getElem?_eq_getElem hi] <;> rfl
        obtain ⟨St, WK, W0⟩ := src.walk _ _ hh3 hneI
        refine update_texts WK.toS s.heap.objs.size
          hSf xs hisz hb hval (items.size - 0) 0 _ (by omega) (Nat.zero_le _)
          (W0 _ (Heap.get?_push_size _ rfl) ⟨_, Heap.get?_push_of_some _ hol', rfl, nl, rfl⟩) ?hS0 ?hR
        case hS0 =>
          have hget : ((s.heap.push (freshSet w)).push { cls := .type itc, data := .fields #[.ref l, .int 0 0] }).get? s.heap.objs.size = some (freshSet w) := Heap.get?_push_of_some _ hS
          exact ⟨[], Nat.le_refl 0, fun z => by simp, setS_at hget⟩
        case hR =>
          intro s' L' hm hc' hm' hS'
          obtain ⟨h', g2, d', tk', os'⟩ := s'
          have eg : g2 = s.gens := hm.gens
          have ed : d' = s.drawn := hm.drawn
          have eo : os' = s.os := hm.os
          subst eg; subst ed; subst eo
          show wpAny _ _ _ _ _ _
          refine wpAny_pure ?_
          show wpAny _ _ (ret Value.none) _ _ _
          rw [hisz] at hc'
          refine wpAny_pure ⟨rfl, h', tk', L', rfl, hS', hc', hm', fun b o e => ?_⟩
          have hb0 : b < s.heap.objs.size := Heap.lt_size e
          have hb1 : b ≠ s.heap.objs.size := Nat.ne_of_lt hb0
          have hb2 : b ≠ (s.heap.push (freshSet w)).objs.size := by
            rw [Heap.size_push]; exact Nat.ne_of_lt (Nat.lt_succ_of_lt hb0)
          exact hm.heap b o (by simp only [List.mem_cons, List.mem_singleton, List.not_mem_nil, or_false, not_or]; exact ⟨hb1, hb2⟩) (Heap.get?_push_of_some _ (Heap.get?_push_of_some _ e))
      · cases r₂ with
        | error e => exact hr₂
        | ok fl₂ =>
          cases fl₂ with
          | ret r =>
            obtain ⟨rfl, h', tk, L', rfl, hS', hc', hm', hk'⟩ := hr₂
            repeat (any_goals (first | assumption | wp_step))
            exact h _ _ _ hS' hc' hm' hk'
          | _ => exact hr₂.elim
    | _ => exact hr.elim
end
/-! ### sorted(set(e)), e a list or a tuple of texts -/
def tSortSet (K : PySem.W.Frag) (te : TE) : TE := fun σ H Q => te σ H fun x H1 => ∃ (a : Addr) (xs : List Str), x = .ref a ∧ (SqL K H1 a (xs.map V.str) ∨ SqT K H1 a (xs.map V.str)) ∧ xs.length < 64 ∧
  ∀ (ys : List Str) (p : Addr), ys.Nodup → (∀ z, z ∈ ys ↔ z ∈ xs) → sortedS ys = true → H1 p = none → Q (.ref p) (upd H1 p (.lst (ys.map V.str)))
section
variable {X : Cx} {pins : List (Addr × Obj)} {σ : L2.St} {H : Hp} {s : Shared}
/-- sorted of a set that is tracked by nothing -/
theorem sorted_untracked {a : Addr} {L : List Str} {Q : VK} (I : Inv X pins σ H s) (hc : X.calm = true) (R : SetS X.w s.heap a L) (h64 : L.length < 64)
    (q : ∀ (ys : List Str) (p : Addr), ys.Perm L → sortedS ys = true → H p = none → Q (.ref p) (upd H p (.lst (ys.map V.str)))) :
    wpAny (model X.prog X.w) X.A (call (.builtin "sorted") [.ref a]) (EP X pins σ Q) X.xe s := by
  refine sorted_setS R (I.ok.hd hc) h64 fun s' p out c ys k g o hp hg hi pm hs => ?_
  have hlen : (ys.map V.str).length ≤ sizeLine := by rw [List.length_map, pm.length_eq, sizeLine_eq]; omega
  have hn : H p = none := I.hok.fresh hp
  have J : Inv X pins σ (upd H p (.lst (ys.map V.str))) { s with heap := s'.heap, gens := s'.gens, drawn := s'.drawn, toks := s'.toks } :=
    I.call (ch := []) (Un.laid k hp hn) (I.hok.laid k hp ⟨hlen, out.toList, c, vals_of_strs hi, hg⟩) (by rw [g]; exact I.bare) (fun _ z => nomatch z)
  have e : s' = { s with heap := s'.heap, gens := s'.gens, drawn := s'.drawn, toks := s'.toks } := by
    cases s'
    cases s
    cases o
    rfl
  rw [e]
  exact ⟨.ref p, _, J, rfl, q ys p pm hs hn⟩
theorem pe_sortSet {e : Expr} {te : TE} {p p2 q pos : Pos} (hc : X.calm = true) (he : PE X e te) (hg : Gl X "sorted") (hm : X.mg "sorted" = none) (hg2 : Gl X "set") (hm2 : X.mg "set" = none)
    (h1 : starEach ((Expr.Call (.Name "set" p2) [e] [] q) :: []) X.env = (false, eval (.Call (.Name "set" p2) [e] [] q) X.env) :: starEach [] X.env := by rfl)
    (h2 : starEach (e :: []) X.env = (false, eval e X.env) :: starEach [] X.env := by rfl) :
    PE X (.Call (.Name "sorted" p) [.Call (.Name "set" p2) [e] [] q] [] pos) (tSortSet X.K te) := by
  refine ⟨fun pins s σ H Q I h => ?_⟩
  refine Call_ (ld_blt I hg hm PyProof.Rows.boot_sorted ?_)
  refine PyProof.Rows.callWith_builtin1 (PyProof.Rows.args_cons ?_ h1) h1 rfl
  refine Call_ (ld_blt I hg2 hm2 PyProof.Rows.boot_set ?_)
  refine PyProof.Rows.callWith_type1 (PyProof.Rows.args_cons (thn (he.run pins s σ H _ I h) fun u s1 ⟨x, H1, I1, r1, a, xs, ex, hx, h64, qk⟩ => PyProof.Rows.args_nil ?_) h2) h2 rfl
  subst ex
  cases r1
  have fin : ∀ (h' : Heap) (tk : Nat) (L : List Str), SetS X.w h' s1.heap.objs.size L → L.length ≤ xs.length → (∀ z, z ∈ L ↔ z ∈ xs) → (∀ b o, s1.heap.get? b = some o → h'.get? b = some o) →
      wpAny (model X.prog X.w) X.A (call (.builtin "sorted") [.ref s1.heap.objs.size]) (EP X pins σ Q) X.xe { s1 with heap := h', toks := tk } := fun h' tk L hS hl hm hk => by
    have I2 : Inv X pins σ H1 { s1 with heap := h', toks := tk } := I1.kept (t' := tk) hk
    have nd : L.Nodup := by
      obtain ⟨_, _, _, _, _, _, _, _, _, nd, _⟩ := hS
      exact nd
    exact sorted_untracked I2 hc hS (by omega) fun ys p pm hs hp => qk ys p (pm.nodup_iff.mpr nd) (fun z => by rw [pm.mem_iff]; exact hm z) hs hp
  rcases hx with hx | hx
  · obtain ⟨its, rv, pl, _⟩ := I1.list hx
    exact set_of_seq (src_list _ _ _ _) xs (I1.ok.hd hc) pl.isList (by simpa using rv.strs) (by unfold scanBound; omega) fun h' tk L hS hl hm hk => PyProof.Rows.args_nil (fin h' tk L hS hl hm hk)
  · obtain ⟨its, rv, pl, _⟩ := I1.tuple hx
    exact set_of_seq (src_tuple _ _ _ _) xs (I1.ok.hd hc) pl (by simpa using rv.strs) (by unfold scanBound; omega) fun h' tk L hS hl hm hk => PyProof.Rows.args_nil (fin h' tk L hS hl hm hk)
end
end Mir
/-! part Mir1 -/
set_option Elab.async false
set_option linter.all false
set_option maxRecDepth 100000
set_option maxHeartbeats 4000000
/-! Words without like neighbours, doors seen in doors: plain lists of code points. -/
namespace Mir
abbrev W := List Nat

/-- no like neighbours -/
def Row : W → Prop
  | [] => True
  | [_] => True
  | a :: b :: t => a ≠ b ∧ Row (b :: t)
def rowB : W → Bool
  | [] => true
  | [_] => true
  | a :: b :: t => a != b && rowB (b :: t)
theorem rowB_iff : ∀ w : W, rowB w = true ↔ Row w
  | [] => by simp [rowB, Row]
  | [_] => by simp [rowB, Row]
  | a :: b :: t => by
    have ih := rowB_iff (b :: t)
    simp only [rowB, Row, Bool.and_eq_true, bne_iff_ne, ih]
theorem Row.tail {a : Nat} {t : W} (h : Row (a :: t)) : Row t := by
  cases t with
  | nil => trivial
  | cons b t => exact h.2
theorem Row.head {a b : Nat} {t : W} (h : Row (a :: b :: t)) : a ≠ b := h.1
theorem row_append : ∀ {u v : W}, Row (u ++ v) ↔ Row u ∧ Row v ∧ ∀ a b, u.getLast? = some a → v.head? = some b → a ≠ b
  | [], v => by simp [Row]
  | [a], v => by
    cases v with
    | nil => simp [Row]
    | cons b t => simp [Row]; exact And.comm
  | a :: b :: t, v => by
    have ih := row_append (u := b :: t) (v := v)
    show Row (a :: b :: (t ++ v)) ↔ _
    simp only [Row]
    have e : Row (b :: (t ++ v)) ↔ Row (b :: t) ∧ Row v ∧ ∀ x y, (b :: t).getLast? = some x → v.head? = some y → x ≠ y := ih
    rw [e, List.getLast?_cons_cons]
    constructor
    · rintro ⟨h1, h2, h3, h4⟩
      exact ⟨⟨h1, h2⟩, h3, h4⟩
    · rintro ⟨⟨h1, h2⟩, h3, h4⟩
      exact ⟨h1, h2, h3, h4⟩
theorem Row.left {u v : W} (h : Row (u ++ v)) : Row u := (row_append.mp h).1
theorem Row.right {u v : W} (h : Row (u ++ v)) : Row v := (row_append.mp h).2.1
theorem Row.take {u : W} (h : Row u) (n : Nat) : Row (u.take n) := by
  have e := List.take_append_drop n u
  rw [← e] at h
  exact h.left
theorem Row.drop {u : W} (h : Row u) (n : Nat) : Row (u.drop n) := by
  have e := List.take_append_drop n u
  rw [← e] at h
  exact h.right
theorem Row.dropLast {u : W} (h : Row u) : Row u.dropLast := by
  rw [List.dropLast_eq_take]
  exact h.take _
theorem Row.snoc {u : W} {c : Nat} (h : Row u) (hc : u.getLast? ≠ some c) : Row (u ++ [c]) := by
  refine row_append.mpr ⟨h, trivial, fun a b ha hb e => hc ?_⟩
  simp only [List.head?_cons, Option.some.injEq] at hb
  rw [ha, e, hb]
theorem row_reverse : ∀ {u : W}, Row u → Row u.reverse
  | [], _ => trivial
  | [_], _ => trivial
  | a :: b :: t, h => by
    have ih := row_reverse h.2
    rw [List.reverse_cons]
    refine ih.snoc fun e => ?_
    rw [List.getLast?_reverse] at e
    exact h.1 (Option.some.inj e).symm

/-- one letter put in front, like neighbours left out -/
def pc (c : Nat) : W → W
  | [] => [c]
  | d :: t => if c = d then t else c :: d :: t
/-- what is left of a word -/
def rd (w : W) : W := w.foldr pc []
theorem row_pc {c : Nat} {l : W} (h : Row l) : Row (pc c l) := by
  cases l with
  | nil => trivial
  | cons d t =>
    show Row (if c = d then t else c :: d :: t)
    by_cases e : c = d
    · rw [if_pos e]
      exact h.tail
    · rw [if_neg e]
      exact ⟨e, h⟩
theorem pc_pc {c : Nat} {l : W} (h : Row l) : pc c (pc c l) = l := by
  cases l with
  | nil => simp [pc]
  | cons d t =>
    by_cases e : c = d
    · subst e
      have e1 : pc c (c :: t) = t := by simp [pc]
      rw [e1]
      cases t with
      | nil => rfl
      | cons x r =>
        have : c ≠ x := h.head
        simp [pc, this]
    · have e1 : pc c (d :: t) = c :: d :: t := by simp [pc, e]
      rw [e1]
      simp [pc]
theorem row_fold (u : W) {r : W} (h : Row r) : Row (u.foldr pc r) := by
  induction u with
  | nil => exact h
  | cons c t ih => exact row_pc ih
theorem row_rd (u : W) : Row (rd u) := row_fold u trivial
theorem rd_row : ∀ {u : W}, Row u → rd u = u
  | [], _ => rfl
  | [_], _ => rfl
  | a :: b :: t, h => by
    have ih : rd (b :: t) = b :: t := rd_row h.2
    show pc a (rd (b :: t)) = _
    rw [ih]
    simp [pc, h.1]
theorem rd_rd (u : W) : rd (rd u) = rd u := rd_row (row_rd u)
theorem rd_append (u v : W) : rd (u ++ v) = u.foldr pc (rd v) := by
  unfold rd
  rw [List.foldr_append]
theorem rd_right (u v : W) : rd (u ++ rd v) = rd (u ++ v) := by
  rw [rd_append, rd_append, rd_rd]
theorem fold_pc (c : Nat) (l : W) {r : W} (h : Row r) : (pc c l).foldr pc r = pc c (l.foldr pc r) := by
  cases l with
  | nil => rfl
  | cons d t =>
    by_cases e : c = d
    · subst e
      have e1 : pc c (c :: t) = t := by simp [pc]
      rw [e1]
      show t.foldr pc r = pc c (pc c (t.foldr pc r))
      rw [pc_pc (row_fold t h)]
    · have e1 : pc c (d :: t) = c :: d :: t := by simp [pc, e]
      rw [e1]
      rfl
theorem fold_rd (u : W) {r : W} (h : Row r) : (rd u).foldr pc r = u.foldr pc r := by
  induction u with
  | nil => rfl
  | cons c t ih =>
    show (pc c (rd t)).foldr pc r = pc c (t.foldr pc r)
    rw [fold_pc c _ h, ih]
theorem rd_left (u v : W) : rd (rd u ++ v) = rd (u ++ v) := by
  rw [rd_append, rd_append, fold_rd u (row_rd v)]
theorem rd_mid (u v w : W) : rd (u ++ rd v ++ w) = rd (u ++ v ++ w) := by
  rw [← rd_left (u ++ rd v) w, rd_right, rd_left]
theorem rd_dup (u : W) (c : Nat) (v : W) : rd (u ++ c :: c :: v) = rd (u ++ v) := by
  rw [rd_append, rd_append]
  show u.foldr pc (pc c (pc c (rd v))) = _
  rw [pc_pc (row_rd v)]
theorem rd_cancel (u : W) : ∀ a v : W, rd (u ++ (a ++ (a.reverse ++ v))) = rd (u ++ v)
  | [], v => rfl
  | c :: a, v => by
    have ih := rd_cancel (u ++ [c]) a (c :: v)
    have e1 : u ++ ((c :: a) ++ ((c :: a).reverse ++ v)) = (u ++ [c]) ++ (a ++ (a.reverse ++ c :: v)) := by simp
    have e2 : (u ++ [c]) ++ c :: v = u ++ c :: c :: v := by simp
    rw [e1, ih, e2, rd_dup]
/-- a letter put behind -/
def psh (l : W) (c : Nat) : W := if l.getLast? = some c then l.dropLast else l ++ [c]
theorem psh_snoc (l : W) (c : Nat) : psh (l ++ [c]) c = l := by
  unfold psh
  rw [if_pos (by simp), List.dropLast_concat]
theorem snoc_cases (l : W) : l = [] ∨ ∃ p c, l = p ++ [c] := by
  rcases List.eq_nil_or_concat l with h | ⟨p, c, h⟩
  · exact .inl h
  · exact .inr ⟨p, c, by rw [h, List.concat_eq_append]⟩
theorem rd_psh {l : W} (h : Row l) (c : Nat) : rd (l ++ [c]) = psh l c := by
  unfold psh
  by_cases e : l.getLast? = some c
  · rw [if_pos e]
    rcases snoc_cases l with h0 | ⟨p, d, h0⟩
    · subst h0
      simp at e
    · subst h0
      have ed : d = c := by simpa using e
      subst ed
      have e2 : (p ++ [d]) ++ [d] = p ++ d :: d :: [] := by simp
      rw [e2, rd_dup, List.append_nil, List.dropLast_concat]
      exact rd_row h.left
  · rw [if_neg e]
    exact rd_row (h.snoc e)
theorem psh_row {l : W} (h : Row l) (c : Nat) : Row (psh l c) := by
  rw [← rd_psh h c]
  exact row_rd _
/-- from the left, letter by letter: the same -/
theorem foldl_psh : ∀ (w : W) {l : W}, Row l → w.foldl psh l = rd (l ++ w)
  | [], l, h => by
    rw [List.append_nil, rd_row h]
    rfl
  | c :: w, l, h => by
    show w.foldl psh (psh l c) = _
    rw [foldl_psh w (psh_row h c), ← rd_psh h c, rd_left]
    simp
theorem rd_reverse : ∀ u : W, rd u.reverse = (rd u).reverse
  | [] => rfl
  | c :: u => by
    have ih := rd_reverse u
    rw [List.reverse_cons, ← rd_left, ih, rd_psh (row_reverse (row_rd u))]
    show psh (rd u).reverse c = (pc c (rd u)).reverse
    generalize rd u = l
    cases l with
    | nil => rfl
    | cons d t =>
      unfold psh pc
      rw [List.getLast?_reverse]
      by_cases e : c = d
      · subst e
        simp
      · have e' : ¬ d = c := fun z => e z.symm
        simp [e, e']

/-- with how many letters two rows begin alike -/
def shr : W → W → Nat
  | x :: a, y :: b => if x = y then shr a b + 1 else 0
  | _, _ => 0
theorem shr_le_left : ∀ a b : W, shr a b ≤ a.length
  | [], _ => by simp [shr]
  | x :: a, [] => by simp [shr]
  | x :: a, y :: b => by
    unfold shr
    have ih := shr_le_left a b
    split <;> simp <;> omega
theorem shr_le_right : ∀ a b : W, shr a b ≤ b.length
  | [], _ => by simp [shr]
  | x :: a, [] => by simp [shr]
  | x :: a, y :: b => by
    unfold shr
    have ih := shr_le_right a b
    split <;> simp <;> omega
theorem shr_take : ∀ a b : W, a.take (shr a b) = b.take (shr a b)
  | [], b => by simp [shr]
  | x :: a, [] => by simp [shr]
  | x :: a, y :: b => by
    unfold shr
    by_cases e : x = y
    · rw [if_pos e, e, List.take_succ_cons, List.take_succ_cons, shr_take a b]
    · rw [if_neg e]
      rfl
theorem shr_spec : ∀ (a b : W) (k : Nat), k ≤ shr a b ↔ (k ≤ a.length ∧ k ≤ b.length ∧ a.take k = b.take k)
  | a, b, 0 => by simp
  | [], b, k + 1 => by simp [shr]
  | x :: a, [], k + 1 => by simp [shr]
  | x :: a, y :: b, k + 1 => by
    have ih := shr_spec a b k
    unfold shr
    by_cases e : x = y
    · subst e
      simp [ih]
    · simp [e]
theorem shr_self (a : W) : shr a a = a.length := by
  have h := (shr_spec a a a.length).mpr ⟨Nat.le_refl _, Nat.le_refl _, rfl⟩
  have := shr_le_left a a
  omega
/-- the row of one row with another one behind it -/
def jn (a b : W) : W := a.take (a.length - shr a.reverse b) ++ b.drop (shr a.reverse b)
def jr : W → W → W
  | x :: a, y :: b => if x = y then jr a b else (x :: a).reverse ++ (y :: b)
  | a, b => a.reverse ++ b
theorem jr_eq : ∀ a b : W, jr a b = a.reverse.take (a.length - shr a b) ++ b.drop (shr a b)
  | [], b => by simp [jr, shr]
  | x :: a, [] => by
    rw [show shr (x :: a) [] = 0 from rfl, Nat.sub_zero]
    rw [List.take_of_length_le (by simp)]
    rfl
  | x :: a, y :: b => by
    unfold jr shr
    by_cases e : x = y
    · rw [if_pos e, if_pos e, jr_eq a b, List.reverse_cons, List.length_cons, Nat.succ_sub_succ, List.drop_succ_cons,
        List.take_append_of_le_length (by rw [List.length_reverse]; omega)]
    · rw [if_neg e, if_neg e, Nat.sub_zero, List.take_of_length_le (by simp)]
      rfl
theorem jn_jr (a b : W) : jn a b = jr a.reverse b := by
  rw [jr_eq, List.reverse_reverse, List.length_reverse]
  rfl
theorem jr_rd : ∀ {a b : W}, Row a.reverse → Row b → jr a b = rd (a.reverse ++ b)
  | [], b, _, hb => by
    show b = _
    exact (rd_row hb).symm
  | x :: a, [], ha, _ => by
    show (x :: a).reverse ++ [] = _
    rw [List.append_nil, rd_row ha]
  | x :: a, y :: b, ha, hb => by
    have ha' : Row a.reverse := by
      rw [List.reverse_cons] at ha
      exact ha.left
    unfold jr
    by_cases e : x = y
    · subst e
      rw [if_pos rfl, jr_rd ha' hb.tail, List.reverse_cons]
      have e2 : a.reverse ++ [x] ++ x :: b = a.reverse ++ x :: x :: b := by simp
      rw [e2, rd_dup]
    · rw [if_neg e]
      refine (rd_row (row_append.mpr ⟨ha, hb, fun p q hp hq => ?_⟩)).symm
      rw [List.getLast?_reverse] at hp
      simp only [List.head?_cons, Option.some.injEq] at hp hq
      rw [← hp, ← hq]
      exact e
theorem jn_rd {a b : W} (ha : Row a) (hb : Row b) : jn a b = rd (a ++ b) := by
  rw [jn_jr, jr_rd (by rw [List.reverse_reverse]; exact ha) hb, List.reverse_reverse]
theorem jn_len (a b : W) : (jn a b).length ≤ a.length + b.length := by
  unfold jn
  rw [List.length_append, List.length_take, List.length_drop]
  omega

/-- a way there and, but for its last letter, back -/
def pal (w : W) : W := w ++ w.dropLast.reverse
theorem pal_snoc (p : W) (c : Nat) : pal (p ++ [c]) = p ++ c :: p.reverse := by
  unfold pal
  rw [List.dropLast_concat]
  simp
theorem pal_reverse (w : W) : (pal w).reverse = pal w := by
  rcases snoc_cases w with h | ⟨p, c, h⟩
  · subst h
    rfl
  · subst h
    rw [pal_snoc]
    simp
theorem pal_len (w : W) : (pal w).length = 2 * w.length - 1 := by
  unfold pal
  rw [List.length_append, List.length_reverse, List.length_dropLast]
  omega
theorem row_fold_back {p : W} {c : Nat} (h : Row (p ++ [c])) : Row (p ++ c :: p.reverse) := by
  have e : p ++ c :: p.reverse = (p ++ [c]) ++ p.reverse := by simp
  rw [e]
  have h1 := row_append.mp h
  refine row_append.mpr ⟨h, row_reverse h.left, fun a b ha hb z => ?_⟩
  rw [List.head?_reverse] at hb
  have hc : c = a := by simpa using ha
  exact h1.2.2 b c hb rfl (by rw [hc, z])
theorem pal_row {w : W} (h : Row w) : Row (pal w) := by
  rcases snoc_cases w with h0 | ⟨p, c, h0⟩
  · subst h0
    trivial
  · subst h0
    rw [pal_snoc]
    exact row_fold_back h
theorem pal_inj {a b : W} (ha : a ≠ []) (hb : b ≠ []) (h : pal a = pal b) : a = b := by
  have h1 := pal_len a
  have h2 := pal_len b
  have la : 0 < a.length := List.length_pos_iff.mpr ha
  have lb : 0 < b.length := List.length_pos_iff.mpr hb
  have el : a.length = b.length := by
    rw [h] at h1
    omega
  have e1 : (pal a).take a.length = a := List.take_left
  have e2 : (pal b).take b.length = b := List.take_left
  rw [← e1, h, el, e2]
theorem pal_half {w : W} (h : w ≠ []) : (pal w).take ((pal w).length / 2 + 1) = w := by
  have la : 0 < w.length := List.length_pos_iff.mpr h
  rw [pal_len, show (2 * w.length - 1) / 2 + 1 = w.length by omega]
  exact List.take_left

/-- where a room goes if the house is turned over at a door -/
def trn (y r : W) : W := jn (pal y) r
/-- the way of a door seen in another one -/
def sn (x y : W) : W := if (trn y x.dropLast).length < (trn y x).length then trn y x else trn y x.dropLast
/-- it is one of the two rooms -/
theorem sn_or (x y : W) : sn x y = trn y x ∨ sn x y = trn y x.dropLast := by
  unfold sn
  split
  · exact .inl rfl
  · exact .inr rfl
theorem sn_form {q y : W} {c : Nat} (hx : Row (q ++ [c])) (hy : Row y) :
    sn (q ++ [c]) y = if (rd (pal y ++ q)).getLast? = some c then rd (pal y ++ q) else rd (pal y ++ q) ++ [c] := by
  have e1 : trn y q = rd (pal y ++ q) := jn_rd (pal_row hy) hx.left
  have e2 : trn y (q ++ [c]) = psh (rd (pal y ++ q)) c := by
    show jn _ _ = _
    rw [jn_rd (pal_row hy) hx, ← List.append_assoc, ← rd_left, rd_psh (row_rd _)]
  unfold sn
  rw [List.dropLast_concat, e1, e2]
  unfold psh
  by_cases e : (rd (pal y ++ q)).getLast? = some c
  · rw [if_pos e, if_pos e, if_neg]
    rw [List.length_dropLast]
    omega
  · rw [if_neg e, if_neg e, if_pos]
    rw [List.length_append]
    simp
theorem sn_row {x y : W} (hx : Row x) (hy : Row y) (h0 : x ≠ []) : Row (sn x y) ∧ (sn x y).getLast? = x.getLast? := by
  rcases snoc_cases x with h | ⟨q, c, h⟩
  · exact absurd h h0
  · subst h
    rw [sn_form hx hy]
    by_cases e : (rd (pal y ++ q)).getLast? = some c
    · rw [if_pos e]
      exact ⟨row_rd _, by rw [e]; simp⟩
    · rw [if_neg e]
      exact ⟨(row_rd _).snoc e, by simp⟩
theorem sn_ne {x y : W} (hx : Row x) (hy : Row y) (h0 : x ≠ []) : sn x y ≠ [] := fun z => by
  have h := (sn_row hx hy h0).2
  rw [z] at h
  rcases snoc_cases x with h1 | ⟨q, c, h1⟩
  · exact h0 h1
  · rw [h1] at h
    simp at h
theorem pal_sn {x y : W} (hx : Row x) (hy : Row y) (h0 : x ≠ []) : pal (sn x y) = rd (pal y ++ pal x ++ pal y) := by
  rcases snoc_cases x with h | ⟨q, c, h⟩
  · exact absurd h h0
  · subst h
    rw [sn_form hx hy, pal_snoc]
    have er : rd (q.reverse ++ pal y) = (rd (pal y ++ q)).reverse := by
      rw [← rd_reverse, List.reverse_append, pal_reverse]
    have e0 : pal y ++ (q ++ c :: q.reverse) ++ pal y = (pal y ++ q) ++ (c :: (q.reverse ++ pal y)) := by simp
    have e1 : rd (pal y ++ (q ++ c :: q.reverse) ++ pal y) = rd (rd (pal y ++ q) ++ (c :: (rd (pal y ++ q)).reverse)) := by
      rw [e0, ← er, rd_left]
      have := rd_right ((pal y ++ q) ++ [c]) (q.reverse ++ pal y)
      simpa using this.symm
    rw [e1]
    have hu : Row (rd (pal y ++ q)) := row_rd _
    generalize rd (pal y ++ q) = u at hu
    by_cases e : u.getLast? = some c
    · rw [if_pos e]
      rcases snoc_cases u with h1 | ⟨v, d, h1⟩
      · rw [h1] at e
        simp at e
      · subst h1
        have ed : d = c := by simpa using e
        subst ed
        rw [pal_snoc]
        have e3 : (v ++ [d]) ++ d :: (v ++ [d]).reverse = v ++ d :: d :: (d :: v.reverse) := by simp
        rw [e3, rd_dup]
        exact (rd_row (row_fold_back hu)).symm
    · rw [if_neg e, pal_snoc]
      exact (rd_row (row_fold_back (hu.snoc e))).symm
/-- what the half of the reduced row of other, one, other is -/
theorem sn_half {x y : W} (hx : Row x) (hy : Row y) (h0 : x ≠ []) :
    (rd (pal y ++ pal x ++ pal y)).take ((rd (pal y ++ pal x ++ pal y)).length / 2 + 1) = sn x y := by
  rw [← pal_sn hx hy h0]
  exact pal_half (sn_ne hx hy h0)
theorem rd_pp (u y v : W) : rd (u ++ (pal y ++ (pal y ++ v))) = rd (u ++ v) := by
  have h := rd_cancel u (pal y) v
  rw [pal_reverse] at h
  exact h
/-- seen twice in the same one, it is itself -/
theorem sn_sn {x y : W} (hx : Row x) (hy : Row y) (h0 : x ≠ []) : sn (sn x y) y = x := by
  have h1 := sn_row hx hy h0
  have h2 := sn_ne hx hy h0
  have h3 := sn_row h1.1 hy h2
  have h4 := sn_ne h1.1 hy h2
  refine pal_inj h4 h0 ?_
  rw [pal_sn h1.1 hy h2, pal_sn hx hy h0, rd_mid]
  have e : pal y ++ (pal y ++ pal x ++ pal y) ++ pal y = [] ++ (pal y ++ (pal y ++ (pal x ++ (pal y ++ (pal y ++ []))))) := by simp
  rw [e, rd_pp, List.nil_append, rd_pp, List.append_nil]
  exact rd_row (pal_row hx)
theorem sn_self {x : W} (hx : Row x) (h0 : x ≠ []) : sn x x = x := by
  have h2 := sn_ne hx hx h0
  refine pal_inj h2 h0 ?_
  rw [pal_sn hx hx h0]
  have e : pal x ++ pal x ++ pal x = [] ++ (pal x ++ (pal x ++ (pal x))) := by simp
  rw [e, rd_pp, List.nil_append]
  exact rd_row (pal_row hx)
/-- one seen in (a seen in b) -/
theorem sn_conj {x a b : W} (hx : Row x) (ha : Row a) (hb : Row b) (h0 : x ≠ []) (ha0 : a ≠ []) : sn x (sn a b) = sn (sn (sn x b) a) b := by
  have k1 := sn_row hx hb h0
  have n1 := sn_ne hx hb h0
  have k2 := sn_row k1.1 ha n1
  have n2 := sn_ne k1.1 ha n1
  have n3 := sn_ne k2.1 hb n2
  have ka := sn_row ha hb ha0
  have nl := sn_ne hx ka.1 h0
  refine pal_inj nl n3 ?_
  rw [pal_sn hx ka.1 h0, pal_sn k2.1 hb n2, pal_sn k1.1 ha n1, pal_sn hx hb h0, pal_sn ha hb ha0]
  have l1 : rd (rd (pal b ++ pal a ++ pal b) ++ pal x ++ rd (pal b ++ pal a ++ pal b)) = rd ((pal b ++ pal a ++ pal b) ++ pal x ++ (pal b ++ pal a ++ pal b)) := by
    rw [rd_right, List.append_assoc, rd_left, ← List.append_assoc]
  have r1 : rd (pal b ++ rd (pal a ++ rd (pal b ++ pal x ++ pal b) ++ pal a) ++ pal b) = rd (pal b ++ (pal a ++ (pal b ++ pal x ++ pal b) ++ pal a) ++ pal b) := by
    rw [rd_mid, show pal b ++ (pal a ++ rd (pal b ++ pal x ++ pal b) ++ pal a) ++ pal b = (pal b ++ pal a) ++ rd (pal b ++ pal x ++ pal b) ++ (pal a ++ pal b) by simp, rd_mid]
    simp
  rw [l1, r1]
  simp
theorem pre_jn {m r : W} (h : ¬ m <+: r) : m <+: trn m r := by
  unfold trn jn
  rw [pal_reverse]
  have hs : shr (pal m) r < m.length := by
    refine Nat.lt_of_not_le fun hle => h ?_
    have h1 := (shr_spec (pal m) r m.length).mp hle
    have e1 : (pal m).take m.length = m := List.take_left
    rw [e1] at h1
    rw [h1.2.2]
    exact List.take_prefix _ _
  have hl := pal_len m
  refine List.IsPrefix.trans ?_ (List.prefix_append _ _)
  have e2 : m = (pal m).take m.length := (List.take_left (l₁ := m) (l₂ := m.dropLast.reverse)).symm
  have e3 : (pal m).take m.length <+: (pal m).take ((pal m).length - shr (pal m) r) := by
    have := List.take_prefix m.length ((pal m).take ((pal m).length - shr (pal m) r))
    rw [List.take_take, Nat.min_eq_left (by omega)] at this
    exact this
  rw [← e2] at e3
  exact e3
/-- a door that does not lie behind m, seen in m, lies behind m -/
theorem pre_sn {m x : W} (h : ¬ m <+: x) : m <+: sn x m := by
  rcases sn_or x m with e | e
  · rw [e]
    exact pre_jn h
  · rw [e]
    exact pre_jn fun z => h (z.trans (List.dropLast_prefix x))
theorem sn_len (x y : W) : (sn x y).length ≤ x.length + 2 * y.length := by
  have h := pal_len y
  rcases sn_or x y with e | e
  · rw [e]
    have := jn_len (pal y) x
    unfold trn
    omega
  · rw [e]
    have := jn_len (pal y) x.dropLast
    rw [List.length_dropLast] at this
    unfold trn
    omega
theorem rd_len (u : W) : (rd u).length ≤ u.length := by
  induction u with
  | nil => exact Nat.le_refl _
  | cons c t ih =>
    show (pc c (rd t)).length ≤ t.length + 1
    generalize rd t = l at ih
    cases l with
    | nil => simp [pc]
    | cons d r =>
      show (if c = d then r else c :: d :: r).length ≤ t.length + 1
      rw [List.length_cons] at ih
      split
      · omega
      · rw [List.length_cons, List.length_cons]
        omega
/-- seen in a door on the way to it, it gets shorter -/
theorem sn_short {m x : W} (hm : Row m) (hx : Row x) (hm0 : m ≠ []) (hp : m <+: x) (hne : m ≠ x) : (sn x m).length < x.length := by
  have hx0 : x ≠ [] := fun z => by
    rw [z] at hp
    exact hm0 (List.prefix_nil.mp hp)
  rcases snoc_cases x with h | ⟨q, c, h⟩
  · exact absurd h hx0
  rcases snoc_cases m with h' | ⟨p, d, h'⟩
  · exact absurd h' hm0
  have hq : m <+: q := by
    rw [h] at hp
    obtain ⟨t, ht⟩ := hp
    rcases snoc_cases t with z | ⟨t', e, z⟩
    · rw [z, List.append_nil, ← h] at ht
      exact absurd ht hne
    · rw [z, ← List.append_assoc] at ht
      exact ⟨t', (List.append_inj' ht rfl).1⟩
  obtain ⟨s, hs⟩ := hq
  have hlen : (rd (pal m ++ q)).length + 1 ≤ q.length := by
    have e : pal m ++ q = p ++ (d :: (p.reverse ++ (p ++ d :: s))) := by
      rw [← hs, h', pal_snoc]
      simp
    have e2 : rd (pal m ++ q) = rd (p ++ s) := by
      have k := rd_cancel (p ++ [d]) p.reverse (d :: s)
      rw [List.reverse_reverse] at k
      have k2 : p ++ (d :: (p.reverse ++ (p ++ d :: s))) = (p ++ [d]) ++ (p.reverse ++ (p ++ d :: s)) := by simp
      rw [e, k2, k]
      have k3 : (p ++ [d]) ++ d :: s = p ++ d :: d :: s := by simp
      rw [k3, rd_dup]
    have k4 := rd_len (p ++ s)
    rw [e2, ← hs, h']
    simp only [List.length_append, List.length_cons, List.length_nil] at k4 ⊢
    omega
  rw [h, sn_form (by rw [← h]; exact hx) hm]
  split
  · rw [List.length_append]
    simp only [List.length_cons, List.length_nil]
    omega
  · rw [List.length_append, List.length_append]
    simp only [List.length_cons, List.length_nil]
    omega
end Mir
/-! part Mir2 -/
set_option Elab.async false
set_option linter.all false
set_option maxRecDepth 100000
set_option maxHeartbeats 4000000
/-! Families of doors: folds, makers; what lies within. -/
namespace Mir
/-- ascending, by lists of code points -/
def ltW : W → W → Bool
  | [], [] => false
  | [], _ :: _ => true
  | _ :: _, [] => false
  | a :: s, b :: t => if a = b then ltW s t else decide (a < b)
theorem ltW_irrefl : ∀ a : W, ltW a a = false
  | [] => rfl
  | x :: a => by simp [ltW, ltW_irrefl a]
theorem ltW_trans : ∀ {a b c : W}, ltW a b = true → ltW b c = true → ltW a c = true
  | [], b, c, h1, h2 => by
    cases b with
    | nil => cases h1
    | cons y b =>
      cases c with
      | nil => cases h2
      | cons z c => rfl
  | x :: a, b, c, h1, h2 => by
    cases b with
    | nil => cases h1
    | cons y b =>
      cases c with
      | nil => cases h2
      | cons z c =>
        simp only [ltW] at h1 h2 ⊢
        by_cases e1 : x = y
        · by_cases e2 : y = z
          · rw [if_pos e1] at h1
            rw [if_pos e2] at h2
            rw [if_pos (e1.trans e2)]
            exact ltW_trans h1 h2
          · rw [if_neg e2] at h2
            have h2' := of_decide_eq_true h2
            rw [if_neg (by omega)]
            exact decide_eq_true (by omega)
        · rw [if_neg e1] at h1
          have h1' := of_decide_eq_true h1
          by_cases e2 : y = z
          · rw [if_neg (by omega)]
            exact decide_eq_true (by omega)
          · rw [if_neg e2] at h2
            have h2' := of_decide_eq_true h2
            rw [if_neg (by omega)]
            exact decide_eq_true (by omega)
theorem ltW_total : ∀ a b : W, ltW a b = false → ltW b a = false → a = b
  | [], [], _, _ => rfl
  | [], _ :: _, h, _ => by cases h
  | _ :: _, [], _, h => by cases h
  | x :: a, y :: b, h1, h2 => by
    simp only [ltW] at h1 h2
    by_cases e : x = y
    · rw [if_pos e] at h1
      rw [if_pos e.symm] at h2
      rw [e, ltW_total a b h1 h2]
    · rw [if_neg e] at h1
      rw [if_neg (fun z => e z.symm)] at h2
      have k1 := of_decide_eq_false h1
      have k2 := of_decide_eq_false h2
      omega
theorem ltW_asymm {a b : W} (h : ltW a b = true) : ltW b a = false := by
  cases e : ltW b a with
  | false => rfl
  | true =>
    have := ltW_trans h e
    rw [ltW_irrefl] at this
    cases this

/-- put into an ascending list, once -/
def ins (x : W) : List W → List W
  | [] => [x]
  | y :: l => if x = y then y :: l else if ltW x y = true then x :: y :: l else y :: ins x l
def setOf (l : List W) : List W := l.foldr ins []
def Asc : List W → Prop
  | [] => True
  | [_] => True
  | a :: b :: t => ltW a b = true ∧ Asc (b :: t)
def ascB : List W → Bool
  | [] => true
  | [_] => true
  | a :: b :: t => ltW a b && ascB (b :: t)
theorem ascB_iff : ∀ w : List W, ascB w = true ↔ Asc w
  | [] => by simp [ascB, Asc]
  | [_] => by simp [ascB, Asc]
  | a :: b :: t => by
    have ih := ascB_iff (b :: t)
    simp only [ascB, Asc, Bool.and_eq_true, ih]
theorem Asc.tail {a : W} {t : List W} (h : Asc (a :: t)) : Asc t := by
  cases t with
  | nil => trivial
  | cons b t => exact h.2
theorem Asc.lt : ∀ {t : List W} {a : W}, Asc (a :: t) → ∀ x ∈ t, ltW a x = true
  | [], _, _, _, hx => by cases hx
  | b :: t, a, h, x, hx => by
    rcases List.mem_cons.mp hx with rfl | hx
    · exact h.1
    · exact ltW_trans h.1 (Asc.lt h.2 x hx)
theorem asc_cons {a : W} {t : List W} (h : Asc t) (k : ∀ x ∈ t, ltW a x = true) : Asc (a :: t) := by
  cases t with
  | nil => trivial
  | cons b t => exact ⟨k b List.mem_cons_self, h⟩
theorem Asc.nodup : ∀ {t : List W}, Asc t → t.Nodup
  | [], _ => List.nodup_nil
  | a :: t, h => by
    refine List.nodup_cons.mpr ⟨fun hm => ?_, h.tail.nodup⟩
    have := h.lt a hm
    rw [ltW_irrefl] at this
    cases this
theorem mem_ins (x : W) : ∀ {l : List W} {y : W}, y ∈ ins x l ↔ y = x ∨ y ∈ l
  | [], y => by simp [ins]
  | z :: l, y => by
    have ih := mem_ins x (l := l) (y := y)
    unfold ins
    split
    · rename_i e
      simp [e]
    · split
      · simp
      · simp only [List.mem_cons, ih]
        constructor
        · rintro (h | h | h)
          · exact .inr (.inl h)
          · exact .inl h
          · exact .inr (.inr h)
        · rintro (h | h | h)
          · exact .inr (.inl h)
          · exact .inl h
          · exact .inr (.inr h)
theorem asc_ins (x : W) : ∀ {l : List W}, Asc l → Asc (ins x l)
  | [], _ => trivial
  | z :: l, h => by
    unfold ins
    split
    · exact h
    · rename_i e
      split
      · rename_i e2
        exact ⟨e2, h⟩
      · rename_i e2
        refine asc_cons (asc_ins x h.tail) fun y hy => ?_
        rcases (mem_ins x).mp hy with rfl | hy
        · cases q : ltW z y with
          | true => rfl
          | false => exact absurd (ltW_total _ _ (by simpa using e2) q) e
        · exact h.lt y hy
theorem asc_setOf (l : List W) : Asc (setOf l) := by
  induction l with
  | nil => trivial
  | cons x t ih => exact asc_ins x ih
theorem mem_setOf {l : List W} {y : W} : y ∈ setOf l ↔ y ∈ l := by
  induction l with
  | nil => exact Iff.rfl
  | cons x t ih =>
    show y ∈ ins x (setOf t) ↔ _
    rw [mem_ins, ih, List.mem_cons]
theorem asc_ext : ∀ {a b : List W}, Asc a → Asc b → (∀ x, x ∈ a ↔ x ∈ b) → a = b
  | [], [], _, _, _ => rfl
  | [], y :: b, _, _, h => by
    have := (h y).mpr List.mem_cons_self
    cases this
  | x :: a, [], _, _, h => by
    have := (h x).mp List.mem_cons_self
    cases this
  | x :: a, y :: b, ha, hb, h => by
    have exy : x = y := by
      have h1 := (h x).mp List.mem_cons_self
      have h2 := (h y).mpr List.mem_cons_self
      rcases List.mem_cons.mp h1 with e | e
      · exact e
      · rcases List.mem_cons.mp h2 with e2 | e2
        · exact e2.symm
        · have k1 := hb.lt x e
          have k2 := ha.lt y e2
          rw [ltW_asymm k1] at k2
          cases k2
    subst exy
    have na := ha.nodup
    have nb := hb.nodup
    refine congrArg (x :: ·) (asc_ext ha.tail hb.tail fun z => ?_)
    have hz := h z
    constructor
    · intro hm
      rcases List.mem_cons.mp (hz.mp (List.mem_cons_of_mem _ hm)) with e | e
      · subst e
        exact absurd hm (List.nodup_cons.mp na).1
      · exact e
    · intro hm
      rcases List.mem_cons.mp (hz.mpr (List.mem_cons_of_mem _ hm)) with e | e
      · subst e
        exact absurd hm (List.nodup_cons.mp nb).1
      · exact e
theorem setOf_asc {l : List W} (h : Asc l) : setOf l = l := asc_ext (asc_setOf l) h fun _ => mem_setOf
theorem setOf_congr {a b : List W} (h : ∀ x, x ∈ a ↔ x ∈ b) : setOf a = setOf b :=
  asc_ext (asc_setOf a) (asc_setOf b) fun x => by rw [mem_setOf, mem_setOf]; exact h x
/-- letters in all -/
def tot (l : List W) : Nat := (l.map List.length).sum
theorem tot_cons (x : W) (l : List W) : tot (x :: l) = x.length + tot l := by
  unfold tot
  rw [List.map_cons, List.sum_cons]
theorem tot_append (a b : List W) : tot (a ++ b) = tot a + tot b := by
  unfold tot
  rw [List.map_append, List.sum_append]
theorem tot_ins (x : W) (l : List W) : tot (ins x l) ≤ x.length + tot l := by
  induction l with
  | nil => exact Nat.le_refl _
  | cons y l ih =>
    unfold ins
    split
    · omega
    · split
      · rw [tot_cons]
        omega
      · rw [tot_cons, tot_cons]
        omega
theorem tot_setOf (l : List W) : tot (setOf l) ≤ tot l := by
  induction l with
  | nil => exact Nat.le_refl _
  | cons x l ih =>
    have := tot_ins x (setOf l)
    rw [tot_cons]
    show tot (ins x (setOf l)) ≤ _
    omega
theorem len_ins (x : W) (l : List W) : (ins x l).length ≤ l.length + 1 := by
  induction l with
  | nil => exact Nat.le_refl _
  | cons y l ih =>
    unfold ins
    split
    · simp
    · split
      · simp
      · rw [List.length_cons, List.length_cons]
        omega
theorem len_setOf (l : List W) : (setOf l).length ≤ l.length := by
  induction l with
  | nil => exact Nat.le_refl _
  | cons x l ih =>
    have := len_ins x (setOf l)
    show (ins x (setOf l)).length ≤ _
    rw [List.length_cons]
    omega
theorem tot_filter (p : W → Bool) (l : List W) : tot (l.filter p) + tot (l.filter fun x => !p x) = tot l := by
  induction l with
  | nil => rfl
  | cons x l ih =>
    cases e : p x with
    | true => simp [e, tot_cons] ; omega
    | false => simp [e, tot_cons] ; omega
theorem len_filter (p : W → Bool) (l : List W) : (l.filter p).length + (l.filter fun x => !p x).length = l.length := by
  induction l with
  | nil => rfl
  | cons x l ih =>
    cases e : p x with
    | true => simp [e] ; omega
    | false => simp [e] ; omega

/-- a WAY: a row of at least one of the letters a to h -/
def Way (w : W) : Prop := Row w ∧ w ≠ [] ∧ ∀ c ∈ w, 97 ≤ c ∧ c ≤ 104
def wayB (w : W) : Bool := rowB w && !w.isEmpty && w.all fun c => decide (97 ≤ c) && decide (c ≤ 104)
theorem wayB_iff (w : W) : wayB w = true ↔ Way w := by
  unfold wayB Way
  rw [Bool.and_eq_true, Bool.and_eq_true, rowB_iff]
  simp only [Bool.not_eq_true', List.isEmpty_eq_false_iff, List.all_eq_true, Bool.and_eq_true, decide_eq_true_eq]
  exact and_assoc
theorem mem_pc {c x : Nat} {l : W} (h : x ∈ pc c l) : x = c ∨ x ∈ l := by
  cases l with
  | nil => exact .inl (by simpa [pc] using h)
  | cons d t =>
    have h' : x ∈ (if c = d then t else c :: d :: t) := h
    split at h'
    · exact .inr (List.mem_cons_of_mem _ h')
    · rcases List.mem_cons.mp h' with e | e
      · exact .inl e
      · exact .inr e
theorem mem_rd : ∀ {u : W} {x : Nat}, x ∈ rd u → x ∈ u
  | [], _, h => by cases h
  | c :: t, x, h => by
    rcases mem_pc (show x ∈ pc c (rd t) from h) with e | e
    · rw [e]
      exact List.mem_cons_self
    · exact List.mem_cons_of_mem _ (mem_rd e)
theorem mem_pal {w : W} {x : Nat} (h : x ∈ pal w) : x ∈ w := by
  unfold pal at h
  rcases List.mem_append.mp h with e | e
  · exact e
  · exact List.dropLast_subset _ (List.mem_reverse.mp e)
theorem mem_jn {a b : W} {x : Nat} (h : x ∈ jn a b) : x ∈ a ∨ x ∈ b := by
  unfold jn at h
  rcases List.mem_append.mp h with e | e
  · exact .inl (List.mem_of_mem_take e)
  · exact .inr (List.mem_of_mem_drop e)
theorem mem_sn {x y : W} {c : Nat} (h : c ∈ sn x y) : c ∈ x ∨ c ∈ y := by
  rcases sn_or x y with e | e
  · rw [e] at h
    rcases mem_jn h with z | z
    · exact .inr (mem_pal z)
    · exact .inl z
  · rw [e] at h
    rcases mem_jn h with z | z
    · exact .inr (mem_pal z)
    · exact .inl (List.dropLast_subset _ z)
theorem Way.sn {x y : W} (hx : Way x) (hy : Way y) : Way (sn x y) :=
  ⟨(sn_row hx.1 hy.1 hx.2.1).1, sn_ne hx.1 hy.1 hx.2.1, fun c hc => (mem_sn hc).elim (hx.2.2 c) (hy.2.2 c)⟩

/-- the first one on the way to x -/
def ahead (M : List W) (x : W) : Option W := M.find? fun m => decide (m ≠ x) && m.isPrefixOf x
/-- what x folds to, and by which makers -/
def foldN (M : List W) : Nat → W → W × List W
  | 0, x => (x, [])
  | n + 1, x => match ahead M x with
    | none => (x, [])
    | some m => ((foldN M n (sn x m)).1, m :: (foldN M n (sn x m)).2)
def fold (M : List W) (x : W) : W × List W := foldN M x.length x
theorem ahead_some {M : List W} {x m : W} (h : ahead M x = some m) : m ∈ M ∧ m ≠ x ∧ m <+: x := by
  have h1 := List.mem_of_find?_eq_some h
  have h2 := List.find?_some h
  simp only [Bool.and_eq_true, decide_eq_true_eq, List.isPrefixOf_iff_prefix] at h2
  exact ⟨h1, h2.1, h2.2⟩
theorem ahead_none {M : List W} {x : W} : ahead M x = none ↔ ∀ m ∈ M, m <+: x → m = x := by
  unfold ahead
  rw [List.find?_eq_none]
  constructor
  · intro h m hm hp
    have := h m hm
    by_cases e : m = x
    · exact e
    · exact absurd (by simp [e, hp]) this
  · intro h m hm k
    simp only [Bool.and_eq_true, decide_eq_true_eq, List.isPrefixOf_iff_prefix] at k
    exact k.1 (h m hm k.2)
def Ways (l : List W) : Prop := ∀ w ∈ l, Way w
theorem foldN_more {M : List W} (hM : Ways M) : ∀ (n k : Nat) {x : W}, Way x → x.length ≤ n → foldN M (n + k) x = foldN M n x
  | 0, k, x, hx, hl => absurd (List.eq_nil_of_length_eq_zero (Nat.le_zero.mp hl)) hx.2.1
  | n + 1, k, x, hx, hl => by
    rw [Nat.add_right_comm]
    unfold foldN
    cases e : ahead M x with
    | none => rfl
    | some m =>
      obtain ⟨h1, h2, h3⟩ := ahead_some e
      have hs := sn_short (hM m h1).1 hx.1 (hM m h1).2.1 h3 h2
      show ((foldN M (n + k) (sn x m)).1, m :: (foldN M (n + k) (sn x m)).2) = _
      rw [foldN_more hM n k (hx.sn (hM m h1)) (by omega)]
theorem fold_none {M : List W} {x : W} (h : ahead M x = none) : fold M x = (x, []) := by
  unfold fold
  cases x.length with
  | zero => rfl
  | succ n =>
    unfold foldN
    rw [h]
theorem fold_some {M : List W} (hM : Ways M) {x m : W} (hx : Way x) (h : ahead M x = some m) : fold M x = ((fold M (sn x m)).1, m :: (fold M (sn x m)).2) := by
  obtain ⟨h1, h2, h3⟩ := ahead_some h
  have hs := sn_short (hM m h1).1 hx.1 (hM m h1).2.1 h3 h2
  have e : foldN M x.length x = foldN M ((x.length - 1) + 1) x := by rw [Nat.sub_add_cancel (by omega)]
  have e2 : foldN M (x.length - 1) (sn x m) = foldN M (sn x m).length (sn x m) := by
    rw [show x.length - 1 = (sn x m).length + (x.length - 1 - (sn x m).length) by omega]
    exact foldN_more hM _ _ (hx.sn (hM m h1)) (Nat.le_refl _)
  have e3 : foldN M ((x.length - 1) + 1) x = ((foldN M (x.length - 1) (sn x m)).1, m :: (foldN M (x.length - 1) (sn x m)).2) := by
    show (match ahead M x with
      | none => (x, [])
      | some m => ((foldN M (x.length - 1) (sn x m)).1, m :: (foldN M (x.length - 1) (sn x m)).2)) = _
    rw [h]
  show foldN M x.length x = ((foldN M (sn x m).length (sn x m)).1, m :: (foldN M (sn x m).length (sn x m)).2)
  rw [e, e3, e2]
/-- induction along the folds -/
theorem fold_ind {M : List W} (hM : Ways M) {P : W → Prop} (h0 : ∀ x, Way x → ahead M x = none → P x) (h1 : ∀ x m, Way x → ahead M x = some m → P (sn x m) → P x) : ∀ (n : Nat) {x : W}, x.length ≤ n → Way x → P x
  | 0, x, hl, hx => absurd (List.eq_nil_of_length_eq_zero (Nat.le_zero.mp hl)) hx.2.1
  | n + 1, x, hl, hx => by
    cases e : ahead M x with
    | none => exact h0 x hx e
    | some m =>
      obtain ⟨k1, k2, k3⟩ := ahead_some e
      have hs := sn_short (hM m k1).1 hx.1 (hM m k1).2.1 k3 k2
      exact h1 x m hx e (fold_ind hM h0 h1 n (by omega) (hx.sn (hM m k1)))
theorem fold_facts {M : List W} (hM : Ways M) {x : W} (hx : Way x) : Way (fold M x).1 ∧ ahead M (fold M x).1 = none ∧ (fold M x).1.length ≤ x.length ∧ (∀ m ∈ (fold M x).2, m ∈ M) ∧ (fold M x).2.length ≤ x.length := by
  refine fold_ind (P := fun x => Way (fold M x).1 ∧ ahead M (fold M x).1 = none ∧ (fold M x).1.length ≤ x.length ∧ (∀ m ∈ (fold M x).2, m ∈ M) ∧ (fold M x).2.length ≤ x.length) hM (fun x hx e => ?_) (fun x m hx e ih => ?_) _ (Nat.le_refl _) hx
  · rw [fold_none e]
    exact ⟨hx, e, Nat.le_refl _, fun m hm => (by cases hm), Nat.zero_le _⟩
  · obtain ⟨k1, k2, k3⟩ := ahead_some e
    have hs := sn_short (hM m k1).1 hx.1 (hM m k1).2.1 k3 k2
    rw [fold_some hM hx e]
    refine ⟨ih.1, ih.2.1, by have := ih.2.2.1; show (fold M (sn x m)).1.length ≤ _; omega, fun y hy => ?_, ?_⟩
    · rcases List.mem_cons.mp hy with rfl | hy
      · exact k1
      · exact ih.2.2.2.1 y hy
    · have := ih.2.2.2.2
      show (m :: (fold M (sn x m)).2).length ≤ _
      rw [List.length_cons]
      omega
/-- none begins another one -/
def PF (M : List W) : Prop := ∀ a ∈ M, ∀ b ∈ M, a <+: b → a = b
def pfB (M : List W) : Bool := M.all fun a => M.all fun b => !a.isPrefixOf b || decide (a = b)
theorem pfB_iff (M : List W) : pfB M = true ↔ PF M := by
  unfold pfB PF
  simp only [List.all_eq_true, Bool.or_eq_true, Bool.not_eq_true', decide_eq_true_eq]
  constructor
  · intro h a ha b hb hp
    rcases h a ha b hb with z | z
    · rw [List.isPrefixOf_iff_prefix.mpr hp] at z
      cases z
    · exact z
  · intro h a ha b hb
    by_cases e : a <+: b
    · exact .inr (h a ha b hb e)
    · refine .inl ?_
      cases q : a.isPrefixOf b with
      | false => rfl
      | true => exact absurd (List.isPrefixOf_iff_prefix.mp q) e
def InFam (M : List W) (x : W) : Prop := (fold M x).1 ∈ M
section
variable {M : List W} (hM : Ways M) (hP : PF M)
include hM hP
theorem ahead_of {m x : W} (hm : m ∈ M) (hp : m <+: x) (hne : m ≠ x) : ahead M x = some m := by
  cases e : ahead M x with
  | none => exact absurd (ahead_none.mp e m hm hp) hne
  | some k =>
    obtain ⟨k1, k2, k3⟩ := ahead_some e
    rcases List.prefix_or_prefix_of_prefix hp k3 with z | z
    · rw [hP m hm k k1 z]
    · rw [hP k k1 m hm z]
theorem fam_mem {m : W} (hm : m ∈ M) : InFam M m := by
  have e : ahead M m = none := ahead_none.mpr fun k hk hp => hP k hk m hm hp
  unfold InFam
  rw [fold_none e]
  exact hm
theorem fam_sn1 {m x : W} (hm : m ∈ M) (hx : Way x) : InFam M (sn x m) ↔ InFam M x := by
  have wm := hM m hm
  by_cases hp : m <+: x
  · by_cases he : m = x
    · rw [← he, sn_self wm.1 wm.2.1]
    · unfold InFam
      rw [fold_some hM hx (ahead_of hM hP hm hp he)]
  · have hp2 := pre_sn hp
    have hne : m ≠ sn x m := fun z => by
      have := sn_sn hx.1 wm.1 hx.2.1
      rw [← z, sn_self wm.1 wm.2.1] at this
      rw [this] at hp
      exact hp (List.prefix_refl _)
    unfold InFam
    rw [fold_some hM (hx.sn wm) (ahead_of hM hP hm hp2 hne), sn_sn hx.1 wm.1 hx.2.1]
theorem fam_sn {y : W} (hy : Way y) : InFam M y → ∀ {x : W}, Way x → (InFam M (sn x y) ↔ InFam M x) := by
  refine fold_ind (P := fun y => InFam M y → ∀ {x : W}, Way x → (InFam M (sn x y) ↔ InFam M x)) hM (fun y hy e h x hx => ?_) (fun y m hy e ih h x hx => ?_) _ (Nat.le_refl _) hy
  · unfold InFam at h
    rw [fold_none e] at h
    exact fam_sn1 hM hP h hx
  · obtain ⟨k1, _, _⟩ := ahead_some e
    have wm := hM m k1
    have w1 := hy.sn wm
    have e1 : sn (sn y m) m = y := sn_sn hy.1 wm.1 hy.2.1
    have h1 : InFam M (sn y m) := (fam_sn1 hM hP k1 hy).mpr h
    have e2 : sn x y = sn (sn (sn x m) (sn y m)) m := by
      have c := sn_conj hx.1 w1.1 wm.1 hx.2.1 w1.2.1
      rw [e1] at c
      exact c
    rw [e2, fam_sn1 hM hP k1 ((hx.sn wm).sn w1), ih h1 (hx.sn wm), fam_sn1 hM hP k1 hx]
end

/-! ### the makers -/
def lostOf (found : List W) (rest : W) : List W := found.filter fun w => decide (w ≠ rest) && rest.isPrefixOf w
def keptOf (found : List W) (rest : W) : List W := found.filter fun w => decide (w ∉ lostOf found rest)
def mkN : Nat → List W → List W → List W
  | 0, _, found => found
  | n + 1, left, found => match left.getLast? with
    | none => found
    | some x => mkN n (left.dropLast ++ lostOf found (fold found x).1) (setOf ((fold found x).1 :: keptOf found (fold found x).1))
/-- how many of left have nothing of found on the way -/
def bare (found left : List W) : Nat := (left.filter fun w => (ahead found w).isNone).length
def meas (left found : List W) : Nat := tot left + tot found + bare found left
def mk (ws : List W) : List W := mkN (meas (setOf ws) []) (setOf ws) []
theorem mem_lost {found : List W} {rest w : W} : w ∈ lostOf found rest ↔ w ∈ found ∧ w ≠ rest ∧ rest <+: w := by
  unfold lostOf
  simp only [List.mem_filter, Bool.and_eq_true, decide_eq_true_eq, List.isPrefixOf_iff_prefix]
theorem mem_kept {found : List W} {rest w : W} : w ∈ keptOf found rest ↔ w ∈ found ∧ ¬ (w ≠ rest ∧ rest <+: w) := by
  unfold keptOf
  simp only [List.mem_filter, decide_eq_true_eq, mem_lost]
  constructor
  · rintro ⟨h1, h2⟩
    exact ⟨h1, fun h => h2 ⟨h1, h⟩⟩
  · rintro ⟨h1, h2⟩
    exact ⟨h1, fun h => h2 h.2⟩
theorem kept_eq (found : List W) (rest : W) : keptOf found rest = found.filter fun w => !(decide (w ≠ rest) && rest.isPrefixOf w) := by
  unfold keptOf
  refine List.filter_congr fun w hw => ?_
  cases e : (decide (w ≠ rest) && rest.isPrefixOf w) with
  | true =>
    have : w ∈ lostOf found rest := List.mem_filter.mpr ⟨hw, e⟩
    simp [this]
  | false =>
    have : ¬ w ∈ lostOf found rest := fun h => by
      have := (List.mem_filter.mp h).2
      rw [e] at this
      cases this
    simp [this]
/-- the state between two turns -/
structure MS (left found : List W) : Prop where
  wl : Ways left
  wf : Ways found
  asc : Asc found
  pf : PF found
section
variable {left found : List W} {x : W}
theorem MS.step (h : MS (left ++ [x]) found) : MS (left ++ lostOf found (fold found x).1) (setOf ((fold found x).1 :: keptOf found (fold found x).1)) := by
  have wx : Way x := h.wl x (by simp)
  have ff := fold_facts h.wf wx
  refine ⟨fun w hw => ?_, fun w hw => ?_, asc_setOf _, fun a ha b hb hp => ?_⟩
  · rcases List.mem_append.mp hw with z | z
    · exact h.wl w (List.mem_append_left _ z)
    · exact h.wf w (mem_lost.mp z).1
  · rcases List.mem_cons.mp (mem_setOf.mp hw) with z | z
    · rw [z]
      exact ff.1
    · exact h.wf w (mem_kept.mp z).1
  · rcases List.mem_cons.mp (mem_setOf.mp ha) with z | z <;> rcases List.mem_cons.mp (mem_setOf.mp hb) with y | y
    · rw [z, y]
    · rw [z] at hp ⊢
      obtain ⟨h1, h2⟩ := mem_kept.mp y
      by_cases e : b = (fold found x).1
      · exact e.symm
      · exact absurd ⟨e, hp⟩ h2
    · rw [y] at hp ⊢
      exact ahead_none.mp ff.2.1 a (mem_kept.mp z).1 hp
    · exact h.pf a (mem_kept.mp z).1 b (mem_kept.mp y).1 hp
theorem bare_mono {f g : List W} (h : ∀ w, ahead g w = none → ahead f w = none) (l : List W) : bare g l ≤ bare f l := by
  unfold bare
  induction l with
  | nil => exact Nat.le_refl _
  | cons w l ih =>
    rw [List.filter_cons, List.filter_cons]
    cases e : ahead g w with
    | none =>
      rw [h w e]
      simpa using ih
    | some m =>
      cases e2 : ahead f w with
      | none => simp; omega
      | some k => simpa using ih
theorem bare_append (f a b : List W) : bare f (a ++ b) = bare f a + bare f b := by
  unfold bare
  rw [List.filter_append, List.length_append]
theorem bare_zero {f l : List W} (h : ∀ w ∈ l, ahead f w ≠ none) : bare f l = 0 := by
  unfold bare
  rw [List.length_eq_zero_iff, List.filter_eq_nil_iff]
  intro w hw q
  have := h w hw
  cases e : ahead f w with
  | none => exact this e
  | some m =>
    rw [e] at q
    cases q
theorem MS.less (h : MS (left ++ [x]) found) : meas (left ++ lostOf found (fold found x).1) (setOf ((fold found x).1 :: keptOf found (fold found x).1)) < meas (left ++ [x]) found := by
  have wx : Way x := h.wl x (by simp)
  have ff := fold_facts h.wf wx
  have nx : 0 < x.length := List.length_pos_iff.mpr wx.2.1
  have hmono : ∀ w, ahead (setOf ((fold found x).1 :: keptOf found (fold found x).1)) w = none → ahead found w = none := fun w hw => by
    rw [ahead_none] at hw ⊢
    intro m hm hp
    by_cases q : m ≠ (fold found x).1 ∧ (fold found x).1 <+: m
    · have e := hw (fold found x).1 (mem_setOf.mpr List.mem_cons_self) (q.2.trans hp)
      rw [← e] at hp
      have := List.IsPrefix.eq_of_length_le q.2 hp.length_le
      exact absurd this.symm q.1
    · exact hw m (mem_setOf.mpr (List.mem_cons_of_mem _ (mem_kept.mpr ⟨hm, q⟩))) hp
  have b1 := bare_mono hmono left
  have b2 : bare (setOf ((fold found x).1 :: keptOf found (fold found x).1)) (lostOf found (fold found x).1) = 0 := bare_zero fun w hw e => by
    obtain ⟨h1, h2, h3⟩ := mem_lost.mp hw
    exact h2 (ahead_none.mp e _ (mem_setOf.mpr List.mem_cons_self) h3).symm
  have t1 := tot_setOf ((fold found x).1 :: keptOf found (fold found x).1)
  rw [tot_cons, kept_eq] at t1
  have t2 := tot_filter (fun w => decide (w ≠ (fold found x).1) && (fold found x).1.isPrefixOf w) found
  have t3 : tot (lostOf found (fold found x).1) = tot (found.filter fun w => decide (w ≠ (fold found x).1) && (fold found x).1.isPrefixOf w) := rfl
  unfold meas
  rw [tot_append, tot_append, bare_append, bare_append, b2, t3, kept_eq, tot_cons]
  have t4 : tot ([] : List W) = 0 := rfl
  rw [kept_eq] at b1
  cases e : ahead found x with
  | none =>
    have e1 : (fold found x).1 = x := by rw [fold_none e]
    have b3 : bare found [x] = 1 := by
      unfold bare
      simp [e]
    rw [e1] at t1 t2 b1 ⊢
    omega
  | some m =>
    obtain ⟨k1, k2, k3⟩ := ahead_some e
    have hs := sn_short (h.wf m k1).1 wx.1 (h.wf m k1).2.1 k3 k2
    have e1 := fold_some h.wf wx e
    have e2 : (fold found x).1.length ≤ (sn x m).length := by
      rw [e1]
      exact (fold_facts h.wf (wx.sn (h.wf m k1))).2.2.1
    omega
/-- a family that holds all of left and found holds all of them behind a turn, and the other way round -/
theorem MS.fam (h : MS (left ++ [x]) found) {M : List W} (hM : Ways M) (hP : PF M) :
    (∀ w ∈ (left ++ [x]) ++ found, InFam M w) ↔ ∀ w ∈ (left ++ lostOf found (fold found x).1) ++ setOf ((fold found x).1 :: keptOf found (fold found x).1), InFam M w := by
  have wx : Way x := h.wl x (by simp)
  have key : (∀ w ∈ found, InFam M w) → (InFam M x ↔ InFam M (fold found x).1) := fun hf =>
    fold_ind (M := found) (P := fun x => InFam M x ↔ InFam M (fold found x).1) h.wf (fun y hy e => by rw [fold_none e]) (fun y m hy e ih => by
      obtain ⟨k1, _, _⟩ := ahead_some e
      rw [fold_some h.wf hy e]
      exact (fam_sn hM hP (h.wf m k1) (hf m k1) hy).symm.trans ih) _ (Nat.le_refl _) wx
  have hin : ∀ w, w ∈ found → w ∈ lostOf found (fold found x).1 ∨ w ∈ keptOf found (fold found x).1 := fun w hw => by
    by_cases q : w ≠ (fold found x).1 ∧ (fold found x).1 <+: w
    · exact .inl (mem_lost.mpr ⟨hw, q⟩)
    · exact .inr (mem_kept.mpr ⟨hw, q⟩)
  constructor
  · intro a w hw
    rcases List.mem_append.mp hw with hw | hw
    · rcases List.mem_append.mp hw with hw | hw
      · exact a w (List.mem_append_left _ (List.mem_append_left _ hw))
      · exact a w (List.mem_append_right _ (mem_lost.mp hw).1)
    · rcases List.mem_cons.mp (mem_setOf.mp hw) with z | z
      · rw [z]
        exact (key fun v hv => a v (List.mem_append_right _ hv)).mp (a x (List.mem_append_left _ (by simp)))
      · exact a w (List.mem_append_right _ (mem_kept.mp z).1)
  · intro a
    have hf : ∀ w ∈ found, InFam M w := fun w hw => by
      rcases hin w hw with z | z
      · exact a w (List.mem_append_left _ (List.mem_append_right _ z))
      · exact a w (List.mem_append_right _ (mem_setOf.mpr (List.mem_cons_of_mem _ z)))
    intro w hw
    rcases List.mem_append.mp hw with hw | hw
    · rcases List.mem_append.mp hw with hw | hw
      · exact a w (List.mem_append_left _ (List.mem_append_left _ hw))
      · have e : w = x := by simpa using hw
        rw [e]
        exact (key hf).mpr (a _ (List.mem_append_right _ (mem_setOf.mpr List.mem_cons_self)))
    · exact hf w hw
end
theorem getLast_snoc (l : List W) (x : W) : (l ++ [x]).getLast? = some x := by simp
theorem mkN_nil (n : Nat) (found : List W) : mkN n [] found = found := by
  cases n <;> rfl
theorem mkN_snoc (n : Nat) (left found : List W) (x : W) :
    mkN (n + 1) (left ++ [x]) found = mkN n (left ++ lostOf found (fold found x).1) (setOf ((fold found x).1 :: keptOf found (fold found x).1)) := by
  rw [mkN]
  rw [getLast_snoc]
  dsimp only
  rw [List.dropLast_concat]
theorem snocW (l : List W) : l = [] ∨ ∃ p c, l = p ++ [c] := by
  rcases List.eq_nil_or_concat l with h | ⟨p, c, h⟩
  · exact .inl h
  · exact .inr ⟨p, c, by rw [h, List.concat_eq_append]⟩
/-- what holds of all states holds of the end -/
theorem mk_ind {P : List W → List W → Prop} (hs : ∀ left x found, MS (left ++ [x]) found → P (left ++ [x]) found → P (left ++ lostOf found (fold found x).1) (setOf ((fold found x).1 :: keptOf found (fold found x).1))) :
    ∀ (n : Nat) {left found : List W}, MS left found → meas left found ≤ n → P left found → MS [] (mkN n left found) ∧ P [] (mkN n left found)
  | n, left, found, h, hn, hp => by
    rcases snocW left with e | ⟨l, x, e⟩
    · subst e
      rw [mkN_nil]
      exact ⟨h, hp⟩
    · subst e
      cases n with
      | zero =>
        have := h.less
        omega
      | succ n =>
        rw [mkN_snoc]
        have := h.less
        exact mk_ind hs n h.step (by omega) (hs l x found h hp)
theorem ms_start {ws : List W} (h : Ways ws) : MS (setOf ws) [] where
  wl := fun w hw => h w (mem_setOf.mp hw)
  wf := fun _ hw => (nomatch hw)
  asc := trivial
  pf := fun _ ha => (nomatch ha)
theorem mk_facts {ws : List W} (h : Ways ws) : MS [] (mk ws) := (mk_ind (P := fun _ _ => True) (fun _ _ _ _ _ => trivial) _ (ms_start h) (Nat.le_refl _) trivial).1
theorem mk_ways {ws : List W} (h : Ways ws) : Ways (mk ws) := (mk_facts h).wf
theorem mk_asc {ws : List W} (h : Ways ws) : Asc (mk ws) := (mk_facts h).asc
theorem mk_pf {ws : List W} (h : Ways ws) : PF (mk ws) := (mk_facts h).pf
/-- the family of the makers lies where the family of the ways lies -/
theorem mk_fam {ws : List W} (h : Ways ws) {M : List W} (hM : Ways M) (hP : PF M) : (∀ w ∈ ws, InFam M w) ↔ ∀ w ∈ mk ws, InFam M w := by
  have q := (mk_ind (P := fun l f => (∀ w ∈ ws, InFam M w) ↔ ∀ w ∈ l ++ f, InFam M w) (fun l x f m e => e.trans (m.fam hM hP)) _ (ms_start h) (Nat.le_refl _) (by
    rw [List.append_nil]
    exact ⟨fun a w hw => a w (mem_setOf.mp hw), fun a w hw => a w (mem_setOf.mpr hw)⟩)).2
  exact q
theorem mk_len {ws : List W} (h : Ways ws) : (mk ws).length ≤ ws.length := by
  have q := (mk_ind (P := fun l f => l.length + f.length ≤ ws.length) (fun l x f m e => ?_) _ (ms_start h) (Nat.le_refl _) (by
    have := len_setOf ws
    simpa using this)).2
  · simpa [mk] using q
  · have l1 := len_setOf ((fold f x).1 :: keptOf f (fold f x).1)
    rw [List.length_cons, kept_eq] at l1
    have l2 := len_filter (fun w => decide (w ≠ (fold f x).1) && (fold f x).1.isPrefixOf w) f
    have l3 : (lostOf f (fold f x).1).length = (f.filter fun w => decide (w ≠ (fold f x).1) && (fold f x).1.isPrefixOf w).length := rfl
    rw [List.length_append, List.length_cons, List.length_nil] at e
    rw [List.length_append, l3, kept_eq]
    omega
theorem mk_short {ws : List W} (h : Ways ws) {n : Nat} (hn : ∀ w ∈ ws, w.length ≤ n) : ∀ w ∈ mk ws, w.length ≤ n := by
  have q := (mk_ind (P := fun l f => ∀ w ∈ l ++ f, w.length ≤ n) (fun l x f m e w hw => ?_) _ (ms_start h) (Nat.le_refl _) (fun w hw => hn w (mem_setOf.mp (by simpa using hw)))).2
  · exact q
  · have wx : Way x := m.wl x (by simp)
    rcases List.mem_append.mp hw with hw | hw
    · rcases List.mem_append.mp hw with hw | hw
      · exact e w (List.mem_append_left _ (List.mem_append_left _ hw))
      · exact e w (List.mem_append_right _ (mem_lost.mp hw).1)
    · rcases List.mem_cons.mp (mem_setOf.mp hw) with z | z
      · rw [z]
        exact Nat.le_trans (fold_facts m.wf wx).2.2.1 (e x (List.mem_append_left _ (by simp)))
      · exact e w (List.mem_append_right _ (mem_kept.mp z).1)
/-- a set none of which begins another one is the set of its makers -/
theorem mk_self {F : List W} (h : Ways F) (ha : Asc F) (hp : PF F) : mk F = F := by
  have hasc : ∀ a b : List W, a ++ b = F → Asc b := fun a b e => by
    subst e
    clear h hp
    induction a with
    | nil => exact ha
    | cons x a ih => exact ih ha.tail
  have q := (mk_ind (P := fun l f => l ++ f = F) (fun l x f m e => ?_) _ (ms_start h) (Nat.le_refl _) (by rw [List.append_nil, setOf_asc ha])).2
  · exact q
  · have e' : l ++ x :: f = F := by
      rw [← e]
      simp
    have mx : x ∈ F := by rw [← e']; simp
    have mf : ∀ w ∈ f, w ∈ F := fun w hw => by rw [← e']; simp [hw]
    have a0 : Asc (x :: f) := hasc l (x :: f) e'
    have a1 : ahead f x = none := ahead_none.mpr fun k hk hpre => hp k (mf k hk) x mx hpre
    have e1 : (fold f x).1 = x := by rw [fold_none a1]
    have e2 : lostOf f x = [] := by
      refine List.eq_nil_iff_forall_not_mem.mpr fun w hw => ?_
      obtain ⟨h1, h2, h3⟩ := mem_lost.mp hw
      exact h2 (hp x mx w (mf w h1) h3).symm
    have e3 : keptOf f x = f := by
      unfold keptOf
      rw [e2]
      simp
    rw [e1, e2, e3, List.append_nil, setOf_asc a0]
    exact e'
theorem mk_mk {ws : List W} (h : Ways ws) : mk (mk ws) = mk ws := mk_self (mk_ways h) (mk_asc h) (mk_pf h)
/-- within -/
def wi (a b : List W) : Bool := a.all fun w => decide ((fold (mk b) w).1 ∈ mk b)
theorem wi_mk {a b : List W} (ha : Ways a) (hb : Ways b) : wi (mk a) b = wi a b := by
  have q := mk_fam ha (mk_ways hb) (mk_pf hb)
  have e : ∀ l : List W, wi l b = true ↔ ∀ w ∈ l, InFam (mk b) w := fun l => by
    unfold wi InFam
    rw [List.all_eq_true]
    exact ⟨fun h w hw => of_decide_eq_true (h w hw), fun h w hw => decide_eq_true (h w hw)⟩
  cases e1 : wi a b with
  | true => exact (e _).mpr (q.mp ((e a).mp e1))
  | false =>
    cases e2 : wi (mk a) b with
    | false => rfl
    | true =>
      have := (e a).mpr (q.mpr ((e _).mp e2))
      rw [e1] at this
      cases this
end Mir
/-! part Rul1 -/
set_option Elab.async false
set_option linter.all false
set_option maxRecDepth 100000
set_option maxHeartbeats 4000000
/-! Rules of our own: text[::-1], tuple[::-1], starred items of a display. -/
namespace Mir
open PySem PySem.Spec PyProof.Rows L2
section
variable {X : Cx}
/-! ### text[::-1] -/
theorem picked_rev (z : Str) (l : List Nat) (hl : z.cps.toList = l) :
    ((Builtin.Str.strSliceIndices none none (-1) z.length).filterMap (z.cps[·]?)).toArray = l.reverse.toArray := by
  have e : Builtin.Str.strSliceIndices none none (-1) z.length = (List.range z.cps.size).map fun k => z.cps.size - 1 - k := PySem.W.krv_sliceRange _
  rw [e, PySem.W.krv_range, List.filterMap_reverse, PySem.W.krv_all, hl]
def tRevS (te : TE) : TE := fun σ H Q => te σ H fun x H1 => ∃ z, x = .str z ∧ z.length ≤ sizeLine ∧ Q (.str ⟨z.cps.toList.reverse.toArray⟩) H1
theorem pe_revS {e : Expr} {te : TE} {k : Nat} {p1 p2 p3 pos : Pos} (he : PE X e te) :
    PE X (.Subscript e (.Slice none none (some (.UnaryOp .USub (.Constant (.int 1) k p1) p2)) p3) pos) (tRevS te) := by
  refine ⟨fun pins s σ H Q I h => ?_⟩
  refine Subscript_ (thn (he.run pins s σ H _ I h) fun v s1 ⟨x, H1, I1, r1, q1⟩ => ?_)
  obtain ⟨z, ex, hz, q⟩ := q1
  subst ex
  obtain ⟨t, rfl⟩ := r1
  have hst : PO X (some (.UnaryOp .USub (.Constant (.int 1) k p1) p2)) (tPart (tUn (rU fun i => .int (-i)) (tC (.int 1)))) := po_some (pe_un un_neg pe_int)
  refine wpAny_Slice (thn (po_none.run pins s1 σ H1 (fun o H2 => o = none ∧ H2 = H1) I1 ⟨rfl, rfl⟩) fun vl s2 ⟨l, H2, I2, pl, el, e2⟩ => ?_)
  subst el e2
  refine thn (po_none.run pins s2 σ H2 (fun o H3 => o = none ∧ H3 = H2) I2 ⟨rfl, rfl⟩) fun vu s3 ⟨u, H3, I3, pu, eu, e3⟩ => ?_
  subst eu e3
  refine thn (hst.run pins s3 σ H3 (fun o H4 => o = some (-1) ∧ H4 = H3) I3 ⟨1, rfl, -1, rfl, rfl, rfl⟩) fun vs s4 ⟨o, H4, I4, ps, eo, e4⟩ => ?_
  subst eo e4
  cases pl
  cases pu
  obtain ⟨tk, rfl⟩ : ∃ tk, vs = Value.int (-1) tk := by
    cases ps with
    | int i t => exact ⟨t, rfl⟩
  have I5 : Inv X pins σ H4 { s4 with heap := s4.heap.push { cls := .type "slice", data := .fields #[.none, .none, .int (-1) tk] } } := I4.kept (t' := s4.toks) fun b ob q => Heap.get?_push_of_some _ q
  show wpAny (model X.prog X.w) X.A (subscriptTail e (.Slice none none (some (.UnaryOp .USub (.Constant (.int 1) k p1) p2)) p3) (.str z t) (.ref s4.heap.objs.size)) (EP X pins σ Q) X.xe { s4 with heap := s4.heap.push { cls := .type "slice", data := .fields #[.none, .none, .int (-1) tk] } }
  refine tail_any (ops := [.str z t, .ref s4.heap.objs.size]) (typeIs_str _ z t) (PySem.F.slot_str_getitem.lookup) ?_ (by with_unfolding_all rfl)
  refine wpAny_getItem_str_slice (l := none) (u := none) (st := some (-1, tk)) ⟨_, Heap.get?_push_size _ rfl, rfl, rfl⟩ rfl ?_
  show Made.post (if (((-1 : Int) == 1) && (Builtin.Str.strSliceIndices none none (-1) z.length).length == z.length) = true then Made.val (.str z t)
    else Made.str ⟨((Builtin.Str.strSliceIndices none none (-1) z.length).filterMap (z.cps[·]?)).toArray⟩) (EP X pins σ Q) _
  rw [if_neg (by simp), picked_rev z _ rfl]
  exact ⟨by show (z.cps.toList.reverse.toArray).size ≤ sizeLine; rw [List.size_toArray, List.length_reverse, Array.length_toList]; exact hz, ⟨.str _, H4, I5.tok _, ⟨_, rfl⟩, q⟩⟩
/-! ### tuple[::-1] -/
theorem pick_down (xs : Array Value) : ((List.range xs.size).filterMap fun (m : Nat) => xs[(((xs.size : Int) - 1) + (m : Int) * (-1)).toNat]?).toArray = xs.toList.reverse.toArray := by
  have e : (fun (m : Nat) => xs[(((xs.size : Int) - 1) + (m : Int) * (-1)).toNat]?) = (fun (k : Nat) => xs[k]?) ∘ fun (m : Nat) => ((xs.size : Int) - 1 + (m : Int) * (-1)).toNat := rfl
  rw [e, ← List.filterMap_map]
  have e2 : (List.range xs.size).map (fun (m : Nat) => ((xs.size : Int) - 1 + (m : Int) * (-1)).toNat) = (List.range xs.size).map fun k => xs.size - 1 - k := by
    apply List.map_congr_left
    intro k hk
    have := List.mem_range.mp hk
    omega
  rw [e2, PySem.W.krv_range, List.filterMap_reverse, PySem.W.krv_all]
theorem applied_down {prog : Program} {w : World} {A : Around} {E : Value → Shared → Prop} {s : Shared} {sl : Addr} {n : Nat} {tk : Tok} {Q : Int × Int × Nat → Shared → Prop} (hs : s.heap.IsSliceOf sl .none .none (.int (-1) tk))
    (h : Q ((n : Int) - 1, -1, n) s) : wpAny (model prog w) A (Builtin.Slice.sliceApplied (.ref sl) (pure (n : Int))) Q E s := by
  obtain ⟨os, hos, hcs, hds⟩ := id hs
  unfold Builtin.Slice.sliceApplied Builtin.Slice.sliceFields
  refine wpAny_bind (wpAny_bind (wpAny_field hos hds (x := .none) rfl (wpAny_bind (wpAny_field hos hds (x := .none) rfl (wpAny_bind (wpAny_field hos hds (x := .int (-1) tk) rfl (wpAny_pure ?_)))))))
  refine wpAny_bind (slicePart_int ?_)
  show wpAny _ _ (if ((-1 : Int) == 0) = true then _ else _) _ _ s
  rw [if_neg (by decide)]
  refine wpAny_bind (slicePart_none (wpAny_bind (slicePart_none (wpAny_bind (wpAny_pure ?_)))))
  show wpAny _ _ (match Builtin.Slice.sliceAdjust none none (-1) (n : Int) with | (lo, hi) => pure (lo, (-1 : Int), Builtin.Slice.slicePlaces lo hi (-1))) _ _ s
  have e1 : Builtin.Slice.sliceAdjust none none (-1) (n : Int) = ((n : Int) - 1, -1) := by
    unfold Builtin.Slice.sliceAdjust
    simp
  have e2 : Builtin.Slice.slicePlaces ((n : Int) - 1) (-1) (-1) = n := by
    unfold Builtin.Slice.slicePlaces
    rw [if_neg (by decide)]
    by_cases hn : (n : Int) - 1 > -1
    · rw [if_pos hn, show (- -1 : Int) = 1 by decide, Int.ediv_one]
      omega
    · rw [if_neg hn]
      omega
  rw [e1]
  show wpAny _ _ (pure ((n : Int) - 1, (-1 : Int), Builtin.Slice.slicePlaces ((n : Int) - 1) (-1) (-1))) _ _ s
  rw [e2]
  exact wpAny_pure h
theorem tuple_down {prog : Program} {w : World} {A : Around} {E : Value → Shared → Prop} {s : Shared} {t sl : Addr} {items : Array Value} {tk : Tok} {Q : Value → Shared → Prop} (ht : IsTup s.heap t items) (hs : s.heap.IsSliceOf sl .none .none (.int (-1) tk))
    (h : Q (.ref s.heap.objs.size) { s with heap := s.heap.push { cls := .type "tuple", data := .seq items.toList.reverse.toArray } }) (hsz : items.size ≤ sizeLine) : wpAny (model prog w) A (getItem (.ref t) (.ref sl)) Q E s := by
  have htake : sizeOk (.seq items.toList.reverse.toArray) := by
    show items.toList.reverse.toArray.size ≤ sizeLine
    rw [List.size_toArray, List.length_reverse, Array.length_toList]
    exact hsz
  obtain ⟨os, hos, hcs, hds⟩ := id hs
  have hTs : s.TypeIs (.ref sl) "slice" := ⟨os, hos, hcs⟩
  unfold getItem
  try with_reducible refine wpAny_holding ?_
  first | refine wpAny_bind (wpAny_pure ?_) | skip
  refine wpAny_bind (wpAny_sequenceKey ht.typeIs (by decide) ?_)
  refine wpAny_bind (wpAny_callSpecial?_slot (name := Str.ofString "__getitem__") ht.typeIs PyProof.Rows.slot_tuple_getitem
    (wpAny_call_entry PyProof.Rows.slot_tuple_getitem ht.typeIs entry_tuple_getitem ?_ (args_tuple_getitem _ _)))
  show wpAny _ _ (Builtin.Tuple.tupleItemsOf (.ref t) >>= _) _ _ s
  refine wpAny_bind (tupleItemsOf_ ht ?_)
  refine wpAny_bind (wpAny_typeOf hTs ?_)
  rw [if_pos (by decide)]
  refine wpAny_bind (applied_down hs ?_)
  show wpAny _ _ (if (((items.size : Int) - 1) == 0 && (-1 : Int) == 1 && items.size == items.size) = true then _ else _) _ _ s
  rw [if_neg (by simp), pick_down]
  first
    | exact wpAny_bind (m := Builtin.Tuple.tupleExact _) (wpAny_newObj_type (wpAny_pure ⟨_, rfl, wpAny_pure h⟩) htake)
    | exact wpAny_bind (m := Builtin.Tuple.tupleExact _) (wpAny_newObj_type (wpAny_bind (wpAny_pure (wpAny_pure ⟨_, rfl, wpAny_pure h⟩))) htake)
    | exact wpAny_bind (wpAny_bind (m := Builtin.Tuple.tupleExact _) (wpAny_newObj_type (wpAny_pure (wpAny_pure ⟨_, rfl, wpAny_pure h⟩)) htake))
    | exact wpAny_bind (wpAny_bind (m := Builtin.Tuple.tupleExact _) (wpAny_newObj_type (wpAny_pure ⟨_, rfl, wpAny_pure h⟩) htake))
def tRevT (K : PySem.W.Frag) (te : TE) : TE := fun σ H Q => te σ H fun x H1 => ∃ a xs, x = .ref a ∧ SqT K H1 a xs ∧ ∀ p, H1 p = none → Q (.ref p) (upd H1 p (.tup xs.reverse))
theorem pe_revT {e : Expr} {te : TE} {k : Nat} {p1 p2 p3 pos : Pos} (he : PE X e te) :
    PE X (.Subscript e (.Slice none none (some (.UnaryOp .USub (.Constant (.int 1) k p1) p2)) p3) pos) (tRevT X.K te) := by
  refine ⟨fun pins s σ H Q I h => ?_⟩
  refine Subscript_ (thn (he.run pins s σ H _ I h) fun v s1 ⟨x, H1, I1, r1, q1⟩ => ?_)
  obtain ⟨a, xs, ex, hx, q⟩ := q1
  subst ex
  cases r1
  have hst : PO X (some (.UnaryOp .USub (.Constant (.int 1) k p1) p2)) (tPart (tUn (rU fun i => .int (-i)) (tC (.int 1)))) := po_some (pe_un un_neg pe_int)
  refine wpAny_Slice (thn (po_none.run pins s1 σ H1 (fun o H2 => o = none ∧ H2 = H1) I1 ⟨rfl, rfl⟩) fun vl s2 ⟨l, H2, I2, pl, el, e2⟩ => ?_)
  subst el e2
  refine thn (po_none.run pins s2 σ H2 (fun o H3 => o = none ∧ H3 = H2) I2 ⟨rfl, rfl⟩) fun vu s3 ⟨u, H3, I3, pu, eu, e3⟩ => ?_
  subst eu e3
  refine thn (hst.run pins s3 σ H3 (fun o H4 => o = some (-1) ∧ H4 = H3) I3 ⟨1, rfl, -1, rfl, rfl, rfl⟩) fun vs s4 ⟨o, H4, I4, ps, eo, e4⟩ => ?_
  subst eo e4
  cases pl
  cases pu
  obtain ⟨tk, rfl⟩ : ∃ tk, vs = Value.int (-1) tk := by
    cases ps with
    | int i t => exact ⟨t, rfl⟩
  have I5 : Inv X pins σ H4 { s4 with heap := s4.heap.push { cls := .type "slice", data := .fields #[.none, .none, .int (-1) tk] } } := I4.kept (t' := s4.toks) fun b ob q => Heap.get?_push_of_some _ q
  obtain ⟨its, r, ht, hz⟩ := I5.tuple hx
  have hlen := r.length
  show wpAny (model X.prog X.w) X.A (subscriptTail e (.Slice none none (some (.UnaryOp .USub (.Constant (.int 1) k p1) p2)) p3) (.ref a) (.ref s4.heap.objs.size)) (EP X pins σ Q) X.xe { s4 with heap := s4.heap.push { cls := .type "slice", data := .fields #[.none, .none, .int (-1) tk] } }
  refine tail_any (ops := [.ref a, .ref s4.heap.objs.size]) ht.typeIs (PyProof.Rows.slot_tuple_getitem.lookup) ?_ (by with_unfolding_all rfl)
  refine tuple_down ht (Heap.IsSliceOf.new _ _ _ _) ?_ (by rw [List.size_toArray]; omega)
  refine ⟨.ref _, _, I5.laid (t' := s4.toks) (o := .tup xs.reverse) (fun b ob q => Heap.get?_push_of_some _ q) (Nat.le_refl _) ?_, rfl, q _ (I5.hok.fresh (Nat.le_refl _))⟩
  exact ⟨by rw [List.length_reverse]; exact hz, _, r.reverse, IsTup.new _ _⟩
/-! ### a starred item of a display, of a call -/
theorem star_lst {pins : List (Addr × Obj)} {σ : L2.St} {H : Hp} {s : Shared} {a : Addr} {xs : List V} {E : Value → Shared → Prop} {Q : List Value → Shared → Prop} (I : Inv X pins σ H s) (h : SqL X.K H a xs) (hQ : ∀ us s', Inv X pins σ H s' → Vals xs us → Q us s') :
    PySem.W.StarOf (model X.prog X.w) X.A E (.ref a) Q s := by
  obtain ⟨its, r, ⟨o, n, ho, hc, hd, hdt⟩, hz⟩ := I.list h
  have hT : s.TypeIs (.ref a) "list" := ⟨o, ho, hc⟩
  have hl := r.length
  have z : wpAny (model X.prog X.w) X.A (collect (.ref a)) Q E s := by
    refine wpAny_collect_seq a (.inl rfl) ho hc hdt (fun h' hk => ?_) (by rw [List.size_toArray]; omega)
    have e : its.toArray.toList = its := by simp
    rw [e]
    exact hQ its _ (I.kept (t' := s.toks) hk) r
  unfold PySem.W.StarOf notIterableAtAll
  exact wpAny_bind (wpAny_specialOf hT PySem.slot_list_iter.lookup (wpAny_pure ⟨rfl, z⟩))
def tStar (K : PySem.W.Frag) (te : TE) (t : TA) : TA := fun σ H Q => te σ H fun x H1 => ∃ a xs, x = .ref a ∧ (SqL K H1 a xs ∨ SqT K H1 a xs) ∧ t σ H1 fun ys H2 => Q (xs ++ ys) H2
theorem pa_star {e : Expr} {es : List Expr} {p : Pos} {te : TE} {t : TA} (he : PE X e te) (hr : PA X es t) : PA X (.Starred e p :: es) (tStar X.K te t) := by
  refine ⟨fun pos pins s σ H Q I h => ?_⟩
  refine PySem.W.items_star (thn (he.run pins s σ H _ I h) fun u s1 ⟨x, H1, I1, r1, a, xs, ex, hx, q1⟩ => ?_)
  subst ex
  cases r1
  have fin : ∀ us s', Inv X pins σ H1 s' → Vals xs us → wpAny (model X.prog X.w) X.A (spliced (backTo pos (starEach es X.env))) (fun vs s₃ => AP X pins σ Q (us ++ vs) s₃) X.xe s' := fun us s' I2 r2 =>
    thn (hr.run pos pins s' σ H1 _ I2 q1) fun vs s3 ⟨ys, H3, I3, r3, q3⟩ => ⟨xs ++ ys, H3, I3, r2.append r3, q3⟩
  rcases hx with hx | hx
  · exact star_lst I1 hx fin
  · exact star_tup I1 hx fin
end
end Mir
/-! part Rul3 -/
set_option Elab.async false
set_option linter.all false
set_option maxRecDepth 100000
set_option maxHeartbeats 4000000
/-! Rules of our own: zip of two texts. -/
namespace Mir
open PySem PySem.Spec PyProof.Rows L2
/-- the signs of two texts, in new pairs -/
def ItzS (x y : Str) : It :=
  ⟨fun i _ => i < x.cps.size ∧ i < y.cps.size,
    fun i H v H' => ∃ T c d, v = .ref T ∧ H T = none ∧ H' = upd H T (.tup [.str ⟨#[c]⟩, .str ⟨#[d]⟩]) ∧ x.cps[i]? = some c ∧ y.cps[i]? = some d,
    fun i _ => i ≤ x.cps.size ∧ i ≤ y.cps.size ∧ (i = x.cps.size ∨ i = y.cps.size)⟩
theorem iter_at {h h' : Heap} {a : Addr} {ty : String} {x : Str} {t : Tok} {i : Nat} (q : h.IsStrIter a ty x t i) (k : ∀ o, h.get? a = some o → h'.get? a = some o) : h'.IsStrIter a ty x t i := by
  obtain ⟨o, e, r⟩ := q
  exact ⟨o, k o e, r⟩
theorem turn_zipS {P : Program} {w : World} {K : PySem.W.Frag} {elts : List Expr} {kk : Nat} {tpos : Pos} {z TI TO i1 i2 : Addr} {x y : Str} {t u : Tok} (D : ZipSep2 z TI TO i1 i2 [i1] [i2]) :
    Turn P w K (.Tuple elts kk tpos) (ItzS x y) [z, TI, TO, i1, i2] z
      (fun i h => IsZip h z TI TO .none ∧ IsTupOf2 h TI (.ref i1) (.ref i2) ∧ (∃ a b, IsTupOf2 h TO a b) ∧ h.IsStrIter i1 (strIterType x) x t i ∧ h.IsStrIter i2 (strIterType y) y u i) where
  mem := by simp
  obj := fun i h st c hc => by
    obtain ⟨hz, hTI, ⟨a, b, hTO⟩, ⟨o1, e1, _, d1⟩, ⟨o2, e2, _, d2⟩⟩ := st
    have e' : c = z ∨ c = TI ∨ c = TO ∨ c = i1 ∨ c = i2 := by simpa using hc
    rcases e' with q | q | q | q | q
    · rw [q]; exact ⟨_, hz, fun v q => nomatch q⟩
    · rw [q]; exact ⟨_, hTI, fun v q => nomatch q⟩
    · rw [q]; exact ⟨_, hTO, fun v q => nomatch q⟩
    · rw [q]; exact ⟨o1, e1, fun v q => by rw [d1] at q; cases q⟩
    · rw [q]; exact ⟨o2, e2, fun v q => by rw [d2] at q; cases q⟩
  keep := fun i h h' st k => by
    obtain ⟨hz, hTI, ⟨a, b, hTO⟩, h1, h2⟩ := st
    exact ⟨k z (by simp) _ hz, k TI (by simp) _ hTI, ⟨a, b, k TO (by simp) _ hTO⟩, iter_at h1 fun o q => k i1 (by simp) o q, iter_at h2 fun o q => k i2 (by simp) o q⟩
  item := by
    intro X hP hw hK hc i pins s σ H E I hf st hg
    subst hP hw hK
    obtain ⟨hz, hTI, ⟨x0, y0, hTO⟩, h1, h2⟩ := st
    have hh : X.A.in1.handled = none := I.ok.hd hc
    have hzl : z < s.heap.objs.size := Heap.lt_size hz
    refine wpAny_pyNext_zipD2_item D (Draws.text hh i1 x t) (Draws.text hh i2 y u) hz hTI hTO h1 h2 hg.1 hg.2 fun v1 v2 h' tk p1 p2 z' TO' h1' h2' hT hsz hk => ?_
    obtain ⟨c, u1, hc1, rfl⟩ := p1
    obtain ⟨d, u2, hc2, rfl⟩ := p2
    refine ⟨_, rfl, wpAny_letOwnedTupleGo_zip (s := { s with heap := h', toks := tk }) z' fun h'' z'' sb => ?_⟩
    have hT2 : h''.get? s.heap.objs.size = some { cls := .type "tuple", data := .seq #[.str ⟨#[c]⟩ u1, .str ⟨#[d]⟩ u2] } := (sb.2 _ (Nat.ne_of_gt hzl)).trans hT
    have new : ObjOk X.prog X.w (upd H s.heap.objs.size (.tup [.str ⟨#[c]⟩, .str ⟨#[d]⟩])) h'' s.heap.objs.size (.tup [.str ⟨#[c]⟩, .str ⟨#[d]⟩]) :=
      ⟨by show 2 ≤ sizeLine; decide, [.str ⟨#[c]⟩ u1, .str ⟨#[d]⟩ u2], .cons ⟨_, rfl⟩ (.cons ⟨_, rfl⟩ .nil), ⟨_, hT2, rfl, _, rfl⟩⟩
    have I1 : Inv X pins σ (upd H s.heap.objs.size (.tup [.str ⟨#[c]⟩, .str ⟨#[d]⟩])) { s with heap := h'', toks := tk } :=
      I.turnedNew (t' := tk) (ch := [z, TI, TO, i1, i2]) (fun c o hb q => (sb.2 c (fun q' => hb (by simp [q']))).trans (hk c o (fun q' => hb (by simp [q'])) (fun q' => hb (by simp [q'])) (fun q' => hb (by simp [q'])) (fun q' => hb (by simp [q'])) q)) hf (Nat.le_refl _) new
    refine ⟨.ref s.heap.objs.size, _, I1, rfl, ⟨_, c, d, rfl, I.hok.fresh (Nat.le_refl _), rfl, hc1, hc2⟩, ⟨z'', ?_, ⟨.str ⟨#[c]⟩ u1, .str ⟨#[d]⟩ u2, ?_⟩, ?_, ?_⟩, fun c hcm => ?_⟩
    · exact (sb.2 _ D.TIz).trans (hk _ _ D.TIz D.TITO D.TIi1 D.TIi2 hTI)
    · exact (sb.2 _ D.TOz).trans TO'
    · exact iter_at h1' fun o q => (sb.2 _ D.zi1.symm).trans q
    · exact iter_at h2' fun o q => (sb.2 _ D.zi2.symm).trans q
    · have hlt : c < s.heap.objs.size := by
        have e' : c = z ∨ c = TI ∨ c = TO ∨ c = i1 ∨ c = i2 := by simpa using hcm
        rcases e' with q | q | q | q | q
        · rw [q]; exact hzl
        · rw [q]; exact Heap.lt_size hTI
        · rw [q]; exact Heap.lt_size hTO
        · rw [q]; obtain ⟨_, e1, _⟩ := h1; exact Heap.lt_size e1
        · rw [q]; obtain ⟨_, e2, _⟩ := h2; exact Heap.lt_size e2
      rw [upd_ne (Nat.ne_of_lt hlt)]
      exact (hf c hcm).1
  done := by
    intro X hP hw hK hc i pins s σ H E I hf st hg
    subst hP hw hK
    obtain ⟨hz, hTI, ⟨x0, y0, hTO⟩, h1, h2⟩ := st
    have hh : X.A.in1.handled = none := I.ok.hd hc
    exact wpAny_pyNext_zipD2_end D (Draws.text hh i1 x t) (Draws.text hh i2 y u) hz hTI hTO h1 h2 hg.1 hg.2.1 hg.2.2 fun h' tk hk => ⟨rfl, I.turnedL (t' := tk) (ch := [z, TI, TO, i1, i2]) (fun c o hb q =>
      hk c o (fun q' => hb (by simp [q'])) (fun q' => hb (by simp [q'])) (fun q' => hb (by simp [q'])) (fun q' => hb (by simp [q'])) q) hf⟩
  self := fun A i s Q E st h => wpAny_pyIter_zip st.1 h
def iZipS (ta : TA) : TI := fun σ H R => ta σ H fun vs H1 => ∃ x y, vs = [.str x, .str y] ∧ R (ItzS x y) H1
theorem pi_zipS {X : Cx} {e e2 : Expr} {ta : TA} {p pos tpos : Pos} {elts : List Expr} {kk : Nat} (hg : Gl X "zip") (hm : X.mg "zip" = none) (ha : PA X [e, e2] ta)
    (hs : starEach [e, e2] X.env = (false, eval e X.env) :: starEach [e2] X.env := by rfl) (hpl : (backTo pos (starEach [e2] X.env)).any (·.1) = false := by rfl) :
    PI X (.Tuple elts kk tpos) (.Call (.Name "zip" p) [e, e2] [] pos) (iZipS ta) := by
  refine ⟨fun pins s σ H R I h => ?_⟩
  refine Call_ (ld_blt I hg hm PyProof.Rows.boot_zip (PyProof.Rows.callWith_type1 (thn (ha.run pos pins s σ H _ I h) fun us s1 ⟨vs, H1, I1, r1, q1⟩ => ?_) hs hpl))
  obtain ⟨x, y, ex, q⟩ := q1
  subst ex
  obtain ⟨v1, v2, rfl, ⟨t, rfl⟩, ⟨u, rfl⟩⟩ := vals2 r1
  have fresh5 : ∀ c, c ∈ [s1.heap.objs.size + 4, s1.heap.objs.size + 2, s1.heap.objs.size + 3, s1.heap.objs.size, s1.heap.objs.size + 1] → FpOk X pins H1 c := fun c hcm => by
    have e' : c = s1.heap.objs.size + 4 ∨ c = s1.heap.objs.size + 2 ∨ c = s1.heap.objs.size + 3 ∨ c = s1.heap.objs.size ∨ c = s1.heap.objs.size + 1 := by simpa using hcm
    have hle : s1.heap.objs.size ≤ c := by
      rcases e' with z | z | z | z | z
      · rw [z]; exact Nat.le_add_right _ _
      · rw [z]; exact Nat.le_add_right _ _
      · rw [z]; exact Nat.le_add_right _ _
      · rw [z]; exact Nat.le_refl _
      · rw [z]; exact Nat.le_add_right _ _
    exact I1.fpOk hle (I1.hok.fresh hle)
  refine zip_begins2 (begins_text x t) (begins_text y u) trivial trivial fun h' hz hTI hTO h1 h2 hsz hk => wpAny_pyIter_zip hz ?_
  have I2 : Inv X pins σ H1 { s1 with heap := h' } := I1.kept (t' := s1.toks) hk
  exact ⟨s1.heap.objs.size + 4, [s1.heap.objs.size + 4, s1.heap.objs.size + 2, s1.heap.objs.size + 3, s1.heap.objs.size, s1.heap.objs.size + 1], _, _, H1, rfl, I2,
    turn_zipS (zip_sep2 (fp1 := []) (fp2 := []) (fun b hb => nomatch hb) (fun b hb => nomatch hb)), ⟨hz, hTI, ⟨_, _, hTO⟩, ⟨_, h1, rfl, rfl⟩, ⟨_, h2, rfl, rfl⟩⟩, fresh5, q⟩
theorem walk_zipS {x y : Str} {n : Nat} (hn : n = min x.cps.size y.cps.size) :
    Walk (ItzS x y) n (fun _ => True) (fun i H v H' => ∃ T c d, v = .ref T ∧ H T = none ∧ H' = upd H T (.tup [.str ⟨#[c]⟩, .str ⟨#[d]⟩]) ∧ x.cps[i]? = some c ∧ y.cps[i]? = some d) :=
  ⟨fun i H hi _ => (show i < x.cps.size ∧ i < y.cps.size from ⟨by omega, by omega⟩), fun H _ => (show n ≤ x.cps.size ∧ n ≤ y.cps.size ∧ (n = x.cps.size ∨ n = y.cps.size) from ⟨by omega, by omega, by omega⟩), fun i H x H' hi _ h => h⟩
end Mir
/-! part Ev0 -/
set_option Elab.async false
set_option linter.all false
set_option maxRecDepth 100000
set_option maxHeartbeats 4000000
/-! Texts by their codes; what expressions over texts evaluate to; walks and comprehensions of every kind by one lemma. -/
namespace Mir
open PySem PySem.Spec PyProof.Rows L2 Evl
abbrev ST (w : W) : Str := ⟨w.toArray⟩
abbrev S (w : W) : V := .str (ST w)
abbrev Ss (l : List W) : List V := l.map S
theorem Ss_map (l : List W) : (l.map ST).map V.str = Ss l := by
  rw [List.map_map]
  rfl
theorem ST_len (a : W) : (ST a).length = a.length := by simp [Str.length]
theorem ST_size (a : W) : (ST a).cps.size = a.length := by simp
theorem ST_inj {a b : W} (h : ST a = ST b) : a = b := congrArg (fun z : Str => z.cps.toList) h
theorem S_inj {a b : W} (h : S a = S b) : a = b := ST_inj (V.str.inj h)
theorem decS (a b : W) : decide (S a = S b) = decide (a = b) := by
  by_cases h : a = b
  · subst h
    simp
  · rw [decide_eq_false h, decide_eq_false fun z => h (S_inj z)]
theorem ST_app (a b : W) : ST a ++ ST b = ST (a ++ b) := TL.ext_tl (by rw [TL.tl_append])
theorem big {n : Nat} (h : n ≤ 1000000) : n ≤ sizeLine := Nat.le_trans h (by decide)
theorem bigLt {n : Nat} (h : n ≤ 1000000) : n < sizeLine := Nat.lt_of_le_of_lt h (by decide)
/-- slices of a text -/
def cutW (a : W) (lo hi : Option Int) : W := (a.drop (HT.sIx a.length 0 lo)).take (HT.sIx a.length a.length hi - HT.sIx a.length 0 lo)
theorem cutS_ST (a : W) (lo hi : Option Int) : cutS (ST a) lo hi = ST (cutW a lo hi) := by
  unfold cutS cutW
  rw [ST_len]
theorem sIx_neg1 (n d : Nat) : HT.sIx n d (some (-1)) = n - 1 := by
  show (if (-1 : Int) < 0 then ((-1 : Int) + (n : Int)).toNat else min (-1 : Int).toNat n) = n - 1
  rw [if_pos (by decide)]
  omega
theorem cutW_from (a : W) (k : Nat) : cutW a (some (k : Int)) none = a.drop k := by
  unfold cutW
  rw [HT.sIx_none, HT.sIx_nat]
  by_cases h : k ≤ a.length
  · rw [Nat.min_eq_left h, ← List.length_drop, List.take_length]
  · rw [Nat.min_eq_right (by omega), List.drop_length, List.take_nil, List.drop_eq_nil_of_le (by omega)]
theorem cutW_to (a : W) (k : Nat) : cutW a none (some (k : Int)) = a.take k := by
  unfold cutW
  rw [HT.sIx_none, HT.sIx_nat, List.drop_zero, Nat.sub_zero]
  by_cases h : k ≤ a.length
  · rw [Nat.min_eq_left h]
  · rw [Nat.min_eq_right (by omega), List.take_length, List.take_of_length_le (by omega)]
theorem cutW_init (a : W) : cutW a none (some (-1)) = a.dropLast := by
  unfold cutW
  rw [HT.sIx_none, sIx_neg1, List.drop_zero, Nat.sub_zero, List.dropLast_eq_take]
theorem cutW_last (a : W) : cutW a (some (-1)) none = a.drop (a.length - 1) := by
  unfold cutW
  rw [HT.sIx_none, sIx_neg1, List.take_of_length_le (by rw [List.length_drop]; omega)]
theorem cutW_tail (a : W) : cutW a (some 1) none = a.drop 1 := cutW_from a 1
theorem cutW_len (a : W) (lo hi : Option Int) : (cutW a lo hi).length ≤ a.length := by
  unfold cutW
  rw [List.length_take, List.length_drop]
  omega
section
variable {K : PySem.W.Frag} {σ : L2.St} {H H' : Hp} {ta tb te : TE} {t u : TT} {x y z v : V}
abbrev rAddS : R2 := fun x y H Q => ∃ i j, x = .str i ∧ y = .str j ∧ i.length + j.length ≤ sizeLine ∧ Q (.str (i ++ j)) H
theorem ev_addS {a b : W} (ha : Ev ta σ H (S a)) (hb : Ev tb σ H (S b)) (h : a.length + b.length ≤ 1000000) : Ev (tOp rAddS ta tb) σ H (S (a ++ b)) := ev_op ha hb fun H1 _ Q q =>
  ⟨_, _, rfl, rfl, by rw [ST_len, ST_len]; exact big h, by rw [ST_app]; exact q H1 (Ex.refl H1)⟩
theorem ev_slS {a : W} {tl th : TO} {lo hi : Option Int} (h : Ev te σ H (S a)) (h1 : EvO tl σ H lo) (h2 : EvO th σ H hi) (hs : a.length ≤ 1000000) : Ev (tSl rSlS te tl th) σ H (S (cutW a lo hi)) := fun H1 e Q q =>
  h H1 e _ fun H2 e2 => h1 H2 (e.trans e2) _ fun H3 e3 => h2 H3 ((e.trans e2).trans e3) _ fun H4 e4 => ⟨_, rfl, by rw [ST_len]; exact big hs, by rw [cutS_ST]; exact q H4 ((e2.trans e3).trans e4)⟩
theorem ev_from {a : W} {k : Nat} (h : Ev te σ H (S a)) (h1 : Ev ta σ H (.int (k : Int))) (hs : a.length ≤ 1000000) : Ev (tSl rSlS te (tPart ta) tNoPart) σ H (S (a.drop k)) := by
  rw [← cutW_from]
  exact ev_slS h (eo_some h1) eo_none hs
theorem ev_to {a : W} {k : Nat} (h : Ev te σ H (S a)) (h1 : Ev ta σ H (.int (k : Int))) (hs : a.length ≤ 1000000) : Ev (tSl rSlS te tNoPart (tPart ta)) σ H (S (a.take k)) := by
  rw [← cutW_to]
  exact ev_slS h eo_none (eo_some h1) hs
theorem ev_init {a : W} (h : Ev te σ H (S a)) (h1 : Ev ta σ H (.int (-1))) (hs : a.length ≤ 1000000) : Ev (tSl rSlS te tNoPart (tPart ta)) σ H (S a.dropLast) := by
  rw [← cutW_init]
  exact ev_slS h eo_none (eo_some h1) hs
theorem ev_lastS {a : W} (h : Ev te σ H (S a)) (h1 : Ev ta σ H (.int (-1))) (hs : a.length ≤ 1000000) : Ev (tSl rSlS te (tPart ta) tNoPart) σ H (S (a.drop (a.length - 1))) := by
  rw [← cutW_last]
  exact ev_slS h (eo_some h1) eo_none hs
theorem ev_rev {a : W} (h : Ev te σ H (S a)) (hs : a.length ≤ 1000000) : Ev (tRevS te) σ H (S a.reverse) := fun H1 e Q q =>
  h H1 e _ fun H2 e2 => ⟨_, rfl, by rw [ST_len]; exact big hs, q H2 e2⟩
abbrev rLenStr : List V → Hp → VK → Prop := fun xs H Q => ∃ z, xs = [.str z] ∧ z.length ≤ sizeLine ∧ Q (.int z.length) H
theorem ev_lenS {a : W} (h : Ev te σ H (S a)) (hs : a.length ≤ 1000000) : Ev (tCB rLenStr (tCons te tNil)) σ H (.int (a.length : Int)) := ev_cb (ea_cons h ea_nil) fun H1 _ Q q =>
  ⟨_, rfl, by rw [ST_len]; exact big hs, by rw [ST_len]; exact q H1 (Ex.refl H1)⟩
theorem ev_lenT {p : Addr} {xs : List V} (ha : Ev ta σ H (.ref p)) (h : SqT K H p xs) : Ev (tCB (rLenS K) (tCons ta tNil)) σ H (.int (xs.length : Int)) := ev_cb (ea_cons ha ea_nil) fun H1 e Q q =>
  ⟨p, xs, rfl, .inr (ex_t e h), q H1 (Ex.refl H1)⟩
theorem ev_lenU {xs : List V} (ha : EvU ta σ H xs) : Ev (tCB (rLenS K) (tCons ta tNil)) σ H (.int (xs.length : Int)) := fun H1 e Q q => ha H1 e _ fun p H2 _ e2 h => ⟨p, xs, rfl, .inr (st_of h), q H2 e2⟩
theorem ev_eqS {a b : W} (ha : Ev ta σ H (S a)) (hb : Ev tb σ H (S b)) : Ev (tOp rEq ta tb) σ H (.bl (decide (a = b))) := by
  rw [← decS]
  exact ev_op ha hb (rv_eq rfl)
theorem ev_neS {a b : W} (ha : Ev ta σ H (S a)) (hb : Ev tb σ H (S b)) : Ev (tOp rNe ta tb) σ H (.bl (!decide (a = b))) := by
  rw [← decS]
  exact ev_op ha hb (rv_ne rfl)
theorem decI (a b : Int) : decide (V.int a = V.int b) = decide (a = b) := by
  by_cases h : a = b
  · subst h
    simp
  · rw [decide_eq_false h, decide_eq_false fun z => h (V.int.inj z)]
theorem ev_eqI {a b : Int} (ha : Ev ta σ H (.int a)) (hb : Ev tb σ H (.int b)) : Ev (tOp rEq ta tb) σ H (.bl (decide (a = b))) := by
  rw [← decI]
  exact ev_op ha hb (rv_eq rfl)
abbrev rLtS : R2 := fun x y H Q => ∃ i j, x = .str i ∧ y = .str j ∧ Q (.bl (decide (i.cps.toList < j.cps.toList))) H
theorem lt_ltW : ∀ a b : W, decide (a < b) = ltW a b
  | _, [] => by
    rw [decide_eq_false (List.not_lt_nil _)]
    cases ‹W› <;> rfl
  | [], _ :: _ => by
    rw [decide_eq_true (List.nil_lt_cons _ _)]
    rfl
  | a :: s, b :: t => by
    have ih := lt_ltW s t
    have e : ltW (a :: s) (b :: t) = if a = b then ltW s t else decide (a < b) := rfl
    rw [e, ← ih]
    by_cases h2 : a = b
    · subst h2
      rw [if_pos rfl]
      by_cases h3 : s < t
      · rw [decide_eq_true h3, decide_eq_true (List.cons_lt_cons_iff.mpr (.inr ⟨rfl, h3⟩))]
      · rw [decide_eq_false h3, decide_eq_false fun z => (List.cons_lt_cons_iff.mp z).elim (fun q => absurd q (Nat.lt_irrefl a)) fun q => h3 q.2]
    · rw [if_neg h2]
      by_cases h1 : a < b
      · rw [decide_eq_true h1, decide_eq_true (List.cons_lt_cons_iff.mpr (.inl h1))]
      · rw [decide_eq_false h1, decide_eq_false fun z => (List.cons_lt_cons_iff.mp z).elim (fun q => absurd q h1) fun q => h2 q.1]
theorem ev_ltS {a b : W} (ha : Ev ta σ H (S a)) (hb : Ev tb σ H (S b)) : Ev (tOp rLtS ta tb) σ H (.bl (ltW a b)) := by
  rw [← lt_ltW]
  exact ev_op ha hb fun H1 _ Q q => ⟨_, _, rfl, rfl, q H1 (Ex.refl H1)⟩
abbrev rInSign : R2 := fun x y H Q => ∃ (c : Nat) (z : Str), x = .str ⟨#[c]⟩ ∧ y = .str z ∧ Q (.bl (decide (c ∈ z.cps.toList))) H
theorem ev_inSign {c : Nat} {b : W} (ha : Ev ta σ H (S [c])) (hb : Ev tb σ H (S b)) : Ev (tOp rInSign ta tb) σ H (.bl (decide (c ∈ b))) := ev_op ha hb fun H1 _ Q q => ⟨_, _, rfl, rfl, q H1 (Ex.refl H1)⟩
theorem ev_ltI {a b : Int} (ha : Ev ta σ H (.int a)) (hb : Ev tb σ H (.int b)) : Ev (tOp (rI0 fun i j => .bl (decide (i < j))) ta tb) σ H (.bl (decide (a < b))) := ev_op ha hb rv_I0
theorem ev_gtI {a b : Int} (ha : Ev ta σ H (.int a)) (hb : Ev tb σ H (.int b)) : Ev (tOp (rI0 fun i j => .bl (decide (i > j))) ta tb) σ H (.bl (decide (a > b))) := ev_op ha hb rv_I0
theorem ev_geI {a b : Int} (ha : Ev ta σ H (.int a)) (hb : Ev tb σ H (.int b)) : Ev (tOp (rI0 fun i j => .bl (decide (i ≥ j))) ta tb) σ H (.bl (decide (a ≥ b))) := ev_op ha hb rv_I0
theorem ev_addI {a b : Int} (ha : Ev ta σ H (.int a)) (hb : Ev tb σ H (.int b)) : Ev (tOp (rI0 fun i j => .int (i + j)) ta tb) σ H (.int (a + b)) := ev_op ha hb rv_I0
theorem ev_subI {a b : Int} (ha : Ev ta σ H (.int a)) (hb : Ev tb σ H (.int b)) : Ev (tOp (rI0 fun i j => .int (i - j)) ta tb) σ H (.int (a - b)) := ev_op ha hb rv_I0
theorem ev_neg {a : Int} (ha : Ev ta σ H (.int a)) : Ev (tUn (rU fun i => .int (-i)) ta) σ H (.int (-a)) := ev_un ha ru_neg
/-! ### in, not in, of texts -/
theorem eqS (a b : W) : eqV (S a) (S b) = decide (a = b) := by
  show decide (ST a = ST b) = _
  by_cases h : a = b
  · subst h
    simp
  · rw [decide_eq_false h, decide_eq_false fun z => h (ST_inj z)]
theorem inSs (a : W) (l : List W) : inV (S a) (Ss l) = decide (a ∈ l) := by
  unfold inV
  rw [List.any_map]
  by_cases h : a ∈ l
  · rw [decide_eq_true h, List.any_eq_true]
    exact ⟨a, h, by simp only [Function.comp_apply, eqS, decide_true]⟩
  · rw [decide_eq_false h, List.any_eq_false]
    intro b hb
    simp only [Function.comp_apply, eqS, decide_eq_true_eq]
    rintro rfl
    exact h hb
theorem flatSs (l : List W) : (Ss l).all flatV = true := by
  rw [List.all_eq_true]
  intro x hx
  obtain ⟨a, _, rfl⟩ := List.mem_map.mp hx
  rfl
theorem rv_inSs {neg : Bool} {a : W} {p : Addr} {l : List W} (h : SqL K H p (Ss l) ∨ SqT K H p (Ss l)) : RV (rIn K neg) (S a) (.ref p) H (.bl (if neg then !decide (a ∈ l) else decide (a ∈ l))) := by
  rw [← inSs]
  exact h.elim (fun h => rv_inL h rfl (flatSs l)) fun h => rv_inT h rfl (flatSs l)
theorem ev_inSs {a : W} {p : Addr} {l : List W} (ha : Ev ta σ H (S a)) (hb : Ev tb σ H (.ref p)) (h : SqL K H p (Ss l) ∨ SqT K H p (Ss l)) : Ev (tOp (rIn K false) ta tb) σ H (.bl (decide (a ∈ l))) := ev_op ha hb (rv_inSs h)
theorem ev_niSs {a : W} {p : Addr} {l : List W} (ha : Ev ta σ H (S a)) (hb : Ev tb σ H (.ref p)) (h : SqL K H p (Ss l) ∨ SqT K H p (Ss l)) : Ev (tOp (rIn K true) ta tb) σ H (.bl (!decide (a ∈ l))) := ev_op ha hb (rv_inSs (neg := true) h)
theorem ev_inUs {a : W} {l : List W} (ha : Ev ta σ H (S a)) (hb : EvU tb σ H (Ss l)) : Ev (tOp (rIn K false) ta tb) σ H (.bl (decide (a ∈ l))) := ev_opU ha hb fun _ _ h _ => rv_inSs (.inr (st_of h))
end
/-! ### walks of every kind -/
section
variable {K : PySem.W.Frag} {σ : L2.St} {H H' : Hp} {ta tb te tl : TE} {t u : TT} {x y z v : V} {J : It} {n : Nat} {P : Nat → V → Hp → Prop} {wi : TI}
/-- from H on the walk J gives n items, the i-th as P tells, leaving what is known -/
def Walks (J : It) (n : Nat) (P : Nat → V → Hp → Prop) (H : Hp) : Prop := ∃ G Y, Walk J n G Y ∧ (∀ H3, Ex H H3 → G H3) ∧ ∀ i H1 v H2, i < n → Y i H1 v H2 → Ex H1 H2 ∧ P i v H2
def EvI (wi : TI) (σ : L2.St) (H : Hp) (n : Nat) (P : Nat → V → Hp → Prop) : Prop := ∀ H1, Ex H H1 → ∀ R : It → Hp → Prop, (∀ J H2, Ex H1 H2 → Walks J n P H2 → R J H2) → wi σ H1 R
def PAt (xs : List V) : Nat → V → Hp → Prop := fun i v _ => xs[i]? = some v
def PFn (f : Nat → V) : Nat → V → Hp → Prop := fun i v _ => v = f i
def PTwo (xs ys : Nat → Option V) : Nat → V → Hp → Prop := fun i v H => ∃ T a b, v = .ref T ∧ H T = some (.tup [a, b]) ∧ xs i = some a ∧ ys i = some b
theorem EvI.mono (e : Ex H H') (h : EvI wi σ H n P) : EvI wi σ H' n P := fun H1 a R q => h H1 (e.trans a) R q
theorem yAt {xs : List V} (i : Nat) (H1 : Hp) (v : V) (H2 : Hp) (h : YAt xs i H1 v H2) : Ex H1 H2 ∧ PAt xs i v H2 := by
  obtain ⟨rfl, h⟩ := h
  exact ⟨Ex.refl _, h⟩
theorem yFn {f : Nat → V} (i : Nat) (H1 : Hp) (v : V) (H2 : Hp) (h : YFn f i H1 v H2) : Ex H1 H2 ∧ PFn f i v H2 := by
  obtain ⟨rfl, h⟩ := h
  exact ⟨Ex.refl _, h⟩
theorem yPair {xs ys : Nat → Option V} (i : Nat) (H1 : Hp) (v : V) (H2 : Hp) (h : YPair xs ys i H1 v H2) : Ex H1 H2 ∧ PTwo xs ys i v H2 := by
  obtain ⟨T, a, b, rfl, hT, rfl, h1, h2⟩ := h
  exact ⟨Ex.new hT, T, a, b, rfl, upd_same, h1, h2⟩
theorem ei_list {a : Addr} {xs : List V} (h : Ev tl σ H (.ref a)) (hx : SqL K H a xs) : EvI (iList K tl) σ H xs.length (PAt xs) := fun H1 e R q => h H1 e _ fun H2 e2 =>
  ⟨a, rfl, ⟨xs, ex_l (e.trans e2) hx⟩, q _ H2 e2 ⟨_, _, walk_list, fun H3 e3 => ex_l ((e.trans e2).trans e3) hx, fun i H1 v H2 _ => yAt i H1 v H2⟩⟩
theorem ei_listN {xs : List V} (h : EvL tl σ H xs) : EvI (iList K tl) σ H xs.length (PAt xs) := fun H1 e R q => h H1 e _ fun a H2 _ e2 hx =>
  ⟨a, rfl, ⟨xs, sq_of hx⟩, q _ H2 e2 ⟨_, _, walk_list, fun H3 e3 => ex_l e3 (sq_of hx), fun i H1 v H2 _ => yAt i H1 v H2⟩⟩
theorem ei_tup {a : Addr} {xs : List V} (h : Ev tl σ H (.ref a)) (hx : SqT K H a xs) : EvI (iTup K tl) σ H xs.length (PAt xs) := fun H1 e R q => h H1 e _ fun H2 e2 =>
  ⟨a, rfl, ⟨xs, ex_t (e.trans e2) hx⟩, q _ H2 e2 ⟨_, _, walk_tup, fun H3 e3 => ex_t ((e.trans e2).trans e3) hx, fun i H1 v H2 _ => yAt i H1 v H2⟩⟩
theorem ei_tupN {xs : List V} (h : EvU tl σ H xs) : EvI (iTup K tl) σ H xs.length (PAt xs) := fun H1 e R q => h H1 e _ fun a H2 _ e2 hx =>
  ⟨a, rfl, ⟨xs, st_of hx⟩, q _ H2 e2 ⟨_, _, walk_tup, fun H3 e3 => ex_t e3 (st_of hx), fun i H1 v H2 _ => yAt i H1 v H2⟩⟩
theorem ei_str {a : W} (h : Ev te σ H (S a)) : EvI (iStr te) σ H a.length (fun i v _ => ∃ c, a[i]? = some c ∧ v = S [c]) := fun H1 e R q => h H1 e _ fun H2 e2 =>
  ⟨_, rfl, q _ H2 e2 ⟨_, _, by rw [← ST_size]; exact walk_str, fun _ _ => trivial, fun i H3 v H4 _ y => by
    obtain ⟨rfl, c, h1, h2⟩ := y
    exact ⟨Ex.refl _, c, by simpa using h1, h2⟩⟩⟩
theorem ei_rng1 {ta : TA} {m : Int} (h : EvA ta σ H [.int m]) (hm : -100000 ≤ m ∧ m ≤ 1000000) : EvI (iRng1 ta) σ H m.toNat (PFn fun i => .int (i : Int)) := fun H1 e R q => h H1 e _ fun H2 e2 =>
  ⟨m, rfl, by omega, by omega, q _ H2 e2 ⟨_, _, walk_range, fun _ _ => trivial, fun i H1 v H2 _ y => by
    have := yFn i H1 v H2 y
    refine ⟨this.1, this.2.trans ?_⟩
    show V.int (0 + (i : Int)) = _
    rw [Int.zero_add]⟩⟩
theorem ei_rng2 {ta : TA} {l m : Int} (h : EvA ta σ H [.int l, .int m]) (hl : -1000000 ≤ l ∧ l ≤ 1000000) (hm : -1000000 ≤ m ∧ m ≤ 1000000) : EvI (iRng2 ta) σ H (m - l).toNat (PFn fun i => .int (l + (i : Int))) := fun H1 e R q => h H1 e _ fun H2 e2 =>
  ⟨l, m, rfl, ⟨by omega, by omega, by omega, by omega⟩, q _ H2 e2 ⟨_, _, walk_range, fun _ _ => trivial, fun i H1 v H2 _ => yFn i H1 v H2⟩⟩
theorem ei_rng3 {ta : TA} {l m : Int} (h : EvA ta σ H [.int l, .int m, .int (-1)]) (hl : -1000000 ≤ l ∧ l ≤ 1000000) (hm : -1000000 ≤ m ∧ m ≤ 1000000) : EvI (iRng3 ta) σ H (l - m).toNat (PFn fun i => .int (l + (i : Nat) * (-1))) := fun H1 e R q => h H1 e _ fun H2 e2 =>
  ⟨l, m, -1, _, rfl, RgC.neg (by omega) (by omega) (by omega) (by omega), q _ H2 e2 ⟨_, _, walk_rangeC, fun _ _ => trivial, fun i H1 v H2 _ => yFn i H1 v H2⟩⟩
theorem ei_enum {ta : TA} {a : Addr} {xs : List V} (h : EvA ta σ H [.ref a]) (hx : SqL K H a xs) : EvI (iEnum K ta) σ H xs.length (PTwo (fun i => some (.int (i : Nat))) fun i => xs[i]?) := fun H1 e R q => h H1 e _ fun H2 e2 =>
  ⟨a, xs, rfl, ex_l (e.trans e2) hx, q _ H2 e2 ⟨_, _, walk_enum, fun H3 e3 => ex_l ((e.trans e2).trans e3) hx, fun i H1 v H2 _ => yPair i H1 v H2⟩⟩
theorem ei_enumN {xs : List V} (h : EvL tl σ H xs) : EvI (iEnum K (tCons tl tNil)) σ H xs.length (PTwo (fun i => some (.int (i : Nat))) fun i => xs[i]?) := fun H1 e R q => h H1 e _ fun a H2 _ e2 hx =>
  ⟨a, xs, rfl, sq_of hx, q _ H2 e2 ⟨_, _, walk_enum, fun H3 e3 => ex_l e3 (sq_of hx), fun i H1 v H2 _ => yPair i H1 v H2⟩⟩
theorem ei_zipS {ta : TA} {a b : W} (h : EvA ta σ H [S a, S b]) : EvI (iZipS ta) σ H (min a.length b.length) (PTwo (fun i => (a[i]?).map fun c => S [c]) fun i => (b[i]?).map fun c => S [c]) := fun H1 e R q => h H1 e _ fun H2 e2 =>
  ⟨_, _, rfl, q _ H2 e2 ⟨_, _, walk_zipS (by rw [ST_size, ST_size]), fun _ _ => trivial, fun i H1 v H2 _ y => by
    obtain ⟨T, c, d, rfl, hT, rfl, h1, h2⟩ := y
    refine ⟨Ex.new hT, T, _, _, rfl, upd_same, ?_, ?_⟩
    · show (a[i]?).map _ = _
      rw [show a[i]? = some c by simpa using h1]
      rfl
    · show (b[i]?).map _ = _
      rw [show b[i]? = some d by simpa using h2]
      rfl⟩⟩
/-- a comprehension -/
theorem el_lc {g : TG} {vs : List Nat} (f : Nat → Bool) (v : Nat → V) (h : EvI wi σ H n P) (hz : n ≤ 40000)
    (hs : ∀ i x H1, Ex H H1 → i < n → P i x H1 → ∃ σ2, (∀ Q : L2.St → Hp → Prop, Q σ2 H1 → g x (wipe σ vs) H1 Q) ∧ wipe σ2 vs = wipe σ vs ∧ EvT t σ2 H1 (f i) ∧ (f i = true → Ev te σ2 H1 (v i))) :
    EvL (tLc wi g t te vs) σ H (given n f v) := fun H0 e Q q => h H0 e _ fun J H1 e1 ⟨G, Y, w, hG, hy⟩ D hD =>
  lc_it w (fun i H' => Cw H1 f v D i H') ⟨hD, Ex.new hD, upd_same⟩ (fun i H' _ p => hG H' p.2.1) (fun i x H2 H3 hi p y => by
    obtain ⟨e3, p3⟩ := hy i H2 x H3 hi y
    obtain ⟨σ2, g1, g2, g3, g4⟩ := hs i x H3 (((e.trans e1).trans p.2.1).trans e3) hi p3
    refine g1 _ ⟨g2, ?_⟩
    refine g3 H3 (Ex.refl _) _ fun H4 e4 => ?_
    have pD : H4 D = some (.lst (given i f v)) := e4 D _ (e3 D _ p.2.2)
    have pE : Ex H1 H4 := (p.2.1.trans e3).trans e4
    cases hf : f i with
    | true =>
      refine iteT (g4 hf H4 e4 _ fun H5 e5 => ⟨given i f v, e5 D _ pD, sz_lt (by have := given_len i f v; omega), p.1, Ex.mut (pE.trans e5) p.1, ?_⟩)
      rw [given_yes hf]
      exact upd_same
    | false =>
      refine iteF ⟨p.1, pE, ?_⟩
      rw [given_no hf]
      exact pD) (fun H' p => q D H' (fresh_back e1 p.1) (e1.trans p.2.1) p.2.2)
/-- a comprehension whose target is one name -/
theorem el_lc1 {j : Nat} {vs : List Nat} (f : Nat → Bool) (v : Nat → V) (h : EvI wi σ H n P) (hz : n ≤ 40000) (hw : ∀ x, wipe ((wipe σ vs).set j (some x)) vs = wipe σ vs)
    (hs : ∀ i x H1, Ex H H1 → i < n → P i x H1 → EvT t ((wipe σ vs).set j (some x)) H1 (f i) ∧ (f i = true → Ev te ((wipe σ vs).set j (some x)) H1 (v i))) :
    EvL (tLc wi (gName j) t te vs) σ H (given n f v) := el_lc f v h hz fun i x H1 e hi p => ⟨_, fun _ q => q, hw x, hs i x H1 e hi p⟩
/-- a pair as the target -/
theorem el_lc2 {xs ys : Nat → Option V} {j k : Nat} {vs : List Nat} (f : Nat → Bool) (v : Nat → V) (h : EvI wi σ H n (PTwo xs ys)) (hz : n ≤ 40000) (hw : ∀ x y, wipe (((wipe σ vs).set j (some x)).set k (some y)) vs = wipe σ vs)
    (hs : ∀ i x y H1, Ex H H1 → i < n → xs i = some x → ys i = some y → EvT t (((wipe σ vs).set j (some x)).set k (some y)) H1 (f i) ∧ (f i = true → Ev te (((wipe σ vs).set j (some x)).set k (some y)) H1 (v i))) :
    EvL (tLc wi (gTup K 2 (gCons (gName j) (gCons (gName k) gNil))) t te vs) σ H (given n f v) := el_lc f v h hz fun i z H1 e hi p => by
  obtain ⟨T, a, b, rfl, hT, h1, h2⟩ := p
  exact ⟨_, fun _ q => ⟨T, [a, b], rfl, st_of hT, rfl, a, [b], rfl, b, [], rfl, rfl, q⟩, hw a b, hs i a b H1 e hi h1 h2⟩
theorem given_all (n : Nat) (v : Nat → V) : given n (fun _ => true) v = (List.range n).map v := by
  unfold given
  rw [List.filter_eq_self.mpr fun _ _ => rfl]
theorem et_yes : EvT tYes σ H true := fun H1 _ _ q => q H1 (Ex.refl H1)
end
end Mir
/-! part K0 -/
set_option Elab.async false
set_option linter.all false
set_option maxRecDepth 100000
set_option maxHeartbeats 4000000
/-! The text's defs: how they stand, how they are called. -/
namespace Mir
open PySem PySem.Spec PyProof.Rows L2 Evl
def top (i : Nat) : Stmt := PySem.Challenge.pw_mirrordoors_k71_whole_a_desk_beside_a_ga.main.body.getD i (.Pass ⟨0, 0, 0, 0⟩)
abbrev FnP (K : PySem.W.Frag) (x : Str) (st : Stmt) (f : Addr) (fd : FuncData) : Prop := FunD K x x (defArgs st) (defBody st) (defScope st) [] [] f fd
/-- the def of the top's i-th statement stands under the name x -/
def Dn (K : PySem.W.Frag) (mg : Str → Option Value) (x : Str) (i : Nat) : Prop := ∃ f fd, FnP K x (top i) f fd ∧ mg x = some (.ref f)
/-- a def that is reached under the name x keeps the promise sp -/
structure Ok (P : Program) (w : World) (K : PySem.W.Frag) (mg : Str → Option Value) (base : Heap) (CX : CXT) (k : Nat) (x : Str) (sp : Sp) : Prop where
  ex : ∃ f fd ps, mg x = some (.ref f) ∧ PySem.W.keepIn K (.ref f) = true ∧ Binds K fd ps [] ∧ FnOk P w K mg base CX k f fd ps sp
/-- the built-in names are built-in -/
structure Bu (mg : Str → Option Value) : Prop where
  len : mg "len" = none
  min : mg "min" = none
  max : mg "max" = none
  range : mg "range" = none
  zip : mg "zip" = none
  sorted : mg "sorted" = none
  set : mg "set" = none
  list : mg "list" = none
  tuple : mg "tuple" = none
  isinstance : mg "isinstance" = none
  all : mg "all" = none
  abs : mg "abs" = none
  int : mg "int" = none
  str : mg "str" = none
  bool : mg "bool" = none
  enumerate : mg "enumerate" = none
  sum : mg "sum" = none
abbrev TX := World → Nat
section
variable {P : Program} {w : World} {K : PySem.W.Frag} {mg : Str → Option Value} {base : Heap}
theorem Ok.imp {CX : CXT} {k : Nat} {x : Str} {sp sp' : Sp} (O : Ok P w K mg base CX k x sp) (h : ∀ vs H Q E, sp' vs H Q E → sp vs H Q E) : Ok P w K mg base CX k x sp' := by
  obtain ⟨f, fd, ps, h1, h2, h3, h4⟩ := O.ex
  exact ⟨f, fd, ps, h1, h2, h3, h4.imp h⟩
/-- a def that lets nothing out -/
theorem Dn.ok {x : Str} {i k : Nat} {N ps : List Str} {sp : Sp} (D : Dn K mg x i) (sc : FnScope N ps (defScope (top i)))
    (hb : ∀ (kV doc pm : Value) (an : Option Addr) (cdv ct : Value) (us : List Value), us.length = ps.length → bindArgs (PySem.W.fnOf x x (defArgs (top i)) (defBody (top i)) (defScope (top i)) .none kV doc pm an cdv ct) ⟨us, []⟩ = pure (ps.zip us))
    (len : ∀ vs H Q E, sp vs H Q E → vs.length = ps.length)
    (body : ∀ (f : Addr) (cdv : Value) (A : Around) (outer : List Env) (s : Shared) (H : Hp) (vs : List V) (Q : VK) (E : XK), Room k (A.deeper (envOfC x (defScope (top i)) s.heap.objs.size f cdv)) → sp vs H Q E →
      ∃ t, PSs (cxOf CX0 P w K mg base N x (defScope (top i)) f cdv A outer s H E).nox (defBody (top i)) t ∧ t { nx := fun _ H' => Q .non H', rt := Q } (start N vs) H) : Ok P w K mg base CX0 (k + 1) x sp := by
  obtain ⟨f, fd, F, hm⟩ := D
  refine ⟨f, fd, ps, hm, F.kp, F.bindsN hb, F.ok sc len fun cdv A outer s H vs Q E hr h => ?_⟩
  obtain ⟨t, h1, h2⟩ := body f cdv A outer s H vs Q E hr h
  exact ⟨t, h1.nox, h2⟩
/-- a def that may raise -/
theorem Dn.okX {x : Str} {i k : Nat} {N ps : List Str} {sp : Sp} (D : Dn K mg x i) (sc : FnScope N ps (defScope (top i)))
    (hb : ∀ (kV doc pm : Value) (an : Option Addr) (cdv ct : Value) (us : List Value), us.length = ps.length → bindArgs (PySem.W.fnOf x x (defArgs (top i)) (defBody (top i)) (defScope (top i)) .none kV doc pm an cdv ct) ⟨us, []⟩ = pure (ps.zip us))
    (len : ∀ vs H Q E, sp vs H Q E → vs.length = ps.length)
    (body : ∀ (f : Addr) (cdv : Value) (A : Around) (outer : List Env) (s : Shared) (H : Hp) (vs : List V) (Q : VK) (E : XK), Room k (A.deeper (envOfC x (defScope (top i)) s.heap.objs.size f cdv)) → sp vs H Q E →
      ∃ t, PSs (cxOf (L2.CX P w) P w K mg base N x (defScope (top i)) f cdv A outer s H E) (defBody (top i)) t ∧ t { nx := fun _ H' => Q .non H', rt := Q } (start N vs) H) : Ok P w K mg base (L2.CX P w) (k + 1) x sp := by
  obtain ⟨f, fd, F, hm⟩ := D
  exact ⟨f, fd, ps, hm, F.kp, F.bindsN hb, F.ok sc len fun cdv A outer s H vs Q E hr h => body f cdv A outer s H vs Q E hr h⟩
end
section
variable {X : Cx} {CX : CXT} {j k : Nat} {x : Str} {sp : Sp} {E : XK} {p pos : Pos} {e : Expr} {es : List Expr} {t : TA}
theorem pe_ok (O : Ok X.prog X.w X.K X.mg X.base CX k x sp) (hr : Room j X.A) (hg : Gl X x) (hx : Passes CX X E) (ha : PA X (e :: es) t) (hj : k ≤ j := by decide) (hdb : (x == ("__debug__" : Str)) = false := by decide)
    (he : starEach (e :: es) X.env = (false, eval e X.env) :: starEach es X.env := by rfl) (hpl : (backTo pos (starEach es X.env)).any (·.1) = false := by rfl) : PE X (.Call (.Name x p) (e :: es) [] pos) (tCall sp [] E t) := by
  obtain ⟨f, fd, ps, h1, h2, h3, h4⟩ := O.ex
  exact pe_call h4 (hr.mono hj) hg h1 h2 h3 .nil hx ha hdb he hpl
theorem pe_ok0 (O : Ok X.prog X.w X.K X.mg X.base CX k x sp) (hr : Room j X.A) (hg : Gl X x) (hx : Passes CX X E) (hj : k ≤ j := by decide) (hdb : (x == ("__debug__" : Str)) = false := by decide) : PE X (.Call (.Name x p) [] [] pos) (tCall sp [] E tNil) := by
  obtain ⟨f, fd, ps, h1, h2, h3, h4⟩ := O.ex
  exact pe_call0 h4 (hr.mono hj) hg h1 h2 h3 .nil hx hdb
end
/-! ### promises of defs that only read -/
/-- the value, at any heap that keeps what was known -/
def Rv (v : V) (H : Hp) (Q : VK) : Prop := ∀ H2, Ex H H2 → Q v H2
def Rl (xs : List V) (H : Hp) (Q : VK) : Prop := ∀ p H2, H p = none → Ex H H2 → H2 p = some (.lst xs) → Q (.ref p) H2
def Rt (xs : List V) (H : Hp) (Q : VK) : Prop := ∀ p H2, H p = none → Ex H H2 → H2 p = some (.tup xs) → Q (.ref p) H2
section
variable {K : PySem.W.Frag} {σ : L2.St} {H H' : Hp} {ta te : TE} {t : TA} {sp : Sp} {vs xs : List V} {v : V} {E : XK}
/-- a call by its promise -/
theorem ev_ok (h : EvA t σ H vs) (hs : ∀ H1 Q, Ex H H1 → Rv v H1 Q → sp vs H1 Q E) : Ev (tCall sp [] E t) σ H v := fun H1 e Q q => h H1 e _ fun H2 e2 => by
  show sp (vs ++ []) H2 Q E
  rw [List.append_nil]
  exact hs H2 Q (e.trans e2) fun H3 e3 => q H3 (e2.trans e3)
theorem el_ok (h : EvA t σ H vs) (hs : ∀ H1 Q, Ex H H1 → Rl xs H1 Q → sp vs H1 Q E) : EvL (tCall sp [] E t) σ H xs := fun H1 e Q q => h H1 e _ fun H2 e2 => by
  show sp (vs ++ []) H2 Q E
  rw [List.append_nil]
  exact hs H2 Q (e.trans e2) fun p H3 hp e3 hx => q p H3 (fresh_back e2 hp) (e2.trans e3) hx
theorem eu_ok (h : EvA t σ H vs) (hs : ∀ H1 Q, Ex H H1 → Rt xs H1 Q → sp vs H1 Q E) : EvU (tCall sp [] E t) σ H xs := fun H1 e Q q => h H1 e _ fun H2 e2 => by
  show sp (vs ++ []) H2 Q E
  rw [List.append_nil]
  exact hs H2 Q (e.trans e2) fun p H3 hp e3 hx => q p H3 (fresh_back e2 hp) (e2.trans e3) hx
end
/-- a def over texts: arguments texts with what is known of them, the answer one value -/
def spS1 (C : W → Prop) (f : W → V) : Sp := fun vs H Q _ => ∃ a, vs = [S a] ∧ C a ∧ Rv (f a) H Q
def spS2 (C : W → W → Prop) (f : W → W → V) : Sp := fun vs H Q _ => ∃ a b, vs = [S a, S b] ∧ C a b ∧ Rv (f a b) H Q
section
variable {σ : L2.St} {H : Hp} {ta tb : TE} {E : XK}
theorem ev_s1 {C : W → Prop} {f : W → V} {a : W} (h : Ev ta σ H (S a)) (hc : C a) : Ev (tCall (spS1 C f) [] E (tCons ta tNil)) σ H (f a) := ev_ok (ea_cons h ea_nil) fun H1 Q _ q => ⟨a, rfl, hc, q⟩
theorem ev_s2 {C : W → W → Prop} {f : W → W → V} {a b : W} (h : Ev ta σ H (S a)) (h2 : Ev tb σ H (S b)) (hc : C a b) : Ev (tCall (spS2 C f) [] E (tCons ta (tCons tb tNil))) σ H (f a b) :=
  ev_ok (ea_cons h (ea_cons h2 ea_nil)) fun H1 Q _ q => ⟨a, b, rfl, hc, q⟩
end
theorem len1 {C : W → Prop} {f : W → V} {ps : List Str} (h : ps.length = 1) (vs : List V) (H : Hp) (Q : VK) (E : XK) (q : spS1 C f vs H Q E) : vs.length = ps.length := by
  obtain ⟨a, rfl, _⟩ := q
  exact h.symm
theorem len2 {C : W → W → Prop} {f : W → W → V} {ps : List Str} (h : ps.length = 2) (vs : List V) (H : Hp) (Q : VK) (E : XK) (q : spS2 C f vs H Q E) : vs.length = ps.length := by
  obtain ⟨a, b, rfl, _⟩ := q
  exact h.symm
end Mir
/-! part K1 -/
set_option Elab.async false
set_option linter.all false
set_option maxRecDepth 100000
set_option maxHeartbeats 4000000
/-! Constants of the text, and what a few more rules evaluate to. -/
namespace Mir
open PySem PySem.Spec PyProof.Rows L2 Evl
def lettersW : W := [97, 98, 99, 100, 101, 102, 103, 104]
def noneW : W := [110, 111, 110, 101]
/-- the text's constants -/
structure Cst (K : PySem.W.Frag) (mg : Str → Option Value) : Prop where
  LETTERS : ∃ t, mg "LETTERS" = some (.str (ST lettersW) t)
  BLANK : ∃ t, mg "BLANK" = some (.str (ST [32]) t)
  BREAK : ∃ t, mg "BREAK" = some (.str (ST [44, 32]) t)
  NONE : ∃ t, mg "NONE" = some (.str (ST [45]) t)
  NOTHING : ∃ t, mg "NOTHING" = some (.str (ST noneW) t)
  DOUBLE_between : ∃ t, mg "DOUBLE_between" = some (.int 2 t)
section
variable {X : Cx} {x : Str} {z : Str} {k : Nat} {p pos : Pos} {l : W} {i : Int}
theorem pe_st (h : x = ST l := by first | rfl | (refine TL.ext_tl ?_; rw [TL.tl_ofString]; first | rfl | decide +kernel)) : PE X (.Constant (.str x) k pos) (tC (S l)) := by
  subst h
  exact pe_str
theorem pe_gs (hg : Gl X x) (h : ∃ t, X.mg x = some (.str z t)) (hd : (x == ("__debug__" : Str)) = false := by decide) : PE X (.Name x pos) (tC (.str z)) := by
  obtain ⟨t, h⟩ := h
  exact pe_glob hg h ⟨t, rfl⟩ hd
theorem pe_gi (hg : Gl X x) (h : ∃ t, X.mg x = some (.int i t)) (hd : (x == ("__debug__" : Str)) = false := by decide) : PE X (.Name x pos) (tC (.int i)) := by
  obtain ⟨t, h⟩ := h
  exact pe_glob hg h ⟨t, rfl⟩ hd
end
section
variable {K : PySem.W.Frag} {σ : L2.St} {H H' : Hp} {ta tb te : TE} {t u : TT} {x y z v : V}
abbrev rMin2 : List V → Hp → VK → Prop := fun xs H Q => ∃ i j, xs = [.int i, .int j] ∧ Q (.int (if j < i then j else i)) H
theorem ev_min2 {i j : Nat} (ha : Ev ta σ H (.int (i : Int))) (hb : Ev tb σ H (.int (j : Int))) : Ev (tCB rMin2 (tCons ta (tCons tb tNil))) σ H (.int ((min i j : Nat) : Int)) :=
  ev_cb (ea_cons ha (ea_cons hb ea_nil)) fun H1 _ Q q => ⟨_, _, rfl, by
    have e : (if (j : Int) < (i : Int) then (j : Int) else (i : Int)) = ((min i j : Nat) : Int) := by
      split <;> omega
    rw [e]
    exact q H1 (Ex.refl H1)⟩
/-- all of a new list of True and False -/
theorem ev_allN {bs : List Bool} (h : EvL te σ H (bs.map V.bl)) : Ev (tCB (rAll K) (tCons te tNil)) σ H (.bl (bs.all id)) := fun H1 e Q q => h H1 e _ fun p H2 _ e2 hx => ⟨p, bs, rfl, sq_of hx, q H2 e2⟩
theorem ev_allF {n : Nat} {f : Nat → Bool} (h : EvL te σ H ((List.range n).map fun i => .bl (f i))) : Ev (tCB (rAll K) (tCons te tNil)) σ H (.bl ((List.range n).all f)) := by
  have e : (List.range n).all f = ((List.range n).map f).all id := by rw [List.all_map]; rfl
  rw [e]
  refine ev_allN ?_
  rw [List.map_map]
  exact h
theorem ev_isStr {a : W} (h : Ev te σ H (S a)) : Ev (tCB (rIsi K) (tCons te (tCons (tC (.ty "str")) tNil))) σ H (.bl true) :=
  ev_cb (ea_cons h (ea_cons ev_c ea_nil)) fun H1 _ Q q => ⟨_, _, _, _, true, rfl, ClsV.ty "str", .base (.str _), kit_ty (by decide +kernel), q H1 (Ex.refl H1)⟩
theorem ev_ixS {a : W} {i : Nat} {c : Nat} (ha : Ev ta σ H (S a)) (hb : Ev tb σ H (.int (i : Int))) (h : a[i]? = some c) (hz : a.length ≤ 1000000) : Ev (tOp rIxS ta tb) σ H (S [c]) :=
  ev_op ha hb fun H1 _ Q q => ⟨_, _, _, rfl, rfl, by rw [ST_len]; exact big hz, atI_nat h, q H1 (Ex.refl H1)⟩
abbrev rTupS (K : PySem.W.Frag) : List V → Hp → VK → Prop := fun xs H Q => ∃ p ys, xs = [.ref p] ∧ ((SqL K H p ys ∧ ∀ l, H l = none → Q (.ref l) (upd H l (.tup ys))) ∨ (SqT K H p ys ∧ Q (.ref p) H))
theorem eu_tupN {xs : List V} (h : EvL te σ H xs) : EvU (tCB (rTupS K) (tCons te tNil)) σ H xs := fun H1 e Q q => h H1 e _ fun p H2 hp e2 hx =>
  ⟨p, xs, rfl, .inl ⟨sq_of hx, fun l hl => q l _ (fresh_back e2 hl) (e2.trans (Ex.new hl)) upd_same⟩⟩
theorem eu_tupL {a : Addr} {xs : List V} (h : Ev te σ H (.ref a)) (hx : SqL K H a xs) : EvU (tCB (rTupS K) (tCons te tNil)) σ H xs := fun H1 e Q q => h H1 e _ fun H2 e2 =>
  ⟨a, xs, rfl, .inl ⟨ex_l (e.trans e2) hx, fun l hl => q l _ (fresh_back e2 hl) (e2.trans (Ex.new hl)) upd_same⟩⟩
end
end Mir
/-! part Rul4 -/
set_option Elab.async false
set_option linter.all false
set_option maxRecDepth 100000
set_option maxHeartbeats 4000000
/-! sorted(xs) of a list or a tuple of texts. -/
namespace Mir
open PySem PySem.Spec PyProof.Rows L2
section
variable {P : Program} {w : World} {A : Around} {E : Value → Shared → Prop} {s : Shared}
theorem sorted_seqS {T : String} {l : Addr} {items : Array Value} {xs : List Str} {Q : Value → Shared → Prop} (hT : T = "list" ∨ T = "tuple") (hl : SeqAt1 T l items s.heap) (hI : StrsAre items.toList xs) (h64 : items.toList.length < 64)
    (hQ : ∀ (h1 h' : Heap) (out : Array Value) (c : Nat) (ys : List Str), (∀ b o, s.heap.get? b = some o → h1.get? b = some o) → (∀ b o, h1.get? b = some o → h'.get? b = some o) → h'.get? h1.objs.size = some (seqObj "list" out c) → StrsAre out.toList ys → ys.Perm xs → sortedS ys = true → Q (.ref h1.objs.size) { s with heap := h' }) :
    wpAny (model P w) A (call (.builtin "sorted") [.ref l]) Q E s := by
  obtain ⟨o, ho, hc, n, hd⟩ := hl
  refine Calls.call_function_entry kind_sorted plain_sorted entry_sorted (args_sorted1 _) ?_
  unfold Builtin.«sorted»
  refine wpAny_bind (m := checkCount "sorted" 1 1 _) (wpAny_pure ?_)
  have hz : items.size ≤ sizeLine := by
    rw [← Array.length_toList]
    exact Nat.le_trans (Nat.le_of_lt h64) (by decide)
  refine wpAny_bind (wpAny_collect_seq l hT ho hc hd (fun h1 k1 => ?_) hz)
  refine wpAny_bind (wpAny_newList ?_ (by rw [Array.length_toList]; exact hz))
  have hoL : (h1.push (seqObj "list" items.toList.toArray 0)).get? h1.objs.size = some (seqObj "list" items.toList.toArray 0) := Heap.get?_push_size _ rfl
  refine wpAny_bind (wpAny_holding (wpAny_call_entry slot_list_sort ⟨_, hoL, rfl⟩ entry_list_sort (list_sort_treeK strKind_oneLt hoL hI.keysOf (fun v₁ v₂ rest e => keyKind_strs (by rw [← e]; exact hI)) h64 fun st' hp hs => ⟨_, rfl, ?_⟩) (args_list_sort _)))
  obtain ⟨ys, a1, a2, a3⟩ := sorted_out_str hI hp hs
  obtain ⟨c, hc2⟩ := sortedHeap_at (vs := items.toList) hoL
  refine wpAny_pure ⟨_, rfl, hQ h1 _ _ c ys k1 (fun b u q => ?_) hc2 a1 a2 a3⟩
  have hlt := Heap.lt_size q
  refine Eq.trans (sortedHeap_old (Nat.ne_of_lt hlt) (by rw [size_push']; exact Nat.lt_succ_of_lt hlt)) ?_
  exact Heap.get?_push_of_some _ q
end
section
variable {X : Cx}
def rSortedA (K : PySem.W.Frag) : List V → Hp → VK → Prop := fun vs H Q => ∃ (a : Addr) (xs : List Str), vs = [V.ref a] ∧ (SqL K H a (xs.map V.str) ∨ SqT K H a (xs.map V.str)) ∧ xs.length < 64 ∧
  ∀ (ys : List Str) (p : Addr), ys.Perm xs → sortedS ys = true → H p = none → Q (.ref p) (upd H p (.lst (ys.map V.str)))
theorem cr_sortedA : CallR X (.builtin "sorted") (rSortedA X.K) := by
  intro pins s σ H vs us Q I r h
  obtain ⟨a, xs, rfl, hs, h64, q⟩ := h
  rw [Vals.ref1 r]
  have fin : ∀ {T : String} {its : List Value}, (T = "list" ∨ T = "tuple") → SeqAt1 T a its.toArray s.heap → Vals (xs.map V.str) its → wpAny (model X.prog X.w) X.A (call (.builtin "sorted") [.ref a]) (EP X pins σ Q) X.xe s := by
    intro T its hT hl rv
    have hlen := rv.length
    rw [List.length_map] at hlen
    refine sorted_seqS hT hl (xs := xs) rv.strs (by show its.length < 64; omega) fun h1 h' out c ys k1 k2 hg hi pm hs2 => ?_
    have I1 : Inv X pins σ H { s with heap := h1 } := I.kept (t' := s.toks) k1
    have hn : H h1.objs.size = none := I1.hok.fresh (Nat.le_refl _)
    have hz : (ys.map V.str).length ≤ sizeLine := by
      rw [List.length_map, pm.length_eq]
      exact small64 h64
    exact ⟨.ref h1.objs.size, _, I1.laid (o := .lst (ys.map V.str)) (t' := s.toks) k2 (Nat.le_refl _) ⟨hz, out.toList, c, vals_of_strs hi, hg⟩, rfl, q ys _ pm hs2 hn⟩
  rcases hs with hs | hs
  · obtain ⟨its, rv, hl, _⟩ := I.list hs
    exact fin (.inl rfl) hl.isList rv
  · obtain ⟨its, rv, ⟨o, ho, hc, n, hd⟩, _⟩ := I.tuple hs
    exact fin (.inr rfl) ⟨o, ho, hc, n, hd⟩ rv
end
end Mir
/-! part Srt -/
set_option Elab.async false
set_option linter.all false
set_option maxRecDepth 100000
set_option maxHeartbeats 4000000
/-! Sorted lists of texts. -/
namespace Mir
open PySem PySem.Spec PyProof.Rows L2 Evl
/-- sorted, with repeats -/
def insD (x : W) : List W → List W
  | [] => [x]
  | y :: t => if ltW y x then y :: insD x t else x :: y :: t
def srt (l : List W) : List W := l.foldr insD []
def Up (l : List W) : Prop := l.Pairwise fun a b => ltW b a = false
theorem insD_perm (x : W) : ∀ l : List W, (insD x l).Perm (x :: l)
  | [] => List.Perm.refl _
  | y :: t => by
    unfold insD
    split
    · exact ((insD_perm x t).cons y).trans (List.Perm.swap x y t)
    · exact List.Perm.refl _
theorem srt_perm : ∀ l : List W, (srt l).Perm l
  | [] => List.Perm.refl _
  | x :: t => (insD_perm x (srt t)).trans ((srt_perm t).cons x)
theorem le_trans' {a b c : W} (h1 : ltW b a = false) (h2 : ltW c b = false) : ltW c a = false := by
  cases h : ltW c a with
  | false => rfl
  | true =>
    by_cases e : a = b
    · subst e
      rw [h2] at h
      cases h
    · have hab : ltW a b = true := by
        cases h3 : ltW a b with
        | true => rfl
        | false => exact absurd (ltW_total a b h3 h1) e
      rw [ltW_trans h hab] at h2
      cases h2
theorem insD_up {x : W} : ∀ {l : List W}, Up l → Up (insD x l)
  | [], _ => by
    unfold insD Up
    simp
  | y :: t, h => by
    obtain ⟨h1, h2⟩ := List.pairwise_cons.mp h
    unfold insD
    split
    · rename_i hlt
      refine List.pairwise_cons.mpr ⟨fun z hz => ?_, insD_up h2⟩
      rcases List.mem_cons.mp ((insD_perm x t).mem_iff.mp hz) with rfl | hz
      · exact ltW_asymm hlt
      · exact h1 z hz
    · rename_i hlt
      have hlt' : ltW y x = false := by simpa using hlt
      refine List.pairwise_cons.mpr ⟨fun z hz => ?_, h⟩
      rcases List.mem_cons.mp hz with rfl | hz
      · exact hlt'
      · exact le_trans' hlt' (h1 z hz)
theorem srt_up : ∀ l : List W, Up (srt l)
  | [] => List.Pairwise.nil
  | x :: t => insD_up (srt_up t)
theorem up_perm : ∀ {a b : List W}, Up a → Up b → a.Perm b → a = b
  | [], b, _, _, p => (List.Perm.nil_eq p)
  | x :: s, b, ha, hb, p => by
    cases b with
    | nil => exact absurd p.length_eq (by simp)
    | cons y t =>
      obtain ⟨h1, h2⟩ := List.pairwise_cons.mp ha
      obtain ⟨h3, h4⟩ := List.pairwise_cons.mp hb
      have e : x = y := by
        by_cases e : x = y
        · exact e
        · have hx : x ∈ t := (List.mem_cons.mp (p.mem_iff.mp (List.mem_cons_self ..))).resolve_left e
          have hy : y ∈ s := (List.mem_cons.mp (p.mem_iff.mpr (List.mem_cons_self ..))).resolve_left fun z => e z.symm
          exact ltW_total x y (h3 x hx) (h1 y hy)
      subst e
      rw [up_perm h2 h4 p.cons_inv]
theorem srt_of {a l : List W} (h : Up a) (p : a.Perm l) : a = srt l := up_perm h (srt_up l) (p.trans (srt_perm l).symm)
theorem asc_up : ∀ {l : List W}, Asc l → Up l
  | [], _ => List.Pairwise.nil
  | x :: t, h => List.pairwise_cons.mpr ⟨fun z hz => ltW_asymm (h.lt z hz), asc_up h.tail⟩
theorem up_asc : ∀ {l : List W}, Up l → l.Nodup → Asc l
  | [], _, _ => trivial
  | x :: t, h, nd => by
    obtain ⟨h1, h2⟩ := List.pairwise_cons.mp h
    obtain ⟨n1, n2⟩ := List.nodup_cons.mp nd
    refine asc_cons (up_asc h2 n2) fun z hz => ?_
    cases e : ltW x z with
    | true => rfl
    | false => exact absurd (ltW_total x z e (h1 z hz)) fun q => n1 (by rw [q]; exact hz)
theorem srt_nodup {l : List W} (h : l.Nodup) : srt l = setOf l :=
  asc_ext (up_asc (srt_up l) ((srt_perm l).nodup_iff.mpr h)) (asc_setOf l) fun x => by rw [(srt_perm l).mem_iff, mem_setOf]
theorem srt_len (l : List W) : (srt l).length = l.length := (srt_perm l).length_eq
/-! ### the model's sorted texts -/
theorem rising_up : ∀ (ss : List Str) (p : Str), risingS p ss = true → (TL.tl p :: ss.map TL.tl).Pairwise (fun a b => ltW b a = false) := by
  intro ss
  induction ss with
  | nil =>
    intro p _
    simp
  | cons x r ih =>
    intro p h
    have h' : (!ltCps x.cps.toList p.cps.toList && risingS x r) = true := h
    obtain ⟨h1, h2⟩ := Bool.and_eq_true_iff.mp h'
    have ih' := ih x h2
    have e : ltW (TL.tl x) (TL.tl p) = false := by
      rw [← lt_ltW, ← PyProof.Rows.ltCps_eq]
      simpa using h1
    refine List.pairwise_cons.mpr ⟨fun z hz => ?_, ih'⟩
    rcases List.mem_cons.mp hz with rfl | hz
    · exact e
    · exact le_trans' e ((List.pairwise_cons.mp ih').1 z hz)
theorem sorted_up : ∀ {ys : List Str}, sortedS ys = true → Up (ys.map TL.tl)
  | [], _ => List.Pairwise.nil
  | x :: r, h => rising_up r x h
theorem strs_codes (ys : List Str) : (ys.map TL.tl).map ST = ys := by
  rw [List.map_map]
  conv => rhs; rw [← List.map_id ys]
  exact List.map_congr_left fun y _ => TL.mk_tl y
theorem sorted_srt {ys : List Str} {ws : List W} (p : ys.Perm (ws.map ST)) (h : sortedS ys = true) : ys.map V.str = Ss (srt ws) := by
  have p2 : (ys.map TL.tl).Perm ws := by
    have := p.map TL.tl
    rwa [List.map_map, show (TL.tl ∘ ST) = id from rfl, List.map_id] at this
  rw [← srt_of (sorted_up h) p2, ← Ss_map, strs_codes]
section
variable {K : PySem.W.Frag} {σ : L2.St} {H H' : Hp} {ta tb te : TE}
theorem el_sortedN {l : List W} (h : EvL te σ H (Ss l)) (hl : l.length < 64) : EvL (tCB (rSortedA K) (tCons te tNil)) σ H (Ss (srt l)) := fun H1 e Q q => h H1 e _ fun p H2 _ e2 hx =>
  ⟨p, l.map ST, rfl, .inl (by rw [Ss_map]; exact sq_of hx), by rw [List.length_map]; exact hl, fun ys p pm hs hp => by
    rw [sorted_srt pm hs]
    exact q p _ (fresh_back e2 hp) (e2.trans (Ex.new hp)) upd_same⟩
theorem el_sorted {l : List W} {a : Addr} (h : Ev te σ H (.ref a)) (hx : SqL K H a (Ss l) ∨ SqT K H a (Ss l)) (hl : l.length < 64) : EvL (tCB (rSortedA K) (tCons te tNil)) σ H (Ss (srt l)) := fun H1 e Q q => h H1 e _ fun H2 e2 =>
  ⟨a, l.map ST, rfl, by rw [Ss_map]; exact hx.imp (ex_l (e.trans e2)) (ex_t (e.trans e2)), by rw [List.length_map]; exact hl, fun ys p pm hs hp => by
    rw [sorted_srt pm hs]
    exact q p _ (fresh_back e2 hp) (e2.trans (Ex.new hp)) upd_same⟩
theorem el_sortedU {l : List W} (h : EvU te σ H (Ss l)) (hl : l.length < 64) : EvL (tCB (rSortedA K) (tCons te tNil)) σ H (Ss (srt l)) := fun H1 e Q q => h H1 e _ fun p H2 _ e2 hx =>
  ⟨p, l.map ST, rfl, .inr (by rw [Ss_map]; exact st_of hx), by rw [List.length_map]; exact hl, fun ys p pm hs hp => by
    rw [sorted_srt pm hs]
    exact q p _ (fresh_back e2 hp) (e2.trans (Ex.new hp)) upd_same⟩
end
end Mir
/-! part RulS3 -/
set_option Elab.async false
set_option linter.all false
set_option maxRecDepth 100000
set_option maxHeartbeats 4000000
/-! A set of texts made by a comprehension, sorted. -/
namespace Mir
open PySem PySem.Spec PyProof.Rows L2 Evl
/-- the set at a holds the texts L -/
def SetSO (w : World) (a : Addr) (L : List Str) : HO := .ext fun h => SetS w h a L
theorem setSO_new {w : World} {P : Program} {H : Hp} {h : Heap} {a : Addr} {L : List Str} (R : SetS w h a L) : ObjOk P w H h a (SetSO w a L) := by
  obtain ⟨o, es, ep, t, ho, r⟩ := R
  exact ⟨⟨o, es, ep, t, ho, r⟩, ⟨o, ho⟩, fun h1 h2 R k => SetS.at R k⟩
theorem take_snoc' {α : Type} {l : List α} {i : Nat} {x : α} (h : l[i]? = some x) : l.take (i + 1) = l.take i ++ [x] := by
  rw [List.take_add_one, h]
  rfl
theorem pAt_S2 {l : List W} {i : Nat} {x : V} (q : (Ss l)[i]? = some x) : ∃ w, l[i]? = some w ∧ x = S w := by
  rw [List.getElem?_map] at q
  obtain ⟨w, h1, h2⟩ := Option.map_eq_some_iff.mp q
  exact ⟨w, h1, h2.symm⟩
/-- a text more -/
def Grown (c : Str) (L L' : List Str) : Prop := (c ∈ L → L' = L) ∧ (c ∉ L → L'.Perm (c :: L))
section
variable {X : Cx}
theorem addS_ok {pins : List (Addr × Obj)} {σ : L2.St} {H : Hp} {s : Shared} {E : Value → Shared → Prop} {D : Addr} {L : List Str} {y : Str} {tk : Tok} {Q : Value → Shared → Prop} (I : Inv X pins σ H s) (hD : H D = some (SetSO X.w D L)) (room : L.length + 1 < scanBound)
    (h : ∀ s' L', Grown y L L' → Inv X pins σ (upd H D (SetSO X.w D L')) s' → Q .none s') : wpAny (model X.prog X.w) X.A (call (.builtin "set.add") [.ref D, .str y tk]) Q E s := by
  have R : SetS X.w s.heap D L := (I.hok D _ hD).1
  refine call_add R room fun h' L' sb R' e1 e2 => ?_
  have there : ∃ u, h'.get? D = some u := by
    obtain ⟨o, es, ep, t, ho, _⟩ := R'
    exact ⟨o, ho⟩
  exact h _ L' ⟨e1, e2⟩ (I.write (e := D) (t' := s.toks + 1) (by rw [hD]; trivial) (.inl rfl) (fun b u hb hu => (sb.2 b hb).trans hu) there (setSO_new R'))
def tScS (w : World) (wi : TI) (g : TG) (tt : TT) (te : TE) (vs : List Nat) : TE := fun σ H Q => wi σ H fun J G1 => ∀ dst, G1 dst = none → ∃ W : Nat → Nat → Hp → Prop, (∃ m, W 0 m (upd G1 dst (SetSO w dst []))) ∧ ∀ i m H, W i m H →
  (J.stop i H ∧ Q (.ref dst) H) ∨ (J.go i H ∧ ∃ Nx : Hp → Prop, (∀ He, Nx He → ∃ me, me < m ∧ W (i + 1) me He) ∧ ∀ x He, J.yld i H x He → g x (wipe σ vs) He fun τ2 G2 => wipe τ2 vs = wipe σ vs ∧ tt τ2 G2 fun b G3 =>
    if b = true then te τ2 G3 fun y G4 => ∃ (c : Str) (Lx : List Str), y = .str c ∧ G4 dst = some (SetSO w dst Lx) ∧ Lx.length + 1 < scanBound ∧ ∀ Ly, Grown c Lx Ly → Nx (upd G4 dst (SetSO w dst Ly)) else Nx G3)
theorem scS_core {pn : List (Addr × Obj)} {s : Shared} {σ : L2.St} {H : Hp} {Q : VK} {el tgt iter : Expr} {cds : List Expr} {blok : Scope} {mine : List (Str × Nat)} {pos pos' : Pos} {wi : TI} {g : TG} {tt : TT} {te : TE} {use : Option (Value → Sem Unit)} {Qf : Value → Shared → Prop}
    (hc : X.calm = true) (hN : X.N.Nodup) (I : Inv X pn σ H s) (hi : PI X tgt iter wi) (ok : BlkOk X.N X.env.scope blok mine)
    (hg : ∀ (s : Shared) (H : Hp) (cad : Addr) (cels : List (Str × Addr)) (fr : List Addr), PG (X.blk s H blok (compEnvC blok cels cad X.env) fr) tgt g) (ht : ∀ (s : Shared) (H : Hp) (cad : Addr) (cels : List (Str × Addr)) (fr : List Addr), PTs (X.blk s H blok (compEnvC blok cels cad X.env) fr) cds tt)
    (he : ∀ (s : Shared) (H : Hp) (cad : Addr) (cels : List (Str × Addr)) (fr : List Addr), PE (X.blk s H blok (compEnvC blok cels cad X.env) fr) el te) (hs : ∀ x, foldedSetIterable iter X.env x = pure x)
    (h : tScS X.w wi g tt te (mine.map (·.2)) σ H Q)
    (hRR : ∀ dst cad se m He, Inv X pn σ He se → Q (.ref dst) He → se.heap.Ns cad m → FpOk X pn He cad → compPost (model X.prog X.w) X.A X.xe use Qf (.ref dst) cad (.ok .next) se) :
    wpAny (model X.prog X.w) X.A (comprehension (.SetComp el [⟨tgt, iter, cds, 0⟩] blok pos) blok X.env pos' (newSet (.type "set")) false (eval iter X.env) use) Qf X.xe s := by
  have hfree : ∀ y ∈ blok.names, y.2 = .free → ∃ c, X.env.cells.lookup y.1 = some c := fun y hy e => by
    rcases ok.free y hy e with k | k
    · exact I.ok.has _ (.inl k)
    · exact I.ok.has _ (.inr k)
  refine wpAny_comprehension_free (use := use) rfl hs (closure_ok hfree) ok.kind (fun y hy e => by rw [ok.uniq y hy, e])
    (thn (hi.run pn s σ H _ I h) fun xv u1 hx => thn hx fun itv u2 hh2 => ?_)
  obtain ⟨ita, fr, tn, J, G2, e, J2, T, sq2, fg2, q⟩ := hh2
  subst e
  refine PpSet.newSet_ok (newEnv_comp ?_)
  generalize hD : u2.heap.objs.size = dst
  have hDn : G2 dst = none := J2.hok.fresh (Nat.le_of_eq hD)
  obtain ⟨W, ⟨m0, wk0⟩, turn⟩ := q dst hDn
  -- the new list
  generalize hs3 : ({ u2 with heap := u2.heap.push { cls := .type "set", dict := none, data := .set #[] 0 (.fresh 0 0 (!X.w.params.followText "set-order")) } } : Shared) = u3
  have J3 : Inv X pn σ (upd G2 dst (SetSO X.w dst [])) u3 := by
    rw [← hs3]
    refine J2.laid (t' := u2.toks) (fun b o e => Heap.get?_push_of_some _ e) (Nat.le_of_eq hD) ?_
    rw [← hD]
    exact setSO_new (setS_fresh X.w)
  have hh3 : u3.heap = u2.heap.push { cls := .type "set", dict := none, data := .set #[] 0 (.fresh 0 0 (!X.w.params.followText "set-order")) } := by rw [← hs3]
  have sz : ∀ b ∈ fr, b < u2.heap.objs.size := fun b hb => by
    obtain ⟨o, e, _⟩ := T.obj _ _ sq2 b hb
    exact Heap.lt_size e
  have fg3 : ∀ b ∈ fr, FpOk X pn (upd G2 dst (SetSO X.w dst [])) b ∧ b < u3.heap.objs.size := fun b hb => by
    have hlt := sz b hb
    refine ⟨⟨?_, (fg2 b hb).2⟩, by rw [hh3, Heap.size_push]; exact Nat.lt_succ_of_lt hlt⟩
    rw [upd_ne (by rw [← hD]; exact Nat.ne_of_lt hlt)]
    exact (fg2 b hb).1
  have sq3 : tn 0 u3.heap := T.keep _ _ _ sq2 fun b _ o e => by rw [hh3]; exact Heap.get?_push_of_some _ e
  have J4 := block_start J3 ok hN fg3
  have pg := hg u3 (upd G2 dst (SetSO X.w dst [])) u3.heap.objs.size (cellsFrom (u3.heap.objs.size + 1) blok.names (cloFrom X.env.cells blok.names [])) fr
  have pt := ht u3 (upd G2 dst (SetSO X.w dst [])) u3.heap.objs.size (cellsFrom (u3.heap.objs.size + 1) blok.names (cloFrom X.env.cells blok.names [])) fr
  have pe := he u3 (upd G2 dst (SetSO X.w dst [])) u3.heap.objs.size (cellsFrom (u3.heap.objs.size + 1) blok.names (cloFrom X.env.cells blok.names [])) fr
  show codeAny _ _ (.compStart (.SetComp el [⟨tgt, iter, cds, 0⟩] blok pos) 0 (.ref ita) (.ref dst) (compEnvC blok (cellsFrom (u3.heap.objs.size + 1) blok.names (cloFrom X.env.cells blok.names [])) u3.heap.objs.size X.env)) (compPost (model X.prog X.w) X.A X.xe use Qf (.ref dst) u3.heap.objs.size) { u3 with heap := pushCells (u3.heap.push { cls := .type "dict", data := .dict #[] }) blok.names }
  have nfp : ∀ b ∈ fr, (upd G2 dst (SetSO X.w dst [])) b = none := fun b hb => (fg3 b hb).1.1
  generalize hce : compEnvC blok (cellsFrom (u3.heap.objs.size + 1) blok.names (cloFrom X.env.cells blok.names [])) u3.heap.objs.size X.env = ce at J4 pg pt pe ⊢
  have cL : ce.locals = u3.heap.objs.size := by subst hce; rfl
  generalize hH3 : upd G2 dst (SetSO X.w dst []) = G3 at J3 J4 pg pt pe wk0 nfp fg3
  generalize hs4 : ({ u3 with heap := pushCells (u3.heap.push { cls := .type "dict", data := .dict #[] }) blok.names } : Shared) = u4 at J4 ⊢
  have sq4 : tn 0 u4.heap := T.keep _ _ _ sq3 fun b _ o e => by rw [← hs4]; exact pushCells_keeps _ _ _ _ (Heap.get?_push_of_some _ e)
  have stat : ∀ {σe : L2.St} {He : Hp} {se : Shared}, Inv (X.blk u3 G3 blok ce fr) [] σe He se → (∀ b ∈ fr, He b = none) → ∀ b ∈ fr, FpOk (X.blk u3 G3 blok ce fr) [] He b := fun {σe He se} Ie hn b hb =>
    ⟨hn b hb, (Ie.ok.exf b hb).1, Ie.ok.exfs b hb, .inl hb, fun x c e => (Ie.ok.exf b hb).2 x c e, fun p hp => absurd (show p ∈ ([] : List (Addr × Obj)) ++ [] from hp) (by simp)⟩
  have loop : codeAny (model X.prog X.w) X.A (.compLoop (.SetComp el [⟨tgt, iter, cds, 0⟩] blok pos) 0 (.ref ita) (.ref dst) ce) (compPost (model X.prog X.w) X.A X.xe use Qf (.ref dst) u3.heap.objs.size) u4 := by
    refine PpSet.compLoopS_any (fun n se => ∃ i He, Inv (X.blk u3 G3 blok ce fr) [] (wipe σ (mine.map (·.2))) He se ∧ tn i se.heap ∧ (∀ b ∈ fr, He b = none) ∧ W i n He) ?_ m0 ⟨0, G3, J4, sq4, nfp, wk0⟩
    rintro n u5 ⟨i, G5, J5, sq5, no5, wk5⟩
    rcases turn i n G5 wk5 with ⟨stop, qq⟩ | ⟨go, Nx, hNx, step⟩
    · have td := T.done (X.blk u3 G3 blok ce fr) rfl rfl rfl hc i [] u5 _ G5 (fun _ _ => False) J5 (stat J5 no5) sq5 stop
      refine thnF td fun r u6 ⟨hr, J6⟩ => ?_
      subst hr
      -- back in the def's context
      have J7 : Inv X pn σ G5 u6 := J3.call' (ch := fr) J6.os J6.base J6.hok J6.bare fun b hb => ⟨(fg3 b hb).1.2.2.2.1, (fg3 b hb).1.2.1, (fg3 b hb).1.2.2.2.2.1, (fg3 b hb).1.2.2.2.2.2⟩
      have nC : G5 u3.heap.objs.size = none := by
        have z : G5 ce.locals = none := J6.free
        rw [cL] at z
        exact z
      obtain ⟨m, hn, _⟩ := J6.loc
      have hn : u6.heap.Ns ce.locals m := hn
      rw [cL] at hn
      exact hRR dst u3.heap.objs.size u6 m G5 J7 qq hn (J3.fpOk (Nat.le_refl _) nC)
    · have ti := T.item (X.blk u3 G3 blok ce fr) rfl rfl rfl hc i [] u5 _ G5 (fun _ _ => False) J5 (stat J5 no5) sq5 go
      refine thnF ti fun r u6 ⟨u, hr, hh6⟩ => ?_
      subst hr
      refine thnF hh6 fun _ u7 ⟨x, G7, J7, rl7, yy7, sq7, no7⟩ => ?_
      have J7' := J7.pinned (stat J7 no7) (T.obj _ _ sq7)
      refine thnF (pg.run _ u7 _ G7 x u _ J7' rl7 (step x G7 yy7)) fun _ u8 ⟨τ8, G8, J8, hv8, k8⟩ => ?_
      refine thnF (pt.run _ u8 τ8 G8 _ J8 k8) fun b u9 ⟨G9, J9, k9⟩ => ?_
      -- the turn's end
      have fin : ∀ {se : Shared} {He : Hp}, Inv (X.blk u3 G3 blok ce fr) ([] ++ pinsAt fr u7.heap) τ8 He se → Nx He → ∃ m, m < n ∧ ∃ i He, Inv (X.blk u3 G3 blok ce fr) [] (wipe σ (mine.map (·.2))) He se ∧ tn i se.heap ∧ (∀ b ∈ fr, He b = none) ∧ W i m He := fun {se He} Ie nx => by
        obtain ⟨me, hm, w'⟩ := hNx He nx
        have pin' : ∀ b ∈ fr, ∀ o, u7.heap.get? b = some o → se.heap.get? b = some o ∧ He b = none := fun b hb o e =>
          let z := Ie.pin (b, o) (List.mem_append_right _ (List.mem_append_right _ (mem_pinsAt hb e)))
          ⟨z.1, z.2.1⟩
        have hl : (wipe σ (mine.map (·.2))).length = τ8.length := by rw [← hv8, wipe_length]
        refine ⟨me, hm, i + 1, He, (Ie.unpinned (pins := [])).weak hl (fun j v e => ?_), T.keep _ _ _ sq7 fun b hb o e => (pin' b hb o e).1, fun b hb => ?_, w'⟩
        · rw [← hv8] at e
          exact (wipe_some e).1
        · obtain ⟨o, e, _⟩ := T.obj _ _ sq7 b hb
          exact (pin' b hb o e).2
      cases b with
      | false =>
        simp only [Bool.false_eq_true, if_false] at k9 ⊢
        exact fin J9 k9
      | true =>
        simp only [if_true] at k9 ⊢
        refine thnF (pe.run _ u9 τ8 G9 _ J9 k9) fun z u10 ⟨yv, G10, J10, rl10, cb, L0, ey, hD10, hz10, nx⟩ => ?_
        subst ey
        obtain ⟨tk, rfl⟩ := (show ∃ tk, z = Value.str cb tk from rl10)
        exact addS_ok (X := X.blk u3 G3 blok ce fr) J10 hD10 hz10 fun u11 Ly hg J11 => fin J11 (nx Ly hg)
  exact PpSet.codeAny_compStart_set loop (T.self X.A 0 _ _ _ sq4 loop)
/-- as a value -/
theorem pe_scS {el tgt iter : Expr} {cds : List Expr} {blok : Scope} {mine : List (Str × Nat)} {pos : Pos} {wi : TI} {g : TG} {tt : TT} {te : TE} (hc : X.calm = true) (hN : X.N.Nodup) (hi : PI X tgt iter wi) (ok : BlkOk X.N X.env.scope blok mine)
    (hg : ∀ (s : Shared) (H : Hp) (cad : Addr) (cels : List (Str × Addr)) (fr : List Addr), PG (X.blk s H blok (compEnvC blok cels cad X.env) fr) tgt g) (ht : ∀ (s : Shared) (H : Hp) (cad : Addr) (cels : List (Str × Addr)) (fr : List Addr), PTs (X.blk s H blok (compEnvC blok cels cad X.env) fr) cds tt)
    (he : ∀ (s : Shared) (H : Hp) (cad : Addr) (cels : List (Str × Addr)) (fr : List Addr), PE (X.blk s H blok (compEnvC blok cels cad X.env) fr) el te) (hs : ∀ x, foldedSetIterable iter X.env x = pure x := by intro _; rfl) :
    PE X (.SetComp el [⟨tgt, iter, cds, 0⟩] blok pos) (tScS X.w wi g tt te (mine.map (·.2))) := by
  refine ⟨fun pn s σ H Q I h => ?_⟩
  rw [PpSet.eval_SetComp]
  refine scS_core hc hN I hi ok hg ht he hs h fun dst cad se m He Ie q hn f => ⟨m, hn, fun h'' sb => ?_⟩
  obtain ⟨fg0, fg1, fg2, fg3, fg4, fg5⟩ := f
  exact ⟨.ref dst, He, Ie.turned (t' := se.toks) (fun b o hb e => (sb.2 b hb).trans e) fg0 fg1 fg3 fg4 fg5, rfl, q⟩
def rSortedSO (w : World) : List V → Hp → VK → Prop := fun vs H Q => ∃ (a : Addr) (L : List Str), vs = [.ref a] ∧ H a = some (SetSO w a L) ∧ L.length < 64 ∧
  ∀ (ys : List Str) (p : Addr), ys.Perm L → sortedS ys = true → H p = none → Q (.ref p) (upd H p (.lst (ys.map V.str)))
theorem cr_sortedSO (hc : X.calm = true) : CallR X (.builtin "sorted") (rSortedSO X.w) := by
  intro pins s σ H vs us Q I r h
  obtain ⟨a, L, rfl, ha, h64, q⟩ := h
  have R : SetS X.w s.heap a L := (I.hok a _ ha).1
  rw [Vals.ref1 r]
  exact sorted_untracked I hc R h64 q
end
section
variable {w : World} {K : PySem.W.Frag} {σ : L2.St} {H : Hp} {te tl : TE}
/-- sorted({x for x in xs}) of a tuple of texts -/
theorem el_sortComp {l : List W} {a : Addr} {j : Nat} {vs : List Nat} (h : Ev tl σ H (.ref a)) (hx : SqT K H a (Ss l)) (hl : l.length < 64) (hw : ∀ x, wipe ((wipe σ vs).set j (some x)) vs = wipe σ vs)
    (he : ∀ x H1, Ev te ((wipe σ vs).set j (some (S x))) H1 (S x)) : EvL (tCB (rSortedSO w) (tCons (tScS w (iTup K tl) (gName j) tYes te vs) tNil)) σ H (Ss (setOf l)) := fun H0 e Q q => h H0 e _ fun H1 e1 => by
  have hx1 : SqT K H1 a (Ss l) := ex_t (e.trans e1) hx
  refine ⟨a, rfl, ⟨Ss l, hx1⟩, fun D hD => ?_⟩
  let A : Nat → Hp → Prop := fun i H' => Ex H1 H' ∧ ∃ L : List Str, H' D = some (SetSO w D L) ∧ L.Nodup ∧ L.length ≤ i ∧ ∀ z, z ∈ L ↔ z ∈ (l.take i).map ST
  refine ⟨fun i m H' => m = l.length - i ∧ i ≤ l.length ∧ A i H', ⟨l.length, by simp, Nat.zero_le _, Ex.new hD, [], upd_same, List.nodup_nil, Nat.le_refl _, fun z => by simp⟩, fun i m H' ⟨hm, hi, hA⟩ => ?_⟩
  have hsx : SqT K H' a (Ss l) := ex_t hA.1 hx1
  by_cases hlt : i < l.length
  · refine .inr ⟨⟨Ss l, (Ss l)[i]'(by rw [List.length_map]; exact hlt), hsx, by simp [hlt]⟩, fun H2 => A (i + 1) H2, fun H2 h2 => ⟨l.length - (i + 1), by omega, rfl, by omega, h2⟩, fun x H2 hy => ?_⟩
    obtain ⟨rfl, hy⟩ := hy
    obtain ⟨c, hc, rfl⟩ := pAt_S2 (hy _ hsx)
    refine ⟨hw _, (et_yes (σ := (wipe σ vs).set j (some (S c))) (H := H2)) H2 (Ex.refl H2) _ fun H3 e3 => iteT ?_⟩
    obtain ⟨a1, L, a2, a3, a4, a5⟩ := hA
    refine he c H3 H3 (Ex.refl H3) _ fun H4 e4 => ⟨ST c, L, rfl, e4 _ _ (e3 _ _ a2), Nat.lt_of_le_of_lt (Nat.succ_le_of_lt (show L.length < 64 by omega)) (by decide), fun Ly hg => ⟨Ex.mut ((a1.trans e3).trans e4) hD, Ly, upd_same, ?_, ?_, fun z => ?_⟩⟩
    · by_cases hm : ST c ∈ L
      · rw [hg.1 hm]
        exact a3
      · exact (hg.2 hm).nodup_iff.mpr (List.nodup_cons.mpr ⟨hm, a3⟩)
    · by_cases hm : ST c ∈ L
      · rw [hg.1 hm]
        omega
      · rw [(hg.2 hm).length_eq, List.length_cons]
        omega
    · rw [take_snoc' hc, List.map_append, List.mem_append, ← a5]
      show z ∈ Ly ↔ z ∈ L ∨ z ∈ [ST c]
      rw [List.mem_singleton]
      by_cases hm : ST c ∈ L
      · rw [hg.1 hm]
        exact ⟨.inl, fun h => h.elim id fun h => by rw [h]; exact hm⟩
      · rw [(hg.2 hm).mem_iff, List.mem_cons]
        exact Or.comm
  · have ei : i = l.length := by omega
    subst ei
    obtain ⟨a1, L, a2, a3, a4, a5⟩ := hA
    refine .inl ⟨⟨Ss l, hsx, by rw [List.length_map]; exact Nat.le_refl _⟩, D, L, rfl, a2, by omega, fun ys p pm hs hp => ?_⟩
    have nd : ys.Nodup := pm.nodup_iff.mpr a3
    have ey : ys.map V.str = Ss (setOf l) := by
      have e1 : ys.map TL.tl = setOf l := asc_ext (up_asc (sorted_up hs) (by
        rw [List.nodup_iff_pairwise_ne] at nd ⊢
        rw [List.pairwise_map]
        exact nd.imp fun h z => h (TL.ext_tl z))) (asc_setOf l) fun x => by
        have a6 : ∀ z, z ∈ ys ↔ z ∈ l.map ST := fun z => by
          rw [pm.mem_iff, a5, List.take_length]
        rw [mem_setOf]
        constructor
        · intro hx
          obtain ⟨y, hy, rfl⟩ := List.mem_map.mp hx
          obtain ⟨z, hz, e⟩ := List.mem_map.mp ((a6 y).mp hy)
          rw [← e]
          exact hz
        · intro hx
          exact List.mem_map.mpr ⟨ST x, (a6 _).mpr (List.mem_map.mpr ⟨x, hx, rfl⟩), rfl⟩
      rw [← e1, ← Ss_map, strs_codes]
    rw [ey]
    exact q p _ (fresh_back (e1.trans a1) hp) ((e1.trans a1).trans (Ex.new hp)) upd_same
end
end Mir
/-! part W1 -/
set_option Elab.async false
set_option linter.all false
set_option maxRecDepth 100000
set_option maxHeartbeats 4000000
/-! The walk: texts. -/
namespace Mir
open PySem PySem.Spec PyProof.Rows L2 Evl
abbrev Sz (n : Nat) (a : W) : Prop := a.length ≤ n
abbrev Sz2 (n : Nat) (a b : W) : Prop := a.length ≤ n ∧ b.length ≤ n
abbrev sp_back : Sp := spS1 (Sz 200000) fun a => S a.reverse
abbrev sp_shared : Sp := spS2 (Sz2 200000) fun a b => .int ((shr a b : Nat) : Int)
abbrev sp_joined : Sp := spS2 (Sz2 200000) fun a b => S (jn a b)
def pth (a b : W) : W := (a.drop (shr a b)).reverse ++ b.drop (shr a b)
abbrev sp_path : Sp := spS2 (Sz2 200000) fun a b => S (pth a b)
abbrev sp_begins : Sp := spS2 (Sz2 200000) fun a b => .bl (a.isPrefixOf b)
abbrev sp_palindrome : Sp := spS1 (Sz 100000) fun a => S (pal a)
abbrev sp_turned : Sp := spS2 (Sz2 100000) fun a b => S (trn a b)
section
variable {P : Program} {w : World} {K : PySem.W.Frag} {mg : Str → Option Value} {base : Heap}
theorem sc_back : FnScope ["row"] ["row"] (defScope (top 17)) := ⟨rfl, rfl, rfl, by decide +kernel, rfl, by decide +kernel, by decide +kernel⟩
theorem ok_back (B : Bu mg) (T : Cst K mg)  (D : Dn K mg "back" 17) : Ok P w K mg base CX0 1 "back" sp_back := by
  refine D.ok sc_back (fun _ _ _ _ _ _ us hl => match us, hl with | [_], _ => rfl) (len1 rfl) fun f cdv A outer s H vs Q E hr h => ⟨_, (pss_one (ps_ret (pe_revS (pv 0)))), ?_⟩
  obtain ⟨a, rfl, ha, q⟩ := h
  exact s_ret (ev_rev (ev_var rfl) (Nat.le_trans ha (by decide))) q
theorem shr_stop {a b : W} {k : Nat} (h : a.take k = b.take k) (hk : k ≤ a.length ∧ k ≤ b.length) (hs : k < a.length → k < b.length → a[k]? ≠ b[k]?) : shr a b = k := by
  have h1 : k ≤ shr a b := (shr_spec a b k).mpr ⟨hk.1, hk.2, h⟩
  by_cases h2 : k < shr a b
  · obtain ⟨h3, h4, h5⟩ := (shr_spec a b (k + 1)).mp h2
    refine absurd ?_ (hs h3 h4)
    have e := congrArg (fun l => l[k]?) h5
    simpa using e
  · omega
theorem shr_go {a b : W} {k : Nat} (h : a.take k = b.take k) (h1 : a[k]? = b[k]?) : a.take (k + 1) = b.take (k + 1) := by
  rw [List.take_add_one, List.take_add_one, h, h1]
theorem sc_shared : FnScope ["one", "other", "many", "end"] ["one", "other"] (defScope (top 18)) := ⟨rfl, rfl, rfl, by decide +kernel, rfl, by decide +kernel, by decide +kernel⟩
theorem ok_shared (B : Bu mg) (T : Cst K mg)  (D : Dn K mg "shared" 18) : Ok P w K mg base CX0 1 "shared" sp_shared := by
  refine D.ok sc_shared (fun _ _ _ _ _ _ us hl => match us, hl with | [_, _], _ => rfl) (len2 rfl) fun f cdv A outer s H vs Q E hr h => ⟨_, (pss_cons (ps_set (i := 2) sc_shared.nd rfl (.inl rfl) pe_int)
    (pss_cons (ps_set (i := 3) sc_shared.nd rfl (.inl rfl) (pe_callB (call_min2 rfl) (by rfl) B.min (by decide +kernel) (pa_cons (pe_callB call_len_str (by rfl) B.len PySem.boot_len (pa_cons (pv 0) pa_nil)) (pa_cons (pe_callB call_len_str (by rfl) B.len PySem.boot_len (pa_cons (pv 1) pa_nil)) pa_nil))))
    (pss_cons (ps_while PassesOwn.never (PW.pt (pw_and (pt_cmpR op_lt (pv 2) (pv 3) (nomark _)) (pw_and1 (pt_cmpR op_eq (pe_ix ix_str (pv 0) (pv 2) (fun _ _ => rfl)) (pe_ix ix_str (pv 1) (pv 2) (fun _ _ => rfl)) (nomark _)))))
      (pss_one (ps_aug (i := 2) sc_shared.nd rfl (.inl rfl) pe_int ip_add)))
    (pss_one (ps_ret (pv 2)))))), ?_⟩
  obtain ⟨a, b, rfl, ⟨ha, hb⟩, q⟩ := h
  refine q_asg ev_c fun H1 e1 => q_asg (ev_min2 (ev_lenS (ev_var rfl) (by omega)) (ev_lenS (ev_var rfl) (by omega))) fun H2 e2 => ?_
  refine q_while (fun m σ H' => ∃ k : Nat, σ = [some (S a), some (S b), some (.int (k : Int)), some (.int ((min a.length b.length : Nat) : Int))] ∧ k + m = min a.length b.length ∧ a.take k = b.take k ∧ Ex H H') (min a.length b.length) ⟨0, rfl, Nat.zero_add _, rfl, e1.trans e2⟩ fun m σ H' ⟨k, hσ, hk, ht, e⟩ => ?_
  subst hσ
  by_cases hlt : k < min a.length b.length
  · have h1 : k < a.length := by omega
    have h2 : k < b.length := by omega
    refine ⟨_, et_and (et_test (ev_ltI (ev_var rfl) (ev_var rfl))) fun _ => et_test (ev_eqS (a := [a[k]]) (b := [b[k]]) (ev_ixS (a := a) (ev_var rfl) (ev_var rfl) ?_ (by omega)) (ev_ixS (a := b) (ev_var rfl) (ev_var rfl) ?_ (by omega))), fun hb1 H3 e3 => ?_, fun hb1 H3 e3 => ?_⟩
    · simp
    · simp
    · simp only [Bool.and_eq_true, decide_eq_true_eq, List.cons.injEq, and_true] at hb1
      refine ⟨fun σ H' => ∃ k' : Nat, σ = [some (S a), some (S b), some (.int (k' : Int)), some (.int ((min a.length b.length : Nat) : Int))] ∧ k' = k + 1 ∧ Ex H H', fun σ2 H4 ⟨k', g1, g2, g3⟩ => ⟨m - 1, by omega, k', g1, by omega, ?_, g3⟩, ?_⟩
      · rw [g2]
        exact shr_go ht (by rw [List.getElem?_eq_getElem h1, List.getElem?_eq_getElem h2, hb1.2])
      · exact s_aug (a := (k : Int)) (b := 1) rfl ev_c fun H4 e4 => ⟨k + 1, rfl, rfl, (e.trans e3).trans e4⟩
    · have hs : shr a b = k := shr_stop ht ⟨by omega, by omega⟩ fun _ _ z => by
        rw [List.getElem?_eq_getElem h1, List.getElem?_eq_getElem h2] at z
        have z' := Option.some.inj z
        simp [z', hlt] at hb1
      refine s_ret (ev_var rfl) fun H4 e4 => ?_
      have : Q (.int ((shr a b : Nat) : Int)) H4 := q H4 ((e.trans e3).trans e4)
      rw [hs] at this
      exact this
  · refine ⟨false, ?_, (fun z => nomatch z), fun _ H3 e3 => ?_⟩
    · refine et_is (b := false) (et_and (b := false) (et_test (ev_ltI (ev_var rfl) (ev_var rfl))) fun z => ?_) ?_
      · exfalso
        have := of_decide_eq_true z
        omega
      · simp
    · have hs : shr a b = k := shr_stop ht ⟨by omega, by omega⟩ fun _ _ => by omega
      refine s_ret (ev_var rfl) fun H4 e4 => ?_
      have : Q (.int ((shr a b : Nat) : Int)) H4 := q H4 ((e.trans e3).trans e4)
      rw [hs] at this
      exact this
theorem sc_joined : FnScope ["one", "other", "many"] ["one", "other"] (defScope (top 19)) := ⟨rfl, rfl, rfl, by decide +kernel, rfl, by decide +kernel, by decide +kernel⟩
theorem ok_joined (B : Bu mg) (T : Cst K mg) (O_back : Ok P w K mg base CX0 1 "back" sp_back) (O_shared : Ok P w K mg base CX0 1 "shared" sp_shared) (D : Dn K mg "joined" 19) : Ok P w K mg base CX0 2 "joined" sp_joined := by
  refine D.ok sc_joined (fun _ _ _ _ _ _ us hl => match us, hl with | [_, _], _ => rfl) (len2 rfl) fun f cdv A outer s H vs Q E hr h => ⟨_, (pss_cons (ps_set (i := 2) sc_joined.nd rfl (.inl rfl) (pe_ok O_shared hr rfl pass0 (pa_cons (pe_ok O_back hr rfl pass0 (pa_cons (pv 0) pa_nil)) (pa_cons (pv 1) pa_nil))))
    (pss_one (ps_ret (pe_op op_add_str (pe_slice sl_str (pv 0) po_none (po_some (pe_op op_sub (pe_callB call_len_str (by rfl) B.len PySem.boot_len (pa_cons (pv 0) pa_nil)) (pv 2)))) (pe_slice sl_str (pv 1) (po_some (pv 2)) po_none))))), ?_⟩
  obtain ⟨a, b, rfl, ⟨ha, hb⟩, q⟩ := h
  refine q_asg (ev_s2 (ev_s1 (ev_var rfl) ha) (ev_var rfl) ⟨by rw [List.length_reverse]; exact ha, hb⟩) fun H1 e1 => ?_
  have h1 : shr a.reverse b ≤ a.length := by
    have := shr_le_left a.reverse b
    rwa [List.length_reverse] at this
  refine s_ret (v := S (jn a b)) (ev_addS (ev_to (ev_var rfl) (ev_is (ev_subI (ev_lenS (ev_var rfl) (by omega)) (ev_var rfl)) ?_) (by omega)) (ev_from (ev_var rfl) (ev_var rfl) (by omega)) ?_) fun H2 e2 => q H2 (e1.trans e2)
  · rw [Int.ofNat_sub h1]
  · rw [List.length_take, List.length_drop]
    omega
theorem sc_path : FnScope ["one", "other", "many"] ["one", "other"] (defScope (top 20)) := ⟨rfl, rfl, rfl, by decide +kernel, rfl, by decide +kernel, by decide +kernel⟩
theorem ok_path (B : Bu mg) (T : Cst K mg) (O_back : Ok P w K mg base CX0 1 "back" sp_back) (O_shared : Ok P w K mg base CX0 1 "shared" sp_shared) (D : Dn K mg "path" 20) : Ok P w K mg base CX0 2 "path" sp_path := by
  refine D.ok sc_path (fun _ _ _ _ _ _ us hl => match us, hl with | [_, _], _ => rfl) (len2 rfl) fun f cdv A outer s H vs Q E hr h => ⟨_, (pss_cons (ps_set (i := 2) sc_path.nd rfl (.inl rfl) (pe_ok O_shared hr rfl pass0 (pa_cons (pv 0) (pa_cons (pv 1) pa_nil))))
    (pss_one (ps_ret (pe_op op_add_str (pe_ok O_back hr rfl pass0 (pa_cons (pe_slice sl_str (pv 0) (po_some (pv 2)) po_none) pa_nil)) (pe_slice sl_str (pv 1) (po_some (pv 2)) po_none))))), ?_⟩
  obtain ⟨a, b, rfl, ⟨ha, hb⟩, q⟩ := h
  refine q_asg (ev_s2 (ev_var rfl) (ev_var rfl) ⟨ha, hb⟩) fun H1 e1 => ?_
  refine s_ret (v := S (pth a b)) (ev_addS (ev_s1 (ev_from (ev_var rfl) (ev_var rfl) (by omega)) ?_) (ev_from (ev_var rfl) (ev_var rfl) (by omega)) ?_) fun H2 e2 => q H2 (e1.trans e2)
  · show (a.drop _).length ≤ _
    rw [List.length_drop]
    omega
  · rw [List.length_reverse, List.length_drop, List.length_drop]
    omega
theorem begins_eq (a b : W) : decide (b.take a.length = a) = a.isPrefixOf b := by
  rw [Bool.eq_iff_iff, decide_eq_true_eq, List.isPrefixOf_iff_prefix, List.prefix_iff_eq_take]
  exact ⟨fun h => h.symm, fun h => h.symm⟩
theorem sc_begins : FnScope ["one", "other"] ["one", "other"] (defScope (top 22)) := ⟨rfl, rfl, rfl, by decide +kernel, rfl, by decide +kernel, by decide +kernel⟩
theorem ok_begins (B : Bu mg) (T : Cst K mg)  (D : Dn K mg "begins" 22) : Ok P w K mg base CX0 1 "begins" sp_begins := by
  refine D.ok sc_begins (fun _ _ _ _ _ _ us hl => match us, hl with | [_, _], _ => rfl) (len2 rfl) fun f cdv A outer s H vs Q E hr h => ⟨_, (pss_one (ps_ret (pe_cmpR op_eq (pe_slice sl_str (pv 1) po_none (po_some (pe_callB call_len_str (by rfl) B.len PySem.boot_len (pa_cons (pv 0) pa_nil)))) (pv 0) (nomark _)))), ?_⟩
  obtain ⟨a, b, rfl, ⟨ha, hb⟩, q⟩ := h
  refine s_ret (ev_is (ev_eqS (ev_to (ev_var rfl) (ev_lenS (ev_var rfl) (by omega)) (by omega)) (ev_var rfl)) ?_) q
  rw [begins_eq]
theorem sc_palindrome : FnScope ["way"] ["way"] (defScope (top 24)) := ⟨rfl, rfl, rfl, by decide +kernel, rfl, by decide +kernel, by decide +kernel⟩
theorem ok_palindrome (B : Bu mg) (T : Cst K mg) (O_back : Ok P w K mg base CX0 1 "back" sp_back) (D : Dn K mg "palindrome" 24) : Ok P w K mg base CX0 2 "palindrome" sp_palindrome := by
  refine D.ok sc_palindrome (fun _ _ _ _ _ _ us hl => match us, hl with | [_], _ => rfl) (len1 rfl) fun f cdv A outer s H vs Q E hr h => ⟨_, (pss_one (ps_ret (pe_op op_add_str (pv 0) (pe_ok O_back hr rfl pass0 (pa_cons (pe_slice sl_str (pv 0) po_none (po_some (pe_un un_neg pe_int))) pa_nil))))), ?_⟩
  obtain ⟨a, rfl, ha, q⟩ := h
  have ha' : a.length ≤ 100000 := ha
  refine s_ret (v := S (pal a)) (ev_addS (ev_var rfl) (ev_s1 (ev_init (ev_var rfl) (ev_neg ev_c) (by omega)) ?_) ?_) q
  · show a.dropLast.length ≤ _
    rw [List.length_dropLast]
    omega
  · rw [List.length_reverse, List.length_dropLast]
    omega
theorem sc_turned : FnScope ["way", "room"] ["way", "room"] (defScope (top 25)) := ⟨rfl, rfl, rfl, by decide +kernel, rfl, by decide +kernel, by decide +kernel⟩
theorem ok_turned (B : Bu mg) (T : Cst K mg) (O_joined : Ok P w K mg base CX0 2 "joined" sp_joined) (O_palindrome : Ok P w K mg base CX0 2 "palindrome" sp_palindrome) (D : Dn K mg "turned" 25) : Ok P w K mg base CX0 3 "turned" sp_turned := by
  refine D.ok sc_turned (fun _ _ _ _ _ _ us hl => match us, hl with | [_, _], _ => rfl) (len2 rfl) fun f cdv A outer s H vs Q E hr h => ⟨_, (pss_one (ps_ret (pe_ok O_joined hr rfl pass0 (pa_cons (pe_ok O_palindrome hr rfl pass0 (pa_cons (pv 0) pa_nil)) (pa_cons (pv 1) pa_nil))))), ?_⟩
  obtain ⟨a, b, rfl, ⟨ha, hb⟩, q⟩ := h
  refine s_ret (v := S (trn a b)) (ev_s2 (ev_s1 (ev_var rfl) ha) (ev_var rfl) ⟨?_, by omega⟩) q
  rw [pal_len]
  omega
end
end Mir
/-! part K2 -/
set_option Elab.async false
set_option linter.all false
set_option maxRecDepth 100000
set_option maxHeartbeats 4000000
/-! More of what expressions evaluate to. -/
namespace Mir
open PySem PySem.Spec PyProof.Rows L2 Evl
section
variable {K : PySem.W.Frag} {σ : L2.St} {H H' : Hp} {ta tb te tl : TE} {t u : TT} {x y z v : V}
/-- a tuple, new or old -/
def EvQ (K : PySem.W.Frag) (te : TE) (σ : L2.St) (H : Hp) (xs : List V) : Prop := ∀ H1, Ex H H1 → ∀ Q : VK, (∀ p H2, Ex H1 H2 → SqT K H2 p xs → Q (.ref p) H2) → te σ H1 Q
theorem EvQ.mono {xs : List V} (e : Ex H H') (h : EvQ K te σ H xs) : EvQ K te σ H' xs := fun H1 a Q q => h H1 (e.trans a) Q q
theorem eq_u {xs : List V} (h : EvU te σ H xs) : EvQ K te σ H xs := fun H1 e Q q => h H1 e _ fun p H2 _ e2 hx => q p H2 e2 (st_of hx)
theorem eq_v {xs : List V} {p : Addr} (h : Ev te σ H (.ref p)) (hx : SqT K H p xs) : EvQ K te σ H xs := fun H1 e Q q => h H1 e _ fun H2 e2 => q p H2 e2 (ex_t (e.trans e2) hx)
theorem cutV_from (xs : List V) (k : Nat) : cutV xs (some (k : Int)) none = xs.drop k := by
  unfold cutV
  rw [HT.sIx_none, HT.sIx_nat]
  by_cases h : k ≤ xs.length
  · rw [Nat.min_eq_left h, ← List.length_drop, List.take_length]
  · rw [Nat.min_eq_right (by omega), List.drop_length, List.take_nil, List.drop_eq_nil_of_le (by omega)]
theorem cutV_to (xs : List V) (k : Nat) : cutV xs none (some (k : Int)) = xs.take k := by
  unfold cutV
  rw [HT.sIx_none, HT.sIx_nat, List.drop_zero, Nat.sub_zero]
  by_cases h : k ≤ xs.length
  · rw [Nat.min_eq_left h]
  · rw [Nat.min_eq_right (by omega), List.take_length, List.take_of_length_le (by omega)]
/-- t[1:] -/
theorem eq_tail {xs : List V} {p : Addr} (h : Ev te σ H (.ref p)) (hx : SqT K H p xs) : EvQ K (tSl (rSlA K) te (tPart (tC (.int 1))) tNoPart) σ H (xs.drop 1) := fun H1 e Q q => h H1 e _ fun H2 e2 =>
  ⟨1, rfl, p, xs, rfl, ex_t (e.trans e2) hx, fun hw => by
    have h0 : xs.length = 0 := by
      have := hw.1
      rw [show ((1 : Int)) = ((1 : Nat) : Int) from rfl, HT.sIx_nat] at this
      omega
    have hx0 : xs = [] := List.length_eq_zero_iff.mp h0
    subst hx0
    exact q p H2 e2 (ex_t (e.trans e2) hx), fun _ l hl => q l _ (e2.trans (Ex.new hl)) (by
    rw [← cutV_from]
    exact st_of upd_same)⟩
theorem el_from {xs : List V} {p : Addr} {k : Nat} (h : Ev te σ H (.ref p)) (hx : SqL K H p xs) (hk : Ev ta σ H (.int (k : Int))) : EvL (tSl (rSlL K) te (tPart ta) tNoPart) σ H (xs.drop k) := by
  rw [← cutV_from]
  exact el_sl h (eo_some hk) eo_none hx
theorem el_slN {tl th : TO} {xs : List V} {lo hi : Option Int} (h : EvL te σ H xs) (h1 : ∀ H1, Ex H H1 → EvO tl σ H1 lo) (h2 : ∀ H1, Ex H H1 → EvO th σ H1 hi) : EvL (tSl (rSlL K) te tl th) σ H (cutV xs lo hi) := fun H1 e Q q =>
  h H1 e _ fun p H2 hp e2 hx => h1 H2 (e.trans e2) H2 (Ex.refl H2) _ fun H3 e3 => h2 H3 ((e.trans e2).trans e3) H3 (Ex.refl H3) _ fun H4 e4 =>
    ⟨p, xs, rfl, sq_of (e4 p _ (e3 p _ hx)), fun l hl => q l _ (fresh_back ((e2.trans e3).trans e4) hl) (((e2.trans e3).trans e4).trans (Ex.new hl)) upd_same⟩
theorem el_cat {a : Addr} {xs ys : List V} (h : Ev ta σ H (.ref a)) (hx : H a = some (.lst xs)) (h2 : EvL tb σ H ys) (hz : xs.length + ys.length ≤ 1000000) : EvL (tOp rCat ta tb) σ H (xs ++ ys) := fun H1 e Q q =>
  h H1 e _ fun H2 e2 => h2 H2 (e.trans e2) _ fun p H3 hp e3 hy => ⟨a, p, xs, ys, rfl, rfl, e3 a _ (e2 a _ (e a _ hx)), hy, big hz, fun l hl => q l _ (fresh_back (e2.trans e3) hl) ((e2.trans e3).trans (Ex.new hl)) upd_same⟩
theorem el_catV {a b : Addr} {xs ys : List V} (h : Ev ta σ H (.ref a)) (hx : H a = some (.lst xs)) (h2 : Ev tb σ H (.ref b)) (hy : H b = some (.lst ys)) (hz : xs.length + ys.length ≤ 1000000) : EvL (tOp rCat ta tb) σ H (xs ++ ys) := fun H1 e Q q =>
  h H1 e _ fun H2 e2 => h2 H2 (e.trans e2) _ fun H3 e3 => ⟨a, b, xs, ys, rfl, rfl, e3 a _ (e2 a _ (e a _ hx)), e3 b _ (e2 b _ (e b _ hy)), big hz, fun l hl => q l _ (fresh_back (e2.trans e3) hl) ((e2.trans e3).trans (Ex.new hl)) upd_same⟩
theorem el_catN {xs ys : List V} (h : EvL ta σ H xs) (h2 : EvL tb σ H ys) (hz : xs.length + ys.length ≤ 1000000) : EvL (tOp rCat ta tb) σ H (xs ++ ys) := fun H1 e Q q =>
  h H1 e _ fun a H2 ha e2 hx => h2 H2 (e.trans e2) _ fun p H3 hp e3 hy => ⟨a, p, xs, ys, rfl, rfl, e3 a _ hx, hy, big hz, fun l hl => q l _ (fresh_back (e2.trans e3) hl) ((e2.trans e3).trans (Ex.new hl)) upd_same⟩
theorem el_catNV {b : Addr} {xs ys : List V} (h : EvL ta σ H xs) (h2 : Ev tb σ H (.ref b)) (hy : H b = some (.lst ys)) (hz : xs.length + ys.length ≤ 1000000) : EvL (tOp rCat ta tb) σ H (xs ++ ys) := fun H1 e Q q =>
  h H1 e _ fun a H2 ha e2 hx => h2 H2 (e.trans e2) _ fun H3 e3 => ⟨a, b, xs, ys, rfl, rfl, e3 a _ hx, e3 b _ (e2 b _ (e b _ hy)), big hz, fun l hl => q l _ (fresh_back (e2.trans e3) hl) ((e2.trans e3).trans (Ex.new hl)) upd_same⟩
theorem walk_zipT {a b : Addr} {xs ys : List V} {n : Nat} (hn : n = min xs.length ys.length) : Walk (RZ.ItzT K a b) n (fun H => SqT K H a xs ∧ SqT K H b ys) (YPair (fun i => xs[i]?) (fun i => ys[i]?)) := by
  subst hn
  refine ⟨fun i _ hi q => ⟨xs, ys, xs[i]'(by omega), ys[i]'(by omega), q.1, q.2, by simp, by simp⟩, fun _ q => ⟨xs, ys, q.1, q.2, by omega⟩, fun i H v H' _ q y => ?_⟩
  obtain ⟨T, x, z, g1, g2, g3, g4, g5⟩ := y
  exact ⟨T, x, z, g1, g2, g3, g4 xs q.1, g5 ys q.2⟩
theorem ei_zipQ {xs ys : List V} (h : EvQ K ta σ H xs) (h2 : EvQ K tb σ H ys) : EvI (RZ.iZipA K (tCons ta (tCons tb tNil))) σ H (min xs.length ys.length) (PTwo (fun i => xs[i]?) fun i => ys[i]?) := fun H1 e R q => h H1 e _ fun a H2 e2 hx =>
  h2 H2 (e.trans e2) _ fun b H3 e3 hy => ⟨a, b, xs, ys, rfl, .inr ⟨ex_t e3 hx, hy, q _ H3 (e2.trans e3) ⟨_, _, walk_zipT rfl, fun H4 e4 => ⟨ex_t (e3.trans e4) hx, ex_t e4 hy⟩, fun i H1 v H2 _ => yPair i H1 v H2⟩⟩⟩
theorem ei_zipL {a b : Addr} {xs ys : List V} (h : Ev ta σ H (.ref a)) (hx : SqL K H a xs) (h2 : Ev tb σ H (.ref b)) (hy : SqL K H b ys) : EvI (RZ.iZipA K (tCons ta (tCons tb tNil))) σ H (min xs.length ys.length) (PTwo (fun i => xs[i]?) fun i => ys[i]?) := fun H1 e R q => h H1 e _ fun H2 e2 =>
  h2 H2 (e.trans e2) _ fun H3 e3 => ⟨a, b, xs, ys, rfl, .inl ⟨ex_l ((e.trans e2).trans e3) hx, ex_l ((e.trans e2).trans e3) hy, q _ H3 (e2.trans e3) ⟨_, _, walk_zip rfl, fun H4 e4 => ⟨ex_l (((e.trans e2).trans e3).trans e4) hx, ex_l (((e.trans e2).trans e3).trans e4) hy⟩, fun i H1 v H2 _ => yPair i H1 v H2⟩⟩⟩
/-- max([a, b], key=len): the first of the longest -/
theorem ev_max2S {a b : W} (h : EvL te σ H [S a, S b]) (ha : a.length ≤ 1000000) (hb : b.length ≤ 1000000) : Ev (tMaxLen K te) σ H (S (if a.length < b.length then b else a)) := fun H1 e Q q => h H1 e _ fun p H2 _ e2 hx =>
  ⟨p, [S a, S b], fun i => if i = 0 then a.length else b.length, rfl, sq_of hx, Nat.succ_pos _, fun i y hy => by
    match i, hy with
    | 0, hy =>
      cases hy
      exact ⟨by rw [ST_len]; exact big ha, by rw [ST_len]; rfl⟩
    | 1, hy =>
      cases hy
      exact ⟨by rw [ST_len]; exact big hb, by rw [ST_len]; rfl⟩
    | i + 2, hy => exact absurd hy (by simp), fun i y hy hm => by
    have e3 : y = S (if a.length < b.length then b else a) := by
      match i, hy with
      | 0, hy =>
        cases hy
        have := (hm 1 (Nat.le_refl 2)).1
        rw [if_neg (by simpa using this)]
      | 1, hy =>
        cases hy
        have := (hm 0 (Nat.succ_pos 1)).2 (by decide)
        rw [if_pos (by simpa using this)]
      | i + 2, hy => exact absurd hy (by simp)
    rw [e3]
    exact q H2 e2⟩
/-- tuple of texts as arguments: a new pair into two names -/
theorem q_two {i j : Nat} {a b : V} {tz : TS} {D : Ends} (h : EvU te σ H [a, b]) (k : ∀ H1, Ex H H1 → tz D ((σ.set i (some a)).set j (some b)) H1) : tSeq (tAsg te (gTup K 2 (gCons (gName i) (gCons (gName j) gNil)))) tz D σ H :=
  h H (Ex.refl H) _ fun p H1 _ e hx => ⟨p, [a, b], rfl, st_of hx, rfl, a, [b], rfl, b, [], rfl, rfl, k H1 e⟩
theorem el_sortSet {l : List W} {a : Addr} (h : Ev te σ H (.ref a)) (hx : SqL K H a (Ss l) ∨ SqT K H a (Ss l)) (hl : l.length < 64) : EvL (tSortSet K te) σ H (Ss (setOf l)) := fun H1 e Q q => h H1 e _ fun H2 e2 =>
  ⟨a, l.map ST, rfl, by rw [Ss_map]; exact hx.imp (ex_l (e.trans e2)) (ex_t (e.trans e2)), by rw [List.length_map]; exact hl, fun ys p nd hm hs hp => by
    have ey : ys.map V.str = Ss (setOf l) := by
      have e1 : ys.map TL.tl = setOf l := asc_ext (up_asc (sorted_up hs) (by
        rw [List.nodup_iff_pairwise_ne] at nd ⊢
        rw [List.pairwise_map]
        exact nd.imp fun h z => h (TL.ext_tl z))) (asc_setOf l) fun x => by
        rw [mem_setOf]
        constructor
        · intro hx
          obtain ⟨y, hy, rfl⟩ := List.mem_map.mp hx
          obtain ⟨z, hz, e⟩ := List.mem_map.mp ((hm y).mp hy)
          rw [← e]
          exact hz
        · intro hx
          exact List.mem_map.mpr ⟨ST x, (hm _).mpr (List.mem_map.mpr ⟨x, hx, rfl⟩), rfl⟩
      rw [← e1, ← Ss_map, strs_codes]
    rw [ey]
    exact q p _ (fresh_back e2 hp) (e2.trans (Ex.new hp)) upd_same⟩
theorem el_sortSetN {l : List W} (h : EvL te σ H (Ss l)) (hl : l.length < 64) : EvL (tSortSet K te) σ H (Ss (setOf l)) := fun H1 e Q q => h H1 e _ fun p H2 hp e2 hx =>
  el_sortSet (te := tC (.ref p)) (K := K) (σ := σ) (H := H2) (l := l) ev_c (.inl (sq_of hx)) hl H2 (Ex.refl H2) Q fun r H3 hr e3 h3 => q r H3 (fresh_back e2 hr) (e2.trans e3) h3
end
end Mir
/-! part W2 -/
set_option Elab.async false
set_option linter.all false
set_option maxRecDepth 100000
set_option maxHeartbeats 4000000
/-! The walk: rows, ways, sets of texts. -/
namespace Mir
open PySem PySem.Spec PyProof.Rows L2 Evl
def wordB (a : W) : Bool := a.all fun c => decide (c ∈ lettersW)
abbrev sp_is_word : Sp := spS1 (Sz 40000) fun a => .bl (wordB a)
abbrev sp_is_row : Sp := spS1 (Sz 40000) fun a => .bl (wordB a && rowB a)
abbrev sp_is_way : Sp := spS1 (Sz 40000) fun a => .bl (wayB a)
abbrev sp_rooms_of : Sp := fun vs H Q _ => ∃ a : W, vs = [S a] ∧ a.length ≤ 1000000 ∧ Rt [S a.dropLast, S a] H Q
abbrev sp_seen_in : Sp := spS2 (Sz2 100000) fun a b => S (sn a b)
def dn (a b : W) : List W := ((List.range (a.length - shr a b)).map fun i => a.take (a.length - i)) ++ (List.range (b.length - shr a b)).map fun i => b.take (shr a b + 1 + i)
abbrev sp_doors_on : Sp := fun vs H Q _ => ∃ a b : W, vs = [S a, S b] ∧ a.length ≤ 40000 ∧ b.length ≤ 40000 ∧ Rt (Ss (dn a b)) H Q
abbrev sp_set_of (K : PySem.W.Frag) : Sp := fun vs H Q _ => ∃ (a : Addr) (l : List W), vs = [.ref a] ∧ (SqL K H a (Ss l) ∨ SqT K H a (Ss l)) ∧ l.length < 64 ∧ Rt (Ss (setOf l)) H Q
abbrev sp_is_rising (K : PySem.W.Frag) : Sp := fun vs H Q _ => ∃ (a : Addr) (l : List W), vs = [.ref a] ∧ SqT K H a (Ss l) ∧ l.length ≤ 1000 ∧ Rv (.bl (ascB l)) H Q
theorem all_getD (p : Nat → Bool) : ∀ a : W, ((List.range a.length).all fun i => p (a.getD i 0)) = a.all p
  | [] => rfl
  | c :: t => by
    rw [List.length_cons, List.range_succ_eq_map, List.all_cons, List.all_map]
    show (p c && (List.range t.length).all fun i => p (t.getD i 0)) = _
    rw [all_getD p t]
    rfl
theorem all_pairs (p : Nat → Nat → Bool) (q : W → Bool) (h0 : q [] = true) (h1 : ∀ c, q [c] = true) (h2 : ∀ a b t, q (a :: b :: t) = (p a b && q (b :: t))) :
    ∀ a : W, ((List.range (a.length - 1)).all fun i => p (a.getD i 0) (a.getD (i + 1) 0)) = q a
  | [] => h0.symm
  | [c] => (h1 c).symm
  | c :: d :: t => by
    have ih := all_pairs p q h0 h1 h2 (d :: t)
    rw [h2, ← ih]
    show ((List.range (t.length + 1)).all fun i => p ((c :: d :: t).getD i 0) ((c :: d :: t).getD (i + 1) 0)) = _
    rw [List.range_succ_eq_map, List.all_cons, List.all_map]
    rfl
theorem getD_at {α : Type} {a : List α} {i : Nat} {c d : α} (h : a[i]? = some c) : a.getD i d = c := by
  rw [List.getD_eq_getElem?_getD, h]
  rfl
section
variable {P : Program} {w : World} {K : PySem.W.Frag} {mg : Str → Option Value} {base : Heap}
theorem sc_is_word : FnScope ["thing", "letter"] ["thing"] (defScope (top 14)) := ⟨rfl, rfl, rfl, by decide +kernel, rfl, by decide +kernel, by decide +kernel⟩
theorem ok_is_word (B : Bu mg) (T : Cst K mg)  (D : Dn K mg "is_word" 14) : Ok P w K mg base CX0 1 "is_word" sp_is_word := by
  refine D.ok sc_is_word (fun _ _ _ _ _ _ us hl => match us, hl with | [_], _ => rfl) (len1 rfl) fun f cdv A outer s H vs Q E hr h => ⟨_, (pss_one (ps_ret (pe_and (pe_callB call_isi (by rfl) B.isinstance (by decide +kernel) (pa_cons (pv 0) (pa_cons (pe_bltn (v := .ty "str") (by rfl) B.str (by decide +kernel) rfl) pa_nil))) (pe_one (pe_callB (cr_all rfl) (by rfl) B.all (by decide +kernel) (pa_cons (pe_lc (own := [("letter", 1)]) (g := (gName 1)) (tt := tYes) (te := (tOp rInSign (tVar 1) (tC (S lettersW)))) rfl sc_is_word.nd (pi_str (pv 0)) (blkOk_by (N := ["thing", "letter"]) (sc := defScope (top 14)) (by decide +kernel)) (fun _ _ _ _ _ => (pg_name (i := 1) sc_is_word.nd rfl (Or.inl rfl))) (fun _ _ _ _ _ => pts_nil) (fun _ _ _ _ _ => (pe_cmpR op_in_sign (pv 1) (pe_gs (by rfl) T.LETTERS) (by rfl)))) pa_nil)))))), ?_⟩
  obtain ⟨a, rfl, ha, q⟩ := h
  refine s_ret (v := .bl (wordB a)) (ev_is (ev_andV (ev_isStr (ev_var rfl)) fun _ => ev_allF (n := a.length) (f := fun i => decide (a.getD i 0 ∈ lettersW)) ?_) ?_) q
  · rw [← given_all]
    refine el_lc1 (fun _ => true) _ (ei_str (ev_var rfl)) ha (fun _ => rfl) fun i x H1 e hi p => ⟨et_yes, fun _ => ?_⟩
    obtain ⟨c, hc, rfl⟩ := p
    rw [getD_at hc]
    exact ev_inSign (ev_var rfl) ev_c
  · rw [all_getD fun c => decide (c ∈ lettersW)]
    rfl
theorem sc_is_row : FnScope ["thing", "near", "far"] ["thing"] (defScope (top 15)) := ⟨rfl, rfl, rfl, by decide +kernel, rfl, by decide +kernel, by decide +kernel⟩
theorem ok_is_row (B : Bu mg) (T : Cst K mg) (O_is_word : Ok P w K mg base CX0 1 "is_word" sp_is_word) (D : Dn K mg "is_row" 15) : Ok P w K mg base CX0 2 "is_row" sp_is_row := by
  refine D.ok sc_is_row (fun _ _ _ _ _ _ us hl => match us, hl with | [_], _ => rfl) (len1 rfl) fun f cdv A outer s H vs Q E hr h => ⟨_, (pss_one (ps_ret (pe_and (pe_ok O_is_word hr rfl pass0 (pa_cons (pv 0) pa_nil)) (pe_one (pe_callB (cr_all rfl) (by rfl) B.all (by decide +kernel) (pa_cons (pe_lc (own := [("near", 1), ("far", 2)]) (g := (gTup K 2 (gCons (gName 1) (gCons (gName 2) gNil)))) (tt := tYes) (te := (tOp rNe (tVar 1) (tVar 2))) rfl sc_is_row.nd (pi_zipS (by rfl) B.zip (pa_cons (pv 0) (pa_cons (pe_slice sl_str (pv 0) (po_some pe_int) po_none) pa_nil))) (blkOk_by (N := ["thing", "near", "far"]) (sc := defScope (top 15)) (by decide +kernel)) (fun _ _ _ _ _ => (pg_tup rfl (pgs_cons (pg_name (i := 1) sc_is_row.nd rfl (Or.inl rfl)) (pgs_cons (pg_name (i := 2) sc_is_row.nd rfl (Or.inl rfl)) pgs_nil)))) (fun _ _ _ _ _ => pts_nil) (fun _ _ _ _ _ => (pe_cmpR op_ne (pv 1) (pv 2) (nomark _)))) pa_nil)))))), ?_⟩
  obtain ⟨a, rfl, ha, q⟩ := h
  have ha' : a.length ≤ 40000 := ha
  refine s_ret (v := .bl (wordB a && rowB a)) (ev_is (ev_andV (ev_s1 (ev_var rfl) ha) fun _ => ev_allF (n := min a.length (a.drop 1).length) (f := fun i => !decide ([a.getD i 0] = [a.getD (i + 1) 0])) ?_) ?_) q
  · rw [← given_all]
    refine el_lc2 (fun _ => true) _ (ei_zipS (ea_cons (ev_var rfl) (ea_cons (ev_from (k := 1) (ev_var rfl) ev_c (by omega)) ea_nil))) (by omega) (fun _ _ => rfl) fun i x y H1 e hi h1 h2 => ⟨et_yes, fun _ => ?_⟩
    obtain ⟨c, hc, rfl⟩ := Option.map_eq_some_iff.mp h1
    obtain ⟨d, hd, rfl⟩ := Option.map_eq_some_iff.mp h2
    rw [List.getElem?_drop, Nat.add_comm] at hd
    rw [getD_at hc, getD_at hd]
    exact ev_neS (ev_var rfl) (ev_var rfl)
  · have e1 : min a.length (a.drop 1).length = a.length - 1 := by
      rw [List.length_drop]
      omega
    rw [e1, all_pairs (fun c d => !decide ([c] = [d])) rowB rfl (fun _ => rfl) fun c d t => ?_]
    show (c != d && rowB (d :: t)) = _
    congr 1
    by_cases h : c = d
    · subst h
      simp
    · simp [h]
theorem way_eq (a : W) : ((wordB a && rowB a) && decide ((a.length : Int) > 0)) = wayB a := by
  have e1 : wordB a = a.all fun c => decide (97 ≤ c) && decide (c ≤ 104) := by
    unfold wordB
    congr 1
    funext c
    rw [Bool.eq_iff_iff]
    simp only [decide_eq_true_eq, Bool.and_eq_true, lettersW, List.mem_cons, List.not_mem_nil, or_false]
    omega
  have e2 : decide ((a.length : Int) > 0) = !a.isEmpty := by
    cases a <;> simp <;> omega
  unfold wayB
  rw [e1, e2]
  cases rowB a <;> cases a.isEmpty <;> simp
theorem sc_is_way : FnScope ["thing"] ["thing"] (defScope (top 16)) := ⟨rfl, rfl, rfl, by decide +kernel, rfl, by decide +kernel, by decide +kernel⟩
theorem ok_is_way (B : Bu mg) (T : Cst K mg) (O_is_row : Ok P w K mg base CX0 2 "is_row" sp_is_row) (D : Dn K mg "is_way" 16) : Ok P w K mg base CX0 3 "is_way" sp_is_way := by
  refine D.ok sc_is_way (fun _ _ _ _ _ _ us hl => match us, hl with | [_], _ => rfl) (len1 rfl) fun f cdv A outer s H vs Q E hr h => ⟨_, (pss_one (ps_ret (pe_and (pe_ok O_is_row hr rfl pass0 (pa_cons (pv 0) pa_nil)) (pe_one (pe_cmpR op_gt (pe_callB call_len_str (by rfl) B.len PySem.boot_len (pa_cons (pv 0) pa_nil)) pe_int (nomark _)))))), ?_⟩
  obtain ⟨a, rfl, ha, q⟩ := h
  have ha' : a.length ≤ 40000 := ha
  refine s_ret (v := .bl (wayB a)) (ev_is (ev_andV (ev_s1 (ev_var rfl) ha) fun _ => ev_gtI (ev_lenS (ev_var rfl) (by omega)) ev_c) ?_) q
  rw [way_eq]
theorem sc_rooms_of : FnScope ["way"] ["way"] (defScope (top 23)) := ⟨rfl, rfl, rfl, by decide +kernel, rfl, by decide +kernel, by decide +kernel⟩
theorem ok_rooms_of (B : Bu mg) (T : Cst K mg)  (D : Dn K mg "rooms_of" 23) : Ok P w K mg base CX0 1 "rooms_of" sp_rooms_of := by
  refine D.ok sc_rooms_of (fun _ _ _ _ _ _ us hl => match us, hl with | [_], _ => rfl) (by rintro vs H Q E ⟨a, rfl, _⟩; rfl) fun f cdv A outer s H vs Q E hr h => ⟨_, (pss_one (ps_ret (pe_tup (pa_cons (pe_slice sl_str (pv 0) po_none (po_some (pe_un un_neg pe_int))) (pa_cons (pv 0) pa_nil))))), ?_⟩
  obtain ⟨a, rfl, ha, q⟩ := h
  exact s_retU (eu_tup (ea_cons (ev_init (ev_var rfl) (ev_neg ev_c) ha) (ea_cons (ev_var rfl) ea_nil)) (by show 2 ≤ 100000; decide)) q
theorem trn_len (y r : W) : (trn y r).length ≤ 2 * y.length + r.length := by
  have := jn_len (pal y) r
  rw [pal_len] at this
  unfold trn
  omega
theorem sc_seen_in : FnScope ["one", "other", "nearer", "farther"] ["one", "other"] (defScope (top 27)) := ⟨rfl, rfl, rfl, by decide +kernel, rfl, by decide +kernel, by decide +kernel⟩
theorem ok_seen_in (B : Bu mg) (T : Cst K mg) (O_rooms_of : Ok P w K mg base CX0 1 "rooms_of" sp_rooms_of) (O_turned : Ok P w K mg base CX0 3 "turned" sp_turned) (D : Dn K mg "seen_in" 27) : Ok P w K mg base CX0 4 "seen_in" sp_seen_in := by
  refine D.ok sc_seen_in (fun _ _ _ _ _ _ us hl => match us, hl with | [_, _], _ => rfl) (len2 rfl) fun f cdv A outer s H vs Q E hr h => ⟨_, (pss_cons (ps_asg (pe_ok O_rooms_of hr rfl pass0 (pa_cons (pv 0) pa_nil)) (pg_tup rfl (pgs_cons (pg_name (i := 2) sc_seen_in.nd rfl (Or.inl rfl)) (pgs_cons (pg_name (i := 3) sc_seen_in.nd rfl (Or.inl rfl)) pgs_nil))))
    (pss_one (ps_ret (pe_maxLen rfl (pe_lst (pa_cons (pe_ok O_turned hr rfl pass0 (pa_cons (pv 1) (pa_cons (pv 2) pa_nil))) (pa_cons (pe_ok O_turned hr rfl pass0 (pa_cons (pv 1) (pa_cons (pv 3) pa_nil))) pa_nil))) rfl B.max rfl B.len)))), ?_⟩
  obtain ⟨a, b, rfl, ⟨ha, hb⟩, q⟩ := h
  refine q_two (a := S a.dropLast) (b := S a) (eu_ok (ea_cons (ev_var rfl) ea_nil) fun H1 Q _ q => ⟨a, rfl, by omega, q⟩) fun H1 e1 => ?_
  have h1 : (trn b a.dropLast).length ≤ 1000000 := by
    have := trn_len b a.dropLast
    rw [List.length_dropLast] at this
    omega
  have h2 : (trn b a).length ≤ 1000000 := by
    have := trn_len b a
    omega
  refine s_ret (v := S (sn a b)) (ev_max2S (el_lst (ea_cons (ev_s2 (ev_var rfl) (ev_var rfl) ⟨hb, ?_⟩) (ea_cons (ev_s2 (ev_var rfl) (ev_var rfl) ⟨hb, ha⟩) ea_nil)) (by show 2 ≤ 100000; decide)) h1 h2) fun H2 e2 => q H2 (e1.trans e2)
  rw [List.length_dropLast]
  omega
theorem range_map_congr {n : Nat} {f g : Nat → V} (h : ∀ i, i < n → f i = g i) : (List.range n).map f = (List.range n).map g := List.map_congr_left fun i hi => h i (List.mem_range.mp hi)
theorem sc_doors_on : FnScope ["one", "other", "many", "found", "size"] ["one", "other"] (defScope (top 21)) := ⟨rfl, rfl, rfl, by decide +kernel, rfl, by decide +kernel, by decide +kernel⟩
theorem ok_doors_on (B : Bu mg) (T : Cst K mg) (O_shared : Ok P w K mg base CX0 1 "shared" sp_shared) (D : Dn K mg "doors_on" 21) : Ok P w K mg base CX0 2 "doors_on" sp_doors_on := by
  refine D.ok sc_doors_on (fun _ _ _ _ _ _ us hl => match us, hl with | [_, _], _ => rfl) (by rintro vs H Q E ⟨a, b, rfl, _⟩; rfl) fun f cdv A outer s H vs Q E hr h => ⟨_, (pss_cons (ps_set (i := 2) sc_doors_on.nd rfl (.inl rfl) (pe_ok O_shared hr rfl pass0 (pa_cons (pv 0) (pa_cons (pv 1) pa_nil))))
    (pss_cons (ps_setLc (i := 3) (own := [("size", 4)]) (g := (gName 4)) (tt := tYes) (te := (tSl rSlS (tVar 0) tNoPart (tPart (tVar 4)))) rfl sc_doors_on.nd rfl rfl (sw_true rfl rfl rfl (by decide +kernel)) (pi_range3 rfl B.range (pa_cons (pe_callB call_len_str (by rfl) B.len PySem.boot_len (pa_cons (pv 0) pa_nil)) (pa_cons (pv 2) (pa_cons (pe_un un_neg pe_int) pa_nil)))) (blkOk_by (N := ["one", "other", "many", "found", "size"]) (sc := defScope (top 21)) (by decide +kernel)) (fun _ _ _ _ _ => (pg_name (i := 4) sc_doors_on.nd rfl (Or.inl rfl))) (fun _ _ _ _ _ => pts_nil) (fun _ _ _ _ _ => (pe_slice sl_str (pv 0) po_none (po_some (pv 4)))))
    (pss_one (ps_ret (pe_callTy call_tuple_of (by rfl) B.tuple (by decide +kernel) (pa_cons (pe_op op_cat (pv 3) (pe_lc (own := [("size", 4)]) (g := (gName 4)) (tt := tYes) (te := (tSl rSlS (tVar 1) tNoPart (tPart (tVar 4)))) rfl sc_doors_on.nd (pi_range2 rfl B.range (pa_cons (pe_op op_add (pv 2) pe_int) (pa_cons (pe_op op_add (pe_callB call_len_str (by rfl) B.len PySem.boot_len (pa_cons (pv 1) pa_nil)) pe_int) pa_nil))) (blkOk_by (N := ["one", "other", "many", "found", "size"]) (sc := defScope (top 21)) (by decide +kernel)) (fun _ _ _ _ _ => (pg_name (i := 4) sc_doors_on.nd rfl (Or.inl rfl))) (fun _ _ _ _ _ => pts_nil) (fun _ _ _ _ _ => (pe_slice sl_str (pv 1) po_none (po_some (pv 4)))))) pa_nil)))))), ?_⟩
  obtain ⟨a, b, rfl, ha, hb, q⟩ := h
  refine q_asg (ev_s2 (ev_var rfl) (ev_var rfl) ⟨by omega, by omega⟩) fun H1 e1 => ?_
  have s1 := shr_le_left a b
  have s2 := shr_le_right a b
  have hl1 : EvL (tLc (iRng3 (tCons (tCB rLenStr (tCons (tVar 0) tNil)) (tCons (tVar 2) (tCons (tUn (rU fun i => .int (-i)) (tC (.int 1))) tNil)))) (gName 4) tYes (tSl rSlS (tVar 0) tNoPart (tPart (tVar 4))) [4]) [some (S a), some (S b), some (.int ((shr a b : Nat) : Int)), none, none] H1 ((List.range (a.length - shr a b)).map fun i => S (a.take (a.length - i))) := by
    have e0 : ((a.length : Int) - ((shr a b : Nat) : Int)).toNat = a.length - shr a b := by omega
    rw [← e0, ← given_all]
    refine el_lc1 (fun _ => true) _ (ei_rng3 (ea_cons (ev_lenS (ev_var rfl) (by omega)) (ea_cons (ev_var rfl) (ea_cons (ev_neg ev_c) ea_nil))) (by omega) (by omega)) (by omega) (fun _ => rfl) fun i x H2 e hi p => ⟨et_yes, fun _ => ?_⟩
    obtain rfl : x = .int ((a.length : Int) + (i : Nat) * (-1)) := p
    have e2 : ((a.length : Int) + (i : Nat) * (-1)) = ((a.length - i : Nat) : Int) := by omega
    rw [e2]
    exact ev_to (ev_var rfl) (ev_var rfl) (by omega)
  have hl2 : ∀ p H2, EvL (tLc (iRng2 (tCons (tOp (rI0 fun i j => .int (i + j)) (tVar 2) (tC (.int 1))) (tCons (tOp (rI0 fun i j => .int (i + j)) (tCB rLenStr (tCons (tVar 1) tNil)) (tC (.int 1))) tNil))) (gName 4) tYes (tSl rSlS (tVar 1) tNoPart (tPart (tVar 4))) [4]) [some (S a), some (S b), some (.int ((shr a b : Nat) : Int)), some (.ref p), none] H2 ((List.range (b.length - shr a b)).map fun i => S (b.take (shr a b + 1 + i))) := by
    intro p H2
    have e0 : (((b.length : Int) + 1) - (((shr a b : Nat) : Int) + 1)).toNat = b.length - shr a b := by omega
    rw [← e0, ← given_all]
    refine el_lc1 (fun _ => true) _ (ei_rng2 (ea_cons (ev_addI (ev_var rfl) ev_c) (ea_cons (ev_addI (ev_lenS (ev_var rfl) (by omega)) ev_c) ea_nil)) (by omega) (by omega)) (by omega) (fun _ => rfl) fun i x H2 e hi p => ⟨et_yes, fun _ => ?_⟩
    obtain rfl : x = .int ((((shr a b : Nat) : Int) + 1) + (i : Nat)) := p
    have e2 : ((((shr a b : Nat) : Int) + 1) + (i : Nat)) = ((shr a b + 1 + i : Nat) : Int) := by omega
    rw [e2]
    exact ev_to (ev_var rfl) (ev_var rfl) (by omega)
  refine q_asgL hl1 fun p H2 hp e2 hx => ?_
  refine s_retU (eu_tupN (el_cat (ev_var rfl) hx (hl2 p H2) ?_)) fun r H3 hr e3 h3 => q r H3 (fresh_back (e1.trans e2) hr) ((e1.trans e2).trans e3) ?_
  · rw [List.length_map, List.length_map, List.length_range, List.length_range]
    omega
  · rw [h3]
    unfold dn Ss
    rw [List.map_append, List.map_map, List.map_map]
    rfl
theorem sc_is_rising : FnScope ["things", "near", "far"] ["things"] (defScope (top 10)) := ⟨rfl, rfl, rfl, by decide +kernel, rfl, by decide +kernel, by decide +kernel⟩
theorem ok_is_rising (B : Bu mg) (T : Cst K mg)  (D : Dn K mg "is_rising" 10) : Ok P w K mg base CX0 1 "is_rising" (sp_is_rising K) := by
  refine D.ok sc_is_rising (fun _ _ _ _ _ _ us hl => match us, hl with | [_], _ => rfl) (by rintro vs H Q E ⟨a, l, rfl, _⟩; rfl) fun f cdv A outer s H vs Q E hr h => ⟨_, (pss_one (ps_ret (pe_callB (cr_all rfl) (by rfl) B.all (by decide +kernel) (pa_cons (pe_lc (own := [("near", 1), ("far", 2)]) (g := (gTup K 2 (gCons (gName 1) (gCons (gName 2) gNil)))) (tt := tYes) (te := (tOp rLtS (tVar 1) (tVar 2))) rfl sc_is_rising.nd (RZ.pi_zipA (by rfl) B.zip (pa_cons (pv 0) (pa_cons (pe_slice sl_tupA (pv 0) (po_some pe_int) po_none) pa_nil))) (blkOk_by (N := ["things", "near", "far"]) (sc := defScope (top 10)) (by decide +kernel)) (fun _ _ _ _ _ => (pg_tup rfl (pgs_cons (pg_name (i := 1) sc_is_rising.nd rfl (Or.inl rfl)) (pgs_cons (pg_name (i := 2) sc_is_rising.nd rfl (Or.inl rfl)) pgs_nil)))) (fun _ _ _ _ _ => pts_nil) (fun _ _ _ _ _ => (pe_cmpR op_lt_str (pv 1) (pv 2) (nomark _)))) pa_nil)))), ?_⟩
  obtain ⟨p, l, rfl, hx, hl, q⟩ := h
  refine s_ret (v := .bl (ascB l)) (ev_is (ev_allF (n := min (Ss l).length ((Ss l).drop 1).length) (f := fun i => ltW (l.getD i []) (l.getD (i + 1) [])) ?_) ?_) q
  · rw [← given_all]
    refine el_lc2 (fun _ => true) _ (ei_zipQ (eq_v (ev_var rfl) hx) (eq_tail (ev_var rfl) hx)) (by rw [List.length_map]; omega) (fun _ _ => rfl) fun i x y H1 e hi h1 h2 => ⟨et_yes, fun _ => ?_⟩
    rw [List.getElem?_map] at h1
    rw [List.getElem?_drop, List.getElem?_map, Nat.add_comm] at h2
    obtain ⟨c, hc, rfl⟩ := Option.map_eq_some_iff.mp h1
    obtain ⟨d, hd, rfl⟩ := Option.map_eq_some_iff.mp h2
    rw [getD_at hc, getD_at hd]
    exact ev_ltS (ev_var rfl) (ev_var rfl)
  · have e1 : min (Ss l).length ((Ss l).drop 1).length = l.length - 1 := by
      rw [List.length_drop, List.length_map]
      omega
    rw [e1]
    have : ∀ l : List W, ((List.range (l.length - 1)).all fun i => ltW (l.getD i []) (l.getD (i + 1) [])) = ascB l := by
      intro l
      induction l with
      | nil => rfl
      | cons c t ih =>
        cases t with
        | nil => rfl
        | cons d t =>
          show ((List.range (t.length + 1)).all fun i => ltW ((c :: d :: t).getD i []) ((c :: d :: t).getD (i + 1) [])) = (ltW c d && ascB (d :: t))
          rw [← ih, List.range_succ_eq_map, List.all_cons, List.all_map]
          rfl
    rw [this]
end
end Mir
/-! part K3 -/
set_option Elab.async false
set_option linter.all false
set_option maxRecDepth 100000
set_option maxHeartbeats 4000000
/-! Comprehensions over texts; optional texts; sets of texts by a loop. -/
namespace Mir
open PySem PySem.Spec PyProof.Rows L2 Evl
def optS : Option W → V
  | none => .non
  | some m => S m
theorem given_step {α : Type} (n : Nat) (f : Nat → Bool) (v : Nat → V) : given (n + 1) f v = (if f 0 then [v 0] else []) ++ given n (fun i => f (i + 1)) fun i => v (i + 1) := by
  unfold given
  rw [List.range_succ_eq_map, List.filter_cons, List.filter_map]
  cases f 0
  · rw [if_neg (by decide), if_neg (by decide), List.map_map]
    rfl
  · rw [if_pos rfl, if_pos rfl, List.map_cons, List.map_map]
    rfl
theorem given_filter (p : W → Bool) (g : W → W) : ∀ l : List W, given l.length (fun i => p (l.getD i [])) (fun i => S (g (l.getD i []))) = Ss ((l.filter p).map g)
  | [] => rfl
  | c :: t => by
    have ih := given_filter p g t
    rw [List.length_cons, given_step (α := W)]
    show (if p c then [S (g c)] else []) ++ given t.length (fun i => p (t.getD i [])) (fun i => S (g (t.getD i []))) = _
    rw [ih]
    cases h : p c with
    | true => rw [List.filter_cons_of_pos h]; rfl
    | false => rw [List.filter_cons_of_neg (by rw [h]; decide)]; rfl
section
variable {K : PySem.W.Frag} {σ : L2.St} {H H' : Hp} {ta tb te tl : TE} {t u : TT} {wi : TI}
theorem pAt_S {l : List W} {i : Nat} {x : V} {H : Hp} (p : PAt (Ss l) i x H) : ∃ w, l[i]? = some w ∧ x = S w := by
  have q : (Ss l)[i]? = some x := p
  rw [List.getElem?_map] at q
  obtain ⟨w, h1, h2⟩ := Option.map_eq_some_iff.mp q
  exact ⟨w, h1, h2.symm⟩
theorem el_lcW {l : List W} {j : Nat} {vs : List Nat} (p : W → Bool) (g : W → W) (h : EvI wi σ H (Ss l).length (PAt (Ss l))) (hz : l.length ≤ 40000) (hw : ∀ x, wipe ((wipe σ vs).set j (some x)) vs = wipe σ vs)
    (hs : ∀ w ∈ l, ∀ H1, Ex H H1 → EvT t ((wipe σ vs).set j (some (S w))) H1 (p w) ∧ (p w = true → Ev te ((wipe σ vs).set j (some (S w))) H1 (S (g w)))) :
    EvL (tLc wi (gName j) t te vs) σ H (Ss ((l.filter p).map g)) := by
  rw [← given_filter p g l]
  rw [List.length_map] at h
  refine el_lc1 _ _ h hz hw fun i x H1 e hi q => ?_
  obtain ⟨w, h1, rfl⟩ := pAt_S q
  rw [getD_at h1]
  exact hs w (List.mem_of_getElem? h1) H1 e
/-- without a test -/
theorem el_lcM {l : List W} {j : Nat} {vs : List Nat} (g : W → W) (h : EvI wi σ H (Ss l).length (PAt (Ss l))) (hz : l.length ≤ 40000) (hw : ∀ x, wipe ((wipe σ vs).set j (some x)) vs = wipe σ vs)
    (hs : ∀ w ∈ l, ∀ H1, Ex H H1 → Ev te ((wipe σ vs).set j (some (S w))) H1 (S (g w))) : EvL (tLc wi (gName j) tYes te vs) σ H (Ss (l.map g)) := by
  have q := el_lcW (t := tYes) (te := te) (fun _ => true) g h hz hw fun w hw' H1 e => ⟨et_yes, fun _ => hs w hw' H1 e⟩
  rwa [List.filter_eq_self.mpr fun _ _ => rfl] at q
/-- with a test, the items themselves -/
theorem el_lcF {l : List W} {j : Nat} {vs : List Nat} (p : W → Bool) (h : EvI wi σ H (Ss l).length (PAt (Ss l))) (hz : l.length ≤ 40000) (hw : ∀ x, wipe ((wipe σ vs).set j (some x)) vs = wipe σ vs)
    (hs : ∀ w ∈ l, ∀ H1, Ex H H1 → EvT t ((wipe σ vs).set j (some (S w))) H1 (p w) ∧ Ev te ((wipe σ vs).set j (some (S w))) H1 (S w)) : EvL (tLc wi (gName j) t te vs) σ H (Ss (l.filter p)) := by
  have q := el_lcW (t := t) (te := te) p id h hz hw fun w hw' H1 e => ⟨(hs w hw' H1 e).1, fun _ => (hs w hw' H1 e).2⟩
  rwa [List.map_id] at q
/-- all([test of w for w in l]) -/
theorem ev_allW {l : List W} {j : Nat} {vs : List Nat} (p : W → Bool) (h : EvI wi σ H (Ss l).length (PAt (Ss l))) (hz : l.length ≤ 40000) (hw : ∀ x, wipe ((wipe σ vs).set j (some x)) vs = wipe σ vs)
    (hs : ∀ w ∈ l, ∀ H1, Ex H H1 → Ev te ((wipe σ vs).set j (some (S w))) H1 (.bl (p w))) : Ev (tCB (rAll K) (tCons (tLc wi (gName j) tYes te vs) tNil)) σ H (.bl (l.all p)) := by
  have e : l.all p = (List.range l.length).all fun i => p (l.getD i []) := by
    clear h hz hs
    induction l with
    | nil => rfl
    | cons c t ih =>
      rw [List.length_cons, List.range_succ_eq_map, List.all_cons, List.all_cons, List.all_map, ih]
      rfl
  rw [e]
  rw [List.length_map] at h
  refine ev_allF ?_
  rw [← given_all]
  refine el_lc1 (fun _ => true) _ h hz hw fun i x H1 e hi q => ⟨et_yes, fun _ => ?_⟩
  obtain ⟨w, h1, rfl⟩ := pAt_S q
  rw [getD_at h1]
  exact hs w (List.mem_of_getElem? h1) H1 e
theorem ev_isN {x : V} (h : Ev te σ H x) : Ev (tOp (fun x y H Q => y = .non ∧ Q (.bl (decide (x = .non))) H) te (tC .non)) σ H (.bl (decide (x = .non))) := ev_op h ev_c fun H1 _ Q q => ⟨rfl, q H1 (Ex.refl H1)⟩
theorem ev_notN {x : V} (h : Ev te σ H x) : Ev (tOp (fun x y H Q => y = .non ∧ Q (.bl (!decide (x = .non))) H) te (tC .non)) σ H (.bl (!decide (x = .non))) := ev_op h ev_c fun H1 _ Q q => ⟨rfl, q H1 (Ex.refl H1)⟩
theorem dec_optS (o : Option W) : decide (optS o = .non) = o.isNone := by
  cases o with
  | none => rfl
  | some m => exact decide_eq_false fun z => nomatch z
end
/-! ### sets of texts by a loop -/
def ddF (l : List W) : List W := l.foldl (fun acc x => if acc.getLast? = some x then acc else acc ++ [x]) []
theorem ddF_snoc (l : List W) (x : W) : ddF (l ++ [x]) = if (ddF l).getLast? = some x then ddF l else ddF l ++ [x] := by
  unfold ddF
  rw [List.foldl_append]
  rfl
theorem asc_snoc : ∀ {l : List W} {x : W}, Asc l → (∀ y ∈ l, ltW y x = true) → Asc (l ++ [x])
  | [], _, _, _ => trivial
  | a :: t, x, h, k => asc_cons (asc_snoc h.tail fun y hy => k y (List.mem_cons_of_mem _ hy)) fun z hz => by
    rcases List.mem_append.mp hz with hz | hz
    · exact h.lt z hz
    · rw [List.mem_singleton.mp hz]
      exact k a (List.mem_cons_self ..)
theorem ddF_facts : ∀ (n : Nat) (l : List W), l.length = n → Up l → Asc (ddF l) ∧ (∀ x, x ∈ ddF l ↔ x ∈ l) ∧ (ddF l).getLast? = l.getLast?
  | 0, l, hl, _ => by
    have : l = [] := List.length_eq_zero_iff.mp hl
    subst this
    exact ⟨trivial, fun _ => Iff.rfl, rfl⟩
  | n + 1, l, hl, hu => by
    rcases snocW l with e | ⟨p, x, e⟩
    · subst e
      cases hl
    · subst e
      obtain ⟨u1, _, u3⟩ := List.pairwise_append.mp hu
      obtain ⟨a1, a2, a3⟩ := ddF_facts n p (by simpa using hl) u1
      rw [ddF_snoc]
      split
      · rename_i hx
        refine ⟨a1, fun y => ?_, by rw [hx]; simp⟩
        rw [a2, List.mem_append, List.mem_singleton]
        constructor
        · exact .inl
        · rintro (h | rfl)
          · exact h
          · rw [← a2]
            exact List.mem_of_getLast? hx
      · rename_i hx
        refine ⟨asc_snoc a1 fun y hy => ?_, fun y => by rw [List.mem_append, List.mem_append, a2], by simp⟩
        have hy' := (a2 y).mp hy
        have h1 : ltW x y = false := u3 y hy' x (List.mem_singleton.mpr rfl)
        cases h2 : ltW y x with
        | true => rfl
        | false =>
          exfalso
          have e : y = x := ltW_total y x h2 h1
          subst e
          refine hx ?_
          rw [a3]
          rcases snocW p with e | ⟨p', z, e⟩
          · subst e
            cases hy'
          · subst e
            have hz : z ∈ p' ++ [z] := by simp
            have hzy : ltW y z = false := u3 z hz y (List.mem_singleton.mpr rfl)
            have hyz : ltW z y = false := by
              rcases List.mem_append.mp hy' with h | h
              · exact (List.pairwise_append.mp u1).2.2 y h z (List.mem_singleton.mpr rfl)
              · rw [List.mem_singleton.mp h]
                exact ltW_irrefl z
            rw [ltW_total y z hzy hyz]
            simp
theorem ddF_srt (l : List W) : ddF (srt l) = setOf l := by
  obtain ⟨h1, h2, _⟩ := ddF_facts _ (srt l) rfl (srt_up l)
  exact asc_ext h1 (asc_setOf l) fun x => by rw [h2, (srt_perm l).mem_iff, mem_setOf]
theorem take_snoc {α : Type} {l : List α} {i : Nat} {x : α} (h : l[i]? = some x) : l.take (i + 1) = l.take i ++ [x] := by
  rw [List.take_add_one, h]
  rfl
end Mir
/-! part W3 -/
set_option Elab.async false
set_option linter.all false
set_option maxRecDepth 100000
set_option maxHeartbeats 4000000
/-! The walk: sets, folds, makers. -/
namespace Mir
open PySem PySem.Spec PyProof.Rows L2 Evl
/-- texts of at most n signs -/
def Shr (n : Nat) (l : List W) : Prop := ∀ x ∈ l, x.length ≤ n
abbrev sp_maker_ahead (K : PySem.W.Frag) : Sp := fun vs H Q _ => ∃ (a : Addr) (M : List W) (x : W), vs = [.ref a, S x] ∧ SqT K H a (Ss M) ∧ Shr 40000 M ∧ x.length ≤ 40000 ∧ Rv (optS (ahead M x)) H Q
/-- a pair of a text and a tuple of texts -/
def RFold (r : W) (fs : List W) (H : Hp) (Q : VK) : Prop := ∀ p t H2, H p = none → Ex H H2 → H2 t = some (.tup (Ss fs)) → H2 p = some (.tup [S r, .ref t]) → Q (.ref p) H2
abbrev sp_folded_at (K : PySem.W.Frag) : Sp := fun vs H Q _ => ∃ (a : Addr) (M : List W) (x : W), vs = [.ref a, S x] ∧ SqT K H a (Ss M) ∧ Ways M ∧ Shr 40000 M ∧ Way x ∧ x.length ≤ 40000 ∧ RFold (fold M x).1 (fold M x).2 H Q
abbrev sp_makers (K : PySem.W.Frag) : Sp := fun vs H Q _ => ∃ (a : Addr) (ws : List W), vs = [.ref a] ∧ SqT K H a (Ss ws) ∧ Ways ws ∧ ws.length < 64 ∧ Shr 40000 ws ∧ Rt (Ss (mk ws)) H Q
section
variable {P : Program} {w : World} {K : PySem.W.Frag} {mg : Str → Option Value} {base : Heap}
theorem ref_tup {K : PySem.W.Frag} {H : Hp} {a : Addr} {xs : List V} (h : SqT K H a xs) : Ex H H := Ex.refl H
theorem ddF_len : ∀ (n : Nat) (l : List W), l.length = n → (ddF l).length ≤ l.length
  | 0, l, hl => by
    rw [List.length_eq_zero_iff.mp hl]
    exact Nat.le_refl _
  | n + 1, l, hl => by
    rcases snocW l with e | ⟨p, x, e⟩
    · subst e
      cases hl
    · subst e
      have ih := ddF_len n p (by simpa using hl)
      rw [ddF_snoc, List.length_append]
      split
      · omega
      · rw [List.length_append]
        simp only [List.length_cons, List.length_nil]
        omega
theorem sc_set_of : FnScope ["things", "found", "thing"] ["things"] (defScope (top 9)) := ⟨rfl, rfl, rfl, by decide +kernel, rfl, by decide +kernel, by decide +kernel⟩
theorem ok_set_of (B : Bu mg) (T : Cst K mg)  (D : Dn K mg "set_of" 9) : Ok P w K mg base CX0 1 "set_of" (sp_set_of K) := by
  refine D.ok sc_set_of (fun _ _ _ _ _ _ us hl => match us, hl with | [_], _ => rfl) (by rintro vs H Q E ⟨a, l, rfl, _⟩; rfl) fun f cdv A outer s H vs Q E hr h => ⟨_, (pss_cons (ps_set (i := 1) sc_set_of.nd rfl (.inl rfl) (pe_lst pa_nil))
    (pss_cons (ps_for PassesOwn.never rfl (pi_list (pe_callB cr_sortedA (by rfl) B.sorted (by decide +kernel) (pa_cons (pv 0) pa_nil))) (pg_name (i := 2) sc_set_of.nd rfl (Or.inl rfl))
      (pss_one (ps_if (PW.pt (pw_or (pt_cmpR op_eq (pe_callB call_len_seq (by rfl) B.len PySem.boot_len (pa_cons (pv 1) pa_nil)) pe_int (nomark _)) (pw_or1 (pt_cmpR op_ne (pe_ix ix_list (pv 1) (pe_un un_neg pe_int) (fun _ _ => rfl)) (pv 2) (nomark _)))))
        (pss_one (ps_expr (pe_bm PySem.F.plainAttrs_list PySem.F.slot_list_append PySem.F.type_list_append mt_append (pv 1) (pa_cons (pv 2) pa_nil))))
        pss_nil)))
    (pss_one (ps_ret (pe_callTy call_tuple_of (by rfl) B.tuple (by decide +kernel) (pa_cons (pv 1) pa_nil)))))), ?_⟩
  obtain ⟨a, l, rfl, hx, hl, q⟩ := h
  refine q_asgL (el_lst ea_nil (by show 0 ≤ 100000; decide)) fun g H1 hg e1 h1 => ?_
  refine q_forNLn (xs := Ss (srt l)) (el_sorted (ev_var rfl) (hx.imp (ex_l e1) (ex_t e1)) hl) (fun p i σ H' => (∃ v, σ = [some (.ref a), some (.ref g), v]) ∧ Ex H H' ∧ g ≠ p ∧ H' p = some (.lst (Ss (srt l))) ∧ H' g = some (.lst (Ss (ddF ((srt l).take i))))) (fun p H2 hp e2 h2 => ⟨⟨none, rfl⟩, e1.trans e2, ne_of_none h1 hp, h2, e2 _ _ h1⟩) (fun p i σ H' _ h => sq_of h.2.2.2.1) (fun p i x σ H' hx2 ⟨⟨v, hσ⟩, e, gp, hp, hgl⟩ => ?_) fun p σ H' ⟨⟨v, hσ⟩, e, gp, hp, hgl⟩ => ?_
  · subst hσ
    rw [List.getElem?_map] at hx2
    obtain ⟨c, hc, rfl⟩ := Option.map_eq_some_iff.mp hx2
    have hlen : ((srt l).take i).length ≤ 64 := by
      rw [List.length_take, srt_len]
      omega
    have hdl : (ddF ((srt l).take i)).length ≤ 64 := Nat.le_trans (ddF_len _ _ rfl) hlen
    have ts := take_snoc hc
    refine s_when (b := !decide ((ddF ((srt l).take i)).getLast? = some c)) ?_ (fun hb H2 e2 => ?_) fun hb H2 e2 => ?_
    · rcases snocW (ddF ((srt l).take i)) with ed | ⟨d, y, ed⟩
      · rw [ed] at hgl ⊢
        refine et_is (et_or (b := true) (et_test (ev_eqI (ev_len (ev_var rfl) (sq_of hgl)) ev_c)) fun hz => ?_) ?_
        · exact absurd hz (by simp [Ss])
        · simp [Ss]
      · rw [ed] at hgl ⊢
        refine et_is (et_or (b := !decide (y = c)) (et_test (ev_eqI (ev_len (ev_var rfl) (sq_of hgl)) ev_c)) fun hz => et_test (ev_neS (ev_op (ev_var rfl) (ev_neg ev_c) (rv_ixL (sq_of hgl) ?_)) (ev_var rfl))) ?_
        · show atI ((d ++ [y]).map S) (-1) = some (S y)
          rw [List.map_append]
          exact atI_last _ _
        · simp only [Ss, List.length_map, List.length_append, List.length_cons, List.length_nil, List.getLast?_append, List.getLast?_singleton, Option.some_or, Option.some.injEq]
          have : decide ((((d.length + (0 + 1) : Nat)) : Int) = 0) = false := decide_eq_false (by omega)
          rw [this, Bool.false_or]
    · have hb' : ¬ (ddF ((srt l).take i)).getLast? = some c := by simpa using hb
      refine s_app (e2 _ _ hgl) (ev_var rfl) (ev_var rfl) (by show (Ss _).length < 100000; rw [List.length_map]; omega) fun H3 e3 => ⟨⟨_, rfl⟩, ?_, gp, ?_, ?_⟩
      · exact Ex.mut ((e.trans e2).trans e3) hg
      · rw [upd_ne (Ne.symm gp)]
        exact e3 _ _ (e2 _ _ hp)
      · rw [upd_same, ts, ddF_snoc, if_neg hb']
        unfold Ss
        rw [List.map_append]
        rfl
    · have hb' : (ddF ((srt l).take i)).getLast? = some c := by simpa using hb
      refine ⟨⟨_, rfl⟩, e.trans e2, gp, e2 _ _ hp, ?_⟩
      rw [ts, ddF_snoc, if_pos hb']
      exact e2 _ _ hgl
  · subst hσ
    rw [List.length_map, List.take_length, ddF_srt] at hgl
    exact s_retU (eu_tupL (ev_var rfl) (sq_of hgl)) fun p H2 hp e2 h2 => q p H2 (fresh_back e hp) (e.trans e2) h2
theorem et_ahead {K : PySem.W.Frag} {σ : L2.St} {H : Hp} {ta tb : TE} {m x : W} {E : XK} (h1 : Ev ta σ H (S m)) (h2 : Ev tb σ H (S x)) (hm : m.length ≤ 40000) (hx : x.length ≤ 40000) :
    EvT (tAnd (tTest (tOp rNe ta tb)) (tB (tCall sp_begins [] E (tCons ta (tCons tb tNil))))) σ H (decide (m ≠ x) && m.isPrefixOf x) := by
  refine et_is (et_and (et_test (ev_neS h1 h2)) fun _ => et_B (ev_s2 h1 h2 ⟨by omega, by omega⟩)) ?_
  simp
theorem sc_maker_ahead : FnScope ["found", "way", "maker"] ["found", "way"] (defScope (top 30)) := ⟨rfl, rfl, rfl, by decide +kernel, rfl, by decide +kernel, by decide +kernel⟩
theorem ok_maker_ahead (B : Bu mg) (T : Cst K mg) (O_begins : Ok P w K mg base CX0 1 "begins" sp_begins) (D : Dn K mg "maker_ahead" 30) : Ok P w K mg base CX0 2 "maker_ahead" (sp_maker_ahead K) := by
  refine D.ok sc_maker_ahead (fun _ _ _ _ _ _ us hl => match us, hl with | [_, _], _ => rfl) (by rintro vs H Q E ⟨a, l, x, rfl, _⟩; rfl) fun f cdv A outer s H vs Q E hr h => ⟨_, (pss_cons (ps_for PassesOwn.never rfl (pi_tup (pv 0)) (pg_name (i := 2) sc_maker_ahead.nd rfl (Or.inl rfl))
      (pss_one (ps_if (PW.pt (pw_and (pt_cmpR op_ne (pv 2) (pv 1) (nomark _)) (pw_and1 (pt_val (pe_ok O_begins hr rfl pass0 (pa_cons (pv 2) (pa_cons (pv 1) pa_nil)))))))
        (pss_one (ps_ret (pv 2)))
        pss_nil)))
    (pss_one (ps_ret pe_non))), ?_⟩
  obtain ⟨a, M, x, rfl, hM, hs, hx, q⟩ := h
  refine q_forT (g := gName 2) (ev_var rfl) hM (fun i σ H' => (∃ v, σ = [some (.ref a), some (S x), v]) ∧ Ex H H' ∧ (M.take i).find? (fun m => decide (m ≠ x) && m.isPrefixOf x) = none) (fun H1 e1 => ⟨⟨none, rfl⟩, e1, rfl⟩) (fun i σ H' _ h => ex_t h.2.1 hM) (fun i y σ H' hy ⟨⟨v, hσ⟩, e, hf⟩ => ?_) fun σ H' ⟨⟨v, hσ⟩, e, hf⟩ => ?_
  · subst hσ
    obtain ⟨m, hm, rfl⟩ := pAt_S (H := H) hy
    have hmM := List.mem_of_getElem? hm
    have ts := take_snoc hm
    refine s_when (et_ahead (K := K) (ev_var rfl) (ev_var rfl) (hs m hmM) hx) (fun hb H2 e2 => ?_) fun hb H2 e2 => ?_
    · have hfm : ahead M x = some m := by
        unfold ahead
        rw [← List.take_append_drop (i + 1) M, List.find?_append, ts, List.find?_append, hf, List.find?_cons_of_pos (by exact hb)]
        rfl
      rw [hfm] at q
      exact s_ret (ev_var rfl) fun H3 e3 => q H3 ((e.trans e2).trans e3)
    · refine ⟨⟨_, rfl⟩, e.trans e2, ?_⟩
      rw [ts, List.find?_append, hf, List.find?_cons_of_neg (by rw [hb]; decide)]
      rfl
  · subst hσ
    rw [List.length_map, List.take_length] at hf
    have hfm : ahead M x = none := hf
    rw [hfm] at q
    exact s_ret ev_c fun H3 e3 => q H3 (e.trans e3)
theorem sc_folded_at : FnScope ["found", "way", "rest", "folds", "maker"] ["found", "way"] (defScope (top 31)) := ⟨rfl, rfl, rfl, by decide +kernel, rfl, by decide +kernel, by decide +kernel⟩
theorem ok_folded_at (B : Bu mg) (T : Cst K mg) (O_maker_ahead : Ok P w K mg base CX0 2 "maker_ahead" (sp_maker_ahead K)) (O_seen_in : Ok P w K mg base CX0 4 "seen_in" sp_seen_in) (D : Dn K mg "folded_at" 31) : Ok P w K mg base CX0 5 "folded_at" (sp_folded_at K) := by
  refine D.ok sc_folded_at (fun _ _ _ _ _ _ us hl => match us, hl with | [_, _], _ => rfl) (by rintro vs H Q E ⟨a, l, x, rfl, _⟩; rfl) fun f cdv A outer s H vs Q E hr h => ⟨_, (pss_cons (ps_set (i := 2) sc_folded_at.nd rfl (.inl rfl) (pv 1))
    (pss_cons (ps_set (i := 3) sc_folded_at.nd rfl (.inl rfl) (pe_lst pa_nil))
    (pss_cons (ps_set (i := 4) sc_folded_at.nd rfl (.inl rfl) (pe_ok O_maker_ahead hr rfl pass0 (pa_cons (pv 0) (pa_cons (pv 2) pa_nil))))
    (pss_cons (ps_while PassesOwn.never (pt_cmpR op_notN (pv 4) pe_non (nomark _))
      (pss_cons (ps_set (i := 2) sc_folded_at.nd rfl (.inl rfl) (pe_ok O_seen_in hr rfl pass0 (pa_cons (pv 2) (pa_cons (pv 4) pa_nil))))
      (pss_cons (ps_expr (pe_bm PySem.F.plainAttrs_list PySem.F.slot_list_append PySem.F.type_list_append mt_append (pv 3) (pa_cons (pv 4) pa_nil)))
      (pss_one (ps_set (i := 4) sc_folded_at.nd rfl (.inl rfl) (pe_ok O_maker_ahead hr rfl pass0 (pa_cons (pv 0) (pa_cons (pv 2) pa_nil))))))))
    (pss_one (ps_ret (pe_tup (pa_cons (pv 2) (pa_cons (pe_callTy call_tuple_of (by rfl) B.tuple (by decide +kernel) (pa_cons (pv 3) pa_nil)) pa_nil))))))))), ?_⟩
  obtain ⟨a, M, x, rfl, hM, wM, hs, wx, hx, q⟩ := h
  refine q_asg (ev_var rfl) fun H1 e1 => q_asgL (el_lst ea_nil (by show 0 ≤ 100000; decide)) fun g H2 hg e2 h2 => ?_
  have hg0 : H g = none := fresh_back e1 hg
  have hah : ∀ {σ : L2.St} {H' : Hp} {r : W} {i : Nat}, Ex H H' → σ[0]? = some (some (.ref a)) → σ[2]? = some (some (S r)) → r.length ≤ 40000 → Ev (tCall (sp_maker_ahead K) [] E0 (tCons (tVar 0) (tCons (tVar 2) tNil))) σ H' (optS (ahead M r)) := fun e s0 s2 hr =>
    ev_ok (ea_cons (ev_var s0) (ea_cons (ev_var s2) ea_nil)) fun H3 Q e3 q => ⟨a, M, _, rfl, ex_t (e.trans e3) hM, hs, hr, q⟩
  refine q_asg (hah (i := 0) (e1.trans e2) rfl rfl hx) fun H3 e3 => ?_
  refine q_while (fun m σ H' => ∃ r fs, σ = [some (.ref a), some (S x), some (S r), some (.ref g), some (optS (ahead M r))] ∧ Way r ∧ r.length = m ∧ m ≤ x.length ∧ fs.length + m ≤ x.length ∧ Ex H H' ∧ H' g = some (.lst (Ss fs)) ∧ fold M x = ((fold M r).1, fs ++ (fold M r).2)) x.length
    ⟨x, [], rfl, wx, rfl, Nat.le_refl _, by simp, (e1.trans e2).trans e3, e3 _ _ h2, rfl⟩ fun m σ H' ⟨r, fs, hσ, wr, hm, hmx, hfm, e, hgl, hf⟩ => ?_
  subst hσ
  refine ⟨_, et_test (ev_notN (ev_var rfl)), fun hb H4 e4 => ?_, fun hb H4 e4 => ?_⟩
  · rw [dec_optS] at hb
    obtain ⟨mk, hmk⟩ : ∃ mk, ahead M r = some mk := by
      cases h : ahead M r with
      | none => rw [h] at hb; cases hb
      | some m => exact ⟨m, rfl⟩
    obtain ⟨m1, m2, m3⟩ := ahead_some hmk
    have wm := wM mk m1
    have hlt := sn_short wm.1 wr.1 wm.2.1 m3 m2
    have hml := hs mk m1
    have wn : Way (sn r mk) := wr.sn wm
    refine ⟨fun σ H' => ∃ r' fs', σ = [some (.ref a), some (S x), some (S r'), some (.ref g), some (optS (ahead M r'))] ∧ r' = sn r mk ∧ fs' = fs ++ [mk] ∧ Ex H H' ∧ H' g = some (.lst (Ss fs')), fun σ2 H5 ⟨r', fs', g1, g2, g3, g4, g5⟩ => ⟨(sn r mk).length, by omega, r', fs', g1, by rw [g2]; exact wn, by rw [g2], by omega, ?_, g4, g5, ?_⟩, ?_⟩
    · rw [g3, List.length_append]
      simp only [List.length_cons, List.length_nil]
      omega
    · rw [hf, fold_some wM wr hmk, g2, g3]
      simp
    · rw [hmk]
      refine q_asg (ev_s2 (ev_var rfl) (ev_var rfl) ⟨by omega, by omega⟩) fun H5 e5 => ?_
      refine q_app (e5 _ _ (e4 _ _ hgl)) (ev_var rfl) (ev_var rfl) (by show (Ss fs).length < 100000; rw [List.length_map]; omega) fun H6 e6 => ?_
      have e7 : Ex H (upd H6 g (.lst (Ss fs ++ [S mk]))) := Ex.mut (((e.trans e4).trans e5).trans e6) hg0
      refine s_asg (hah (i := 0) e7 rfl rfl (by omega)) fun H7 e8 => ⟨sn r mk, fs ++ [mk], rfl, rfl, rfl, e7.trans e8, ?_⟩
      have : (upd H6 g (.lst (Ss fs ++ [S mk]))) g = some (.lst (Ss (fs ++ [mk]))) := by
        rw [upd_same]
        unfold Ss
        rw [List.map_append]
        rfl
      exact e8 _ _ this
  · rw [dec_optS] at hb
    have hno : ahead M r = none := by
      cases h : ahead M r with
      | none => rfl
      | some m => rw [h] at hb; cases hb
    have hfr := fold_none hno
    rw [hf, hfr, List.append_nil] at q
    refine ⟨S r, rfl, .ref g, rfl, g, Ss fs, rfl, .inl ⟨sq_of (e4 _ _ hgl), fun t ht => ⟨by show 2 ≤ sizeLine; decide, fun p hp => q p t _ ?_ ?_ ?_ upd_same⟩⟩⟩
    · exact fresh_back ((e.trans e4).trans (Ex.new ht)) hp
    · exact ((e.trans e4).trans (Ex.new ht)).trans (Ex.new hp)
    · rw [upd_ne (ne_of_none upd_same hp), upd_same]
end
end Mir
/-! part W4 -/
set_option Elab.async false
set_option linter.all false
set_option maxRecDepth 100000
set_option maxHeartbeats 4000000
/-! The walk: makers, chains, within. -/
namespace Mir
open PySem PySem.Spec PyProof.Rows L2 Evl
section
variable {K : PySem.W.Frag} {σ : L2.St} {H H' : Hp} {ta tb te tl : TE} {sp : Sp} {E : XK} {v : V}
theorem eu_okL {xs ys : List V} (h : EvL te σ H xs) (hs : ∀ p H1 Q, Ex H H1 → H1 p = some (.lst xs) → Rt ys H1 Q → sp [.ref p] H1 Q E) : EvU (tCall sp [] E (tCons te tNil)) σ H ys := fun H1 e Q q => h H1 e _ fun p H2 hp e2 hx =>
  hs p H2 Q (e.trans e2) hx fun r H3 hr e3 h3 => q r H3 (fresh_back e2 hr) (e2.trans e3) h3
theorem eu_okU {xs ys : List V} (h : EvU te σ H xs) (hs : ∀ p H1 Q, Ex H H1 → H1 p = some (.tup xs) → Rt ys H1 Q → sp [.ref p] H1 Q E) : EvU (tCall sp [] E (tCons te tNil)) σ H ys := fun H1 e Q q => h H1 e _ fun p H2 hp e2 hx =>
  hs p H2 Q (e.trans e2) hx fun r H3 hr e3 h3 => q r H3 (fresh_back e2 hr) (e2.trans e3) h3
theorem el_star {xs : List V} (h : Ev te σ H v) (h2 : EvL tl σ H xs) (hz : xs.length ≤ 1000) : EvL (tLst (tCons te (tStar K tl tNil))) σ H (v :: xs) := fun H1 e Q q => h H1 e _ fun H2 e2 => h2 H2 (e.trans e2) _ fun p H3 hp e3 hx =>
  ⟨p, xs, rfl, .inl (sq_of hx), by
    show (v :: (xs ++ [])).length ≤ sizeLine
    rw [List.append_nil, List.length_cons]
    exact big (by omega), fun r hr => q r _ (fresh_back (e2.trans e3) hr) ((e2.trans e3).trans (Ex.new hr)) (by
    show (upd H3 r (.lst (v :: (xs ++ [])))) r = _
    rw [List.append_nil]
    exact upd_same)⟩
theorem el_listT {xs : List V} (h : EvU te σ H xs) : EvL (tCB (rListS K) (tCons te tNil)) σ H xs := fun H1 e Q q => h H1 e _ fun p H2 hp e2 hx => ⟨p, xs, rfl, .inr (st_of hx), fun l hl => q l _ (fresh_back e2 hl) (e2.trans (Ex.new hl)) upd_same⟩
/-- folded_at(..)[0] -/
theorem ev_fold0 {a : Addr} {M : List W} {x : W} (ha : Ev ta σ H (.ref a)) (hb : Ev tb σ H (S x)) (hM : SqT K H a (Ss M)) (wM : Ways M) (hs : Shr 40000 M) (wx : Way x) (hx : x.length ≤ 40000) :
    Ev (tOp (rIxT K) (tCall (sp_folded_at K) [] E (tCons ta (tCons tb tNil))) (tC (.int 0))) σ H (S (fold M x).1) := fun H1 e Q q => ha H1 e _ fun H2 e2 => hb H2 (e.trans e2) _ fun H3 e3 =>
  ⟨a, M, x, rfl, ex_t ((e.trans e2).trans e3) hM, wM, hs, wx, hx, fun p t H4 hp e4 ht hh => ⟨p, [S (fold M x).1, .ref t], 0, _, rfl, rfl, st_of hh, rfl, q H4 ((e2.trans e3).trans e4)⟩⟩
end
abbrev sp_is_of (K : PySem.W.Frag) : Sp := fun vs H Q _ => ∃ (a : Addr) (ws : List W) (x : W), vs = [.ref a, S x] ∧ SqT K H a (Ss ws) ∧ Ways ws ∧ ws.length < 64 ∧ Shr 40000 ws ∧ Way x ∧ x.length ≤ 40000 ∧ Rv (.bl (decide ((fold (mk ws) x).1 ∈ mk ws))) H Q
/-- a chain: the folds back from the door that is left, or none -/
def chn (ws : List W) (x : W) : Option (List W) := if (fold (mk ws) x).1 ∈ mk ws then some ((fold (mk ws) x).1 :: (fold (mk ws) x).2.reverse) else none
def Ro (o : Option (List W)) (H : Hp) (Q : VK) : Prop := match o with
  | none => Rv .non H Q
  | some l => Rt (Ss l) H Q
abbrev sp_chain_to (K : PySem.W.Frag) : Sp := fun vs H Q _ => ∃ (a : Addr) (ws : List W) (x : W), vs = [.ref a, S x] ∧ SqT K H a (Ss ws) ∧ Ways ws ∧ ws.length < 64 ∧ Shr 40000 ws ∧ Way x ∧ x.length ≤ 40000 ∧ Ro (chn ws x) H Q
abbrev sp_within (K : PySem.W.Frag) : Sp := fun vs H Q _ => ∃ (a b : Addr) (us ws : List W), vs = [.ref a, .ref b] ∧ SqT K H a (Ss us) ∧ Ways us ∧ us.length < 64 ∧ Shr 40000 us ∧ SqT K H b (Ss ws) ∧ Ways ws ∧ ws.length < 64 ∧ Shr 40000 ws ∧ Rv (.bl (wi us ws)) H Q
section
variable {P : Program} {w : World} {K : PySem.W.Frag} {mg : Str → Option Value} {base : Heap}
theorem shr_mk {ws : List W} (h : Ways ws) (hs : Shr 40000 ws) : Shr 40000 (mk ws) := mk_short h hs
theorem lost_rev (found : List W) (rest : W) : found.filter (fun y => decide (y ≠ rest) && rest.isPrefixOf y) = lostOf found rest := rfl
theorem kept_rev (found : List W) (rest : W) : found.filter (fun y => !decide (y ∈ lostOf found rest)) = keptOf found rest := by
  unfold keptOf
  congr 1
  funext y
  simp
theorem lost_len (found : List W) (rest : W) : (lostOf found rest).length + (keptOf found rest).length = found.length := by
  rw [kept_eq]
  exact len_filter _ found
theorem et_lost {σ : L2.St} {H : Hp} {ta tb : TE} {m x : W} {E : XK} (h1 : Ev ta σ H (S m)) (h2 : Ev tb σ H (S x)) (hm : m.length ≤ 40000) (hx : x.length ≤ 40000) :
    EvT (tAnd (tTest (tOp rNe ta tb)) (tB (tCall sp_begins [] E (tCons tb (tCons ta tNil))))) σ H (decide (m ≠ x) && x.isPrefixOf m) := by
  refine et_is (et_and (et_test (ev_neS h1 h2)) fun _ => et_B (ev_s2 h2 h1 ⟨by omega, by omega⟩)) ?_
  simp
theorem sc_makers : FnScope ["ways", "left", "found", "rest", "lost", "way"] ["ways"] (defScope (top 32)) := ⟨rfl, rfl, rfl, by decide +kernel, rfl, by decide +kernel, by decide +kernel⟩
theorem ok_makers (B : Bu mg) (T : Cst K mg) (O_begins : Ok P w K mg base CX0 1 "begins" sp_begins) (O_set_of : Ok P w K mg base CX0 1 "set_of" (sp_set_of K)) (O_folded_at : Ok P w K mg base CX0 5 "folded_at" (sp_folded_at K)) (D : Dn K mg "makers" 32) : Ok P w K mg base CX0 6 "makers" (sp_makers K) := by
  refine D.ok sc_makers (fun _ _ _ _ _ _ us hl => match us, hl with | [_], _ => rfl) (by rintro vs H Q E ⟨a, l, rfl, _⟩; rfl) fun f cdv A outer s H vs Q E hr h => ⟨_, (pss_cons (ps_set (i := 1) sc_makers.nd rfl (.inl rfl) (pe_callTy call_list_of (by rfl) B.list (by decide +kernel) (pa_cons (pe_ok O_set_of hr rfl pass0 (pa_cons (pv 0) pa_nil)) pa_nil)))
    (pss_cons (ps_set (i := 2) sc_makers.nd rfl (.inl rfl) (pe_tup pa_nil))
    (pss_cons (ps_while PassesOwn.never (pt_cmpR op_gt (pe_callB call_len_seq (by rfl) B.len PySem.boot_len (pa_cons (pv 1) pa_nil)) pe_int (nomark _))
      (pss_cons (ps_set (i := 3) sc_makers.nd rfl (.inr rfl) (pe_ix ix_tup (pe_ok O_folded_at hr rfl pass0 (pa_cons (pv 2) (pa_cons (pe_bm0 PySem.F.plainAttrs_list PySem.F.slot_list_pop PySem.F.type_list_pop mt_pop (pv 1)) pa_nil))) pe_int (fun _ _ => rfl)))
      (pss_cons (ps_set (i := 4) sc_makers.nd rfl (.inr rfl) (pe_lc (own := [("way", 5)]) (g := (gName 5)) (tt := (tAnd (tTest (tOp rNe (tVar 5) (tVar 3))) (tB (tCall sp_begins [] E0 (tCons (tVar 3) (tCons (tVar 5) tNil)))))) (te := (tVar 5)) rfl sc_makers.nd (pi_tup (pv 2)) (blkOk_by (N := ["ways", "left", "found", "rest", "lost", "way"]) (sc := defScope (top 32)) (by decide +kernel)) (fun _ _ _ _ _ => (pg_name (i := 5) sc_makers.nd rfl (.inl rfl))) (fun _ _ _ _ _ => pts_one (PW.pt (pw_and (pt_cmpR op_ne (pv 5) (pv 3) (nomark _)) (pw_and1 (pt_val (pe_ok O_begins hr rfl pass0 (pa_cons (pv 3) (pa_cons (pv 5) pa_nil)))))))) (fun _ _ _ _ _ => (pv 5))))
      (pss_cons (ps_expr (pe_bm PySem.F.plainAttrs_list PySem.F.slot_list_extend PySem.F.type_list_extend mt_extend (pv 1) (pa_cons (pv 4) pa_nil)))
      (pss_one (ps_set (i := 2) sc_makers.nd rfl (.inl rfl) (pe_ok O_set_of hr rfl pass0 (pa_cons (pe_lst (pa_cons (pv 3) (pa_star (pe_lc (own := [("way", 5)]) (g := (gName 5)) (tt := (tTest (tOp (rIn K true) (tVar 5) (tVar 4)))) (te := (tVar 5)) rfl sc_makers.nd (pi_tup (pv 2)) (blkOk_by (N := ["ways", "left", "found", "rest", "lost", "way"]) (sc := defScope (top 32)) (by decide +kernel)) (fun _ _ _ _ _ => (pg_name (i := 5) sc_makers.nd rfl (.inl rfl))) (fun _ _ _ _ _ => pts_one (pt_cmpR op_notIn_seq (pv 5) (pv 4) (by rfl))) (fun _ _ _ _ _ => (pv 5))) pa_nil))) pa_nil))))))))
    (pss_one (ps_ret (pv 2)))))), ?_⟩
  obtain ⟨a, ws, rfl, hx, ww, hl, hs, q⟩ := h
  refine q_asgL (el_listT (eu_ok (ea_cons (ev_var rfl) ea_nil) fun H1 Q e q => ⟨a, ws, rfl, .inr (ex_t e hx), hl, q⟩)) fun g H1 hg e1 h1 => ?_
  refine q_asgU (eu_tup ea_nil (by show 0 ≤ 100000; decide)) fun p0 H2 hp0 e2 h2 => ?_
  refine q_while (fun m σ H' => ∃ left found p y3 y4 y5, σ = [some (.ref a), some (.ref g), some (.ref p), y3, y4, y5] ∧ MS left found ∧ meas left found ≤ m ∧ mkN m left found = mk ws ∧ left.length + found.length < 64 ∧ Shr 40000 left ∧ Shr 40000 found ∧ Ex H H' ∧ H p = none ∧ H' g = some (.lst (Ss left)) ∧ H' p = some (.tup (Ss found))) (meas (setOf ws) [])
    ⟨setOf ws, [], p0, none, none, none, rfl, ms_start ww, Nat.le_refl _, rfl, ?_, fun x hx => hs x (mem_setOf.mp hx), fun x hx => (nomatch hx), e1.trans e2, fresh_back e1 hp0, e2 _ _ h1, h2⟩ fun m σ H' ⟨left, found, p, y3, y4, y5, hσ, ms, hm, hN, hc, hsl, hsf, e, hp, hgl, hpf⟩ => ?_
  · have := len_setOf ws
    simp only [List.length_nil]
    omega
  subst hσ
  rcases snocW left with el | ⟨l, x, el⟩
  · subst el
    refine ⟨false, et_is (et_test (ev_gtI (ev_len (ev_var rfl) (sq_of hgl)) ev_c)) rfl, (fun z => nomatch z), fun _ H3 e3 => ?_⟩
    rw [mkN_nil] at hN
    rw [hN] at hpf
    have q' := q
    refine s_ret (ev_var rfl) fun H4 e4 => ?_
    exact q p H4 hp ((e.trans e3).trans e4) (e4 _ _ (e3 _ _ hpf))
  · subst el
    have wx : Way x := ms.wl x (by simp)
    have hxl : x.length ≤ 40000 := hsl x (by simp)
    have ff := fold_facts ms.wf wx
    refine ⟨true, et_is (et_test (ev_gtI (ev_len (ev_var rfl) (sq_of hgl)) ev_c)) (by
      simp only [Ss, List.length_map, List.length_append, List.length_cons, List.length_nil, decide_eq_true_eq]
      omega), fun _ H3 e3 => ?_, (fun z => nomatch z)⟩
    obtain ⟨m', rfl⟩ : ∃ m', m = m' + 1 := ⟨m - 1, by
      have := ms.less
      omega⟩
    rw [mkN_snoc] at hN
    have hless := ms.less
    have hll := lost_len found (fold found x).1
    rw [List.length_append] at hc
    simp only [List.length_cons, List.length_nil] at hc
    refine ⟨fun σ H' => ∃ p y3 y4 y5, σ = [some (.ref a), some (.ref g), some (.ref p), y3, y4, y5] ∧ Ex H H' ∧ H p = none ∧ H' g = some (.lst (Ss (l ++ lostOf found (fold found x).1))) ∧ H' p = some (.tup (Ss (setOf ((fold found x).1 :: keptOf found (fold found x).1)))), fun σ2 H4 ⟨p', y3, y4, y5, g1, g2, g3, g4, g5⟩ =>
      ⟨m', by omega, _, _, p', y3, y4, y5, g1, ms.step, by omega, hN, ?_, ?_, ?_, g2, g3, g4, g5⟩, ?_⟩
    · have := len_setOf ((fold found x).1 :: keptOf found (fold found x).1)
      rw [List.length_cons] at this
      rw [List.length_append]
      omega
    · intro y hy
      rcases List.mem_append.mp hy with hy | hy
      · exact hsl y (List.mem_append_left _ hy)
      · exact hsf y (mem_lost.mp hy).1
    · intro y hy
      rcases List.mem_cons.mp (mem_setOf.mp hy) with rfl | hy
      · exact Nat.le_trans ff.2.2.1 hxl
      · exact hsf y (mem_kept.mp hy).1
    -- rest = folded_at(found, left.pop())[0]
    have eP : Ex H (upd H3 g (.lst (Ss l))) := Ex.mut (e.trans e3) hg
    have hpg : p ≠ g := fun z => by
      rw [z, hgl] at hpf
      cases hpf
    have hlast : (Ss (l ++ [x]))[(Ss (l ++ [x])).length - 1]? = some (S x) := by
      unfold Ss
      rw [List.map_append, List.length_append]
      simp
    have hdl : (Ss (l ++ [x])).dropLast = Ss l := by
      unfold Ss
      rw [List.map_append]
      simp
    refine ⟨.ref p, rfl, .ref g, rfl, .inl ⟨rfl, _, sq_of (e3 _ _ hgl)⟩, g, Ss (l ++ [x]), S x, rfl, rfl, e3 _ _ hgl, hlast, ?_⟩
    rw [hdl]
    refine ⟨p, found, x, rfl, st_of (by rw [upd_ne hpg]; exact e3 _ _ hpf), ms.wf, hsf, wx, hxl, fun r t H4 hr e4 ht hh => ⟨r, [S (fold found x).1, .ref t], 0, S (fold found x).1, rfl, rfl, st_of hh, rfl, ?_⟩⟩
    have hg4 : H4 g = some (.lst (Ss l)) := e4 _ _ upd_same
    have hp4 : H4 p = some (.tup (Ss found)) := e4 _ _ (by rw [upd_ne hpg]; exact e3 _ _ hpf)
    have eH4 : Ex H H4 := eP.trans e4
    have hrl : (fold found x).1.length ≤ 40000 := Nat.le_trans ff.2.2.1 hxl
    -- lost = [way for way in found if way != rest and begins(rest, way)]
    refine q_asgL (el_lcF (l := found) (fun y => decide (y ≠ (fold found x).1) && (fold found x).1.isPrefixOf y) (ei_tup (ev_var rfl) (st_of hp4)) (by omega) (fun _ => rfl) fun y hy H5 e5 => ⟨et_lost (ev_var rfl) (ev_var rfl) (hsf y hy) hrl, ev_var rfl⟩) fun b H5 hb e5 h5 => ?_
    -- left.extend(lost)
    have hg5 : H5 g = some (.lst (Ss l)) := e5 _ _ hg4
    have hbg : b ≠ g := fun z => by
      rw [z, hg4] at hb
      cases hb
    have hrst : H5 b = some (.lst (Ss (lostOf found (fold found x).1))) := h5
    refine ⟨.ref g, rfl, .inl ⟨rfl, _, sq_of hg5⟩, .ref b, rfl, g, b, Ss l, _, rfl, rfl, hg5, hrst, ?_, ?_⟩
    · show (Ss l).length + (Ss _).length ≤ sizeLine
      rw [List.length_map, List.length_map]
      exact big (by omega)
    -- found = set_of([rest, *[way for way in found if way not in lost]])
    have e6 : Ex H (upd H5 g (.lst (Ss l ++ Ss (lostOf found (fold found x).1)))) := Ex.mut (eH4.trans e5) hg
    have hp6 : (upd H5 g (.lst (Ss l ++ Ss (lostOf found (fold found x).1)))) p = some (.tup (Ss found)) := by
      rw [upd_ne hpg]
      exact e5 _ _ hp4
    have hb6 : (upd H5 g (.lst (Ss l ++ Ss (lostOf found (fold found x).1)))) b = some (.lst (Ss (lostOf found (fold found x).1))) := by
      rw [upd_ne hbg]
      exact hrst
    refine s_asgU (xs := Ss (setOf ((fold found x).1 :: keptOf found (fold found x).1))) (eu_okL (xs := Ss ((fold found x).1 :: keptOf found (fold found x).1)) (el_star (ev_var rfl) ?_ ?_) fun r H7 Q e7 h7 q => ⟨r, _, rfl, .inl (sq_of h7), ?_, q⟩) fun p' H7 hp' e7 h7 => ⟨p', _, _, _, rfl, e6.trans e7, fresh_back e6 hp', ?_, h7⟩
    · rw [← kept_rev]
      refine el_lcF (l := found) (fun y => !decide (y ∈ lostOf found (fold found x).1)) (ei_tup (ev_var rfl) (st_of hp6)) (by omega) (fun _ => rfl) fun y hy H8 e8 => ⟨et_test (ev_niSs (ev_var rfl) (ev_var rfl) (.inl (sq_of (e8 _ _ hb6)))), ev_var rfl⟩
    · rw [List.length_map]
      omega
    · have : (upd H5 g (.lst (Ss l ++ Ss (lostOf found (fold found x).1)))) g = some (.lst (Ss (l ++ lostOf found (fold found x).1))) := by
        rw [upd_same]
        unfold Ss
        rw [List.map_append]
      exact e7 _ _ this
    · rw [List.length_cons]
      omega
theorem ok_makers_makers (O : Ok P w K mg base CX0 6 "makers" (sp_makers K)) (h : mg "makers_makers" = mg "makers") : Ok P w K mg base CX0 6 "makers_makers" (sp_makers K) := by
  obtain ⟨f, fd, ps, h1, h2, h3, h4⟩ := O.ex
  exact ⟨f, fd, ps, h.trans h1, h2, h3, h4⟩
theorem sc_is_of : FnScope ["ways", "way", "own"] ["ways", "way"] (defScope (top 34)) := ⟨rfl, rfl, rfl, by decide +kernel, rfl, by decide +kernel, by decide +kernel⟩
theorem ok_is_of (B : Bu mg) (T : Cst K mg) (O_makers_makers : Ok P w K mg base CX0 6 "makers_makers" (sp_makers K)) (O_folded_at : Ok P w K mg base CX0 5 "folded_at" (sp_folded_at K)) (D : Dn K mg "is_of" 34) : Ok P w K mg base CX0 7 "is_of" (sp_is_of K) := by
  refine D.ok sc_is_of (fun _ _ _ _ _ _ us hl => match us, hl with | [_, _], _ => rfl) (by rintro vs H Q E ⟨a, l, x, rfl, _⟩; rfl) fun f cdv A outer s H vs Q E hr h => ⟨_, (pss_cons (ps_set (i := 2) sc_is_of.nd rfl (.inl rfl) (pe_ok O_makers_makers hr rfl pass0 (pa_cons (pv 0) pa_nil)))
    (pss_one (ps_ret (pe_cmpR op_in_seq (pe_ix ix_tup (pe_ok O_folded_at hr rfl pass0 (pa_cons (pv 2) (pa_cons (pv 1) pa_nil))) pe_int (fun _ _ => rfl)) (pv 2) (by rfl))))), ?_⟩
  obtain ⟨a, ws, x, rfl, ha, ww, hl, hs, wx, hx, q⟩ := h
  refine q_asgU (eu_ok (ea_cons (ev_var rfl) ea_nil) fun H1 Q e q => ⟨a, ws, rfl, ex_t e ha, ww, hl, hs, q⟩) fun p H1 hp e1 h1 => ?_
  exact s_ret (ev_inSs (ev_fold0 (ev_var rfl) (ev_var rfl) (st_of h1) (mk_ways ww) (shr_mk ww hs) wx hx) (ev_var rfl) (.inr (st_of h1))) fun H2 e2 => q H2 (e1.trans e2)
theorem sc_chain_to : FnScope ["ways", "way", "own", "rest", "folds"] ["ways", "way"] (defScope (top 35)) := ⟨rfl, rfl, rfl, by decide +kernel, rfl, by decide +kernel, by decide +kernel⟩
theorem ok_chain_to (B : Bu mg) (T : Cst K mg) (O_makers_makers : Ok P w K mg base CX0 6 "makers_makers" (sp_makers K)) (O_folded_at : Ok P w K mg base CX0 5 "folded_at" (sp_folded_at K)) (D : Dn K mg "chain_to" 35) : Ok P w K mg base CX0 7 "chain_to" (sp_chain_to K) := by
  refine D.ok sc_chain_to (fun _ _ _ _ _ _ us hl => match us, hl with | [_, _], _ => rfl) (by rintro vs H Q E ⟨a, l, x, rfl, _⟩; rfl) fun f cdv A outer s H vs Q E hr h => ⟨_, (pss_cons (ps_set (i := 2) sc_chain_to.nd rfl (.inl rfl) (pe_ok O_makers_makers hr rfl pass0 (pa_cons (pv 0) pa_nil)))
    (pss_cons (ps_asg (pe_ok O_folded_at hr rfl pass0 (pa_cons (pv 2) (pa_cons (pv 1) pa_nil))) (pg_tup rfl (pgs_cons (pg_name (i := 3) sc_chain_to.nd rfl (.inl rfl)) (pgs_cons (pg_name (i := 4) sc_chain_to.nd rfl (.inl rfl)) pgs_nil))))
    (pss_one (ps_ret (pe_ifExp (pt_cmpR op_in_seq (pv 3) (pv 2) (by rfl)) (pe_tup (pa_cons (pv 3) (pa_star (pe_revT (pv 4)) pa_nil))) pe_non))))), ?_⟩
  obtain ⟨a, ws, x, rfl, ha, ww, hl, hs, wx, hx, q⟩ := h
  refine q_asgU (eu_ok (ea_cons (ev_var rfl) ea_nil) fun H1 Q e q => ⟨a, ws, rfl, ex_t e ha, ww, hl, hs, q⟩) fun p H1 hp e1 h1 => ?_
  have hff := fold_facts (mk_ways ww) wx
  refine ⟨.ref p, rfl, S x, rfl, p, mk ws, x, rfl, st_of h1, mk_ways ww, shr_mk ww hs, wx, hx, fun r t H2 hr e2 ht hh => ?_⟩
  refine ⟨r, [S (fold (mk ws) x).1, .ref t], rfl, st_of hh, rfl, S (fold (mk ws) x).1, [.ref t], rfl, .ref t, [], rfl, rfl, ?_⟩
  by_cases hin : (fold (mk ws) x).1 ∈ mk ws
  · have hch : chn ws x = some ((fold (mk ws) x).1 :: (fold (mk ws) x).2.reverse) := if_pos hin
    rw [hch] at q
    refine et_is (et_test (ev_inSs (K := K) (ev_var (v := S (fold (mk ws) x).1) rfl) (ev_var rfl) (.inr (st_of (e2 _ _ h1))))) (decide_eq_true hin) H2 (Ex.refl H2) _ fun H3 e3 => ?_
    refine ⟨S (fold (mk ws) x).1, rfl, .ref t, rfl, t, _, rfl, st_of (e3 _ _ ht), fun u hu => ⟨u, _, rfl, .inr (st_of upd_same), ?_, fun r2 hr2 => q r2 _ ?_ ?_ ?_⟩⟩
    · show (S (fold (mk ws) x).1 :: ((Ss (fold (mk ws) x).2).reverse ++ [])).length ≤ sizeLine
      rw [List.append_nil, List.length_cons, List.length_reverse, List.length_map]
      exact big (by omega)
    · exact fresh_back (((e1.trans e2).trans e3).trans (Ex.new hu)) hr2
    · exact (((e1.trans e2).trans e3).trans (Ex.new hu)).trans (Ex.new hr2)
    · rw [upd_same]
      show some (HO.tup (S (fold (mk ws) x).1 :: ((Ss (fold (mk ws) x).2).reverse ++ []))) = _
      rw [List.append_nil]
      unfold Ss
      rw [List.map_cons, List.map_reverse]
  · have hch : chn ws x = none := if_neg hin
    rw [hch] at q
    refine et_is (et_test (ev_inSs (K := K) (ev_var (v := S (fold (mk ws) x).1) rfl) (ev_var rfl) (.inr (st_of (e2 _ _ h1))))) (decide_eq_false hin) H2 (Ex.refl H2) _ fun H3 e3 => ?_
    exact q H3 ((e1.trans e2).trans e3)
theorem sc_within : FnScope ["one", "other", "own", "way"] ["one", "other"] (defScope (top 36)) := ⟨rfl, rfl, rfl, by decide +kernel, rfl, by decide +kernel, by decide +kernel⟩
theorem ok_within (B : Bu mg) (T : Cst K mg) (O_makers_makers : Ok P w K mg base CX0 6 "makers_makers" (sp_makers K)) (O_folded_at : Ok P w K mg base CX0 5 "folded_at" (sp_folded_at K)) (D : Dn K mg "within" 36) : Ok P w K mg base CX0 7 "within" (sp_within K) := by
  refine D.ok sc_within (fun _ _ _ _ _ _ us hl => match us, hl with | [_, _], _ => rfl) (by rintro vs H Q E ⟨a, b, l, x, rfl, _⟩; rfl) fun f cdv A outer s H vs Q E hr h => ⟨_, (pss_cons (ps_set (i := 2) sc_within.nd rfl (.inr rfl) (pe_ok O_makers_makers hr rfl pass0 (pa_cons (pv 1) pa_nil)))
    (pss_one (ps_ret (pe_callB (cr_all rfl) (by rfl) B.all (by decide +kernel) (pa_cons (pe_lc (own := [("way", 3)]) (g := (gName 3)) (tt := tYes) (te := (tOp (rIn K false) (tOp (rIxT K) (tCall (sp_folded_at K) [] E0 (tCons (tVar 2) (tCons (tVar 3) tNil))) (tC (.int 0))) (tVar 2))) rfl sc_within.nd (pi_tup (pv 0)) (blkOk_by (N := ["one", "other", "own", "way"]) (sc := defScope (top 36)) (by decide +kernel)) (fun _ _ _ _ _ => (pg_name (i := 3) sc_within.nd rfl (.inl rfl))) (fun _ _ _ _ _ => pts_nil) (fun _ _ _ _ _ => (pe_cmpR op_in_seq (pe_ix ix_tup (pe_ok O_folded_at hr rfl pass0 (pa_cons (pv 2) (pa_cons (pv 3) pa_nil))) pe_int (fun _ _ => rfl)) (pv 2) (by rfl)))) pa_nil))))), ?_⟩
  obtain ⟨a, b, us, ws, rfl, ha, wu, hlu, hsu, hb, ww, hl, hs, q⟩ := h
  refine q_asgU (eu_ok (ea_cons (ev_var rfl) ea_nil) fun H1 Q e q => ⟨b, ws, rfl, ex_t e hb, ww, hl, hs, q⟩) fun p H1 hp e1 h1 => ?_
  refine s_ret (v := .bl (wi us ws)) (ev_allW (l := us) (fun x => decide ((fold (mk ws) x).1 ∈ mk ws)) (ei_tup (ev_var rfl) (ex_t e1 ha)) (by omega) (fun _ => rfl) fun x hx H2 e2 => ?_) fun H2 e2 => q H2 (e1.trans e2)
  exact ev_inSs (ev_fold0 (ev_var rfl) (ev_var rfl) (st_of (e2 _ _ h1)) (mk_ways ww) (shr_mk ww hs) (wu x hx) (hsu x hx)) (ev_var rfl) (.inr (st_of (e2 _ _ h1)))
end
end Mir
/-! part W5 -/
set_option Elab.async false
set_option linter.all false
set_option maxRecDepth 100000
set_option maxHeartbeats 4000000
/-! The walk: the doors between two doors. -/
namespace Mir
open PySem PySem.Spec PyProof.Rows L2 Evl
section
variable {K : PySem.W.Frag} {σ : L2.St} {H H' : Hp} {ta tb te tl tl1 : TE} {sp : Sp} {E : XK} {v : V}
/-- some value of which P holds -/
def EvP (te : TE) (σ : L2.St) (H : Hp) (P : V → Hp → Prop) : Prop := ∀ H1, Ex H H1 → ∀ Q : VK, (∀ v H2, Ex H1 H2 → P v H2 → Q v H2) → te σ H1 Q
/-- tuples at all of xs, the k-th as F tells -/
def Tups (F : Nat → List V) (xs : List V) (H : Hp) : Prop := ∀ k v, xs[k]? = some v → ∃ t, v = .ref t ∧ H t = some (.tup (F k))
/-- a new list of n tuples, the k-th as F tells -/
def EvLP (te : TE) (σ : L2.St) (H : Hp) (n : Nat) (F : Nat → List V) : Prop := ∀ H1, Ex H H1 → ∀ Q : VK, (∀ p H2 xs, H1 p = none → Ex H1 H2 → H2 p = some (.lst xs) → xs.length = n → Tups F xs H2 → Q (.ref p) H2) → te σ H1 Q
theorem snoc_at {α : Type} {l : List α} {x v : α} {k : Nat} (h : (l ++ [x])[k]? = some v) : (k < l.length ∧ l[k]? = some v) ∨ (k = l.length ∧ v = x) := by
  by_cases hk : k < l.length
  · rw [List.getElem?_append_left hk] at h
    exact .inl ⟨hk, h⟩
  · rw [List.getElem?_append_right (by omega)] at h
    by_cases h0 : k - l.length = 0
    · rw [h0] at h
      exact .inr ⟨by omega, (Option.some.inj h).symm⟩
    · obtain ⟨m, hm⟩ : ∃ m, k - l.length = m + 1 := ⟨k - l.length - 1, by omega⟩
      rw [hm] at h
      simp at h
/-- [te for x in xs for y in ys], both new tuples -/
theorem el_lc2T {xs ys : List V} {j j1 : Nat} {vs vs1 : List Nat} (F : Nat → List V) (h : EvU tl σ H xs)
    (h1 : ∀ (i : Nat) x, xs[i]? = some x → EvU tl1 ((wipe σ vs).set j (some x)) H ys) (hz : xs.length * ys.length ≤ 10000)
    (hw : ∀ x, wipe ((wipe σ vs).set j (some x)) vs = wipe σ vs) (hw1 : ∀ x y, wipe ((wipe ((wipe σ vs).set j (some x)) vs1).set j1 (some y)) vs1 = wipe ((wipe σ vs).set j (some x)) vs1)
    (he : ∀ (i : Nat) x (i1 : Nat) y, xs[i]? = some x → ys[i1]? = some y → EvU te ((wipe ((wipe σ vs).set j (some x)) vs1).set j1 (some y)) H (F (i * ys.length + i1))) :
    EvLP (tLc2 (iTup K tl) (gName j) tYes (iTup K tl1) (gName j1) tYes te vs vs1) σ H (xs.length * ys.length) F := fun H0 e Q q => h H0 e _ fun a H1 ha e1 hx => by
  refine ⟨a, rfl, ⟨xs, st_of hx⟩, fun D hD => ?_⟩
  let A : Nat → Hp → Prop := fun k H' => Ex H1 H' ∧ ∃ zs, H' D = some (.lst zs) ∧ zs.length = k ∧ Tups F zs H'
  have hA : ∀ {k H2 H3}, A k H2 → Ex H2 H3 → A k H3 := fun {k H2 H3} ⟨a1, zs, a2, a3, a4⟩ e => ⟨a1.trans e, zs, e _ _ a2, a3, fun k v hk => (a4 k v hk).imp fun t ht => ⟨ht.1, e _ _ ht.2⟩⟩
  have hD1 : a ≠ D := ne_of_none hx hD
  refine ⟨fun i m H' => m = xs.length - i ∧ i ≤ xs.length ∧ A (i * ys.length) H', ⟨xs.length, by simp, Nat.zero_le _, Ex.new hD, [], upd_same, by simp, fun k v hk => by simp at hk⟩, fun i m H' ⟨hm, hi, hAi⟩ => ?_⟩
  have hsx : SqT K H' a xs := ex_t hAi.1 (st_of hx)
  by_cases hlt : i < xs.length
  · refine .inr ⟨⟨xs, xs[i], hsx, by simp [hlt]⟩, fun H2 => A ((i + 1) * ys.length) H2, fun H2 h2 => ⟨xs.length - (i + 1), by omega, rfl, by omega, h2⟩, fun x H2 hy => ?_⟩
    obtain ⟨rfl, hy⟩ := hy
    have hxi : xs[i]? = some x := hy xs hsx
    refine ⟨hw x, (et_yes (σ := (wipe σ vs).set j (some x)) (H := H2)) H2 (Ex.refl H2) _ fun H2' e2' => iteT ?_⟩
    have hAi := hA hAi e2'
    refine h1 i x hxi H2' ((e.trans e1).trans hAi.1) _ fun b H3 hb e3 h3 => ?_
    refine ⟨b, rfl, ⟨ys, st_of h3⟩, ?_⟩
    obtain ⟨zs0, hz0, _⟩ := hAi.2
    have hbD : b ≠ D := fun z => by
      rw [z, hz0] at hb
      cases hb
    refine ⟨fun j' k H' => k = ys.length - j' ∧ j' ≤ ys.length ∧ A (i * ys.length + j') H' ∧ H' b = some (.tup ys), ⟨ys.length, by simp, Nat.zero_le _, hA hAi e3, h3⟩, fun j' k H4 ⟨hk, hj, hA4, hb4⟩ => ?_⟩
    have hsy : SqT K H4 b ys := st_of hb4
    by_cases hlt1 : j' < ys.length
    · refine .inr ⟨⟨ys, ys[j'], hsy, by simp [hlt1]⟩, fun H5 => A (i * ys.length + (j' + 1)) H5 ∧ H5 b = some (.tup ys), fun H5 h5 => ⟨ys.length - (j' + 1), by omega, rfl, by omega, h5⟩, fun y H5 hy5 => ?_⟩
      obtain ⟨rfl, hy5⟩ := hy5
      have hyj : ys[j']? = some y := hy5 ys hsy
      refine ⟨hw1 x y, (et_yes (σ := (wipe ((wipe σ vs).set j (some x)) vs1).set j1 (some y)) (H := H5)) H5 (Ex.refl H5) _ fun H5' e5' => iteT ?_⟩
      obtain ⟨b1, zs, b2, b3, b4⟩ := hA hA4 e5'
      have hb4 := e5' _ _ hb4
      refine he i x j' y hxi hyj H5' ((e.trans e1).trans b1) _ fun t H6 ht e6 hv => ⟨zs, e6 _ _ b2, ?_, ⟨Ex.mut (b1.trans e6) hD, zs ++ [.ref t], upd_same, ?_, fun k v' hk => ?_⟩, ?_⟩
      · rw [b3]
        have g1 : i * ys.length + j' < (i + 1) * ys.length := by
          rw [Nat.add_mul]
          omega
        have g2 : (i + 1) * ys.length ≤ xs.length * ys.length := Nat.mul_le_mul_right _ hlt
        exact Nat.lt_of_lt_of_le (show _ < 10001 by omega) (by decide)
      · rw [List.length_append, b3]
        rfl
      · have dif : ∀ {r : Addr} {us : List V}, H6 r = some (.tup us) → r ≠ D := fun hr z => by
          rw [z, e6 _ _ b2] at hr
          cases hr
        rcases snoc_at hk with ⟨_, hk2⟩ | ⟨hk2, rfl⟩
        · obtain ⟨r, hr1, hr2⟩ := b4 k v' hk2
          have hr3 := e6 _ _ hr2
          exact ⟨r, hr1, by rw [upd_ne (dif hr3)]; exact hr3⟩
        · rw [hk2, b3]
          exact ⟨t, rfl, by rw [upd_ne (dif hv)]; exact hv⟩
      · rw [upd_ne hbD]
        exact e6 _ _ hb4
    · have ej : j' = ys.length := by omega
      subst ej
      refine .inl ⟨⟨ys, hsy, Nat.le_refl _⟩, ?_⟩
      show A ((i + 1) * ys.length) H4
      rw [Nat.add_mul, Nat.one_mul]
      exact hA4
  · have ei : i = xs.length := by omega
    subst ei
    obtain ⟨b1, zs, b2, b3, b4⟩ := hAi
    exact .inl ⟨⟨xs, hsx, Nat.le_refl _⟩, q D H' zs (fresh_back e1 hD) (e1.trans b1) b2 b3 b4⟩
theorem q_asgLP {n i : Nat} {F : Nat → List V} {tz : TS} {D : Ends} (h : EvLP te σ H n F) (k : ∀ p H1 xs, H p = none → Ex H H1 → H1 p = some (.lst xs) → xs.length = n → Tups F xs H1 → tz D (σ.set i (some (.ref p))) H1) : tSeq (tAsg te (gName i)) tz D σ H :=
  h H (Ex.refl H) _ fun p H1 xs hp e hx hl ht => k p H1 xs hp e hx hl ht
/-- max(rows, key=len) of tuples of texts: the first of the longest -/
def isBest (L : List (List W)) (i : Nat) : Bool := (List.range L.length).all fun j => decide ((L.getD j []).length ≤ (L.getD i []).length) && (!decide (j < i) || decide ((L.getD j []).length < (L.getD i []).length))
def longest (L : List (List W)) : List W := L.getD (((List.range L.length).find? (isBest L)).getD 0) []
theorem isBest_iff (L : List (List W)) (i : Nat) : isBest L i = true ↔ ∀ j, j < L.length → (L.getD j []).length ≤ (L.getD i []).length ∧ (j < i → (L.getD j []).length < (L.getD i []).length) := by
  unfold isBest
  rw [List.all_eq_true]
  constructor
  · intro h j hj
    have := h j (List.mem_range.mpr hj)
    simp only [Bool.and_eq_true, decide_eq_true_eq, Bool.or_eq_true, Bool.not_eq_true', decide_eq_false_iff_not] at this
    exact ⟨this.1, fun hji => this.2.resolve_left fun z => z hji⟩
  · intro h j hj
    have := h j (List.mem_range.mp hj)
    simp only [Bool.and_eq_true, decide_eq_true_eq, Bool.or_eq_true, Bool.not_eq_true', decide_eq_false_iff_not]
    refine ⟨this.1, ?_⟩
    by_cases hji : j < i
    · exact .inr (this.2 hji)
    · exact .inl hji
theorem longest_of {L : List (List W)} {i : Nat} (hi : i < L.length) (h : isBest L i = true) : longest L = L.getD i [] := by
  unfold longest
  obtain ⟨k, hk⟩ : ∃ k, (List.range L.length).find? (isBest L) = some k := by
    cases e : (List.range L.length).find? (isBest L) with
    | some k => exact ⟨k, rfl⟩
    | none => exact absurd h (by simpa using List.find?_eq_none.mp e i (List.mem_range.mpr hi))
  rw [hk]
  have h1 := List.find?_some hk
  have h2 : k < L.length := List.mem_range.mp (List.mem_of_find?_eq_some hk)
  have a := (isBest_iff L i).mp h k h2
  have b := (isBest_iff L k).mp h1 i hi
  have e : k = i := by
    rcases Nat.lt_trichotomy k i with l | l | l
    · have := a.2 l
      omega
    · exact l
    · have := b.2 l
      omega
  rw [e]
  rfl
/-- what the longest is of its list -/
def IsLong (L : List (List W)) : Prop := longest L ∈ L ∧ ∀ l ∈ L, l.length ≤ (longest L).length
theorem eq_longest {L : List (List W)} {p : Addr} {xs : List V} {Q : VK} (h : Ev te σ H (.ref p)) (hx : H p = some (.lst xs)) (hlen : xs.length = L.length) (ht : Tups (fun k => Ss (L.getD k [])) xs H) (hl : 0 < L.length)
    (q : IsLong L → ∀ t H2, Ex H H2 → SqT K H2 t (Ss (longest L)) → Q (.ref t) H2) : tMaxLen K te σ H Q := h H (Ex.refl H) _ fun H2 e2 =>
  ⟨p, xs, fun i => (L.getD i []).length, rfl, sq_of (e2 _ _ hx), by omega, fun i y hy => by
    obtain ⟨t, rfl, h2⟩ := ht i y hy
    exact .inr ⟨_, st_of (e2 _ _ h2), by rw [List.length_map]⟩, fun i y hy hm => by
    obtain ⟨t, rfl, h2⟩ := ht i y hy
    have hi : i < L.length := by
      have := (List.getElem?_eq_some_iff.mp hy).1
      omega
    have hb : longest L = L.getD i [] := longest_of hi ((isBest_iff L i).mpr fun j hj => hm j (by omega))
    have hlong : IsLong L := by
      refine ⟨?_, fun l hl => ?_⟩
      · rw [hb, List.getD_eq_getElem?_getD, List.getElem?_eq_getElem hi]
        exact List.getElem_mem hi
      · obtain ⟨j, hj, rfl⟩ := List.getElem_of_mem hl
        have g : (L.getD j []).length ≤ (L.getD i []).length := (hm j (by omega)).1
        rw [hb]
        rw [getD_at (List.getElem?_eq_getElem hj)] at g
        exact g
    rw [hb] at q
    exact q hlong t H2 e2 (st_of (e2 _ _ h2))⟩
end
/-- what stands behind: a tuple, new or old -/
def Rq (K : PySem.W.Frag) (xs : List V) (H : Hp) (Q : VK) : Prop := ∀ p H2, Ex H H2 → SqT K H2 p xs → Q (.ref p) H2
section
variable {K : PySem.W.Frag} {σ : L2.St} {H H' : Hp} {te : TE} {t : TA} {sp : Sp} {E : XK} {vs xs : List V}
theorem eq_ok (h : EvA t σ H vs) (hs : ∀ H1 Q, Ex H H1 → Rq K xs H1 Q → sp vs H1 Q E) : EvQ K (tCall sp [] E t) σ H xs := fun H1 e Q q => h H1 e _ fun H2 e2 => by
  show sp (vs ++ []) H2 Q E
  rw [List.append_nil]
  exact hs H2 Q (e.trans e2) fun p H3 e3 hx => q p H3 (e2.trans e3) hx
theorem ei_tupQ {xs : List V} (h : EvQ K te σ H xs) : EvI (iTup K te) σ H xs.length (PAt xs) := fun H1 e R q => h H1 e _ fun a H2 e2 hx =>
  ⟨a, rfl, ⟨xs, hx⟩, q _ H2 e2 ⟨_, _, walk_tup, fun H3 e3 => ex_t e3 hx, fun i H1 v H2 _ => yAt i H1 v H2⟩⟩
end
def rowsOf (a b : W) : List (List W) := [dn a.dropLast b.dropLast, dn a.dropLast b, dn a b.dropLast, dn a b]
def dfr (a b : W) : List W := longest (rowsOf a b)
abbrev sp_doors_from (K : PySem.W.Frag) : Sp := fun vs H Q _ => ∃ a b : W, vs = [S a, S b] ∧ a.length ≤ 20000 ∧ b.length ≤ 20000 ∧ Rq K (Ss (dfr a b)) H Q
def lastW (w : W) : W := w.drop (w.length - 1)
def ltr (a b : W) : W := TL.joinL [] ((dfr a b).map lastW)
abbrev sp_letters_from : Sp := fun vs H Q _ => ∃ a b : W, vs = [S a, S b] ∧ a.length ≤ 20000 ∧ b.length ≤ 20000 ∧ Rv (S (ltr a b)) H Q
def mbt (a b : W) : Option W := if ltr a b = (ltr a b).reverse then some ((dfr a b).getD ((ltr a b).length / 2) []) else none
abbrev sp_mirror_between : Sp := fun vs H Q _ => ∃ a b : W, vs = [S a, S b] ∧ a ≠ [] ∧ a.length ≤ 20000 ∧ b.length ≤ 20000 ∧ Rv (optS (mbt a b)) H Q
theorem best_ex (f : Nat → Nat) : ∀ n : Nat, ∃ i, i ≤ n ∧ ∀ j, j ≤ n → f j ≤ f i ∧ (j < i → f j < f i)
  | 0 => ⟨0, Nat.le_refl _, fun j hj => by
    have : j = 0 := by omega
    subst this
    exact ⟨Nat.le_refl _, fun z => absurd z (Nat.lt_irrefl _)⟩⟩
  | n + 1 => by
    obtain ⟨i, hi, h⟩ := best_ex f n
    by_cases hlt : f i < f (n + 1)
    · refine ⟨n + 1, Nat.le_refl _, fun j hj => ?_⟩
      by_cases hj2 : j = n + 1
      · subst hj2
        exact ⟨Nat.le_refl _, fun z => absurd z (Nat.lt_irrefl _)⟩
      · have := (h j (by omega)).1
        exact ⟨by omega, fun _ => by omega⟩
    · refine ⟨i, by omega, fun j hj => ?_⟩
      by_cases hj2 : j = n + 1
      · subst hj2
        exact ⟨by omega, fun z => by omega⟩
      · exact h j (by omega)
theorem isLong (a b : W) : IsLong (rowsOf a b) := by
  obtain ⟨i, hi, h⟩ := best_ex (fun j => ((rowsOf a b).getD j []).length) 3
  have hl : (rowsOf a b).length = 4 := rfl
  have hb : longest (rowsOf a b) = (rowsOf a b).getD i [] := longest_of (by omega) ((isBest_iff _ i).mpr fun j hj => h j (by omega))
  refine ⟨?_, fun l hl' => ?_⟩
  · rw [hb, getD_at (List.getElem?_eq_getElem (show i < (rowsOf a b).length by omega))]
    exact List.getElem_mem _
  · obtain ⟨j, hj, rfl⟩ := List.getElem_of_mem hl'
    have g : ((rowsOf a b).getD j []).length ≤ ((rowsOf a b).getD i []).length := (h j (by omega)).1
    rw [hb]
    rw [getD_at (List.getElem?_eq_getElem hj)] at g
    exact g
theorem dn_len (a b : W) : (dn a b).length = (a.length - shr a b) + (b.length - shr a b) := by
  unfold dn
  simp
theorem dn_ne {a b w : W} (h : w ∈ dn a b) : w ≠ [] ∧ w.length ≤ a.length + b.length := by
  unfold dn at h
  have s1 := shr_le_left a b
  have s2 := shr_le_right a b
  rcases List.mem_append.mp h with h | h <;> obtain ⟨i, hi, rfl⟩ := List.mem_map.mp h <;> have hi := List.mem_range.mp hi
  · refine ⟨fun z => ?_, ?_⟩
    · have := congrArg List.length z
      rw [List.length_take, List.length_nil] at this
      omega
    · rw [List.length_take]
      omega
  · refine ⟨fun z => ?_, ?_⟩
    · have := congrArg List.length z
      rw [List.length_take, List.length_nil] at this
      omega
    · rw [List.length_take]
      omega
theorem dfr_facts {a b : W} (h : IsLong (rowsOf a b)) : (∀ w ∈ dfr a b, w ≠ [] ∧ w.length ≤ a.length + b.length) ∧ (dfr a b).length ≤ a.length + b.length ∧ (a ≠ [] → 0 < (dfr a b).length) := by
  have hm := h.1
  have key : ∀ {x y : W}, x.length ≤ a.length → y.length ≤ b.length → longest (rowsOf a b) = dn x y → (∀ w ∈ dfr a b, w ≠ [] ∧ w.length ≤ a.length + b.length) ∧ (dfr a b).length ≤ a.length + b.length := by
    intro x y hx hy e
    unfold dfr
    rw [e]
    refine ⟨fun w hw => ⟨(dn_ne hw).1, by have := (dn_ne hw).2; omega⟩, ?_⟩
    rw [dn_len]
    omega
  have l1 := List.length_dropLast (xs := a)
  have l2 := List.length_dropLast (xs := b)
  have k2 : (∀ w ∈ dfr a b, w ≠ [] ∧ w.length ≤ a.length + b.length) ∧ (dfr a b).length ≤ a.length + b.length := by
    unfold rowsOf at hm key
    simp only [List.mem_cons, List.not_mem_nil, or_false] at hm
    rcases hm with e | e | e | e
    · exact key (by omega) (by omega) e
    · exact key (by omega) (by omega) e
    · exact key (by omega) (by omega) e
    · exact key (by omega) (by omega) e
  refine ⟨k2.1, k2.2, fun ha => ?_⟩
  have p1 := h.2 (dn a.dropLast b) (by simp [rowsOf])
  have p2 := h.2 (dn a b) (by simp [rowsOf])
  rw [dn_len] at p1 p2
  have s1 := shr_le_left a b
  have s2 := shr_le_right a b
  have s3 := shr_le_left a.dropLast b
  have s4 := shr_le_right a.dropLast b
  have hpos : 0 < a.length := List.length_pos_iff.mpr ha
  show 0 < (longest (rowsOf a b)).length
  omega
theorem lastW_one {w : W} (h : w ≠ []) : ∃ c, w.getLast? = some c ∧ lastW w = [c] := by
  rcases snoc_cases w with e | ⟨p, c, e⟩
  · exact absurd e h
  · subst e
    refine ⟨c, by simp, ?_⟩
    unfold lastW
    simp
theorem joinL_one : ∀ {l : List W}, (∀ w ∈ l, w.length = 1) → (TL.joinL [] l).length = l.length
  | [], _ => rfl
  | [x], h => h x (by simp)
  | x :: y :: t, h => by
    have ih := joinL_one (l := y :: t) fun w hw => h w (List.mem_cons_of_mem _ hw)
    show (x ++ ([] ++ TL.joinL [] (y :: t))).length = _
    rw [List.nil_append, List.length_append, ih, h x (by simp), Nat.add_comm]
    rfl
theorem ltr_len {a b : W} (h : IsLong (rowsOf a b)) : (ltr a b).length = (dfr a b).length := by
  unfold ltr
  rw [joinL_one fun w hw => ?_, List.length_map]
  obtain ⟨x, hx, rfl⟩ := List.mem_map.mp hw
  obtain ⟨c, _, e⟩ := lastW_one ((dfr_facts h).1 x hx).1
  rw [e]
  rfl
section
variable {K : PySem.W.Frag} {σ : L2.St} {H H' : Hp} {ta tb to te : TE}
abbrev rJoin (K : PySem.W.Frag) : V → List V → Hp → VK → Prop := fun x xs H Q => ∃ a p, ∃ ys : List Str, x = .str a ∧ xs = [.ref p] ∧ (SqL K H p (ys.map V.str) ∨ SqT K H p (ys.map V.str)) ∧ (ys.map (·.length)).sum + ys.length * a.length ≤ 16777216 ∧ Q (.str (Txt.join a ys)) H
theorem join_ST (y : W) (l : List W) : Txt.join (ST y) (l.map ST) = ST (TL.joinL y l) := by
  refine TL.ext_tl ?_
  rw [TL.join_eq, TL.tl_join, List.map_map]
  show TL.joinL y (l.map id) = _
  rw [List.map_id]
theorem len_STs (l : List W) : ((l.map ST).map (·.length)) = l.map List.length := by
  rw [List.map_map]
  exact List.map_congr_left fun a _ => ST_len a
theorem rJoin_ok {p : Addr} {y : W} {l : List W} {Q : VK} (h : SqL K H p (Ss l) ∨ SqT K H p (Ss l)) (hz : tot l + l.length * y.length ≤ 1000000) (q : Q (S (TL.joinL y l)) H) : rJoin K (S y) [.ref p] H Q :=
  ⟨_, p, l.map ST, rfl, rfl, by rw [Ss_map]; exact h, by rw [len_STs, List.length_map, ST_len]; exact Nat.le_trans hz (by decide), by rw [join_ST]; exact q⟩
theorem ev_joinN {y : W} {l : List W} (ho : Ev to σ H (S y)) (h : EvL te σ H (Ss l)) (hz : tot l + l.length * y.length ≤ 1000000) : Ev (tM1 (rJoin K) to te) σ H (S (TL.joinL y l)) := fun H1 e Q q => ho H1 e _ fun H2 e2 =>
  ⟨⟨_, rfl⟩, h H2 (e.trans e2) _ fun p H3 hp e3 hx => rJoin_ok (.inl (sq_of hx)) hz (q H3 (e2.trans e3))⟩
theorem ev_joinV {y : W} {l : List W} {p : Addr} (ho : Ev to σ H (S y)) (h : Ev te σ H (.ref p)) (hx : SqL K H p (Ss l) ∨ SqT K H p (Ss l)) (hz : tot l + l.length * y.length ≤ 1000000) : Ev (tM1 (rJoin K) to te) σ H (S (TL.joinL y l)) := fun H1 e Q q => ho H1 e _ fun H2 e2 =>
  ⟨⟨_, rfl⟩, h H2 (e.trans e2) _ fun H3 e3 => rJoin_ok (hx.imp (ex_l ((e.trans e2).trans e3)) (ex_t ((e.trans e2).trans e3))) hz (q H3 (e2.trans e3))⟩
theorem ev_ixLast {w : W} (ha : Ev ta σ H (S w)) (hb : Ev tb σ H (.int (-1))) (hw : w ≠ []) (hz : w.length ≤ 1000000) : Ev (tOp rIxS ta tb) σ H (S (lastW w)) := by
  rcases snoc_cases w with e | ⟨p, c, e⟩
  · exact absurd e hw
  · have h1 : lastW w = [c] := by
      rw [e]
      unfold lastW
      simp
    rw [h1]
    exact ev_op ha hb fun H1 _ Q q => ⟨_, _, c, rfl, rfl, by rw [ST_len]; exact big hz, by
      show atI w (-1) = some c
      rw [e]
      exact atI_last _ _, q H1 (Ex.refl H1)⟩
theorem tot_le {n : Nat} : ∀ {l : List W}, (∀ w ∈ l, w.length ≤ n) → tot l ≤ l.length * n
  | [], _ => Nat.zero_le _
  | x :: t, h => by
    rw [tot_cons, List.length_cons, Nat.add_mul, Nat.one_mul, Nat.add_comm]
    exact Nat.add_le_add (tot_le fun w hw => h w (List.mem_cons_of_mem _ hw)) (h x (List.mem_cons_self ..))
theorem ev_ixQ {xs : List V} {i : Nat} {v : V} (ha : EvQ K ta σ H xs) (hb : ∀ H1, Ex H H1 → Ev tb σ H1 (.int (i : Int))) (h : xs[i]? = some v) : Ev (tOp (rIxT K) ta tb) σ H v := fun H1 e Q q => ha H1 e _ fun p H2 e2 hx => hb H2 (e.trans e2) H2 (Ex.refl H2) _ fun H3 e3 =>
  ⟨p, xs, (i : Int), v, rfl, rfl, ex_t e3 hx, atI_nat h, q H3 (e2.trans e3)⟩
end
section
variable {P : Program} {w : World} {K : PySem.W.Frag} {mg : Str → Option Value} {base : Heap}
theorem sc_doors_from : FnScope ["one", "other", "rows", "begin", "end"] ["one", "other"] (defScope (top 39)) := ⟨rfl, rfl, rfl, by decide +kernel, rfl, by decide +kernel, by decide +kernel⟩
theorem ok_doors_from (B : Bu mg) (T : Cst K mg) (O_rooms_of : Ok P w K mg base CX0 1 "rooms_of" sp_rooms_of) (O_doors_on : Ok P w K mg base CX0 2 "doors_on" sp_doors_on) (D : Dn K mg "doors_from" 39) : Ok P w K mg base CX0 3 "doors_from" (sp_doors_from K) := by
  refine D.ok sc_doors_from (fun _ _ _ _ _ _ us hl => match us, hl with | [_, _], _ => rfl) (by rintro vs H Q E ⟨a, b, rfl, _⟩; rfl) fun f cdv A outer s H vs Q E hr h => ⟨_, (pss_cons (ps_setLc2 (i := 2) (own := [("begin", 3), ("end", 4)]) (vs1 := [4]) (g := (gName 3)) (tt := tYes) (wi1 := (iTup K (tCall sp_rooms_of [] E0 (tCons (tVar 1) tNil)))) (g1 := (gName 4)) (tt1 := tYes) (te := (tCall sp_doors_on [] E0 (tCons (tVar 3) (tCons (tVar 4) tNil)))) rfl sc_doors_from.nd rfl rfl (sw_true rfl rfl rfl (by decide +kernel)) (pi_tup (pe_ok O_rooms_of hr rfl pass0 (pa_cons (pv 0) pa_nil))) (blkOk_by (N := ["one", "other", "rows", "begin", "end"]) (sc := defScope (top 39)) (by decide +kernel)) (by decide) (fun _ _ _ _ _ => (pg_name (i := 3) sc_doors_from.nd rfl (.inl rfl))) (fun _ _ _ _ _ => pts_nil) (fun _ _ _ _ _ => (pi_tup (pe_ok O_rooms_of hr rfl pass0 (pa_cons (pv 1) pa_nil)))) (fun _ _ _ _ _ => (pg_name (i := 4) sc_doors_from.nd rfl (.inl rfl))) (fun _ _ _ _ _ => pts_nil) (fun _ _ _ _ _ => (pe_ok O_doors_on hr rfl pass0 (pa_cons (pv 3) (pa_cons (pv 4) pa_nil)))))
    (pss_one (ps_ret (pe_maxLen rfl (pv 2) rfl B.max rfl B.len)))), ?_⟩
  obtain ⟨a, b, rfl, ha, hb, q⟩ := h
  refine q_asgLP (el_lc2T (K := K) (xs := [S a.dropLast, S a]) (ys := [S b.dropLast, S b]) (fun k => Ss ((rowsOf a b).getD k [])) (eu_ok (ea_cons (ev_var rfl) ea_nil) fun H1 Q _ q => ⟨a, rfl, by omega, q⟩) (fun i x hx => eu_ok (ea_cons (ev_var rfl) ea_nil) fun H1 Q _ q => ⟨b, rfl, by omega, q⟩) (by show 4 ≤ 10000; decide) (fun _ => rfl) (fun _ _ => rfl) (fun i x i1 y hx hy => ?_)) fun p H2 xs hp e2 h2 hlen ht => ?_
  · have l1 := List.length_dropLast (xs := a)
    have l2 := List.length_dropLast (xs := b)
    have go : ∀ {u v : W}, x = S u → y = S v → u.length ≤ 20000 → v.length ≤ 20000 → (rowsOf a b).getD (i * 2 + i1) [] = dn u v → EvU (tCall sp_doors_on [] E0 (tCons (tVar 3) (tCons (tVar 4) tNil))) ((wipe ((wipe (start ["one", "other", "rows", "begin", "end"] [S a, S b]) [3, 4]).set 3 (some x)) [4]).set 4 (some y)) H (Ss ((rowsOf a b).getD (i * 2 + i1) [])) := by
      intro u v hu hv h1 h2 e
      rw [e, hu, hv]
      exact eu_ok (ea_cons (ev_var rfl) (ea_cons (ev_var rfl) ea_nil)) fun H1 Q _ q => ⟨u, v, rfl, by omega, by omega, q⟩
    match i, i1, hx, hy with
    | 0, 0, hx, hy => exact go (Option.some.inj hx).symm (Option.some.inj hy).symm (by omega) (by omega) rfl
    | 0, 1, hx, hy => exact go (Option.some.inj hx).symm (Option.some.inj hy).symm (by omega) (by omega) rfl
    | 1, 0, hx, hy => exact go (Option.some.inj hx).symm (Option.some.inj hy).symm (by omega) (by omega) rfl
    | 1, 1, hx, hy => exact go (Option.some.inj hx).symm (Option.some.inj hy).symm (by omega) (by omega) rfl
    | i + 2, _, hx, _ => exact absurd hx (by simp)
    | 0, i + 2, _, hy => exact absurd hy (by simp)
    | 1, i + 2, _, hy => exact absurd hy (by simp)
  · exact eq_longest (L := rowsOf a b) (ev_var rfl) h2 hlen ht (Nat.succ_pos _) fun hl t H3 e3 h3 => q t H3 (e2.trans e3) h3
theorem sc_letters_from : FnScope ["one", "other", "way"] ["one", "other"] (defScope (top 40)) := ⟨rfl, rfl, rfl, by decide +kernel, rfl, by decide +kernel, by decide +kernel⟩
theorem ok_letters_from (B : Bu mg) (T : Cst K mg) (O_doors_from : Ok P w K mg base CX0 3 "doors_from" (sp_doors_from K)) (D : Dn K mg "letters_from" 40) : Ok P w K mg base CX0 4 "letters_from" sp_letters_from := by
  refine D.ok sc_letters_from (fun _ _ _ _ _ _ us hl => match us, hl with | [_, _], _ => rfl) (by rintro vs H Q E ⟨a, b, rfl, _⟩; rfl) fun f cdv A outer s H vs Q E hr h => ⟨_, (pss_one (ps_ret (pe_join (pe_st (l := [])) (pe_lc (own := [("way", 2)]) (g := (gName 2)) (tt := tYes) (te := (tOp rIxS (tVar 2) (tUn (rU fun i => .int (-i)) (tC (.int 1))))) rfl sc_letters_from.nd (pi_tup (pe_ok O_doors_from hr rfl pass0 (pa_cons (pv 0) (pa_cons (pv 1) pa_nil)))) (blkOk_by (N := ["one", "other", "way"]) (sc := defScope (top 40)) (by decide +kernel)) (fun _ _ _ _ _ => (pg_name (i := 2) sc_letters_from.nd rfl (.inl rfl))) (fun _ _ _ _ _ => pts_nil) (fun _ _ _ _ _ => (pe_ix ix_str (pv 2) (pe_un un_neg pe_int) (fun _ _ => rfl))))))), ?_⟩
  obtain ⟨a, b, rfl, ha, hb, q⟩ := h
  have f := dfr_facts (isLong a b)
  refine s_ret (v := S (ltr a b)) (ev_joinN (y := []) (l := (dfr a b).map lastW) ev_c (el_lcM (l := dfr a b) lastW (ei_tupQ (eq_ok (ea_cons (ev_var rfl) (ea_cons (ev_var rfl) ea_nil)) fun H1 Q _ q => ⟨a, b, rfl, ha, hb, q⟩)) (by omega) (fun _ => rfl) fun x hx H1 e1 => ?_) ?_) q
  · have := f.1 x hx
    exact ev_ixLast (ev_var rfl) (ev_neg ev_c) this.1 (by omega)
  · have h1 := tot_le (n := 1) (l := (dfr a b).map lastW) fun y hy => by
      obtain ⟨x, hx, rfl⟩ := List.mem_map.mp hy
      obtain ⟨c, _, e⟩ := lastW_one (f.1 x hx).1
      rw [e]
      exact Nat.le_refl _
    rw [List.length_map] at h1 ⊢
    show _ + _ * 0 ≤ _
    omega
theorem sc_mirror_between : FnScope ["one", "other", "letters"] ["one", "other"] (defScope (top 41)) := ⟨rfl, rfl, rfl, by decide +kernel, rfl, by decide +kernel, by decide +kernel⟩
theorem ok_mirror_between (B : Bu mg) (T : Cst K mg) (O_doors_from : Ok P w K mg base CX0 3 "doors_from" (sp_doors_from K)) (O_letters_from : Ok P w K mg base CX0 4 "letters_from" sp_letters_from) (D : Dn K mg "mirror_between" 41) : Ok P w K mg base CX0 5 "mirror_between" sp_mirror_between := by
  refine D.ok sc_mirror_between (fun _ _ _ _ _ _ us hl => match us, hl with | [_, _], _ => rfl) (by rintro vs H Q E ⟨a, b, rfl, _⟩; rfl) fun f cdv A outer s H vs Q E hr h => ⟨_, (pss_cons (ps_set (i := 2) sc_mirror_between.nd rfl (.inl rfl) (pe_ok O_letters_from hr rfl pass0 (pa_cons (pv 0) (pa_cons (pv 1) pa_nil))))
    (pss_one (ps_ret (pe_ifExp (pt_cmpR op_eq (pv 2) (pe_revS (pv 2)) (nomark _)) (pe_ix ix_tup (pe_ok O_doors_from hr rfl pass0 (pa_cons (pv 0) (pa_cons (pv 1) pa_nil))) (pe_op op_fdiv (pe_callB call_len_str (by rfl) B.len PySem.boot_len (pa_cons (pv 2) pa_nil)) (pe_gi (by rfl) T.DOUBLE_between)) (fun _ _ => rfl)) pe_non)))), ?_⟩
  obtain ⟨a, b, rfl, hne, ha, hb, q⟩ := h
  have f := dfr_facts (isLong a b)
  have hlen := ltr_len (isLong a b)
  have hpos := f.2.2 hne
  refine q_asg (ev_ok (v := S (ltr a b)) (ea_cons (ev_var rfl) (ea_cons (ev_var rfl) ea_nil)) fun H1 Q _ q => ⟨a, b, rfl, ha, hb, q⟩) fun H1 e1 => ?_
  have hz : (ltr a b).length ≤ 1000000 := by omega
  refine s_ret (v := optS (mbt a b)) (ev_if (et_test (ev_eqS (ev_var rfl) (ev_rev (ev_var rfl) hz))) (fun hb2 => ?_) fun hb2 => ?_) fun H2 e2 => q H2 (e1.trans e2)
  · have hm : mbt a b = some ((dfr a b).getD ((ltr a b).length / 2) []) := if_pos (of_decide_eq_true hb2)
    rw [hm]
    have hi : (ltr a b).length / 2 < (dfr a b).length := by omega
    refine ev_ixQ (i := (ltr a b).length / 2) (eq_ok (ea_cons (ev_var rfl) (ea_cons (ev_var rfl) ea_nil)) fun H1 Q _ q => ⟨a, b, rfl, ha, hb, q⟩) (fun H2 e2 => ?_) ?_
    · refine ev_is (ev_op (ev_lenS (ev_var rfl) hz) ev_c (rv_I (by constructor <;> decide))) ?_
      show V.int (((ltr a b).length : Int) / 2) = _
      rw [Int.natCast_ediv]
      rfl
    · rw [List.getElem?_map, List.getElem?_eq_getElem hi, getD_at (List.getElem?_eq_getElem hi)]
      rfl
  · have hm : mbt a b = none := if_neg (of_decide_eq_false hb2)
    rw [hm]
    exact ev_c
end
end Mir
/-! part W6 -/
set_option Elab.async false
set_option linter.all false
set_option maxRecDepth 100000
set_option maxHeartbeats 4000000
/-! The walk: ways as a text. -/
namespace Mir
open PySem PySem.Spec PyProof.Rows L2 Evl
abbrev brk : W := [44, 32]
def wtx (l : List W) : W := if l = [] then [45] else TL.joinL brk l
/-- a tuple, new or old -/
def Rx (xs : List V) (H : Hp) (Q : VK) : Prop := ∀ p H2, Ex H H2 → H2 p = some (.tup xs) → Q (.ref p) H2
abbrev sp_ways_text (K : PySem.W.Frag) : Sp := fun vs H Q _ => ∃ (a : Addr) (l : List W), vs = [.ref a] ∧ SqT K H a (Ss l) ∧ Asc l ∧ l.length < 64 ∧ Shr 10000 l ∧ Rv (S (wtx l)) H Q
abbrev sp_ways_read (K : PySem.W.Frag) : Sp := fun vs H Q _ => ∃ l : List W, vs = [S (wtx l)] ∧ Ways l ∧ Asc l ∧ l.length < 64 ∧ Shr 10000 l ∧ Rx (Ss l) H Q
abbrev sp_sure_of : Sp := fun vs H Q _ => ∃ v : V, vs = [v, .bl true] ∧ Rv v H Q
theorem joinL_len (y : W) : ∀ l : List W, (TL.joinL y l).length ≤ tot l + l.length * y.length
  | [] => Nat.zero_le _
  | [x] => by
    show x.length ≤ _
    rw [tot_cons]
    omega
  | x :: z :: t => by
    have ih := joinL_len y (z :: t)
    show (x ++ (y ++ TL.joinL y (z :: t))).length ≤ _
    rw [List.length_append, List.length_append, tot_cons, List.length_cons, Nat.add_mul]
    omega
theorem wtx_len {l : List W} (hl : l.length < 64) (hs : Shr 10000 l) : (wtx l).length ≤ 700000 := by
  unfold wtx
  split
  · decide
  · have h1 := joinL_len brk l
    have h2 := tot_le hs
    have h3 : brk.length = 2 := rfl
    rw [h3] at h1
    omega
theorem joinL_head {y : W} {x : W} {t : List W} (hx : x ≠ []) : (TL.joinL y (x :: t)).head? = x.head? := by
  obtain ⟨c, r, rfl⟩ : ∃ c r, x = c :: r := by
    cases x with
    | nil => exact absurd rfl hx
    | cons c r => exact ⟨c, r, rfl⟩
  cases t <;> rfl
theorem wtx_dash {l : List W} (h : Ways l) : decide (wtx l = [45]) = decide (l = []) := by
  unfold wtx
  by_cases hl : l = []
  · rw [if_pos hl, decide_eq_true hl]
    rfl
  · rw [if_neg hl, decide_eq_false hl]
    refine decide_eq_false fun z => ?_
    obtain ⟨x, t, rfl⟩ : ∃ x t, l = x :: t := by
      cases l with
      | nil => exact absurd rfl hl
      | cons x t => exact ⟨x, t, rfl⟩
    have wx := h x (by simp)
    have e := joinL_head (y := brk) (t := t) wx.2.1
    rw [z] at e
    obtain ⟨c, r, rfl⟩ : ∃ c r, x = c :: r := by
      cases x with
      | nil => exact absurd rfl wx.2.1
      | cons c r => exact ⟨c, r, rfl⟩
    have hc := wx.2.2 c (by simp)
    have : (45 : Nat) = c := Option.some.inj e
    omega
section
variable {K : PySem.W.Frag} {σ : L2.St} {H H' : Hp} {ta tb to te : TE}
abbrev rSplit : V → List V → Hp → VK → Prop := fun x xs H Q => ∃ a b, x = .str a ∧ xs = [.str b] ∧ (b.length == 0) = false ∧ a.length + 2 ≤ sizeLine ∧ rNewStrs (Txt.split a b) H Q
theorem split_ST {y : W} {s : Nat} {S' : W} {l : List W} (ey : y = s :: S') (hk : y.all (· < 256) = true) (hne : l ≠ []) (hp : ∀ p ∈ l, s ∉ p) : Txt.split (ST (TL.joinL y l)) (ST y) = l.map ST := by
  rw [← join_ST]
  refine TL.split_join (s := s) (S := S') ey (by simpa using hk) (fun z => hne (List.map_eq_nil_iff.mp z)) fun p hp' => ?_
  obtain ⟨x, hx, rfl⟩ := List.mem_map.mp hp'
  exact hp x hx
/-- text.split(sep) where the text was joined with that sep -/
theorem el_split {y : W} {s : Nat} {S' : W} {l : List W} (ho : Ev to σ H (S (TL.joinL y l))) (h : Ev te σ H (S y)) (ey : y = s :: S') (hk : y.all (· < 256) = true) (hne : l ≠ []) (hp : ∀ p ∈ l, s ∉ p) (hz : (TL.joinL y l).length ≤ 1000000) : EvL (tM1 rSplit to te) σ H (Ss l) := fun H1 e Q q => ho H1 e _ fun H2 e2 =>
  ⟨⟨_, rfl⟩, h H2 (e.trans e2) _ fun H3 e3 => ⟨_, _, rfl, rfl, by rw [ST_len, ey]; rfl, by rw [ST_len]; exact Nat.le_trans (Nat.add_le_add_right hz 2) (by decide), by
    rw [split_ST ey hk hne hp]
    intro p hp
    rw [Ss_map]
    exact q p _ (fresh_back (e2.trans e3) hp) ((e2.trans e3).trans (Ex.new hp)) upd_same⟩⟩
end
section
variable {P : Program} {w : World} {K : PySem.W.Frag} {mg : Str → Option Value} {base : Heap}
theorem ways_free {l : List W} (h : Ways l) {s : Nat} (hs : s < 97) : ∀ p ∈ l, s ∉ p := fun p hp z => by
  have := (h p hp).2.2 s z
  omega
theorem sc_ways_text : FnScope ["ways", "way"] ["ways"] (defScope (top 56)) := ⟨rfl, rfl, rfl, by decide +kernel, rfl, by decide +kernel, by decide +kernel⟩
theorem ok_ways_text (B : Bu mg) (T : Cst K mg)  (D : Dn K mg "ways_text" 56) : Ok P w K mg base CX0 1 "ways_text" (sp_ways_text K) := by
  refine D.ok sc_ways_text (fun _ _ _ _ _ _ us hl => match us, hl with | [_], _ => rfl) (by rintro vs H Q E ⟨a, l, rfl, _⟩; rfl) fun f cdv A outer s H vs Q E hr h => ⟨_, (pss_one (ps_ret (pe_ifExp (pt_cmpR op_gt (pe_callB call_len_seq (by rfl) B.len PySem.boot_len (pa_cons (pv 0) pa_nil)) pe_int (nomark _)) (pe_join (pe_gs (by rfl) T.BREAK) (pe_callB (cr_sortedSO rfl) (by rfl) B.sorted (by decide +kernel) (pa_cons (pe_scS (mine := [("way", 1)]) (g := (gName 1)) (tt := tYes) (te := (tVar 1)) rfl sc_ways_text.nd (pi_tup (pv 0)) (blkOk_by (N := ["ways", "way"]) (sc := defScope (top 56)) (by decide +kernel)) (fun _ _ _ _ _ => (pg_name (i := 1) sc_ways_text.nd rfl (.inl rfl))) (fun _ _ _ _ _ => pts_nil) (fun _ _ _ _ _ => (pv 1))) pa_nil))) (pe_gs (by rfl) T.NONE)))), ?_⟩
  obtain ⟨a, l, rfl, hx, ha, hl, hs, q⟩ := h
  refine s_ret (v := S (wtx l)) (ev_if (et_test (ev_gtI (ev_lenT (ev_var rfl) hx) ev_c)) (fun hb => ?_) fun hb => ?_) q
  · have hne : l ≠ [] := fun z => by
      subst z
      simp [Ss] at hb
    have e : wtx l = TL.joinL brk (setOf l) := by
      rw [setOf_asc ha]
      exact if_neg hne
    rw [e]
    refine ev_joinN (K := K) (y := brk) ev_c (el_sortComp (ev_var rfl) hx hl (fun _ => rfl) fun x H1 => ev_var rfl) ?_
    rw [setOf_asc ha]
    have h2 := tot_le hs
    have h3 : brk.length = 2 := rfl
    rw [h3]
    omega
  · have hne : l = [] := by
      cases l with
      | nil => rfl
      | cons x t => simp [Ss] at hb
    subst hne
    exact ev_c
theorem sc_sure_of : FnScope ["found", "is_right"] ["found", "is_right"] (defScope (top 55)) := ⟨rfl, rfl, rfl, by decide +kernel, rfl, by decide +kernel, by decide +kernel⟩
theorem ok_sure_of (B : Bu mg) (T : Cst K mg)  (D : Dn K mg "sure_of" 55) : Ok P w K mg base CX0 1 "sure_of" sp_sure_of := by
  refine D.ok sc_sure_of (fun _ _ _ _ _ _ us hl => match us, hl with | [_, _], _ => rfl) (by rintro vs H Q E ⟨v, rfl, _⟩; rfl) fun f cdv A outer s H vs Q E hr h => ⟨_, (pss_cons (ps_if (pt_not (pt_val (pv 1)))
      (pss_one ps_never)
      pss_nil)
    (pss_one (ps_ret (pv 0)))), ?_⟩
  obtain ⟨v, rfl, q⟩ := h
  refine q_when (et_not (et_B (ev_var rfl))) (fun z => nomatch z) fun _ H1 e1 => ?_
  exact s_ret (ev_var rfl) fun H2 e2 => q H2 (e1.trans e2)
theorem sc_ways_read : FnScope ["text", "found", "way"] ["text"] (defScope (top 57)) := ⟨rfl, rfl, rfl, by decide +kernel, rfl, by decide +kernel, by decide +kernel⟩
theorem ok_ways_read (B : Bu mg) (T : Cst K mg) (O_is_way : Ok P w K mg base CX0 3 "is_way" sp_is_way) (O_is_rising : Ok P w K mg base CX0 1 "is_rising" (sp_is_rising K)) (O_sure_of : Ok P w K mg base CX0 1 "sure_of" sp_sure_of) (D : Dn K mg "ways_read" 57) : Ok P w K mg base CX0 4 "ways_read" (sp_ways_read K) := by
  refine D.ok sc_ways_read (fun _ _ _ _ _ _ us hl => match us, hl with | [_], _ => rfl) (by rintro vs H Q E ⟨l, rfl, _⟩; rfl) fun f cdv A outer s H vs Q E hr h => ⟨_, (pss_cons (ps_set (i := 1) sc_ways_read.nd rfl (.inl rfl) (pe_ifExp (pt_cmpR op_eq (pv 0) (pe_gs (by rfl) T.NONE) (nomark _)) (pe_tup pa_nil) (pe_callTy call_tuple_of (by rfl) B.tuple (by decide +kernel) (pa_cons (pe_split (pv 0) (pe_gs (by rfl) T.BREAK)) pa_nil))))
    (pss_one (ps_ret (pe_ok O_sure_of hr rfl pass0 (pa_cons (pv 1) (pa_cons (pe_and (pe_callB (cr_all rfl) (by rfl) B.all (by decide +kernel) (pa_cons (pe_lc (own := [("way", 2)]) (g := (gName 2)) (tt := tYes) (te := (tCall sp_is_way [] E0 (tCons (tVar 2) tNil))) rfl sc_ways_read.nd (pi_tup (pv 1)) (blkOk_by (N := ["text", "found", "way"]) (sc := defScope (top 57)) (by decide +kernel)) (fun _ _ _ _ _ => (pg_name (i := 2) sc_ways_read.nd rfl (.inl rfl))) (fun _ _ _ _ _ => pts_nil) (fun _ _ _ _ _ => (pe_ok O_is_way hr rfl pass0 (pa_cons (pv 2) pa_nil)))) pa_nil)) (pe_one (pe_ok O_is_rising hr rfl pass0 (pa_cons (pv 1) pa_nil)))) pa_nil)))))), ?_⟩
  obtain ⟨l, rfl, ww, ha, hl, hs, q⟩ := h
  have hlen := wtx_len hl hs
  have hd := wtx_dash ww
  have go : ∀ p H1, Ex H H1 → H1 p = some (.tup (Ss l)) → ∀ D : Ends, D.rt = Q → tRet (tCall sp_sure_of [] E0 (tCons (tVar 1) (tCons (tAndV (tCB (rAll K) (tCons (tLc (iTup K (tVar 1)) (gName 2) tYes (tCall sp_is_way [] E0 (tCons (tVar 2) tNil)) [2]) tNil)) (tCall (sp_is_rising K) [] E0 (tCons (tVar 1) tNil))) tNil))) D [some (S (wtx l)), some (.ref p), none] H1 := by
    intro p H1 e1 h1 D hD
    refine s_ret (ev_ok (v := .ref p) (ea_cons (ev_var rfl) (ea_cons (ev_is (ev_andV (ev_allW (l := l) wayB (ei_tup (ev_var rfl) (st_of h1)) (by omega) (fun _ => rfl) fun x hx H2 e2 => ev_s1 (ev_var rfl) (Nat.le_trans (hs x hx) (by decide))) fun _ => ev_ok (v := .bl (ascB l)) (ea_cons (ev_var rfl) ea_nil) fun H2 Q e2 q => ⟨p, l, rfl, st_of (e2 _ _ h1), by omega, q⟩) ?_) ea_nil)) fun H2 Q _ q => ⟨.ref p, rfl, q⟩) fun H2 e2 => ?_
    · rw [(ascB_iff l).mpr ha, Bool.and_true, List.all_eq_true.mpr fun x hx => (wayB_iff x).mpr (ww x hx)]
    · rw [hD]
      exact q p H2 (e1.trans e2) (e2 _ _ h1)
  by_cases hn : l = []
  · subst hn
    refine q_asgU (xs := []) (fun H1 e1 Q' q' => ?_) fun p H1 hp e1 h1 => go p H1 e1 h1 _ rfl
    refine et_is (et_test (ev_eqS (a := [45]) (b := [45]) (ev_var rfl) ev_c)) rfl H1 e1 _ fun H2 e2 => ?_
    exact eu_tup (σ := []) (H := H2) ea_nil (by show 0 ≤ 100000; decide) H2 (Ex.refl H2) Q' fun p H3 hp e3 h3 => q' p H3 (fresh_back e2 hp) (e2.trans e3) h3
  · have hw : wtx l = TL.joinL brk l := if_neg hn
    refine q_asgU (xs := Ss l) (fun H1 e1 Q' q' => ?_) fun p H1 hp e1 h1 => go p H1 e1 h1 _ rfl
    refine et_is (et_test (ev_eqS (a := wtx l) (b := [45]) (ev_var rfl) ev_c)) (hd.trans (decide_eq_false hn)) H1 e1 _ fun H2 e2 => ?_
    refine eu_tupN (K := K) (σ := [some (S (wtx l)), none, none]) (H := H2) (el_split (y := brk) (s := 44) (S' := [32]) (ev_var (by rw [hw]; rfl)) ev_c rfl rfl hn (ways_free ww (by decide)) (by rw [← hw]; omega)) H2 (Ex.refl H2) Q' fun p H3 hp e3 h3 => q' p H3 (fresh_back e2 hp) (e2.trans e3) h3
end
end Mir
/-! part K4 -/
set_option Elab.async false
set_option linter.all false
set_option maxRecDepth 100000
set_option maxHeartbeats 4000000
/-! The class of galleries: how its methods are called, how a gallery stands. -/
namespace Mir
open PySem PySem.Spec PyProof.Rows L2 Evl
abbrev mth (j : Nat) : Stmt := inClass (top 43) j
/-- the class's j-th statement is a def, found under the name nm -/
def Dm (K : PySem.W.Frag) (C : Addr) (nm qual : Str) (j : Nat) : Prop := ∃ g fd, Meth K C nm g ∧ FunD K nm qual (defArgs (mth j)) (defBody (mth j)) (defScope (mth j)) [] [] g fd
/-- a method's promise -/
def Om (P : Program) (w : World) (K : PySem.W.Frag) (mg : Str → Option Value) (base : Heap) (CX : CXT) (k : Nat) (C : Addr) (nm : Str) (sp : Sp) : Prop := ∃ g, Meth K C nm g ∧ FnR P w K mg base CX k g sp
/-- a property's def -/
def Dp' (K : PySem.W.Frag) (C : Addr) (nm qual : Str) (j : Nat) : Prop := ∃ p g fd rest, PySem.W.findIn K (.ref C) nm = some (some (.ref p)) ∧ PySem.W.specialIn K (.ref p) "__get__" = some (some (.builtin "property.__get__")) ∧ PySem.W.takesIn K (.ref p) = some true ∧
  PySem.W.recIn K p "property" = some (.ref g :: rest) ∧ FunD K nm qual (defArgs (mth j)) (defBody (mth j)) (defScope (mth j)) [] [] g fd
def Op' (P : Program) (w : World) (K : PySem.W.Frag) (mg : Str → Option Value) (base : Heap) (k : Nat) (C : Addr) (nm : Str) (sp : Sp) : Prop := ∃ p g rest, PySem.W.findIn K (.ref C) nm = some (some (.ref p)) ∧ PySem.W.specialIn K (.ref p) "__get__" = some (some (.builtin "property.__get__")) ∧
  PySem.W.takesIn K (.ref p) = some true ∧ PySem.W.recIn K p "property" = some (.ref g :: rest) ∧ FnR P w K mg base CX0 k g sp
/-- what stands of the class -/
structure Gal (K : PySem.W.Frag) (mg : Str → Option Value) (C : Addr) : Prop where
  gC : mg "Gallery" = some (.ref C)
  sc : SlX.SCls K C
  past : ∃ p, SlX.Slot1 K C "own_past" p 0
  ways : ∃ p, SlX.Slot1 K C "own_ways" p 1
section
variable {P : Program} {w : World} {K : PySem.W.Frag} {mg : Str → Option Value} {base : Heap} {C : Addr} {nm qual : Str} {j k : Nat} {N ps : List Str} {sp : Sp}
theorem raw_ok {CX : CXT} {g : Addr} {fd : FuncData} (F : FnOk P w K mg base CX k g fd ps sp) (hb : Binds K fd ps []) : FnR P w K mg base CX k g sp := by
  have h := F.raw hb .nil
  refine h.imp fun vs H Q E q => ?_
  show sp (vs ++ []) H Q E
  rw [List.append_nil]
  exact q
theorem Dm.ok (D : Dm K C nm qual j) (sc : FnScope N ps (defScope (mth j)))
    (hb : ∀ (kV doc pm : Value) (an : Option Addr) (cdv ct : Value) (us : List Value), us.length = ps.length → bindArgs (PySem.W.fnOf nm qual (defArgs (mth j)) (defBody (mth j)) (defScope (mth j)) .none kV doc pm an cdv ct) ⟨us, []⟩ = pure (ps.zip us))
    (len : ∀ vs H Q E, sp vs H Q E → vs.length = ps.length)
    (body : ∀ (f : Addr) (cdv : Value) (A : Around) (outer : List Env) (s : Shared) (H : Hp) (vs : List V) (Q : VK) (E : XK), Room k (A.deeper (envOfC qual (defScope (mth j)) s.heap.objs.size f cdv)) → sp vs H Q E →
      ∃ t, PSs (cxOf CX0 P w K mg base N qual (defScope (mth j)) f cdv A outer s H E).nox (defBody (mth j)) t ∧ t { nx := fun _ H' => Q .non H', rt := Q } (start N vs) H) : Om P w K mg base CX0 (k + 1) C nm sp := by
  obtain ⟨g, fd, hm, F⟩ := D
  refine ⟨g, hm, raw_ok (F.ok sc len fun cdv A outer s H vs Q E hr h => ?_) (F.bindsN hb)⟩
  obtain ⟨t, h1, h2⟩ := body g cdv A outer s H vs Q E hr h
  exact ⟨t, h1.nox, h2⟩
theorem Dm.okX (D : Dm K C nm qual j) (sc : FnScope N ps (defScope (mth j)))
    (hb : ∀ (kV doc pm : Value) (an : Option Addr) (cdv ct : Value) (us : List Value), us.length = ps.length → bindArgs (PySem.W.fnOf nm qual (defArgs (mth j)) (defBody (mth j)) (defScope (mth j)) .none kV doc pm an cdv ct) ⟨us, []⟩ = pure (ps.zip us))
    (len : ∀ vs H Q E, sp vs H Q E → vs.length = ps.length)
    (body : ∀ (f : Addr) (cdv : Value) (A : Around) (outer : List Env) (s : Shared) (H : Hp) (vs : List V) (Q : VK) (E : XK), Room k (A.deeper (envOfC qual (defScope (mth j)) s.heap.objs.size f cdv)) → sp vs H Q E →
      ∃ t, PSs (cxOf (L2.CX P w) P w K mg base N qual (defScope (mth j)) f cdv A outer s H E) (defBody (mth j)) t ∧ t { nx := fun _ H' => Q .non H', rt := Q } (start N vs) H) : Om P w K mg base (L2.CX P w) (k + 1) C nm sp := by
  obtain ⟨g, fd, hm, F⟩ := D
  exact ⟨g, hm, raw_ok (F.ok sc len fun cdv A outer s H vs Q E hr h => body g cdv A outer s H vs Q E hr h) (F.bindsN hb)⟩
theorem Dp'.ok (D : Dp' K C nm qual j) (sc : FnScope N ps (defScope (mth j)))
    (hb : ∀ (kV doc pm : Value) (an : Option Addr) (cdv ct : Value) (us : List Value), us.length = ps.length → bindArgs (PySem.W.fnOf nm qual (defArgs (mth j)) (defBody (mth j)) (defScope (mth j)) .none kV doc pm an cdv ct) ⟨us, []⟩ = pure (ps.zip us))
    (len : ∀ vs H Q E, sp vs H Q E → vs.length = ps.length)
    (body : ∀ (f : Addr) (cdv : Value) (A : Around) (outer : List Env) (s : Shared) (H : Hp) (vs : List V) (Q : VK) (E : XK), Room k (A.deeper (envOfC qual (defScope (mth j)) s.heap.objs.size f cdv)) → sp vs H Q E →
      ∃ t, PSs (cxOf CX0 P w K mg base N qual (defScope (mth j)) f cdv A outer s H E).nox (defBody (mth j)) t ∧ t { nx := fun _ H' => Q .non H', rt := Q } (start N vs) H) : Op' P w K mg base (k + 1) C nm sp := by
  obtain ⟨p, g, fd, rest, h1, h2, h3, h4, F⟩ := D
  refine ⟨p, g, rest, h1, h2, h3, h4, raw_ok (F.ok sc len fun cdv A outer s H vs Q E hr h => ?_) (F.bindsN hb)⟩
  obtain ⟨t, h1, h2⟩ := body g cdv A outer s H vs Q E hr h
  exact ⟨t, h1.nox, h2⟩
end
section
variable {X : Cx} {CX : CXT} {j k : Nat} {C : Addr} {nm : Str} {sp : Sp} {E : XK} {pos apos : Pos} {o e : Expr} {es : List Expr} {ta : TE} {t : TA}
theorem pe_om {pl : Sem Bool} (O : Om X.prog X.w X.K X.mg X.base CX k C nm sp) (c : SlX.SCls X.K C) (he : PE X o ta) (hr : Room j X.A) (hx : Passes CX X E) (ha : PA X (e :: es) t) (hj : k ≤ j := by decide)
    (hst : starEach (e :: es) X.env = (false, eval e X.env) :: starEach es X.env := by rfl) (hpl : (backTo pos (starEach es X.env)).any (·.1) = false := by rfl)
    (ht : eval (.Call (.Attribute o nm apos) (e :: es) [] pos) X.env = (do
      let ov ← eval o X.env
      standAt apos.atName
      let (f, first) ← holding [ov] (getMethod ov nm pl)
      callWith pos f first (backTo pos (starEach (e :: es) X.env)) (backToKw pos (keywordEach [] X.env))) := by rfl) : PE X (.Call (.Attribute o nm apos) (e :: es) [] pos) (SlX.tMethSl C sp E ta t) := by
  obtain ⟨g, hm, F⟩ := O
  exact SlX.pe_methSl he c hm F (hr.mono hj) hx ha hst hpl ht
theorem pe_om0 {pl : Sem Bool} (O : Om X.prog X.w X.K X.mg X.base CX k C nm sp) (c : SlX.SCls X.K C) (he : PE X o ta) (hr : Room j X.A) (hx : Passes CX X E) (hj : k ≤ j := by decide)
    (ht : eval (.Call (.Attribute o nm apos) [] [] pos) X.env = (do
      let ov ← eval o X.env
      standAt apos.atName
      let (f, first) ← holding [ov] (getMethod ov nm pl)
      callWith pos f first (backTo pos (starEach [] X.env)) (backToKw pos (keywordEach [] X.env))) := by rfl) : PE X (.Call (.Attribute o nm apos) [] [] pos) (SlX.tMethSl C sp E ta tNil) := by
  obtain ⟨g, hm, F⟩ := O
  exact SlX.pe_methSl0 he c hm F (hr.mono hj) hx ht
theorem pe_op' (O : Op' X.prog X.w X.K X.mg X.base k C nm sp) (c : SlX.SCls X.K C) (he : PE X e ta) (hr : Room j X.A) (hj : k + 1 ≤ j := by decide) (hb : attributeBase e nm X.env (eval e X.env) = eval e X.env := by rfl) : PE X (.Attribute e nm pos) (SlX.tPropSl C sp E0 ta) := by
  obtain ⟨p, g, rest, h1, h2, h3, h4, F⟩ := O
  exact SlX.pe_propSl he c h1 h2 h3 ⟨rest, h4⟩ F (hr.mono hj) (fun _ _ _ _ z => z) hb
/-- x in o, o of the class -/
theorem op_om (O : Om X.prog X.w X.K X.mg X.base CX k C "__contains__" sp) (hr : Room j X.A) (hx : Passes CX X E) (hj : k ≤ j := by decide) : OpR X (compareOp .In) (rInOwn C sp E) := by
  obtain ⟨g, hm, F⟩ := O
  exact op_in_own hm.at_ hm.fn F (hr.mono hj) hx
/-! ### a method's call whose errors are wished for by the slots (in a try's body) -/
theorem run_fnRS {pins : List (Addr × Obj)} {σ : L2.St} {H : Hp} {s : Shared} {g : Addr} {EE : L2.St → XK} {Q : VK} {us : List Value} {vs : List V} (F : FnR X.prog X.w X.K X.mg X.base CX k g sp) (hr : Room k X.A) (hx : PassesAt CX X σ (EE σ)) (I : Inv X pins σ H s) (r : Vals vs us) (h : sp vs H Q (EE σ)) :
    codeAny (model X.prog X.w) X.A (.call (.ref g) ⟨us, []⟩) (fun r s' => match r with | .ok (.ret v) => EP X pins σ Q v s' | .ok _ => False | .error e => X.xe e s') s := by
  refine codeAny_mono (F X.A X.stack s H us vs Q (EE σ) hr I.env0 r h) fun r s' hq => ?_
  cases r with
  | error e => exact hx pins H s e s' I hq
  | ok fl =>
    cases fl with
    | ret u => exact I.after hq
    | next => exact False.elim hq
    | brk => exact False.elim hq
    | cont => exact False.elim hq
def tMethS (C : Addr) (sp : Sp) (EE : L2.St → XK) (ta : TE) (t : TA) : TE := fun σ H Q => ta σ H fun x H1 => ∃ a dx vs, x = .ref a ∧ SlX.Slt H1 a C dx vs ∧ t σ H1 fun ws H2 => sp (x :: ws) H2 Q (EE σ)
theorem pe_omS {pl : Sem Bool} {EE : L2.St → XK} (O : Om X.prog X.w X.K X.mg X.base CX k C nm sp) (c : SlX.SCls X.K C) (he : PE X o ta) (hr : Room j X.A) (hx : ∀ σ, PassesAt CX X σ (EE σ)) (ha : PA X (e :: es) t) (hj : k ≤ j := by decide)
    (hst : starEach (e :: es) X.env = (false, eval e X.env) :: starEach es X.env := by rfl) (hpl : (backTo pos (starEach es X.env)).any (·.1) = false := by rfl)
    (ht : eval (.Call (.Attribute o nm apos) (e :: es) [] pos) X.env = (do
      let ov ← eval o X.env
      standAt apos.atName
      let (f, first) ← holding [ov] (getMethod ov nm pl)
      callWith pos f first (backTo pos (starEach (e :: es) X.env)) (backToKw pos (keywordEach [] X.env))) := by rfl) : PE X (.Call (.Attribute o nm apos) (e :: es) [] pos) (tMethS C sp EE ta t) := by
  obtain ⟨g, hm, F⟩ := O
  refine ⟨fun pins s σ H Q I h => ?_⟩
  refine PySem.W.methodCall_KW (pl := pl) (thn (he.run pins s σ H _ I h) fun u s1 ⟨x, H1, I1, rx, a, dx, vs, ex, hsl, q⟩ => ?_) ht
  subst ex
  obtain rfl : u = Value.ref a := rx
  refine SlX.getmethsl_ok I1 hsl c hm ?_
  refine PySem.W.callWith_K (first := [.ref a]) (h₀ := X.base) I.ok.mod.kin hm.kp (thn (ha.run pos pins s1 σ H1 _ I1 q) fun us s2 ⟨ws, H2, I2, r, q2⟩ => ⟨I2.kIn, ?_⟩) hst hpl
  exact wpAny_call (run_fnRS (us := .ref a :: us) (vs := .ref a :: ws) F (hr.mono hj) (hx σ) I2 (.cons rfl r) q2)
theorem pe_omS0 {pl : Sem Bool} {EE : L2.St → XK} (O : Om X.prog X.w X.K X.mg X.base CX k C nm sp) (c : SlX.SCls X.K C) (he : PE X o ta) (hr : Room j X.A) (hx : ∀ σ, PassesAt CX X σ (EE σ)) (hj : k ≤ j := by decide)
    (ht : eval (.Call (.Attribute o nm apos) [] [] pos) X.env = (do
      let ov ← eval o X.env
      standAt apos.atName
      let (f, first) ← holding [ov] (getMethod ov nm pl)
      callWith pos f first (backTo pos (starEach [] X.env)) (backToKw pos (keywordEach [] X.env))) := by rfl) : PE X (.Call (.Attribute o nm apos) [] [] pos) (tMethS C sp EE ta tNil) := by
  obtain ⟨g, hm, F⟩ := O
  refine ⟨fun pins s σ H Q I h => ?_⟩
  refine PySem.W.methodCall_KW (pl := pl) (thn (he.run pins s σ H _ I h) fun u s1 ⟨x, H1, I1, rx, a, dx, vs, ex, hsl, q⟩ => ?_) ht
  subst ex
  obtain rfl : u = Value.ref a := rx
  refine SlX.getmethsl_ok I1 hsl c hm ?_
  exact PySem.W.callWith_K0 (first := [.ref a]) I1.kIn hm.kp (wpAny_call (run_fnRS (us := [.ref a]) (vs := [.ref a]) F (hr.mono hj) (hx σ) I1 (.cons rfl .nil) q))
end
/-! ### how a gallery stands -/
def TupsAt (H : Hp) : List Addr → List (List W) → Prop
  | [], [] => True
  | t :: ts, u :: us => H t = some (.tup (Ss u)) ∧ TupsAt H ts us
  | _, _ => False
/-- a gallery at a, its dict at dx, its past's list at p -/
structure GAt (C : Addr) (H : Hp) (a dx p : Addr) (ws : List W) (past : List (List W)) : Prop where
  ne : dx ≠ a
  pne : p ≠ a ∧ p ≠ dx
  sl : ∃ t ts, SlX.Slt H a C dx [some (.ref p), some (.ref t)] ∧ H t = some (.tup (Ss ws)) ∧ H p = some (.lst (ts.map V.ref)) ∧ TupsAt H ts past
/-- all but the gallery and its past's list stays -/
def Keep (a p : Addr) (H H' : Hp) : Prop := ∀ b o, b ≠ a → b ≠ p → H b = some o → H' b = some o
theorem Keep.refl (a p : Addr) (H : Hp) : Keep a p H H := fun _ _ _ _ h => h
theorem Keep.trans {a p : Addr} {H H1 H2 : Hp} (x : Keep a p H H1) (y : Keep a p H1 H2) : Keep a p H H2 := fun b o h1 h2 h => y b o h1 h2 (x b o h1 h2 h)
theorem Keep.of {a p : Addr} {H H1 : Hp} (x : Ex H H1) : Keep a p H H1 := fun b o _ _ h => x b o h
theorem Keep.lst {a p l : Addr} {H H1 : Hp} {xs : List V} {C dx : Addr} {ws : List W} {past : List (List W)} (k : Keep a p H H1) (g : GAt C H a dx p ws past) (hp : l ≠ p) (h : H l = some (.lst xs)) : H1 l = some (.lst xs) := by
  refine k l _ (fun z => ?_) hp h
  obtain ⟨t, ts, hs, _⟩ := g.sl
  rw [z] at h
  rcases hs with ⟨_, z⟩ | ⟨hs, _⟩
  · cases z
  · rw [hs] at h
    cases h
theorem Keep.tup {a p t : Addr} {H H1 : Hp} {xs : List V} {C dx : Addr} {ws : List W} {past : List (List W)} (k : Keep a p H H1) (g : GAt C H a dx p ws past) (h : H t = some (.tup xs)) : H1 t = some (.tup xs) := by
  obtain ⟨t', ts, hs, _, hp, _⟩ := g.sl
  refine k t _ (fun z => ?_) (fun z => ?_) h
  · rw [z] at h
    rcases hs with ⟨_, z⟩ | ⟨hs, _⟩
    · cases z
    · rw [hs] at h
      cases h
  · rw [z, hp] at h
    cases h
theorem TupsAt.mono {H H1 : Hp} (k : ∀ t xs, H t = some (.tup xs) → H1 t = some (.tup xs)) : ∀ {ts : List Addr} {us : List (List W)}, TupsAt H ts us → TupsAt H1 ts us
  | [], [], _ => trivial
  | t :: ts, u :: us, h => ⟨k _ _ h.1, TupsAt.mono k h.2⟩
theorem TupsAt.len {H : Hp} : ∀ {ts : List Addr} {us : List (List W)}, TupsAt H ts us → ts.length = us.length
  | [], [], _ => rfl
  | t :: ts, u :: us, h => congrArg Nat.succ (TupsAt.len h.2)
theorem TupsAt.snoc {H : Hp} {t : Addr} {u : List W} (ht : H t = some (.tup (Ss u))) : ∀ {ts : List Addr} {us : List (List W)}, TupsAt H ts us → TupsAt H (ts ++ [t]) (us ++ [u])
  | [], [], _ => ⟨ht, trivial⟩
  | t :: ts, u :: us, h => ⟨h.1, TupsAt.snoc ht h.2⟩
theorem TupsAt.unsnoc {H : Hp} {t : Addr} {u : List W} : ∀ {ts : List Addr} {us : List (List W)}, TupsAt H (ts ++ [t]) (us ++ [u]) → TupsAt H ts us ∧ H t = some (.tup (Ss u))
  | [], [], h => ⟨trivial, h.1⟩
  | [], x :: us, h => by
    have := TupsAt.len h
    simp at this
  | x :: ts, [], h => by
    have := TupsAt.len h
    simp at this
  | x :: ts, y :: us, h => ⟨⟨h.1, (TupsAt.unsnoc h.2).1⟩, (TupsAt.unsnoc h.2).2⟩
theorem Slt.two {H : Hp} {a C dx : Addr} {x y : Option V} (h : SlX.Slt H a C dx [x, y]) : H a = some (SlX.SlO a C dx [x, y]) ∧ H dx = some (.xd []) := by
  rcases h with ⟨_, z⟩ | h
  · cases z
  · exact h
theorem GAt.mono {C : Addr} {H H1 : Hp} {a dx p : Addr} {ws : List W} {past : List (List W)} (g : GAt C H a dx p ws past) (e : Ex H H1) : GAt C H1 a dx p ws past := by
  obtain ⟨t, ts, hs, ht, hp, hts⟩ := g.sl
  have h2 := Slt.two hs
  exact ⟨g.ne, g.pne, t, ts, .inr ⟨e _ _ h2.1, e _ _ h2.2⟩, e _ _ ht, e _ _ hp, hts.mono fun t xs h => e _ _ h⟩
theorem GAt.of {C : Addr} {H H1 : Hp} {a dx p : Addr} {ws : List W} {past : List (List W)} (g : GAt C H a dx p ws past) (e : ∀ b o, H b = some o → H1 b = some o) : GAt C H1 a dx p ws past := g.mono e
end Mir
/-! part W7 -/
set_option Elab.async false
set_option linter.all false
set_option maxRecDepth 100000
set_option maxHeartbeats 4000000
/-! The walk: the methods of a gallery. -/
namespace Mir
open PySem PySem.Spec PyProof.Rows L2 Evl
section
variable {K : PySem.W.Frag} {mg : Str → Option Value} {σ : L2.St} {H H' : Hp} {ta tb te : TE} {a dx p t C : Addr} {ws : List W} {past : List (List W)}
theorem ev_own (ha : Ev ta σ H (.ref a)) (GF : Gal K mg C) (h : SlX.Slt H a C dx [some (.ref p), some (.ref t)]) : Ev (SlX.tSl K ta "own_ways") σ H (.ref t) := fun H1 e Q q => ha H1 e _ fun H2 e2 => by
  obtain ⟨d, hd⟩ := GF.ways
  have h2 := Slt.two h
  exact ⟨a, C, dx, d, [some (.ref p), some (.ref t)], 1, .ref t, rfl, .inr ⟨e2 _ _ (e _ _ h2.1), e2 _ _ (e _ _ h2.2)⟩, GF.sc, hd, rfl, q H2 e2⟩
theorem ev_past (ha : Ev ta σ H (.ref a)) (GF : Gal K mg C) (h : SlX.Slt H a C dx [some (.ref p), some (.ref t)]) : Ev (SlX.tSl K ta "own_past") σ H (.ref p) := fun H1 e Q q => ha H1 e _ fun H2 e2 => by
  obtain ⟨d, hd⟩ := GF.past
  have h2 := Slt.two h
  exact ⟨a, C, dx, d, [some (.ref p), some (.ref t)], 0, .ref p, rfl, .inr ⟨e2 _ _ (e _ _ h2.1), e2 _ _ (e _ _ h2.2)⟩, GF.sc, hd, rfl, q H2 e2⟩
theorem slt_mono (e : Ex H H') {vs : List (Option V)} {x y : Option V} (h : SlX.Slt H a C dx [x, y]) : SlX.Slt H' a C dx [x, y] := by
  have h2 := Slt.two h
  exact .inr ⟨e _ _ h2.1, e _ _ h2.2⟩
/-- self.own_ways = a new tuple -/
theorem s_waysU {D : Ends} {xs : List V} (h : EvU te σ H xs) (ha : Ev ta σ H (.ref a)) (GF : Gal K mg C) (hs : SlX.Slt H a C dx [some (.ref p), some (.ref t)])
    (k : ∀ b H1, H b = none → Ex H H1 → H1 b = some (.tup xs) → D.nx σ (SlX.slH H1 a C dx [some (.ref p), some (.ref b)])) : SlX.sSl K ta te "own_ways" D σ H := h H (Ex.refl H) _ fun b H1 hb e1 hx => ha H1 e1 _ fun H2 e2 => by
  obtain ⟨d, hd⟩ := GF.ways
  exact ⟨a, C, dx, d, [some (.ref p), some (.ref t)], 1, rfl, slt_mono (e1.trans e2) (vs := []) hs, GF.sc, hd, k b H2 hb (e1.trans e2) (e2 _ _ hx)⟩
/-- the gallery with another tuple of ways -/
theorem gat_ways {t2 : Addr} {us : List W} {ts : List Addr} {past' : List (List W)} (hne : dx ≠ a) (hpn : p ≠ a ∧ p ≠ dx) (ha : H a = some (SlX.SlO a C dx [some (.ref p), some (.ref t)])) (hdx : H dx = some (.xd [])) (hp : H p = some (.lst (ts.map V.ref))) (ht : H t2 = some (.tup (Ss us))) (hts : TupsAt H ts past') :
    GAt C (SlX.slH H a C dx [some (.ref p), some (.ref t2)]) a dx p us past' ∧ Keep a p H (SlX.slH H a C dx [some (.ref p), some (.ref t2)]) := by
  have tup : ∀ b xs, H b = some (.tup xs) → (SlX.slH H a C dx [some (.ref p), some (.ref t2)]) b = some (.tup xs) := fun b xs h => by
    rw [SlX.slH_ne (fun z => by rw [z, ha] at h; cases h) (fun z => by rw [z, hdx] at h; cases h)]
    exact h
  refine ⟨⟨hne, hpn, t2, ts, SlX.slH_slt hne, tup _ _ ht, ?_, hts.mono tup⟩, fun b o h1 h2 h => ?_⟩
  · rw [SlX.slH_ne hpn.1 hpn.2]
    exact hp
  · by_cases hb : b = dx
    · rw [hb] at h ⊢
      rw [hdx] at h
      rw [← h]
      unfold SlX.slH
      rw [upd_ne hne, upd_same]
    · rw [SlX.slH_ne h1 hb]
      exact h
theorem eu_star1 {xs : List V} {v : V} {b : Addr} (h : Ev te σ H (.ref b)) (hx : SqT K H b xs) (h2 : Ev tb σ H v) (hz : xs.length ≤ 1000) : EvU (tTup (tStar K te (tCons tb tNil))) σ H (xs ++ [v]) := fun H1 e Q q => h H1 e _ fun H2 e2 =>
  ⟨b, xs, rfl, .inr (ex_t (e.trans e2) hx), h2 H2 (e.trans e2) _ fun H3 e3 => ⟨by rw [List.length_append]; exact big (by show _ + 1 ≤ _; omega), fun r hr => q r _ (fresh_back (e2.trans e3) hr) ((e2.trans e3).trans (Ex.new hr)) upd_same⟩⟩
end
abbrev sp_m_become (K : PySem.W.Frag) (C : Addr) : Sp := fun vs H Q _ => ∃ (a dx p b : Addr) (ws : List W) (past : List (List W)) (l : List W), vs = [.ref a, .ref b] ∧ GAt C H a dx p ws past ∧ past.length ≤ 1000 ∧
  (∀ H1, Keep a p H H1 → SqL K H1 b (Ss l) ∨ SqT K H1 b (Ss l)) ∧ l.length < 64 ∧ ∀ H', Keep a p H H' → GAt C H' a dx p (setOf l) (past ++ [ws]) → Q .non H'
/-- the gallery behind a deed -/
abbrev Aft (C : Addr) (H : Hp) (a dx p : Addr) (ws : List W) (past : List (List W)) (Q : VK) : Prop := ∀ H', Keep a p H H' → GAt C H' a dx p ws past → Q .non H'
abbrev sp_m_hang (C CK : Addr) : Sp := fun vs H Q E => ∃ (a dx p : Addr) (ws : List W) (past : List (List W)) (x : W), vs = [.ref a, S x] ∧ GAt C H a dx p ws past ∧ past.length ≤ 1000 ∧ ws.length < 63 ∧
  (x ∈ ws → ∀ H1, Ex H H1 → ∀ d, H1 d = none → E (.ref CK) (some d) (upd H1 d (.xd [(("way" : Str), S x)]))) ∧ (x ∉ ws → Aft C H a dx p (setOf (ws ++ [x])) (past ++ [ws]) Q)
abbrev sp_m_take (C CN : Addr) : Sp := fun vs H Q E => ∃ (a dx p : Addr) (ws : List W) (past : List (List W)) (x : W), vs = [.ref a, S x] ∧ GAt C H a dx p ws past ∧ past.length ≤ 1000 ∧ ws.length < 64 ∧
  (x ∉ ws → ∀ H1, Ex H H1 → ∀ d, H1 d = none → E (.ref CN) (some d) (upd H1 d (.xd [(("way" : Str), S x)]))) ∧ (x ∈ ws → Aft C H a dx p (setOf (ws.filter fun y => !decide (y = x))) (past ++ [ws]) Q)
abbrev sp_m_look (C : Addr) : Sp := fun vs H Q _ => ∃ (a dx p : Addr) (ws : List W) (past : List (List W)) (x : W), vs = [.ref a, S x] ∧ GAt C H a dx p ws past ∧ past.length ≤ 1000 ∧ ws.length < 64 ∧ Shr 40000 ws ∧ x.length ≤ 40000 ∧
  Aft C H a dx p (setOf (ws.map fun y => sn y x)) (past ++ [ws]) Q
abbrev sp_m_tidy (C : Addr) : Sp := fun vs H Q _ => ∃ (a dx p : Addr) (ws : List W) (past : List (List W)), vs = [.ref a] ∧ GAt C H a dx p ws past ∧ past.length ≤ 1000 ∧ Ways ws ∧ ws.length < 64 ∧ Shr 40000 ws ∧
  Aft C H a dx p (setOf (mk ws)) (past ++ [ws]) Q
abbrev sp_m_undo (C CD : Addr) : Sp := fun vs H Q E => ∃ (a dx p : Addr) (ws : List W) (past : List (List W)), vs = [.ref a] ∧ GAt C H a dx p ws past ∧
  (past = [] → ∀ H1, Ex H H1 → E (.ref CD) none H1) ∧ ∀ q u, past = q ++ [u] → Aft C H a dx p u q Q
abbrev sp_m_chain (C : Addr) : Sp := fun vs H Q _ => ∃ (a dx p : Addr) (ws : List W) (past : List (List W)) (x : W), vs = [.ref a, S x] ∧ GAt C H a dx p ws past ∧ Ways ws ∧ ws.length < 64 ∧ Shr 40000 ws ∧ Way x ∧ x.length ≤ 40000 ∧ Ro (chn ws x) H Q
abbrev sp_m_contains (C : Addr) : Sp := fun vs H Q _ => ∃ (a dx p : Addr) (ws : List W) (past : List (List W)) (x : W), vs = [.ref a, S x] ∧ GAt C H a dx p ws past ∧ Ways ws ∧ ws.length < 64 ∧ Shr 40000 ws ∧ Way x ∧ x.length ≤ 40000 ∧ Rv (.bl (decide ((fold (mk ws) x).1 ∈ mk ws))) H Q
abbrev sp_p_ways (C : Addr) : Sp := fun vs H Q _ => ∃ (a dx p : Addr) (ws : List W) (past : List (List W)), vs = [.ref a] ∧ GAt C H a dx p ws past ∧ ∀ t H1, Ex H H1 → H1 t = some (.tup (Ss ws)) → Q (.ref t) H1
abbrev sp_p_makers (C : Addr) : Sp := fun vs H Q _ => ∃ (a dx p : Addr) (ws : List W) (past : List (List W)), vs = [.ref a] ∧ GAt C H a dx p ws past ∧ Ways ws ∧ ws.length < 64 ∧ Shr 40000 ws ∧ Rt (Ss (mk ws)) H Q
abbrev sp_p_deeds (C : Addr) : Sp := fun vs H Q _ => ∃ (a dx p : Addr) (ws : List W) (past : List (List W)), vs = [.ref a] ∧ GAt C H a dx p ws past ∧ Rv (.int (past.length : Int)) H Q
section
variable {P : Program} {w : World} {K : PySem.W.Frag} {mg : Str → Option Value} {base : Heap} {C : Addr}
theorem sc_Gallery_become : FnScope ["self", "ways"] ["self", "ways"] (defScope (inClass (top 43) 9)) := ⟨rfl, rfl, rfl, by decide +kernel, rfl, by decide +kernel, by decide +kernel⟩
theorem ok_m_become (B : Bu mg) (T : Cst K mg) (GF : Gal K mg C) (O_set_of : Ok P w K mg base CX0 1 "set_of" (sp_set_of K)) (D : Dm K C "become" "Gallery.become" 9) : Om P w K mg base CX0 2 C "become" (sp_m_become K C) := by
  refine D.ok sc_Gallery_become (fun _ _ _ _ _ _ us hl => match us, hl with | [_, _], _ => rfl) (by rintro vs H Q E ⟨a, dx, p, b, l, x, y, rfl, _⟩; rfl) fun f cdv A outer s H vs Q E hr h => ⟨_, (pss_cons (ps_expr (pe_bm PySem.F.plainAttrs_list PySem.F.slot_list_append PySem.F.type_list_append mt_append (SlX.pe_sl (pv 0)) (pa_cons (SlX.pe_sl (pv 0)) pa_nil)))
    (pss_one (SlX.ps_sl (pv 0) (pe_ok O_set_of hr rfl pass0 (pa_cons (pv 1) pa_nil))))), ?_⟩
  obtain ⟨a, dx, p, b, ws, past, l, rfl, g, hpl, hb, hl, q⟩ := h
  obtain ⟨t, ts, hs, ht, hp, hts⟩ := g.sl
  have h2 := Slt.two hs
  have hlen := hts.len
  refine q_app (l := p) (xs := ts.map V.ref) (v := .ref t) hp (ev_past (ev_var rfl) GF hs) (ev_own (ev_var rfl) GF hs) (by rw [List.length_map]; omega) fun H1 e1 => ?_
  generalize hc : upd H1 p (.lst (ts.map V.ref ++ [.ref t])) = Hc
  have nep : ∀ {b o}, H b = some o → (∀ xs, o ≠ .lst xs) → Hc b = some o := fun {b o} h n => by
    rw [← hc, upd_ne (fun z => by rw [z, hp] at h; cases h; exact n _ rfl)]
    exact e1 _ _ h
  have kc : Keep a p H Hc := fun b o _ hb h => by
    rw [← hc, upd_ne hb]
    exact e1 _ _ h
  have ha : Hc a = some (SlX.SlO a C dx [some (.ref p), some (.ref t)]) := nep h2.1 fun xs z => nomatch z
  have hdx : Hc dx = some (.xd []) := nep h2.2 fun xs z => nomatch z
  refine s_waysU (t := t) (p := p) (dx := dx) (xs := Ss (setOf l)) (eu_ok (ea_cons (ev_var rfl) ea_nil) (fun H2 Q' e2 q' => ⟨b, l, rfl, (hb Hc kc).imp (ex_l e2) (ex_t e2), hl, q'⟩)) (ev_var rfl) GF (.inr ⟨ha, hdx⟩) fun t2 H2 ht2 e2 hx2 => ?_
  have hp2 : H2 p = some (.lst ((ts ++ [t]).map V.ref)) := by
    rw [List.map_append]
    refine e2 _ _ ?_
    rw [← hc]
    exact upd_same
  have tup2 : ∀ u xs, H u = some (.tup xs) → H2 u = some (.tup xs) := fun u xs h => e2 _ _ (nep h fun _ z => nomatch z)
  obtain ⟨g2, k2⟩ := gat_ways (t := t) g.ne g.pne (e2 _ _ ha) (e2 _ _ hdx) hp2 hx2 ((hts.mono tup2).snoc (tup2 _ _ ht))
  exact q _ ((kc.trans (.of e2)).trans k2) g2
theorem sc_Gallery_hang : FnScope ["self", "way"] ["self", "way"] (defScope (inClass (top 43) 10)) := ⟨rfl, rfl, rfl, by decide +kernel, rfl, by decide +kernel, by decide +kernel⟩
theorem ok_m_hang (B : Bu mg) (T : Cst K mg) (GF : Gal K mg C) {CK : Addr} (T_Known : ErX.ClsX P K mg "Known" "ValueError" "ValueError.__new__" "ValueError.__init__" CK) (ev_Known : EvK K CK) (O_m_become : Om P w K mg base CX0 2 C "become" (sp_m_become K C)) (D : Dm K C "hang" "Gallery.hang" 10) : Om P w K mg base (L2.CX P w) 3 C "hang" (sp_m_hang C CK) := by
  refine D.okX sc_Gallery_hang (fun _ _ _ _ _ _ us hl => match us, hl with | [_, _], _ => rfl) (by rintro vs H Q E ⟨a, dx, p, ws, past, x, rfl, _⟩; rfl) fun f cdv A outer s H vs Q E hr h => ⟨_, (pss_cons (ps_if (pt_cmpR op_in_seq (pv 1) (SlX.pe_sl (pv 0)) (by rfl))
      (pss_one (ps_raiseX rfl ErX.base_value T_Known ev_Known hr (takes_of rfl rfl rfl rfl) (pa_cons (pv 1) pa_nil) rfl))
      pss_nil)
    (pss_one (ps_expr (pe_om O_m_become GF.sc (pv 0) hr pass0 (pa_cons (pe_tup (pa_star (SlX.pe_sl (pv 0)) (pa_cons (pv 1) pa_nil))) pa_nil))))), ?_⟩
  obtain ⟨a, dx, p, ws, past, x, rfl, g, hpl, hl, qE, q⟩ := h
  obtain ⟨t, ts, hs, ht, hp, hts⟩ := g.sl
  refine q_when (et_test (ev_inSs (ev_var rfl) (ev_own (ev_var rfl) GF hs) (.inr (st_of ht)))) (fun hb H1 e1 => ?_) fun hb H1 e1 => ?_
  · exact ⟨S x, rfl, S x, rfl, fun d hd => qE (of_decide_eq_true hb) H1 e1 d hd⟩
  · have g1 := g.mono e1
    have hs1 := slt_mono (vs := []) e1 hs
    refine ⟨.ref a, rfl, a, dx, _, rfl, hs1, ?_⟩
    refine eu_star1 (K := K) (σ := [some (.ref a), some (S x)]) (xs := Ss ws) (v := S x) (ev_own (ev_var (i := 0) rfl) GF hs1) (st_of (e1 _ _ ht)) (ev_var (i := 1) rfl) (by rw [List.length_map]; omega) H1 (Ex.refl H1) _ fun b H2 hb2 e2 hx2 => ?_
    have hx2' : H2 b = some (.tup (Ss (ws ++ [x]))) := by
      rw [hx2]
      unfold Ss
      rw [List.map_append]
      rfl
    refine ⟨a, dx, p, b, ws, past, ws ++ [x], rfl, g1.mono e2, hpl, fun H3 k3 => .inr (st_of (k3.tup (g1.mono e2) hx2')), by rw [List.length_append]; show _ + 1 < 64; omega, fun H3 k3 g3 => ?_⟩
    exact q (of_decide_eq_false hb) H3 ((Keep.of (e1.trans e2)).trans k3) g3
theorem sc_Gallery_take : FnScope ["self", "way", "own"] ["self", "way"] (defScope (inClass (top 43) 11)) := ⟨rfl, rfl, rfl, by decide +kernel, rfl, by decide +kernel, by decide +kernel⟩
theorem ok_m_take (B : Bu mg) (T : Cst K mg) (GF : Gal K mg C) {CN : Addr} (T_NoWay : ErX.ClsX P K mg "NoWay" "LookupError" "LookupError.__new__" "LookupError.__init__" CN) (ev_NoWay : EvK K CN) (O_m_become : Om P w K mg base CX0 2 C "become" (sp_m_become K C)) (D : Dm K C "take" "Gallery.take" 11) : Om P w K mg base (L2.CX P w) 3 C "take" (sp_m_take C CN) := by
  refine D.okX sc_Gallery_take (fun _ _ _ _ _ _ us hl => match us, hl with | [_, _], _ => rfl) (by rintro vs H Q E ⟨a, dx, p, ws, past, x, rfl, _⟩; rfl) fun f cdv A outer s H vs Q E hr h => ⟨_, (pss_cons (ps_if (pt_cmpR op_notIn_seq (pv 1) (SlX.pe_sl (pv 0)) (by rfl))
      (pss_one (ps_raiseX rfl ErX.base_lookup T_NoWay ev_NoWay hr (takes_of rfl rfl rfl rfl) (pa_cons (pv 1) pa_nil) rfl))
      pss_nil)
    (pss_one (ps_expr (pe_om O_m_become GF.sc (pv 0) hr pass0 (pa_cons (pe_lc (own := [("own", 2)]) (g := (gName 2)) (tt := (tTest (tOp rNe (tVar 2) (tVar 1)))) (te := (tVar 2)) rfl sc_Gallery_take.nd (pi_tup (SlX.pe_sl (pv 0))) (blkOk_by (N := ["self", "way", "own"]) (sc := defScope (inClass (top 43) 11)) (by decide +kernel)) (fun _ _ _ _ _ => (pg_name (i := 2) sc_Gallery_take.nd rfl (.inl rfl))) (fun _ _ _ _ _ => pts_one (pt_cmpR op_ne (pv 2) (pv 1) (nomark _))) (fun _ _ _ _ _ => (pv 2))) pa_nil))))), ?_⟩
  obtain ⟨a, dx, p, ws, past, x, rfl, g, hpl, hl, qE, q⟩ := h
  obtain ⟨t, ts, hs, ht, hp, hts⟩ := g.sl
  refine q_when (et_test (ev_niSs (ev_var rfl) (ev_own (ev_var rfl) GF hs) (.inr (st_of ht)))) (fun hb H1 e1 => ?_) fun hb H1 e1 => ?_
  · exact ⟨S x, rfl, S x, rfl, fun d hd => qE (by simpa using hb) H1 e1 d hd⟩
  · have g1 := g.mono e1
    have hs1 := slt_mono (vs := []) e1 hs
    refine ⟨.ref a, rfl, a, dx, _, rfl, hs1, ?_⟩
    refine el_lcF (l := ws) (fun y => !decide (y = x)) (ei_tup (ev_own (ev_var (i := 0) rfl) GF hs1) (st_of (e1 _ _ ht))) (by omega) (fun _ => rfl) (fun y hy H2 e2 => ⟨et_test (ev_neS (ev_var rfl) (ev_var rfl)), ev_var rfl⟩) H1 (Ex.refl H1) _ fun b H2 hb2 e2 hx2 => ?_
    have hbp : b ≠ p := fun z => by
      rw [z] at hb2
      rw [e1 _ _ hp] at hb2
      cases hb2
    have hfl := List.length_filter_le (fun y => !decide (y = x)) ws
    refine ⟨a, dx, p, b, ws, past, _, rfl, g1.mono e2, hpl, fun H3 k3 => .inl (sq_of (k3.lst (g1.mono e2) hbp hx2)), by omega, fun H3 k3 g3 => ?_⟩
    exact q (by simpa using hb) H3 ((Keep.of (e1.trans e2)).trans k3) g3
theorem sc_Gallery_look : FnScope ["self", "way", "own"] ["self", "way"] (defScope (inClass (top 43) 12)) := ⟨rfl, rfl, rfl, by decide +kernel, rfl, by decide +kernel, by decide +kernel⟩
theorem ok_m_look (B : Bu mg) (T : Cst K mg) (GF : Gal K mg C) (O_seen_in : Ok P w K mg base CX0 4 "seen_in" sp_seen_in) (O_m_become : Om P w K mg base CX0 2 C "become" (sp_m_become K C)) (D : Dm K C "look" "Gallery.look" 12) : Om P w K mg base CX0 5 C "look" (sp_m_look C) := by
  refine D.ok sc_Gallery_look (fun _ _ _ _ _ _ us hl => match us, hl with | [_, _], _ => rfl) (by rintro vs H Q E ⟨a, dx, p, ws, past, x, rfl, _⟩; rfl) fun f cdv A outer s H vs Q E hr h => ⟨_, (pss_one (ps_expr (pe_om O_m_become GF.sc (pv 0) hr pass0 (pa_cons (pe_lc (own := [("own", 2)]) (g := (gName 2)) (tt := tYes) (te := (tCall sp_seen_in [] E0 (tCons (tVar 2) (tCons (tVar 1) tNil)))) rfl sc_Gallery_look.nd (pi_tup (SlX.pe_sl (pv 0))) (blkOk_by (N := ["self", "way", "own"]) (sc := defScope (inClass (top 43) 12)) (by decide +kernel)) (fun _ _ _ _ _ => (pg_name (i := 2) sc_Gallery_look.nd rfl (.inl rfl))) (fun _ _ _ _ _ => pts_nil) (fun _ _ _ _ _ => (pe_ok O_seen_in hr rfl pass0 (pa_cons (pv 2) (pa_cons (pv 1) pa_nil))))) pa_nil)))), ?_⟩
  obtain ⟨a, dx, p, ws, past, x, rfl, g, hpl, hl, hsz, hx, q⟩ := h
  obtain ⟨t, ts, hs, ht, hp, hts⟩ := g.sl
  refine ⟨.ref a, rfl, a, dx, _, rfl, hs, ?_⟩
  refine el_lcM (l := ws) (fun y => sn y x) (ei_tup (ev_own (ev_var (i := 0) rfl) GF hs) (st_of ht)) (by omega) (fun _ => rfl) (fun y hy H2 e2 => ev_s2 (ev_var rfl) (ev_var rfl) ⟨Nat.le_trans (hsz y hy) (by decide), by omega⟩) H (Ex.refl H) _ fun b H2 hb2 e2 hx2 => ?_
  have hbp : b ≠ p := fun z => by
    rw [z] at hb2
    rw [hp] at hb2
    cases hb2
  exact ⟨a, dx, p, b, ws, past, _, rfl, g.mono e2, hpl, fun H3 k3 => .inl (sq_of (k3.lst (g.mono e2) hbp hx2)), by rw [List.length_map]; exact hl, fun H3 k3 g3 => q H3 ((Keep.of e2).trans k3) g3⟩
theorem sc_Gallery_tidy : FnScope ["self"] ["self"] (defScope (inClass (top 43) 13)) := ⟨rfl, rfl, rfl, by decide +kernel, rfl, by decide +kernel, by decide +kernel⟩
theorem ok_m_tidy (B : Bu mg) (T : Cst K mg) (GF : Gal K mg C) (O_makers_makers : Ok P w K mg base CX0 6 "makers_makers" (sp_makers K)) (O_m_become : Om P w K mg base CX0 2 C "become" (sp_m_become K C)) (D : Dm K C "tidy" "Gallery.tidy" 13) : Om P w K mg base CX0 7 C "tidy" (sp_m_tidy C) := by
  refine D.ok sc_Gallery_tidy (fun _ _ _ _ _ _ us hl => match us, hl with | [_], _ => rfl) (by rintro vs H Q E ⟨a, dx, p, ws, past, rfl, _⟩; rfl) fun f cdv A outer s H vs Q E hr h => ⟨_, (pss_one (ps_expr (pe_om O_m_become GF.sc (pv 0) hr pass0 (pa_cons (pe_ok O_makers_makers hr rfl pass0 (pa_cons (SlX.pe_sl (pv 0)) pa_nil)) pa_nil)))), ?_⟩
  obtain ⟨a, dx, p, ws, past, rfl, g, hpl, ww, hl, hsz, q⟩ := h
  obtain ⟨t, ts, hs, ht, hp, hts⟩ := g.sl
  refine ⟨.ref a, rfl, a, dx, _, rfl, hs, ?_⟩
  refine eu_ok (xs := Ss (mk ws)) (ea_cons (ev_own (K := K) (σ := [some (.ref a)]) (ev_var (i := 0) rfl) GF hs) ea_nil) (fun H2 Q' e2 q' => ⟨t, ws, rfl, st_of (e2 _ _ ht), ww, hl, hsz, q'⟩) H (Ex.refl H) _ fun b H2 hb2 e2 hx2 => ?_
  have := mk_len ww
  exact ⟨a, dx, p, b, ws, past, _, rfl, g.mono e2, hpl, fun H3 k3 => .inr (st_of (k3.tup (g.mono e2) hx2)), by omega, fun H3 k3 g3 => q H3 ((Keep.of e2).trans k3) g3⟩
theorem sc_Gallery_chain : FnScope ["self", "way"] ["self", "way"] (defScope (inClass (top 43) 16)) := ⟨rfl, rfl, rfl, by decide +kernel, rfl, by decide +kernel, by decide +kernel⟩
theorem ok_m_chain (B : Bu mg) (T : Cst K mg) (GF : Gal K mg C) (O_chain_to : Ok P w K mg base CX0 7 "chain_to" (sp_chain_to K)) (D : Dm K C "chain" "Gallery.chain" 16) : Om P w K mg base CX0 8 C "chain" (sp_m_chain C) := by
  refine D.ok sc_Gallery_chain (fun _ _ _ _ _ _ us hl => match us, hl with | [_, _], _ => rfl) (by rintro vs H Q E ⟨a, dx, p, ws, past, x, rfl, _⟩; rfl) fun f cdv A outer s H vs Q E hr h => ⟨_, (pss_one (ps_ret (pe_ok O_chain_to hr rfl pass0 (pa_cons (SlX.pe_sl (pv 0)) (pa_cons (pv 1) pa_nil))))), ?_⟩
  obtain ⟨a, dx, p, ws, past, x, rfl, g, ww, hl, hsz, wx, hx, q⟩ := h
  obtain ⟨t, ts, hs, ht, hp, hts⟩ := g.sl
  cases hc : chn ws x with
  | none =>
    rw [hc] at q
    exact s_ret (ev_ok (ea_cons (ev_own (ev_var rfl) GF hs) (ea_cons (ev_var rfl) ea_nil)) fun H1 Q e1 q => ⟨t, ws, x, rfl, st_of (e1 _ _ ht), ww, hl, hsz, wx, hx, by rw [hc]; exact q⟩) q
  | some l =>
    rw [hc] at q
    exact s_retU (eu_ok (ea_cons (ev_own (ev_var rfl) GF hs) (ea_cons (ev_var rfl) ea_nil)) fun H1 Q e1 q => ⟨t, ws, x, rfl, st_of (e1 _ _ ht), ww, hl, hsz, wx, hx, by rw [hc]; exact q⟩) q
theorem sc_Gallery___contains__ : FnScope ["self", "way"] ["self", "way"] (defScope (inClass (top 43) 6)) := ⟨rfl, rfl, rfl, by decide +kernel, rfl, by decide +kernel, by decide +kernel⟩
theorem ok_m_contains (B : Bu mg) (T : Cst K mg) (GF : Gal K mg C) (O_is_of : Ok P w K mg base CX0 7 "is_of" (sp_is_of K)) (D : Dm K C "__contains__" "Gallery.__contains__" 6) : Om P w K mg base CX0 8 C "__contains__" (sp_m_contains C) := by
  refine D.ok sc_Gallery___contains__ (fun _ _ _ _ _ _ us hl => match us, hl with | [_, _], _ => rfl) (by rintro vs H Q E ⟨a, dx, p, ws, past, x, rfl, _⟩; rfl) fun f cdv A outer s H vs Q E hr h => ⟨_, (pss_one (ps_ret (pe_ok O_is_of hr rfl pass0 (pa_cons (SlX.pe_sl (pv 0)) (pa_cons (pv 1) pa_nil))))), ?_⟩
  obtain ⟨a, dx, p, ws, past, x, rfl, g, ww, hl, hsz, wx, hx, q⟩ := h
  obtain ⟨t, ts, hs, ht, hp, hts⟩ := g.sl
  exact s_ret (ev_ok (ea_cons (ev_own (ev_var rfl) GF hs) (ea_cons (ev_var rfl) ea_nil)) fun H1 Q e1 q => ⟨t, ws, x, rfl, st_of (e1 _ _ ht), ww, hl, hsz, wx, hx, q⟩) q
theorem sc_Gallery_ways : FnScope ["self"] ["self"] (defScope (inClass (top 43) 2)) := ⟨rfl, rfl, rfl, by decide +kernel, rfl, by decide +kernel, by decide +kernel⟩
theorem ok_p_ways (B : Bu mg) (T : Cst K mg) (GF : Gal K mg C)  (D : Dp' K C "ways" "Gallery.ways" 2) : Op' P w K mg base 1 C "ways" (sp_p_ways C) := by
  refine D.ok sc_Gallery_ways (fun _ _ _ _ _ _ us hl => match us, hl with | [_], _ => rfl) (by rintro vs H Q E ⟨a, dx, p, ws, past, rfl, _⟩; rfl) fun f cdv A outer s H vs Q E hr h => ⟨_, (pss_one (ps_ret (SlX.pe_sl (pv 0)))), ?_⟩
  obtain ⟨a, dx, p, ws, past, rfl, g, q⟩ := h
  obtain ⟨t, ts, hs, ht, hp, hts⟩ := g.sl
  exact s_ret (ev_own (ev_var rfl) GF hs) fun H1 e1 => q t H1 e1 (e1 _ _ ht)
theorem sc_Gallery_makers : FnScope ["self"] ["self"] (defScope (inClass (top 43) 3)) := ⟨rfl, rfl, rfl, by decide +kernel, rfl, by decide +kernel, by decide +kernel⟩
theorem ok_p_makers (B : Bu mg) (T : Cst K mg) (GF : Gal K mg C) (O_makers_makers : Ok P w K mg base CX0 6 "makers_makers" (sp_makers K)) (D : Dp' K C "makers" "Gallery.makers" 3) : Op' P w K mg base 7 C "makers" (sp_p_makers C) := by
  refine D.ok sc_Gallery_makers (fun _ _ _ _ _ _ us hl => match us, hl with | [_], _ => rfl) (by rintro vs H Q E ⟨a, dx, p, ws, past, rfl, _⟩; rfl) fun f cdv A outer s H vs Q E hr h => ⟨_, (pss_one (ps_ret (pe_ok O_makers_makers hr rfl pass0 (pa_cons (SlX.pe_sl (pv 0)) pa_nil)))), ?_⟩
  obtain ⟨a, dx, p, ws, past, rfl, g, ww, hl, hsz, q⟩ := h
  obtain ⟨t, ts, hs, ht, hp, hts⟩ := g.sl
  exact s_retU (eu_ok (ea_cons (ev_own (ev_var rfl) GF hs) ea_nil) fun H1 Q e1 q => ⟨t, ws, rfl, st_of (e1 _ _ ht), ww, hl, hsz, q⟩) q
theorem sc_Gallery_deeds : FnScope ["self"] ["self"] (defScope (inClass (top 43) 4)) := ⟨rfl, rfl, rfl, by decide +kernel, rfl, by decide +kernel, by decide +kernel⟩
theorem ok_p_deeds (B : Bu mg) (T : Cst K mg) (GF : Gal K mg C)  (D : Dp' K C "deeds" "Gallery.deeds" 4) : Op' P w K mg base 1 C "deeds" (sp_p_deeds C) := by
  refine D.ok sc_Gallery_deeds (fun _ _ _ _ _ _ us hl => match us, hl with | [_], _ => rfl) (by rintro vs H Q E ⟨a, dx, p, ws, past, rfl, _⟩; rfl) fun f cdv A outer s H vs Q E hr h => ⟨_, (pss_one (ps_ret (pe_callB call_len_seq (by rfl) B.len PySem.boot_len (pa_cons (SlX.pe_sl (pv 0)) pa_nil)))), ?_⟩
  obtain ⟨a, dx, p, ws, past, rfl, g, q⟩ := h
  obtain ⟨t, ts, hs, ht, hp, hts⟩ := g.sl
  refine s_ret (v := .int (past.length : Int)) (ev_is (ev_len (ev_past (ev_var rfl) GF hs) (sq_of hp)) ?_) q
  rw [List.length_map, hts.len]
end
end Mir
/-! part W8 -/
set_option Elab.async false
set_option linter.all false
set_option maxRecDepth 100000
set_option maxHeartbeats 4000000
/-! The walk: a gallery is undone, a gallery is made. -/
namespace Mir
open PySem PySem.Spec PyProof.Rows L2 Evl
/-! what stands of NothingDone -/
theorem snocP : ∀ l : List (List W), l = [] ∨ ∃ p c, l = p ++ [c] := fun l => by
  rcases List.eq_nil_or_concat l with h | ⟨p, c, h⟩
  · exact .inl h
  · exact .inr ⟨p, c, by rw [h, List.concat_eq_append]⟩
structure NDx (K : PySem.W.Frag) (mg : Str → Option Value) (C : Addr) : Prop where
  gC : mg "NothingDone" = some (.ref C)
  q : PySem.W.excIn K C [.type "LookupError", .type "Exception", .type "BaseException", .type "object"] "LookupError.__new__" = true
  kC : PySem.W.keepIn K (.ref C) = true
  exC : PySem.W.subIn K (.ref C) (.type "BaseException") = some true
  tyC : PySem.W.typeIn K (.ref C) = some (.type "type")
section
variable {P : Program} {w : World} {K : PySem.W.Frag} {mg : Str → Option Value} {base : Heap} {C : Addr}
theorem sc_Gallery_undo : FnScope ["self"] ["self"] (defScope (inClass (top 43) 14)) := ⟨rfl, rfl, rfl, by decide +kernel, rfl, by decide +kernel, by decide +kernel⟩
theorem ok_m_undo (B : Bu mg) (T : Cst K mg) (GF : Gal K mg C) {CD : Addr} (T_NothingDone : NDx K mg CD) (D : Dm K C "undo" "Gallery.undo" 14) : Om P w K mg base (L2.CX P w) 1 C "undo" (sp_m_undo C CD) := by
  refine D.okX sc_Gallery_undo (fun _ _ _ _ _ _ us hl => match us, hl with | [_], _ => rfl) (by rintro vs H Q E ⟨a, dx, p, ws, past, rfl, _⟩; rfl) fun f cdv A outer s H vs Q E hr h => ⟨_, (pss_cons (ps_if (pt_cmpR op_eq (pe_callB call_len_seq (by rfl) B.len PySem.boot_len (pa_cons (SlX.pe_sl (pv 0)) pa_nil)) pe_int (nomark _))
      (pss_one (ps_raise rfl (takes_of rfl rfl rfl rfl) (pmk_own0 F.excBase_LookupError T_NothingDone.q T_NothingDone.gC T_NothingDone.kC (raises_own T_NothingDone.exC T_NothingDone.tyC) rfl)))
      pss_nil)
    (pss_one (SlX.ps_sl (pv 0) (pe_bm0 PySem.F.plainAttrs_list PySem.F.slot_list_pop PySem.F.type_list_pop mt_pop (SlX.pe_sl (pv 0)))))), ?_⟩
  obtain ⟨a, dx, p, ws, past, rfl, g, qE, q⟩ := h
  obtain ⟨t, ts, hs, ht, hp, hts⟩ := g.sl
  have hlen := hts.len
  refine q_when (et_test (ev_eqI (ev_len (ev_past (ev_var rfl) GF hs) (sq_of hp)) ev_c)) (fun hb H1 e1 => ?_) fun hb H1 e1 => ?_
  · have h0 : ts.length = 0 := by simpa using hb
    exact qE (List.length_eq_zero_iff.mp (by omega)) H1 e1
  · rcases snocP past with e | ⟨qs, u, e⟩
    · subst e
      rw [List.length_map, hlen] at hb
      simp at hb
    · subst e
      obtain ⟨ts', t', rfl⟩ : ∃ ts' t', ts = ts' ++ [t'] := by
        rcases List.eq_nil_or_concat ts with z | ⟨a', b', z⟩
        · rw [z] at hlen
          simp at hlen
        · exact ⟨a', b', by rw [z, List.concat_eq_append]⟩
      obtain ⟨hts1, ht1⟩ := hts.unsnoc
      have hs1 := slt_mono (vs := []) e1 hs
      have h2 := Slt.two hs1
      obtain ⟨d, hd⟩ := GF.ways
      obtain ⟨d0, hd0⟩ := GF.past
      refine ⟨.ref a, rfl, a, C, dx, d0, [some (.ref p), some (.ref t)], 0, .ref p, rfl, hs1, GF.sc, hd0, rfl, .inl ⟨rfl, _, sq_of (e1 _ _ hp)⟩, p, (ts' ++ [t']).map V.ref, .ref t', rfl, rfl, e1 _ _ hp, ?_, ?_⟩
      · rw [List.map_append, List.length_append]
        simp
      have hdl : ((ts' ++ [t']).map V.ref).dropLast = ts'.map V.ref := by
        rw [List.map_append]
        simp
      rw [hdl]
      have nep : ∀ {b o}, H b = some o → b ≠ p → (upd H1 p (.lst (ts'.map V.ref))) b = some o := fun {b o} h n => by
        rw [upd_ne n]
        exact e1 _ _ h
      have h2' := Slt.two hs
      have tup : ∀ {b xs}, H b = some (.tup xs) → (upd H1 p (.lst (ts'.map V.ref))) b = some (.tup xs) := fun {b xs} h => nep h fun z => by
        rw [z, hp] at h
        cases h
      have ha := nep h2'.1 (Ne.symm g.pne.1)
      have hdx := nep h2'.2 (Ne.symm g.pne.2)
      obtain ⟨g2, k2⟩ := gat_ways (t := t) g.ne g.pne ha hdx (upd_same (o := .lst (ts'.map V.ref))) (tup ht1) (hts1.mono fun _ _ h => tup h)
      refine ⟨.ref a, rfl, a, C, dx, d, _, 1, rfl, .inr ⟨ha, hdx⟩, GF.sc, hd, ?_⟩
      refine q qs u rfl _ (fun b o hb1 hb2 h => k2 b o hb1 hb2 (nep h hb2)) g2
end
/-- Gallery() -/
abbrev sp_init (K : PySem.W.Frag) (C T0 : Addr) : Sp := fun vs H Q _ => ∃ x dx : Addr, vs = [.ref x, .ref T0] ∧ H x = some (.ins C dx []) ∧ H dx = some (.own x) ∧ dx ≠ x ∧ SqT K H T0 [] ∧
  ∀ p H', (∀ b o, b ≠ x → b ≠ dx → H b = some o → H' b = some o) → H p = none → GAt C H' x dx p [] [] → Q .non H'
def Ngal (P : Program) (w : World) (K : PySem.W.Frag) (mg : Str → Option Value) (base : Heap) (C : Addr) : Prop := ∃ f fd ps T0 ds, Mk K C f ∧ FnOk P w K mg base CX0 2 f fd ps (sp_init K C T0) ∧ Binds K fd ps ds ∧ Vals [.ref T0] ds ∧ ∀ H, SqT K H T0 []
def Dinit (K : PySem.W.Frag) (C : Addr) : Prop := ∃ f fd T0, Mk K C f ∧ FunD K "__init__" "Gallery.__init__" (defArgs (mth 1)) (defBody (mth 1)) (defScope (mth 1)) [.ref T0] [] f fd ∧ ∀ H, SqT K H T0 []
def tNew (C : Addr) : TE := fun _ H Q => ∀ a dx p H', Ex H H' → H a = none → H dx = none → H p = none → GAt C H' a dx p [] [] → Q (.ref a) H'
section
variable {P : Program} {w : World} {K : PySem.W.Frag} {mg : Str → Option Value} {base : Heap} {C : Addr}
theorem sc_init : FnScope ["self", "ways"] ["self", "ways"] (defScope (mth 1)) := ⟨rfl, rfl, rfl, by decide +kernel, rfl, by decide +kernel, by decide +kernel⟩
theorem ok_init (B : Bu mg) (GF : Gal K mg C) (O_set_of : Ok P w K mg base CX0 1 "set_of" (sp_set_of K)) (D : Dinit K C) : Ngal P w K mg base C := by
  obtain ⟨f, fd, T0, M, F, hT0⟩ := D
  obtain ⟨ds, hv, hb⟩ := F.binds1 (ps := ["self", "ways"]) 1 0 (by simp) rfl fun T kV doc pm an cdv ct us its h1 h2 => by
    match us, its, h1, h2 with
    | [u], [i], _, _ => exact ⟨_, rfl, rfl⟩
  refine ⟨f, fd, ["self", "ways"], T0, ds, M, F.ok sc_init (by rintro vs H Q E ⟨x, dx, rfl, _⟩; rfl) (fun cdv A outer s H vs Q E hr h => ⟨_, PSs.nox (pss_cons (SlX.ps_sl (pv 0) (pe_ok O_set_of hr rfl pass0 (pa_cons (pv 1) pa_nil))) (pss_one (SlX.ps_sl (pv 0) (pe_lst pa_nil)))), ?_⟩), hb, hv, hT0⟩
  obtain ⟨x, dx, rfl, hx, hdx, hne, hT, q⟩ := h
  obtain ⟨d1, hd1⟩ := GF.ways
  obtain ⟨d0, hd0⟩ := GF.past
  refine eu_ok (xs := Ss (setOf [])) (ea_cons (ev_var (σ := [some (.ref x), some (.ref T0)]) (i := 1) rfl) ea_nil) (fun H2 Q' e2 q' => ⟨T0, [], rfl, .inr (ex_t e2 hT), by decide, q'⟩) H (Ex.refl H) _ fun t H1 ht e1 h1 => ?_
  refine ⟨.ref x, rfl, x, C, dx, d1, [], 1, rfl, .inl ⟨e1 _ _ hx, rfl⟩, GF.sc, hd1, ?_⟩
  show SlX.sSl K (tVar 0) (tLst tNil) "own_past" _ _ (SlX.slH H1 x C dx [none, some (.ref t)])
  refine ⟨Nat.zero_le _, fun p hp => ?_⟩
  have hsl := SlX.slH_slt (H := H1) (a := x) (C := C) (dx := dx) (vs := [none, some (.ref t)]) hne
  have hs2 := Slt.two hsl
  generalize hG : SlX.slH H1 x C dx [none, some (.ref t)] = G at hp hsl hs2
  have px : p ≠ x := fun z => by
    rw [z, hs2.1] at hp
    cases hp
  have pdx : p ≠ dx := fun z => by
    rw [z, hs2.2] at hp
    cases hp
  have tx : t ≠ x := fun z => by
    rw [z, hx] at ht
    cases ht
  have tdx : t ≠ dx := fun z => by
    rw [z, hdx] at ht
    cases ht
  have hGt : G t = some (.tup (Ss [])) := by
    rw [← hG, SlX.slH_ne tx tdx]
    exact h1
  have pt : t ≠ p := fun z => by
    rw [z, hp] at hGt
    cases hGt
  refine ⟨.ref x, rfl, x, C, dx, d0, [none, some (.ref t)], 0, rfl, .inr ⟨by rw [upd_ne (Ne.symm px)]; exact hs2.1, by rw [upd_ne (Ne.symm pdx)]; exact hs2.2⟩, GF.sc, hd0, ?_⟩
  show Q .non (SlX.slH (upd G p (.lst [])) x C dx [some (.ref p), some (.ref t)])
  refine q p _ (fun b o hb1 hb2 h => ?_) ?_ ⟨hne, ⟨px, pdx⟩, t, [], SlX.slH_slt hne, ?_, ?_, trivial⟩
  · rw [SlX.slH_ne hb1 hb2, upd_ne (fun z => ?_), ← hG, SlX.slH_ne hb1 hb2]
    · exact e1 _ _ h
    · rw [← hG, SlX.slH_ne px pdx] at hp
      rw [z] at h
      rw [e1 _ _ h] at hp
      cases hp
  · rw [← hG, SlX.slH_ne px pdx] at hp
    exact fresh_back e1 hp
  · rw [SlX.slH_ne tx tdx, upd_ne pt]
    exact hGt
  · rw [SlX.slH_ne px pdx]
    exact upd_same
end
section
variable {X : Cx} {C : Addr} {j : Nat} {p pos : Pos}
theorem pe_gal (N : Ngal X.prog X.w X.K X.mg X.base C) (hr : Room j X.A) (hg : Gl X "Gallery") (hm : X.mg "Gallery" = some (.ref C)) (hj : 3 ≤ j := by decide) : PE X (.Call (.Name "Gallery" p) [] [] pos) (tNew C) := by
  obtain ⟨f, fd, ps, T0, ds, M, F, hb, hv, hT⟩ := N
  have h := pe_make0 (E := E0) M F (hr.mono hj) hg hm hb hv pass0 (p := p) (pos := pos)
  refine ⟨fun pins s σ H Q I q => h.run pins s σ H Q I fun x dx hx hdx hne => ?_⟩
  refine ⟨x, dx, rfl, upd_same, by rw [upd_ne hne, upd_same], hne, hT _, fun p H' k hp g => ⟨rfl, q x dx p H' (fun b o hb => k b o (fun z => by rw [z, hx] at hb; cases hb) (fun z => by rw [z, hdx] at hb; cases hb) ?_) hx hdx ?_ g⟩⟩
  · rw [upd_ne (fun z => by rw [z, hx] at hb; cases hb), upd_ne (fun z => by rw [z, hdx] at hb; cases hb)]
    exact hb
  · have h1 : p ≠ x := fun z => by
      rw [z, upd_same] at hp
      cases hp
    rw [upd_ne h1] at hp
    have h2 : p ≠ dx := fun z => by
      rw [z, upd_same] at hp
      cases hp
    rw [upd_ne h2] at hp
    exact hp
end
end Mir
/-! part K5 -/
set_option Elab.async false
set_option linter.all false
set_option maxRecDepth 100000
set_option maxHeartbeats 4000000
/-! The desk in plain Lean: requests, their lines, what they do. -/
namespace Mir
open PySem PySem.Spec PyProof.Rows L2 Evl
inductive KB | tidy | undo | ways | makers
inductive KO | hang | take | look | has | chain
inductive KT | seen | between
inductive Req
  | bare (k : KB)
  | one (k : KO) (x : W)
  | two (k : KT) (x y : W)
  | path (x y : W)
  | within (l : List W)
def KB.w : KB → W
  | .tidy => [116, 105, 100, 121]
  | .undo => [117, 110, 100, 111]
  | .ways => [119, 97, 121, 115]
  | .makers => [109, 97, 107, 101, 114, 115]
def KO.w : KO → W
  | .hang => [104, 97, 110, 103]
  | .take => [116, 97, 107, 101]
  | .look => [108, 111, 111, 107]
  | .has => [104, 97, 115]
  | .chain => [99, 104, 97, 105, 110]
def KT.w : KT → W
  | .seen => [115, 101, 101, 110]
  | .between => [98, 101, 116, 119, 101, 101, 110]
def pathW : W := [112, 97, 116, 104]
def withinW : W := [119, 105, 116, 104, 105, 110]
def Req.word : Req → W
  | .bare k => k.w
  | .one k _ => k.w
  | .two k _ _ => k.w
  | .path _ _ => pathW
  | .within _ => withinW
/-- a row as a text: no doors at all are a dash -/
def rowt (x : W) : W := if x = [] then [45] else x
def Req.line : Req → W
  | .bare k => k.w
  | .one k x => k.w ++ [32] ++ x
  | .two k x y => k.w ++ [32] ++ (x ++ ([32] ++ y))
  | .path x y => pathW ++ [32] ++ (rowt x ++ ([32] ++ rowt y))
  | .within l => withinW ++ [32] ++ wtx l
abbrev Roo (x : W) : Prop := Row x ∧ ∀ c ∈ x, 97 ≤ c ∧ c ≤ 104
def Req.wf : Req → Prop
  | .bare _ => True
  | .one _ x => Way x ∧ x.length ≤ 64
  | .two _ x y => Way x ∧ x.length ≤ 64 ∧ Way y ∧ y.length ≤ 64
  | .path x y => Roo x ∧ x.length ≤ 64 ∧ Roo y ∧ y.length ≤ 64
  | .within l => Ways l ∧ Asc l ∧ l.length < 64 ∧ Shr 64 l
def yesW : W := [121, 101, 115]
def noW : W := [110, 111]
def doneW : W := [100, 111, 110, 101]
def refK : W := [114, 101, 102, 117, 115, 101, 100, 32, 75, 110, 111, 119, 110]
def refN : W := [114, 101, 102, 117, 115, 101, 100, 32, 78, 111, 87, 97, 121]
def refD : W := [114, 101, 102, 117, 115, 101, 100, 32, 78, 111, 116, 104, 105, 110, 103, 68, 111, 110, 101]
def yn (b : Bool) : W := if b then yesW else noW
/-- a gallery: its ways, its past -/
abbrev GS := List W × List (List W)
def dropP : List (List W) → List (List W) := List.dropLast
def isDeed : Req → Bool
  | .bare .tidy => true
  | .bare .undo => true
  | .one .hang _ => true
  | .one .take _ => true
  | .one .look _ => true
  | _ => false
/-- a deed: what it leaves, what is told -/
def deed (r : Req) (s : GS) : GS × W := match r with
  | .one .hang x => if x ∈ s.1 then (s, refK) else ((setOf (s.1 ++ [x]), s.2 ++ [s.1]), doneW)
  | .one .take x => if x ∈ s.1 then ((setOf (s.1.filter fun y => !decide (y = x)), s.2 ++ [s.1]), doneW) else (s, refN)
  | .one .look x => ((setOf (s.1.map fun y => sn y x), s.2 ++ [s.1]), doneW)
  | .bare .tidy => ((setOf (mk s.1), s.2 ++ [s.1]), doneW)
  | .bare .undo => match s.2.getLast? with
    | none => (s, refD)
    | some u => ((u, s.2.dropLast), doneW)
  | _ => (s, [])
def ctx : Option (List W) → W
  | none => noneW
  | some l => TL.joinL [32] l
def otx : Option W → W
  | none => noneW
  | some m => m
/-- what is told of the ways -/
def told (r : Req) (ws : List W) : W := match r with
  | .bare .ways => wtx ws
  | .bare .makers => wtx (mk ws)
  | .one .has x => yn (decide ((fold (mk ws) x).1 ∈ mk ws))
  | .one .chain x => ctx (chn ws x)
  | .two .seen x y => sn x y
  | .two .between x y => otx (mbt x y)
  | .path x y => rowt (pth x y)
  | .within l => yn (wi ws l)
  | _ => []
def step (r : Req) (s : GS) : GS × W := if isDeed r then deed r s else (s, told r s.1)
def run : List Req → GS → List W
  | [], _ => []
  | r :: rs, s => (step r s).2 :: run rs (step r s).1
def after : List Req → GS → GS
  | [], s => s
  | r :: rs, s => after rs (step r s).1
/-- what holds of a gallery behind k requests -/
structure GI (k : Nat) (s : GS) : Prop where
  ww : Ways s.1
  as : Asc s.1
  few : s.1.length ≤ k
  sh : Shr (64 + 128 * k) s.1
  pl : s.2.length ≤ k
  pw : ∀ u ∈ s.2, Ways u ∧ Asc u ∧ u.length ≤ k ∧ Shr (64 + 128 * k) u
theorem GI.start : GI 0 ([], []) := ⟨fun _ h => (nomatch h), trivial, Nat.le_refl _, fun _ h => (nomatch h), Nat.le_refl _, fun _ h => (nomatch h)⟩
theorem Shr.mono {m n : Nat} (h : m ≤ n) {l : List W} (s : Shr m l) : Shr n l := fun x hx => Nat.le_trans (s x hx) h
theorem GI.more {k : Nat} {s : GS} (g : GI k s) : GI (k + 1) s := ⟨g.ww, g.as, by have := g.few; omega, g.sh.mono (by omega), by have := g.pl; omega, fun u hu => by
  obtain ⟨a, b, c, d⟩ := g.pw u hu
  exact ⟨a, b, by omega, d.mono (by omega)⟩⟩
/-- a new set of ways, the old ones past -/
theorem GI.become {k : Nat} {s : GS} (g : GI k s) {l : List W} (hw : Ways l) (hl : l.length ≤ k + 1) (hs : Shr (64 + 128 * (k + 1)) l) : GI (k + 1) (setOf l, s.2 ++ [s.1]) where
  ww := fun x hx => hw x (mem_setOf.mp hx)
  as := asc_setOf l
  few := Nat.le_trans (len_setOf l) hl
  sh := fun x hx => hs x (mem_setOf.mp hx)
  pl := by
    have := g.pl
    rw [List.length_append]
    show _ + 1 ≤ _
    omega
  pw := fun u hu => by
    rcases List.mem_append.mp hu with hu | hu
    · obtain ⟨a, b, c, d⟩ := g.pw u hu
      exact ⟨a, b, by omega, d.mono (by omega)⟩
    · rw [List.mem_singleton.mp hu]
      exact ⟨g.ww, g.as, by have := g.few; omega, g.sh.mono (by omega)⟩
theorem GI.deed {k : Nat} {s : GS} (g : GI k s) {r : Req} (h : r.wf) : GI (k + 1) (deed r s).1 := by
  have few := g.few
  match r, h with
  | .one .hang x, h =>
    by_cases hx : x ∈ s.1
    · simp only [Mir.deed, if_pos hx]
      exact g.more
    · simp only [Mir.deed, if_neg hx]
      refine g.become (fun y hy => ?_) (by rw [List.length_append]; show _ + 1 ≤ _; omega) fun y hy => ?_
      · rcases List.mem_append.mp hy with hy | hy
        · exact g.ww y hy
        · rw [List.mem_singleton.mp hy]
          exact h.1
      · rcases List.mem_append.mp hy with hy | hy
        · exact Nat.le_trans (g.sh y hy) (by omega)
        · rw [List.mem_singleton.mp hy]
          have := h.2
          omega
  | .one .take x, h =>
    by_cases hx : x ∈ s.1
    · simp only [Mir.deed, if_pos hx]
      have hf := List.length_filter_le (fun y => !decide (y = x)) s.1
      exact g.become (fun y hy => g.ww y (List.mem_filter.mp hy).1) (by omega) fun y hy => Nat.le_trans (g.sh y (List.mem_filter.mp hy).1) (by omega)
    · simp only [Mir.deed, if_neg hx]
      exact g.more
  | .one .look x, h =>
    refine g.become (fun y hy => ?_) (by rw [List.length_map]; omega) fun y hy => ?_
    · obtain ⟨z, hz, rfl⟩ := List.mem_map.mp hy
      exact (g.ww z hz).sn h.1
    · obtain ⟨z, hz, rfl⟩ := List.mem_map.mp hy
      have h1 := sn_len z x
      have h2 := g.sh z hz
      have h3 := h.2
      omega
  | .bare .tidy, _ =>
    have hm := mk_len g.ww
    exact g.become (mk_ways g.ww) (by omega) fun y hy => Nat.le_trans (mk_short g.ww g.sh y hy) (by omega)
  | .bare .undo, _ =>
    cases hq : s.2.getLast? with
    | none =>
      simp only [Mir.deed, hq]
      exact g.more
    | some u =>
      simp only [Mir.deed, hq]
      obtain ⟨a, b, c, d⟩ := g.pw u (List.mem_of_getLast? hq)
      refine ⟨a, b, by show u.length ≤ _; omega, d.mono (by omega), by show s.2.dropLast.length ≤ _; rw [List.length_dropLast]; have := g.pl; omega, fun v hv => ?_⟩
      obtain ⟨a', b', c', d'⟩ := g.pw v (List.dropLast_subset _ hv)
      exact ⟨a', b', by omega, d'.mono (by omega)⟩
  | .bare .ways, _ => exact g.more
  | .bare .makers, _ => exact g.more
  | .one .has _, _ => exact g.more
  | .one .chain _, _ => exact g.more
  | .two _ _ _, _ => exact g.more
  | .path _ _, _ => exact g.more
  | .within _, _ => exact g.more
theorem GI.step {k : Nat} {s : GS} (g : GI k s) {r : Req} (h : r.wf) : GI (k + 1) (step r s).1 := by
  unfold Mir.step
  split
  · exact g.deed h
  · exact g.more
theorem run_app : ∀ (a b : List Req) (s : GS), run (a ++ b) s = run a s ++ run b (after a s)
  | [], _, _ => rfl
  | r :: a, b, s => congrArg _ (run_app a b _)
theorem after_app : ∀ (a b : List Req) (s : GS), after (a ++ b) s = after b (after a s)
  | [], _, _ => rfl
  | r :: a, b, s => after_app a b _
theorem run_len : ∀ (a : List Req) (s : GS), (run a s).length = a.length
  | [], _ => rfl
  | r :: a, s => congrArg Nat.succ (run_len a _)
theorem GI.after : ∀ {rs : List Req} {k : Nat} {s : GS}, GI k s → (∀ r ∈ rs, r.wf) → GI (k + rs.length) (after rs s)
  | [], _, _, g, _ => g
  | r :: rs, k, s, g, h => by
    have := GI.after (g.step (h r (List.mem_cons_self ..))) fun r' hr' => h r' (List.mem_cons_of_mem _ hr')
    rw [List.length_cons, ← Nat.add_assoc, Nat.add_right_comm]
    exact this
end Mir
/-! part K6 -/
set_option Elab.async false
set_option linter.all false
set_option maxRecDepth 100000
set_option maxHeartbeats 4000000
/-! Lines of the desk, cut. -/
namespace Mir
open PySem PySem.Spec PyProof.Rows L2 Evl
def bareW : List W := [KB.tidy.w, KB.undo.w, KB.ways.w, KB.makers.w]
def singleW : List W := [KO.hang.w, KO.take.w, KO.look.w, KO.has.w, KO.chain.w]
def doubleW : List W := [KT.seen.w, KT.between.w]
def numW : List W := [[50], [51], [52], [53], [54], [55], [56]]
def Req.gap : Req → W
  | .bare _ => []
  | _ => [32]
def Req.rest : Req → W
  | .bare _ => []
  | .one _ x => x
  | .two _ x y => x ++ ([32] ++ y)
  | .path x y => rowt x ++ ([32] ++ rowt y)
  | .within l => wtx l
theorem kb_free (k : KB) : 32 ∉ k.w ∧ 10 ∉ k.w ∧ k.w.length ≤ 7 := by cases k <;> decide
theorem ko_free (k : KO) : 32 ∉ k.w ∧ 10 ∉ k.w ∧ k.w.length ≤ 7 := by cases k <;> decide
theorem kt_free (k : KT) : 32 ∉ k.w ∧ 10 ∉ k.w ∧ k.w.length ≤ 7 := by cases k <;> decide
theorem path_free : 32 ∉ pathW ∧ 10 ∉ pathW ∧ pathW.length ≤ 7 := by decide
theorem within_free : 32 ∉ withinW ∧ 10 ∉ withinW ∧ withinW.length ≤ 7 := by decide
theorem word_free (r : Req) : 32 ∉ r.word ∧ 10 ∉ r.word ∧ r.word.length ≤ 7 := by
  match r with
  | .bare k => exact kb_free k
  | .one k _ => exact ko_free k
  | .two k _ _ => exact kt_free k
  | .path _ _ => exact path_free
  | .within _ => exact within_free
theorem line_parts (r : Req) : Txt.partition (ST r.line) (ST [32]) = (ST r.word, ST r.gap, ST r.rest) := by
  have hf := (word_free r).1
  have cut : ∀ {w rest : W}, 32 ∉ w → Txt.partition (ST (w ++ [32] ++ rest)) (ST [32]) = (ST w, ST [32], ST rest) := fun {w rest} h => by
    rw [← ST_app, ← ST_app]
    exact TL.partition_app (s := 32) (S := []) rfl h
  match r, hf with
  | .bare k, hf => exact TL.partition_none (s := 32) (S := []) rfl hf
  | .one k x, hf => exact cut hf
  | .two k x y, hf => exact cut hf
  | .path x y, hf => exact cut hf
  | .within l, hf => exact cut hf
theorem way_free {x : W} (h : ∀ c ∈ x, 97 ≤ c ∧ c ≤ 104) {s : Nat} (hs : s < 97) : s ∉ x := fun z => by
  have := h s z
  omega
theorem rowt_free {x : W} (h : ∀ c ∈ x, 97 ≤ c ∧ c ≤ 104) {s : Nat} (hs : s < 45) : s ∉ rowt x := by
  unfold rowt
  split
  · intro z
    have := List.mem_singleton.mp z
    omega
  · exact way_free h (by omega)
theorem rowt_len {x : W} (h : x.length ≤ 64) : (rowt x).length ≤ 64 := by
  unfold rowt
  split
  · decide
  · exact h
theorem joinL_free {s : Nat} {y : W} (hy : s ∉ y) : ∀ {l : List W}, (∀ p ∈ l, s ∉ p) → s ∉ TL.joinL y l
  | [], _ => List.not_mem_nil
  | [x], h => h x (by simp)
  | x :: z :: t, h => by
    have ih := joinL_free hy (l := z :: t) fun p hp => h p (List.mem_cons_of_mem _ hp)
    show s ∉ x ++ (y ++ TL.joinL y (z :: t))
    rw [List.mem_append, List.mem_append]
    rintro (q | q | q)
    · exact h x (by simp) q
    · exact hy q
    · exact ih q
theorem wtx_free {l : List W} (h : Ways l) : 10 ∉ wtx l := by
  unfold wtx
  split
  · decide
  · exact joinL_free (by decide) fun p hp => way_free (h p hp).2.2 (by decide)
theorem wtx_short {l : List W} (hl : l.length < 64) (hs : Shr 64 l) : (wtx l).length ≤ 4300 := by
  unfold wtx
  split
  · decide
  · have h1 := joinL_len brk l
    have h2 := tot_le hs
    have h3 : brk.length = 2 := rfl
    rw [h3] at h1
    omega
theorem line_free {r : Req} (h : r.wf) : 10 ∉ r.line ∧ r.line.length ≤ 4400 := by
  have hf := word_free r
  match r, h, hf with
  | .bare k, _, hf => exact ⟨hf.2.1, by have := hf.2.2; show k.w.length ≤ _; have h1 : k.w.length ≤ 7 := this; omega⟩
  | .one k x, h, hf =>
    have h1 : k.w.length ≤ 7 := hf.2.2
    have h2 : 10 ∉ k.w := hf.2.1
    refine ⟨?_, ?_⟩
    · show 10 ∉ k.w ++ [32] ++ x
      simp only [List.mem_append, not_or]
      exact ⟨⟨h2, by decide⟩, way_free h.1.2.2 (by decide)⟩
    · show (k.w ++ [32] ++ x).length ≤ _
      have := h.2
      simp only [List.length_append, List.length_cons, List.length_nil]
      omega
  | .two k x y, h, hf =>
    have h1 : k.w.length ≤ 7 := hf.2.2
    have h2 : 10 ∉ k.w := hf.2.1
    refine ⟨?_, ?_⟩
    · show 10 ∉ k.w ++ [32] ++ (x ++ ([32] ++ y))
      simp only [List.mem_append, not_or]
      exact ⟨⟨h2, by decide⟩, way_free h.1.2.2 (by decide), by decide, way_free h.2.2.1.2.2 (by decide)⟩
    · show (k.w ++ [32] ++ (x ++ ([32] ++ y))).length ≤ _
      have h3 := h.2.1
      have h4 := h.2.2.2
      simp only [List.length_append, List.length_cons, List.length_nil]
      omega
  | .path x y, h, hf =>
    refine ⟨?_, ?_⟩
    · show 10 ∉ pathW ++ [32] ++ (rowt x ++ ([32] ++ rowt y))
      simp only [List.mem_append, not_or]
      exact ⟨⟨by decide, by decide⟩, rowt_free h.1.2 (by decide), by decide, rowt_free h.2.2.1.2 (by decide)⟩
    · show (pathW ++ [32] ++ (rowt x ++ ([32] ++ rowt y))).length ≤ _
      have h3 := rowt_len h.2.1
      have h4 := rowt_len h.2.2.2
      have h5 : pathW.length = 4 := rfl
      simp only [List.length_append, List.length_cons, List.length_nil]
      omega
  | .within l, h, hf =>
    refine ⟨?_, ?_⟩
    · show 10 ∉ withinW ++ [32] ++ wtx l
      simp only [List.mem_append, not_or]
      exact ⟨⟨by decide, by decide⟩, wtx_free h.1⟩
    · show (withinW ++ [32] ++ wtx l).length ≤ _
      have h3 := wtx_short h.2.2.1 h.2.2.2
      have h5 : withinW.length = 6 := rfl
      simp only [List.length_append, List.length_cons, List.length_nil]
      omega
theorem rest_short {r : Req} (h : r.wf) : r.rest.length ≤ 4300 := by
  match r, h with
  | .bare k, _ => exact Nat.zero_le _
  | .one k x, h => exact Nat.le_trans h.2 (by decide)
  | .two k x y, h =>
    show (x ++ ([32] ++ y)).length ≤ _
    have h3 := h.2.1
    have h4 := h.2.2.2
    simp only [List.length_append, List.length_cons, List.length_nil]
    omega
  | .path x y, h =>
    show (rowt x ++ ([32] ++ rowt y)).length ≤ _
    have h3 := rowt_len h.2.1
    have h4 := rowt_len h.2.2.2
    simp only [List.length_append, List.length_cons, List.length_nil]
    omega
  | .within l, h => exact wtx_short h.2.2.1 h.2.2.2
theorem line_ne (r : Req) : r.line ≠ [] := by
  match r with
  | .bare k => cases k <;> exact fun z => nomatch z
  | .one k _ => cases k <;> exact fun z => nomatch z
  | .two k _ _ => cases k <;> exact fun z => nomatch z
  | .path _ _ => exact fun z => nomatch z
  | .within _ => exact fun z => nomatch z
/-- the values of a request at v -/
def ValAt (H : Hp) (v : Addr) : Req → Prop
  | .bare _ => H v = some (.tup [])
  | .one _ x => H v = some (.tup [S x])
  | .two _ x y => H v = some (.tup [S x, S y])
  | .path x y => H v = some (.tup [S x, S y])
  | .within l => ∃ t, H v = some (.tup [.ref t]) ∧ H t = some (.tup (Ss l))
theorem ValAt.mono {H H' : Hp} (k : ∀ t xs, H t = some (.tup xs) → H' t = some (.tup xs)) {v : Addr} {r : Req} (h : ValAt H v r) : ValAt H' v r := by
  match r, h with
  | .bare _, h => exact k _ _ h
  | .one _ x, h => exact k _ _ h
  | .two _ x y, h => exact k _ _ h
  | .path x y, h => exact k _ _ h
  | .within l, ⟨t, h1, h2⟩ => exact ⟨t, k _ _ h1, k _ _ h2⟩
/-- the written tuples of words -/
structure Cst2 (K : PySem.W.Frag) (mg : Str → Option Value) : Prop where
  BARE : ∃ a, mg "BARE" = some (.ref a) ∧ ∀ H, SqT K H a (Ss bareW)
  SINGLE : ∃ a, mg "SINGLE" = some (.ref a) ∧ ∀ H, SqT K H a (Ss singleW)
  NUMBERS : ∃ a, mg "NUMBERS" = some (.ref a)
  DOUBLE : ∃ a, mg "DOUBLE_desk" = some (.ref a) ∧ ∀ H, SqT K H a (Ss doubleW)
section
variable {K : PySem.W.Frag} {σ : L2.St} {H H' : Hp} {ta tb to te : TE} {tz : TS} {D : Ends}
abbrev rPart : V → List V → Hp → VK → Prop := fun x xs H Q => ∃ a b, x = .str a ∧ xs = [.str b] ∧ (b.length == 0) = false ∧ a.length ≤ sizeLine ∧
    ∀ p, H p = none → Q (.ref p) (upd H p (.tup [.str (Txt.partition a b).1, .str (Txt.partition a b).2.1, .str (Txt.partition a b).2.2]))
theorem eu_part {r : Req} (ho : Ev to σ H (S r.line)) (h : Ev te σ H (S [32])) (hz : r.line.length ≤ 1000000) : EvU (tM1 rPart to te) σ H [S r.word, S r.gap, S r.rest] := fun H1 e Q q => ho H1 e _ fun H2 e2 =>
  ⟨⟨_, rfl⟩, h H2 (e.trans e2) _ fun H3 e3 => ⟨_, _, rfl, rfl, by rw [ST_len]; rfl, by rw [ST_len]; exact big hz, by
    rw [line_parts]
    intro p hp
    exact q p _ (fresh_back (e2.trans e3) hp) ((e2.trans e3).trans (Ex.new hp)) upd_same⟩⟩
theorem el_splitAny {a : W} (ho : Ev to σ H (S a)) (h : Ev te σ H (S [32])) (hz : a.length ≤ 1000000) : EvL (tM1 rSplit to te) σ H ((Txt.split (ST a) (ST [32])).map V.str) := fun H1 e Q q => ho H1 e _ fun H2 e2 =>
  ⟨⟨_, rfl⟩, h H2 (e.trans e2) _ fun H3 e3 => ⟨_, _, rfl, rfl, by rw [ST_len]; rfl, by rw [ST_len]; exact Nat.le_trans (Nat.add_le_add_right hz 2) (by decide), fun p hp => q p _ (fresh_back (e2.trans e3) hp) ((e2.trans e3).trans (Ex.new hp)) upd_same⟩⟩
/-- a, b, c = a tuple of three -/
theorem q_three {i j k : Nat} {a b c : V} (h : EvU te σ H [a, b, c]) (kk : ∀ H1, Ex H H1 → tz D (((σ.set i (some a)).set j (some b)).set k (some c)) H1) : tSeq (tAsg te (gTup K 3 (gCons (gName i) (gCons (gName j) (gCons (gName k) gNil))))) tz D σ H :=
  h H (Ex.refl H) _ fun p H1 _ e hx => ⟨p, [a, b, c], rfl, st_of hx, rfl, a, [b, c], rfl, b, [c], rfl, c, [], rfl, rfl, kk H1 e⟩
theorem notIn_non {l : List W} : inV .non (Ss l) = false := by
  unfold inV
  rw [List.any_map, List.any_eq_false]
  intro b hb
  simp [eqV]
theorem ev_niNon {p : Addr} {l : List W} (hb : Ev tb σ H (.ref p)) (h : SqL K H p (Ss l)) : Ev (tOp (rIn K true) (tC .non) tb) σ H (.bl true) := by
  have := ev_op (r := rIn K true) ev_c hb (rv_inL (neg := true) (x := .non) h rfl (flatSs l))
  refine ev_is this ?_
  rw [notIn_non]
  rfl
end
section
variable {X : Cx} {e : Expr}
theorem pe_never : PE X e (fun _ _ _ => False) := ⟨fun _ _ _ _ _ _ h => h.elim⟩
end
end Mir
/-! part W9 -/
set_option Elab.async false
set_option linter.all false
set_option maxRecDepth 100000
set_option maxHeartbeats 4000000
/-! The walk: a line's values. -/
namespace Mir
open PySem PySem.Spec PyProof.Rows L2 Evl
section
variable {K : PySem.W.Frag} {σ : L2.St} {H : Hp} {ta tb : TE} {t : TT} {xs : List V} {v : V}
theorem eu_ifT (h : EvT t σ H true) (h1 : EvU ta σ H xs) : EvU (tIf t ta tb) σ H xs := fun H1 e Q q => h H1 e _ fun H2 e2 => iteT (h1 H2 (e.trans e2) Q fun p H3 hp e3 hx => q p H3 (fresh_back e2 hp) (e2.trans e3) hx)
theorem eu_ifF (h : EvT t σ H false) (h1 : EvU tb σ H xs) : EvU (tIf t ta tb) σ H xs := fun H1 e Q q => h H1 e _ fun H2 e2 => iteF (h1 H2 (e.trans e2) Q fun p H3 hp e3 hx => q p H3 (fresh_back e2 hp) (e2.trans e3) hx)
theorem ev_ifT (h : EvT t σ H true) (h1 : Ev ta σ H v) : Ev (tIf t ta tb) σ H v := ev_if h (fun _ => h1) fun z => nomatch z
theorem ev_ifF (h : EvT t σ H false) (h1 : Ev tb σ H v) : Ev (tIf t ta tb) σ H v := ev_if h (fun z => nomatch z) fun _ => h1
end
abbrev sp_yes_or_no : Sp := fun vs H Q _ => ∃ b : Bool, vs = [.bl b] ∧ Rv (S (yn b)) H Q
abbrev sp_row_in : Sp := fun vs H Q _ => ∃ x : W, vs = [S (rowt x)] ∧ Roo x ∧ x.length ≤ 64 ∧ Rv (S x) H Q
abbrev sp_read_by : Sp := fun vs H Q _ => ∃ l : List W, vs = [S withinW, S (wtx l)] ∧ Ways l ∧ Asc l ∧ l.length < 64 ∧ Shr 64 l ∧
  ∀ v t H2, Ex H H2 → H2 v = some (.tup [.ref t]) → H2 t = some (.tup (Ss l)) → Q (.ref v) H2
abbrev sp_values_in : Sp := fun vs H Q _ => ∃ r : Req, vs = [S r.line] ∧ r.wf ∧ ∀ v H2, Ex H H2 → ValAt H2 v r → Q (.ref v) H2
section
variable {P : Program} {w : World} {K : PySem.W.Frag} {mg : Str → Option Value} {base : Heap}
theorem sc_yes_or_no : FnScope ["told"] ["told"] (defScope (top 69)) := ⟨rfl, rfl, rfl, by decide +kernel, rfl, by decide +kernel, by decide +kernel⟩
theorem ok_yes_or_no (B : Bu mg) (T : Cst K mg)  (D : Dn K mg "yes_or_no" 69) : Ok P w K mg base CX0 1 "yes_or_no" sp_yes_or_no := by
  refine D.ok sc_yes_or_no (fun _ _ _ _ _ _ us hl => match us, hl with | [_], _ => rfl) (by rintro vs H Q E ⟨b, rfl, _⟩; rfl) fun f cdv A outer s H vs Q E hr h => ⟨_, (pss_one (ps_ret (pe_ifExp (pt_val (pv 0)) (pe_st (l := [121, 101, 115])) (pe_st (l := [110, 111]))))), ?_⟩
  obtain ⟨b, rfl, q⟩ := h
  refine s_ret (v := S (yn b)) (ev_if (et_B (ev_var rfl)) (fun hb => ?_) fun hb => ?_) q
  · rw [hb]
    exact ev_c
  · rw [hb]
    exact ev_c
theorem rowt_dash {x : W} (h : Roo x) : decide (rowt x = [45]) = decide (x = []) := by
  unfold rowt
  by_cases hx : x = []
  · rw [if_pos hx, decide_eq_true hx]
    rfl
  · rw [if_neg hx, decide_eq_false hx]
    refine decide_eq_false fun z => ?_
    have := h.2 45 (by rw [z]; simp)
    omega
theorem sc_row_in : FnScope ["text"] ["text"] (defScope (top 66)) := ⟨rfl, rfl, rfl, by decide +kernel, rfl, by decide +kernel, by decide +kernel⟩
theorem ok_row_in (B : Bu mg) (T : Cst K mg) (O_is_way : Ok P w K mg base CX0 3 "is_way" sp_is_way) (D : Dn K mg "row_in" 66) : Ok P w K mg base CX0 4 "row_in" sp_row_in := by
  refine D.ok sc_row_in (fun _ _ _ _ _ _ us hl => match us, hl with | [_], _ => rfl) (by rintro vs H Q E ⟨x, rfl, _⟩; rfl) fun f cdv A outer s H vs Q E hr h => ⟨_, (pss_cons (ps_if (pt_cmpR op_eq (pv 0) (pe_gs (by rfl) T.NONE) (nomark _))
      (pss_one (ps_ret (pe_st (l := []))))
      pss_nil)
    (pss_one (ps_ret (pe_ifExp (pt_val (pe_ok O_is_way hr rfl pass0 (pa_cons (pv 0) pa_nil))) (pv 0) pe_non)))), ?_⟩
  obtain ⟨x, rfl, hx, hl, q⟩ := h
  have hd := rowt_dash hx
  refine q_when (et_is (et_test (ev_eqS (a := rowt x) (b := [45]) (ev_var rfl) ev_c)) hd) (fun hb H1 e1 => ?_) fun hb H1 e1 => ?_
  · have h0 : x = [] := of_decide_eq_true hb
    subst h0
    exact s_ret ev_c fun H2 e2 => q H2 (e1.trans e2)
  · have h0 : x ≠ [] := of_decide_eq_false hb
    have hr0 : rowt x = x := if_neg h0
    have hw : wayB x = true := (wayB_iff x).mpr ⟨hx.1, h0, hx.2⟩
    rw [hr0]
    exact s_ret (v := S x) (ev_if (b := true) (et_B (ev_is (ev_s1 (ev_var rfl) (Nat.le_trans hl (by decide))) (by rw [hw]))) (fun _ => ev_var rfl) fun z => nomatch z) fun H2 e2 => q H2 (e1.trans e2)
theorem sc_read_by : FnScope ["word", "text"] ["word", "text"] (defScope (top 67)) := ⟨rfl, rfl, rfl, by decide +kernel, rfl, by decide +kernel, by decide +kernel⟩
theorem ok_read_by (B : Bu mg) (T : Cst K mg) {CB : Addr} (gBadText : mg "BadText" = some (.ref CB)) (O_ways_read : Ok P w K mg base CX0 4 "ways_read" (sp_ways_read K)) (D : Dn K mg "read_by" 67) : Ok P w K mg base CX0 5 "read_by" sp_read_by := by
  refine D.ok sc_read_by (fun _ _ _ _ _ _ us hl => match us, hl with | [_, _], _ => rfl) (by rintro vs H Q E ⟨x, rfl, _⟩; rfl) fun f cdv A outer s H vs Q E hr h => ⟨_, (pss_one (ps_try_only rfl rfl ⟨rfl, by decide, .inl gBadText⟩ takes0
      (fun W pn xe tk _ => (pss_one (ps_ret (pe_ifExp (pt_cmpR op_eq (pv 0) (pe_st (l := [115, 104, 111, 119, 110])) (nomark _)) (pe_tup (pa_cons pe_never pa_nil)) (pe_tup (pa_cons (pe_ok O_ways_read hr rfl pass0 (pa_cons (pv 1) pa_nil)) pa_nil))))))
      (fun a oe cls d pn _ _ => (pss_one (ps_ret pe_non))))), ?_⟩
  obtain ⟨l, rfl, ww, ha, hl, hs, q⟩ := h
  refine et_is (b := false) (et_test (ev_eqS (σ := [some (S withinW), some (S (wtx l))]) (a := withinW) (ev_var (i := 0) rfl) ev_c)) (by decide) H (Ex.refl H) _ fun H1 e1 => ?_
  refine ⟨S (wtx l), rfl, l, rfl, ww, ha, hl, hs.mono (by decide), fun t H2 e2 ht => ⟨by show 1 ≤ sizeLine; decide, fun v hv => q v t _ ((e1.trans e2).trans (Ex.new hv)) upd_same ?_⟩⟩
  rw [upd_ne (ne_of_none ht hv)]
  exact ht
theorem sc_values_in : FnScope ["line", "word", "gap", "rest", "words", "own", "rows"] ["line"] (defScope (top 68)) := ⟨rfl, rfl, rfl, by decide +kernel, rfl, by decide +kernel, by decide +kernel⟩
theorem ok_values_in (B : Bu mg) (T : Cst K mg) (T2 : Cst2 K mg) (O_is_way : Ok P w K mg base CX0 3 "is_way" sp_is_way) (O_row_in : Ok P w K mg base CX0 4 "row_in" sp_row_in) (O_read_by : Ok P w K mg base CX0 5 "read_by" sp_read_by) (D : Dn K mg "values_in" 68) : Ok P w K mg base CX0 6 "values_in" sp_values_in := by
  obtain ⟨aBARE, hBARE, sBARE⟩ := T2.BARE
  obtain ⟨aSINGLE, hSINGLE, sSINGLE⟩ := T2.SINGLE
  obtain ⟨aDOUBLE_desk, hDOUBLE_desk, sDOUBLE⟩ := T2.DOUBLE
  have ⟨aNUMBERS, hNUMBERS⟩ := T2.NUMBERS
  refine D.ok sc_values_in (fun _ _ _ _ _ _ us hl => match us, hl with | [_], _ => rfl) (by rintro vs H Q E ⟨x, rfl, _⟩; rfl) fun f cdv A outer s H vs Q E hr h => ⟨_, (pss_cons (ps_asg (pe_partition (pv 0) (pe_gs (by rfl) T.BLANK)) (pg_tup rfl (pgs_cons (pg_name (i := 1) sc_values_in.nd rfl (.inl rfl)) (pgs_cons (pg_name (i := 2) sc_values_in.nd rfl (.inl rfl)) (pgs_cons (pg_name (i := 3) sc_values_in.nd rfl (.inl rfl)) pgs_nil)))))
    (pss_cons (ps_set (i := 4) sc_values_in.nd rfl (.inl rfl) (pe_split (pv 3) (pe_gs (by rfl) T.BLANK)))
    (pss_cons (ps_if (pt_cmpR op_eq (pv 2) (pe_st (l := [])) (nomark _))
      (pss_one (ps_ret (pe_ifExp (pt_cmpR op_in_seq (pv 1) (pe_glob (v := .ref aBARE) rfl hBARE rfl) (by rfl)) (pe_tup pa_nil) pe_non)))
      pss_nil)
    (pss_cons (ps_if (pt_cmpR op_in_seq (pv 1) (pe_glob (v := .ref aSINGLE) rfl hSINGLE rfl) (by rfl))
      (pss_one (ps_ret (pe_ifExp (pt_val (pe_ok O_is_way hr rfl pass0 (pa_cons (pv 3) pa_nil))) (pe_tup (pa_cons (pv 3) pa_nil)) pe_non)))
      pss_nil)
    (pss_cons (ps_if (pt_cmpR op_in_seq (pv 1) (pe_glob (v := .ref aDOUBLE_desk) rfl hDOUBLE_desk rfl) (by rfl))
      (pss_one (ps_ret (pe_ifExp (PW.pt (pw_and (pt_cmpR op_eq (pe_callB call_len_seq (by rfl) B.len PySem.boot_len (pa_cons (pv 4) pa_nil)) pe_int (nomark _)) (pw_and1 (pt_val (pe_callB (cr_all rfl) (by rfl) B.all (by decide +kernel) (pa_cons (pe_lc (own := [("own", 5)]) (g := (gName 5)) (tt := tYes) (te := (tCall sp_is_way [] E0 (tCons (tVar 5) tNil))) rfl sc_values_in.nd (pi_list (pv 4)) (blkOk_by (N := ["line", "word", "gap", "rest", "words", "own", "rows"]) (sc := defScope (top 68)) (by decide +kernel)) (fun _ _ _ _ _ => (pg_name (i := 5) sc_values_in.nd rfl (.inl rfl))) (fun _ _ _ _ _ => pts_nil) (fun _ _ _ _ _ => (pe_ok O_is_way hr rfl pass0 (pa_cons (pv 5) pa_nil)))) pa_nil)))))) (pe_tup (pa_cons (pe_ix ix_list (pv 4) pe_int (fun _ _ => rfl)) (pa_cons (pe_ix ix_list (pv 4) pe_int (fun _ _ => rfl)) pa_nil))) pe_non)))
      pss_nil)
    (pss_cons (ps_if (pt_cmpR op_eq (pv 1) (pe_st (l := [112, 97, 116, 104])) (nomark _))
      (pss_cons (ps_setLc (i := 6) (own := [("own", 5)]) (g := (gName 5)) (tt := tYes) (te := (tCall sp_row_in [] E0 (tCons (tVar 5) tNil))) rfl sc_values_in.nd rfl rfl (sw_true rfl rfl rfl (by decide +kernel)) (pi_list (pv 4)) (blkOk_by (N := ["line", "word", "gap", "rest", "words", "own", "rows"]) (sc := defScope (top 68)) (by decide +kernel)) (fun _ _ _ _ _ => (pg_name (i := 5) sc_values_in.nd rfl (.inl rfl))) (fun _ _ _ _ _ => pts_nil) (fun _ _ _ _ _ => (pe_ok O_row_in hr rfl pass0 (pa_cons (pv 5) pa_nil))))
      (pss_one (ps_ret (pe_ifExp (PW.pt (pw_and (pt_cmpR op_eq (pe_callB call_len_seq (by rfl) B.len PySem.boot_len (pa_cons (pv 6) pa_nil)) pe_int (nomark _)) (pw_and1 (pt_cmpR op_notIn_seq pe_non (pv 6) (by rfl))))) (pe_tup (pa_cons (pe_ix ix_list (pv 6) pe_int (fun _ _ => rfl)) (pa_cons (pe_ix ix_list (pv 6) pe_int (fun _ _ => rfl)) pa_nil))) pe_non))))
      pss_nil)
    (pss_cons (ps_if (pt_cmpR op_eq (pv 1) (pe_st (l := [114, 111, 111, 109, 115])) (nomark _))
      (pss_one (ps_ret (pe_ifExp (pt_cmpR op_in_seq (pv 3) (pe_glob (v := .ref aNUMBERS) rfl hNUMBERS rfl) (by rfl)) (pe_tup (pa_cons pe_never pa_nil)) pe_non)))
      pss_nil)
    (pss_one (ps_ret (pe_ifExp (pt_cmpR op_in_seq (pv 1) (pe_tup (pa_cons (pe_st (l := [115, 104, 111, 119, 110])) (pa_cons (pe_st (l := [119, 105, 116, 104, 105, 110])) pa_nil))) (by rfl)) (pe_ok O_read_by hr rfl pass0 (pa_cons (pv 1) (pa_cons (pv 3) pa_nil))) pe_non)))))))))), ?_⟩
  obtain ⟨r, rfl, hwf, q⟩ := h
  have hlf := line_free hwf
  have hrs := rest_short hwf
  refine q_three (eu_part (ev_var rfl) ev_c (by omega)) fun H1 e1 => ?_
  refine q_asgL (el_splitAny (a := r.rest) (ev_var rfl) ev_c (by omega)) fun p H2 hp e2 h2 => ?_
  have e12 := e1.trans e2
  have gap0 : ∀ H' : Hp, EvT (tTest (tOp rEq (tVar 2) (tC (S [])))) [some (S r.line), some (S r.word), some (S r.gap), some (S r.rest), some (.ref p), none, none] H' (decide (r.gap = [])) := fun H' => et_test (ev_eqS (ev_var rfl) ev_c)
  have single : ∀ H' : Hp, EvT (tTest (tOp (rIn K false) (tVar 1) (tC (.ref aSINGLE)))) [some (S r.line), some (S r.word), some (S r.gap), some (S r.rest), some (.ref p), none, none] H' (decide (r.word ∈ singleW)) := fun H' => et_test (ev_inSs (ev_var rfl) ev_c (.inr (sSINGLE _)))
  have double : ∀ H' : Hp, EvT (tTest (tOp (rIn K false) (tVar 1) (tC (.ref aDOUBLE_desk)))) [some (S r.line), some (S r.word), some (S r.gap), some (S r.rest), some (.ref p), none, none] H' (decide (r.word ∈ doubleW)) := fun H' => et_test (ev_inSs (ev_var rfl) ev_c (.inr (sDOUBLE _)))
  have wordT : ∀ (H' : Hp) (u : W), EvT (tTest (tOp rEq (tVar 1) (tC (S u)))) [some (S r.line), some (S r.word), some (S r.gap), some (S r.rest), some (.ref p), none, none] H' (decide (r.word = u)) := fun H' u => et_test (ev_eqS (ev_var rfl) ev_c)
  match r, hwf, hlf, hrs, h2, q, gap0, single, double, wordT with
  | .bare k, hwf, hlf, hrs, h2, q, gap0, single, double, wordT =>
    refine q_when (et_is (gap0 _) (b := true) rfl) (fun _ H3 e3 => ?_) (fun z => nomatch z)
    refine s_retU (xs := []) (eu_ifT (et_is (et_test (ev_inSs (l := bareW) (a := k.w) (ev_var rfl) ev_c (.inr (sBARE _)))) (by cases k <;> decide)) (eu_tup ea_nil (by show 0 ≤ 100000; decide))) fun v H4 hv e4 h4 => q v H4 ((e12.trans e3).trans e4) h4
  | .one k x, hwf, hlf, hrs, h2, q, gap0, single, double, wordT =>
    refine q_when (et_is (gap0 _) (b := false) rfl) (fun z => nomatch z) fun _ H3 e3 => ?_
    refine q_when (et_is (single _) (b := true) (by show decide (k.w ∈ singleW) = true; cases k <;> decide)) (fun _ H4 e4 => ?_) (fun z => nomatch z)
    have hw : wayB x = true := (wayB_iff x).mpr hwf.1
    refine s_retU (xs := [S x]) (eu_ifT (et_B (ev_is (ev_s1 (a := x) (ev_var rfl) (Nat.le_trans hwf.2 (by decide))) (by rw [hw]))) (eu_tup (ea_cons (ev_var rfl) ea_nil) (by show 1 ≤ 100000; decide))) fun v H5 hv e5 h5 => q v H5 (((e12.trans e3).trans e4).trans e5) h5
  | .two k x y, hwf, hlf, hrs, h2, q, gap0, single, double, wordT =>
    have hsp : Txt.split (ST (x ++ ([32] ++ y))) (ST [32]) = [ST x, ST y] := split_ST (l := [x, y]) (s := 32) (S' := []) rfl rfl (by simp) fun p hp => by
      rcases List.mem_cons.mp hp with rfl | hp
      · exact way_free hwf.1.2.2 (by decide)
      · rw [List.mem_singleton.mp hp]
        exact way_free hwf.2.2.1.2.2 (by decide)
    have h2' : H2 p = some (.lst (Ss [x, y])) := by
      rw [h2]
      show some (HO.lst ((Txt.split (ST (x ++ ([32] ++ y))) (ST [32])).map V.str)) = _
      rw [hsp]
      rfl
    refine q_when (et_is (gap0 _) (b := false) rfl) (fun z => nomatch z) fun _ H3 e3 => ?_
    refine q_when (et_is (single _) (b := false) (by show decide (k.w ∈ singleW) = false; cases k <;> decide)) (fun z => nomatch z) fun _ H4 e4 => ?_
    refine q_when (et_is (double _) (b := true) (by show decide (k.w ∈ doubleW) = true; cases k <;> decide)) (fun _ H5 e5 => ?_) (fun z => nomatch z)
    have h5 : H5 p = some (.lst (Ss [x, y])) := e5 _ _ (e4 _ _ (e3 _ _ h2'))
    have hw : ([x, y].all wayB) = true := by
      simp only [List.all_cons, List.all_nil, Bool.and_true, Bool.and_eq_true]
      exact ⟨(wayB_iff x).mpr hwf.1, (wayB_iff y).mpr hwf.2.2.1⟩
    refine s_retU (xs := [S x, S y]) (eu_ifT (et_is (et_and (b := true) (et_test (ev_eqI (ev_len (ev_var rfl) (sq_of h5)) ev_c)) fun _ => et_B (ev_is (ev_allW (l := [x, y]) wayB (ei_list (ev_var rfl) (sq_of h5)) (by show 2 ≤ 40000; decide) (fun _ => rfl) fun u hu H6 e6 => ev_s1 (ev_var rfl) ?_) (by rw [hw]))) rfl)
      (eu_tup (ea_cons (ev_op (ev_var rfl) ev_c (rv_ixL (sq_of h5) (atI_nat (j := 0) rfl))) (ea_cons (ev_op (ev_var rfl) ev_c (rv_ixL (sq_of h5) (atI_nat (j := 1) rfl))) ea_nil)) (by show 2 ≤ 100000; decide))) fun v H6 hv e6 h6 => q v H6 ((((e12.trans e3).trans e4).trans e5).trans e6) h6
    rcases List.mem_cons.mp hu with rfl | hu
    · exact Nat.le_trans hwf.2.1 (by decide)
    · rw [List.mem_singleton.mp hu]
      exact Nat.le_trans hwf.2.2.2 (by decide)
  | .path x y, hwf, hlf, hrs, h2, q, gap0, single, double, wordT =>
    have hsp : Txt.split (ST (rowt x ++ ([32] ++ rowt y))) (ST [32]) = [ST (rowt x), ST (rowt y)] := split_ST (l := [rowt x, rowt y]) (s := 32) (S' := []) rfl rfl (by simp) fun p hp => by
      rcases List.mem_cons.mp hp with rfl | hp
      · exact rowt_free hwf.1.2 (by decide)
      · rw [List.mem_singleton.mp hp]
        exact rowt_free hwf.2.2.1.2 (by decide)
    have h2' : H2 p = some (.lst (Ss [rowt x, rowt y])) := by
      rw [h2]
      show some (HO.lst ((Txt.split (ST (rowt x ++ ([32] ++ rowt y))) (ST [32])).map V.str)) = _
      rw [hsp]
      rfl
    refine q_when (et_is (gap0 _) (b := false) rfl) (fun z => nomatch z) fun _ H3 e3 => ?_
    refine q_when (et_is (single _) (b := false) (by show decide (pathW ∈ singleW) = false; decide)) (fun z => nomatch z) fun _ H4 e4 => ?_
    refine q_when (et_is (double _) (b := false) (by show decide (pathW ∈ doubleW) = false; decide)) (fun z => nomatch z) fun _ H5 e5 => ?_
    refine q_when (et_is (wordT _ pathW) (b := true) rfl) (fun _ H6 e6 => ?_) (fun z => nomatch z)
    have h6 : H6 p = some (.lst (Ss [rowt x, rowt y])) := e6 _ _ (e5 _ _ (e4 _ _ (e3 _ _ h2')))
    have hrows : EvL (tLc (iList K (tVar 4)) (gName 5) tYes (tCall sp_row_in [] E0 (tCons (tVar 5) tNil)) [5]) [some (S (Req.path x y).line), some (S (Req.path x y).word), some (S (Req.path x y).gap), some (S (Req.path x y).rest), some (.ref p), none, none] H6 (Ss [x, y]) := by
      have e0 : Ss [x, y] = given 2 (fun _ => true) fun i => if i = 0 then S x else S y := rfl
      rw [e0]
      refine el_lc1 (fun _ => true) _ (ei_list (ev_var rfl) (sq_of h6)) (by show 2 ≤ 40000; decide) (fun _ => rfl) fun i z H7 e7 hi hz => ⟨et_yes, fun _ => ?_⟩
      match i, hz with
      | 0, hz =>
        obtain rfl : S (rowt x) = z := Option.some.inj hz
        exact ev_ok (ea_cons (ev_var rfl) ea_nil) fun H8 Q _ q => ⟨x, rfl, hwf.1, hwf.2.1, q⟩
      | 1, hz =>
        obtain rfl : S (rowt y) = z := Option.some.inj hz
        exact ev_ok (ea_cons (ev_var rfl) ea_nil) fun H8 Q _ q => ⟨y, rfl, hwf.2.2.1, hwf.2.2.2, q⟩
      | i + 2, hz => exact absurd hi (by show ¬ i + 2 < 2; omega)
    refine q_asgL hrows fun r2 H7 hr2 e7 h7 => ?_
    refine s_retU (xs := [S x, S y]) (eu_ifT (et_is (et_and (b := true) (et_test (ev_eqI (ev_len (ev_var rfl) (sq_of h7)) ev_c)) fun _ => et_test (ev_niNon (ev_var rfl) (sq_of h7))) rfl)
      (eu_tup (ea_cons (ev_op (ev_var rfl) ev_c (rv_ixL (sq_of h7) (atI_nat (j := 0) rfl))) (ea_cons (ev_op (ev_var rfl) ev_c (rv_ixL (sq_of h7) (atI_nat (j := 1) rfl))) ea_nil)) (by show 2 ≤ 100000; decide))) fun v H8 hv e8 h8 => q v H8 ((((((e12.trans e3).trans e4).trans e5).trans e6).trans e7).trans e8) h8
  | .within l, hwf, hlf, hrs, h2, q, gap0, single, double, wordT =>
    refine q_when (et_is (gap0 _) (b := false) rfl) (fun z => nomatch z) fun _ H3 e3 => ?_
    refine q_when (et_is (single _) (b := false) (by show decide (withinW ∈ singleW) = false; decide)) (fun z => nomatch z) fun _ H4 e4 => ?_
    refine q_when (et_is (double _) (b := false) (by show decide (withinW ∈ doubleW) = false; decide)) (fun z => nomatch z) fun _ H5 e5 => ?_
    refine q_when (et_is (wordT _ pathW) (b := false) rfl) (fun z => nomatch z) fun _ H6 e6 => ?_
    refine q_when (et_is (wordT _ [114, 111, 111, 109, 115]) (b := false) rfl) (fun z => nomatch z) fun _ H7 e7 => ?_
    refine et_is (b := true) (et_test (ev_inUs (K := K) (σ := [some (S (Req.within l).line), some (S (Req.within l).word), some (S (Req.within l).gap), some (S (Req.within l).rest), some (.ref p), none, none]) (a := withinW) (l := [[115, 104, 111, 119, 110], [119, 105, 116, 104, 105, 110]]) (ev_var (i := 1) rfl) (eu_tup (ea_cons ev_c (ea_cons ev_c ea_nil)) (by show 2 ≤ 100000; decide)))) (by decide) H7 (Ex.refl H7) _ fun H8 e8 => ?_
    refine ⟨S withinW, rfl, S (wtx l), rfl, l, rfl, hwf.1, hwf.2.1, hwf.2.2.1, hwf.2.2.2, fun v t H9 e9 hv ht => q v H9 (((((((e12.trans e3).trans e4).trans e5).trans e6).trans e7).trans e8).trans e9) ⟨t, hv, ht⟩⟩
end
end Mir
/-! part W10 -/
set_option Elab.async false
set_option linter.all false
set_option maxRecDepth 100000
set_option maxHeartbeats 4000000
/-! The walk: deeds and what is told. -/
namespace Mir
open PySem PySem.Spec PyProof.Rows L2 Evl
/-- which error is which -/
structure Exm (K : PySem.W.Frag) (CK CN CD : Addr) : Prop where
  kk : PySem.W.exmOne K (.ref CK) (.ref CK) = some true
  nk : PySem.W.exmOne K (.ref CN) (.ref CK) = some false
  nn : PySem.W.exmOne K (.ref CN) (.ref CN) = some true
  dk : PySem.W.exmOne K (.ref CD) (.ref CK) = some false
  dn : PySem.W.exmOne K (.ref CD) (.ref CN) = some false
  dd : PySem.W.exmOne K (.ref CD) (.ref CD) = some true
  kn : PySem.W.exmOne K (.ref CK) (.ref CN) = some false
  kd : PySem.W.exmOne K (.ref CK) (.ref CD) = some false
  nd : PySem.W.exmOne K (.ref CN) (.ref CD) = some false
abbrev sp_deed_of (C : Addr) : Sp := fun vs H Q _ => ∃ (r : Req) (a dx p v : Addr) (s : GS) (k : Nat), vs = [.ref a, S r.word, .ref v] ∧ isDeed r = true ∧ r.wf ∧ ValAt H v r ∧ GI k s ∧ k < 63 ∧ GAt C H a dx p s.1 s.2 ∧
  ∀ H', Keep a p H H' → GAt C H' a dx p (deed r s).1.1 (deed r s).1.2 → Q (S (deed r s).2) H'
abbrev sp_told_of (C : Addr) : Sp := fun vs H Q _ => ∃ (r : Req) (a dx p v : Addr) (s : GS) (k : Nat), vs = [.ref a, S r.word, .ref v] ∧ isDeed r = false ∧ r.wf ∧ ValAt H v r ∧ GI k s ∧ k < 64 ∧ GAt C H a dx p s.1 s.2 ∧ Rv (S (told r s.1)) H Q
theorem GI.sh4 {k : Nat} {s : GS} (g : GI k s) (hk : k ≤ 64) : Shr 10000 s.1 := g.sh.mono (by omega)
section
variable {K : PySem.W.Frag} {σ : L2.St} {H : Hp} {ta tb : TE}
theorem ev_val {v : Addr} {xs : List V} {i : Nat} {x : V} (ha : Ev ta σ H (.ref v)) (hv : H v = some (.tup xs)) (hx : xs[i]? = some x) : Ev (tOp (rIxT K) ta (tC (.int (i : Int)))) σ H x := ev_op ha ev_c (rv_ixT (st_of hv) (atI_nat hx))
end
section
variable {P : Program} {w : World} {K : PySem.W.Frag} {mg : Str → Option Value} {base : Heap} {C CK CN CD : Addr}
theorem sc_deed_of : FnScope ["gallery", "word", "values"] ["gallery", "word", "values"] (defScope (top 72)) := ⟨rfl, rfl, rfl, by decide +kernel, rfl, by decide +kernel, by decide +kernel⟩
theorem ok_deed_of (B : Bu mg) (T : Cst K mg) (GF : Gal K mg C) (XM : Exm K CK CN CD) (gKnown : mg "Known" = some (.ref CK)) (gNoWay : mg "NoWay" = some (.ref CN)) (gNothingDone : mg "NothingDone" = some (.ref CD)) (O_m_hang : Om P w K mg base (L2.CX P w) 3 C "hang" (sp_m_hang C CK)) (O_m_take : Om P w K mg base (L2.CX P w) 3 C "take" (sp_m_take C CN)) (O_m_look : Om P w K mg base CX0 5 C "look" (sp_m_look C)) (O_m_tidy : Om P w K mg base CX0 7 C "tidy" (sp_m_tidy C)) (O_m_undo : Om P w K mg base (L2.CX P w) 1 C "undo" (sp_m_undo C CD)) (D : Dn K mg "deed_of" 72) : Ok P w K mg base CX0 8 "deed_of" (sp_deed_of C) := by
  refine D.ok sc_deed_of (fun _ _ _ _ _ _ us hl => match us, hl with | [_, _, _], _ => rfl) (by rintro vs H Q E ⟨r, a, dx, p, v, s, k, rfl, _⟩; rfl) fun f cdv A outer s H vs Q E hr h => ⟨_, (pss_cons (ps_try_many rfl rfl takes0
      (tb := fun W => (tIfS (tTest (tOp rEq (tVar 1) (tC (S [104, 97, 110, 103])))) (tDrop (tMethS C (sp_m_hang C CK) (WE W) (tVar 0) (tCons (tOp (rIxT K) (tVar 2) (tC (.int 0))) tNil))) (tIfS (tTest (tOp rEq (tVar 1) (tC (S [116, 97, 107, 101])))) (tDrop (tMethS C (sp_m_take C CN) (WE W) (tVar 0) (tCons (tOp (rIxT K) (tVar 2) (tC (.int 0))) tNil))) (tIfS (tTest (tOp rEq (tVar 1) (tC (S [108, 111, 111, 107])))) (tDrop (SlX.tMethSl C (sp_m_look C) E0 (tVar 0) (tCons (tOp (rIxT K) (tVar 2) (tC (.int 0))) tNil))) (tIfS (tTest (tOp rEq (tVar 1) (tC (S [116, 105, 100, 121])))) (tDrop (SlX.tMethSl C (sp_m_tidy C) E0 (tVar 0) tNil)) (tDrop (tMethS C (sp_m_undo C CD) (WE W) (tVar 0) tNil))))))) (fun W pn xe tk _ => (pss_one (ps_if (pt_cmpR op_eq (pv 1) (pe_st (l := [104, 97, 110, 103])) (nomark _))
        (pss_one (ps_expr (pe_omS O_m_hang GF.sc (pv 0) hr (fun σ => passAt tk σ) (pa_cons (pe_ix ix_tup (pv 2) pe_int (fun _ _ => rfl)) pa_nil))))
        (pss_one (ps_if (pt_cmpR op_eq (pv 1) (pe_st (l := [116, 97, 107, 101])) (nomark _))
          (pss_one (ps_expr (pe_omS O_m_take GF.sc (pv 0) hr (fun σ => passAt tk σ) (pa_cons (pe_ix ix_tup (pv 2) pe_int (fun _ _ => rfl)) pa_nil))))
          (pss_one (ps_if (pt_cmpR op_eq (pv 1) (pe_st (l := [108, 111, 111, 107])) (nomark _))
            (pss_one (ps_expr (pe_om O_m_look GF.sc (pv 0) hr pass0 (pa_cons (pe_ix ix_tup (pv 2) pe_int (fun _ _ => rfl)) pa_nil))))
            (pss_one (ps_if (pt_cmpR op_eq (pv 1) (pe_st (l := [116, 105, 100, 121])) (nomark _))
              (pss_one (ps_expr (pe_om0 O_m_tidy GF.sc (pv 0) hr pass0)))
              (pss_one (ps_expr (pe_omS0 O_m_undo GF.sc (pv 0) hr (fun σ => passAt tk σ)))))))))))))
      (.cons ⟨rfl, by decide, .inl gKnown⟩ (fun a oe cls d pn _ _ => (pss_one (ps_ret (pe_st (l := [114, 101, 102, 117, 115, 101, 100, 32, 75, 110, 111, 119, 110]))))) (.cons ⟨rfl, by decide, .inl gNoWay⟩ (fun a oe cls d pn _ _ => (pss_one (ps_ret (pe_st (l := [114, 101, 102, 117, 115, 101, 100, 32, 78, 111, 87, 97, 121]))))) (.cons ⟨rfl, by decide, .inl gNothingDone⟩ (fun a oe cls d pn _ _ => (pss_one (ps_ret (pe_st (l := [114, 101, 102, 117, 115, 101, 100, 32, 78, 111, 116, 104, 105, 110, 103, 68, 111, 110, 101]))))) .nil))))
    (pss_one (ps_ret (pe_st (l := [100, 111, 110, 101]))))), ?_⟩
  obtain ⟨r, a, dx, p, v, s, k, rfl, hd, hwf, hv, gi, hk, g, q⟩ := h
  have few := gi.few
  have pl := gi.pl
  have sh := gi.sh4 (by omega)
  have wordT : ∀ (H' : Hp) (u : W), EvT (tTest (tOp rEq (tVar 1) (tC (S u)))) [some (.ref a), some (S r.word), some (.ref v)] H' (decide (r.word = u)) := fun H' u => et_test (ev_eqS (ev_var rfl) ev_c)
  match r, hd, hwf, hv, q, wordT with
  | .one .hang x, hd, hwf, hv, q, wordT =>
    refine s_if (et_is (wordT _ _) (b := true) rfl) (fun _ H1 e1 => ?_) (fun z => nomatch z)
    obtain ⟨t, ts, hs, _⟩ := (g.mono e1).sl
    refine ⟨.ref a, rfl, a, dx, _, rfl, hs, ?_⟩
    refine ev_val (K := K) (σ := [some (.ref a), some (S (Req.one .hang x).word), some (.ref v)]) (i := 0) (ev_var (i := 2) rfl) (e1 _ _ hv) rfl H1 (Ex.refl H1) _ fun H2 e2 => ?_
    have e12 := e1.trans e2
    refine ⟨a, dx, p, s.1, s.2, x, rfl, g.mono e12, by omega, by omega, fun hx H3 e3 d hd3 => ?_, fun hx H3 k3 g3 => ?_⟩
    · have hdd : deed (.one .hang x) s = (s, refK) := if_pos hx
      refine ⟨true, XM.kk, fun _ b hb => ?_, (fun z => nomatch z)⟩
      rw [hdd] at q
      have e13 := (e12.trans e3).trans (Ex.new hd3 (o := .xd [(("way" : Str), S x)]))
      exact q _ (Keep.of e13) (g.mono e13)
    · have hdd : deed (.one .hang x) s = ((setOf (s.1 ++ [x]), s.2 ++ [s.1]), doneW) := if_neg hx
      rw [hdd] at q
      exact q H3 ((Keep.of e12).trans k3) g3
  | .one .take x, hd, hwf, hv, q, wordT =>
    refine s_if (et_is (wordT _ _) (b := false) rfl) (fun z => nomatch z) fun _ H0 e0 => ?_
    refine s_if (et_is (wordT _ _) (b := true) rfl) (fun _ H1 e1' => ?_) (fun z => nomatch z)
    have e1 := e0.trans e1'
    obtain ⟨t, ts, hs, _⟩ := (g.mono e1).sl
    refine ⟨.ref a, rfl, a, dx, _, rfl, hs, ?_⟩
    refine ev_val (K := K) (σ := [some (.ref a), some (S (Req.one .take x).word), some (.ref v)]) (i := 0) (ev_var (i := 2) rfl) (e1 _ _ hv) rfl H1 (Ex.refl H1) _ fun H2 e2 => ?_
    have e12 := e1.trans e2
    refine ⟨a, dx, p, s.1, s.2, x, rfl, g.mono e12, by omega, by omega, fun hx H3 e3 d hd3 => ?_, fun hx H3 k3 g3 => ?_⟩
    · have hdd : deed (.one .take x) s = (s, refN) := if_neg hx
      refine ⟨false, XM.nk, (fun z => nomatch z), fun _ => ⟨true, XM.nn, fun _ b hb => ?_, (fun z => nomatch z)⟩⟩
      rw [hdd] at q
      have e13 := (e12.trans e3).trans (Ex.new hd3 (o := .xd [(("way" : Str), S x)]))
      exact q _ (Keep.of e13) (g.mono e13)
    · have hdd : deed (.one .take x) s = ((setOf (s.1.filter fun y => !decide (y = x)), s.2 ++ [s.1]), doneW) := if_pos hx
      rw [hdd] at q
      exact q H3 ((Keep.of e12).trans k3) g3
  | .one .look x, hd, hwf, hv, q, wordT =>
    refine s_if (et_is (wordT _ _) (b := false) rfl) (fun z => nomatch z) fun _ H0 e0 => ?_
    refine s_if (et_is (wordT _ _) (b := false) rfl) (fun z => nomatch z) fun _ H0' e0' => ?_
    refine s_if (et_is (wordT _ _) (b := true) rfl) (fun _ H1 e1' => ?_) (fun z => nomatch z)
    have e1 := (e0.trans e0').trans e1'
    obtain ⟨t, ts, hs, _⟩ := (g.mono e1).sl
    refine ⟨.ref a, rfl, a, dx, _, rfl, hs, ?_⟩
    refine ev_val (K := K) (σ := [some (.ref a), some (S (Req.one .look x).word), some (.ref v)]) (i := 0) (ev_var (i := 2) rfl) (e1 _ _ hv) rfl H1 (Ex.refl H1) _ fun H2 e2 => ?_
    have e12 := e1.trans e2
    exact ⟨a, dx, p, s.1, s.2, x, rfl, g.mono e12, by omega, by omega, sh.mono (by decide), Nat.le_trans hwf.2 (by decide), fun H3 k3 g3 => q H3 ((Keep.of e12).trans k3) g3⟩
  | .bare .tidy, hd, hwf, hv, q, wordT =>
    refine s_if (et_is (wordT _ _) (b := false) rfl) (fun z => nomatch z) fun _ H0 e0 => ?_
    refine s_if (et_is (wordT _ _) (b := false) rfl) (fun z => nomatch z) fun _ H0' e0' => ?_
    refine s_if (et_is (wordT _ _) (b := false) rfl) (fun z => nomatch z) fun _ H0'' e0'' => ?_
    refine s_if (et_is (wordT _ _) (b := true) rfl) (fun _ H1 e1' => ?_) (fun z => nomatch z)
    have e1 := ((e0.trans e0').trans e0'').trans e1'
    obtain ⟨t, ts, hs, _⟩ := (g.mono e1).sl
    exact ⟨.ref a, rfl, a, dx, _, rfl, hs, a, dx, p, s.1, s.2, rfl, g.mono e1, by omega, gi.ww, by omega, sh.mono (by decide), fun H3 k3 g3 => q H3 ((Keep.of e1).trans k3) g3⟩
  | .bare .undo, hd, hwf, hv, q, wordT =>
    refine s_if (et_is (wordT _ _) (b := false) rfl) (fun z => nomatch z) fun _ H0 e0 => ?_
    refine s_if (et_is (wordT _ _) (b := false) rfl) (fun z => nomatch z) fun _ H0' e0' => ?_
    refine s_if (et_is (wordT _ _) (b := false) rfl) (fun z => nomatch z) fun _ H0'' e0'' => ?_
    refine s_if (et_is (wordT _ _) (b := false) rfl) (fun z => nomatch z) fun _ H1 e1' => ?_
    have e1 := ((e0.trans e0').trans e0'').trans e1'
    obtain ⟨t, ts, hs, _⟩ := (g.mono e1).sl
    refine ⟨.ref a, rfl, a, dx, _, rfl, hs, a, dx, p, s.1, s.2, rfl, g.mono e1, fun hp H3 e3 => ?_, fun qs u hp H3 k3 g3 => ?_⟩
    · have hdd : deed (.bare .undo) s = (s, refD) := by
        show (match s.2.getLast? with | none => (s, refD) | some u => ((u, s.2.dropLast), doneW)) = _
        rw [hp]
        rfl
      refine ⟨false, XM.dk, (fun z => nomatch z), fun _ => ⟨false, XM.dn, (fun z => nomatch z), fun _ => ⟨true, XM.dd, fun _ b hb => ?_, (fun z => nomatch z)⟩⟩⟩
      rw [hdd] at q
      exact q _ (Keep.of (e1.trans e3)) (g.mono (e1.trans e3))
    · have hdd : deed (.bare .undo) s = ((u, qs), doneW) := by
        show (match s.2.getLast? with | none => (s, refD) | some u => ((u, s.2.dropLast), doneW)) = _
        rw [hp]
        simp
      rw [hdd] at q
      exact q H3 ((Keep.of e1).trans k3) g3
end
end Mir
/-! part W11 -/
set_option Elab.async false
set_option linter.all false
set_option maxRecDepth 100000
set_option maxHeartbeats 4000000
/-! The walk: what is told. -/
namespace Mir
open PySem PySem.Spec PyProof.Rows L2 Evl
section
variable {K : PySem.W.Frag} {σ : L2.St} {H : Hp} {ta tb te : TE} {C a dx p : Addr} {ws : List W} {past : List (List W)}
/-- gallery.ways, gallery.makers -/
theorem eq_ways (h : Ev te σ H (.ref a)) (g : GAt C H a dx p ws past) : EvQ K (SlX.tPropSl C (sp_p_ways C) E0 te) σ H (Ss ws) := fun H1 e Q q => h H1 e _ fun H2 e2 => by
  have g2 := g.mono (e.trans e2)
  obtain ⟨t, ts, hs, _⟩ := g2.sl
  exact ⟨a, dx, _, rfl, hs, a, dx, p, ws, past, rfl, g2, fun t H3 e3 ht => q t H3 (e2.trans e3) (st_of ht)⟩
theorem eq_makers (h : Ev te σ H (.ref a)) (g : GAt C H a dx p ws past) (ww : Ways ws) (hl : ws.length < 64) (hs : Shr 40000 ws) : EvQ K (SlX.tPropSl C (sp_p_makers C) E0 te) σ H (Ss (mk ws)) := fun H1 e Q q => h H1 e _ fun H2 e2 => by
  have g2 := g.mono (e.trans e2)
  obtain ⟨t, ts, hsl, _⟩ := g2.sl
  exact ⟨a, dx, _, rfl, hsl, a, dx, p, ws, past, rfl, g2, ww, hl, hs, fun t H3 ht e3 hx => q t H3 (e2.trans e3) (st_of hx)⟩
theorem ev_deeds (h : Ev te σ H (.ref a)) (g : GAt C H a dx p ws past) : Ev (SlX.tPropSl C (sp_p_deeds C) E0 te) σ H (.int (past.length : Int)) := fun H1 e Q q => h H1 e _ fun H2 e2 => by
  have g2 := g.mono (e.trans e2)
  obtain ⟨t, ts, hsl, _⟩ := g2.sl
  exact ⟨a, dx, _, rfl, hsl, a, dx, p, ws, past, rfl, g2, fun H3 e3 => q H3 (e2.trans e3)⟩
theorem ev_has {x : W} (hx : Ev ta σ H (S x)) (h : Ev tb σ H (.ref a)) (g : GAt C H a dx p ws past) (ww : Ways ws) (hl : ws.length < 64) (hs : Shr 40000 ws) (wx : Way x) (hxl : x.length ≤ 40000) :
    Ev (tOp (rInOwn C (sp_m_contains C) E0) ta tb) σ H (.bl (decide ((fold (mk ws) x).1 ∈ mk ws))) := fun H1 e Q q => hx H1 e _ fun H2 e2 => h H2 (e.trans e2) _ fun H3 e3 => by
  have g3 := g.mono ((e.trans e2).trans e3)
  obtain ⟨t, ts, hsl, _⟩ := g3.sl
  exact ⟨a, dx, _, rfl, hsl, a, dx, p, ws, past, x, rfl, g3, ww, hl, hs, wx, hxl, fun H4 e4 => ⟨_, rfl, q H4 ((e2.trans e3).trans e4)⟩⟩
/-- a call of one tuple, new or old -/
theorem ev_okQ {sp : Sp} {E : XK} {xs : List V} {v : V} (h : EvQ K te σ H xs) (hs : ∀ p H1 Q, Ex H H1 → SqT K H1 p xs → Rv v H1 Q → sp [.ref p] H1 Q E) : Ev (tCall sp [] E (tCons te tNil)) σ H v := fun H1 e Q q => h H1 e _ fun p H2 e2 hx =>
  hs p H2 Q (e.trans e2) hx fun H3 e3 => q H3 (e2.trans e3)
theorem eq_ifT {t : TT} {xs : List V} (h : EvT t σ H true) (h1 : EvQ K ta σ H xs) : EvQ K (tIf t ta tb) σ H xs := fun H1 e Q q => h H1 e _ fun H2 e2 => iteT (h1 H2 (e.trans e2) Q fun p H3 e3 hx => q p H3 (e2.trans e3) hx)
theorem eq_ifF {t : TT} {xs : List V} (h : EvT t σ H false) (h1 : EvQ K tb σ H xs) : EvQ K (tIf t ta tb) σ H xs := fun H1 e Q q => h H1 e _ fun H2 e2 => iteF (h1 H2 (e.trans e2) Q fun p H3 e3 hx => q p H3 (e2.trans e3) hx)
/-- a call of two tuples, new or old -/
theorem ev_okQ2 {sp : Sp} {E : XK} {xs ys : List V} {v : V} (h : EvQ K ta σ H xs) (h2 : ∀ H1, Ex H H1 → EvQ K tb σ H1 ys) (hs : ∀ p b H1 Q, Ex H H1 → SqT K H1 p xs → SqT K H1 b ys → Rv v H1 Q → sp [.ref p, .ref b] H1 Q E) : Ev (tCall sp [] E (tCons ta (tCons tb tNil))) σ H v := fun H1 e Q q => h H1 e _ fun p H2 e2 hx => h2 H2 (e.trans e2) H2 (Ex.refl H2) _ fun b H3 e3 hy =>
  hs p b H3 Q ((e.trans e2).trans e3) (ex_t e3 hx) hy fun H4 e4 => q H4 ((e2.trans e3).trans e4)
/-- gallery.chain(x) -/
theorem ev_chain0 {x : W} (h : Ev te σ H (.ref a)) (hx : Ev ta σ H (S x)) (g : GAt C H a dx p ws past) (ww : Ways ws) (hl : ws.length < 64) (hs : Shr 40000 ws) (wx : Way x) (hxl : x.length ≤ 40000) (hc : chn ws x = none) : Ev (SlX.tMethSl C (sp_m_chain C) E0 te (tCons ta tNil)) σ H .non := fun H1 e Q q => h H1 e _ fun H2 e2 => by
  have g2 := g.mono (e.trans e2)
  obtain ⟨t, ts, hsl, _⟩ := g2.sl
  refine ⟨a, dx, _, rfl, hsl, hx H2 (e.trans e2) _ fun H3 e3 => ⟨a, dx, p, ws, past, x, rfl, g2.mono e3, ww, hl, hs, wx, hxl, ?_⟩⟩
  rw [hc]
  exact fun H4 e4 => q H4 ((e2.trans e3).trans e4)
theorem eu_chain {x : W} {l : List W} (h : Ev te σ H (.ref a)) (hx : Ev ta σ H (S x)) (g : GAt C H a dx p ws past) (ww : Ways ws) (hl : ws.length < 64) (hs : Shr 40000 ws) (wx : Way x) (hxl : x.length ≤ 40000) (hc : chn ws x = some l) : EvU (SlX.tMethSl C (sp_m_chain C) E0 te (tCons ta tNil)) σ H (Ss l) := fun H1 e Q q => h H1 e _ fun H2 e2 => by
  have g2 := g.mono (e.trans e2)
  obtain ⟨t, ts, hsl, _⟩ := g2.sl
  refine ⟨a, dx, _, rfl, hsl, hx H2 (e.trans e2) _ fun H3 e3 => ⟨a, dx, p, ws, past, x, rfl, g2.mono e3, ww, hl, hs, wx, hxl, ?_⟩⟩
  rw [hc]
  exact fun r H4 hr e4 hx4 => q r H4 (fresh_back (e2.trans e3) hr) ((e2.trans e3).trans e4) hx4
end
/-- how long a chain is as a text -/
theorem chain_size {ws : List W} {x : W} {l : List W} (ww : Ways ws) (hs : Shr 10000 ws) (wx : Way x) (hx : x.length ≤ 64) (h : chn ws x = some l) : tot l + l.length * 1 ≤ 1000000 := by
  unfold chn at h
  split at h
  · have h' := Option.some.inj h
    have ff := fold_facts (mk_ways ww) wx
    have hm := mk_short ww hs
    have t1 : tot l ≤ l.length * 10000 := tot_le fun w hw => by
      rw [← h'] at hw
      rcases List.mem_cons.mp hw with rfl | hw
      · have := ff.2.2.1
        omega
      · exact hm w (ff.2.2.2.1 w (List.mem_reverse.mp hw))
    have t2 : l.length ≤ 65 := by
      rw [← h', List.length_cons, List.length_reverse]
      have := ff.2.2.2.2
      omega
    omega
  · cases h
section
variable {P : Program} {w : World} {K : PySem.W.Frag} {mg : Str → Option Value} {base : Heap} {C : Addr}
theorem pth_len (x y : W) : (pth x y).length ≤ x.length + y.length := by
  unfold pth
  rw [List.length_append, List.length_reverse, List.length_drop, List.length_drop]
  omega
theorem sc_told_of : FnScope ["gallery", "word", "values", "chain", "found", "row"] ["gallery", "word", "values"] (defScope (top 71)) := ⟨rfl, rfl, rfl, by decide +kernel, rfl, by decide +kernel, by decide +kernel⟩
theorem ok_told_of (B : Bu mg) (T : Cst K mg) (GF : Gal K mg C) (O_ways_text : Ok P w K mg base CX0 1 "ways_text" (sp_ways_text K)) (O_yes_or_no : Ok P w K mg base CX0 1 "yes_or_no" sp_yes_or_no) (O_seen_in : Ok P w K mg base CX0 4 "seen_in" sp_seen_in) (O_mirror_between : Ok P w K mg base CX0 5 "mirror_between" sp_mirror_between) (O_path : Ok P w K mg base CX0 2 "path" sp_path) (O_within : Ok P w K mg base CX0 7 "within" (sp_within K)) (O_m_chain : Om P w K mg base CX0 8 C "chain" (sp_m_chain C)) (O_m_contains : Om P w K mg base CX0 8 C "__contains__" (sp_m_contains C)) (O_p_ways : Op' P w K mg base 1 C "ways" (sp_p_ways C)) (O_p_makers : Op' P w K mg base 7 C "makers" (sp_p_makers C)) (D : Dn K mg "told_of" 71) : Ok P w K mg base CX0 9 "told_of" (sp_told_of C) := by
  refine D.ok sc_told_of (fun _ _ _ _ _ _ us hl => match us, hl with | [_, _, _], _ => rfl) (by rintro vs H Q E ⟨r, a, dx, p, v, s, k, rfl, _⟩; rfl) fun f cdv A outer s H vs Q E hr h => ⟨_, (pss_cons (ps_if (pt_cmpR op_in_seq (pv 1) (pe_tup (pa_cons (pe_st (l := [119, 97, 121, 115])) (pa_cons (pe_st (l := [109, 97, 107, 101, 114, 115])) pa_nil))) (by rfl))
      (pss_one (ps_ret (pe_ok O_ways_text hr rfl pass0 (pa_cons (pe_ifExp (pt_cmpR op_eq (pv 1) (pe_st (l := [119, 97, 121, 115])) (nomark _)) (pe_op' O_p_ways GF.sc (pv 0) hr) (pe_op' O_p_makers GF.sc (pv 0) hr)) pa_nil))))
      pss_nil)
    (pss_cons (ps_if (pt_cmpR op_eq (pv 1) (pe_st (l := [104, 97, 115])) (nomark _))
      (pss_one (ps_ret (pe_ok O_yes_or_no hr rfl pass0 (pa_cons (pe_cmpR (op_om O_m_contains hr pass0) (pe_ix ix_tup (pv 2) pe_int (fun _ _ => rfl)) (pv 0) (by rfl)) pa_nil))))
      pss_nil)
    (pss_cons (ps_if (pt_cmpR op_eq (pv 1) (pe_st (l := [99, 104, 97, 105, 110])) (nomark _))
      (pss_cons (ps_set (i := 3) sc_told_of.nd rfl (.inl rfl) (pe_om O_m_chain GF.sc (pv 0) hr pass0 (pa_cons (pe_ix ix_tup (pv 2) pe_int (fun _ _ => rfl)) pa_nil)))
      (pss_one (ps_ret (pe_ifExp (pt_cmpR op_isN (pv 3) pe_non (nomark _)) (pe_gs (by rfl) T.NOTHING) (pe_join (pe_gs (by rfl) T.BLANK) (pv 3))))))
      pss_nil)
    (pss_cons (ps_if (pt_cmpR op_eq (pv 1) (pe_st (l := [115, 101, 101, 110])) (nomark _))
      (pss_one (ps_ret (pe_ok O_seen_in hr rfl pass0 (pa_cons (pe_ix ix_tup (pv 2) pe_int (fun _ _ => rfl)) (pa_cons (pe_ix ix_tup (pv 2) pe_int (fun _ _ => rfl)) pa_nil)))))
      pss_nil)
    (pss_cons (ps_if (pt_cmpR op_eq (pv 1) (pe_st (l := [98, 101, 116, 119, 101, 101, 110])) (nomark _))
      (pss_cons (ps_set (i := 4) sc_told_of.nd rfl (.inl rfl) (pe_ok O_mirror_between hr rfl pass0 (pa_cons (pe_ix ix_tup (pv 2) pe_int (fun _ _ => rfl)) (pa_cons (pe_ix ix_tup (pv 2) pe_int (fun _ _ => rfl)) pa_nil))))
      (pss_one (ps_ret (pe_ifExp (pt_cmpR op_isN (pv 4) pe_non (nomark _)) (pe_gs (by rfl) T.NOTHING) (pv 4)))))
      pss_nil)
    (pss_cons (ps_if (pt_cmpR op_eq (pv 1) (pe_st (l := [112, 97, 116, 104])) (nomark _))
      (pss_cons (ps_set (i := 5) sc_told_of.nd rfl (.inl rfl) (pe_ok O_path hr rfl pass0 (pa_cons (pe_ix ix_tup (pv 2) pe_int (fun _ _ => rfl)) (pa_cons (pe_ix ix_tup (pv 2) pe_int (fun _ _ => rfl)) pa_nil))))
      (pss_one (ps_ret (pe_ifExp (pt_cmpR op_eq (pv 5) (pe_st (l := [])) (nomark _)) (pe_gs (by rfl) T.NONE) (pv 5)))))
      pss_nil)
    (pss_cons (ps_if (pt_cmpR op_eq (pv 1) (pe_st (l := [115, 104, 111, 119, 110])) (nomark _))
      (pss_one (ps_ret pe_never))
      pss_nil)
    (pss_cons (ps_if (pt_cmpR op_eq (pv 1) (pe_st (l := [114, 111, 111, 109, 115])) (nomark _))
      (pss_one (ps_ret pe_never))
      pss_nil)
    (pss_one (ps_ret (pe_ok O_yes_or_no hr rfl pass0 (pa_cons (pe_ok O_within hr rfl pass0 (pa_cons (pe_op' O_p_ways GF.sc (pv 0) hr) (pa_cons (pe_ix ix_tup (pv 2) pe_int (fun _ _ => rfl)) pa_nil))) pa_nil)))))))))))), ?_⟩
  obtain ⟨r, a, dx, p, v, s, k, rfl, hd, hwf, hv, gi, hk, g, q⟩ := h
  have few : s.1.length < 64 := by
    have := gi.few
    omega
  have sh := gi.sh4 (by omega)
  have sh4 : Shr 40000 s.1 := sh.mono (by decide)
  have ww := gi.ww
  have tups : ∀ (H' : Hp), EvT (tTest (tOp (rIn K false) (tVar 1) (tTup (tCons (tC (S [119, 97, 121, 115])) (tCons (tC (S [109, 97, 107, 101, 114, 115])) tNil))))) [some (.ref a), some (S r.word), some (.ref v), none, none, none] H' (decide (r.word ∈ [[119, 97, 121, 115], [109, 97, 107, 101, 114, 115]])) := fun H' => et_test (ev_inUs (ev_var rfl) (eu_tup (ea_cons ev_c (ea_cons ev_c ea_nil)) (by show 2 ≤ 100000; decide)))
  have wordT : ∀ (H' : Hp) (u : W), EvT (tTest (tOp rEq (tVar 1) (tC (S u)))) [some (.ref a), some (S r.word), some (.ref v), none, none, none] H' (decide (r.word = u)) := fun H' u => et_test (ev_eqS (ev_var rfl) ev_c)
  match r, hd, hwf, hv, q, tups, wordT with
  | .bare .ways, hd, hwf, hv, q, tups, wordT =>
    refine q_when (et_is (tups _) (b := true) rfl) (fun _ H1 e1 => ?_) (fun z => nomatch z)
    exact s_ret (ev_okQ (eq_ifT (et_is (wordT _ _) (b := true) rfl) (eq_ways (K := K) (ev_var rfl) (g.mono e1))) fun t H2 Q e2 ht q => ⟨t, s.1, rfl, ht, gi.as, few, sh, q⟩) fun H2 e2 => q H2 (e1.trans e2)
  | .bare .makers, hd, hwf, hv, q, tups, wordT =>
    refine q_when (et_is (tups _) (b := true) rfl) (fun _ H1 e1 => ?_) (fun z => nomatch z)
    have hm := mk_len ww
    exact s_ret (ev_okQ (eq_ifF (et_is (wordT _ _) (b := false) rfl) (eq_makers (K := K) (ev_var rfl) (g.mono e1) ww few sh4)) fun t H2 Q e2 ht q => ⟨t, mk s.1, rfl, ht, mk_asc ww, by omega, mk_short ww sh, q⟩) fun H2 e2 => q H2 (e1.trans e2)
  | .one .has x, hd, hwf, hv, q, tups, wordT =>
    refine q_when (et_is (tups _) (b := false) rfl) (fun z => nomatch z) fun _ H1 e1 => ?_
    refine q_when (et_is (wordT _ _) (b := true) rfl) (fun _ H2 e2 => ?_) (fun z => nomatch z)
    have e12 := e1.trans e2
    refine s_ret (ev_ok (ea_cons (ev_has (ev_val (i := 0) (ev_var rfl) (e12 _ _ hv) rfl) (ev_var rfl) (g.mono e12) ww few sh4 hwf.1 (Nat.le_trans hwf.2 (by decide))) ea_nil) fun H2 Q _ q => ⟨_, rfl, q⟩) fun H3 e3 => q H3 (e12.trans e3)
  | .one .chain x, hd, hwf, hv, q, tups, wordT =>
    refine q_when (et_is (tups _) (b := false) rfl) (fun z => nomatch z) fun _ H1 e1 => ?_
    refine q_when (et_is (wordT _ _) (b := false) rfl) (fun z => nomatch z) fun _ H2 e2 => ?_
    refine q_when (et_is (wordT _ _) (b := true) rfl) (fun _ H3 e3 => ?_) (fun z => nomatch z)
    have e13 := (e1.trans e2).trans e3
    have hxl : x.length ≤ 40000 := Nat.le_trans hwf.2 (by decide)
    cases hc : chn s.1 x with
    | none =>
      refine q_asg (ev_chain0 (ev_var rfl) (ev_val (K := K) (i := 0) (ev_var rfl) (e13 _ _ hv) rfl) (g.mono e13) ww few sh4 hwf.1 hxl hc) fun H4 e4 => ?_
      refine s_ret (v := S noneW) (ev_ifT (et_is (et_test (ev_isN (ev_var rfl))) rfl) ev_c) fun H5 e5 => ?_
      have : Q (S (ctx (chn s.1 x))) H5 := q H5 ((e13.trans e4).trans e5)
      rw [hc] at this
      exact this
    | some l =>
      refine q_asgU (eu_chain (ev_var rfl) (ev_val (K := K) (i := 0) (ev_var rfl) (e13 _ _ hv) rfl) (g.mono e13) ww few sh4 hwf.1 hxl hc) fun t H4 ht e4 h4 => ?_
      refine s_ret (v := S (TL.joinL [32] l)) (ev_ifF (et_is (et_test (ev_isN (ev_var rfl))) rfl) (ev_joinV (y := [32]) ev_c (ev_var rfl) (.inr (st_of h4)) (chain_size ww sh hwf.1 hwf.2 hc))) fun H5 e5 => ?_
      have : Q (S (ctx (chn s.1 x))) H5 := q H5 ((e13.trans e4).trans e5)
      rw [hc] at this
      exact this
  | .two .seen x y, hd, hwf, hv, q, tups, wordT =>
    refine q_when (et_is (tups _) (b := false) rfl) (fun z => nomatch z) fun _ H1 e1 => ?_
    refine q_when (et_is (wordT _ _) (b := false) rfl) (fun z => nomatch z) fun _ H2 e2 => ?_
    refine q_when (et_is (wordT _ _) (b := false) rfl) (fun z => nomatch z) fun _ H3 e3 => ?_
    refine q_when (et_is (wordT _ _) (b := true) rfl) (fun _ H4 e4 => ?_) (fun z => nomatch z)
    have e14 := ((e1.trans e2).trans e3).trans e4
    have h1 := hwf.2.1
    have h2 := hwf.2.2.2
    exact s_ret (v := S (sn x y)) (ev_s2 (ev_val (i := 0) (ev_var rfl) (e14 _ _ hv) rfl) (ev_val (i := 1) (ev_var rfl) (e14 _ _ hv) rfl) ⟨by omega, by omega⟩) fun H5 e5 => q H5 (e14.trans e5)
  | .two .between x y, hd, hwf, hv, q, tups, wordT =>
    refine q_when (et_is (tups _) (b := false) rfl) (fun z => nomatch z) fun _ H1 e1 => ?_
    refine q_when (et_is (wordT _ _) (b := false) rfl) (fun z => nomatch z) fun _ H2 e2 => ?_
    refine q_when (et_is (wordT _ _) (b := false) rfl) (fun z => nomatch z) fun _ H3 e3 => ?_
    refine q_when (et_is (wordT _ _) (b := false) rfl) (fun z => nomatch z) fun _ H4 e4 => ?_
    refine q_when (et_is (wordT _ _) (b := true) rfl) (fun _ H5 e5 => ?_) (fun z => nomatch z)
    have e15 := (((e1.trans e2).trans e3).trans e4).trans e5
    have h1 := hwf.2.1
    have h2 := hwf.2.2.2
    refine q_asg (v := optS (mbt x y)) (ev_ok (ea_cons (ev_val (i := 0) (ev_var rfl) (e15 _ _ hv) rfl) (ea_cons (ev_val (i := 1) (ev_var rfl) (e15 _ _ hv) rfl) ea_nil)) fun H6 Q _ q => ⟨x, y, rfl, hwf.1.2.1, by omega, by omega, q⟩) fun H6 e6 => ?_
    refine s_ret (v := S (otx (mbt x y))) (ev_if (et_test (ev_isN (ev_var rfl))) (fun hb => ?_) fun hb => ?_) fun H7 e7 => q H7 ((e15.trans e6).trans e7)
    · rw [dec_optS] at hb
      cases hm : mbt x y with
      | none => exact ev_c
      | some m => rw [hm] at hb; cases hb
    · rw [dec_optS] at hb
      cases hm : mbt x y with
      | none => rw [hm] at hb; cases hb
      | some m => exact ev_var rfl
  | .path x y, hd, hwf, hv, q, tups, wordT =>
    refine q_when (et_is (tups _) (b := false) rfl) (fun z => nomatch z) fun _ H1 e1 => ?_
    refine q_when (et_is (wordT _ _) (b := false) rfl) (fun z => nomatch z) fun _ H2 e2 => ?_
    refine q_when (et_is (wordT _ _) (b := false) rfl) (fun z => nomatch z) fun _ H3 e3 => ?_
    refine q_when (et_is (wordT _ _) (b := false) rfl) (fun z => nomatch z) fun _ H4 e4 => ?_
    refine q_when (et_is (wordT _ _) (b := false) rfl) (fun z => nomatch z) fun _ H5 e5 => ?_
    refine q_when (et_is (wordT _ _) (b := true) rfl) (fun _ H6 e6 => ?_) (fun z => nomatch z)
    have e16 := ((((e1.trans e2).trans e3).trans e4).trans e5).trans e6
    have h1 := hwf.2.1
    have h2 := hwf.2.2.2
    refine q_asg (v := S (pth x y)) (ev_s2 (ev_val (i := 0) (ev_var rfl) (e16 _ _ hv) rfl) (ev_val (i := 1) (ev_var rfl) (e16 _ _ hv) rfl) ⟨by omega, by omega⟩) fun H7 e7 => ?_
    refine s_ret (v := S (rowt (pth x y))) (ev_if (et_test (ev_eqS (a := pth x y) (b := []) (ev_var rfl) ev_c)) (fun hb => ?_) fun hb => ?_) fun H8 e8 => q H8 ((e16.trans e7).trans e8)
    · have : rowt (pth x y) = [45] := if_pos (of_decide_eq_true hb)
      rw [this]
      exact ev_c
    · have : rowt (pth x y) = pth x y := if_neg (of_decide_eq_false hb)
      rw [this]
      exact ev_var rfl
  | .within l, hd, hwf, hv, q, tups, wordT =>
    refine q_when (et_is (tups _) (b := false) rfl) (fun z => nomatch z) fun _ H1 e1 => ?_
    refine q_when (et_is (wordT _ _) (b := false) rfl) (fun z => nomatch z) fun _ H2 e2 => ?_
    refine q_when (et_is (wordT _ _) (b := false) rfl) (fun z => nomatch z) fun _ H3 e3 => ?_
    refine q_when (et_is (wordT _ _) (b := false) rfl) (fun z => nomatch z) fun _ H4 e4 => ?_
    refine q_when (et_is (wordT _ _) (b := false) rfl) (fun z => nomatch z) fun _ H5 e5 => ?_
    refine q_when (et_is (wordT _ _) (b := false) rfl) (fun z => nomatch z) fun _ H6 e6 => ?_
    refine q_when (et_is (wordT _ _) (b := false) rfl) (fun z => nomatch z) fun _ H7 e7 => ?_
    refine q_when (et_is (wordT _ _) (b := false) rfl) (fun z => nomatch z) fun _ H8 e8 => ?_
    have e18 := ((((((e1.trans e2).trans e3).trans e4).trans e5).trans e6).trans e7).trans e8
    obtain ⟨t, hv1, hv2⟩ := hv
    refine s_ret (ev_ok (v := S (yn (wi s.1 l))) (ea_cons (ev_okQ2 (K := K) (v := .bl (wi s.1 l)) (eq_ways (K := K) (ev_var rfl) (g.mono e18)) (fun H9 e9 => eq_v (ev_val (i := 0) (ev_var rfl) (e9 _ _ (e18 _ _ hv1)) rfl) (st_of (e9 _ _ (e18 _ _ hv2)))) fun p1 b1 H9 Q e9 hp1 hb1 q => ⟨p1, b1, s.1, l, rfl, hp1, ww, few, sh4, hb1, hwf.1, hwf.2.2.1, hwf.2.2.2.mono (by decide), q⟩) ea_nil) fun H9 Q _ q => ⟨_, rfl, q⟩) fun H9 e9 => q H9 (e18.trans e9)
end
end Mir
/-! part W12 -/
set_option Elab.async false
set_option linter.all false
set_option maxRecDepth 100000
set_option maxHeartbeats 4000000
/-! The walk: the desk's answers. -/
namespace Mir
open PySem PySem.Spec PyProof.Rows L2 Evl
def g0 : GS := ([], [])
def linesOf (rs : List Req) : W := TL.joinL [10] (rs.map Req.line)
abbrev sp_answers : Sp := fun vs H Q _ => ∃ rs : List Req, vs = [S (linesOf rs)] ∧ rs ≠ [] ∧ rs.length ≤ 63 ∧ (∀ r ∈ rs, r.wf) ∧ Rl (Ss (run rs g0)) H Q
/-- requests, each a word and its values -/
def ReqsAt (H : Hp) : List Addr → List Req → Prop
  | [], [] => True
  | t :: ts, r :: rs => (∃ v, H t = some (.tup [S r.word, .ref v]) ∧ ValAt H v r) ∧ ReqsAt H ts rs
  | _, _ => False
theorem ReqsAt.mono {H H1 : Hp} (k : ∀ t xs, H t = some (.tup xs) → H1 t = some (.tup xs)) : ∀ {ts : List Addr} {rs : List Req}, ReqsAt H ts rs → ReqsAt H1 ts rs
  | [], [], _ => trivial
  | t :: ts, r :: rs, ⟨⟨v, h1, h2⟩, h3⟩ => ⟨⟨v, k _ _ h1, h2.mono k⟩, ReqsAt.mono k h3⟩
theorem ReqsAt.snoc {H : Hp} {t v : Addr} {r : Req} (ht : H t = some (.tup [S r.word, .ref v])) (hv : ValAt H v r) : ∀ {ts : List Addr} {rs : List Req}, ReqsAt H ts rs → ReqsAt H (ts ++ [t]) (rs ++ [r])
  | [], [], _ => ⟨⟨v, ht, hv⟩, trivial⟩
  | t :: ts, r :: rs, h => ⟨h.1, ReqsAt.snoc ht hv h.2⟩
theorem ReqsAt.len {H : Hp} : ∀ {ts : List Addr} {rs : List Req}, ReqsAt H ts rs → ts.length = rs.length
  | [], [], _ => rfl
  | t :: ts, r :: rs, h => congrArg Nat.succ (ReqsAt.len h.2)
theorem ReqsAt.at {H : Hp} : ∀ {ts : List Addr} {rs : List Req} {i : Nat} {t : Addr}, ReqsAt H ts rs → ts[i]? = some t → ∃ r v, rs[i]? = some r ∧ H t = some (.tup [S r.word, .ref v]) ∧ ValAt H v r
  | t :: ts, r :: rs, 0, t', h, e => by
    obtain rfl : t = t' := Option.some.inj e
    obtain ⟨v, h1, h2⟩ := h.1
    exact ⟨r, v, rfl, h1, h2⟩
  | t :: ts, r :: rs, i + 1, t', h, e => ReqsAt.at (i := i) h.2 e
  | [], [], i, t', _, e => by simp at e
theorem isDeed_word (r : Req) : decide (r.word ∈ [[104, 97, 110, 103], [116, 97, 107, 101], [108, 111, 111, 107], [116, 105, 100, 121], [117, 110, 100, 111]]) = isDeed r := by
  match r with
  | .bare k => cases k <;> rfl
  | .one k _ => cases k <;> rfl
  | .two k _ _ => cases k <;> rfl
  | .path _ _ => rfl
  | .within _ => rfl
section
variable {K : PySem.W.Frag} {σ : L2.St} {H : Hp} {ta tb te : TE} {C a dx p : Addr}
theorem ev_ixU {xs : List V} {i : Nat} {v : V} (ha : EvU ta σ H xs) (hx : xs[i]? = some v) : Ev (tOp (rIxT K) ta (tC (.int (i : Int)))) σ H v := fun H1 e Q q => ha H1 e _ fun p H2 hp e2 h2 => ⟨p, xs, (i : Int), v, rfl, rfl, st_of h2, atI_nat hx, q H2 e2⟩
theorem ex_keep {H H1 H2 : Hp} (e : Ex H H1) (k : Keep a p H1 H2) (ha : H a = none) (hp : H p = none) : Ex H H2 := fun b o h => k b o (fun z => by rw [z, ha] at h; cases h) (fun z => by rw [z, hp] at h; cases h) (e b o h)
/-- a list is grown: tuples stay -/
theorem tup_grow {l : Addr} {xs ys : List V} (hl : H l = some (.lst xs)) (t : Addr) (zs : List V) (h : H t = some (.tup zs)) : (upd H l (.lst ys)) t = some (.tup zs) := by
  rw [upd_ne (fun z => by rw [z, hl] at h; cases h)]
  exact h
theorem gat_grow {l : Addr} {xs ys : List V} {ws : List W} {past : List (List W)} (g : GAt C H a dx p ws past) (hl : H l = some (.lst xs)) (hlp : l ≠ p) : GAt C (upd H l (.lst ys)) a dx p ws past := by
  obtain ⟨t, ts, hs, ht, hp, hts⟩ := g.sl
  have h2 := Slt.two hs
  refine ⟨g.ne, g.pne, t, ts, .inr ⟨?_, ?_⟩, tup_grow hl _ _ ht, ?_, hts.mono (tup_grow hl)⟩
  · rw [upd_ne (fun z => by rw [← z, h2.1] at hl; cases hl)]
    exact h2.1
  · rw [upd_ne (fun z => by rw [← z, h2.2] at hl; cases hl)]
    exact h2.2
  · rw [upd_ne (Ne.symm hlp)]
    exact hp
end
theorem lines_ne {rs : List Req} (h : rs ≠ []) : linesOf rs ≠ [] := by
  cases rs with
  | nil => exact absurd rfl h
  | cons r rs =>
    intro z
    have e := joinL_head (y := [10]) (t := rs.map Req.line) (line_ne r)
    have z' : TL.joinL [10] (r.line :: rs.map Req.line) = [] := z
    rw [z'] at e
    cases hl : r.line with
    | nil => exact line_ne r hl
    | cons c t =>
      rw [hl] at e
      cases e
theorem lines_len {rs : List Req} (h : ∀ r ∈ rs, r.wf) (hl : rs.length ≤ 63) : (linesOf rs).length ≤ 1000000 := by
  have h1 := joinL_len [10] (rs.map Req.line)
  have h2 := tot_le (n := 4400) (l := rs.map Req.line) fun w hw => by
    obtain ⟨r, hr, rfl⟩ := List.mem_map.mp hw
    exact (line_free (h r hr)).2
  rw [List.length_map] at h1 h2
  have h3 : ([10] : W).length = 1 := rfl
  rw [h3] at h1
  unfold linesOf
  omega
section
variable {P : Program} {w : World} {K : PySem.W.Frag} {mg : Str → Option Value} {base : Heap} {C : Addr}
theorem sc_answers : FnScope ["text", "requests", "gallery", "found", "number", "line", "values", "word", "is_deed"] ["text"] (defScope (top 73)) := ⟨rfl, rfl, rfl, by decide +kernel, rfl, by decide +kernel, by decide +kernel⟩
theorem ok_answers (B : Bu mg) (T : Cst K mg) (GF : Gal K mg C) (N_Gallery : Ngal P w K mg base C) (O_values_in : Ok P w K mg base CX0 6 "values_in" sp_values_in) (O_deed_of : Ok P w K mg base CX0 8 "deed_of" (sp_deed_of C)) (O_told_of : Ok P w K mg base CX0 9 "told_of" (sp_told_of C)) (D : Dn K mg "answers" 73) : Ok P w K mg base CX0 10 "answers" sp_answers := by
  refine D.ok sc_answers (fun _ _ _ _ _ _ us hl => match us, hl with | [_], _ => rfl) (by rintro vs H Q E ⟨r, rfl, _⟩; rfl) fun f cdv A outer s H vs Q E hr h => ⟨_, (pss_cons (ps_par3 (i := 1) (j := 2) (l := 3) rfl sc_answers.nd rfl rfl rfl (by decide) (by decide) (by decide) rfl rfl rfl (pa_cons (pe_lst pa_nil) (pa_cons (pe_gal N_Gallery hr rfl GF.gC) (pa_cons (pe_lst pa_nil) pa_nil))) (by rfl))
    (pss_cons (ps_if (pt_cmpR op_eq (pv 0) (pe_st (l := [])) (nomark _))
      (pss_one (ps_ret (pv 3)))
      pss_nil)
    (pss_cons (ps_for PassesOwn.never rfl (pi_enum (by rfl) B.enumerate (pa_cons (pe_split (pv 0) (pe_st (l := [10]))) pa_nil)) (pg_tup rfl (pgs_cons (pg_name (i := 4) sc_answers.nd rfl (.inl rfl)) (pgs_cons (pg_name (i := 5) sc_answers.nd rfl (.inl rfl)) pgs_nil)))
      (pss_cons (ps_set (i := 6) sc_answers.nd rfl (.inl rfl) (pe_ok O_values_in hr rfl pass0 (pa_cons (pv 5) pa_nil)))
      (pss_cons (ps_if (pt_cmpR op_isN (pv 6) pe_non (nomark _))
        (pss_one ps_never)
        pss_nil)
      (pss_one (ps_expr (pe_bm PySem.F.plainAttrs_list PySem.F.slot_list_append PySem.F.type_list_append mt_append (pv 1) (pa_cons (pe_tup (pa_cons (pe_ix ix_tup (pe_partition (pv 5) (pe_gs (by rfl) T.BLANK)) pe_int (fun _ _ => rfl)) (pa_cons (pv 6) pa_nil))) pa_nil)))))))
    (pss_cons (ps_for PassesOwn.never rfl (pi_list (pv 1)) (pg_tup rfl (pgs_cons (pg_name (i := 7) sc_answers.nd rfl (.inl rfl)) (pgs_cons (pg_name (i := 6) sc_answers.nd rfl (.inl rfl)) pgs_nil)))
      (pss_cons (ps_set (i := 8) sc_answers.nd rfl (.inl rfl) (pe_cmpR op_in_seq (pv 7) (pe_tup (pa_cons (pe_st (l := [104, 97, 110, 103])) (pa_cons (pe_st (l := [116, 97, 107, 101])) (pa_cons (pe_st (l := [108, 111, 111, 107])) (pa_cons (pe_st (l := [116, 105, 100, 121])) (pa_cons (pe_st (l := [117, 110, 100, 111])) pa_nil)))))) (by rfl)))
      (pss_one (ps_expr (pe_bm PySem.F.plainAttrs_list PySem.F.slot_list_append PySem.F.type_list_append mt_append (pv 3) (pa_cons (pe_ifExp (pt_val (pv 8)) (pe_ok O_deed_of hr rfl pass0 (pa_cons (pv 2) (pa_cons (pv 7) (pa_cons (pv 6) pa_nil)))) (pe_ok O_told_of hr rfl pass0 (pa_cons (pv 2) (pa_cons (pv 7) (pa_cons (pv 6) pa_nil))))) pa_nil))))))
    (pss_one (ps_ret (pv 3))))))), ?_⟩
  obtain ⟨rs, rfl, hne, hlen, hwf, q⟩ := h
  have hz := lines_len hwf hlen
  refine ⟨Nat.zero_le _, fun R hR => fun a dx p G0 eG ha hdx hp g => ⟨Nat.zero_le _, fun F hF => ⟨_, _, _, rfl, ?_⟩⟩⟩
  -- where things stand
  have hR0 : G0 R = some (.lst []) := eG _ _ upd_same
  have hRF : R ≠ F := ne_of_none hR0 hF
  have hRp : R ≠ p := ne_of_none upd_same hp
  obtain ⟨t0, ts0, _, _, hp0, _⟩ := g.sl
  have hFp : F ≠ p := Ne.symm (ne_of_none hp0 hF)
  have eH : Ex H G0 := (Ex.new hR).trans eG
  have hH : ∀ {b}, (upd H R (.lst [])) b = none → H b = none := fun {b} h => fresh_back (Ex.new hR) h
  have g1 : GAt C (upd G0 F (.lst [])) a dx p [] [] := g.mono (Ex.new hF)
  have eH1 : Ex H (upd G0 F (.lst [])) := eH.trans (Ex.new hF)
  have hR1 : (upd G0 F (.lst [])) R = some (.lst []) := by
    rw [upd_ne hRF]
    exact hR0
  have hF1 : (upd G0 F (.lst [])) F = some (.lst []) := upd_same
  generalize upd G0 F (.lst []) = G1 at g1 eH1 hR1 hF1
  refine q_when (et_is (b := false) (et_test (ev_eqS (a := linesOf rs) (b := []) (ev_var rfl) ev_c)) (decide_eq_false (lines_ne hne))) (fun z => nomatch z) fun _ G2 e2 => ?_
  have hsplit : EvL (tM1 rSplit (tVar 0) (tC (S [10]))) [some (S (linesOf rs)), some (.ref R), some (.ref a), some (.ref F), none, none, none, none, none] G2 (Ss (rs.map Req.line)) :=
    el_split (y := [10]) (s := 10) (S' := []) (ev_var rfl) ev_c rfl rfl (fun z => hne (List.map_eq_nil_iff.mp z)) (fun l hl => by
      obtain ⟨r, hr, rfl⟩ := List.mem_map.mp hl
      exact (line_free (hwf r hr)).1) hz
  refine hsplit G2 (Ex.refl G2) _ fun L G3 hL e3 hx3 => ⟨L, Ss (rs.map Req.line), rfl, sq_of hx3, for_it (walk_enum (K := K) (xs := Ss (rs.map Req.line))) (fun i σ H' => ∃ refs y4 y5 y6 y7 y8, σ = [some (S (linesOf rs)), some (.ref R), some (.ref a), some (.ref F), y4, y5, y6, y7, y8] ∧ H' L = some (.lst (Ss (rs.map Req.line))) ∧ H' R = some (.lst (refs.map V.ref)) ∧ ReqsAt H' refs (rs.take i) ∧
    GAt C H' a dx p [] [] ∧ H' F = some (.lst []) ∧ Ex H H') ?_ (fun i σ H' _ h => ?_) (fun i x σ H' H'' hi h y => ?_) fun σ H' h => ?_⟩
  · exact ⟨[], none, none, none, none, none, rfl, hx3, e3 _ _ (e2 _ _ hR1), trivial, g1.mono (e2.trans e3), e3 _ _ (e2 _ _ hF1), (eH1.trans e2).trans e3⟩
  · obtain ⟨_, _, _, _, _, _, _, h, _⟩ := h
    exact sq_of h
  · obtain ⟨refs, y4, y5, y6, y7, y8, rfl, hLl, hRl, hrq, gg, hFl, eE⟩ := h
    obtain ⟨T, x1, x2, rfl, hT, rfl, hx1, hx2⟩ := y
    have hx2 : (Ss (rs.map Req.line))[i]? = some x2 := hx2
    rw [List.getElem?_map, List.getElem?_map] at hx2
    obtain ⟨l, hl, rfl⟩ := Option.map_eq_some_iff.mp hx2
    obtain ⟨r, hr', rfl⟩ := Option.map_eq_some_iff.mp hl
    have hrm := hwf r (List.mem_of_getElem? hr')
    have hlf := line_free hrm
    have eT : Ex H' (upd H' T (.tup [x1, S r.line])) := Ex.new hT
    refine ⟨T, [x1, S r.line], rfl, st_of upd_same, rfl, x1, [S r.line], rfl, S r.line, [], rfl, rfl, ?_⟩
    refine ⟨S r.line, rfl, r, rfl, hrm, fun v H2 e4 hv => ?_⟩
    refine q_when (et_is (b := false) (et_test (ev_isN (x := .ref v) (ev_var rfl))) rfl) (fun z => nomatch z) fun _ H3 e5 => ?_
    have e45 := (eT.trans e4).trans e5
    have hRl3 := e45 _ _ hRl
    have hlr := hrq.len
    have hrl : refs.length ≤ 63 := by
      rw [hlr, List.length_take]
      omega
    refine s_appU (l := R) (xs := refs.map V.ref) (ys := [S r.word, .ref v]) hRl3 (ev_var rfl) (eu_tup (ea_cons (ev_ixU (i := 0) (eu_part (r := r) (ev_var rfl) ev_c (by omega)) rfl) (ea_cons (ev_var rfl) ea_nil)) (by show 2 ≤ 100000; decide)) (by rw [List.length_map]; omega) fun t H4 ht e6 h4 => ?_
    have e46 := e45.trans e6
    have hRl4 := e46 _ _ hRl
    have hLR : L ≠ R := fun z => by
      rw [z] at hL
      have := e2 _ _ hR1
      rw [hL] at this
      cases this
    have grow := fun t zs h => tup_grow (ys := refs.map V.ref ++ [.ref t]) hRl4 t zs h
    refine ⟨refs ++ [t], _, _, _, _, _, rfl, ?_, ?_, ?_, gat_grow (gg.mono e46) hRl4 hRp, ?_, ?_⟩
    · rw [upd_ne hLR]
      exact e46 _ _ hLl
    · rw [upd_same, List.map_append]
      rfl
    · rw [take_snoc hr']
      have h1 : ReqsAt (upd H4 R (.lst (refs.map V.ref ++ [.ref t]))) refs (rs.take i) := hrq.mono fun t' zs h => tup_grow hRl4 t' zs (e46 _ _ h)
      exact h1.snoc (v := v) (tup_grow hRl4 _ _ h4) ((hv.mono fun t' zs h => tup_grow hRl4 t' zs (e6 _ _ (e5 _ _ h))))
    · rw [upd_ne (Ne.symm hRF)]
      exact e46 _ _ hFl
    · exact Ex.mut (eE.trans e46) hR
  · obtain ⟨refs, y4, y5, y6, y7, y8, rfl, hLl, hRl, hrq, gg, hFl, eE⟩ := h
    rw [List.length_map, List.length_map, List.take_length] at hrq
    have hlr := hrq.len
    refine q_forL (K := K) (a := R) (xs := refs.map V.ref) (ev_var rfl) (sq_of hRl) (fun i σ H2 => ∃ y4 y5 y6 y7 y8, σ = [some (S (linesOf rs)), some (.ref R), some (.ref a), some (.ref F), y4, y5, y6, y7, y8] ∧ H2 R = some (.lst (refs.map V.ref)) ∧ ReqsAt H2 refs rs ∧ GI i (after (rs.take i) g0) ∧
      GAt C H2 a dx p (after (rs.take i) g0).1 (after (rs.take i) g0).2 ∧ H2 F = some (.lst (Ss (run (rs.take i) g0))) ∧ Ex H H2) (fun H2 e2' => ⟨_, _, _, _, _, rfl, e2' _ _ hRl, hrq.mono (fun _ _ h => e2' _ _ h), .start, gg.mono e2', e2' _ _ hFl, eE.trans e2'⟩) (fun i σ H2 _ h => ?_) (fun i x σ H2 hx h => ?_) fun σ H2 h => ?_
    · obtain ⟨_, _, _, _, _, _, h, _⟩ := h
      exact sq_of h
    · obtain ⟨y4, y5, y6, y7, y8, rfl, hR2, hrq2, gi, gg2, hF2, eE2⟩ := h
      rw [List.getElem?_map] at hx
      obtain ⟨t, ht, rfl⟩ := Option.map_eq_some_iff.mp hx
      obtain ⟨r, v, hr', ht2, hv⟩ := hrq2.at ht
      have hrm := hwf r (List.mem_of_getElem? hr')
      have hi : i < rs.length := (List.getElem?_eq_some_iff.mp hr').1
      refine ⟨t, [S r.word, .ref v], rfl, st_of ht2, rfl, S r.word, [.ref v], rfl, .ref v, [], rfl, rfl, ?_⟩
      refine q_asg (v := .bl (isDeed r)) (ev_is (ev_inUs (a := r.word) (l := [[104, 97, 110, 103], [116, 97, 107, 101], [108, 111, 111, 107], [116, 105, 100, 121], [117, 110, 100, 111]]) (ev_var rfl) (eu_tup (ea_cons ev_c (ea_cons ev_c (ea_cons ev_c (ea_cons ev_c (ea_cons ev_c ea_nil))))) (by show 5 ≤ 100000; decide))) (by rw [isDeed_word])) fun H3 e3' => ?_
      have hst : run (rs.take (i + 1)) g0 = run (rs.take i) g0 ++ [(step r (after (rs.take i) g0)).2] := by
        rw [take_snoc hr', run_app]
        rfl
      have haf : after (rs.take (i + 1)) g0 = (step r (after (rs.take i) g0)).1 := by
        rw [take_snoc hr', after_app]
        rfl
      have gi' := gi.step hrm
      have hrlen : (run (rs.take i) g0).length ≤ 63 := by
        rw [run_len, List.length_take]
        omega
      have fin : ∀ H4, Keep a p H3 H4 → GAt C H4 a dx p (step r (after (rs.take i) g0)).1.1 (step r (after (rs.take i) g0)).1.2 → ∀ D : Ends, (∀ σ' H', (∃ y4 y5 y6 y7 y8, σ' = [some (S (linesOf rs)), some (.ref R), some (.ref a), some (.ref F), y4, y5, y6, y7, y8] ∧ H' R = some (.lst (refs.map V.ref)) ∧ ReqsAt H' refs rs ∧ GI (i + 1) (after (rs.take (i + 1)) g0) ∧
          GAt C H' a dx p (after (rs.take (i + 1)) g0).1 (after (rs.take (i + 1)) g0).2 ∧ H' F = some (.lst (Ss (run (rs.take (i + 1)) g0))) ∧ Ex H H') → D.nx σ' H') → ∀ y7 y8, 
          rAppend (.ref F) [S (step r (after (rs.take i) g0)).2] H4 fun _ H5 => D.nx [some (S (linesOf rs)), some (.ref R), some (.ref a), some (.ref F), y4, y5, some (.ref v), y7, y8] H5 := by
        intro H4 k4 g4 D hD y7 y8
        have gb := gg2.mono e3'
        have hF4 : H4 F = some (.lst (Ss (run (rs.take i) g0))) := k4.lst gb hFp (e3' _ _ hF2)
        have hR4 : H4 R = some (.lst (refs.map V.ref)) := k4.lst gb hRp (e3' _ _ hR2)
        refine ⟨F, Ss (run (rs.take i) g0), S (step r (after (rs.take i) g0)).2, rfl, rfl, hF4, ?_, hD _ _ ⟨_, _, _, _, _, rfl, ?_, ?_, ?_, ?_, ?_, ?_⟩⟩
        · rw [List.length_map]
          exact bigLt (by omega)
        · rw [upd_ne hRF]
          exact hR4
        · exact hrq2.mono fun t zs h => tup_grow hF4 t zs (k4.tup gb (e3' _ _ h))
        · rw [haf]
          exact gi'
        · rw [haf]
          exact gat_grow g4 hF4 hFp
        · rw [upd_same, hst]
          unfold Ss
          rw [List.map_append]
          rfl
        · exact Ex.mut (ex_keep (eE2.trans e3') k4 (hH ha) (hH hp)) (hH (fresh_back eG hF))
      have hF3 := e3' _ _ hF2
      refine ⟨.ref F, rfl, .inl ⟨rfl, _, sq_of hF3⟩, .bl (isDeed r), rfl, isDeed r, rfl, ?_⟩
      cases hd : isDeed r with
      | true =>
        have hs1 : step r (after (rs.take i) g0) = deed r (after (rs.take i) g0) := if_pos hd
        rw [hs1] at fin
        refine iteT ⟨.ref a, rfl, S r.word, rfl, .ref v, rfl, r, a, dx, p, v, after (rs.take i) g0, i, rfl, hd, hrm, hv.mono (fun _ _ h => e3' _ _ h), gi, by omega, gg2.mono e3', fun H4 k4 g4 => ?_⟩
        exact fin H4 k4 g4 _ (fun _ _ h => h) _ _
      | false =>
        have hs1 : step r (after (rs.take i) g0) = (after (rs.take i) g0, told r (after (rs.take i) g0).1) := if_neg (by rw [hd]; decide)
        rw [hs1] at fin
        refine iteF ⟨.ref a, rfl, S r.word, rfl, .ref v, rfl, r, a, dx, p, v, after (rs.take i) g0, i, rfl, hd, hrm, hv.mono (fun _ _ h => e3' _ _ h), gi, by omega, gg2.mono e3', fun H4 e4 => ?_⟩
        exact fin H4 (.of e4) (gg2.mono (e3'.trans e4)) _ (fun _ _ h => h) _ _
    · obtain ⟨y4, y5, y6, y7, y8, rfl, hR2, hrq2, gi, gg2, hF2, eE2⟩ := h
      rw [List.length_map, hlr, List.take_length] at hF2
      exact s_ret (ev_var rfl) fun H3 e3' => q F H3 (hH (fresh_back eG hF)) (eE2.trans e3') (e3' _ _ hF2)
end
end Mir
/-! part RulL -/
set_option Elab.async false
set_option linter.all false
set_option maxRecDepth 100000
set_option maxHeartbeats 4000000
/-! list(text). -/
namespace Mir
open PySem PySem.Spec PyProof.Rows L2 Evl
/-- the letters of a text -/
def lets (a : W) : List W := a.map fun c => [c]
section
variable {X : Cx}
def rListStr : List V → Hp → VK → Prop := fun xs H Q => ∃ a : W, xs = [S a] ∧ a.length ≤ 1000000 ∧ ∀ l, H l = none → Q (.ref l) (upd H l (.lst (Ss (lets a))))
theorem vals_letters {a : W} {acc : Array Value} (h : ItemsOf (SignAt (ST a)) acc (ST a).cps.size) : Vals (Ss (lets a)) acc.toList := by
  obtain ⟨hs, hi⟩ := h
  rw [ST_size] at hs
  have key : ∀ (n : Nat) (l : W) (us : List Value), l.length = us.length → l.length = n → (∀ (j : Nat) (v : Value), us[j]? = some v → ∃ (c : Nat) (u : Tok), (l : List Nat)[j]? = some c ∧ v = Value.str ⟨#[c]⟩ u) → Vals (Ss (lets l)) us := by
    intro n
    induction n with
    | zero =>
      intro l us h1 h2 _
      have e1 : l = [] := List.length_eq_zero_iff.mp h2
      subst e1
      have e2 : us = [] := List.length_eq_zero_iff.mp h1.symm
      subst e2
      exact .nil
    | succ n ih =>
      intro l us h1 h2 h3
      cases l with
      | nil => cases h2
      | cons c t =>
        cases us with
        | nil => cases h1
        | cons v vs =>
          obtain ⟨c', u, e1, e2⟩ := h3 0 v rfl
          obtain rfl : c = c' := Option.some.inj e1
          subst e2
          exact .cons ⟨u, rfl⟩ (ih t vs (Nat.succ.inj h1) (Nat.succ.inj h2) fun j v hv => h3 (j + 1) v hv)
  refine key _ a acc.toList (hs.symm.trans Array.length_toList.symm) rfl fun j v hv => ?_
  obtain ⟨c, u, e1, e2⟩ := hi j v (by simpa using hv)
  exact ⟨c, u, by simpa using e1, e2⟩
theorem call_list_S (hc : X.calm = true) : CallR X (.type "list") rListStr := by
  intro pins s σ H xs us Q I r h
  obtain ⟨a, rfl, hz, q⟩ := h
  obtain ⟨u, rfl, t, rfl⟩ := vals1 r
  refine call_list_str (I.ok.hd hc) (ST a) t (fun h' tk acc c k e hi => ?_) (by rw [ST_size]; exact big hz)
  have hv := vals_letters hi
  have hl : (Ss (lets a)).length ≤ sizeLine := by
    unfold lets Ss
    rw [List.length_map, List.length_map]
    exact big hz
  exact ⟨.ref s.heap.objs.size, _, I.laid (o := .lst (Ss (lets a))) (t' := tk) k (Nat.le_refl _) ⟨hl, acc.toList, c, hv, e⟩, rfl, q _ (I.hok.fresh (Nat.le_refl _))⟩
end
section
variable {K : PySem.W.Frag} {σ : L2.St} {H : Hp} {te : TE}
theorem el_letters {a : W} (h : Ev te σ H (S a)) (hz : a.length ≤ 1000000) : EvL (tCB rListStr (tCons te tNil)) σ H (Ss (lets a)) := fun H1 e Q q => h H1 e _ fun H2 e2 =>
  ⟨a, rfl, hz, fun l hl => q l _ (fresh_back e2 hl) (e2.trans (Ex.new hl)) upd_same⟩
end
end Mir
/-! part L1 -/
set_option Elab.async false
set_option linter.all false
set_option maxRecDepth 100000
set_option maxHeartbeats 4000000
/-! The walk: the law's box of numbers. -/
namespace Mir
open PySem PySem.Spec PyProof.Rows L2 Evl
/-- the box at b: at most n numbers were drawn past its first -/
def BoxAt (H : Hp) (b : Addr) (n : Nat) : Prop := ∃ (i0 i1 : Int) (i2 : Nat), H b = some (.lst [.int i0, .int i1, .int (i2 : Int)]) ∧ 0 ≤ i1 ∧ i1 < 4611686018427387904 ∧ i2 ≤ n
/-- all but b stays -/
def Ko (b : Addr) (H H' : Hp) : Prop := ∀ a o, a ≠ b → H a = some o → H' a = some o
theorem Ko.refl (b : Addr) (H : Hp) : Ko b H H := fun _ _ _ h => h
theorem Ko.trans {b : Addr} {H H1 H2 : Hp} (x : Ko b H H1) (y : Ko b H1 H2) : Ko b H H2 := fun a o n h => y a o n (x a o n h)
theorem Ko.of {b : Addr} {H H1 : Hp} (x : Ex H H1) : Ko b H H1 := fun a o _ h => x a o h
theorem Ko.upd {b : Addr} {H : Hp} {o : HO} : Ko b H (upd H b o) := fun a x n h => by
  rw [upd_ne n]
  exact h
theorem BoxAt.mono {H H1 : Hp} {b : Addr} {n m : Nat} (h : BoxAt H b n) (e : Ex H H1) (l : n ≤ m) : BoxAt H1 b m := by
  obtain ⟨i0, i1, i2, h1, h2, h3, h4⟩ := h
  exact ⟨i0, i1, i2, e _ _ h1, h2, h3, by omega⟩
theorem BoxAt.some {H : Hp} {b : Addr} {n : Nat} (h : BoxAt H b n) : ∃ o, H b = some o := by
  obtain ⟨i0, i1, i2, h1, _⟩ := h
  exact ⟨_, h1⟩
theorem Ko.back {b a : Addr} {H H1 : Hp} {n : Nat} (k : Ko b H H1) (h : BoxAt H b n) (h1 : BoxAt H1 b n) (z : H1 a = none) : H a = none := by
  cases hx : H a with
  | none => rfl
  | some o =>
    by_cases e : a = b
    · obtain ⟨o', ho⟩ := h1.some
      rw [e, ho] at z
      cases z
    · rw [k a o e hx] at z
      cases z
section
variable {K : PySem.W.Frag} {σ : L2.St} {H H' : Hp} {ta tb te : TE}
abbrev rInt1 : List V → Hp → VK → Prop := fun xs H Q => (∃ i, xs = [.int i] ∧ Q (.int i) H) ∨ ∃ k, xs = [.bl k] ∧ Q (.int (if k then 1 else 0)) H
abbrev rAbs : List V → Hp → VK → Prop := fun xs H Q => ∃ i, xs = [.int i] ∧ Q (.int (if i < 0 then -i else i)) H
theorem ev_int1 {a : Int} (h : Ev te σ H (.int a)) : Ev (tCB rInt1 (tCons te tNil)) σ H (.int a) := ev_cb (ea_cons h ea_nil) fun H1 _ Q q => .inl ⟨a, rfl, q H1 (Ex.refl H1)⟩
theorem ev_intB {k : Bool} (h : Ev te σ H (.bl k)) : Ev (tCB rInt1 (tCons te tNil)) σ H (.int (if k then 1 else 0)) := ev_cb (ea_cons h ea_nil) fun H1 _ Q q => .inr ⟨k, rfl, q H1 (Ex.refl H1)⟩
theorem ev_abs {a : Int} (h : Ev te σ H (.int a)) : Ev (tCB rAbs (tCons te tNil)) σ H (.int (if a < 0 then -a else a)) := ev_cb (ea_cons h ea_nil) fun H1 _ Q q => ⟨a, rfl, q H1 (Ex.refl H1)⟩
theorem ev_mulI {a b : Int} (ha : Ev ta σ H (.int a)) (hb : Ev tb σ H (.int b)) (hc : (-(2 ^ 64) < a ∧ a < 2 ^ 64) ∨ (-(2 ^ 64) < b ∧ b < 2 ^ 64)) : Ev (tOp (rI CMul fun i j => .int (i * j)) ta tb) σ H (.int (a * b)) := ev_op ha hb (rv_I hc)
theorem ev_modI {a b : Int} (ha : Ev ta σ H (.int a)) (hb : Ev tb σ H (.int b)) (hc : 0 < b) : Ev (tOp (rI (fun _ j => 0 < j) fun i j => .int (i % j)) ta tb) σ H (.int (a % b)) := ev_op ha hb (rv_I hc)
theorem ev_divI {a b : Int} (ha : Ev ta σ H (.int a)) (hb : Ev tb σ H (.int b)) (hc : 0 < b ∧ b < 1073741824) : Ev (tOp (rI CDiv fun i j => .int (i / j)) ta tb) σ H (.int (a / b)) := ev_op ha hb (rv_I hc)
theorem ev_ixL {l : Addr} {xs : List V} {i : Nat} {v : V} (h : H l = some (.lst xs)) (ha : Ev ta σ H (.ref l)) (hb : Ev tb σ H (.int (i : Int))) (hx : xs[i]? = some v) : Ev (tOp (rIxL K) ta tb) σ H v := ev_op ha hb (rv_ixL (sq_of h) (atI_nat hx))
theorem el_listN {xs : List V} (h : EvL te σ H xs) : EvL (tCB (rListS K) (tCons te tNil)) σ H xs := fun H1 e Q q =>
  h H1 e _ fun p H2 hp e2 h2 => ⟨p, xs, rfl, Or.inl (sq_of h2), fun l hl => q l _ (fresh_back e2 hl) (e2.trans (Ex.new hl)) upd_same⟩
end
section
variable {P : Program} {w : World} {K : PySem.W.Frag} {mg : Str → Option Value} {base : Heap}
abbrev sp__law_box : Sp := fun vs H Q _ => ∃ (l : Addr) (zs : List Int) (k : Nat), vs = [.ref l, .int (k : Int)] ∧ H l = some (.lst (zs.map V.int)) ∧ k < zs.length ∧ zs.length ≤ 63 ∧ ∀ p H2, H p = none → Ex H H2 → BoxAt H2 p 0 → Q (.ref p) H2
abbrev sp__law_take : Sp := fun vs H Q _ => ∃ (b : Addr) (c m : Nat), vs = [.ref b, .int (m : Int)] ∧ 0 < m ∧ m ≤ 1000 ∧ BoxAt H b c ∧ c ≤ 100000 ∧ ∀ (v : Nat) H2, v < m → Ko b H H2 → BoxAt H2 b (c + 1) → Q (.int (v : Int)) H2
abbrev sp__law_cells (K : PySem.W.Frag) : Sp := fun vs H Q _ => ∃ (l : Addr) (zs : List Int), vs = [.ref l, .int 3] ∧ SqL K H l (zs.map V.int) ∧ zs.length ≤ 63 ∧ ∀ (ys : List Int) p H2, ys.length ≤ 3 → H p = none → Ex H H2 → H2 p = some (.lst (ys.map V.int)) → Q (.ref p) H2
abbrev sp__law_of : Sp := fun vs H Q _ => ∃ (b t : Addr) (c : Nat) (l : List W), vs = [.ref b, .ref t] ∧ t ≠ b ∧ (H t = some (.lst (Ss l)) ∨ H t = some (.tup (Ss l))) ∧ l ≠ [] ∧ l.length ≤ 100 ∧ BoxAt H b c ∧ c ≤ 100000 ∧ ∀ x H2, x ∈ l → Ko b H H2 → BoxAt H2 b (c + 1) → Q (S x) H2
theorem b2i (k : Bool) : -(2 ^ 64) < (if k = true then 1 else 0 : Int) ∧ (if k = true then 1 else 0 : Int) < 2 ^ 64 := by cases k <;> decide
theorem sc__law_box : FnScope ["_law_script", "_law_k", "_law_cell"] ["_law_script", "_law_k"] (defScope (top 75)) := ⟨rfl, rfl, rfl, by decide +kernel, rfl, by decide +kernel, by decide +kernel⟩
theorem ok__law_box (B : Bu mg) (T : Cst K mg)  (D : Dn K mg "_law_box" 75) : Ok P w K mg base CX0 1 "_law_box" sp__law_box := by
  refine D.ok sc__law_box (fun _ _ _ _ _ _ us hl => match us, hl with | [_, _], _ => rfl) (by rintro vs H Q E ⟨_, _, _, rfl, _⟩; rfl) fun f cdv A outer s H vs Q E hr h => ⟨_, (pss_cons (ps_set (i := 2) sc__law_box.nd rfl (.inl rfl) (pe_ifExp (pt_cmpR op_lt (pv 1) (pe_callB call_len_seq (by rfl) B.len PySem.boot_len (pa_cons (pv 0) pa_nil)) (nomark _)) (pe_ix ix_list (pv 0) (pv 1) (fun _ _ => rfl)) pe_int))
    (pss_one (ps_ret (pe_lst (pa_cons (pe_op op_mul (pe_callB call_abs (by rfl) B.abs (by decide +kernel) (pa_cons (pv 2) pa_nil)) (pe_callTy call_int1 (by rfl) B.int (by decide +kernel) (pa_cons (pe_cmpR op_ge (pe_callB call_abs (by rfl) B.abs (by decide +kernel) (pa_cons (pv 2) pa_nil)) (pe_op op_pow pe_int pe_int) (nomark _)) pa_nil))) (pa_cons (pe_op op_add (pe_op op_add (pe_op op_mod (pe_callTy call_int1 (by rfl) B.int (by decide +kernel) (pa_cons (pv 2) pa_nil)) pe_int) (pe_op op_mul pe_int (pv 1))) pe_int) (pa_cons pe_int pa_nil))))))), ?_⟩
  obtain ⟨l, zs, k, rfl, hl, hk, hz, q⟩ := h
  obtain ⟨z, hzk⟩ : ∃ z, zs[k]? = some z := ⟨_, List.getElem?_eq_getElem hk⟩
  have hx : (zs.map V.int)[k]? = some (V.int z) := by rw [List.getElem?_map, hzk]; rfl
  refine q_asg (v := .int z) (ev_if (b := true) (et_is (et_test (ev_ltI (ev_var rfl) (ev_len (ev_var rfl) (sq_of hl)))) (decide_eq_true (by rw [List.length_map]; omega))) (fun _ => ev_ixL hl (ev_var rfl) (ev_var rfl) hx) (fun z => nomatch z)) fun H1 e1 => ?_
  refine s_retL (el_lst (ea_cons (ev_mulI (ev_abs (ev_var rfl)) (ev_intB (ev_geI (ev_abs (ev_var rfl)) (ev_op ev_c ev_c (rv_I (show CPow 10 18 from ⟨by decide, by decide, by decide⟩))))) (.inr ?_)) (ea_cons (ev_addI (ev_addI (ev_modI (ev_int1 (ev_var rfl)) ev_c (by decide)) (ev_mulI ev_c (ev_var rfl) (.inl (by decide)))) ev_c) (ea_cons (x := .int ((0 : Nat) : Int)) ev_c ea_nil))) (by show 3 ≤ 100000; decide)) fun p H2 hp e2 h2 => q p H2 (fresh_back e1 hp) (e1.trans e2) ⟨_, _, 0, h2, ?_, ?_, Nat.le_refl _⟩
  · exact b2i _
  · have := Int.emod_nonneg z (show (2305843009213693951 : Int) ≠ 0 by decide)
    omega
  · have := Int.emod_lt_of_pos z (show (0 : Int) < 2305843009213693951 by decide)
    omega
theorem nat_of {x m : Int} (h : 0 < m) : ∃ v : Nat, x % m = (v : Int) ∧ (v : Int) < m := by
  have h1 := Int.emod_nonneg x (show m ≠ 0 by omega)
  have h2 := Int.emod_lt_of_pos x h
  exact ⟨(x % m).toNat, by omega, by omega⟩
theorem sc__law_take : FnScope ["_law_box_here", "_law_below", "_law_drawn", "_law_once_so", "_law_far", "_law_twice"] ["_law_box_here", "_law_below"] (defScope (top 76)) := ⟨rfl, rfl, rfl, by decide +kernel, rfl, by decide +kernel, by decide +kernel⟩
theorem ok__law_take (B : Bu mg) (T : Cst K mg)  (D : Dn K mg "_law_take" 76) : Ok P w K mg base CX0 1 "_law_take" sp__law_take := by
  refine D.ok sc__law_take (fun _ _ _ _ _ _ us hl => match us, hl with | [_, _], _ => rfl) (by rintro vs H Q E ⟨_, _, _, rfl, _⟩; rfl) fun f cdv A outer s H vs Q E hr h => ⟨_, (pss_cons (ps_if (pt_cmpR op_gt (pe_ix ix_list (pv 0) pe_int (fun _ _ => rfl)) pe_int (nomark _))
      (pss_cons (ps_set (i := 2) sc__law_take.nd rfl (.inl rfl) (pe_op op_mod (pe_callTy call_int1 (by rfl) B.int (by decide +kernel) (pa_cons (pe_ix ix_list (pv 0) pe_int (fun _ _ => rfl)) pa_nil)) (pv 1)))
      (pss_cons (ps_asg (pe_op op_fdiv (pe_ix ix_list (pv 0) pe_int (fun _ _ => rfl)) (pv 1)) (pg_sub (pv 0) pe_int set_list))
      (pss_one (ps_ret (pv 2)))))
      pss_nil)
    (pss_cons (ps_asg (pe_op op_add (pe_ix ix_list (pv 0) pe_int (fun _ _ => rfl)) pe_int) (pg_sub (pv 0) pe_int set_list))
    (pss_cons (ps_set (i := 3) sc__law_take.nd rfl (.inl rfl) (pe_op op_mod (pe_callTy call_int1 (by rfl) B.int (by decide +kernel) (pa_cons (pe_op op_mul (pe_op op_add (pe_ix ix_list (pv 0) pe_int (fun _ _ => rfl)) (pe_op op_mul pe_int (pe_ix ix_list (pv 0) pe_int (fun _ _ => rfl)))) (pe_op op_add pe_int (pe_ix ix_list (pv 0) pe_int (fun _ _ => rfl)))) pa_nil)) pe_int))
    (pss_cons (ps_set (i := 4) sc__law_take.nd rfl (.inl rfl) (pe_op op_add (pe_op op_mod (pe_callTy call_int1 (by rfl) B.int (by decide +kernel) (pa_cons (pv 3) pa_nil)) pe_int) pe_int))
    (pss_cons (ps_set (i := 5) sc__law_take.nd rfl (.inl rfl) (pe_op op_mod (pe_callTy call_int1 (by rfl) B.int (by decide +kernel) (pa_cons (pe_op op_mul (pe_op op_add (pe_op op_add (pv 3) (pe_ix ix_list (pv 0) pe_int (fun _ _ => rfl))) (pe_op op_fdiv (pe_ix ix_list (pv 0) pe_int (fun _ _ => rfl)) pe_int)) (pv 4)) pa_nil)) pe_int))
    (pss_one (ps_ret (pe_op op_mod (pe_callTy call_int1 (by rfl) B.int (by decide +kernel) (pa_cons (pe_op op_fdiv (pe_op op_mod (pe_callTy call_int1 (by rfl) B.int (by decide +kernel) (pa_cons (pe_op op_add (pe_op op_mul (pv 5) pe_int) (pv 3)) pa_nil)) pe_int) pe_int) pa_nil)) (pv 1))))))))), ?_⟩
  obtain ⟨b, c, m, rfl, hm, hm2, ⟨i0, i1, i2, hb, hp, hq, hc2⟩, hc, q⟩ := h
  have hmz : (0 : Int) < (m : Int) := by omega
  refine q_when (et_test (ev_op (ev_ixL (i := 0) hb (ev_var rfl) ev_c rfl) ev_c rv_I0)) (fun hpos H1 e1 => ?_) fun _ H1 e1 => ?_
  · obtain ⟨v, hv1, hv2⟩ := nat_of (x := i0) hmz
    refine q_asg (v := .int (v : Int)) (ev_is (ev_modI (ev_int1 (ev_ixL (i := 0) (e1 _ _ hb) (ev_var rfl) ev_c rfl)) (ev_var rfl) hmz) (by rw [hv1])) fun H2 e2 => ?_
    refine q_setL (j := 0) ((e1.trans e2) _ _ hb) (ev_divI (ev_ixL (i := 0) ((e1.trans e2) _ _ hb) (ev_var rfl) ev_c rfl) (ev_var rfl) ⟨hmz, by omega⟩) (ev_var rfl) ev_c (by show 0 < 3; decide) fun H3 e3 => ?_
    refine s_ret (ev_var rfl) fun H4 e4 => q v H4 (by omega) (((Ko.of ((e1.trans e2).trans e3)).trans Ko.upd).trans (Ko.of e4)) ⟨_, _, i2, e4 _ _ upd_same, hp, hq, by omega⟩
  · refine q_setL (j := 2) (v := .int ((i2 + 1 : Nat) : Int)) (e1 _ _ hb) (ev_addI (ev_ixL (i := 2) (e1 _ _ hb) (ev_var rfl) ev_c rfl) ev_c) (ev_var rfl) ev_c (by show 2 < 3; decide) fun H2 e2 => ?_
    have h2 : (upd H2 b (.lst [.int i0, .int i1, .int ((i2 + 1 : Nat) : Int)])) b = some (.lst [.int i0, .int i1, .int ((i2 + 1 : Nat) : Int)]) := upd_same
    have kk : Ko b H (upd H2 b (.lst [.int i0, .int i1, .int ((i2 + 1 : Nat) : Int)])) := (Ko.of (e1.trans e2)).trans Ko.upd
    refine (show _ from ?_ : _)
    generalize hG : upd H2 b (.lst [.int i0, .int i1, .int ((i2 + 1 : Nat) : Int)]) = G at h2 kk
    have hG' : upd H2 b (.lst ([V.int i0, .int i1, .int (i2 : Int)].set 2 (.int ((i2 + 1 : Nat) : Int)))) = G := hG
    rw [hG']
    have ix1 : ∀ {σ : L2.St} {G1 : Hp}, Ex G G1 → σ[0]? = some (some (.ref b)) → Ev (tOp (rIxL K) (tVar 0) (tC (.int 1))) σ G1 (.int i1) := fun e s => ev_ixL (i := 1) (e _ _ h2) (ev_var s) ev_c rfl
    have ix2 : ∀ {σ : L2.St} {G1 : Hp}, Ex G G1 → σ[0]? = some (some (.ref b)) → Ev (tOp (rIxL K) (tVar 0) (tC (.int 2))) σ G1 (.int ((i2 + 1 : Nat) : Int)) := fun e s => ev_ixL (i := 2) (e _ _ h2) (ev_var s) ev_c rfl
    obtain ⟨o, ho1, ho2⟩ := nat_of (x := (i1 + 48271 * ((i2 + 1 : Nat) : Int)) * (39373 + ((i2 + 1 : Nat) : Int))) (show (0 : Int) < 2147483647 by decide)
    refine q_asg (v := .int (o : Int)) (ev_is (ev_modI (ev_int1 (ev_mulI (ev_addI (ix1 (Ex.refl _) rfl) (ev_mulI ev_c (ix2 (Ex.refl _) rfl) (.inl (by decide)))) (ev_addI ev_c (ix2 (Ex.refl _) rfl)) (.inl ⟨by omega, by omega⟩))) ev_c (by decide)) (by rw [ho1])) fun H3 e3 => ?_
    obtain ⟨f, hf1, hf2⟩ := nat_of (x := (o : Int)) (show (0 : Int) < 40009 by decide)
    refine q_asg (v := .int ((f : Int) + 7)) (ev_is (ev_addI (ev_modI (ev_int1 (ev_var rfl)) ev_c (by decide)) ev_c) (by rw [hf1])) fun H4 e4 => ?_
    have e34 := e3.trans e4
    obtain ⟨t, ht1, ht2⟩ := nat_of (x := ((o : Int) + ((i2 + 1 : Nat) : Int) + i1 / 1000003) * ((f : Int) + 7)) (show (0 : Int) < 2147483629 by decide)
    refine q_asg (v := .int (t : Int)) (ev_is (ev_modI (ev_int1 (ev_mulI (ev_addI (ev_addI (ev_var rfl) (ix2 e34 rfl)) (ev_divI (ix1 e34 rfl) ev_c (by decide))) (ev_var rfl) (.inr ⟨by omega, by omega⟩))) ev_c (by decide)) (by rw [ht1])) fun H5 e5 => ?_
    obtain ⟨v, hv1, hv2⟩ := nat_of (x := ((t : Int) * 48271 + (o : Int)) % 2147483587 / 64) hmz
    refine s_ret (v := .int (v : Int)) (ev_is (ev_modI (ev_int1 (ev_divI (ev_modI (ev_int1 (ev_addI (ev_mulI (ev_var rfl) ev_c (.inr (by decide))) (ev_var rfl))) ev_c (by decide)) ev_c (by decide))) (ev_var rfl) hmz) (by rw [hv1])) fun H6 e6 => ?_
    have e7 := (e34.trans e5).trans e6
    exact q v H6 (by omega) (kk.trans (Ko.of e7)) ⟨i0, i1, i2 + 1, e7 _ _ h2, hp, hq, by omega⟩
theorem sc__law_of : FnScope ["_law_box_here", "_law_some"] ["_law_box_here", "_law_some"] (defScope (top 78)) := ⟨rfl, rfl, rfl, by decide +kernel, rfl, by decide +kernel, by decide +kernel⟩
theorem ok__law_of (B : Bu mg) (T : Cst K mg) (O__law_take : Ok P w K mg base CX0 1 "_law_take" sp__law_take) (D : Dn K mg "_law_of" 78) : Ok P w K mg base CX0 2 "_law_of" sp__law_of := by
  refine D.ok sc__law_of (fun _ _ _ _ _ _ us hl => match us, hl with | [_, _], _ => rfl) (by rintro vs H Q E ⟨_, _, _, _, rfl, _⟩; rfl) fun f cdv A outer s H vs Q E hr h => ⟨_, (pss_one (ps_ret (pe_ix ix_seq (pv 1) (pe_ok O__law_take hr rfl pass0 (pa_cons (pv 0) (pa_cons (pe_callB call_len_seq (by rfl) B.len PySem.boot_len (pa_cons (pv 1) pa_nil)) pa_nil))) (fun _ _ => rfl)))), ?_⟩
  obtain ⟨b, t, c, l, rfl, htb, ht, hne, hl, hb, hc, q⟩ := h
  have hln : 0 < l.length := List.length_pos_iff.mpr hne
  have hlen : (Ss l).length = l.length := List.length_map _
  refine ⟨.ref t, rfl, .ref b, rfl, .ref t, rfl, t, Ss l, rfl, ht.elim (fun h => .inl (sq_of h)) (fun h => .inr (st_of h)), b, c, l.length, by rw [hlen]; rfl, hln, by omega, hb, hc, fun v H2 hv k hb2 => ?_⟩
  have hx : (Ss l)[v]? = some (S l[v]) := by
    unfold Ss
    rw [List.getElem?_map, List.getElem?_eq_getElem hv]
    rfl
  have q' := q l[v] H2 (List.getElem_mem hv) k hb2
  rcases ht with h | h
  · exact .inl ⟨t, Ss l, (v : Int), _, rfl, rfl, sq_of (k _ _ htb h), atI_nat hx, q'⟩
  · exact .inr (.inl ⟨t, Ss l, (v : Int), _, rfl, rfl, st_of (k _ _ htb h), atI_nat hx, q'⟩)
theorem el_cast {te : TE} {σ : L2.St} {H : Hp} {xs ys : List V} (h : EvL te σ H xs) (e : xs = ys) : EvL te σ H ys := by
  rw [← e]
  exact h
theorem ints_at {zs : List Int} {i : Nat} {x : V} (h : (zs.map V.int)[i]? = some x) : ∃ z, zs[i]? = some z ∧ x = V.int z := by
  rw [List.getElem?_map] at h
  obtain ⟨z, h1, h2⟩ := Option.map_eq_some_iff.mp h
  exact ⟨z, h1, h2.symm⟩
theorem el_orL {K : PySem.W.Frag} {σ : L2.St} {H : Hp} {ta tb : TE} {xs ys : List V} (h : EvL ta σ H xs) (h2 : EvL tb σ H ys) : EvL (tOrT K ta tb) σ H (if xs = [] then ys else xs) := fun H1 e Q q => h H1 e _ fun p H2 hp e2 hx => by
  refine ⟨!xs.isEmpty, .inl ⟨xs, sq_of hx, rfl⟩, ?_⟩
  cases xs with
  | nil =>
    refine iteF (h2 H2 (e.trans e2) _ fun g H3 hg e3 hy => q g H3 (fresh_back e2 hg) (e2.trans e3) ?_)
    rw [if_pos rfl]
    exact hy
  | cons x t =>
    refine iteT (q p H2 hp e2 ?_)
    rw [if_neg (by simp)]
    exact hx
theorem sc__law_cells : FnScope ["_law_script", "_law_most_so", "_law_cells_here", "_law_k", "_law_cell", "_law_at_so"] ["_law_script", "_law_most_so"] (defScope (top 77)) := ⟨rfl, rfl, rfl, by decide +kernel, rfl, by decide +kernel, by decide +kernel⟩
theorem ok__law_cells (B : Bu mg) (T : Cst K mg)  (D : Dn K mg "_law_cells" 77) : Ok P w K mg base CX0 1 "_law_cells" (sp__law_cells K) := by
  refine D.ok sc__law_cells (fun _ _ _ _ _ _ us hl => match us, hl with | [_, _], _ => rfl) (by rintro vs H Q E ⟨_, _, rfl, _⟩; rfl) fun f cdv A outer s H vs Q E hr h => ⟨_, (pss_cons (ps_set (i := 2) sc__law_cells.nd rfl (.inl rfl) (pe_orT (pe_callTy call_list_of (by rfl) B.list (by decide +kernel) (pa_cons (pe_slice sl_list (pv 0) po_none (po_some (pv 1))) pa_nil)) (pe_one (pe_lst (pa_cons pe_int pa_nil)))))
    (pss_cons (ps_for PassesOwn.never rfl (pi_enum (by rfl) B.enumerate (pa_cons (pe_slice sl_list (pv 0) (po_some (pv 1)) (po_some pe_int)) pa_nil)) (pg_tup rfl (pgs_cons (pg_name (i := 3) sc__law_cells.nd rfl (.inl rfl)) (pgs_cons (pg_name (i := 4) sc__law_cells.nd rfl (.inl rfl)) pgs_nil)))
      (pss_cons (ps_set (i := 5) sc__law_cells.nd rfl (.inl rfl) (pe_op op_mod (pe_callTy call_int1 (by rfl) B.int (by decide +kernel) (pa_cons (pv 3) pa_nil)) (pv 1)))
      (pss_one (ps_asg (pe_op op_add (pe_ix ix_list (pv 2) (pv 5) (fun _ _ => rfl)) (pe_op op_mul (pv 4) (pe_op op_add (pv 3) pe_int))) (pg_sub (pv 2) (pv 5) set_list)))))
    (pss_one (ps_ret (pv 2))))), ?_⟩
  obtain ⟨l, zs, rfl, hl, hz, q⟩ := h
  have hlen : (zs.map V.int).length = zs.length := List.length_map _
  have hsl : ∀ {σ : L2.St} {G : Hp} {tl th : TO} {lo hi : Option Int}, Ex H G → σ[0]? = some (some (.ref l)) → EvO tl σ G lo → EvO th σ G hi → EvL (tSl (rSlL K) (tVar 0) tl th) σ G (cutV (zs.map V.int) lo hi) := fun e s a b => el_sl (ev_var s) a b (ex_l e hl)
  have hfirst : EvL (tOrT K (tCB (rListS K) (tCons (tSl (rSlL K) (tVar 0) tNoPart (tPart (tVar 1))) tNil)) (tLst (tCons (tC (.int 0)) tNil))) [some (.ref l), some (.int 3), none, none, none, none] H ((if zs = [] then [0] else zs.take 3).map V.int) := by
    refine el_cast (el_orL (el_listN (hsl (Ex.refl H) rfl eo_none (eo_some (ev_var rfl)))) (el_lst (ea_cons ev_c ea_nil) (by show 1 ≤ 100000; decide))) ?_
    rw [show ((3 : Int)) = ((3 : Nat) : Int) from rfl, cutV_to]
    cases zs with
    | nil => rfl
    | cons z t =>
      rw [if_neg (by simp), if_neg (by simp), List.map_take]
  refine q_asgL hfirst fun p H1 hp e1 h1 => ?_
  have hys : ∃ ys : List Int, ys = (if zs = [] then [0] else zs.take 3) ∧ ys.length ≤ 3 ∧ (3 < zs.length → ys.length = 3) := ⟨_, rfl, by split <;> simp <;> omega, fun h => by rw [if_neg (by rintro rfl; simp at h), List.length_take]; omega⟩
  obtain ⟨ys, hy1, hy2, hy3⟩ := hys
  rw [← hy1] at h1
  have hcut : EvL (tSl (rSlL K) (tVar 0) (tPart (tVar 1)) (tPart (tC (.int 63)))) [some (.ref l), some (.int 3), some (.ref p), none, none, none] H1 (cutV (zs.map V.int) (some 3) (some 63)) := hsl e1 rfl (eo_some (ev_var rfl)) (eo_some ev_c)
  have hcz : cutV (zs.map V.int) (some 3) (some 63) = (zs.drop 3).map V.int := by
    rw [show cutV (zs.map V.int) (some 3) (some 63) = cutV (zs.map V.int) (some ((3 : Nat) : Int)) none from ?_, cutV_from, List.map_drop]
    unfold cutV
    rw [HT.sIx_none, show ((63 : Int)) = ((63 : Nat) : Int) from rfl, HT.sIx_nat, hlen, Nat.min_eq_right hz]
    rfl
  rw [hcz] at hcut
  refine hcut H1 (Ex.refl H1) _ fun L H2 hL e2 hx => ⟨L, _, rfl, sq_of hx, for_it (walk_enum (K := K) (xs := (zs.drop 3).map V.int)) (fun i σ H' => ∃ (us : List Int) (y3 y4 y5 : Option V), σ = [some (.ref l), some (.int 3), some (.ref p), y3, y4, y5] ∧ us.length = ys.length ∧ H' p = some (.lst (us.map V.int)) ∧ H' L = some (.lst ((zs.drop 3).map V.int)) ∧ Ex H H') ?_ (fun i σ H' _ h => ?_) (fun i x σ H' H'' hi h y => ?_) fun σ H' h => ?_⟩
  · exact ⟨ys, none, none, none, rfl, rfl, e2 _ _ h1, hx, e1.trans e2⟩
  · obtain ⟨_, _, _, _, _, _, _, h, _⟩ := h
    exact sq_of h
  · obtain ⟨us, y3, y4, y5, rfl, hul, hpl, hLl, eE⟩ := h
    obtain ⟨T, x1, x2, rfl, hT, rfl, hx1, hx2⟩ := y
    obtain rfl : V.int ((i : Nat) : Int) = x1 := Option.some.inj hx1
    obtain ⟨z, hz1, rfl⟩ := ints_at hx2
    have h3 : ys.length = 3 := hy3 (by rw [List.length_map, List.length_drop] at hi; omega)
    have eT : Ex H' (upd H' T (.tup [V.int (i : Int), V.int z])) := Ex.new hT
    refine ⟨T, [V.int (i : Int), V.int z], rfl, st_of upd_same, rfl, V.int (i : Int), [V.int z], rfl, V.int z, [], rfl, rfl, ?_⟩
    refine q_asg (v := .int ((i % 3 : Nat) : Int)) (ev_is (ev_modI (ev_int1 (ev_var rfl)) (ev_var rfl) (by decide)) (by rw [Int.natCast_emod]; rfl)) fun H3 e3 => ?_
    have hi3 : i % 3 < us.length := by rw [hul, h3]; exact Nat.mod_lt _ (by decide)
    obtain ⟨u, hu⟩ : ∃ u, us[i % 3]? = some u := ⟨_, List.getElem?_eq_getElem hi3⟩
    have hp3 : H3 p = some (.lst (us.map V.int)) := (eT.trans e3) _ _ hpl
    have hLp : L ≠ p := Ne.symm (ne_of_none h1 hL)
    refine s_setL (j := i % 3) hp3 (ev_addI (ev_ixL (i := i % 3) hp3 (ev_var rfl) (ev_var rfl) (by rw [List.getElem?_map, hu]; rfl)) (ev_mulI (ev_var rfl) (ev_addI (ev_var rfl) ev_c) (.inr ?_))) (ev_var rfl) (ev_var rfl) (by rw [List.length_map]; exact hi3) fun H4 e4 => ⟨us.set (i % 3) (u + z * ((i : Int) + 2)), _, _, _, rfl, by rw [List.length_set]; exact hul, ?_, ?_, ?_⟩
    · rw [List.length_map, List.length_drop] at hi
      exact ⟨by omega, by omega⟩
    · rw [upd_same, List.map_set]
    · rw [upd_ne hLp]
      exact ((eT.trans e3).trans e4) _ _ hLl
    · exact Ex.mut (((eE.trans eT).trans e3).trans e4) hp
  · obtain ⟨us, y3, y4, y5, rfl, hul, hpl, hLl, eE⟩ := h
    exact s_ret (ev_var rfl) fun H3 e3 => q us p H3 (by omega) hp (eE.trans e3) (e3 _ _ hpl)
end
end Mir
/-! part K7 -/
set_option Elab.async false
set_option linter.all false
set_option maxRecDepth 100000
set_option maxHeartbeats 4000000
/-! Data read alike: == and != of lists and tuples of texts; loops over a text. -/
namespace Mir
open PySem PySem.Spec PyProof.Rows L2 Evl
def dS (a : W) : PyData := .str (ST a)
section
variable {K : PySem.W.Frag} {σ : L2.St} {H H' : Hp} {ta tb te : TE}
theorem dp_Ss : ∀ l : List W, DpAll K H (Ss l) (l.map dS)
  | [] => .nil
  | a :: l => .cons (.str _) (dp_Ss l)
def Chr (l : List W) : Prop := ∀ w ∈ l, ∀ c ∈ w, c < 1114112
theorem Ways.chr {l : List W} (h : Ways l) : Chr l := fun w hw c hc => by
  have := ((h w hw).2.2 c hc).2
  omega
theorem lay_S {a : W} (h : ∀ c ∈ a, c < 1114112) : (dS a).canLay0 = true := by
  show PyData.canLay0 (.str (ST a)) = true
  simp only [PyData.canLay0, PyData.strOk]
  rw [Array.all_eq_true_iff_forall_mem]
  intro c hc
  exact decide_eq_true (h c (by simpa using hc))
theorem lay_Ss : ∀ {l : List W}, Chr l → PyData.canLayAll0 (l.map dS) = true
  | [], _ => rfl
  | a :: l, h => by
    show ((dS a).canLay0 && PyData.canLayAll0 (l.map dS)) = true
    rw [lay_S (h a (List.mem_cons_self ..)), lay_Ss fun w hw => h w (List.mem_cons_of_mem _ hw)]
    rfl
theorem dep_Ss : ∀ l : List W, PyData.depthAll (l.map dS) = 0
  | [] => rfl
  | a :: l => by
    show max (PyData.depth (.str (ST a))) (PyData.depthAll (l.map dS)) = 0
    rw [dep_Ss l]
    rfl
theorem shpL {l : List W} (h : Chr l) : SeqAt.shaped (.list (l.map dS)) = true := by
  show (PyData.canLayAll0 (l.map dS) && decide (PyData.depthAll (l.map dS) + 1 ≤ 64)) = true
  rw [lay_Ss h, dep_Ss]
  rfl
theorem shpT {l : List W} (h : Chr l) : SeqAt.shaped (.tuple (l.map dS)) = true := by
  show (PyData.canLayAll0 (l.map dS) && decide (PyData.depthAll (l.map dS) + 1 ≤ 64)) = true
  rw [lay_Ss h, dep_Ss]
  rfl
theorem eqv_Ss : ∀ l m : List W, PyData.eqvAll (l.map dS) (m.map dS) = decide (l = m)
  | [], [] => rfl
  | [], _ :: _ => rfl
  | _ :: _, [] => rfl
  | a :: l, b :: m => by
    show (ST a == ST b && PyData.eqvAll (l.map dS) (m.map dS)) = _
    rw [eqv_Ss l m]
    by_cases h : a = b
    · subst h
      simp
    · have : (ST a == ST b) = false := by
        rw [beq_eq_false_iff_ne]
        exact fun z => h (ST_inj z)
      rw [this]
      simp [h]
theorem rv_neL {p q : Addr} {l m : List W} (hp : SqL K H p (Ss l)) (hq : SqL K H q (Ss m)) (cl : Chr l) (cm : Chr m) : RV (rNeD K) (.ref p) (.ref q) H (.bl (!decide (l = m))) := fun H1 e Q q' =>
  ⟨.list (l.map dS), .list (m.map dS), .lst (ex_l e hp) (dp_Ss l), .lst (ex_l e hq) (dp_Ss m), shpL cl, shpL cm, by
    show Q (.bl (!PyData.eqvAll (l.map dS) (m.map dS))) H1
    rw [eqv_Ss]
    exact q' H1 (Ex.refl H1)⟩
theorem rv_neT {p q : Addr} {l m : List W} (hp : SqT K H p (Ss l)) (hq : SqT K H q (Ss m)) (cl : Chr l) (cm : Chr m) : RV (rNeD K) (.ref p) (.ref q) H (.bl (!decide (l = m))) := fun H1 e Q q' =>
  ⟨.tuple (l.map dS), .tuple (m.map dS), .tup (ex_t e hp) (dp_Ss l), .tup (ex_t e hq) (dp_Ss m), shpT cl, shpT cm, by
    show Q (.bl (!PyData.eqvAll (l.map dS) (m.map dS))) H1
    rw [eqv_Ss]
    exact q' H1 (Ex.refl H1)⟩
/-- over the letters of a text -/
theorem s_forS {a : W} {g : TG} {tu : TS} {D : Ends} (h : Ev te σ H (S a)) (Pv : Nat → L2.St → Hp → Prop) (h0 : ∀ H1, Ex H H1 → Pv 0 σ H1)
    (hs : ∀ i c σ' H', a[i]? = some c → Pv i σ' H' → g (S [c]) σ' H' fun σ2 H2 => tu { D with nx := Pv (i + 1), ct := Pv (i + 1), bk := D.nx } σ2 H2) (hd : ∀ σ' H', Pv a.length σ' H' → D.nx σ' H') : tFor (iStr te) g tu D σ H :=
  h H (Ex.refl H) _ fun H1 e => ⟨_, rfl, for_it (walk_str (z := ST a)) Pv (h0 H1 e) (fun _ _ _ _ _ => trivial) (fun i x σ' H' H'' hi p y => by
    obtain ⟨rfl, c, h1, rfl⟩ := y
    exact hs i c σ' _ (by simpa using h1) p) fun σ' H' p => hd σ' H' (by rw [ST_size] at p; exact p)⟩
theorem q_forS {a : W} {g : TG} {tu tz : TS} {D : Ends} (h : Ev te σ H (S a)) (Pv : Nat → L2.St → Hp → Prop) (h0 : ∀ H1, Ex H H1 → Pv 0 σ H1)
    (hs : ∀ i c σ' H', a[i]? = some c → Pv i σ' H' → g (S [c]) σ' H' fun σ2 H2 => tu { D with nx := Pv (i + 1), ct := Pv (i + 1), bk := tz D } σ2 H2) (hd : ∀ σ' H', Pv a.length σ' H' → tz D σ' H') : tSeq (tFor (iStr te) g tu) tz D σ H :=
  s_forS (D := { D with nx := tz D }) h Pv h0 hs hd
theorem ev_sumN {ns : List Int} (h : EvL te σ H (ns.map V.int)) : Ev (tCB (rSum K) (tCons te tNil)) σ H (.int ns.sum) := fun H1 e Q q => h H1 e _ fun p H2 _ e2 hx => ⟨p, ns, rfl, sq_of hx, q H2 e2⟩
/-- a comprehension over texts, of any values -/
theorem el_lcV {wi : TI} {l : List W} {j : Nat} {vs : List Nat} (g : W → V) (h : EvI wi σ H (Ss l).length (PAt (Ss l))) (hz : l.length ≤ 40000) (hw : ∀ x, wipe ((wipe σ vs).set j (some x)) vs = wipe σ vs)
    (hs : ∀ w ∈ l, ∀ H1, Ex H H1 → Ev te ((wipe σ vs).set j (some (S w))) H1 (g w)) : EvL (tLc wi (gName j) tYes te vs) σ H (l.map g) := by
  have e : l.map g = (List.range l.length).map fun i => g (l.getD i []) := by
    clear h hz hs
    induction l with
    | nil => rfl
    | cons c t ih =>
      rw [List.length_cons, List.range_succ_eq_map, List.map_cons, List.map_cons, List.map_map, ih]
      rfl
  rw [e, ← given_all]
  rw [List.length_map] at h
  refine el_lc1 (fun _ => true) _ h hz hw fun i x H1 e hi q => ⟨et_yes, fun _ => ?_⟩
  obtain ⟨w, h1, rfl⟩ := pAt_S q
  rw [getD_at h1]
  exact hs w (List.mem_of_getElem? h1) H1 e
end
theorem tot_int (l : List W) : ((l.map fun w => (w.length : Int)).sum) = ((tot l : Nat) : Int) := by
  induction l with
  | nil => rfl
  | cons a l ih =>
    rw [List.map_cons, List.sum_cons, ih, tot_cons]
    omega
end Mir
/-! part L2 -/
set_option Elab.async false
set_option linter.all false
set_option maxRecDepth 100000
set_option maxHeartbeats 4000000
/-! The walk: the law's own seeing. -/
namespace Mir
open PySem PySem.Spec PyProof.Rows L2 Evl
abbrev sp__law_reduced : Sp := spS1 (Sz 200000) fun a => S (rd a)
abbrev sp__law_pal : Sp := spS1 (Sz 100000) fun a => S (pal a)
abbrev sp__law_seen : Sp := spS2 (fun a b => Way a ∧ Way b ∧ a.length ≤ 30000 ∧ b.length ≤ 30000) fun a b => S (sn a b)
abbrev sp__law_first (K : PySem.W.Frag) : Sp := fun vs H Q _ => ∃ (f : Addr) (l : List W), vs = [.ref f] ∧ SqL K H f (Ss l) ∧ Ways l ∧ l.length < 64 ∧ Shr 40000 l ∧ Rv .non H Q ∧ ∀ a b, a ∈ l → b ∈ l → a ≠ b → a <+: b → Rt [S a, S b] H Q
abbrev sp__law_pure (K : PySem.W.Frag) : Sp := fun vs H Q _ => ∃ (t : Addr) (l : List W) (n : Nat), vs = [.ref t] ∧ SqT K H t (Ss l) ∧ Ways l ∧ l.length < 63 ∧ n ≤ 1000 ∧ Shr n l ∧ ∀ l', Ways l' → l'.length ≤ l.length → Shr n l' → Rt (Ss l') H Q
theorem foldl_rd (a : W) : a.foldl psh [] = rd a := foldl_psh a (l := []) trivial
theorem psh_if (l : W) (c : Nat) : (if l.drop (l.length - 1) = [c] then l.dropLast else l ++ [c]) = psh l c := by
  unfold psh
  rcases List.eq_nil_or_concat l with rfl | ⟨p, d, rfl⟩
  · rfl
  · rw [List.concat_eq_append, show (p ++ [d]).drop ((p ++ [d]).length - 1) = [d] by simp, List.getLast?_concat]
    by_cases h : d = c
    · subst h
      simp
    · rw [if_neg (by simp [h]), if_neg (by simp [h])]
section
variable {P : Program} {w : World} {K : PySem.W.Frag} {mg : Str → Option Value} {base : Heap}
theorem sc__law_reduced : FnScope ["_law_word_so", "_law_found", "_law_own"] ["_law_word_so"] (defScope (top 80)) := ⟨rfl, rfl, rfl, by decide +kernel, rfl, by decide +kernel, by decide +kernel⟩
theorem ok__law_reduced (B : Bu mg) (T : Cst K mg)  (D : Dn K mg "_law_reduced" 80) : Ok P w K mg base CX0 1 "_law_reduced" sp__law_reduced := by
  refine D.ok sc__law_reduced (fun _ _ _ _ _ _ us hl => match us, hl with | [_], _ => rfl) (len1 rfl) fun f cdv A outer s H vs Q E hr h => ⟨_, (pss_cons (ps_set (i := 1) sc__law_reduced.nd rfl (.inl rfl) (pe_st (l := [])))
    (pss_cons (ps_for PassesOwn.never rfl (pi_str (pv 0)) (pg_name (i := 2) sc__law_reduced.nd rfl (.inl rfl))
      (pss_one (ps_set (i := 1) sc__law_reduced.nd rfl (.inl rfl) (pe_ifExp (pt_cmpR op_eq (pe_slice sl_str (pv 1) (po_some (pe_un un_neg pe_int)) po_none) (pv 2) (nomark _)) (pe_slice sl_str (pv 1) po_none (po_some (pe_un un_neg pe_int))) (pe_op op_add_str (pv 1) (pv 2))))))
    (pss_one (ps_ret (pv 1))))), ?_⟩
  obtain ⟨a, rfl, ha, q⟩ := h
  have ha' : a.length ≤ 200000 := ha
  refine q_asg (v := S []) ev_c fun H1 e1 => q_forS (a := a) (ev_var rfl) (fun i σ H' => ∃ y, σ = [some (S a), some (S ((a.take i).foldl psh [])), y] ∧ Ex H H') (fun H2 e2 => ⟨none, rfl, e1.trans e2⟩) (fun i c σ H' hc ⟨y, hσ, e⟩ => ?_) fun σ H' ⟨y, hσ, e⟩ => ?_
  · subst hσ
    have hl : ((a.take i).foldl psh []).length ≤ 200000 := by
      rw [foldl_rd]
      have h1 := rd_len (a.take i)
      rw [List.length_take] at h1
      omega
    have hs : (a.take (i + 1)).foldl psh [] = psh ((a.take i).foldl psh []) c := by
      rw [take_snoc hc, List.foldl_append]
      rfl
    generalize (a.take i).foldl psh [] = r at hl hs
    refine s_asg (v := S (psh r c)) (ev_is (v := S (if r.drop (r.length - 1) = [c] then r.dropLast else r ++ [c])) ?_ (by rw [psh_if])) fun H2 e2 => ⟨_, by rw [hs]; rfl, e.trans e2⟩
    refine ev_if (b := decide (r.drop (r.length - 1) = [c])) (et_test (ev_eqS (ev_lastS (ev_var rfl) (ev_neg ev_c) (by omega)) (ev_var rfl))) (fun hb => ?_) fun hb => ?_
    · rw [if_pos (of_decide_eq_true hb)]
      exact ev_init (ev_var rfl) (ev_neg ev_c) (by omega)
    · rw [if_neg (of_decide_eq_false hb)]
      exact ev_addS (ev_var rfl) (ev_var rfl) (by show r.length + 1 ≤ _; omega)
  · subst hσ
    rw [List.take_length, foldl_rd]
    exact s_ret (ev_var rfl) fun H2 e2 => q H2 (e.trans e2)
theorem sc__law_pal : FnScope ["_law_way_so"] ["_law_way_so"] (defScope (top 81)) := ⟨rfl, rfl, rfl, by decide +kernel, rfl, by decide +kernel, by decide +kernel⟩
theorem ok__law_pal (B : Bu mg) (T : Cst K mg)  (D : Dn K mg "_law_pal" 81) : Ok P w K mg base CX0 1 "_law_pal" sp__law_pal := by
  refine D.ok sc__law_pal (fun _ _ _ _ _ _ us hl => match us, hl with | [_], _ => rfl) (len1 rfl) fun f cdv A outer s H vs Q E hr h => ⟨_, (pss_one (ps_ret (pe_op op_add_str (pv 0) (pe_revS (pe_slice sl_str (pv 0) po_none (po_some (pe_un un_neg pe_int))))))), ?_⟩
  obtain ⟨a, rfl, ha, q⟩ := h
  have ha' : a.length ≤ 100000 := ha
  refine s_ret (v := S (pal a)) (ev_addS (ev_var rfl) (ev_rev (ev_init (ev_var rfl) (ev_neg ev_c) (by omega)) ?_) ?_) q
  · rw [List.length_dropLast]
    omega
  · rw [List.length_reverse, List.length_dropLast]
    omega
theorem sc__law_seen : FnScope ["_law_one_so", "_law_other_so", "_law_long_so"] ["_law_one_so", "_law_other_so"] (defScope (top 82)) := ⟨rfl, rfl, rfl, by decide +kernel, rfl, by decide +kernel, by decide +kernel⟩
theorem ok__law_seen (B : Bu mg) (T : Cst K mg) (O__law_reduced : Ok P w K mg base CX0 1 "_law_reduced" sp__law_reduced) (O__law_pal : Ok P w K mg base CX0 1 "_law_pal" sp__law_pal) (D : Dn K mg "_law_seen" 82) : Ok P w K mg base CX0 2 "_law_seen" sp__law_seen := by
  refine D.ok sc__law_seen (fun _ _ _ _ _ _ us hl => match us, hl with | [_, _], _ => rfl) (len2 rfl) fun f cdv A outer s H vs Q E hr h => ⟨_, (pss_cons (ps_set (i := 2) sc__law_seen.nd rfl (.inl rfl) (pe_ok O__law_reduced hr rfl pass0 (pa_cons (pe_op op_add_str (pe_op op_add_str (pe_ok O__law_pal hr rfl pass0 (pa_cons (pv 1) pa_nil)) (pe_ok O__law_pal hr rfl pass0 (pa_cons (pv 0) pa_nil))) (pe_ok O__law_pal hr rfl pass0 (pa_cons (pv 1) pa_nil))) pa_nil)))
    (pss_one (ps_ret (pe_slice sl_str (pv 2) po_none (po_some (pe_op op_add (pe_op op_fdiv (pe_callB call_len_str (by rfl) B.len PySem.boot_len (pa_cons (pv 2) pa_nil)) pe_int) pe_int)))))), ?_⟩
  obtain ⟨a, b, rfl, ⟨wa, wb, ha, hb⟩, q⟩ := h
  have la : (pal a).length ≤ 60000 := by rw [pal_len]; omega
  have lb : (pal b).length ≤ 60000 := by rw [pal_len]; omega
  have lt : (pal b ++ pal a ++ pal b).length ≤ 200000 := by
    rw [List.length_append, List.length_append, pal_len, pal_len]
    omega
  have lr := rd_len (pal b ++ pal a ++ pal b)
  refine q_asg (ev_s1 (a := pal b ++ pal a ++ pal b) (ev_addS (ev_addS (ev_s1 (ev_var rfl) (by show b.length ≤ 100000; omega)) (ev_s1 (ev_var rfl) (by show a.length ≤ 100000; omega)) (by omega)) (ev_s1 (ev_var rfl) (by show b.length ≤ 100000; omega)) (by rw [List.length_append]; omega)) lt) fun H1 e1 => ?_
  refine s_ret (v := S (sn a b)) (ev_is (ev_to (k := (rd (pal b ++ pal a ++ pal b)).length / 2 + 1) (ev_var rfl) (ev_is (ev_addI (ev_divI (ev_lenS (ev_var rfl) (by omega)) ev_c (by decide)) ev_c) ?_) (by omega)) ?_) fun H2 e2 => q H2 (e1.trans e2)
  · rw [Int.natCast_add, Int.natCast_ediv]
    rfl
  · rw [sn_half wa.1 wb.1 wa.2.1]
theorem sc__law_first : FnScope ["_law_found", "_law_own", "_law_longer_so", "_law_far"] ["_law_found"] (defScope (top 83)) := ⟨rfl, rfl, rfl, by decide +kernel, rfl, by decide +kernel, by decide +kernel⟩
theorem ok__law_first (B : Bu mg) (T : Cst K mg)  (D : Dn K mg "_law_first" 83) : Ok P w K mg base CX0 1 "_law_first" (sp__law_first K) := by
  refine D.ok sc__law_first (fun _ _ _ _ _ _ us hl => match us, hl with | [_], _ => rfl) (by rintro vs H Q E ⟨_, _, rfl, _⟩; rfl) fun f cdv A outer s H vs Q E hr h => ⟨_, (pss_cons (ps_for PassesOwn.never rfl (pi_list (pv 0)) (pg_name (i := 1) sc__law_first.nd rfl (.inr rfl))
      (pss_cons (ps_setLc (i := 2) (own := [("_law_far", 3)]) (g := (gName 3)) (tt := (tAnd (tTest (tOp rNe (tVar 1) (tVar 3))) (tTest (tOp rEq (tSl rSlS (tVar 3) tNoPart (tPart (tCB rLenStr (tCons (tVar 1) tNil)))) (tVar 1))))) (te := (tVar 3)) rfl sc__law_first.nd rfl rfl (sw_true rfl rfl rfl (by decide +kernel)) (pi_list (pv 0)) (blkOk_by (N := ["_law_found", "_law_own", "_law_longer_so", "_law_far"]) (sc := defScope (top 83)) (by decide +kernel)) (fun _ _ _ _ _ => (pg_name (i := 3) sc__law_first.nd rfl (.inl rfl))) (fun _ _ _ _ _ => pts_one (PW.pt (pw_and (pt_cmpR op_ne (pv 1) (pv 3) (nomark _)) (pw_and1 (pt_cmpR op_eq (pe_slice sl_str (pv 3) po_none (po_some (pe_callB call_len_str (by rfl) B.len PySem.boot_len (pa_cons (pv 1) pa_nil)))) (pv 1) (nomark _)))))) (fun _ _ _ _ _ => (pv 3)))
      (pss_one (ps_if (pt_cmpR (op_neD hr.units) (pv 2) (pe_lst pa_nil) (nomark _))
        (pss_one (ps_ret (pe_tup (pa_cons (pv 1) (pa_cons (pe_ix ix_list (pv 2) pe_int (fun _ _ => rfl)) pa_nil)))))
        pss_nil))))
    (pss_one (ps_ret pe_non))), ?_⟩
  obtain ⟨f, l, rfl, hf, wl, hl, hs, qn, qt⟩ := h
  refine q_forL (g := gName 1) (ev_var rfl) hf (fun i σ H' => (∃ y1 y2 y3, σ = [some (.ref f), y1, y2, y3]) ∧ Ex H H') (fun H1 e1 => ⟨⟨_, _, _, rfl⟩, e1⟩) (fun i σ H' _ h => ex_l h.2 hf) (fun i y σ H' hy ⟨⟨y1, y2, y3, hσ⟩, e⟩ => ?_) fun σ H' ⟨⟨y1, y2, y3, hσ⟩, e⟩ => ?_
  · subst hσ
    obtain ⟨a, ha, rfl⟩ := pAt_S (H := H) hy
    have ham := List.mem_of_getElem? ha
    have sa := hs a ham
    refine q_asgL (el_lcF (l := l) (fun b => !decide (a = b) && decide (b.take a.length = a)) (ei_list (ev_var rfl) (ex_l e hf)) (by omega) (fun x => rfl) fun b hb H1 e1 => ⟨et_and (et_test (ev_neS (ev_var rfl) (ev_var rfl))) fun _ => et_test (ev_eqS (ev_to (ev_var rfl) (ev_lenS (ev_var rfl) (by omega)) (by have := hs b hb; omega)) (ev_var rfl)), ev_var rfl⟩) fun p H1 hp e1 h1 => ?_
    have hsub : ∀ b ∈ l.filter (fun b => !decide (a = b) && decide (b.take a.length = a)), b ∈ l ∧ a ≠ b ∧ a <+: b := fun b hb => by
      obtain ⟨h1, h2⟩ := List.mem_filter.mp hb
      simp only [Bool.and_eq_true, Bool.not_eq_true', decide_eq_false_iff_not, decide_eq_true_eq] at h2
      exact ⟨h1, h2.1, List.prefix_iff_eq_take.mpr h2.2.symm⟩
    generalize l.filter (fun b => !decide (a = b) && decide (b.take a.length = a)) = m at h1 hsub
    refine s_when (et_test (ev_opL (ev_var rfl) (el_lst ea_nil (by show 0 ≤ 100000; decide)) fun q H2 hq e2 => rv_neL (l := m) (m := []) (sq_of (e2 _ _ h1)) (sq_of hq) (fun w hw => wl.chr w (hsub w hw).1) (fun w hw => nomatch hw))) (fun hb H2 e2 => ?_) fun hb H2 e2 => ⟨⟨_, _, _, rfl⟩, (e.trans e1).trans e2⟩
    cases m with
    | nil => exact absurd hb (by decide)
    | cons b m =>
      obtain ⟨b1, b2, b3⟩ := hsub b (List.mem_cons_self ..)
      exact s_retU (eu_tup (ea_cons (ev_var rfl) (ea_cons (ev_ixL (i := 0) (e2 _ _ h1) (ev_var rfl) ev_c rfl) ea_nil)) (by show 2 ≤ 100000; decide)) fun p H3 hp3 e3 h3 => qt a b ham b1 b2 b3 p H3 (fresh_back ((e.trans e1).trans e2) hp3) (((e.trans e1).trans e2).trans e3) h3
  · subst hσ
    exact s_ret ev_c fun H2 e2 => qn H2 (e.trans e2)
theorem sc__law_pure : FnScope ["_law_ways_so", "_law_found", "_law_turn", "_law_two_so", "_law_own"] ["_law_ways_so"] (defScope (top 84)) := ⟨rfl, rfl, rfl, by decide +kernel, rfl, by decide +kernel, by decide +kernel⟩
theorem ok__law_pure (B : Bu mg) (T : Cst K mg) (O__law_first : Ok P w K mg base CX0 1 "_law_first" (sp__law_first K)) (O__law_seen : Ok P w K mg base CX0 2 "_law_seen" sp__law_seen) (D : Dn K mg "_law_pure" 84) : Ok P w K mg base CX0 3 "_law_pure" (sp__law_pure K) := by
  refine D.ok sc__law_pure (fun _ _ _ _ _ _ us hl => match us, hl with | [_], _ => rfl) (by rintro vs H Q E ⟨_, _, _, rfl, _⟩; rfl) fun f cdv A outer s H vs Q E hr h => ⟨_, (pss_cons (ps_set (i := 1) sc__law_pure.nd rfl (.inl rfl) (pe_sortSet rfl (pv 0) rfl B.sorted rfl B.set))
    (pss_cons (ps_for PassesOwn.never rfl (pi_range1 rfl B.range (pa_cons (pe_op op_add pe_int (pe_callB (cr_sum rfl) (by rfl) B.sum (by decide +kernel) (pa_cons (pe_lc (own := [("_law_own", 4)]) (g := (gName 4)) (tt := tYes) (te := (tCB rLenStr (tCons (tVar 4) tNil))) rfl sc__law_pure.nd (pi_tup (pv 0)) (blkOk_by (N := ["_law_ways_so", "_law_found", "_law_turn", "_law_two_so", "_law_own"]) (sc := defScope (top 84)) (by decide +kernel)) (fun _ _ _ _ _ => (pg_name (i := 4) sc__law_pure.nd rfl (.inl rfl))) (fun _ _ _ _ _ => pts_nil) (fun _ _ _ _ _ => (pe_callB call_len_str (by rfl) B.len PySem.boot_len (pa_cons (pv 4) pa_nil)))) pa_nil))) pa_nil)) (pg_name (i := 2) sc__law_pure.nd rfl (.inl rfl))
      (pss_cons (ps_set (i := 3) sc__law_pure.nd rfl (.inr rfl) (pe_ok O__law_first hr rfl pass0 (pa_cons (pv 1) pa_nil)))
      (pss_cons (ps_if (pt_cmpR op_isN (pv 3) pe_non (nomark _))
        (pss_one (ps_ret (pe_callTy call_tuple_of (by rfl) B.tuple (by decide +kernel) (pa_cons (pv 1) pa_nil))))
        pss_nil)
      (pss_one (ps_set (i := 1) sc__law_pure.nd rfl (.inl rfl) (pe_sortSet rfl (pe_op op_cat (pe_lc (own := [("_law_own", 4)]) (g := (gName 4)) (tt := (tTest (tOp rNe (tVar 4) (tOp (rIxT K) (tVar 3) (tC (.int 1)))))) (te := (tVar 4)) rfl sc__law_pure.nd (pi_list (pv 1)) (blkOk_by (N := ["_law_ways_so", "_law_found", "_law_turn", "_law_two_so", "_law_own"]) (sc := defScope (top 84)) (by decide +kernel)) (fun _ _ _ _ _ => (pg_name (i := 4) sc__law_pure.nd rfl (.inl rfl))) (fun _ _ _ _ _ => pts_one (pt_cmpR op_ne (pv 4) (pe_ix ix_tup (pv 3) pe_int (fun _ _ => rfl)) (nomark _))) (fun _ _ _ _ _ => (pv 4))) (pe_lst (pa_cons (pe_ok O__law_seen hr rfl pass0 (pa_cons (pe_ix ix_tup (pv 3) pe_int (fun _ _ => rfl)) (pa_cons (pe_ix ix_tup (pv 3) pe_int (fun _ _ => rfl)) pa_nil))) pa_nil))) rfl B.sorted rfl B.set))))))
    (pss_one (ps_ret (pe_callTy call_tuple_of (by rfl) B.tuple (by decide +kernel) (pa_cons (pv 1) pa_nil)))))), ?_⟩
  obtain ⟨t, l, n, rfl, ht, wl, hl, hn, hs, q⟩ := h
  have fin : ∀ {σ : L2.St} {H1 : Hp} {f : Addr} {m : List W}, σ[1]? = some (some (.ref f)) → H1 f = some (.lst (Ss m)) → Ex H H1 → Ways m → m.length ≤ l.length → Shr n m → ∀ D : Ends, D.rt = Q → tRet (tCB (rTupS K) (tCons (tVar 1) tNil)) D σ H1 := fun s hf e wm hm sm D hD =>
    s_retU (eu_tupL (ev_var s) (sq_of hf)) fun p H2 hp e2 h2 => by
      rw [hD]
      exact q _ wm hm sm p H2 (fresh_back e hp) (e.trans e2) h2
  refine q_asgL (el_sortSet (l := l) (ev_var rfl) (.inr ht) (by omega)) fun f H1 hf e1 h1 => ?_
  have hsum : EvA (tCons (tOp (rI0 fun i j => .int (i + j)) (tC (.int 1)) (tCB (rSum K) (tCons (tLc (iTup K (tVar 0)) (gName 4) tYes (tCB rLenStr (tCons (tVar 4) tNil)) [4]) tNil))) tNil) [some (.ref t), some (.ref f), none, none, none] H1 [.int (1 + ((tot l : Nat) : Int))] := by
    refine ea_cons (ev_addI ev_c (ev_is (ev_sumN (ns := l.map fun w => (w.length : Int)) ?_) (by rw [tot_int]))) ea_nil
    rw [List.map_map]
    exact el_lcV (l := l) (fun w => .int (w.length : Int)) (ei_tup (ev_var rfl) (ex_t e1 ht)) (by omega) (fun x => rfl) fun w hw H2 e2 => ev_lenS (ev_var rfl) (by have := hs w hw; omega)
  have htl := tot_le hs
  have hmul : l.length * n ≤ 62 * 1000 := Nat.mul_le_mul (by omega) hn
  refine q_forR1 hsum ⟨by omega, by omega⟩ (fun i σ H' => ∃ f m y2 y3 y4, σ = [some (.ref t), some (.ref f), y2, y3, y4] ∧ Ex H H' ∧ H' f = some (.lst (Ss m)) ∧ Ways m ∧ m.length ≤ l.length ∧ Shr n m) (fun H2 e2 => ⟨f, setOf l, _, _, _, rfl, e1.trans e2, e2 _ _ h1, fun w hw => wl w (mem_setOf.mp hw), len_setOf l, fun w hw => hs w (mem_setOf.mp hw)⟩) (fun i σ H' hi ⟨f, m, y2, y3, y4, hσ, e, hm, wm, lm, sm⟩ => ?_) fun σ H' ⟨f, m, y2, y3, y4, hσ, e, hm, wm, lm, sm⟩ => ?_
  · subst hσ
    refine ⟨.ref f, rfl, f, m, rfl, sq_of hm, wm, by omega, sm.mono (by omega), fun H2 e2 => ?_, fun a b ha hb hab hp p H2 hpf e2 h2 => ?_⟩
    · refine q_when (et_is (b := true) (et_test (ev_isN (x := .non) (ev_var rfl))) rfl) (fun _ H3 e3 => ?_) (fun z => nomatch z)
      exact fin rfl ((e2.trans e3) _ _ hm) ((e.trans e2).trans e3) wm lm sm _ rfl
    · refine q_when (et_is (b := false) (et_test (ev_isN (x := .ref p) (ev_var rfl))) rfl) (fun z => nomatch z) fun _ H3 e3 => ?_
      have h3 := e3 _ _ h2
      have hm3 := (e2.trans e3) _ _ hm
      have wa := wm a ha
      have wb := wm b hb
      have hne : (m.filter fun w => !decide (w = b)).length + 1 ≤ m.length := by
        have := len_filter (fun w => !decide (w = b)) m
        have h1 : 0 < (m.filter fun w => !!decide (w = b)).length := List.length_pos_iff.mpr fun z => by
          have : b ∈ m.filter fun w => !!decide (w = b) := List.mem_filter.mpr ⟨hb, by simp⟩
          rw [z] at this
          cases this
        omega
      have hsnl : (sn b a).length ≤ n := by
        have := sn_short wa.1 wb.1 wa.2.1 hp hab
        have := sm b hb
        omega
      refine s_asgL (el_sortSetN (l := (m.filter fun w => !decide (w = b)) ++ [sn b a]) ?_ ?_) fun g H4 hg e4 h4 => ⟨g, setOf ((m.filter fun w => !decide (w = b)) ++ [sn b a]), _, _, _, rfl, ((e.trans e2).trans e3).trans e4, h4, fun w hw => ?_, ?_, fun w hw => ?_⟩
      · have hlc : EvL (tLc (iList K (tVar 1)) (gName 4) (tTest (tOp rNe (tVar 4) (tOp (rIxT K) (tVar 3) (tC (.int 1))))) (tVar 4) [4]) [some (.ref t), some (.ref f), some (.int (i : Int)), some (.ref p), y4] H3 (Ss (m.filter fun w => !decide (w = b))) := el_lcF (l := m) (fun w => !decide (w = b)) (ei_list (ev_var rfl) (sq_of hm3)) (by omega) (fun x => rfl) fun w hw H5 e5 => ⟨et_test (ev_neS (ev_var rfl) (ev_op (ev_var rfl) ev_c (rv_ixT (xs := [S a, S b]) (st_of (e5 _ _ h3)) rfl))), ev_var rfl⟩
        have hl1 : EvL (tLst (tCons (tCall sp__law_seen [] E0 (tCons (tOp (rIxT K) (tVar 3) (tC (.int 1))) (tCons (tOp (rIxT K) (tVar 3) (tC (.int 0))) tNil))) tNil)) [some (.ref t), some (.ref f), some (.int (i : Int)), some (.ref p), y4] H3 (Ss [sn b a]) := el_lst (ea_cons (ev_s2 (a := b) (b := a) (ev_op (ev_var rfl) ev_c (rv_ixT (xs := [S a, S b]) (st_of h3) rfl)) (ev_op (ev_var rfl) ev_c (rv_ixT (xs := [S a, S b]) (st_of h3) rfl)) ⟨wb, wa, by have := sm b hb; omega, by have := sm a ha; omega⟩) ea_nil) (by show 1 ≤ 100000; decide)
        refine el_cast (el_catN hlc hl1 ?_) (by unfold Ss; rw [List.map_append])
        rw [List.length_map, List.length_map]
        show _ + 1 ≤ _
        omega
      · rw [List.length_append]
        show _ + 1 < 64
        omega
      · rcases List.mem_append.mp (mem_setOf.mp hw) with hw | hw
        · exact wm w (List.mem_filter.mp hw).1
        · rw [List.mem_singleton.mp hw]
          exact wb.sn wa
      · refine Nat.le_trans (len_setOf _) ?_
        rw [List.length_append]
        show _ + 1 ≤ _
        omega
      · rcases List.mem_append.mp (mem_setOf.mp hw) with hw | hw
        · exact sm w (List.mem_filter.mp hw).1
        · rw [List.mem_singleton.mp hw]
          exact hsnl
  · subst hσ
    exact fin rfl hm e wm lm sm _ rfl
end
end Mir
/-! part L3 -/
set_option Elab.async false
set_option linter.all false
set_option maxRecDepth 100000
set_option maxHeartbeats 4000000
/-! The walk: the law draws rows and ways. -/
namespace Mir
open PySem PySem.Spec PyProof.Rows L2 Evl
abbrev sp__law_row : Sp := fun vs H Q _ => ∃ (b : Addr) (many longest c : Nat), vs = [.ref b, .int (many : Int), .int (longest : Int)] ∧ 2 ≤ many ∧ many ≤ 8 ∧ longest ≤ 10 ∧ BoxAt H b c ∧ c ≤ 90000 ∧ ∀ x H2, Roo x → x.length ≤ longest → Ko b H H2 → BoxAt H2 b (c + 12) → Q (S x) H2
abbrev sp__law_way : Sp := fun vs H Q _ => ∃ (b : Addr) (many longest c : Nat), vs = [.ref b, .int (many : Int), .int (longest : Int)] ∧ 2 ≤ many ∧ many ≤ 8 ∧ 1 ≤ longest ∧ longest ≤ 10 ∧ BoxAt H b c ∧ c ≤ 80000 ∧ ∀ x H2, Way x → x.length ≤ longest → Ko b H H2 → BoxAt H2 b (c + 13) → Q (S x) H2
theorem row_snoc {r : W} {c : Nat} (h : Row r) (hn : ¬ [c] = r.drop (r.length - 1)) : Row (r ++ [c]) := by
  have h1 := psh_if r c
  rw [if_neg (fun z => hn z.symm)] at h1
  rw [h1]
  exact psh_row h c
section
variable {K : PySem.W.Frag} {σ : L2.St} {H H' : Hp} {ta tb te : TE}
theorem ei_lets {a : W} (h : Ev te σ H (S a)) : EvI (iStr te) σ H (Ss (lets a)).length (PAt (Ss (lets a))) := by
  unfold lets Ss
  rw [List.length_map, List.length_map]
  intro H1 e R q
  refine ei_str h H1 e R fun J H2 e2 ⟨G, Y, w, hG, hy⟩ => q J H2 e2 ⟨G, Y, w, hG, fun i H1 v H2 hi y => ?_⟩
  obtain ⟨e3, c, h1, rfl⟩ := hy i H1 v H2 hi y
  refine ⟨e3, ?_⟩
  show ((a.map fun c => [c]).map S)[i]? = _
  rw [List.getElem?_map, List.getElem?_map, h1]
  rfl
theorem mem_lets {a : W} {x : W} (h : x ∈ lets a) : ∃ c ∈ a, x = [c] := by
  obtain ⟨c, hc, rfl⟩ := List.mem_map.mp h
  exact ⟨c, hc, rfl⟩
end
theorem letters_in {n c : Nat} (h : c ∈ lettersW.take n) : 97 ≤ c ∧ c ≤ 104 := by
  have h1 := List.mem_of_mem_take h
  unfold lettersW at h1
  simp at h1
  omega
theorem lets_two {n : Nat} (h : 2 ≤ n) : [97] ∈ lets (lettersW.take n) ∧ [98] ∈ lets (lettersW.take n) := by
  obtain ⟨k, rfl⟩ : ∃ k, n = k + 2 := ⟨n - 2, by omega⟩
  exact ⟨List.mem_cons_self .., List.mem_cons_of_mem _ (List.mem_cons_self ..)⟩
section
variable {P : Program} {w : World} {K : PySem.W.Frag} {mg : Str → Option Value} {base : Heap}
theorem sc__law_row : FnScope ["_law_box_here", "_law_many", "_law_longest", "_law_found", "_law_turn", "_law_own"] ["_law_box_here", "_law_many", "_law_longest"] (defScope (top 85)) := ⟨rfl, rfl, rfl, by decide +kernel, rfl, by decide +kernel, by decide +kernel⟩
theorem ok__law_row (B : Bu mg) (T : Cst K mg) (O__law_take : Ok P w K mg base CX0 1 "_law_take" sp__law_take) (O__law_of : Ok P w K mg base CX0 2 "_law_of" sp__law_of) (D : Dn K mg "_law_row" 85) : Ok P w K mg base CX0 3 "_law_row" sp__law_row := by
  refine D.ok sc__law_row (fun _ _ _ _ _ _ us hl => match us, hl with | [_, _, _], _ => rfl) (by rintro vs H Q E ⟨_, _, _, _, rfl, _⟩; rfl) fun f cdv A outer s H vs Q E hr h => ⟨_, (pss_cons (ps_set (i := 3) sc__law_row.nd rfl (.inr rfl) (pe_st (l := [])))
    (pss_cons (ps_for PassesOwn.never rfl (pi_range1 rfl B.range (pa_cons (pe_ok O__law_take hr rfl pass0 (pa_cons (pv 0) (pa_cons (pe_op op_add (pv 2) pe_int) pa_nil))) pa_nil)) (pg_name (i := 4) sc__law_row.nd rfl (.inl rfl))
      (pss_one (ps_set (i := 3) sc__law_row.nd rfl (.inr rfl) (pe_op op_add_str (pv 3) (pe_ok O__law_of hr rfl pass0 (pa_cons (pv 0) (pa_cons (pe_lc (own := [("_law_own", 5)]) (g := (gName 5)) (tt := (tTest (tOp rNe (tVar 5) (tSl rSlS (tVar 3) (tPart (tUn (rU fun i => .int (-i)) (tC (.int 1)))) tNoPart)))) (te := (tVar 5)) rfl sc__law_row.nd (pi_str (pe_slice sl_str (pe_st (l := [97, 98, 99, 100, 101, 102, 103, 104])) po_none (po_some (pv 1)))) (blkOk_by (N := ["_law_box_here", "_law_many", "_law_longest", "_law_found", "_law_turn", "_law_own"]) (sc := defScope (top 85)) (by decide +kernel)) (fun _ _ _ _ _ => (pg_name (i := 5) sc__law_row.nd rfl (.inl rfl))) (fun _ _ _ _ _ => pts_one (pt_cmpR op_ne (pv 5) (pe_slice sl_str (pv 3) (po_some (pe_un un_neg pe_int)) po_none) (nomark _))) (fun _ _ _ _ _ => (pv 5))) pa_nil)))))))
    (pss_one (ps_ret (pv 3))))), ?_⟩
  obtain ⟨b, many, longest, c, rfl, hm, hm8, hl, hb, hc, q⟩ := h
  refine q_asg (v := S []) ev_c fun H1 e1 => ⟨.ref b, rfl, .int (longest : Int), rfl, _, _, rfl, rfl, b, c, longest + 1, rfl, Nat.succ_pos _, by omega, hb.mono e1 (Nat.le_refl _), by omega, fun v H2 hv k2 hb2 => ⟨(v : Int), rfl, by omega, by omega,
    for_range (lo := 0) (n := v) (fun i σ H' => ∃ r y4 y5, σ = [some (.ref b), some (.int (many : Int)), some (.int (longest : Int)), some (S r), y4, y5] ∧ i ≤ v ∧ Roo r ∧ r.length ≤ i ∧ Ko b H H' ∧ BoxAt H' b (c + 1 + i)) ⟨[], _, _, rfl, Nat.zero_le _, ⟨trivial, fun _ h => nomatch h⟩, Nat.le_refl _, (Ko.of e1).trans k2, hb2⟩ (fun i σ H' hi p => ?_) fun σ H' p => ?_⟩⟩
  · obtain ⟨r, y4, y5, rfl, hiv, rr, hrl, kk, hb'⟩ := p
    have hlc : EvL (tLc (iStr (tSl rSlS (tC (S [97, 98, 99, 100, 101, 102, 103, 104])) tNoPart (tPart (tVar 1)))) (gName 5) (tTest (tOp rNe (tVar 5) (tSl rSlS (tVar 3) (tPart (tUn (rU fun i => .int (-i)) (tC (.int 1)))) tNoPart))) (tVar 5) [5]) [some (.ref b), some (.int (many : Int)), some (.int (longest : Int)), some (S r), some (.int (0 + (i : Int))), y5] H' (Ss ((lets (lettersW.take many)).filter fun x => !decide (x = r.drop (r.length - 1)))) :=
      el_lcF (l := lets (lettersW.take many)) (fun x => !decide (x = r.drop (r.length - 1))) (ei_lets (ev_to (ev_is (v := S lettersW) ev_c rfl) (ev_var rfl) (by decide))) (by unfold lets; rw [List.length_map, List.length_take]; exact Nat.le_trans (Nat.min_le_right _ _) (by decide)) (fun x => rfl) fun x hx H2 e2 => ⟨et_test (ev_neS (ev_var rfl) (ev_lastS (ev_var rfl) (ev_neg ev_c) (by omega))), ev_var rfl⟩
    have hsub : ∀ x ∈ (lets (lettersW.take many)).filter fun x => !decide (x = r.drop (r.length - 1)), ∃ d, x = [d] ∧ 97 ≤ d ∧ d ≤ 104 ∧ Row (r ++ [d]) := fun x hx => by
      obtain ⟨h1, h2⟩ := List.mem_filter.mp hx
      obtain ⟨d, hd, rfl⟩ := mem_lets h1
      simp only [Bool.not_eq_true', decide_eq_false_iff_not] at h2
      have := letters_in hd
      exact ⟨d, rfl, this.1, this.2, row_snoc rr.1 h2⟩
    have hne : (lets (lettersW.take many)).filter (fun x => !decide (x = r.drop (r.length - 1))) ≠ [] := fun z => by
      obtain ⟨h1, h2⟩ := lets_two hm
      have n1 : [97] ∉ (lets (lettersW.take many)).filter (fun x => !decide (x = r.drop (r.length - 1))) := by rw [z]; exact fun h => nomatch h
      have n2 : [98] ∉ (lets (lettersW.take many)).filter (fun x => !decide (x = r.drop (r.length - 1))) := by rw [z]; exact fun h => nomatch h
      have a1 : [97] = r.drop (r.length - 1) := by
        by_cases e : [97] = r.drop (r.length - 1)
        · exact e
        · exact absurd (List.mem_filter.mpr ⟨h1, by simp only [Bool.not_eq_true', decide_eq_false_iff_not]; exact e⟩) n1
      have a2 : [98] = r.drop (r.length - 1) := by
        by_cases e : [98] = r.drop (r.length - 1)
        · exact e
        · exact absurd (List.mem_filter.mpr ⟨h2, by simp only [Bool.not_eq_true', decide_eq_false_iff_not]; exact e⟩) n2
      rw [← a2] at a1
      cases a1
    have hlen : ((lets (lettersW.take many)).filter fun x => !decide (x = r.drop (r.length - 1))).length ≤ 100 := by
      refine Nat.le_trans (List.length_filter_le _ _) ?_
      unfold lets
      rw [List.length_map, List.length_take]
      exact Nat.le_trans (Nat.min_le_right _ _) (by decide)
    generalize (lets (lettersW.take many)).filter (fun x => !decide (x = r.drop (r.length - 1))) = m at hlc hsub hne hlen
    refine ⟨S r, rfl, .ref b, rfl, hlc H' (Ex.refl _) _ fun p H2 hp e2 h2 => ⟨b, p, c + 1 + i, m, rfl, ?_, .inl h2, hne, hlen, hb'.mono e2 (Nat.le_refl _), by omega, fun x H3 hx k3 hb3 => ?_⟩⟩
    · obtain ⟨o, ho⟩ := hb'.some
      exact Ne.symm (ne_of_none ho hp)
    · obtain ⟨d, rfl, d1, d2, rd⟩ := hsub x hx
      refine ⟨ST r, ST [d], rfl, rfl, ?_, ?_⟩
      · rw [ST_len, ST_len]
        exact big (by show r.length + 1 ≤ _; omega)
      · rw [ST_app]
        refine ⟨r ++ [d], _, _, rfl, by omega, ⟨rd, fun e he => ?_⟩, ?_, (kk.trans (Ko.of e2)).trans k3, hb3⟩
        · rcases List.mem_append.mp he with he | he
          · exact rr.2 e he
          · rw [List.mem_singleton.mp he]
            exact ⟨d1, d2⟩
        · rw [List.length_append]
          show r.length + 1 ≤ _
          omega
  · obtain ⟨r, y4, y5, rfl, hiv, rr, hrl, kk, hb'⟩ := p
    exact s_ret (ev_var rfl) fun H3 e3 => q r H3 rr (by omega) (kk.trans (Ko.of e3)) (hb'.mono e3 (by omega))
theorem sc__law_way : FnScope ["_law_box_here", "_law_many", "_law_longest", "_law_found"] ["_law_box_here", "_law_many", "_law_longest"] (defScope (top 86)) := ⟨rfl, rfl, rfl, by decide +kernel, rfl, by decide +kernel, by decide +kernel⟩
theorem ok__law_way (B : Bu mg) (T : Cst K mg) (O__law_row : Ok P w K mg base CX0 3 "_law_row" sp__law_row) (O__law_of : Ok P w K mg base CX0 2 "_law_of" sp__law_of) (D : Dn K mg "_law_way" 86) : Ok P w K mg base CX0 4 "_law_way" sp__law_way := by
  refine D.ok sc__law_way (fun _ _ _ _ _ _ us hl => match us, hl with | [_, _, _], _ => rfl) (by rintro vs H Q E ⟨_, _, _, _, rfl, _⟩; rfl) fun f cdv A outer s H vs Q E hr h => ⟨_, (pss_cons (ps_set (i := 3) sc__law_way.nd rfl (.inl rfl) (pe_ok O__law_row hr rfl pass0 (pa_cons (pv 0) (pa_cons (pv 1) (pa_cons (pv 2) pa_nil)))))
    (pss_one (ps_ret (pe_ifExp (pt_cmpR op_ne (pv 3) (pe_st (l := [])) (nomark _)) (pv 3) (pe_ok O__law_of hr rfl pass0 (pa_cons (pv 0) (pa_cons (pe_callTy (call_list_S rfl) (by rfl) B.list (by decide +kernel) (pa_cons (pe_slice sl_str (pe_st (l := [97, 98, 99, 100, 101, 102, 103, 104])) po_none (po_some (pv 1))) pa_nil)) pa_nil))))))), ?_⟩
  obtain ⟨b, many, longest, c, rfl, hm, hm8, h1, hl, hb, hc, q⟩ := h
  refine ⟨.ref b, rfl, .int (many : Int), rfl, .int (longest : Int), rfl, b, many, longest, c, rfl, hm, hm8, hl, hb, by omega, fun x H2 rx hx k2 hb2 => ?_⟩
  have ht : EvT (tTest (tOp rNe (tVar 3) (tC (S [])))) [some (.ref b), some (.int (many : Int)), some (.int (longest : Int)), some (S x)] H2 (!decide (x = [])) := et_test (ev_neS (ev_var rfl) ev_c)
  refine ht H2 (Ex.refl _) _ fun H3 e3 => ?_
  by_cases hx0 : x = []
  · rw [decide_eq_true hx0]
    have hls : EvL (tCB rListStr (tCons (tSl rSlS (tC (S [97, 98, 99, 100, 101, 102, 103, 104])) tNoPart (tPart (tVar 1))) tNil)) [some (.ref b), some (.int (many : Int)), some (.int (longest : Int)), some (S x)] H3 (Ss (lets (lettersW.take many))) := el_letters (ev_to (ev_is (v := S lettersW) ev_c rfl) (ev_var rfl) (by decide)) (by rw [List.length_take]; exact Nat.le_trans (Nat.min_le_right _ _) (by decide))
    refine iteF ⟨.ref b, rfl, hls H3 (Ex.refl _) _ fun p H4 hp e4 h4 => ⟨b, p, c + 12, lets (lettersW.take many), rfl, ?_, .inl h4, ?_, ?_, hb2.mono (e3.trans e4) (Nat.le_refl _), by omega, fun y H5 hy k5 hb5 => ?_⟩⟩
    · obtain ⟨o, ho⟩ := hb2.some
      exact Ne.symm (ne_of_none (e3 _ _ ho) hp)
    · intro z
      have := (lets_two hm).1
      rw [z] at this
      cases this
    · unfold lets
      rw [List.length_map, List.length_take]
      exact Nat.le_trans (Nat.min_le_right _ _) (by decide)
    · obtain ⟨d, hd, rfl⟩ := mem_lets hy
      have hd' := letters_in hd
      exact q [d] H5 ⟨trivial, List.cons_ne_nil _ _, fun e he => by rw [List.mem_singleton.mp he]; exact hd'⟩ h1 ((k2.trans (Ko.of (e3.trans e4))).trans k5) hb5
  · rw [decide_eq_false hx0]
    exact iteT ⟨S x, rfl, q x H3 ⟨rx.1, hx0, rx.2⟩ hx (k2.trans (Ko.of e3)) (hb2.mono e3 (by omega))⟩
end
end Mir
/-! part L4 -/
set_option Elab.async false
set_option linter.all false
set_option maxRecDepth 100000
set_option maxHeartbeats 4000000
/-! The walk: the law's deeds, one by one. -/
namespace Mir
open PySem PySem.Spec PyProof.Rows L2 Evl
/-- a deed as a tuple of texts -/
def dT : Req → List W
  | .bare k => [k.w]
  | .one k x => [k.w, x]
  | _ => []
/-- what a drawn deed is -/
structure DOk (l : List W) (r : Req) : Prop where
  deed : isDeed r = true
  way : ∀ k x, r = .one k x → Way x
  short : ∀ k x, r = .one k x → k = .look ∨ k = .hang → x.length ≤ 3
  few : ∀ k x, r = .one k x → x.length ≤ 3 ∨ x ∈ l
abbrev sp__law_next (K : PySem.W.Frag) : Sp := fun vs H Q _ => ∃ (wa d : Addr) (l : List W) (r : Req) (n : Nat), vs = [.ref wa, .ref d] ∧ H wa = some (.tup (Ss l)) ∧ H d = some (.tup (Ss (dT r))) ∧ DOk l r ∧ Ways l ∧ l.length ≤ 60 ∧ n ≤ 900 ∧ Shr n l ∧ Rv .non H Q ∧ ∀ l', Ways l' → l'.length ≤ l.length + 1 → Shr (n + 6) l' → Rt (Ss l') H Q
abbrev sp__law_line (K : PySem.W.Frag) : Sp := fun vs H Q _ => ∃ (d : Addr) (r : Req), vs = [.ref d] ∧ H d = some (.tup (Ss (dT r))) ∧ isDeed r = true ∧ r.wf ∧ Rv (S r.line) H Q
abbrev sp__law_did (C : Addr) : Sp := fun vs H Q _ => ∃ (r : Req) (a dx p d : Addr) (s : GS) (k : Nat), vs = [.ref a, .ref d] ∧ isDeed r = true ∧ r.wf ∧ H d = some (.tup (Ss (dT r))) ∧ GI k s ∧ k < 63 ∧ GAt C H a dx p s.1 s.2 ∧
  ∀ H', Keep a p H H' → GAt C H' a dx p (deed r s).1.1 (deed r s).1.2 → Q (.bl (decide ((deed r s).2 = doneW))) H'
section
variable {K : PySem.W.Frag} {σ : L2.St} {H H' : Hp} {ta tb te : TE}
theorem eq_catA {xs ys : List V} (h : EvQ K ta σ H xs) (h2 : ∀ H1, Ex H H1 → EvQ K tb σ H1 ys) (hz : xs.length + ys.length ≤ 1000000) : EvQ K (tOp (rCatA K) ta tb) σ H (xs ++ ys) := fun H1 e Q q => h H1 e _ fun p H2 e2 hx => h2 H2 (e.trans e2) H2 (Ex.refl H2) _ fun r H3 e3 hy =>
  ⟨p, r, xs, ys, rfl, rfl, ex_t e3 hx, hy, big hz, fun z => q r H3 (e2.trans e3) (by rw [z]; exact hy), fun _ z => q p H3 (e2.trans e3) (by rw [z, List.append_nil]; exact ex_t e3 hx), fun _ _ g hg => q g _ ((e2.trans e3).trans (Ex.new hg)) (st_of upd_same)⟩
theorem el_sortedQ {l : List W} (h : EvQ K te σ H (Ss l)) (hl : l.length < 64) : EvL (tCB (rSortedA K) (tCons te tNil)) σ H (Ss (srt l)) := fun H1 e Q q => h H1 e _ fun p H2 e2 hx =>
  ⟨p, l.map ST, rfl, .inr (by rw [Ss_map]; exact hx), by rw [List.length_map]; exact hl, fun ys p pm hs hp => by
    rw [sorted_srt pm hs]
    exact q p _ (fresh_back e2 hp) (e2.trans (Ex.new hp)) upd_same⟩
end
section
variable {P : Program} {w : World} {K : PySem.W.Frag} {mg : Str → Option Value} {base : Heap} {C CK CN CD : Addr}
theorem sc__law_next : FnScope ["_law_ways_so", "_law_deed_so", "_law_word_so", "_law_own"] ["_law_ways_so", "_law_deed_so"] (defScope (top 87)) := ⟨rfl, rfl, rfl, by decide +kernel, rfl, by decide +kernel, by decide +kernel⟩
theorem ok__law_next (B : Bu mg) (T : Cst K mg) (O__law_seen : Ok P w K mg base CX0 2 "_law_seen" sp__law_seen) (O__law_pure : Ok P w K mg base CX0 3 "_law_pure" (sp__law_pure K)) (D : Dn K mg "_law_next" 87) : Ok P w K mg base CX0 4 "_law_next" (sp__law_next K) := by
  refine D.ok sc__law_next (fun _ _ _ _ _ _ us hl => match us, hl with | [_, _], _ => rfl) (by rintro vs H Q E ⟨_, _, _, _, _, rfl, _⟩; rfl) fun f cdv A outer s H vs Q E hr h => ⟨_, (pss_cons (ps_set (i := 2) sc__law_next.nd rfl (.inl rfl) (pe_ix ix_tup (pv 1) pe_int (fun _ _ => rfl)))
    (pss_cons (ps_if (pt_cmpR op_eq (pv 2) (pe_st (l := [104, 97, 110, 103])) (nomark _))
      (pss_one (ps_ret (pe_ifExp (pt_cmpR op_notIn_seq (pe_ix ix_tup (pv 1) pe_int (fun _ _ => rfl)) (pv 0) (by rfl)) (pe_callTy call_tuple_of (by rfl) B.tuple (by decide +kernel) (pa_cons (pe_callB cr_sortedA (by rfl) B.sorted (by decide +kernel) (pa_cons (pe_op op_catA (pv 0) (pe_tup (pa_cons (pe_ix ix_tup (pv 1) pe_int (fun _ _ => rfl)) pa_nil))) pa_nil)) pa_nil)) pe_non)))
      pss_nil)
    (pss_cons (ps_if (pt_cmpR op_eq (pv 2) (pe_st (l := [116, 97, 107, 101])) (nomark _))
      (pss_one (ps_ret (pe_ifExp (pt_cmpR op_in_seq (pe_ix ix_tup (pv 1) pe_int (fun _ _ => rfl)) (pv 0) (by rfl)) (pe_callTy call_tuple_of (by rfl) B.tuple (by decide +kernel) (pa_cons (pe_lc (own := [("_law_own", 3)]) (g := (gName 3)) (tt := (tTest (tOp rNe (tVar 3) (tOp (rIxT K) (tVar 1) (tC (.int 1)))))) (te := (tVar 3)) rfl sc__law_next.nd (pi_tup (pv 0)) (blkOk_by (N := ["_law_ways_so", "_law_deed_so", "_law_word_so", "_law_own"]) (sc := defScope (top 87)) (by decide +kernel)) (fun _ _ _ _ _ => (pg_name (i := 3) sc__law_next.nd rfl (.inl rfl))) (fun _ _ _ _ _ => pts_one (pt_cmpR op_ne (pv 3) (pe_ix ix_tup (pv 1) pe_int (fun _ _ => rfl)) (nomark _))) (fun _ _ _ _ _ => (pv 3))) pa_nil)) pe_non)))
      pss_nil)
    (pss_cons (ps_if (pt_cmpR op_eq (pv 2) (pe_st (l := [108, 111, 111, 107])) (nomark _))
      (pss_one (ps_ret (pe_callTy call_tuple_of (by rfl) B.tuple (by decide +kernel) (pa_cons (pe_callB cr_sortedA (by rfl) B.sorted (by decide +kernel) (pa_cons (pe_lc (own := [("_law_own", 3)]) (g := (gName 3)) (tt := tYes) (te := (tCall sp__law_seen [] E0 (tCons (tVar 3) (tCons (tOp (rIxT K) (tVar 1) (tC (.int 1))) tNil)))) rfl sc__law_next.nd (pi_tup (pv 0)) (blkOk_by (N := ["_law_ways_so", "_law_deed_so", "_law_word_so", "_law_own"]) (sc := defScope (top 87)) (by decide +kernel)) (fun _ _ _ _ _ => (pg_name (i := 3) sc__law_next.nd rfl (.inl rfl))) (fun _ _ _ _ _ => pts_nil) (fun _ _ _ _ _ => (pe_ok O__law_seen hr rfl pass0 (pa_cons (pv 3) (pa_cons (pe_ix ix_tup (pv 1) pe_int (fun _ _ => rfl)) pa_nil))))) pa_nil)) pa_nil))))
      pss_nil)
    (pss_one (ps_ret (pe_ok O__law_pure hr rfl pass0 (pa_cons (pv 0) pa_nil)))))))), ?_⟩
  obtain ⟨wa, d, l, r, n, rfl, hw, hd, dk, wl, hl, hn, hs, qn, qt⟩ := h
  have wordT : ∀ (H' : Hp) (u : W), EvT (tTest (tOp rEq (tVar 2) (tC (S u)))) [some (.ref wa), some (.ref d), some (S r.word), none] H' (decide (r.word = u)) := fun H' u => et_test (ev_eqS (ev_var rfl) ev_c)
  match r, hd, dk, wordT with
  | .one .hang x, hd, dk, wordT =>
    refine q_asg (v := S (Req.one .hang x).word) (ev_op (ev_var rfl) ev_c (rv_ixT (st_of hd) rfl)) fun H0 e0 => ?_
    refine q_when (et_is (wordT _ _) (b := true) rfl) (fun _ H1 e1 => ?_) (fun z => nomatch z)
    have e01 := e0.trans e1
    have hx : ∀ {σ : L2.St} {H2 : Hp}, Ex H H2 → σ[1]? = some (some (.ref d)) → Ev (tOp (rIxT K) (tVar 1) (tC (.int 1))) σ H2 (S x) := fun e s => ev_op (ev_var s) ev_c (rv_ixT (xs := [S KO.hang.w, S x]) (st_of (e _ _ hd)) rfl)
    have wx := dk.way _ _ rfl
    have sx := dk.short _ _ rfl (.inr rfl)
    by_cases hin : x ∈ l
    · exact s_ret (ev_ifF (et_is (et_test (ev_niSs (hx e01 rfl) (ev_var rfl) (.inr (st_of (e01 _ _ hw))))) (by rw [decide_eq_true hin]; rfl)) ev_c) fun H2 e2 => qn H2 (e01.trans e2)
    · have hlen : (srt (l ++ [x])).length = l.length + 1 := by rw [srt_len, List.length_append]; rfl
      refine s_retU (eu_ifT (et_is (et_test (ev_niSs (hx e01 rfl) (ev_var rfl) (.inr (st_of (e01 _ _ hw))))) (by rw [decide_eq_false hin]; rfl)) (eu_tupN (el_sortedQ (l := l ++ [x]) ?_ (by rw [List.length_append]; show _ + 1 < 64; omega)))) fun p H2 hp e2 h2 => qt (srt (l ++ [x])) (fun w hw => ?_) (by omega) (fun w hw => ?_) p H2 (fresh_back e01 hp) (e01.trans e2) h2
      · have := eq_catA (K := K) (σ := [some (.ref wa), some (.ref d), some (S (Req.one .hang x).word), none]) (H := H1) (xs := Ss l) (ys := Ss [x]) (eq_v (ev_var (i := 0) rfl) (st_of (e01 _ _ hw))) (fun H2 e2 => eq_u (eu_tup (ea_cons (hx (e01.trans e2) rfl) ea_nil) (by show 1 ≤ 100000; decide))) (by rw [List.length_map]; show _ + 1 ≤ _; omega)
        unfold Ss at this ⊢
        rw [List.map_append]
        exact this
      · rcases List.mem_append.mp ((srt_perm _).mem_iff.mp hw) with h | h
        · exact wl w h
        · rw [List.mem_singleton.mp h]
          exact wx
      · rcases List.mem_append.mp ((srt_perm _).mem_iff.mp hw) with h | h
        · have := hs w h
          omega
        · rw [List.mem_singleton.mp h]
          omega
  | .one .take x, hd, dk, wordT =>
    refine q_asg (v := S (Req.one .take x).word) (ev_op (ev_var rfl) ev_c (rv_ixT (st_of hd) rfl)) fun H0 e0 => ?_
    refine q_when (et_is (wordT _ _) (b := false) rfl) (fun z => nomatch z) fun _ H1 e1 => ?_
    refine q_when (et_is (wordT _ _) (b := true) rfl) (fun _ H2 e2 => ?_) (fun z => nomatch z)
    have e02 := (e0.trans e1).trans e2
    have hx : ∀ {σ : L2.St} {H2 : Hp}, Ex H H2 → σ[1]? = some (some (.ref d)) → Ev (tOp (rIxT K) (tVar 1) (tC (.int 1))) σ H2 (S x) := fun e s => ev_op (ev_var s) ev_c (rv_ixT (xs := [S KO.take.w, S x]) (st_of (e _ _ hd)) rfl)
    by_cases hin : x ∈ l
    · have hf := List.length_filter_le (fun w => !decide (w = x)) l
      refine s_retU (eu_ifT (et_is (et_test (ev_inSs (hx e02 rfl) (ev_var rfl) (.inr (st_of (e02 _ _ hw))))) (decide_eq_true hin)) (eu_tupN (el_lcF (l := l) (fun w => !decide (w = x)) (ei_tup (ev_var rfl) (st_of (e02 _ _ hw))) (by omega) (fun x => rfl) fun w hw H3 e3 => ⟨et_test (ev_neS (ev_var rfl) (hx (e02.trans e3) rfl)), ev_var rfl⟩))) fun p H3 hp e3 h3 => qt _ (fun w hw => wl w (List.mem_filter.mp hw).1) (by omega) (fun w hw => by have := hs w (List.mem_filter.mp hw).1; omega) p H3 (fresh_back e02 hp) (e02.trans e3) h3
    · exact s_ret (ev_ifF (et_is (et_test (ev_inSs (hx e02 rfl) (ev_var rfl) (.inr (st_of (e02 _ _ hw))))) (decide_eq_false hin)) ev_c) fun H3 e3 => qn H3 (e02.trans e3)
  | .one .look x, hd, dk, wordT =>
    refine q_asg (v := S (Req.one .look x).word) (ev_op (ev_var rfl) ev_c (rv_ixT (st_of hd) rfl)) fun H0 e0 => ?_
    refine q_when (et_is (wordT _ _) (b := false) rfl) (fun z => nomatch z) fun _ H1 e1 => ?_
    refine q_when (et_is (wordT _ _) (b := false) rfl) (fun z => nomatch z) fun _ H2 e2 => ?_
    refine q_when (et_is (wordT _ _) (b := true) rfl) (fun _ H3 e3 => ?_) (fun z => nomatch z)
    have e03 := ((e0.trans e1).trans e2).trans e3
    have hx : ∀ {σ : L2.St} {H2 : Hp}, Ex H H2 → σ[1]? = some (some (.ref d)) → Ev (tOp (rIxT K) (tVar 1) (tC (.int 1))) σ H2 (S x) := fun e s => ev_op (ev_var s) ev_c (rv_ixT (xs := [S KO.look.w, S x]) (st_of (e _ _ hd)) rfl)
    have wx := dk.way _ _ rfl
    have sx := dk.short _ _ rfl (.inl rfl)
    refine s_retU (eu_tupN (el_sortedN (l := l.map fun w => sn w x) (el_lcM (l := l) (fun w => sn w x) (ei_tup (ev_var rfl) (st_of (e03 _ _ hw))) (by omega) (fun x => rfl) fun w hw H4 e4 => ev_s2 (ev_var rfl) (hx (e03.trans e4) rfl) ⟨wl w hw, wx, by have := hs w hw; omega, by omega⟩) (by rw [List.length_map]; omega))) fun p H4 hp e4 h4 => qt _ (fun w hw => ?_) (by rw [srt_len, List.length_map]; omega) (fun w hw => ?_) p H4 (fresh_back e03 hp) (e03.trans e4) h4
    · obtain ⟨y, hy, rfl⟩ := List.mem_map.mp ((srt_perm _).mem_iff.mp hw)
      exact (wl y hy).sn wx
    · obtain ⟨y, hy, rfl⟩ := List.mem_map.mp ((srt_perm _).mem_iff.mp hw)
      have h1 := sn_len y x
      have h2 := hs y hy
      omega
  | .bare .tidy, hd, dk, wordT =>
    refine q_asg (v := S (Req.bare .tidy).word) (ev_op (ev_var rfl) ev_c (rv_ixT (st_of hd) rfl)) fun H0 e0 => ?_
    refine q_when (et_is (wordT _ _) (b := false) rfl) (fun z => nomatch z) fun _ H1 e1 => ?_
    refine q_when (et_is (wordT _ _) (b := false) rfl) (fun z => nomatch z) fun _ H2 e2 => ?_
    refine q_when (et_is (wordT _ _) (b := false) rfl) (fun z => nomatch z) fun _ H3 e3 => ?_
    have e03 := ((e0.trans e1).trans e2).trans e3
    exact ⟨.ref wa, rfl, wa, l, n, rfl, st_of (e03 _ _ hw), wl, by omega, by omega, hs, fun l' w1 w2 w3 p H4 hp e4 h4 => qt l' w1 (by omega) (w3.mono (by omega)) p H4 (fresh_back e03 hp) (e03.trans e4) h4⟩
  | .bare .undo, hd, dk, wordT =>
    refine q_asg (v := S (Req.bare .undo).word) (ev_op (ev_var rfl) ev_c (rv_ixT (st_of hd) rfl)) fun H0 e0 => ?_
    refine q_when (et_is (wordT _ _) (b := false) rfl) (fun z => nomatch z) fun _ H1 e1 => ?_
    refine q_when (et_is (wordT _ _) (b := false) rfl) (fun z => nomatch z) fun _ H2 e2 => ?_
    refine q_when (et_is (wordT _ _) (b := false) rfl) (fun z => nomatch z) fun _ H3 e3 => ?_
    have e03 := ((e0.trans e1).trans e2).trans e3
    exact ⟨.ref wa, rfl, wa, l, n, rfl, st_of (e03 _ _ hw), wl, by omega, by omega, hs, fun l' w1 w2 w3 p H4 hp e4 h4 => qt l' w1 (by omega) (w3.mono (by omega)) p H4 (fresh_back e03 hp) (e03.trans e4) h4⟩
  | .bare .ways, _, dk, _ => exact absurd dk.deed (by decide)
  | .bare .makers, _, dk, _ => exact absurd dk.deed (by decide)
  | .one .has x, _, dk, _ => exact absurd dk.deed (by simp [isDeed])
  | .one .chain x, _, dk, _ => exact absurd dk.deed (by simp [isDeed])
  | .two _ _ _, _, dk, _ => exact absurd dk.deed (by simp [isDeed])
  | .path _ _, _, dk, _ => exact absurd dk.deed (by simp [isDeed])
  | .within _, _, dk, _ => exact absurd dk.deed (by simp [isDeed])
theorem line_dT {r : Req} (h : isDeed r = true) : TL.joinL [32] (dT r) = r.line := by
  match r, h with
  | .bare k, _ => rfl
  | .one k x, _ =>
    show k.w ++ ([32] ++ x) = k.w ++ [32] ++ x
    rw [List.append_assoc]
theorem sc__law_line : FnScope ["_law_deed_so"] ["_law_deed_so"] (defScope (top 92)) := ⟨rfl, rfl, rfl, by decide +kernel, rfl, by decide +kernel, by decide +kernel⟩
theorem ok__law_line (B : Bu mg) (T : Cst K mg)  (D : Dn K mg "_law_line" 92) : Ok P w K mg base CX0 1 "_law_line" (sp__law_line K) := by
  refine D.ok sc__law_line (fun _ _ _ _ _ _ us hl => match us, hl with | [_], _ => rfl) (by rintro vs H Q E ⟨_, _, rfl, _⟩; rfl) fun f cdv A outer s H vs Q E hr h => ⟨_, (pss_one (ps_ret (pe_join (pe_st (l := [32])) (pv 0)))), ?_⟩
  obtain ⟨d, r, rfl, hd, hdd, hwf, q⟩ := h
  refine s_ret (v := S r.line) (ev_is (ev_joinV (y := [32]) (l := dT r) ev_c (ev_var rfl) (.inr (st_of hd)) ?_) (by rw [line_dT hdd])) q
  match r, hdd, hwf with
  | .bare k, _, _ => cases k <;> decide
  | .one k x, _, hwf =>
    have h1 : tot (dT (.one k x)) = k.w.length + (x.length + 0) := rfl
    rw [h1]
    have h2 := hwf.2
    have h3 : k.w.length ≤ 5 := by cases k <;> decide
    show _ + 2 * 1 ≤ _
    omega
abbrev asked : List Req := [.bare .ways, .bare .makers, .one .has [97, 98], .one .has [99, 98, 99], .one .chain [98, 97, 98], .within [[97], [98]], .within [[97, 98], [99, 97], [99, 98]]]
abbrev sp__law_asked : Sp := fun vs H Q _ => vs = [] ∧ Rl (Ss (asked.map Req.line)) H Q
theorem sc__law_asked : FnScope [] [] (defScope (top 90)) := ⟨rfl, rfl, rfl, by decide +kernel, rfl, by decide +kernel, by decide +kernel⟩
theorem ok__law_asked (B : Bu mg) (T : Cst K mg)  (D : Dn K mg "_law_asked" 90) : Ok P w K mg base CX0 1 "_law_asked" sp__law_asked := by
  refine D.ok sc__law_asked (fun _ _ _ _ _ _ us hl => match us, hl with | [], _ => rfl) (by rintro vs H Q E ⟨rfl, _⟩; rfl) fun f cdv A outer s H vs Q E hr h => ⟨_, (pss_one (ps_ret (pe_lst (pa_cons (pe_st (l := [119, 97, 121, 115])) (pa_cons (pe_st (l := [109, 97, 107, 101, 114, 115])) (pa_cons (pe_st (l := [104, 97, 115, 32, 97, 98])) (pa_cons (pe_st (l := [104, 97, 115, 32, 99, 98, 99])) (pa_cons (pe_st (l := [99, 104, 97, 105, 110, 32, 98, 97, 98])) (pa_cons (pe_st (l := [119, 105, 116, 104, 105, 110, 32, 97, 44, 32, 98])) (pa_cons (pe_st (l := [119, 105, 116, 104, 105, 110, 32, 97, 98, 44, 32, 99, 97, 44, 32, 99, 98])) pa_nil)))))))))), ?_⟩
  obtain ⟨rfl, q⟩ := h
  exact s_retL (xs := Ss (asked.map Req.line)) (el_lst (ea_cons ev_c (ea_cons ev_c (ea_cons ev_c (ea_cons ev_c (ea_cons ev_c (ea_cons ev_c (ea_cons ev_c ea_nil))))))) (by show 7 ≤ 100000; decide)) q
theorem exmK (XM : Exm K CK CN CD) : PySem.W.exmAny K (.ref CK) [.ref CK, .ref CN, .ref CD] = some true := by
  simp only [PySem.W.exmAny, XM.kk, XM.kn, XM.kd]
  rfl
theorem exmN (XM : Exm K CK CN CD) : PySem.W.exmAny K (.ref CN) [.ref CK, .ref CN, .ref CD] = some true := by
  simp only [PySem.W.exmAny, XM.nk, XM.nn, XM.nd]
  rfl
theorem exmD (XM : Exm K CK CN CD) : PySem.W.exmAny K (.ref CD) [.ref CK, .ref CN, .ref CD] = some true := by
  simp only [PySem.W.exmAny, XM.dk, XM.dn, XM.dd]
  rfl
theorem sc__law_did : FnScope ["_law_host", "_law_deed_so", "_law_word_so", "_law_told_so"] ["_law_host", "_law_deed_so"] (defScope (top 88)) := ⟨rfl, rfl, rfl, by decide +kernel, rfl, by decide +kernel, by decide +kernel⟩
theorem ok__law_did (B : Bu mg) (T : Cst K mg) (GF : Gal K mg C) (XM : Exm K CK CN CD) (gKnown : mg "Known" = some (.ref CK)) (gNoWay : mg "NoWay" = some (.ref CN)) (gNothingDone : mg "NothingDone" = some (.ref CD)) (O_m_hang : Om P w K mg base (L2.CX P w) 3 C "hang" (sp_m_hang C CK)) (O_m_take : Om P w K mg base (L2.CX P w) 3 C "take" (sp_m_take C CN)) (O_m_look : Om P w K mg base CX0 5 C "look" (sp_m_look C)) (O_m_tidy : Om P w K mg base CX0 7 C "tidy" (sp_m_tidy C)) (O_m_undo : Om P w K mg base (L2.CX P w) 1 C "undo" (sp_m_undo C CD)) (D : Dn K mg "_law_did" 88) : Ok P w K mg base CX0 8 "_law_did" (sp__law_did C) := by
  refine D.ok sc__law_did (fun _ _ _ _ _ _ us hl => match us, hl with | [_, _], _ => rfl) (by rintro vs H Q E ⟨r, a, dx, p, v, s, k, rfl, _⟩; rfl) fun f cdv A outer s H vs Q E hr h => ⟨_, (pss_cons (ps_set (i := 2) sc__law_did.nd rfl (.inl rfl) (pe_ix ix_tup (pv 1) pe_int (fun _ _ => rfl)))
    (pss_cons (ps_try_tup3 rfl rfl ⟨rfl, by decide, .inl gKnown⟩ ⟨rfl, by decide, .inl gNoWay⟩ ⟨rfl, by decide, .inl gNothingDone⟩
      (tb := fun W => (tIfS (tTest (tOp (rIn K false) (tVar 2) (tTup (tCons (tC (S [104, 97, 110, 103])) (tCons (tC (S [116, 97, 107, 101])) tNil))))) (tAsg (tIf (tTest (tOp rEq (tVar 2) (tC (S [104, 97, 110, 103])))) (tMethS C (sp_m_hang C CK) (WE W) (tVar 0) (tCons (tOp (rIxT K) (tVar 1) (tC (.int 1))) tNil)) (tMethS C (sp_m_take C CN) (WE W) (tVar 0) (tCons (tOp (rIxT K) (tVar 1) (tC (.int 1))) tNil))) (gName 3)) (tIfS (tTest (tOp rEq (tVar 2) (tC (S [108, 111, 111, 107])))) (tAsg (SlX.tMethSl C (sp_m_look C) E0 (tVar 0) (tCons (tOp (rIxT K) (tVar 1) (tC (.int 1))) tNil)) (gName 3)) (tAsg (tIf (tTest (tOp rEq (tVar 2) (tC (S [116, 105, 100, 121])))) (SlX.tMethSl C (sp_m_tidy C) E0 (tVar 0) tNil) (tMethS C (sp_m_undo C CD) (WE W) (tVar 0) tNil)) (gName 3))))) (fun W pn xe tk _ => (pss_one (ps_if (pt_cmpR op_in_seq (pv 2) (pe_tup (pa_cons (pe_st (l := [104, 97, 110, 103])) (pa_cons (pe_st (l := [116, 97, 107, 101])) pa_nil))) (by rfl))
        (pss_one (ps_set (i := 3) sc__law_did.nd rfl (.inl rfl) (pe_ifExp (pt_cmpR op_eq (pv 2) (pe_st (l := [104, 97, 110, 103])) (nomark _)) (pe_omS O_m_hang GF.sc (pv 0) hr (fun σ => passAt tk σ) (pa_cons (pe_ix ix_tup (pv 1) pe_int (fun _ _ => rfl)) pa_nil)) (pe_omS O_m_take GF.sc (pv 0) hr (fun σ => passAt tk σ) (pa_cons (pe_ix ix_tup (pv 1) pe_int (fun _ _ => rfl)) pa_nil)))))
        (pss_one (ps_if (pt_cmpR op_eq (pv 2) (pe_st (l := [108, 111, 111, 107])) (nomark _))
          (pss_one (ps_set (i := 3) sc__law_did.nd rfl (.inl rfl) (pe_om O_m_look GF.sc (pv 0) hr pass0 (pa_cons (pe_ix ix_tup (pv 1) pe_int (fun _ _ => rfl)) pa_nil))))
          (pss_one (ps_set (i := 3) sc__law_did.nd rfl (.inl rfl) (pe_ifExp (pt_cmpR op_eq (pv 2) (pe_st (l := [116, 105, 100, 121])) (nomark _)) (pe_om0 O_m_tidy GF.sc (pv 0) hr pass0) (pe_omS0 O_m_undo GF.sc (pv 0) hr (fun σ => passAt tk σ))))))))))
      (fun a oe cls d pn _ _ => (pss_one (ps_ret pe_bl))))
    (pss_one (ps_ret (pe_cmpR op_isN (pv 3) pe_non (nomark _)))))), ?_⟩
  obtain ⟨r, a, dx, p, d, s, k, rfl, hdd, hwf, hd, gi, hk, g, q⟩ := h
  have few := gi.few
  have pl := gi.pl
  have sh := gi.sh4 (by omega)
  have wordT : ∀ (H' : Hp) (u : W), EvT (tTest (tOp rEq (tVar 2) (tC (S u)))) [some (.ref a), some (.ref d), some (S r.word), none] H' (decide (r.word = u)) := fun H' u => et_test (ev_eqS (ev_var rfl) ev_c)
  have tups : ∀ (H' : Hp), EvT (tTest (tOp (rIn K false) (tVar 2) (tTup (tCons (tC (S [104, 97, 110, 103])) (tCons (tC (S [116, 97, 107, 101])) tNil))))) [some (.ref a), some (.ref d), some (S r.word), none] H' (decide (r.word ∈ [[104, 97, 110, 103], [116, 97, 107, 101]])) := fun H' => et_test (ev_inUs (ev_var rfl) (eu_tup (ea_cons ev_c (ea_cons ev_c ea_nil)) (by show 2 ≤ 100000; decide)))
  have fin : ∀ H3, Keep a p H H3 → GAt C H3 a dx p (deed r s).1.1 (deed r s).1.2 → (deed r s).2 = doneW → ∀ D : Ends, D.rt = Q → tRet (tOp (fun x y H Q => y = .non ∧ Q (.bl (decide (x = .non))) H) (tVar 3) (tC .non)) D [some (.ref a), some (.ref d), some (S r.word), some .non] H3 := fun H3 k3 g3 hdn D hD =>
    s_ret (v := .bl (decide ((deed r s).2 = doneW))) (ev_is (ev_isN (x := .non) (ev_var rfl)) (by rw [decide_eq_true hdn]; rfl)) fun H4 e4 => by
      rw [hD]
      exact q H4 (k3.trans (Keep.of e4)) (g3.mono e4)
  match r, hdd, hwf, hd, q, wordT, tups, fin with
  | .one .hang x, hdd, hwf, hd, q, wordT, tups, fin =>
    refine q_asg (v := S (Req.one .hang x).word) (ev_op (ev_var rfl) ev_c (rv_ixT (st_of hd) rfl)) fun H0 e0 => ?_
    refine s_if (et_is (tups _) (b := true) rfl) (fun _ H1 e1 => ?_) (fun z => nomatch z)
    refine wordT H1 [104, 97, 110, 103] H1 (Ex.refl _) _ fun H2 e2 => iteT ?_
    have e02 := (e0.trans e1).trans e2
    obtain ⟨t, ts, hs, _⟩ := (g.mono e02).sl
    refine ⟨.ref a, rfl, a, dx, _, rfl, hs, ?_⟩
    refine ev_op (σ := [some (.ref a), some (.ref d), some (S (Req.one .hang x).word), none]) (ev_var (i := 1) rfl) ev_c (rv_ixT (K := K) (xs := [S KO.hang.w, S x]) (i := 1) (v := S x) (st_of (e02 _ _ hd)) rfl) H2 (Ex.refl _) _ fun H3 e3 => ?_
    have e03 := e02.trans e3
    refine ⟨a, dx, p, s.1, s.2, x, rfl, g.mono e03, by omega, by omega, fun hx H4 e4 b hb => ?_, fun hx H4 k4 g4 => ?_⟩
    · have hdq : deed (.one .hang x) s = (s, refK) := if_pos hx
      rw [hdq] at q
      have e13 := (e03.trans e4).trans (Ex.new hb (o := .xd [(("way" : Str), S x)]))
      exact ⟨exmK XM, fun _ _ => q _ (Keep.of e13) (g.mono e13)⟩
    · have hdq : deed (.one .hang x) s = ((setOf (s.1 ++ [x]), s.2 ++ [s.1]), doneW) := if_neg hx
      rw [hdq] at fin
      exact fin H4 ((Keep.of e03).trans k4) g4 rfl _ rfl
  | .one .take x, hdd, hwf, hd, q, wordT, tups, fin =>
    refine q_asg (v := S (Req.one .take x).word) (ev_op (ev_var rfl) ev_c (rv_ixT (st_of hd) rfl)) fun H0 e0 => ?_
    refine s_if (et_is (tups _) (b := true) rfl) (fun _ H1 e1 => ?_) (fun z => nomatch z)
    refine wordT H1 [104, 97, 110, 103] H1 (Ex.refl _) _ fun H2 e2 => iteF ?_
    have e02 := (e0.trans e1).trans e2
    obtain ⟨t, ts, hs, _⟩ := (g.mono e02).sl
    refine ⟨.ref a, rfl, a, dx, _, rfl, hs, ?_⟩
    refine ev_op (σ := [some (.ref a), some (.ref d), some (S (Req.one .take x).word), none]) (ev_var (i := 1) rfl) ev_c (rv_ixT (K := K) (xs := [S KO.take.w, S x]) (i := 1) (v := S x) (st_of (e02 _ _ hd)) rfl) H2 (Ex.refl _) _ fun H3 e3 => ?_
    have e03 := e02.trans e3
    refine ⟨a, dx, p, s.1, s.2, x, rfl, g.mono e03, by omega, by omega, fun hx H4 e4 b hb => ?_, fun hx H4 k4 g4 => ?_⟩
    · have hdq : deed (.one .take x) s = (s, refN) := if_neg hx
      rw [hdq] at q
      have e13 := (e03.trans e4).trans (Ex.new hb (o := .xd [(("way" : Str), S x)]))
      exact ⟨exmN XM, fun _ _ => q _ (Keep.of e13) (g.mono e13)⟩
    · have hdq : deed (.one .take x) s = ((setOf (s.1.filter fun y => !decide (y = x)), s.2 ++ [s.1]), doneW) := if_pos hx
      rw [hdq] at fin
      exact fin H4 ((Keep.of e03).trans k4) g4 rfl _ rfl
  | .one .look x, hdd, hwf, hd, q, wordT, tups, fin =>
    refine q_asg (v := S (Req.one .look x).word) (ev_op (ev_var rfl) ev_c (rv_ixT (st_of hd) rfl)) fun H0 e0 => ?_
    refine s_if (et_is (tups _) (b := false) rfl) (fun z => nomatch z) fun _ H1 e1 => ?_
    refine s_if (et_is (wordT _ _) (b := true) rfl) (fun _ H2 e2 => ?_) (fun z => nomatch z)
    have e02 := (e0.trans e1).trans e2
    obtain ⟨t, ts, hs, _⟩ := (g.mono e02).sl
    refine ⟨.ref a, rfl, a, dx, _, rfl, hs, ?_⟩
    refine ev_op (σ := [some (.ref a), some (.ref d), some (S (Req.one .look x).word), none]) (ev_var (i := 1) rfl) ev_c (rv_ixT (K := K) (xs := [S KO.look.w, S x]) (i := 1) (v := S x) (st_of (e02 _ _ hd)) rfl) H2 (Ex.refl _) _ fun H3 e3 => ?_
    have e03 := e02.trans e3
    exact ⟨a, dx, p, s.1, s.2, x, rfl, g.mono e03, by omega, by omega, sh.mono (by decide), Nat.le_trans hwf.2 (by decide), fun H4 k4 g4 => fin H4 ((Keep.of e03).trans k4) g4 rfl _ rfl⟩
  | .bare .tidy, hdd, hwf, hd, q, wordT, tups, fin =>
    refine q_asg (v := S (Req.bare .tidy).word) (ev_op (ev_var rfl) ev_c (rv_ixT (st_of hd) rfl)) fun H0 e0 => ?_
    refine s_if (et_is (tups _) (b := false) rfl) (fun z => nomatch z) fun _ H1 e1 => ?_
    refine s_if (et_is (wordT _ _) (b := false) rfl) (fun z => nomatch z) fun _ H2 e2 => ?_
    refine wordT H2 [116, 105, 100, 121] H2 (Ex.refl _) _ fun H3 e3 => iteT ?_
    have e03 := ((e0.trans e1).trans e2).trans e3
    obtain ⟨t, ts, hs, _⟩ := (g.mono e03).sl
    exact ⟨.ref a, rfl, a, dx, _, rfl, hs, a, dx, p, s.1, s.2, rfl, g.mono e03, by omega, gi.ww, by omega, sh.mono (by decide), fun H4 k4 g4 => fin H4 ((Keep.of e03).trans k4) g4 rfl _ rfl⟩
  | .bare .undo, hdd, hwf, hd, q, wordT, tups, fin =>
    refine q_asg (v := S (Req.bare .undo).word) (ev_op (ev_var rfl) ev_c (rv_ixT (st_of hd) rfl)) fun H0 e0 => ?_
    refine s_if (et_is (tups _) (b := false) rfl) (fun z => nomatch z) fun _ H1 e1 => ?_
    refine s_if (et_is (wordT _ _) (b := false) rfl) (fun z => nomatch z) fun _ H2 e2 => ?_
    refine wordT H2 [116, 105, 100, 121] H2 (Ex.refl _) _ fun H3 e3 => iteF ?_
    have e03 := ((e0.trans e1).trans e2).trans e3
    obtain ⟨t, ts, hs, _⟩ := (g.mono e03).sl
    refine ⟨.ref a, rfl, a, dx, _, rfl, hs, a, dx, p, s.1, s.2, rfl, g.mono e03, fun hp H4 e4 => ?_, fun qs u hp H4 k4 g4 => ?_⟩
    · have hdq : deed (.bare .undo) s = (s, refD) := by
        show (match s.2.getLast? with | none => (s, refD) | some u => ((u, s.2.dropLast), doneW)) = _
        rw [hp]
        rfl
      rw [hdq] at q
      exact ⟨exmD XM, fun _ _ => q _ (Keep.of (e03.trans e4)) (g.mono (e03.trans e4))⟩
    · have hdq : deed (.bare .undo) s = ((u, qs), doneW) := by
        show (match s.2.getLast? with | none => (s, refD) | some u => ((u, s.2.dropLast), doneW)) = _
        rw [hp]
        simp
      rw [hdq] at fin
      exact fin H4 ((Keep.of e03).trans k4) g4 rfl _ rfl
end
end Mir
/-! part L5 -/
set_option Elab.async false
set_option linter.all false
set_option maxRecDepth 100000
set_option maxHeartbeats 4000000
/-! The walk: what the law is told, what is refused, what deed is drawn. -/
namespace Mir
open PySem PySem.Spec PyProof.Rows L2 Evl
abbrev sp__law_told (C : Addr) : Sp := fun vs H Q _ => ∃ (a dx p : Addr) (s : GS) (k : Nat), vs = [.ref a] ∧ GI k s ∧ k < 64 ∧ GAt C H a dx p s.1 s.2 ∧ Rl (Ss (asked.map fun r => told r s.1)) H Q
abbrev sp__law_refused (C : Addr) : Sp := fun vs H Q _ => ∃ (r : Req) (a dx p d : Addr) (s : GS) (k : Nat), vs = [.ref a, .ref d] ∧ isDeed r = true ∧ r.wf ∧ H d = some (.tup (Ss (dT r))) ∧ GI k s ∧ k < 63 ∧ GAt C H a dx p s.1 s.2 ∧
  ∀ H', Keep a p H H' → GAt C H' a dx p (deed r s).1.1 (deed r s).1.2 → Q (S (deed r s).2) H'
abbrev sp__law_deed : Sp := fun vs H Q _ => ∃ (b wa : Addr) (many c : Nat) (l : List W), vs = [.ref b, .ref wa, .int (many : Int)] ∧ H wa = some (.tup (Ss l)) ∧ Ways l ∧ l.length ≤ 60 ∧ 2 ≤ many ∧ many ≤ 8 ∧ BoxAt H b c ∧ c ≤ 70000 ∧
  ∀ r d H2, DOk l r → Ko b H H2 → BoxAt H2 b (c + 20) → H2 d = some (.tup (Ss (dT r))) → Q (.ref d) H2
theorem way_ab : Way [97, 98] := (wayB_iff _).mp (by decide)
theorem way_cbc : Way [99, 98, 99] := (wayB_iff _).mp (by decide)
theorem way_bab : Way [98, 97, 98] := (wayB_iff _).mp (by decide)
abbrev lot1 : List W := [[97], [98]]
abbrev lot2 : List W := [[97, 98], [99, 97], [99, 98]]
theorem ways_of {l : List W} (h : l.all wayB = true) : Ways l := fun w hw => (wayB_iff w).mp (List.all_eq_true.mp h w hw)
theorem shr_of {n : Nat} {l : List W} (h : l.all (fun w => decide (w.length ≤ n)) = true) : Shr n l := fun w hw => of_decide_eq_true (List.all_eq_true.mp h w hw)
theorem lot1_ok : Ways lot1 := ways_of (by decide)
theorem lot2_ok : Ways lot2 := ways_of (by decide)
theorem rowRead (r : Req) (s : GS) (h : isDeed r = true) (hn : (deed r s).2 ≠ doneW) : (deed r s).1 = s ∧ ((r.word = [104, 97, 110, 103] ∧ (deed r s).2 = refK) ∨ (r.word = [116, 97, 107, 101] ∧ (deed r s).2 = refN) ∨ (r.word = [117, 110, 100, 111] ∧ (deed r s).2 = refD)) := by
  match r, h, hn with
  | .one .hang x, _, hn =>
    by_cases hx : x ∈ s.1
    · have e : deed (.one .hang x) s = (s, refK) := if_pos hx
      rw [e]
      exact ⟨rfl, .inl ⟨rfl, rfl⟩⟩
    · have e : deed (.one .hang x) s = ((setOf (s.1 ++ [x]), s.2 ++ [s.1]), doneW) := if_neg hx
      rw [e] at hn
      exact absurd rfl hn
  | .one .take x, _, hn =>
    by_cases hx : x ∈ s.1
    · have e : deed (.one .take x) s = ((setOf (s.1.filter fun y => !decide (y = x)), s.2 ++ [s.1]), doneW) := if_pos hx
      rw [e] at hn
      exact absurd rfl hn
    · have e : deed (.one .take x) s = (s, refN) := if_neg hx
      rw [e]
      exact ⟨rfl, .inr (.inl ⟨rfl, rfl⟩)⟩
  | .one .look x, _, hn => exact absurd rfl hn
  | .bare .tidy, _, hn => exact absurd rfl hn
  | .bare .undo, _, hn =>
    rcases snocP s.2 with e | ⟨q, u, e⟩
    · have e' : deed (.bare .undo) s = (s, refD) := by
        show (match s.2.getLast? with | none => (s, refD) | some u => ((u, s.2.dropLast), doneW)) = _
        rw [e]
        rfl
      rw [e']
      exact ⟨rfl, .inr (.inr ⟨rfl, rfl⟩)⟩
    · have e' : deed (.bare .undo) s = ((u, q), doneW) := by
        show (match s.2.getLast? with | none => (s, refD) | some u => ((u, s.2.dropLast), doneW)) = _
        rw [e]
        simp
      rw [e'] at hn
      exact absurd rfl hn
theorem tup2 {σ : L2.St} {H : Hp} {t1 t2 : TE} {xs ys : List V} (h1 : EvU t1 σ H xs) (h2 : ∀ H1, Ex H H1 → EvU t2 σ H1 ys) (Q : VK) (q : ∀ T a b H2, Ex H H2 → H2 T = some (.tup [.ref a, .ref b]) → H2 a = some (.tup xs) → H2 b = some (.tup ys) → Q (.ref T) H2) :
    tTup (tCons t1 (tCons t2 tNil)) σ H Q := h1 H (Ex.refl _) _ fun a H1 _ e1 ha => h2 H1 e1 H1 (Ex.refl _) _ fun b H2 _ e2 hb => ⟨by show 2 ≤ sizeLine; decide, fun T hT => q T a b _ ((e1.trans e2).trans (Ex.new hT)) upd_same ((Ex.new hT) _ _ (e2 _ _ ha)) ((Ex.new hT) _ _ hb)⟩
section
variable {P : Program} {w : World} {K : PySem.W.Frag} {mg : Str → Option Value} {base : Heap} {C CK CN CD : Addr}
theorem sc__law_told : FnScope ["_law_host", "_law_found", "_law_own", "_law_chain_so", "_law_lot_so"] ["_law_host"] (defScope (top 91)) := ⟨rfl, rfl, rfl, by decide +kernel, rfl, by decide +kernel, by decide +kernel⟩
theorem ok__law_told (B : Bu mg) (T : Cst K mg) (GF : Gal K mg C) (O_ways_text : Ok P w K mg base CX0 1 "ways_text" (sp_ways_text K)) (O_within : Ok P w K mg base CX0 7 "within" (sp_within K)) (O_m_chain : Om P w K mg base CX0 8 C "chain" (sp_m_chain C)) (O_m_contains : Om P w K mg base CX0 8 C "__contains__" (sp_m_contains C)) (O_p_ways : Op' P w K mg base 1 C "ways" (sp_p_ways C)) (O_p_makers : Op' P w K mg base 7 C "makers" (sp_p_makers C)) (D : Dn K mg "_law_told" 91) : Ok P w K mg base CX0 9 "_law_told" (sp__law_told C) := by
  refine D.ok sc__law_told (fun _ _ _ _ _ _ us hl => match us, hl with | [_], _ => rfl) (by rintro vs H Q E ⟨a, dx, p, s, k, rfl, _⟩; rfl) fun f cdv A outer s H vs Q E hr h => ⟨_, (pss_cons (ps_set (i := 1) sc__law_told.nd rfl (.inl rfl) (pe_op op_cat (pe_lst (pa_cons (pe_ok O_ways_text hr rfl pass0 (pa_cons (pe_op' O_p_ways GF.sc (pv 0) hr) pa_nil)) (pa_cons (pe_ok O_ways_text hr rfl pass0 (pa_cons (pe_op' O_p_makers GF.sc (pv 0) hr) pa_nil)) pa_nil))) (pe_lc (own := [("_law_own", 2)]) (g := (gName 2)) (tt := tYes) (te := (tIf (tTest (tOp (rInOwn C (sp_m_contains C) E0) (tVar 2) (tVar 0))) (tC (S [121, 101, 115])) (tC (S [110, 111])))) rfl sc__law_told.nd (pi_tup (pe_tup (pa_cons (pe_st (l := [97, 98])) (pa_cons (pe_st (l := [99, 98, 99])) pa_nil)))) (blkOk_by (N := ["_law_host", "_law_found", "_law_own", "_law_chain_so", "_law_lot_so"]) (sc := defScope (top 91)) (by decide +kernel)) (fun _ _ _ _ _ => (pg_name (i := 2) sc__law_told.nd rfl (.inl rfl))) (fun _ _ _ _ _ => pts_nil) (fun _ _ _ _ _ => (pe_ifExp (pt_cmpR (op_om O_m_contains hr pass0) (pv 2) (pv 0) (by rfl)) (pe_st (l := [121, 101, 115])) (pe_st (l := [110, 111])))))))
    (pss_cons (ps_set (i := 3) sc__law_told.nd rfl (.inl rfl) (pe_om O_m_chain GF.sc (pv 0) hr pass0 (pa_cons (pe_st (l := [98, 97, 98])) pa_nil)))
    (pss_cons (ps_expr (pe_bm PySem.F.plainAttrs_list PySem.F.slot_list_append PySem.F.type_list_append mt_append (pv 1) (pa_cons (pe_ifExp (pt_cmpR op_isN (pv 3) pe_non (nomark _)) (pe_st (l := [110, 111, 110, 101])) (pe_join (pe_st (l := [32])) (pv 3))) pa_nil)))
    (pss_cons (ps_for PassesOwn.never rfl (pi_tup (pe_tup (pa_cons (pe_tup (pa_cons (pe_st (l := [97])) (pa_cons (pe_st (l := [98])) pa_nil))) (pa_cons (pe_tup (pa_cons (pe_st (l := [97, 98])) (pa_cons (pe_st (l := [99, 97])) (pa_cons (pe_st (l := [99, 98])) pa_nil)))) pa_nil)))) (pg_name (i := 4) sc__law_told.nd rfl (.inl rfl))
      (pss_one (ps_expr (pe_bm PySem.F.plainAttrs_list PySem.F.slot_list_append PySem.F.type_list_append mt_append (pv 1) (pa_cons (pe_ifExp (pt_val (pe_ok O_within hr rfl pass0 (pa_cons (pe_op' O_p_ways GF.sc (pv 0) hr) (pa_cons (pv 4) pa_nil)))) (pe_st (l := [121, 101, 115])) (pe_st (l := [110, 111]))) pa_nil)))))
    (pss_one (ps_ret (pv 1))))))), ?_⟩
  obtain ⟨a, dx, p, s, k, rfl, gi, hk, g, q⟩ := h
  have few : s.1.length < 64 := by
    have := gi.few
    omega
  have sh := gi.sh4 (by omega)
  have sh4 : Shr 40000 s.1 := sh.mono (by decide)
  have ww := gi.ww
  have hm := mk_len ww
  have h1 : EvL (tLst (tCons (tCall (sp_ways_text K) [] E0 (tCons (SlX.tPropSl C (sp_p_ways C) E0 (tVar 0)) tNil)) (tCons (tCall (sp_ways_text K) [] E0 (tCons (SlX.tPropSl C (sp_p_makers C) E0 (tVar 0)) tNil)) tNil))) [some (.ref a), none, none, none, none] H (Ss [wtx s.1, wtx (mk s.1)]) :=
    el_lst (ea_cons (ev_okQ (eq_ways (K := K) (ev_var rfl) g) fun t H2 Q e2 ht q => ⟨t, s.1, rfl, ht, gi.as, few, sh, q⟩) (ea_cons (ev_okQ (eq_makers (K := K) (ev_var rfl) g ww few sh4) fun t H2 Q e2 ht q => ⟨t, mk s.1, rfl, ht, mk_asc ww, by omega, mk_short ww sh, q⟩) ea_nil)) (by show 2 ≤ 100000; decide)
  have h2 : EvL (tLc (iTup K (tTup (tCons (tC (S [97, 98])) (tCons (tC (S [99, 98, 99])) tNil)))) (gName 2) tYes (tIf (tTest (tOp (rInOwn C (sp_m_contains C) E0) (tVar 2) (tVar 0))) (tC (S [121, 101, 115])) (tC (S [110, 111]))) [2]) [some (.ref a), none, none, none, none] H (Ss ([[97, 98], [99, 98, 99]].map fun x => yn (decide ((fold (mk s.1) x).1 ∈ mk s.1)))) := by
    refine el_lcM (l := [[97, 98], [99, 98, 99]]) (fun x => yn (decide ((fold (mk s.1) x).1 ∈ mk s.1))) (ei_tupN (eu_tup (ea_cons ev_c (ea_cons ev_c ea_nil)) (by show 2 ≤ 100000; decide))) (by decide) (fun x => rfl) fun x hx H1 e1 => ?_
    have wx : Way x ∧ x.length ≤ 40000 := by
      rcases List.mem_cons.mp hx with rfl | hx
      · exact ⟨way_ab, by decide⟩
      · rw [List.mem_singleton.mp hx]
        exact ⟨way_cbc, by decide⟩
    refine ev_if (et_test (ev_has (ev_var rfl) (ev_var rfl) (g.mono e1) ww few sh4 wx.1 wx.2)) (fun hb => ?_) fun hb => ?_
    · rw [hb]
      exact ev_c
    · rw [hb]
      exact ev_c
  refine q_asgL (el_catN h1 h2 (by show 2 + 2 ≤ 1000000; decide)) fun F H1 hF e1 hf => ?_
  have hFp : F ≠ p := by
    obtain ⟨t, ts, _, _, hp, _⟩ := g.sl
    exact Ne.symm (ne_of_none hp hF)
  have bab : (told (.one .chain [98, 97, 98]) s.1) = ctx (chn s.1 [98, 97, 98]) := rfl
  -- the loop behind
  have loop : ∀ (y2 y3 : Option V) (H2 : Hp), Ex H H2 → H2 F = some (.lst (Ss ([wtx s.1, wtx (mk s.1)] ++ [[97, 98], [99, 98, 99]].map (fun x => yn (decide ((fold (mk s.1) x).1 ∈ mk s.1))) ++ [ctx (chn s.1 [98, 97, 98])]))) → ∀ D : Ends, D.rt = Q →
      tSeq (tFor (iTup K (tTup (tCons (tTup (tCons (tC (S [97])) (tCons (tC (S [98])) tNil))) (tCons (tTup (tCons (tC (S [97, 98])) (tCons (tC (S [99, 97])) (tCons (tC (S [99, 98])) tNil)))) tNil)))) (gName 4) (tDrop (tBM K "list" rAppend (tVar 1) (tCons (tIf (tB (tCall (sp_within K) [] E0 (tCons (SlX.tPropSl C (sp_p_ways C) E0 (tVar 0)) (tCons (tVar 4) tNil)))) (tC (S [121, 101, 115])) (tC (S [110, 111]))) tNil)))) (tRet (tVar 1)) D [some (.ref a), some (.ref F), y2, y3, none] H2 := by
    intro y2 y3 H2 e2 hf2 D hD
    unfold tSeq tFor iTup
    refine tup2 (xs := Ss lot1) (ys := Ss lot2) (eu_tup (ea_cons ev_c (ea_cons ev_c ea_nil)) (by show 2 ≤ 100000; decide)) (fun H3 e3 => eu_tup (ea_cons ev_c (ea_cons ev_c (ea_cons ev_c ea_nil))) (by show 3 ≤ 100000; decide)) _ fun T t1 t2 H3 e25 hT ht1 ht2 => ?_
    refine ⟨T, rfl, ⟨_, st_of hT⟩, for_tup (xs := [.ref t1, .ref t2]) (fun i σ H' => ∃ y4, σ = [some (.ref a), some (.ref F), y2, y3, y4] ∧ Ex H H' ∧ H' T = some (.tup [.ref t1, .ref t2]) ∧ H' t1 = some (.tup (Ss lot1)) ∧ H' t2 = some (.tup (Ss lot2)) ∧ H' F = some (.lst (Ss ([wtx s.1, wtx (mk s.1)] ++ [[97, 98], [99, 98, 99]].map (fun x => yn (decide ((fold (mk s.1) x).1 ∈ mk s.1))) ++ [ctx (chn s.1 [98, 97, 98])] ++ (([lot1, lot2].take i).map fun l => yn (wi s.1 l)))))) ⟨none, rfl, e2.trans e25, hT, ht1, ht2, by rw [List.take_zero, List.map_nil, List.append_nil]; exact e25 _ _ hf2⟩ (fun i σ H' _ h => ?_) (fun i x σ H' hx h => ?_) fun σ H' h => ?_⟩
    · obtain ⟨_, _, _, h, _⟩ := h
      exact st_of h
    · obtain ⟨y4, rfl, e, hT', h1', h2', hF'⟩ := h
      have step : ∀ (t : Addr) (l : List W), H' t = some (.tup (Ss l)) → Ways l → l.length < 64 → Shr 40000 l → [lot1, lot2].take (i + 1) = [lot1, lot2].take i ++ [l] → x = .ref t → i ≤ 1 →
          gName 4 x [some (.ref a), some (.ref F), y2, y3, y4] H' fun σ2 H2 => tDrop (tBM K "list" rAppend (tVar 1) (tCons (tIf (tB (tCall (sp_within K) [] E0 (tCons (SlX.tPropSl C (sp_p_ways C) E0 (tVar 0)) (tCons (tVar 4) tNil)))) (tC (S [121, 101, 115])) (tC (S [110, 111]))) tNil)) { { D with nx := fun σ H => tRet (tVar 1) D σ H } with nx := fun σ H' => ∃ y4, σ = [some (.ref a), some (.ref F), y2, y3, y4] ∧ Ex H H' ∧ H' T = some (.tup [.ref t1, .ref t2]) ∧ H' t1 = some (.tup (Ss lot1)) ∧ H' t2 = some (.tup (Ss lot2)) ∧ H' F = some (.lst (Ss ([wtx s.1, wtx (mk s.1)] ++ [[97, 98], [99, 98, 99]].map (fun x => yn (decide ((fold (mk s.1) x).1 ∈ mk s.1))) ++ [ctx (chn s.1 [98, 97, 98])] ++ (([lot1, lot2].take (i + 1)).map fun l => yn (wi s.1 l))))) } σ2 H2 := by
        rintro t l ht wl hl hsl htk rfl hi
        have gg := g.mono e
        refine s_app (l := F) (v := S (yn (wi s.1 l))) hF' (ev_var rfl) (ev_if (et_B (ev_okQ2 (K := K) (v := .bl (wi s.1 l)) (eq_ways (K := K) (ev_var rfl) gg) (fun H9 e9 => eq_v (ev_var rfl) (st_of (e9 _ _ ht))) fun p1 b1 H9 Q e9 hp1 hb1 q => ⟨p1, b1, s.1, l, rfl, hp1, ww, few, sh4, hb1, wl, hl, hsl, q⟩)) (fun hb => ?_) fun hb => ?_) ?_ fun H5 e5' => ?_
        · rw [hb]
          exact ev_c
        · rw [hb]
          exact ev_c
        · rw [List.length_map, List.length_append, List.length_map, List.length_take]
          show 5 + min i 2 < 100000
          omega
        · have gr := fun t zs h => tup_grow (ys := Ss ([wtx s.1, wtx (mk s.1)] ++ [[97, 98], [99, 98, 99]].map (fun x => yn (decide ((fold (mk s.1) x).1 ∈ mk s.1))) ++ [ctx (chn s.1 [98, 97, 98])] ++ (([lot1, lot2].take i).map fun l => yn (wi s.1 l))) ++ [S (yn (wi s.1 l))]) (e5' _ _ hF') t zs h
          refine ⟨_, rfl, Ex.mut (e.trans e5') hF, gr _ _ (e5' _ _ hT'), gr _ _ (e5' _ _ h1'), gr _ _ (e5' _ _ h2'), ?_⟩
          rw [upd_same, htk, List.map_append, ← List.append_assoc]
          unfold Ss
          rw [List.map_append (l₂ := [l].map _)]
          rfl
      have hi : i < 2 := (List.getElem?_eq_some_iff.mp hx).1
      rcases (by omega : i = 0 ∨ i = 1) with rfl | rfl
      · exact step t1 lot1 h1' lot1_ok (by decide) (shr_of (by decide)) rfl (Option.some.inj hx).symm (by decide)
      · exact step t2 lot2 h2' lot2_ok (by decide) (shr_of (by decide)) rfl (Option.some.inj hx).symm (by decide)
    · obtain ⟨y4, rfl, e, hT', h1', h2', hF'⟩ := h
      refine s_ret (ev_var rfl) fun H6 e6 => ?_
      rw [hD]
      exact q F H6 hF (e.trans e6) (e6 _ _ hF')
  have hf' : H1 F = some (.lst (Ss ([wtx s.1, wtx (mk s.1)] ++ [[97, 98], [99, 98, 99]].map (fun x => yn (decide ((fold (mk s.1) x).1 ∈ mk s.1)))))) := by
    rw [hf]
    unfold Ss
    rw [List.map_append]
  cases hc : chn s.1 [98, 97, 98] with
  | none =>
    refine q_asg (v := .non) (ev_chain0 (ev_var rfl) ev_c (g.mono e1) ww few sh4 way_bab (by decide) hc) fun H2 e2 => ?_
    refine q_app (l := F) (v := S noneW) (e2 _ _ hf') (ev_var rfl) (ev_ifT (et_is (et_test (ev_isN (x := .non) (ev_var rfl))) rfl) ev_c) (by show 4 < 100000; decide) fun H3 e3 => ?_
    rw [hc] at loop
    refine loop _ _ _ (Ex.mut ((e1.trans e2).trans e3) hF) ?_ _ rfl
    rw [upd_same]
    rfl
  | some l =>
    refine q_asgU (xs := Ss l) (eu_chain (ev_var rfl) ev_c (g.mono e1) ww few sh4 way_bab (by decide) hc) fun t H2 ht e2 hx => ?_
    refine q_app (l := F) (v := S (TL.joinL [32] l)) (e2 _ _ hf') (ev_var rfl) (ev_ifF (et_is (et_test (ev_isN (x := .ref t) (ev_var rfl))) rfl) (ev_joinV (y := [32]) ev_c (ev_var rfl) (.inr (st_of hx)) (chain_size ww sh way_bab (by decide) hc))) (by show 4 < 100000; decide) fun H3 e3 => ?_
    rw [hc] at loop
    refine loop _ _ _ (Ex.mut ((e1.trans e2).trans e3) hF) ?_ _ rfl
    rw [upd_same]
    rfl
end
end Mir
/-! part L6 -/
set_option Elab.async false
set_option linter.all false
set_option maxRecDepth 100000
set_option maxHeartbeats 4000000
/-! The walk: what is refused, what deed is drawn. -/
namespace Mir
open PySem PySem.Spec PyProof.Rows L2 Evl
theorem ev_opQ {K : PySem.W.Frag} {σ : L2.St} {H : Hp} {ta tb : TE} {xs : List V} {y z : V} {r : R2} (ha : EvQ K ta σ H xs) (hb : ∀ H1, Ex H H1 → Ev tb σ H1 y) (hr : ∀ p H1, Ex H H1 → SqT K H1 p xs → RV r (.ref p) y H1 z) : Ev (tOp r ta tb) σ H z := fun H1 e Q q =>
  ha H1 e _ fun p H2 e2 hx => hb H2 (e.trans e2) H2 (Ex.refl _) _ fun H3 e3 => hr p H3 ((e.trans e2).trans e3) (ex_t e3 hx) H3 (Ex.refl _) _ fun H4 e4 => q H4 ((e2.trans e3).trans e4)
section
variable {P : Program} {w : World} {K : PySem.W.Frag} {mg : Str → Option Value} {base : Heap} {C CK CN CD : Addr}
abbrev kvsR : List (Key × V) := [(.inr (ST [104, 97, 110, 103]), S [75, 110, 111, 119, 110]), (.inr (ST [116, 97, 107, 101]), S [78, 111, 87, 97, 121]), (.inr (ST [117, 110, 100, 111]), S [78, 111, 116, 104, 105, 110, 103, 68, 111, 110, 101])]
theorem ev_refd {σ : L2.St} {H : Hp} {ti : TE} {u v : W} (hi : Ev ti σ H (S u)) (hv : some (S v) = valV (mergeK [] kvsR) (.inr (ST u))) : Ev (tDGet (tDisp [((tC (S [104, 97, 110, 103])), (tC (S [75, 110, 111, 119, 110]))), ((tC (S [116, 97, 107, 101])), (tC (S [78, 111, 87, 97, 121]))), ((tC (S [117, 110, 100, 111])), (tC (S [78, 111, 116, 104, 105, 110, 103, 68, 111, 110, 101])))]) ti) σ H (S v) := fun H1 e Q q =>
  fun p hp => ⟨upd_same, kvsR, rfl, by show 3 ≤ 15; decide, by
    have e2 : Ex H1 (upd (upd H1 p (.dK [])) p (.dK (mergeK [] kvsR))) := Ex.mut (Ex.new hp) hp
    exact hi _ (e.trans e2) _ fun H3 e3 => ⟨p, S v, rfl, .inl ⟨mergeK [] kvsR, .inr (ST u), .inl (e3 _ _ upd_same), rfl, hv⟩, q H3 (e2.trans e3)⟩⟩
theorem sc__law_refused : FnScope ["_law_host", "_law_deed_so", "_law_before_so", "_law_many_so"] ["_law_host", "_law_deed_so"] (defScope (top 93)) := ⟨rfl, rfl, rfl, by decide +kernel, rfl, by decide +kernel, by decide +kernel⟩
theorem ok__law_refused (B : Bu mg) (T : Cst K mg) (GF : Gal K mg C) (O__law_did : Ok P w K mg base CX0 8 "_law_did" (sp__law_did C)) (O_p_ways : Op' P w K mg base 1 C "ways" (sp_p_ways C)) (O_p_deeds : Op' P w K mg base 1 C "deeds" (sp_p_deeds C)) (D : Dn K mg "_law_refused" 93) : Ok P w K mg base CX0 9 "_law_refused" (sp__law_refused C) := by
  refine D.ok sc__law_refused (fun _ _ _ _ _ _ us hl => match us, hl with | [_, _], _ => rfl) (by rintro vs H Q E ⟨r, a, dx, p, d, s, k, rfl, _⟩; rfl) fun f cdv A outer s H vs Q E hr h => ⟨_, (pss_cons (ps_par (i := 2) (j := 3) rfl sc__law_refused.nd rfl rfl (by decide) rfl rfl (pa_cons (pe_op' O_p_ways GF.sc (pv 0) hr) (pa_cons (pe_op' O_p_deeds GF.sc (pv 0) hr) pa_nil)) (by rfl))
    (pss_cons (ps_if (pt_val (pe_ok O__law_did hr rfl pass0 (pa_cons (pv 0) (pa_cons (pv 1) pa_nil))))
      (pss_one (ps_ret (pe_st (l := [100, 111, 110, 101]))))
      pss_nil)
    (pss_cons (ps_if (PW.pt (pw_or (pt_cmpR (op_neD hr.units) (pe_op' O_p_ways GF.sc (pv 0) hr) (pv 2) (nomark _)) (pw_or1 (pt_cmpR op_ne (pe_op' O_p_deeds GF.sc (pv 0) hr) (pv 3) (nomark _)))))
      (pss_one (ps_ret (pe_st (l := [99, 104, 97, 110, 103, 101, 100]))))
      pss_nil)
    (pss_one (ps_ret (pe_op op_add_str (pe_st (l := [114, 101, 102, 117, 115, 101, 100, 32])) (pe_dget (Nat.lt_of_le_of_lt (Nat.add_le_add_left (by decide : 1 ≤ 64) _) hr.units) (pe_disp (pps_cons (pe_st (l := [104, 97, 110, 103])) (pe_st (l := [75, 110, 111, 119, 110])) (pps_cons (pe_st (l := [116, 97, 107, 101])) (pe_st (l := [78, 111, 87, 97, 121])) (pps_cons (pe_st (l := [117, 110, 100, 111])) (pe_st (l := [78, 111, 116, 104, 105, 110, 103, 68, 111, 110, 101])) pps_nil))) rfl rfl (by simp) (by decide)) (pe_ix ix_tup (pv 1) pe_int (fun _ _ => rfl)) (fun _ _ => rfl)))))))), ?_⟩
  obtain ⟨r, a, dx, p, d, s, k, rfl, hdd, hwf, hd, gi, hk, g, q⟩ := h
  obtain ⟨t0, ts0, hs0, ht0, hp0, hts0⟩ := g.sl
  refine ⟨.ref a, rfl, a, dx, _, rfl, hs0, a, dx, p, s.1, s.2, rfl, g, fun t H1 e1 ht => ?_⟩
  refine ev_deeds (σ := [some (.ref a), some (.ref d), none, none]) (te := tVar 0) (ev_var rfl) (g.mono e1) H1 (Ex.refl _) _ fun H2 e2 => ⟨_, _, rfl, ?_⟩
  have e12 := e1.trans e2
  have ht2 := e2 _ _ ht
  refine ⟨.ref a, rfl, .ref d, rfl, r, a, dx, p, d, s, k, rfl, hdd, hwf, e12 _ _ hd, gi, hk, g.mono e12, fun H3 k3 g3 => ⟨_, rfl, ?_⟩⟩
  have k03 : Keep a p H H3 := (Keep.of e12).trans k3
  by_cases hdn : (deed r s).2 = doneW
  · rw [decide_eq_true hdn]
    refine iteT (s_ret ev_c fun H4 e4 => ?_)
    have := q H4 (k03.trans (.of e4)) (g3.mono e4)
    rw [hdn] at this
    exact this
  · rw [decide_eq_false hdn]
    refine iteF ?_
    obtain ⟨hsame, hword⟩ := rowRead r s hdd hdn
    rw [hsame] at g3 q
    have ht3 : H3 t = some (.tup (Ss s.1)) := k3.tup (g.mono e12) ht2
    have hd3 : H3 d = some (.tup (Ss (dT r))) := k03.tup g hd
    have hchr := gi.ww.chr
    refine q_when (et_is (b := false) (et_or (et_test (ev_opQ (eq_ways (K := K) (ev_var rfl) g3) (fun _ _ => ev_var rfl) fun b H4 e4 hb => rv_neT (K := K) (l := s.1) (m := s.1) hb (st_of (e4 _ _ ht3)) hchr hchr)) fun _ => et_test (ev_op (ev_deeds (ev_var rfl) g3) (ev_var rfl) (rv_ne rfl))) (by simp)) (fun z => nomatch z) fun _ H4 e4 => ?_
    have hidx : ∀ {H5 : Hp}, Ex H3 H5 → Ev (tOp (rIxT K) (tVar 1) (tC (.int 0))) [some (.ref a), some (.ref d), some (.ref t), some (.int (s.2.length : Int))] H5 (S r.word) := fun e => by
      match r, hdd, hd3 with
      | .bare k, _, hd3 => exact ev_op (ev_var rfl) ev_c (rv_ixT (st_of (e _ _ hd3)) rfl)
      | .one k x, _, hd3 => exact ev_op (ev_var rfl) ev_c (rv_ixT (st_of (e _ _ hd3)) rfl)
    have out : ∀ v : W, some (S v) = valV (mergeK [] kvsR) (.inr (ST r.word)) → (deed r s).2 = [114, 101, 102, 117, 115, 101, 100, 32] ++ v → v.length ≤ 100 → ∀ D : Ends, D.rt = Q → tRet (tOp rAddS (tC (S [114, 101, 102, 117, 115, 101, 100, 32])) (tDGet (tDisp [((tC (S [104, 97, 110, 103])), (tC (S [75, 110, 111, 119, 110]))), ((tC (S [116, 97, 107, 101])), (tC (S [78, 111, 87, 97, 121]))), ((tC (S [117, 110, 100, 111])), (tC (S [78, 111, 116, 104, 105, 110, 103, 68, 111, 110, 101])))]) (tOp (rIxT K) (tVar 1) (tC (.int 0))))) D [some (.ref a), some (.ref d), some (.ref t), some (.int (s.2.length : Int))] H4 := fun v hv he hl D hD =>
      s_ret (v := S (deed r s).2) (ev_is (ev_addS ev_c (ev_refd (hidx e4) hv) (by show 8 + v.length ≤ _; omega)) (by rw [he])) fun H5 e5 => by
        rw [hD]
        exact q H5 (k03.trans (.of (e4.trans e5))) (g3.mono (e4.trans e5))
    rcases hword with ⟨h1, h2⟩ | ⟨h1, h2⟩ | ⟨h1, h2⟩
    · exact out [75, 110, 111, 119, 110] (by rw [h1]; rfl) h2 (by decide) _ rfl
    · exact out [78, 111, 87, 97, 121] (by rw [h1]; rfl) h2 (by decide) _ rfl
    · exact out [78, 111, 116, 104, 105, 110, 103, 68, 111, 110, 101] (by rw [h1]; rfl) h2 (by decide) _ rfl
abbrev drawW : List W := [[104, 97, 110, 103], [104, 97, 110, 103], [104, 97, 110, 103], [116, 97, 107, 101], [108, 111, 111, 107], [108, 111, 111, 107], [116, 105, 100, 121]]
theorem sc__law_deed : FnScope ["_law_box_here", "_law_ways_so", "_law_many", "_law_word_so"] ["_law_box_here", "_law_ways_so", "_law_many"] (defScope (top 89)) := ⟨rfl, rfl, rfl, by decide +kernel, rfl, by decide +kernel, by decide +kernel⟩
theorem ok__law_deed (B : Bu mg) (T : Cst K mg) (O__law_take : Ok P w K mg base CX0 1 "_law_take" sp__law_take) (O__law_of : Ok P w K mg base CX0 2 "_law_of" sp__law_of) (O__law_way : Ok P w K mg base CX0 4 "_law_way" sp__law_way) (D : Dn K mg "_law_deed" 89) : Ok P w K mg base CX0 5 "_law_deed" sp__law_deed := by
  refine D.ok sc__law_deed (fun _ _ _ _ _ _ us hl => match us, hl with | [_, _, _], _ => rfl) (by rintro vs H Q E ⟨_, _, _, _, _, rfl, _⟩; rfl) fun f cdv A outer s H vs Q E hr h => ⟨_, (pss_cons (ps_set (i := 3) sc__law_deed.nd rfl (.inl rfl) (pe_ok O__law_of hr rfl pass0 (pa_cons (pv 0) (pa_cons (pe_lst (pa_cons (pe_st (l := [104, 97, 110, 103])) (pa_cons (pe_st (l := [104, 97, 110, 103])) (pa_cons (pe_st (l := [104, 97, 110, 103])) (pa_cons (pe_st (l := [116, 97, 107, 101])) (pa_cons (pe_st (l := [108, 111, 111, 107])) (pa_cons (pe_st (l := [108, 111, 111, 107])) (pa_cons (pe_st (l := [116, 105, 100, 121])) pa_nil)))))))) pa_nil))))
    (pss_cons (ps_if (PW.pt (pw_and (pt_cmpR op_eq (pv 3) (pe_st (l := [104, 97, 110, 103])) (nomark _)) (pw_and1 (pt_cmpR op_gt (pe_callB call_len_seq (by rfl) B.len PySem.boot_len (pa_cons (pv 1) pa_nil)) pe_int (nomark _)))))
      (pss_one (ps_ret (pe_tup (pa_cons (pe_st (l := [116, 105, 100, 121])) pa_nil))))
      pss_nil)
    (pss_cons (ps_if (PW.pt (pw_and (pt_cmpR op_eq (pv 3) (pe_st (l := [116, 97, 107, 101])) (nomark _)) (pw_and (pt_cmpR (op_neD hr.units) (pv 1) (pe_tup pa_nil) (nomark _)) (pw_and1 (pt_cmpR op_gt (pe_ok O__law_take hr rfl pass0 (pa_cons (pv 0) (pa_cons pe_int pa_nil))) pe_int (nomark _))))))
      (pss_one (ps_ret (pe_tup (pa_cons (pe_st (l := [116, 97, 107, 101])) (pa_cons (pe_ok O__law_of hr rfl pass0 (pa_cons (pv 0) (pa_cons (pv 1) pa_nil))) pa_nil)))))
      pss_nil)
    (pss_one (ps_ret (pe_ifExp (pt_cmpR op_ne (pv 3) (pe_st (l := [116, 105, 100, 121])) (nomark _)) (pe_tup (pa_cons (pv 3) (pa_cons (pe_ok O__law_way hr rfl pass0 (pa_cons (pv 0) (pa_cons (pv 2) (pa_cons pe_int pa_nil)))) pa_nil))) (pe_tup (pa_cons (pe_st (l := [116, 105, 100, 121])) pa_nil)))))))), ?_⟩
  obtain ⟨b, wa, many, c, l, rfl, hw, wl, hl, hm, hm8, hb, hc, q⟩ := h
  obtain ⟨bo, hbo⟩ := hb.some
  have hwb : wa ≠ b := fun z => by
    obtain ⟨_, _, _, h1, _⟩ := hb
    rw [z, h1] at hw
    cases hw
  have hlst : EvL (tLst (tCons (tC (S [104, 97, 110, 103])) (tCons (tC (S [104, 97, 110, 103])) (tCons (tC (S [104, 97, 110, 103])) (tCons (tC (S [116, 97, 107, 101])) (tCons (tC (S [108, 111, 111, 107])) (tCons (tC (S [108, 111, 111, 107])) (tCons (tC (S [116, 105, 100, 121])) tNil)))))))) [some (.ref b), some (.ref wa), some (.int (many : Int)), none] H (Ss drawW) :=
    el_lst (ea_cons ev_c (ea_cons ev_c (ea_cons ev_c (ea_cons ev_c (ea_cons ev_c (ea_cons ev_c (ea_cons ev_c ea_nil))))))) (by show 7 ≤ 100000; decide)
  refine ⟨.ref b, rfl, hlst H (Ex.refl _) _ fun L H1 hL e1 h1 => ⟨b, L, c, drawW, rfl, Ne.symm (ne_of_none hbo hL), .inl h1, List.cons_ne_nil _ _, by decide, hb.mono e1 (Nat.le_refl _), by omega, fun u H2 hu k2 hb2 => ?_⟩⟩
  have k02 : Ko b H H2 := (Ko.of e1).trans k2
  have tidyOk : DOk l (.bare .tidy) := ⟨rfl, fun _ _ h => (nomatch h), fun _ _ h => (nomatch h), fun _ _ h => (nomatch h)⟩
  -- a plain tuple of the one word
  have tidy : ∀ H', Ko b H H' → BoxAt H' b (c + 20) → ∀ D : Ends, D.rt = Q → tRet (tTup (tCons (tC (S [116, 105, 100, 121])) tNil)) D [some (.ref b), some (.ref wa), some (.int (many : Int)), some (S u)] H' := fun H' k' hb' D hD =>
    s_retU (eu_tup (ea_cons ev_c ea_nil) (by show 1 ≤ 100000; decide)) fun p H3 hp e3 h3 => by
      rw [hD]
      exact q (.bare .tidy) p H3 tidyOk (k'.trans (.of e3)) (hb'.mono e3 (Nat.le_refl _)) h3
  have fin : ∀ (kk : KO) H', u = kk.w → (∀ x, isDeed (.one kk x) = true) → u ≠ [116, 105, 100, 121] → Ko b H H' → BoxAt H' b (c + 2) → ∀ D : Ends, D.rt = Q → tRet (tIf (tTest (tOp rNe (tVar 3) (tC (S [116, 105, 100, 121])))) (tTup (tCons (tVar 3) (tCons (tCall sp__law_way [] E0 (tCons (tVar 0) (tCons (tVar 2) (tCons (tC (.int 3)) tNil)))) tNil))) (tTup (tCons (tC (S [116, 105, 100, 121])) tNil))) D [some (.ref b), some (.ref wa), some (.int (many : Int)), some (S u)] H' := by
    intro kk H' hu hkk hne k' hb' D hD
    refine et_test (ev_neS (a := u) (b := [116, 105, 100, 121]) (ta := tVar 3) (σ := [some (.ref b), some (.ref wa), some (.int (many : Int)), some (S u)]) (ev_var rfl) ev_c) H' (Ex.refl _) _ fun H3 e3 => ?_
    rw [decide_eq_false hne]
    refine iteT ⟨S u, rfl, .ref b, rfl, .int (many : Int), rfl, b, many, 3, c + 2, rfl, hm, hm8, by decide, by decide, hb'.mono e3 (Nat.le_refl _), by omega, fun x H4 wx hx k4 hb4 => ⟨by show 2 ≤ sizeLine; decide, fun p hp => ?_⟩⟩
    rw [hD]
    have hdw : isDeed (.one kk x) = true := hkk x
    refine q (.one kk x) p _ ⟨hdw, fun k y h => ?_, fun k y h _ => ?_, fun k y h => ?_⟩ (((k'.trans (.of e3)).trans k4).trans (.of (Ex.new hp))) (hb4.mono (Ex.new hp) (by omega)) ?_
    · cases h
      exact wx
    · cases h
      exact hx
    · cases h
      exact .inl hx
    · rw [hu]
      exact upd_same
  have t1 : EvT (tTest (tOp rEq (tVar 3) (tC (S [104, 97, 110, 103])))) [some (.ref b), some (.ref wa), some (.int (many : Int)), some (S u)] H2 (decide (u = [104, 97, 110, 103])) := et_test (ev_eqS (ev_var rfl) ev_c)
  have t2 : ∀ {H3}, EvT (tTest (tOp rEq (tVar 3) (tC (S [116, 97, 107, 101])))) [some (.ref b), some (.ref wa), some (.int (many : Int)), some (S u)] H3 (decide (u = [116, 97, 107, 101])) := et_test (ev_eqS (ev_var rfl) ev_c)
  refine q_when (b := decide (u = [104, 97, 110, 103]) && decide (5 < l.length)) (et_and t1 fun _ => et_is (et_test (ev_gtI (a := (l.length : Int)) (ev_is (ev_lenT (K := K) (ev_var rfl) (st_of (k02 _ _ hwb hw))) (by rw [List.length_map])) ev_c)) (by rw [decide_eq_decide]; omega)) (fun _ H3 e3 => tidy H3 (k02.trans (.of e3)) (hb2.mono e3 (by omega)) _ rfl) fun _ H3 e3 => ?_
  have k03 := k02.trans (Ko.of e3)
  have hb3 : BoxAt H3 b (c + 1) := hb2.mono e3 (Nat.le_refl _)
  have hw3 := k03 _ _ hwb hw
  refine t2 H3 (Ex.refl _) _ fun H4 e4 => ?_
  have hw4 := e4 _ _ hw3
  by_cases hut : u = [116, 97, 107, 101]
  · rw [decide_eq_true hut]
    refine iteT ?_
    refine et_test (ev_opU (ta := tVar 1) (x := .ref wa) (σ := [some (.ref b), some (.ref wa), some (.int (many : Int)), some (S u)]) (ev_var rfl) (eu_tup (vs := Ss []) ea_nil (by show 0 ≤ 100000; decide)) fun r H5 hr e5 => rv_neT (K := K) (l := l) (m := []) (st_of (e5 _ _ hw4)) (st_of hr) wl.chr (fun w hw => nomatch hw)) H4 (Ex.refl _) _ fun H5 e5 => ?_
    have e35 := e4.trans e5
    by_cases hl0 : l = []
    · rw [decide_eq_true hl0]
      exact iteF (iteF (fin .take H5 hut (fun _ => rfl) (by rw [hut]; decide) (k03.trans (.of e35)) (hb3.mono e35 (by omega)) _ rfl))
    · rw [decide_eq_false hl0]
      refine iteT ⟨.ref b, rfl, b, c + 1, 4, rfl, by decide, by decide, hb3.mono e35 (Nat.le_refl _), by omega, fun v H6 hv k6 hb6 => ⟨_, _, rfl, rfl, _, rfl, ?_⟩⟩
      have k06 := (k03.trans (Ko.of e35)).trans k6
      by_cases hv0 : (v : Int) > 0
      · rw [decide_eq_true hv0]
        refine iteT ⟨.ref b, rfl, .ref wa, rfl, b, wa, c + 2, l, rfl, hwb, .inr (k06 _ _ hwb hw), hl0, by omega, hb6, by omega, fun x H7 hx k7 hb7 => ⟨by show 2 ≤ sizeLine; decide, fun p hp => ?_⟩⟩
        refine q (.one .take x) p _ ⟨rfl, fun k y h => ?_, fun k y h hk => ?_, fun k y h => ?_⟩ ((k06.trans k7).trans (.of (Ex.new hp))) (hb7.mono (Ex.new hp) (by omega)) upd_same
        · cases h
          exact wl x hx
        · cases h
          rcases hk with hk | hk <;> cases hk
        · cases h
          exact .inr hx
      · rw [decide_eq_false hv0]
        exact iteF (fin .take H6 hut (fun _ => rfl) (by rw [hut]; decide) k06 hb6 _ rfl)
  · rw [decide_eq_false hut]
    refine iteF (iteF ?_)
    have k04 := k03.trans (Ko.of e4)
    have hb4 : BoxAt H4 b (c + 2) := hb3.mono e4 (by omega)
    by_cases hty : u = [116, 105, 100, 121]
    · refine et_test (ev_neS (a := u) (b := [116, 105, 100, 121]) (ta := tVar 3) (σ := [some (.ref b), some (.ref wa), some (.int (many : Int)), some (S u)]) (ev_var rfl) ev_c) H4 (Ex.refl _) _ fun H5 e5 => ?_
      rw [decide_eq_true hty]
      refine iteF ?_
      exact tidy H5 (k04.trans (.of e5)) (hb4.mono e5 (by omega)) { nx := fun _ _ => False, rt := Q, bk := fun _ _ => False, ct := fun _ _ => False } rfl
    · have hu' : u = [104, 97, 110, 103] ∨ u = [108, 111, 111, 107] := by
        simp only [drawW, List.mem_cons, List.not_mem_nil, or_false] at hu
        rcases hu with h | h | h | h | h | h | h
        · exact .inl h
        · exact .inl h
        · exact .inl h
        · exact absurd h hut
        · exact .inr h
        · exact .inr h
        · exact absurd h hty
      rcases hu' with h | h
      · exact fin .hang H4 h (fun _ => rfl) hty k04 hb4 _ rfl
      · exact fin .look H4 h (fun _ => rfl) hty k04 hb4 _ rfl
end
end Mir
/-! part L7 -/
set_option Elab.async false
set_option linter.all false
set_option maxRecDepth 100000
set_option maxHeartbeats 4000000
/-! The walk: two values read alike. -/
namespace Mir
open PySem PySem.Spec PyProof.Rows L2 Evl
def leafV : V → Bool
  | .str _ => true
  | .int _ => true
  | .bl _ => true
  | _ => false
/-- x and y read the same, no deeper than n -/
def Same (H : Hp) : Nat → V → V → Prop
  | 0, x, y => x = y ∧ leafV x = true
  | n + 1, x, y => (x = y ∧ leafV x = true) ∨ ∃ a b xs ys, x = .ref a ∧ y = .ref b ∧ ((H a = some (.lst xs) ∧ H b = some (.lst ys)) ∨ (H a = some (.tup xs) ∧ H b = some (.tup ys))) ∧ xs.length = ys.length ∧ xs.length ≤ 40000 ∧ ∀ (i : Nat) u v, xs[i]? = some u → ys[i]? = some v → Same H n u v
theorem Same.mono {H H1 : Hp} (e : Ex H H1) : ∀ {n : Nat} {x y : V}, Same H n x y → Same H1 n x y
  | 0, _, _, h => h
  | n + 1, x, y, .inl h => .inl h
  | n + 1, x, y, .inr ⟨a, b, xs, ys, h1, h2, h3, h4, h5, h6⟩ => .inr ⟨a, b, xs, ys, h1, h2, h3.imp (fun h => ⟨e _ _ h.1, e _ _ h.2⟩) (fun h => ⟨e _ _ h.1, e _ _ h.2⟩), h4, h5, fun i u v hu hv => Same.mono e (h6 i u v hu hv)⟩
theorem same_Ss {H : Hp} {a b : Addr} {l : List W} (ha : H a = some (.lst (Ss l))) (hb : H b = some (.lst (Ss l))) (hl : l.length ≤ 40000) : Same H 1 (.ref a) (.ref b) := .inr ⟨a, b, Ss l, Ss l, rfl, rfl, .inl ⟨ha, hb⟩, rfl, by rw [List.length_map]; exact hl, fun i u v hu hv => by
  rw [hu] at hv
  obtain rfl : u = v := Option.some.inj hv
  obtain ⟨w, _, rfl⟩ := pAt_S (H := H) hu
  exact ⟨rfl, rfl⟩⟩
theorem same_St {H : Hp} {a b : Addr} {l : List W} (ha : H a = some (.tup (Ss l))) (hb : H b = some (.tup (Ss l))) (hl : l.length ≤ 40000) : Same H 1 (.ref a) (.ref b) := .inr ⟨a, b, Ss l, Ss l, rfl, rfl, .inr ⟨ha, hb⟩, rfl, by rw [List.length_map]; exact hl, fun i u v hu hv => by
  rw [hu] at hv
  obtain rfl : u = v := Option.some.inj hv
  obtain ⟨w, _, rfl⟩ := pAt_S (H := H) hu
  exact ⟨rfl, rfl⟩⟩
theorem same_S {H : Hp} {n : Nat} (a : W) : Same H n (S a) (S a) := by
  cases n with
  | zero => exact ⟨rfl, rfl⟩
  | succ n => exact .inl ⟨rfl, rfl⟩
def spS : Nat → Sp
  | 0 => fun _ _ _ _ => False
  | n + 1 => fun vs H Q _ => ∃ x y, vs = [x, y] ∧ Same H n x y ∧ Rv (.bl true) H Q
section
variable {K : PySem.W.Frag} {σ : L2.St} {H H' : Hp} {ta tb te : TE} {x : V}
theorem ev_isi {t n : String} {b : Bool} (h : Ev te σ H x) (ty : ∀ H1, Ex H H1 → TyX K H1 x (.type t)) (k : kitB t n = some b) : Ev (tCB (rIsi K) (tCons te (tCons (tC (.ty n)) tNil))) σ H (.bl b) :=
  ev_cb (ea_cons h (ea_cons ev_c ea_nil)) fun H1 e Q q => ⟨_, _, _, _, b, rfl, ClsV.ty n, ty H1 e, kit_ty k, q H1 (Ex.refl H1)⟩
theorem ev_isi2 {t n m : String} {b c : Bool} (h : Ev te σ H x) (ty : ∀ H1, Ex H H1 → TyX K H1 x (.type t)) (k : kitB t n = some b) (k2 : kitB t m = some c) : Ev (tCB (rIsiT K) (tCons te (tCons (tTup (tCons (tC (.ty n)) (tCons (tC (.ty m)) tNil))) tNil))) σ H (.bl (b || c)) := fun H1 e Q q =>
  h H1 e _ fun H2 e2 => ⟨by show 2 ≤ sizeLine; decide, fun p hp => ⟨x, p, [.ty n, .ty m], .type t, [.type n, .type m], b || c, rfl, upd_same, .cons (ClsV.ty n) (.cons (ClsV.ty m) .nil), ty _ ((e.trans e2).trans (Ex.new hp)),
    kitAny_cons (b := b) (kit_ty k) (fun hb => kitAny_cons (b := c) (kit_ty k2) (fun hc => by rw [hb, hc]; rfl) fun hc => by rw [hc, Bool.or_true]) (fun hb => by rw [hb]; rfl), q _ (e2.trans (Ex.new hp))⟩⟩
theorem ev_neB {a b : Bool} (ha : Ev ta σ H (.bl a)) (hb : Ev tb σ H (.bl b)) : Ev (tOp rNe ta tb) σ H (.bl (!decide (a = b))) := by
  have : decide (V.bl a = V.bl b) = decide (a = b) := by cases a <;> cases b <;> rfl
  rw [← this]
  exact ev_op ha hb (rv_ne rfl)
theorem ev_eqB {a b : Bool} (ha : Ev ta σ H (.bl a)) (hb : Ev tb σ H (.bl b)) : Ev (tOp rEq ta tb) σ H (.bl (decide (a = b))) := by
  have : decide (V.bl a = V.bl b) = decide (a = b) := by cases a <;> cases b <;> rfl
  rw [← this]
  exact ev_op ha hb (rv_eq rfl)
end
theorem scal_leaf {x : V} (h : leafV x = true) : scal x x = true := by
  cases x <;> first | rfl | cases h
section
variable {P : Program} {w : World} {K : PySem.W.Frag} {mg : Str → Option Value} {base : Heap}
theorem same0 (D : Dn K mg "_law_same" 79) : Ok P w K mg base CX0 0 "_law_same" (spS 0) := by
  obtain ⟨f, fd, F, hm⟩ := D
  exact ⟨f, fd, ["_law_got", "_law_due"], hm, F.kp, F.bindsN (fun _ _ _ _ _ _ us hl => match us, hl with | [_, _], _ => rfl), ⟨fun vs H Q E h => h.elim, fun A outer s H args us vs Q E _ _ _ _ h => h.elim⟩⟩
theorem sc__law_same : FnScope ["_law_got", "_law_due", "_law_mine", "_law_its"] ["_law_got", "_law_due"] (defScope (top 79)) := ⟨rfl, rfl, rfl, by decide +kernel, rfl, by decide +kernel, by decide +kernel⟩
theorem ok__law_same (B : Bu mg) (T : Cst K mg) (k : Nat) (O__law_same : Ok P w K mg base CX0 k "_law_same" (spS k)) (D : Dn K mg "_law_same" 79) : Ok P w K mg base CX0 (k + 1) "_law_same" (spS (k + 1)) := by
  refine D.ok sc__law_same (fun _ _ _ _ _ _ us hl => match us, hl with | [_, _], _ => rfl) (by rintro vs H Q E ⟨x, y, rfl, _⟩; rfl) fun f cdv A outer s H vs Q E hr h => ⟨_, (pss_cons (ps_if (pt_val (pe_callB call_isiT (by rfl) B.isinstance (by decide +kernel) (pa_cons (pv 1) (pa_cons (pe_tup (pa_cons (pe_bltn (v := .ty "list") (by rfl) B.list (by decide +kernel) rfl) (pa_cons (pe_bltn (v := .ty "tuple") (by rfl) B.tuple (by decide +kernel) rfl) pa_nil))) pa_nil))))
      (pss_cons (ps_if (PW.pt (pw_or (pt_cmpR op_ne (pe_callB call_isi (by rfl) B.isinstance (by decide +kernel) (pa_cons (pv 0) (pa_cons (pe_bltn (v := .ty "list") (by rfl) B.list (by decide +kernel) rfl) pa_nil))) (pe_callB call_isi (by rfl) B.isinstance (by decide +kernel) (pa_cons (pv 1) (pa_cons (pe_bltn (v := .ty "list") (by rfl) B.list (by decide +kernel) rfl) pa_nil))) (nomark _)) (pw_or1 (pt_cmpR op_ne (pe_callB call_isi (by rfl) B.isinstance (by decide +kernel) (pa_cons (pv 0) (pa_cons (pe_bltn (v := .ty "tuple") (by rfl) B.tuple (by decide +kernel) rfl) pa_nil))) (pe_callB call_isi (by rfl) B.isinstance (by decide +kernel) (pa_cons (pv 1) (pa_cons (pe_bltn (v := .ty "tuple") (by rfl) B.tuple (by decide +kernel) rfl) pa_nil))) (nomark _)))))
        (pss_one (ps_ret pe_bl))
        pss_nil)
      (pss_one (ps_ret (pe_and (pe_cmpR op_eq (pe_callB call_len_seq (by rfl) B.len PySem.boot_len (pa_cons (pv 0) pa_nil)) (pe_callB call_len_seq (by rfl) B.len PySem.boot_len (pa_cons (pv 1) pa_nil)) (nomark _)) (pe_one (pe_callB (cr_all rfl) (by rfl) B.all (by decide +kernel) (pa_cons (pe_lc (own := [("_law_mine", 2), ("_law_its", 3)]) (g := (gTup K 2 (gCons (gName 2) (gCons (gName 3) gNil)))) (tt := tYes) (te := (tCall (spS k) [] E0 (tCons (tVar 2) (tCons (tVar 3) tNil)))) rfl sc__law_same.nd (RZ.pi_zipA (by rfl) B.zip (pa_cons (pv 0) (pa_cons (pv 1) pa_nil))) (blkOk_by (N := ["_law_got", "_law_due", "_law_mine", "_law_its"]) (sc := defScope (top 79)) (by decide +kernel)) (fun _ _ _ _ _ => (pg_tup rfl (pgs_cons (pg_name (i := 2) sc__law_same.nd rfl (.inl rfl)) (pgs_cons (pg_name (i := 3) sc__law_same.nd rfl (.inl rfl)) pgs_nil)))) (fun _ _ _ _ _ => pts_nil) (fun _ _ _ _ _ => (pe_ok O__law_same hr rfl pass0 (pa_cons (pv 2) (pa_cons (pv 3) pa_nil)) (Nat.le_refl _)))) pa_nil)))))))
      pss_nil)
    (pss_cons (ps_if (PW.pt (pw_or (pt_cmpR op_isN (pv 1) pe_non (nomark _)) (pw_or1 (pt_val (pe_callB call_isiT (by rfl) B.isinstance (by decide +kernel) (pa_cons (pv 1) (pa_cons (pe_tup (pa_cons (pe_bltn (v := .ty "bool") (by rfl) B.bool (by decide +kernel) rfl) (pa_cons (pe_bltn (v := .ty "str") (by rfl) B.str (by decide +kernel) rfl) pa_nil))) pa_nil)))))))
      (pss_one (ps_ret (pe_and (pe_cmpR op_eq (pv 0) (pv 1) (nomark _)) (pe_and (pe_cmpR op_eq (pe_callB call_isi (by rfl) B.isinstance (by decide +kernel) (pa_cons (pv 0) (pa_cons (pe_bltn (v := .ty "bool") (by rfl) B.bool (by decide +kernel) rfl) pa_nil))) (pe_callB call_isi (by rfl) B.isinstance (by decide +kernel) (pa_cons (pv 1) (pa_cons (pe_bltn (v := .ty "bool") (by rfl) B.bool (by decide +kernel) rfl) pa_nil))) (nomark _)) (pe_one (pe_cmpR op_eq (pe_cmpR op_isN (pv 0) pe_non (nomark _)) (pe_cmpR op_isN (pv 1) pe_non (nomark _)) (nomark _)))))))
      pss_nil)
    (pss_one (ps_ret (pe_and (pe_callB call_isi (by rfl) B.isinstance (by decide +kernel) (pa_cons (pv 0) (pa_cons (pe_bltn (v := .ty "int") (by rfl) B.int (by decide +kernel) rfl) pa_nil))) (pe_and (pe_not (pe_callB call_isi (by rfl) B.isinstance (by decide +kernel) (pa_cons (pv 0) (pa_cons (pe_bltn (v := .ty "bool") (by rfl) B.bool (by decide +kernel) rfl) pa_nil)))) (pe_one (pe_cmpR op_eq (pv 0) (pv 1) (nomark _))))))))), ?_⟩
  obtain ⟨x, y, rfl, hs, q⟩ := h
  have hsk := hs
  have leaf : x = y ∧ leafV x = true ∨ ∃ m, k = m + 1 ∧ ∃ a b xs ys, x = .ref a ∧ y = .ref b ∧ ((H a = some (.lst xs) ∧ H b = some (.lst ys)) ∨ (H a = some (.tup xs) ∧ H b = some (.tup ys))) ∧ xs.length = ys.length ∧ xs.length ≤ 40000 ∧ ∀ (i : Nat) u v, xs[i]? = some u → ys[i]? = some v → Same H m u v := by
    cases k with
    | zero => exact .inl hs
    | succ m => exact hs.imp id fun h => ⟨m, rfl, h⟩
  clear hs hsk
  rcases leaf with ⟨rfl, hlf⟩ | ⟨m, rfl, a, b, xs, ys, rfl, rfl, hab, hlen, hmax, hall⟩
  · -- leaves
    cases x with
    | str z =>
      have ty : ∀ H1, TyX K H1 (.str z) (.type "str") := fun H1 => .base (.str z)
      refine q_when (et_is (b := false) (et_B (ev_isi2 (b := false) (c := false) (ev_var rfl) (fun H1 _ => ty H1) (by decide +kernel) (by decide +kernel))) rfl) (fun z => nomatch z) fun _ H1 e1 => ?_
      refine q_when (et_is (b := true) (et_or (et_test (ev_isN (x := .str z) (ev_var rfl))) fun _ => et_B (ev_isi2 (b := false) (c := true) (ev_var rfl) (fun H1 _ => ty H1) (by decide +kernel) (by decide +kernel))) (by simp)) (fun _ H2 e2 => ?_) (fun z => nomatch z)
      refine s_ret (ev_is (ev_andV (a := true) (b := true) (ev_is (ev_op (ev_var rfl) (ev_var rfl) (rv_eq rfl)) (by simp)) fun _ => ev_is (ev_andV (a := true) (b := true) (ev_is (ev_eqB (ev_isi (b := false) (ev_var rfl) (fun H1 _ => ty H1) (by decide +kernel)) (ev_isi (b := false) (ev_var rfl) (fun H1 _ => ty H1) (by decide +kernel))) rfl) fun _ => ev_is (ev_eqB (a := false) (b := false) (ev_is (ev_isN (x := .str z) (ev_var rfl)) rfl) (ev_is (ev_isN (x := .str z) (ev_var rfl)) rfl)) rfl) rfl) rfl) fun H3 e3 => q H3 ((e1.trans e2).trans e3)
    | bl z =>
      have ty : ∀ H1, TyX K H1 (.bl z) (.type "bool") := fun H1 => .base (.bl z)
      refine q_when (et_is (b := false) (et_B (ev_isi2 (b := false) (c := false) (ev_var rfl) (fun H1 _ => ty H1) (by decide +kernel) (by decide +kernel))) rfl) (fun z => nomatch z) fun _ H1 e1 => ?_
      refine q_when (et_is (b := true) (et_or (et_test (ev_isN (x := .bl z) (ev_var rfl))) fun _ => et_B (ev_isi2 (b := true) (c := false) (ev_var rfl) (fun H1 _ => ty H1) (by decide +kernel) (by decide +kernel))) (by simp)) (fun _ H2 e2 => ?_) (fun z => nomatch z)
      refine s_ret (ev_is (ev_andV (a := true) (b := true) (ev_is (ev_op (ev_var rfl) (ev_var rfl) (rv_eq rfl)) (by simp)) fun _ => ev_is (ev_andV (a := true) (b := true) (ev_is (ev_eqB (ev_isi (b := true) (ev_var rfl) (fun H1 _ => ty H1) (by decide +kernel)) (ev_isi (b := true) (ev_var rfl) (fun H1 _ => ty H1) (by decide +kernel))) rfl) fun _ => ev_is (ev_eqB (a := false) (b := false) (ev_is (ev_isN (x := .bl z) (ev_var rfl)) rfl) (ev_is (ev_isN (x := .bl z) (ev_var rfl)) rfl)) rfl) rfl) rfl) fun H3 e3 => q H3 ((e1.trans e2).trans e3)
    | int z =>
      have ty : ∀ H1, TyX K H1 (.int z) (.type "int") := fun H1 => .base (.int z)
      refine q_when (et_is (b := false) (et_B (ev_isi2 (b := false) (c := false) (ev_var rfl) (fun H1 _ => ty H1) (by decide +kernel) (by decide +kernel))) rfl) (fun z => nomatch z) fun _ H1 e1 => ?_
      refine q_when (et_is (b := false) (et_or (et_test (ev_isN (x := .int z) (ev_var rfl))) fun _ => et_B (ev_isi2 (b := false) (c := false) (ev_var rfl) (fun H1 _ => ty H1) (by decide +kernel) (by decide +kernel))) (by simp)) (fun z => nomatch z) fun _ H2 e2 => ?_
      refine s_ret (ev_is (ev_andV (a := true) (b := true) (ev_isi (b := true) (ev_var rfl) (fun H1 _ => ty H1) (by decide +kernel)) fun _ => ev_is (ev_andV (a := true) (b := true) (ev_is (ev_notV (ev_isi (b := false) (ev_var rfl) (fun H1 _ => ty H1) (by decide +kernel))) rfl) fun _ => ev_is (ev_op (ev_var rfl) (ev_var rfl) (rv_eq rfl)) (by simp)) rfl) rfl) fun H3 e3 => q H3 ((e1.trans e2).trans e3)
    | _ => cases hlf
  · -- lists and tuples
    have comp : ∀ {H2 : Hp} {wi : TI}, Ex H H2 → EvI wi [some (.ref a), some (.ref b), none, none] H2 (min xs.length ys.length) (PTwo (fun i => xs[i]?) fun i => ys[i]?) → Ev (tCB (rAll K) (tCons (tLc wi (gTup K 2 (gCons (gName 2) (gCons (gName 3) gNil))) tYes (tCall (spS (m + 1)) [] E0 (tCons (tVar 2) (tCons (tVar 3) tNil))) [2, 3]) tNil)) [some (.ref a), some (.ref b), none, none] H2 (.bl true) := fun {H2 wi} e hi => by
      have h1 := el_lc2 (K := K) (j := 2) (k := 3) (vs := [2, 3]) (t := tYes) (te := tCall (spS (m + 1)) [] E0 (tCons (tVar 2) (tCons (tVar 3) tNil))) (fun _ => true) (fun _ => .bl true) hi (by omega) (fun x y => rfl) fun i x y H1 e1 _ hx hy => ⟨et_yes, fun _ => ev_ok (ea_cons (ev_var rfl) (ea_cons (ev_var rfl) ea_nil)) fun H3 Q e3 q => ⟨x, y, rfl, (hall i x y hx hy).mono ((e.trans e1).trans e3), q⟩⟩
      rw [given_all] at h1
      exact ev_is (ev_allF h1) (by simp)
    rcases hab with ⟨ha, hb⟩ | ⟨ha, hb⟩
    · have tya : ∀ H1, Ex H H1 → TyX K H1 (.ref a) (.type "list") := fun H1 e => .base (.lst (e _ _ ha))
      have tyb : ∀ H1, Ex H H1 → TyX K H1 (.ref b) (.type "list") := fun H1 e => .base (.lst (e _ _ hb))
      refine q_when (et_is (b := true) (et_B (ev_isi2 (b := true) (c := false) (ev_var rfl) tyb (by decide +kernel) (by decide +kernel))) rfl) (fun _ H1 e1 => ?_) (fun z => nomatch z)
      refine q_when (et_is (b := false) (et_or (et_test (ev_neB (ev_isi (b := true) (ev_var rfl) (fun H2 e => tya H2 (e1.trans e)) (by decide +kernel)) (ev_isi (b := true) (ev_var rfl) (fun H2 e => tyb H2 (e1.trans e)) (by decide +kernel)))) fun _ => et_test (ev_neB (ev_isi (b := false) (ev_var rfl) (fun H2 e => tya H2 (e1.trans e)) (by decide +kernel)) (ev_isi (b := false) (ev_var rfl) (fun H2 e => tyb H2 (e1.trans e)) (by decide +kernel)))) rfl) (fun z => nomatch z) fun _ H2 e2 => ?_
      have e12 := e1.trans e2
      refine s_ret (ev_is (ev_andV (a := true) (b := true) (ev_is (ev_eqI (ev_len (K := K) (ev_var rfl) (sq_of (e12 _ _ ha))) (ev_len (K := K) (ev_var rfl) (sq_of (e12 _ _ hb)))) (by rw [hlen]; simp)) fun _ => comp e12 (ei_zipL (ev_var rfl) (sq_of (e12 _ _ ha)) (ev_var rfl) (sq_of (e12 _ _ hb)))) rfl) fun H3 e3 => q H3 (e12.trans e3)
    · have tya : ∀ H1, Ex H H1 → TyX K H1 (.ref a) (.type "tuple") := fun H1 e => .base (.tup (e _ _ ha))
      have tyb : ∀ H1, Ex H H1 → TyX K H1 (.ref b) (.type "tuple") := fun H1 e => .base (.tup (e _ _ hb))
      refine q_when (et_is (b := true) (et_B (ev_isi2 (b := false) (c := true) (ev_var rfl) tyb (by decide +kernel) (by decide +kernel))) rfl) (fun _ H1 e1 => ?_) (fun z => nomatch z)
      refine q_when (et_is (b := false) (et_or (et_test (ev_neB (ev_isi (b := false) (ev_var rfl) (fun H2 e => tya H2 (e1.trans e)) (by decide +kernel)) (ev_isi (b := false) (ev_var rfl) (fun H2 e => tyb H2 (e1.trans e)) (by decide +kernel)))) fun _ => et_test (ev_neB (ev_isi (b := true) (ev_var rfl) (fun H2 e => tya H2 (e1.trans e)) (by decide +kernel)) (ev_isi (b := true) (ev_var rfl) (fun H2 e => tyb H2 (e1.trans e)) (by decide +kernel)))) rfl) (fun z => nomatch z) fun _ H2 e2 => ?_
      have e12 := e1.trans e2
      refine s_ret (ev_is (ev_andV (a := true) (b := true) (ev_is (ev_eqI (ev_lenT (K := K) (ev_var rfl) (st_of (e12 _ _ ha))) (ev_lenT (K := K) (ev_var rfl) (st_of (e12 _ _ hb)))) (by rw [hlen]; simp)) fun _ => comp e12 (ei_zipQ (eq_v (ev_var rfl) (st_of (e12 _ _ ha))) (eq_v (ev_var rfl) (st_of (e12 _ _ hb))))) rfl) fun H3 e3 => q H3 (e12.trans e3)
theorem ok_same (B : Bu mg) (T : Cst K mg) (D : Dn K mg "_law_same" 79) : ∀ k, Ok P w K mg base CX0 k "_law_same" (spS k)
  | 0 => same0 D
  | k + 1 => ok__law_same B T k (ok_same B T D k) D
end
end Mir
/-! part K8 -/
set_option Elab.async false
set_option linter.all false
set_option maxRecDepth 100000
set_option maxHeartbeats 4000000
/-! The plain law of the desk: what it answers of a deed and of what is asked behind it. -/
namespace Mir
open PySem PySem.Spec PyProof.Rows L2 Evl
/-- a deed as the law draws it -/
structure Dk (r : Req) : Prop where
  deed : isDeed r = true
  wf : r.wf
  short : ∀ k x, r = .one k x → k = .look ∨ k = .hang → x.length ≤ 3
def Sm (n : Nat) (s : GS) : Prop := Shr n s.1 ∧ ∀ u ∈ s.2, Shr n u
theorem Sm.more {n m : Nat} {s : GS} (h : Sm n s) (l : n ≤ m) : Sm m s := ⟨h.1.mono l, fun u hu => (h.2 u hu).mono l⟩
theorem Sm.push {n : Nat} {s : GS} {l : List W} (h : Sm n s) (hl : Shr n l) : Sm n (setOf l, s.2 ++ [s.1]) := ⟨fun x hx => hl x (mem_setOf.mp hx), fun u hu => by
  rcases List.mem_append.mp hu with hu | hu
  · exact h.2 u hu
  · rw [List.mem_singleton.mp hu]
    exact h.1⟩
theorem Sm.deed {n k : Nat} {s : GS} {r : Req} (h : Sm n s) (g : GI k s) (d : Dk r) : Sm (n + 6) (deed r s).1 := by
  have h6 := h.more (m := n + 6) (by omega)
  match r, d with
  | .one .hang x, d =>
    by_cases hx : x ∈ s.1
    · rw [show Mir.deed (.one .hang x) s = (s, refK) from if_pos hx]
      exact h6
    · rw [show Mir.deed (.one .hang x) s = ((setOf (s.1 ++ [x]), s.2 ++ [s.1]), doneW) from if_neg hx]
      refine h6.push fun y hy => ?_
      rcases List.mem_append.mp hy with hy | hy
      · exact h6.1 y hy
      · rw [List.mem_singleton.mp hy]
        have := d.short _ _ rfl (.inr rfl)
        omega
  | .one .take x, d =>
    by_cases hx : x ∈ s.1
    · rw [show Mir.deed (.one .take x) s = ((setOf (s.1.filter fun y => !decide (y = x)), s.2 ++ [s.1]), doneW) from if_pos hx]
      exact h6.push fun y hy => h6.1 y (List.mem_filter.mp hy).1
    · rw [show Mir.deed (.one .take x) s = (s, refN) from if_neg hx]
      exact h6
  | .one .look x, d =>
    refine h6.push (l := s.1.map fun y => sn y x) fun y hy => ?_
    obtain ⟨z, hz, rfl⟩ := List.mem_map.mp hy
    have h1 := sn_len z x
    have h2 := h.1 z hz
    have h3 := d.short _ _ rfl (.inl rfl)
    omega
  | .bare .tidy, d => exact h6.push (l := mk s.1) (mk_short g.ww h6.1)
  | .bare .undo, d =>
    rcases snocP s.2 with e | ⟨q, u, e⟩
    · have e' : Mir.deed (.bare .undo) s = (s, refD) := by
        show (match s.2.getLast? with | none => (s, refD) | some u => ((u, s.2.dropLast), doneW)) = _
        rw [e]
        rfl
      rw [e']
      exact h6
    · have e' : Mir.deed (.bare .undo) s = ((u, q), doneW) := by
        show (match s.2.getLast? with | none => (s, refD) | some u => ((u, s.2.dropLast), doneW)) = _
        rw [e]
        simp
      rw [e']
      exact ⟨h6.2 u (by rw [e]; simp), fun v hv => h6.2 v (by rw [e]; exact List.mem_append_left _ hv)⟩
  | .bare .ways, d => exact absurd d.deed (by decide)
  | .bare .makers, d => exact absurd d.deed (by decide)
  | .one .has x, d => exact absurd d.deed (by simp [isDeed])
  | .one .chain x, d => exact absurd d.deed (by simp [isDeed])
  | .two _ _ _, d => exact absurd d.deed (by simp [isDeed])
  | .path _ _, d => exact absurd d.deed (by simp [isDeed])
  | .within _, d => exact absurd d.deed (by simp [isDeed])
theorem step_deed {r : Req} {s : GS} (h : isDeed r = true) : step r s = deed r s := if_pos h
theorem Sm.after : ∀ {rs : List Req} {n k : Nat} {s : GS}, Sm n s → GI k s → (∀ r ∈ rs, Dk r) → Sm (n + 6 * rs.length) (after rs s)
  | [], _, _, _, h, _, _ => h
  | r :: rs, n, k, s, h, g, d => by
    have dr := d r (List.mem_cons_self ..)
    have h1 := h.deed g dr
    have g1 := g.deed dr.wf
    rw [← step_deed dr.deed] at h1 g1
    have := Sm.after (rs := rs) h1 g1 fun r' hr' => d r' (List.mem_cons_of_mem _ hr')
    exact this.more (by rw [List.length_cons]; omega)
theorem sm0 : Sm 0 g0 := ⟨fun _ h => (nomatch h), fun _ h => (nomatch h)⟩
/-- the deeds, each with what is asked behind it -/
def dl (rs : List Req) : List Req := rs.flatMap fun r => r :: asked
theorem dl_snoc (rs : List Req) (r : Req) : dl (rs ++ [r]) = dl rs ++ (r :: asked) := by
  unfold dl
  rw [List.flatMap_append]
  simp
theorem dl_len (rs : List Req) : (dl rs).length = 8 * rs.length := by
  induction rs with
  | nil => rfl
  | cons r rs ih =>
    show ((r :: asked) ++ dl rs).length = _
    rw [List.length_append, ih]
    show 8 + 8 * rs.length = 8 * (rs.length + 1)
    omega
theorem run_asked (s : GS) : run asked s = asked.map fun r => told r s.1 := rfl
theorem after_asked (s : GS) : after asked s = s := rfl
theorem run_deed {r : Req} {s : GS} (h : isDeed r = true) : run (r :: asked) s = (deed r s).2 :: asked.map fun q => told q (deed r s).1.1 := by
  show (step r s).2 :: run asked (step r s).1 = _
  rw [step_deed h, run_asked]
theorem after_dl : ∀ {rs : List Req} {s : GS}, after (dl rs) s = after rs s
  | [], _ => rfl
  | r :: rs, s => by
    show after ((r :: asked) ++ dl rs) s = after rs (step r s).1
    rw [after_app]
    exact after_dl (rs := rs)
theorem asked_wf : ∀ r ∈ asked, r.wf := by
  intro r hr
  simp only [asked, List.mem_cons, List.not_mem_nil, or_false] at hr
  rcases hr with rfl | rfl | rfl | rfl | rfl | rfl | rfl
  · trivial
  · trivial
  · exact ⟨way_ab, by decide⟩
  · exact ⟨way_cbc, by decide⟩
  · exact ⟨way_bab, by decide⟩
  · exact ⟨lot1_ok, (ascB_iff _).mp (by decide), by decide, shr_of (by decide)⟩
  · exact ⟨lot2_ok, (ascB_iff _).mp (by decide), by decide, shr_of (by decide)⟩
theorem dl_wf {rs : List Req} (h : ∀ r ∈ rs, Dk r) : ∀ r ∈ dl rs, r.wf := by
  intro r hr
  obtain ⟨q, hq, hr⟩ := List.mem_flatMap.mp hr
  rcases List.mem_cons.mp hr with rfl | hr
  · exact (h _ hq).wf
  · exact asked_wf r hr
/-- hanging one by one -/
def hangs (l : List W) : List Req := l.map fun x => .one .hang x
theorem hangs_set : ∀ {l : List W} {s : GS}, Asc s.1 → Asc (after (hangs l) s).1 ∧ ∀ x, x ∈ (after (hangs l) s).1 ↔ x ∈ s.1 ∨ x ∈ l
  | [], s, h => ⟨h, fun x => by show x ∈ s.1 ↔ _; simp⟩
  | y :: l, s, h => by
    show Asc (after (hangs l) (deed (.one .hang y) s).1).1 ∧ ∀ x, x ∈ (after (hangs l) (deed (.one .hang y) s).1).1 ↔ _
    by_cases hy : y ∈ s.1
    · rw [show deed (.one .hang y) s = (s, refK) from if_pos hy]
      obtain ⟨h1, h2⟩ := hangs_set (l := l) h
      refine ⟨h1, fun x => ?_⟩
      rw [h2 x, List.mem_cons]
      constructor
      · rintro (h | h)
        · exact .inl h
        · exact .inr (.inr h)
      · rintro (h | rfl | h)
        · exact .inl h
        · exact .inl hy
        · exact .inr h
    · rw [show deed (.one .hang y) s = ((setOf (s.1 ++ [y]), s.2 ++ [s.1]), doneW) from if_neg hy]
      obtain ⟨h1, h2⟩ := hangs_set (l := l) (s := (setOf (s.1 ++ [y]), s.2 ++ [s.1])) (asc_setOf _)
      refine ⟨h1, fun x => ?_⟩
      rw [h2 x, mem_setOf, List.mem_append, List.mem_singleton, List.mem_cons]
      constructor
      · rintro ((h | h) | h)
        · exact .inl h
        · exact .inr (.inl h)
        · exact .inr (.inr h)
      · rintro (h | h | h)
        · exact .inl (.inl h)
        · exact .inl (.inr h)
        · exact .inr h
theorem hangs_ws {l ws : List W} (ha : Asc ws) (h : ∀ x, x ∈ l ↔ x ∈ ws) : (after (hangs l) g0).1 = ws := by
  obtain ⟨h1, h2⟩ := hangs_set (l := l) (s := g0) trivial
  refine asc_ext h1 ha fun x => ?_
  rw [h2 x, h x]
  exact ⟨fun z => z.elim (fun z => nomatch z) id, .inr⟩
theorem hangs_run {l ws : List W} (ha : Asc ws) (h : ∀ x, x ∈ l ↔ x ∈ ws) : (run (hangs l ++ asked) g0).drop l.length = asked.map fun r => told r ws := by
  rw [run_app, List.drop_append, List.drop_eq_nil_of_le (by rw [run_len]; unfold hangs; rw [List.length_map]; exact Nat.le_refl _), run_len, run_asked, hangs_ws ha h]
  unfold hangs
  rw [List.length_map, Nat.sub_self]
  rfl
theorem hangs_wf {l : List W} (h : Ways l) (hs : Shr 64 l) : ∀ r ∈ hangs l, r.wf := fun r hr => by
  obtain ⟨x, hx, rfl⟩ := List.mem_map.mp hr
  exact ⟨h x hx, hs x hx⟩
theorem told_mk {ws : List W} (h : Ways ws) : (asked.drop 1).map (fun r => told r (mk ws)) = (asked.drop 1).map fun r => told r ws := by
  have e := mk_mk h
  have hc : ∀ x, chn (mk ws) x = chn ws x := fun x => by
    unfold chn
    rw [e]
  show [wtx (mk (mk ws)), yn (decide ((fold (mk (mk ws)) [97, 98]).1 ∈ mk (mk ws))), yn (decide ((fold (mk (mk ws)) [99, 98, 99]).1 ∈ mk (mk ws))), ctx (chn (mk ws) [98, 97, 98]), yn (wi (mk ws) lot1), yn (wi (mk ws) lot2)] = _
  rw [e, hc, wi_mk h lot1_ok, wi_mk h lot2_ok]
  rfl
/-- a look is undone -/
theorem look_undo (s : GS) (x : W) : after [.one .look x, .bare .undo] s = s := by
  show (deed (.bare .undo) (setOf (s.1.map fun y => sn y x), s.2 ++ [s.1])).1 = s
  show (match (s.2 ++ [s.1]).getLast? with | none => ((setOf (s.1.map fun y => sn y x), s.2 ++ [s.1]), refD) | some u => ((u, (s.2 ++ [s.1]).dropLast), doneW)).1 = s
  rw [List.getLast?_concat, List.dropLast_concat]
theorem more_run (rs : List Req) (x : W) : (run (rs ++ [.one .look x, .bare .undo] ++ asked) g0).drop (rs.length + 2) = asked.map fun r => told r (after rs g0).1 := by
  rw [run_app, List.drop_append, List.drop_eq_nil_of_le (by rw [run_len, List.length_append]; exact Nat.le_refl _), run_len, run_asked, after_app, look_undo, List.length_append]
  show [] ++ List.drop (rs.length + 2 - (rs.length + 2)) _ = _
  rw [Nat.sub_self]
  rfl
theorem last_run (rs : List Req) : run (rs ++ [.bare .ways, .bare .makers]) g0 = run rs g0 ++ [wtx (after rs g0).1, wtx (mk (after rs g0).1)] := by
  rw [run_app]
  rfl
theorem cutV_last2 {xs : List V} {x y : V} : cutV (xs ++ [x, y]) (some (-2)) none = [x, y] := by
  unfold cutV
  rw [HT.sIx_none]
  have : HT.sIx (xs ++ [x, y]).length 0 (some (-2)) = xs.length := by
    show (if (-2 : Int) < 0 then ((-2 : Int) + ((xs ++ [x, y]).length : Int)).toNat else min (-2 : Int).toNat (xs ++ [x, y]).length) = _
    rw [if_pos (by decide), List.length_append]
    show ((-2 : Int) + ((xs.length + 2 : Nat) : Int)).toNat = _
    omega
  rw [this, List.drop_left, List.take_of_length_le (by rw [List.length_append]; show 2 ≤ _ + 2 - _; omega)]
theorem join_ok {rs : List Req} (h : ∀ r ∈ rs, r.wf) (hl : rs.length ≤ 63) : tot (rs.map Req.line) + (rs.map Req.line).length * 1 ≤ 1000000 := by
  have h2 := tot_le (n := 4400) (l := rs.map Req.line) fun w hw => by
    obtain ⟨r, hr, rfl⟩ := List.mem_map.mp hw
    exact (line_free (h r hr)).2
  rw [List.length_map] at h2 ⊢
  omega
section
variable {K : PySem.W.Frag} {σ : L2.St} {H : Hp} {te : TE}
/-- answers(join of the lines) -/
theorem el_answers {rs : List Req} (h : EvL te σ H (Ss (rs.map Req.line))) (h0 : rs ≠ []) (hl : rs.length ≤ 63) (hw : ∀ r ∈ rs, r.wf) : EvL (tCall sp_answers [] E0 (tCons (tM1 (rJoin K) (tC (S [10])) te) tNil)) σ H (Ss (run rs g0)) :=
  el_ok (ea_cons (ev_joinN (y := [10]) (l := rs.map Req.line) ev_c h (join_ok hw hl)) ea_nil) fun H1 Q _ q => ⟨rs, rfl, h0, hl, hw, q⟩
theorem el_answersV {rs : List Req} {p : Addr} (h : Ev te σ H (.ref p)) (hp : H p = some (.lst (Ss (rs.map Req.line)))) (h0 : rs ≠ []) (hl : rs.length ≤ 63) (hw : ∀ r ∈ rs, r.wf) : EvL (tCall sp_answers [] E0 (tCons (tM1 (rJoin K) (tC (S [10])) te) tNil)) σ H (Ss (run rs g0)) :=
  el_ok (ea_cons (ev_joinV (y := [10]) (l := rs.map Req.line) ev_c h (.inl (sq_of hp)) (join_ok hw hl)) ea_nil) fun H1 Q _ q => ⟨rs, rfl, h0, hl, hw, q⟩
end
end Mir
/-! part L8 -/
set_option Elab.async false
set_option linter.all false
set_option maxRecDepth 100000
set_option maxHeartbeats 4000000
/-! The walk: the looks are right. -/
namespace Mir
open PySem PySem.Spec PyProof.Rows L2 Evl
abbrev sp__law_looks_right : Sp := fun vs H Q _ => ∃ x y : W, vs = [S x, S y] ∧ Way x ∧ Way y ∧ x.length ≤ 20 ∧ y.length ≤ 20 ∧ Rv (.bl true) H Q
theorem pth_self (x : W) : pth x x = [] := by
  unfold pth
  rw [shr_self, List.drop_length]
  rfl
theorem pth_nil (x : W) : pth [] x = x := rfl
theorem rowt_ne {x : W} (h : x ≠ []) : rowt x = x := if_neg h
section
variable {K : PySem.W.Frag} {σ : L2.St} {H : Hp} {ta tb : TE}
theorem ev_same2 {l : List W} {p : Addr} (h : EvL ta σ H (Ss l)) (h2 : ∀ H1, Ex H H1 → Ev tb σ H1 (.ref p)) (hp : H p = some (.lst (Ss l))) (hl : l.length ≤ 40000) : Ev (tCall (spS 2) [] E0 (tCons ta (tCons tb tNil))) σ H (.bl true) := fun H1 e Q q =>
  h H1 e _ fun r H2 _ e2 hr => h2 H2 (e.trans e2) H2 (Ex.refl _) _ fun H3 e3 => ⟨.ref r, .ref p, rfl, same_Ss (e3 _ _ hr) (e3 _ _ (e2 _ _ (e _ _ hp))) hl, fun H4 e4 => q H4 ((e2.trans e3).trans e4)⟩
end
section
variable {P : Program} {w : World} {K : PySem.W.Frag} {mg : Str → Option Value} {base : Heap}
theorem sc__law_looks_right : FnScope ["_law_one_so", "_law_other_so", "_law_both_so", "_law_lines_so", "_law_found", "_law_due"] ["_law_one_so", "_law_other_so"] (defScope (top 95)) := ⟨rfl, rfl, rfl, by decide +kernel, rfl, by decide +kernel, by decide +kernel⟩
theorem ok__law_looks_right (B : Bu mg) (T : Cst K mg) (O_mirror_between : Ok P w K mg base CX0 5 "mirror_between" sp_mirror_between) (O_seen_in : Ok P w K mg base CX0 4 "seen_in" sp_seen_in) (O_path : Ok P w K mg base CX0 2 "path" sp_path) (O_answers : Ok P w K mg base CX0 10 "answers" sp_answers) (O__law_same : Ok P w K mg base CX0 2 "_law_same" (spS 2)) (D : Dn K mg "_law_looks_right" 95) : Ok P w K mg base CX0 11 "_law_looks_right" sp__law_looks_right := by
  refine D.ok sc__law_looks_right (fun _ _ _ _ _ _ us hl => match us, hl with | [_, _], _ => rfl) (by rintro vs H Q E ⟨x, y, rfl, _⟩; rfl) fun f cdv A outer s H vs Q E hr h => ⟨_, (pss_cons (ps_set (i := 2) sc__law_looks_right.nd rfl (.inl rfl) (pe_op op_add_str (pe_op op_add_str (pv 0) (pe_st (l := [32]))) (pv 1)))
    (pss_cons (ps_set (i := 3) sc__law_looks_right.nd rfl (.inl rfl) (pe_lst (pa_cons (pe_op op_add_str (pe_st (l := [115, 101, 101, 110, 32])) (pv 2)) (pa_cons (pe_op op_add_str (pe_st (l := [98, 101, 116, 119, 101, 101, 110, 32])) (pv 2)) (pa_cons (pe_op op_add_str (pe_st (l := [112, 97, 116, 104, 32])) (pv 2)) pa_nil)))))
    (pss_cons (ps_set (i := 3) sc__law_looks_right.nd rfl (.inl rfl) (pe_op op_cat (pv 3) (pe_lst (pa_cons (pe_op op_add_str (pe_st (l := [112, 97, 116, 104, 32, 45, 32])) (pv 0)) (pa_cons (pe_op op_add_str (pe_op op_add_str (pe_op op_add_str (pe_st (l := [112, 97, 116, 104, 32])) (pv 0)) (pe_st (l := [32]))) (pv 0)) (pa_cons (pe_op op_add_str (pe_op op_add_str (pe_op op_add_str (pe_st (l := [115, 101, 101, 110, 32])) (pv 1)) (pe_st (l := [32]))) (pv 1)) pa_nil))))))
    (pss_cons (ps_set (i := 4) sc__law_looks_right.nd rfl (.inl rfl) (pe_ok O_mirror_between hr rfl pass0 (pa_cons (pv 0) (pa_cons (pv 1) pa_nil))))
    (pss_cons (ps_set (i := 5) sc__law_looks_right.nd rfl (.inl rfl) (pe_lst (pa_cons (pe_ok O_seen_in hr rfl pass0 (pa_cons (pv 0) (pa_cons (pv 1) pa_nil))) (pa_cons (pe_ifExp (pt_cmpR op_isN (pv 4) pe_non (nomark _)) (pe_st (l := [110, 111, 110, 101])) (pv 4)) (pa_cons (pe_ok O_path hr rfl pass0 (pa_cons (pv 0) (pa_cons (pv 1) pa_nil))) (pa_cons (pv 0) (pa_cons (pe_st (l := [45])) (pa_cons (pv 1) pa_nil))))))))
    (pss_cons (ps_asg (pe_ifExp (pt_cmpR op_ne (pe_ix ix_list (pv 5) pe_int (fun _ _ => rfl)) (pe_st (l := [])) (nomark _)) (pe_ix ix_list (pv 5) pe_int (fun _ _ => rfl)) (pe_st (l := [45]))) (pg_sub (pv 5) pe_int set_list))
    (pss_one (ps_ret (pe_ok O__law_same hr rfl pass0 (pa_cons (pe_ok O_answers hr rfl pass0 (pa_cons (pe_join (pe_st (l := [10])) (pv 3)) pa_nil)) (pa_cons (pv 5) pa_nil))))))))))), ?_⟩
  obtain ⟨x, y, rfl, wx, wy, hx, hy, q⟩ := h
  refine q_asg (v := S (x ++ [32] ++ y)) (ev_addS (ev_addS (ev_var rfl) ev_c (by show x.length + 1 ≤ _; omega)) (ev_var rfl) (by rw [List.length_append]; show x.length + 1 + y.length ≤ _; omega)) fun H1 e1 => ?_
  have hb : (x ++ [32] ++ y).length ≤ 41 := by
    rw [List.length_append, List.length_append]
    show x.length + 1 + y.length ≤ _
    omega
  refine q_asgL (xs := Ss [[115, 101, 101, 110, 32] ++ (x ++ [32] ++ y), [98, 101, 116, 119, 101, 101, 110, 32] ++ (x ++ [32] ++ y), [112, 97, 116, 104, 32] ++ (x ++ [32] ++ y)]) (el_lst (ea_cons (ev_addS ev_c (ev_var rfl) (by show 5 + _ ≤ _; omega)) (ea_cons (ev_addS ev_c (ev_var rfl) (by show 8 + _ ≤ _; omega)) (ea_cons (ev_addS ev_c (ev_var rfl) (by show 5 + _ ≤ _; omega)) ea_nil))) (by show 3 ≤ 100000; decide)) fun L1 H2 hL1 e2 h2 => ?_
  have hl2 : EvL (tLst (tCons (tOp rAddS (tC (S [112, 97, 116, 104, 32, 45, 32])) (tVar 0)) (tCons (tOp rAddS (tOp rAddS (tOp rAddS (tC (S [112, 97, 116, 104, 32])) (tVar 0)) (tC (S [32]))) (tVar 0)) (tCons (tOp rAddS (tOp rAddS (tOp rAddS (tC (S [115, 101, 101, 110, 32])) (tVar 1)) (tC (S [32]))) (tVar 1)) tNil)))) [some (S x), some (S y), some (S (x ++ [32] ++ y)), some (.ref L1), none, none] H2 (Ss [[112, 97, 116, 104, 32, 45, 32] ++ x, [112, 97, 116, 104, 32] ++ x ++ [32] ++ x, [115, 101, 101, 110, 32] ++ y ++ [32] ++ y]) :=
    el_lst (ea_cons (ev_addS ev_c (ev_var rfl) (by show 7 + _ ≤ _; omega)) (ea_cons (ev_addS (ev_addS (ev_addS ev_c (ev_var rfl) (by show 5 + x.length ≤ _; omega)) ev_c (by rw [List.length_append]; show 5 + x.length + 1 ≤ _; omega)) (ev_var rfl) (by rw [List.length_append, List.length_append]; show 5 + x.length + 1 + x.length ≤ _; omega))
      (ea_cons (ev_addS (ev_addS (ev_addS ev_c (ev_var rfl) (by show 5 + y.length ≤ _; omega)) ev_c (by rw [List.length_append]; show 5 + y.length + 1 ≤ _; omega)) (ev_var rfl) (by rw [List.length_append, List.length_append]; show 5 + y.length + 1 + y.length ≤ _; omega)) ea_nil))) (by show 3 ≤ 100000; decide)
  refine q_asgL (el_cat (ev_var rfl) h2 hl2 (by show 3 + 3 ≤ 1000000; decide)) fun L H3 hL e3 h3 => ?_
  have hlines : H3 L = some (.lst (Ss ([Req.two .seen x y, .two .between x y, .path x y, .path [] x, .path x x, .two .seen y y].map Req.line))) := by
    rw [h3]
    have r1 : rowt x = x := rowt_ne wx.2.1
    have r2 : rowt y = y := rowt_ne wy.2.1
    have a1 : x ++ [32] ++ y = x ++ ([32] ++ y) := List.append_assoc ..
    have p1 : (Req.path x y).line = [112, 97, 116, 104, 32] ++ (x ++ ([32] ++ y)) := by
      show pathW ++ [32] ++ (rowt x ++ ([32] ++ rowt y)) = _
      rw [r1, r2]
      rfl
    have p2 : (Req.path [] x).line = [112, 97, 116, 104, 32, 45, 32] ++ x := by
      show pathW ++ [32] ++ (rowt [] ++ ([32] ++ rowt x)) = _
      rw [r1]
      rfl
    have p3 : (Req.path x x).line = [112, 97, 116, 104, 32] ++ x ++ [32] ++ x := by
      show pathW ++ [32] ++ (rowt x ++ ([32] ++ rowt x)) = _
      rw [r1, List.append_assoc, List.append_assoc]
      rfl
    have p4 : (Req.two .seen y y).line = [115, 101, 101, 110, 32] ++ y ++ [32] ++ y := by
      rw [List.append_assoc, List.append_assoc]
      rfl
    have p5 : (Req.two .seen x y).line = [115, 101, 101, 110, 32] ++ (x ++ ([32] ++ y)) := rfl
    have p6 : (Req.two .between x y).line = [98, 101, 116, 119, 101, 101, 110, 32] ++ (x ++ ([32] ++ y)) := rfl
    rw [a1]
    simp only [List.map_cons, List.map_nil, p1, p2, p3, p4, p5, p6]
    rfl
  have hx0 := wx.2.1
  refine q_asg (v := optS (mbt x y)) (ev_ok (ea_cons (ev_var rfl) (ea_cons (ev_var rfl) ea_nil)) fun H4 Q _ q => ⟨x, y, rfl, hx0, by omega, by omega, q⟩) fun H4 e4 => ?_
  refine q_asgL (xs := Ss [sn x y, otx (mbt x y), pth x y, x, [45], y]) (el_lst (ea_cons (ev_s2 (ev_var rfl) (ev_var rfl) ⟨by omega, by omega⟩) (ea_cons (x := S (otx (mbt x y))) ?_ (ea_cons (ev_s2 (ev_var rfl) (ev_var rfl) ⟨by omega, by omega⟩) (ea_cons (ev_var rfl) (ea_cons ev_c (ea_cons (ev_var rfl) ea_nil)))))) (by show 6 ≤ 100000; decide)) fun D H5 hD e5 h5 => ?_
  · refine ev_if (et_test (ev_isN (ev_var rfl))) (fun hb => ?_) fun hb => ?_
    · rw [dec_optS] at hb
      cases hm : mbt x y with
      | none => exact ev_c
      | some m => rw [hm] at hb; cases hb
    · rw [dec_optS] at hb
      cases hm : mbt x y with
      | none => rw [hm] at hb; cases hb
      | some m => exact ev_var rfl
  · refine q_setL (j := 2) (v := S (rowt (pth x y))) h5 (ev_if (et_test (ev_neS (a := pth x y) (b := []) (ev_ixL (i := 2) h5 (ev_var rfl) ev_c rfl) ev_c)) (fun hb => ?_) fun hb => ?_) (ev_var rfl) ev_c (by show 2 < 6; decide) fun H6 e6 => ?_
    · have : rowt (pth x y) = pth x y := if_neg (by simpa using hb)
      rw [this]
      exact ev_ixL (i := 2) h5 (ev_var rfl) ev_c rfl
    · have : rowt (pth x y) = [45] := if_pos (by simpa using hb)
      rw [this]
      exact ev_c
    · have hDL : L ≠ D := ne_of_none (e4 _ _ hlines) hD
      have hL6 : (upd H6 D (.lst ((Ss [sn x y, otx (mbt x y), pth x y, x, [45], y]).set 2 (S (rowt (pth x y)))))) L = some (.lst (Ss ([Req.two .seen x y, .two .between x y, .path x y, .path [] x, .path x x, .two .seen y y].map Req.line))) := by
        rw [upd_ne hDL]
        exact ((e4.trans e5).trans e6) _ _ hlines
      have hfin : run [Req.two .seen x y, .two .between x y, .path x y, .path [] x, .path x x, .two .seen y y] g0 = [sn x y, otx (mbt x y), rowt (pth x y), x, [45], y] := by
        show [sn x y, otx (mbt x y), rowt (pth x y), rowt (pth [] x), rowt (pth x x), sn y y] = _
        rw [pth_nil, pth_self, rowt_ne hx0, sn_self wy.1 wy.2.1]
        rfl
      have roo : ∀ {z : W}, Way z → Roo z := fun h => ⟨h.1, h.2.2⟩
      have nil : Roo [] := ⟨trivial, fun _ h => nomatch h⟩
      have hwf : ∀ r ∈ [Req.two .seen x y, .two .between x y, .path x y, .path [] x, .path x x, .two .seen y y], r.wf := by
        intro r hr
        simp only [List.mem_cons, List.not_mem_nil, or_false] at hr
        rcases hr with rfl | rfl | rfl | rfl | rfl | rfl
        · exact ⟨wx, by omega, wy, by omega⟩
        · exact ⟨wx, by omega, wy, by omega⟩
        · exact ⟨roo wx, by omega, roo wy, by omega⟩
        · exact ⟨nil, by decide, roo wx, by omega⟩
        · exact ⟨roo wx, by omega, roo wx, by omega⟩
        · exact ⟨wy, by omega, wy, by omega⟩
      have ha := el_answersV (K := K) (te := tVar 3) (σ := [some (S x), some (S y), some (S (x ++ [32] ++ y)), some (.ref L), some (optS (mbt x y)), some (.ref D)]) (rs := [Req.two .seen x y, .two .between x y, .path x y, .path [] x, .path x x, .two .seen y y]) (ev_var rfl) hL6 (List.cons_ne_nil _ _) (by show 6 ≤ 63; decide) hwf
      rw [hfin] at ha
      refine s_ret (ev_same2 ha (fun _ _ => ev_var rfl) upd_same (by show 6 ≤ 40000; decide)) fun H7 e7 => q H7 ?_
      exact (Ex.mut ((((e1.trans e2).trans e3).trans e4).trans (e5.trans e6)) (fresh_back (((e1.trans e2).trans e3).trans e4) hD)).trans e7
end
end Mir
/-! part K9 -/
set_option Elab.async false
set_option linter.all false
set_option maxRecDepth 100000
set_option maxHeartbeats 4000000
/-! Lists of texts, of lists of texts and of tuples of texts: what they read. -/
namespace Mir
open PySem PySem.Spec PyProof.Rows L2 Evl
inductive It1
  | str (a : W)
  | lst (l : List W)
  | tup (l : List W)
def Rd1 (H : Hp) : It1 → V → Prop
  | .str a, v => v = S a
  | .lst l, v => ∃ p, v = .ref p ∧ H p = some (.lst (Ss l)) ∧ l.length ≤ 40000
  | .tup l, v => ∃ p, v = .ref p ∧ H p = some (.tup (Ss l)) ∧ l.length ≤ 40000
theorem Rd1.mono {H H1 : Hp} (e : Ex H H1) : ∀ {d : It1} {v : V}, Rd1 H d v → Rd1 H1 d v
  | .str _, _, h => h
  | .lst _, _, ⟨p, h1, h2, h3⟩ => ⟨p, h1, e _ _ h2, h3⟩
  | .tup _, _, ⟨p, h1, h2, h3⟩ => ⟨p, h1, e _ _ h2, h3⟩
theorem Rd1.same {H : Hp} : ∀ {d : It1} {u v : V}, Rd1 H d u → Rd1 H d v → Same H 1 u v
  | .str a, _, _, h1, h2 => by
    have h1 : _ = S a := h1
    have h2 : _ = S a := h2
    rw [h1, h2]
    exact same_S a
  | .lst _, _, _, ⟨p, h1, h2, h3⟩, ⟨q, k1, k2, _⟩ => by
    rw [h1, k1]
    exact same_Ss h2 k2 h3
  | .tup _, _, _, ⟨p, h1, h2, h3⟩, ⟨q, k1, k2, _⟩ => by
    rw [h1, k1]
    exact same_St h2 k2 h3
def RdA (H : Hp) : List It1 → List V → Prop
  | [], [] => True
  | d :: ds, v :: vs => Rd1 H d v ∧ RdA H ds vs
  | _, _ => False
theorem RdA.mono {H H1 : Hp} (e : Ex H H1) : ∀ {ds : List It1} {vs : List V}, RdA H ds vs → RdA H1 ds vs
  | [], [], _ => trivial
  | _ :: _, _ :: _, h => ⟨h.1.mono e, RdA.mono e h.2⟩
theorem RdA.len {H : Hp} : ∀ {ds : List It1} {vs : List V}, RdA H ds vs → vs.length = ds.length
  | [], [], _ => rfl
  | _ :: _, _ :: _, h => congrArg Nat.succ (RdA.len h.2)
theorem RdA.app {H : Hp} : ∀ {ds es : List It1} {vs us : List V}, RdA H ds vs → RdA H es us → RdA H (ds ++ es) (vs ++ us)
  | [], _, [], _, _, h => h
  | _ :: _, _, _ :: _, _, h, k => ⟨h.1, RdA.app h.2 k⟩
theorem RdA.at {H : Hp} : ∀ {ds : List It1} {vs us : List V} {i : Nat} {u v : V}, RdA H ds vs → RdA H ds us → vs[i]? = some u → us[i]? = some v → Same H 1 u v
  | [], [], [], i, _, _, _, _, h, _ => by simp at h
  | d :: ds, x :: vs, y :: us, 0, u, v, h, k, hu, hv => by
    obtain rfl : x = u := Option.some.inj hu
    obtain rfl : y = v := Option.some.inj hv
    exact h.1.same k.1
  | d :: ds, x :: vs, y :: us, i + 1, u, v, h, k, hu, hv => RdA.at (i := i) h.2 k.2 hu hv
theorem same_A {H : Hp} {ds : List It1} {vs us : List V} {a b : Addr} (ha : H a = some (.lst vs)) (hb : H b = some (.lst us)) (h : RdA H ds vs) (k : RdA H ds us) (hl : ds.length ≤ 40000) : Same H 2 (.ref a) (.ref b) :=
  .inr ⟨a, b, vs, us, rfl, rfl, .inl ⟨ha, hb⟩, h.len.trans k.len.symm, by rw [h.len]; exact hl, fun _ _ _ hu hv => h.at k hu hv⟩
section
variable {K : PySem.W.Frag} {σ : L2.St} {H H' : Hp} {ta tb te : TE} {t : TA} {d : It1} {ds es : List It1}
def EvD (te : TE) (σ : L2.St) (H : Hp) (d : It1) : Prop := ∀ H1, Ex H H1 → ∀ Q : VK, (∀ v H2, Ex H1 H2 → Rd1 H2 d v → Q v H2) → te σ H1 Q
def EvDs (t : TA) (σ : L2.St) (H : Hp) (ds : List It1) : Prop := ∀ H1, Ex H H1 → ∀ Q : List V → Hp → Prop, (∀ vs H2, Ex H1 H2 → RdA H2 ds vs → Q vs H2) → t σ H1 Q
def EvDL (te : TE) (σ : L2.St) (H : Hp) (ds : List It1) : Prop := ∀ H1, Ex H H1 → ∀ Q : VK, (∀ p vs H2, H1 p = none → Ex H1 H2 → H2 p = some (.lst vs) → RdA H2 ds vs → Q (.ref p) H2) → te σ H1 Q
theorem ed_s {a : W} (h : Ev te σ H (S a)) : EvD te σ H (.str a) := fun H1 e Q q => h H1 e _ fun H2 e2 => q _ H2 e2 rfl
theorem ed_l {l : List W} (h : EvL te σ H (Ss l)) (hl : l.length ≤ 40000) : EvD te σ H (.lst l) := fun H1 e Q q => h H1 e _ fun p H2 _ e2 hx => q _ H2 e2 ⟨p, rfl, hx, hl⟩
theorem ed_u {l : List W} (h : EvU te σ H (Ss l)) (hl : l.length ≤ 40000) : EvD te σ H (.tup l) := fun H1 e Q q => h H1 e _ fun p H2 _ e2 hx => q _ H2 e2 ⟨p, rfl, hx, hl⟩
theorem ed_v {l : List W} {p : Addr} (h : Ev te σ H (.ref p)) (hp : H p = some (.tup (Ss l))) (hl : l.length ≤ 40000) : EvD te σ H (.tup l) := fun H1 e Q q => h H1 e _ fun H2 e2 => q _ H2 e2 ⟨p, rfl, e2 _ _ (e _ _ hp), hl⟩
theorem es_nil : EvDs tNil σ H [] := fun H1 _ Q q => q [] H1 (Ex.refl _) trivial
theorem es_cons (h : EvD te σ H d) (h2 : EvDs t σ H ds) : EvDs (tCons te t) σ H (d :: ds) := fun H1 e Q q => h H1 e _ fun v H2 e2 hv => h2 H2 (e.trans e2) _ fun vs H3 e3 hvs => q (v :: vs) H3 (e2.trans e3) ⟨hv.mono e3, hvs⟩
theorem dl_lst (h : EvDs t σ H ds) (hl : ds.length ≤ 1000) : EvDL (tLst t) σ H ds := fun H1 e Q q => h H1 e _ fun vs H2 e2 hvs => ⟨by rw [hvs.len]; exact big (by omega), fun p hp => q p vs _ (fresh_back e2 hp) (e2.trans (Ex.new hp)) upd_same (hvs.mono (Ex.new hp))⟩
theorem dl_cat {p : Addr} {vs : List V} (h : Ev ta σ H (.ref p)) (hp : H p = some (.lst vs)) (hv : RdA H ds vs) (h2 : EvDL tb σ H es) (hz : ds.length + es.length ≤ 1000) : EvDL (tOp rCat ta tb) σ H (ds ++ es) := fun H1 e Q q =>
  h H1 e _ fun H2 e2 => h2 H2 (e.trans e2) _ fun r us H3 hr e3 h3 hus => ⟨p, r, vs, us, rfl, rfl, e3 _ _ (e2 _ _ (e _ _ hp)), h3, by rw [hv.len, hus.len]; exact big (by omega), fun l hl =>
    q l (vs ++ us) _ (fresh_back (e2.trans e3) hl) ((e2.trans e3).trans (Ex.new hl)) upd_same (((hv.mono (e.trans (e2.trans e3))).app hus).mono (Ex.new hl))⟩
theorem q_asgD {i : Nat} {tz : TS} {D : Ends} (h : EvDL te σ H ds) (k : ∀ p vs H1, H p = none → Ex H H1 → H1 p = some (.lst vs) → RdA H1 ds vs → tz D (σ.set i (some (.ref p))) H1) : tSeq (tAsg te (gName i)) tz D σ H :=
  h H (Ex.refl H) _ fun p vs H1 hp e h1 hv => k p vs H1 hp e h1 hv
/-- lists of such read alike -/
theorem ev_same3 {p : Addr} {vs : List V} (h : Ev ta σ H (.ref p)) (hp : H p = some (.lst vs)) (hv : RdA H ds vs) (h2 : EvDL tb σ H ds) (hl : ds.length ≤ 40000) : Ev (tCall (spS 3) [] E0 (tCons ta (tCons tb tNil))) σ H (.bl true) := fun H1 e Q q =>
  h H1 e _ fun H2 e2 => h2 H2 (e.trans e2) _ fun r us H3 hr e3 h3 hus => ⟨.ref p, .ref r, rfl, same_A (e3 _ _ (e2 _ _ (e _ _ hp))) h3 (hv.mono ((e.trans e2).trans e3)) hus hl, fun H4 e4 => q H4 ((e2.trans e3).trans e4)⟩
end
end Mir
/-! part L9 -/
set_option Elab.async false
set_option linter.all false
set_option maxRecDepth 100000
set_option maxHeartbeats 4000000
/-! The walk: the desk is right. -/
namespace Mir
open PySem PySem.Spec PyProof.Rows L2 Evl
def DsAt (H : Hp) : List Addr → List Req → Prop
  | [], [] => True
  | t :: ts, r :: rs => H t = some (.tup (Ss (dT r))) ∧ DsAt H ts rs
  | _, _ => False
theorem DsAt.mono {H H1 : Hp} (k : ∀ t xs, H t = some (.tup xs) → H1 t = some (.tup xs)) : ∀ {ts : List Addr} {rs : List Req}, DsAt H ts rs → DsAt H1 ts rs
  | [], [], _ => trivial
  | _ :: _, _ :: _, h => ⟨k _ _ h.1, DsAt.mono k h.2⟩
theorem DsAt.len {H : Hp} : ∀ {ts : List Addr} {rs : List Req}, DsAt H ts rs → ts.length = rs.length
  | [], [], _ => rfl
  | _ :: _, _ :: _, h => congrArg Nat.succ (DsAt.len h.2)
theorem DsAt.at {H : Hp} : ∀ {ts : List Addr} {rs : List Req} {i : Nat} {t : Addr}, DsAt H ts rs → ts[i]? = some t → ∃ r, rs[i]? = some r ∧ H t = some (.tup (Ss (dT r)))
  | t :: ts, r :: rs, 0, t', h, e => by
    obtain rfl : t = t' := Option.some.inj e
    exact ⟨r, rfl, h.1⟩
  | t :: ts, r :: rs, i + 1, t', h, e => DsAt.at (i := i) h.2 e
  | [], [], i, t', _, e => by simp at e
theorem DsAt.snoc {H : Hp} {t : Addr} {r : Req} (ht : H t = some (.tup (Ss (dT r)))) : ∀ {ts : List Addr} {rs : List Req}, DsAt H ts rs → DsAt H (ts ++ [t]) (rs ++ [r])
  | [], [], _ => ⟨ht, trivial⟩
  | _ :: _, _ :: _, h => ⟨h.1, DsAt.snoc ht h.2⟩
abbrev sp__law_desk_right : Sp := fun vs H Q _ => ∃ (L : Addr) (ts : List Addr) (rs : List Req), vs = [.ref L] ∧ H L = some (.lst (ts.map V.ref)) ∧ DsAt H ts rs ∧ (∀ r ∈ rs, Dk r) ∧ rs ≠ [] ∧ rs.length ≤ 7 ∧ Rv (.bl true) H Q
theorem range_lines (rs : List Req) : (List.range rs.length).map (fun i => S (rs.getD i (.bare .ways)).line) = Ss (rs.map Req.line) := by
  induction rs with
  | nil => rfl
  | cons c t ih =>
    rw [List.length_cons, List.range_succ_eq_map, List.map_cons, List.map_map]
    unfold Ss at ih ⊢
    rw [List.map_cons, List.map_cons, ← ih]
    rfl
section
variable {K : PySem.W.Frag} {σ : L2.St} {H H' : Hp} {ta tb te tl : TE} {C a dx p : Addr} {ws : List W} {past : List (List W)}
/-- the deeds' lines -/
theorem el_dlines {L : Addr} {ts : List Addr} {rs : List Req} {j : Nat} {vs : List Nat} (h : Ev tl σ H (.ref L)) (hL : H L = some (.lst (ts.map V.ref))) (hd : DsAt H ts rs) (hk : ∀ r ∈ rs, Dk r) (hn : rs.length ≤ 40000)
    (hw : ∀ x, wipe ((wipe σ vs).set j (some x)) vs = wipe σ vs) (hj : ∀ x, ((wipe σ vs).set j (some x))[j]? = some (some x)) : EvL (tLc (iList K tl) (gName j) tYes (tCall (sp__law_line K) [] E0 (tCons (tVar j) tNil)) vs) σ H (Ss (rs.map Req.line)) := by
  have hlen := hd.len
  have h1 := el_lc1 (j := j) (vs := vs) (t := tYes) (te := tCall (sp__law_line K) [] E0 (tCons (tVar j) tNil)) (fun _ => true) (fun i => S (rs.getD i (.bare .ways)).line) (ei_list (K := K) h (sq_of hL)) (by rw [List.length_map]; omega) hw fun i x H1 e hi hx => by
    have hx : (ts.map V.ref)[i]? = some x := hx
    rw [List.getElem?_map] at hx
    obtain ⟨t, ht, rfl⟩ := Option.map_eq_some_iff.mp hx
    obtain ⟨r, hr, hrt⟩ := hd.at ht
    have hg : rs.getD i (.bare .ways) = r := by
      rw [List.getD_eq_getElem?_getD, hr]
      rfl
    have dr := hk r (List.mem_of_getElem? hr)
    rw [hg]
    exact ⟨et_yes, fun _ => ev_ok (ea_cons (ev_var (hj _)) ea_nil) fun H2 Q e2 q => ⟨t, r, rfl, e2 _ _ (e _ _ hrt), dr.deed, dr.wf, q⟩⟩
  rw [given_all, List.length_map, hlen, range_lines] at h1
  exact h1
theorem el_asked : EvL (tCall sp__law_asked [] E0 tNil) σ H (Ss (asked.map Req.line)) := el_ok ea_nil fun H1 Q _ q => ⟨rfl, q⟩
theorem ed_read {l : List W} (h : Ev te σ H (S (wtx l))) (wl : Ways l) (al : Asc l) (hl : l.length < 64) (hs : Shr 10000 l) : EvD (tCall (sp_ways_read K) [] E0 (tCons te tNil)) σ H (.tup l) := fun H1 e Q q => h H1 e _ fun H2 e2 => ⟨l, rfl, wl, al, hl, hs, fun t H3 e3 ht => q _ H3 (e2.trans e3) ⟨t, rfl, ht, by omega⟩⟩
theorem q_parD {i j : Nat} {d1 d2 : It1} {tz : TS} {D : Ends} (h1 : EvD ta σ H d1) (h2 : EvD tb σ H d2) (k : ∀ x y H1, Ex H H1 → Rd1 H1 d1 x → Rd1 H1 d2 y → tz D ((σ.set i (some x)).set j (some y)) H1) : tSeq (tPar i j (tCons ta (tCons tb tNil))) tz D σ H :=
  h1 H (Ex.refl _) _ fun x H1 e1 hx => h2 H1 e1 _ fun y H2 e2 hy => ⟨x, y, rfl, k x y H2 (e1.trans e2) (hx.mono e2) hy⟩
theorem ed_ways (h : Ev te σ H (.ref a)) (g : GAt C H a dx p ws past) (hl : ws.length ≤ 40000) : EvD (SlX.tPropSl C (sp_p_ways C) E0 te) σ H (.tup ws) := fun H1 e Q q => h H1 e _ fun H2 e2 => by
  have g2 := g.mono (e.trans e2)
  obtain ⟨t, ts, hs, _⟩ := g2.sl
  exact ⟨a, dx, _, rfl, hs, a, dx, p, ws, past, rfl, g2, fun t H3 e3 ht => q _ H3 (e2.trans e3) ⟨t, rfl, ht, hl⟩⟩
theorem ed_makers (h : Ev te σ H (.ref a)) (g : GAt C H a dx p ws past) (ww : Ways ws) (hl : ws.length < 64) (hs : Shr 40000 ws) : EvD (SlX.tPropSl C (sp_p_makers C) E0 te) σ H (.tup (mk ws)) := fun H1 e Q q => h H1 e _ fun H2 e2 => by
  have g2 := g.mono (e.trans e2)
  obtain ⟨t, ts, hsl, _⟩ := g2.sl
  have := mk_len ww
  exact ⟨a, dx, _, rfl, hsl, a, dx, p, ws, past, rfl, g2, ww, hl, hs, fun t H3 ht e3 hx => q _ H3 (e2.trans e3) ⟨t, rfl, hx, by omega⟩⟩
theorem el_told {s : GS} {k : Nat} (h : Ev te σ H (.ref a)) (g : GAt C H a dx p s.1 s.2) (gi : GI k s) (hk : k < 64) : EvL (tCall (sp__law_told C) [] E0 (tCons te tNil)) σ H (Ss (asked.map fun r => told r s.1)) :=
  el_ok (ea_cons h ea_nil) fun H1 Q e q => ⟨a, dx, p, s, k, rfl, gi, hk, g.mono e, q⟩
theorem eu_revV {xs : List V} {b : Addr} (h : Ev te σ H (.ref b)) (hx : H b = some (.tup xs)) : EvU (tRevT K te) σ H xs.reverse := fun H1 e Q q => h H1 e _ fun H2 e2 => ⟨b, xs, rfl, st_of (e2 _ _ (e _ _ hx)), fun r hr => q r _ (fresh_back e2 hr) (e2.trans (Ex.new hr)) upd_same⟩
/-- 'hang ' and a way, each -/
theorem el_hangs {wi : TI} {l : List W} {j : Nat} {vs : List Nat} (h : EvI wi σ H (Ss l).length (PAt (Ss l))) (hz : l.length ≤ 40000) (hs : Shr 10000 l) (hw : ∀ x, wipe ((wipe σ vs).set j (some x)) vs = wipe σ vs) (hj : ∀ x, ((wipe σ vs).set j (some x))[j]? = some (some x)) :
    EvL (tLc wi (gName j) tYes (tOp rAddS (tC (S [104, 97, 110, 103, 32])) (tVar j)) vs) σ H (Ss ((hangs l).map Req.line)) := by
  have h1 := el_lcM (te := tOp rAddS (tC (S [104, 97, 110, 103, 32])) (tVar j)) (l := l) (fun x => [104, 97, 110, 103, 32] ++ x) h hz hw fun w hw' H1 e => ev_addS ev_c (ev_var (hj _)) (by have := hs w hw'; show 5 + w.length ≤ _; omega)
  unfold hangs
  rw [List.map_map]
  exact h1
end
section
variable {P : Program} {w : World} {K : PySem.W.Frag} {mg : Str → Option Value} {base : Heap} {C : Addr}
theorem sc__law_desk_right : FnScope ["_law_deeds_so", "_law_host", "_law_lines_so", "_law_due", "_law_deed_so", "_law_last_so", "_law_own", "_law_ways_so", "_law_pure_so", "_law_again_so", "_law_pure_told_so", "_law_got", "_law_more_so"] ["_law_deeds_so"] (defScope (top 94)) := ⟨rfl, rfl, rfl, by decide +kernel, rfl, by decide +kernel, by decide +kernel⟩
theorem ok__law_desk_right (B : Bu mg) (T : Cst K mg) (GF : Gal K mg C) (N_Gallery : Ngal P w K mg base C) (O_ways_text : Ok P w K mg base CX0 1 "ways_text" (sp_ways_text K)) (O_ways_read : Ok P w K mg base CX0 4 "ways_read" (sp_ways_read K)) (O_p_ways : Op' P w K mg base 1 C "ways" (sp_p_ways C)) (O_p_makers : Op' P w K mg base 7 C "makers" (sp_p_makers C)) (O_answers : Ok P w K mg base CX0 10 "answers" sp_answers) (O__law_same2 : Ok P w K mg base CX0 2 "_law_same" (spS 2)) (O__law_same3 : Ok P w K mg base CX0 3 "_law_same" (spS 3)) (O__law_asked : Ok P w K mg base CX0 1 "_law_asked" sp__law_asked) (O__law_told : Ok P w K mg base CX0 9 "_law_told" (sp__law_told C)) (O__law_line : Ok P w K mg base CX0 1 "_law_line" (sp__law_line K)) (O__law_refused : Ok P w K mg base CX0 9 "_law_refused" (sp__law_refused C)) (D : Dn K mg "_law_desk_right" 94) : Ok P w K mg base CX0 11 "_law_desk_right" sp__law_desk_right := by
  refine D.ok sc__law_desk_right (fun _ _ _ _ _ _ us hl => match us, hl with | [_], _ => rfl) (by rintro vs H Q E ⟨_, _, _, rfl, _⟩; rfl) fun f cdv A outer s H vs Q E hr h => ⟨_, (pss_cons (ps_par3 (i := 1) (j := 2) (l := 3) rfl sc__law_desk_right.nd rfl rfl rfl (by decide) (by decide) (by decide) rfl rfl rfl (pa_cons (pe_gal N_Gallery hr rfl GF.gC) (pa_cons (pe_lst pa_nil) (pa_cons (pe_lst pa_nil) pa_nil))) (by rfl))
    (pss_cons (ps_for PassesOwn.never rfl (pi_list (pv 0)) (pg_name (i := 4) sc__law_desk_right.nd rfl (.inl rfl))
      (pss_cons (ps_set (i := 2) sc__law_desk_right.nd rfl (.inl rfl) (pe_op op_cat (pe_op op_cat (pv 2) (pe_lst (pa_cons (pe_ok O__law_line hr rfl pass0 (pa_cons (pv 4) pa_nil)) pa_nil))) (pe_ok0 O__law_asked hr rfl pass0)))
      (pss_one (ps_set (i := 3) sc__law_desk_right.nd rfl (.inl rfl) (pe_op op_cat (pe_op op_cat (pv 3) (pe_lst (pa_cons (pe_ok O__law_refused hr rfl pass0 (pa_cons (pv 1) (pa_cons (pv 4) pa_nil))) pa_nil))) (pe_ok O__law_told hr rfl pass0 (pa_cons (pv 1) pa_nil)))))))
    (pss_cons (ps_if (pt_not (pt_val (pe_ok O__law_same2 hr rfl pass0 (pa_cons (pe_ok O_answers hr rfl pass0 (pa_cons (pe_join (pe_st (l := [10])) (pv 2)) pa_nil)) (pa_cons (pv 3) pa_nil)))))
      (pss_one (ps_ret pe_bl))
      pss_nil)
    (pss_cons (ps_set (i := 5) sc__law_desk_right.nd rfl (.inl rfl) (pe_slice sl_list (pe_ok O_answers hr rfl pass0 (pa_cons (pe_join (pe_st (l := [10])) (pe_op op_cat (pe_lc (own := [("_law_own", 6)]) (g := (gName 6)) (tt := tYes) (te := (tCall (sp__law_line K) [] E0 (tCons (tVar 6) tNil))) rfl sc__law_desk_right.nd (pi_list (pv 0)) (blkOk_by (N := ["_law_deeds_so", "_law_host", "_law_lines_so", "_law_due", "_law_deed_so", "_law_last_so", "_law_own", "_law_ways_so", "_law_pure_so", "_law_again_so", "_law_pure_told_so", "_law_got", "_law_more_so"]) (sc := defScope (top 94)) (by decide +kernel)) (fun _ _ _ _ _ => (pg_name (i := 6) sc__law_desk_right.nd rfl (.inl rfl))) (fun _ _ _ _ _ => pts_nil) (fun _ _ _ _ _ => (pe_ok O__law_line hr rfl pass0 (pa_cons (pv 6) pa_nil)))) (pe_lst (pa_cons (pe_st (l := [119, 97, 121, 115])) (pa_cons (pe_st (l := [109, 97, 107, 101, 114, 115])) pa_nil))))) pa_nil)) (po_some (pe_un un_neg pe_int)) po_none))
    (pss_cons (ps_par (i := 7) (j := 8) rfl sc__law_desk_right.nd rfl rfl (by decide) rfl rfl (pa_cons (pe_ok O_ways_read hr rfl pass0 (pa_cons (pe_ix ix_list (pv 5) pe_int (fun _ _ => rfl)) pa_nil)) (pa_cons (pe_ok O_ways_read hr rfl pass0 (pa_cons (pe_ix ix_list (pv 5) pe_int (fun _ _ => rfl)) pa_nil)) pa_nil)) (by rfl))
    (pss_cons (ps_set (i := 9) sc__law_desk_right.nd rfl (.inl rfl) (pe_ok O_answers hr rfl pass0 (pa_cons (pe_join (pe_st (l := [10])) (pe_op op_cat (pe_lc (own := [("_law_own", 6)]) (g := (gName 6)) (tt := tYes) (te := (tOp rAddS (tC (S [104, 97, 110, 103, 32])) (tVar 6))) rfl sc__law_desk_right.nd (pi_tup (pe_revT (pv 7))) (blkOk_by (N := ["_law_deeds_so", "_law_host", "_law_lines_so", "_law_due", "_law_deed_so", "_law_last_so", "_law_own", "_law_ways_so", "_law_pure_so", "_law_again_so", "_law_pure_told_so", "_law_got", "_law_more_so"]) (sc := defScope (top 94)) (by decide +kernel)) (fun _ _ _ _ _ => (pg_name (i := 6) sc__law_desk_right.nd rfl (.inl rfl))) (fun _ _ _ _ _ => pts_nil) (fun _ _ _ _ _ => (pe_op op_add_str (pe_st (l := [104, 97, 110, 103, 32])) (pv 6)))) (pe_ok0 O__law_asked hr rfl pass0))) pa_nil)))
    (pss_cons (ps_set (i := 10) sc__law_desk_right.nd rfl (.inl rfl) (pe_ok O_answers hr rfl pass0 (pa_cons (pe_join (pe_st (l := [10])) (pe_op op_cat (pe_lc (own := [("_law_own", 6)]) (g := (gName 6)) (tt := tYes) (te := (tOp rAddS (tC (S [104, 97, 110, 103, 32])) (tVar 6))) rfl sc__law_desk_right.nd (pi_tup (pv 8)) (blkOk_by (N := ["_law_deeds_so", "_law_host", "_law_lines_so", "_law_due", "_law_deed_so", "_law_last_so", "_law_own", "_law_ways_so", "_law_pure_so", "_law_again_so", "_law_pure_told_so", "_law_got", "_law_more_so"]) (sc := defScope (top 94)) (by decide +kernel)) (fun _ _ _ _ _ => (pg_name (i := 6) sc__law_desk_right.nd rfl (.inl rfl))) (fun _ _ _ _ _ => pts_nil) (fun _ _ _ _ _ => (pe_op op_add_str (pe_st (l := [104, 97, 110, 103, 32])) (pv 6)))) (pe_ok0 O__law_asked hr rfl pass0))) pa_nil)))
    (pss_cons (ps_set (i := 11) sc__law_desk_right.nd rfl (.inl rfl) (pe_lst (pa_cons (pv 7) (pa_cons (pv 8) (pa_cons (pe_slice sl_list (pv 9) (po_some (pe_callB call_len_seq (by rfl) B.len PySem.boot_len (pa_cons (pv 7) pa_nil))) po_none) (pa_cons (pe_slice sl_list (pv 10) (po_some (pe_op op_add (pe_callB call_len_seq (by rfl) B.len PySem.boot_len (pa_cons (pv 8) pa_nil)) pe_int)) po_none) pa_nil))))))
    (pss_cons (ps_set (i := 3) sc__law_desk_right.nd rfl (.inl rfl) (pe_lst (pa_cons (pe_op' O_p_ways GF.sc (pv 1) hr) (pa_cons (pe_op' O_p_makers GF.sc (pv 1) hr) (pa_cons (pe_ok O__law_told hr rfl pass0 (pa_cons (pv 1) pa_nil)) (pa_cons (pe_slice sl_list (pe_ok O__law_told hr rfl pass0 (pa_cons (pv 1) pa_nil)) (po_some pe_int) po_none) pa_nil))))))
    (pss_cons (ps_set (i := 12) sc__law_desk_right.nd rfl (.inl rfl) (pe_op op_cat (pe_op op_cat (pe_lc (own := [("_law_own", 6)]) (g := (gName 6)) (tt := tYes) (te := (tCall (sp__law_line K) [] E0 (tCons (tVar 6) tNil))) rfl sc__law_desk_right.nd (pi_list (pv 0)) (blkOk_by (N := ["_law_deeds_so", "_law_host", "_law_lines_so", "_law_due", "_law_deed_so", "_law_last_so", "_law_own", "_law_ways_so", "_law_pure_so", "_law_again_so", "_law_pure_told_so", "_law_got", "_law_more_so"]) (sc := defScope (top 94)) (by decide +kernel)) (fun _ _ _ _ _ => (pg_name (i := 6) sc__law_desk_right.nd rfl (.inl rfl))) (fun _ _ _ _ _ => pts_nil) (fun _ _ _ _ _ => (pe_ok O__law_line hr rfl pass0 (pa_cons (pv 6) pa_nil)))) (pe_lst (pa_cons (pe_st (l := [108, 111, 111, 107, 32, 99, 97, 98])) (pa_cons (pe_st (l := [117, 110, 100, 111])) pa_nil)))) (pe_ok0 O__law_asked hr rfl pass0)))
    (pss_cons (ps_set (i := 11) sc__law_desk_right.nd rfl (.inl rfl) (pe_op op_cat (pv 11) (pe_lst (pa_cons (pe_slice sl_list (pe_ok O_answers hr rfl pass0 (pa_cons (pe_join (pe_st (l := [10])) (pv 12)) pa_nil)) (po_some (pe_op op_add (pe_callB call_len_seq (by rfl) B.len PySem.boot_len (pa_cons (pv 0) pa_nil)) pe_int)) po_none) (pa_cons (pe_ok O_ways_text hr rfl pass0 (pa_cons (pv 7) pa_nil)) (pa_cons (pe_ix ix_list (pv 5) pe_int (fun _ _ => rfl)) pa_nil))))))
    (pss_one (ps_ret (pe_ok O__law_same3 hr rfl pass0 (pa_cons (pv 11) (pa_cons (pe_op op_cat (pv 3) (pe_lst (pa_cons (pe_ok O__law_told hr rfl pass0 (pa_cons (pv 1) pa_nil)) (pa_cons (pe_ix ix_list (pv 5) pe_int (fun _ _ => rfl)) (pa_cons (pe_ok O_ways_text hr rfl pass0 (pa_cons (pe_op' O_p_ways GF.sc (pv 1) hr) pa_nil)) pa_nil))))) pa_nil)))))))))))))))), ?_⟩
  obtain ⟨L, ts, rs, rfl, hL, hds, hdk, hne, hn, q⟩ := h
  have hlen := hds.len
  have hwf : ∀ r ∈ rs, r.wf := fun r hr => (hdk r hr).wf
  refine fun a dx p G0 eG ha hdx hp g => ⟨Nat.zero_le _, fun R hR => ⟨Nat.zero_le _, fun F hF => ⟨_, _, _, rfl, ?_⟩⟩⟩
  obtain ⟨t0, ts0, _, _, hp0, _⟩ := g.sl
  have hRp : R ≠ p := Ne.symm (ne_of_none hp0 hR)
  have hFp : F ≠ p := Ne.symm (ne_of_none ((Ex.new (o := .lst []) hR) _ _ hp0) hF)
  have eH : Ex H (upd (upd G0 R (.lst [])) F (.lst [])) := (eG.trans (Ex.new hR)).trans (Ex.new hF)
  have gG : GAt C (upd (upd G0 R (.lst [])) F (.lst [])) a dx p [] [] := (g.mono (Ex.new hR)).mono (Ex.new hF)
  have hRG : (upd (upd G0 R (.lst [])) F (.lst [])) R = some (.lst []) := (Ex.new hF) _ _ upd_same
  have hFG : (upd (upd G0 R (.lst [])) F (.lst [])) F = some (.lst []) := upd_same
  generalize upd (upd G0 R (.lst [])) F (.lst []) = G at eH gG hRG hFG
  refine q_forL (K := K) (a := L) (xs := ts.map V.ref) (ev_var rfl) (sq_of (eH _ _ hL)) (fun i σ H' => ∃ R F y4, σ = [some (.ref L), some (.ref a), some (.ref R), some (.ref F), y4, none, none, none, none, none, none, none, none] ∧ R ≠ p ∧ F ≠ p ∧ H' R = some (.lst (Ss ((dl (rs.take i)).map Req.line))) ∧ H' F = some (.lst (Ss (run (dl (rs.take i)) g0))) ∧ GAt C H' a dx p (after (rs.take i) g0).1 (after (rs.take i) g0).2 ∧ Ex H H')
    (fun H1 e1 => ⟨R, F, none, rfl, hRp, hFp, e1 _ _ hRG, e1 _ _ hFG, gG.mono e1, eH.trans e1⟩) (fun i σ H' _ h => ?_) (fun i x σ H' hx h => ?_) fun σ H' h => ?_
  · obtain ⟨_, _, _, _, _, _, _, _, _, h⟩ := h
    exact sq_of (h _ _ hL)
  · obtain ⟨R, F, y4, rfl, hRp, hFp, hR', hF', g', eE⟩ := h
    rw [List.getElem?_map] at hx
    obtain ⟨t, ht, rfl⟩ := Option.map_eq_some_iff.mp hx
    obtain ⟨r, hr', hrt⟩ := hds.at ht
    have dr := hdk r (List.mem_of_getElem? hr')
    have hi : i < rs.length := (List.getElem?_eq_some_iff.mp hr').1
    have tk := take_snoc hr'
    have gi : GI i (after (rs.take i) g0) := by
      have := GI.after (rs := rs.take i) GI.start fun r hr => hwf r (List.mem_of_mem_take hr)
      rw [List.length_take, Nat.zero_add, Nat.min_eq_left (by omega)] at this
      exact this
    have gi' := gi.deed dr.wf
    have hdlen : (dl (rs.take i)).length ≤ 56 := by
      rw [dl_len, List.length_take]
      omega
    have hal : (Ss (asked.map Req.line)).length = 7 := rfl
    refine q_asgL (xs := Ss ((dl (rs.take (i + 1))).map Req.line)) (el_cast (el_catN (xs := Ss ((dl (rs.take i)).map Req.line) ++ Ss [r.line]) (el_cat (ev_var rfl) hR' (el_lst (vs := Ss [r.line]) (ea_cons (x := S r.line) (ev_ok (ea_cons (ev_var rfl) ea_nil) fun H1 Q e1 q => ⟨t, r, rfl, e1 _ _ (eE _ _ hrt), dr.deed, dr.wf, q⟩) ea_nil) (by show 1 ≤ 100000; decide)) ?_) el_asked ?_) ?_) fun R2 H1 hR2 e1 h1 => ?_
    · rw [List.length_map, List.length_map]
      show _ + 1 ≤ _
      omega
    · rw [List.length_append, List.length_map, List.length_map, hal]
      show _ + 1 + 7 ≤ _
      omega
    · rw [tk, dl_snoc]
      unfold Ss
      rw [List.map_append, List.map_append, List.append_assoc]
      rfl
    · have hF1 := e1 _ _ hF'
      have eE1 := eE.trans e1
      have g1 := g'.mono e1
      have hR2p : R2 ≠ p := by
        obtain ⟨_, _, _, _, hpp, _⟩ := g'.sl
        exact Ne.symm (ne_of_none hpp hR2)
      have hrl : (run (dl (rs.take i)) g0).length ≤ 56 := by rw [run_len]; exact hdlen
      refine ⟨.ref F, rfl, .ref a, rfl, .ref t, rfl, r, a, dx, p, t, after (rs.take i) g0, i, rfl, dr.deed, dr.wf, eE1 _ _ hrt, gi, by omega, g1, fun H2 k2 g2 => ⟨by show 1 ≤ sizeLine; decide, fun y1 hy1 => ?_⟩⟩
      have hF2 : H2 F = some (.lst (Ss (run (dl (rs.take i)) g0))) := k2.lst g1 hFp hF1
      have hR2' : H2 R2 = some (.lst (Ss ((dl (rs.take (i + 1))).map Req.line))) := k2.lst g1 hR2p h1
      have eE2 : Ex H H2 := ex_keep eE1 k2 ha hp
      have e3 : Ex H2 (upd H2 y1 (.lst [S (deed r (after (rs.take i) g0)).2])) := Ex.new hy1
      refine ⟨F, y1, _, _, rfl, rfl, e3 _ _ hF2, upd_same, by rw [List.length_map]; exact big (by show _ + 1 ≤ _; omega), fun l1 hl1 => ?_⟩
      have e4 := e3.trans (Ex.new (o := .lst (Ss (run (dl (rs.take i)) g0) ++ [S (deed r (after (rs.take i) g0)).2])) hl1)
      have hl1' : (upd (upd H2 y1 (.lst [S (deed r (after (rs.take i) g0)).2])) l1 (.lst (Ss (run (dl (rs.take i)) g0) ++ [S (deed r (after (rs.take i) g0)).2]))) l1 = some (.lst (Ss (run (dl (rs.take i)) g0) ++ [S (deed r (after (rs.take i) g0)).2])) := upd_same
      generalize upd (upd H2 y1 (.lst [S (deed r (after (rs.take i) g0)).2])) l1 (.lst (Ss (run (dl (rs.take i)) g0) ++ [S (deed r (after (rs.take i) g0)).2])) = H4 at e4 hl1'
      refine ⟨.ref a, rfl, a, dx, p, (deed r (after (rs.take i) g0)).1, i + 1, rfl, gi', by omega, g2.mono e4, fun t5 H5 ht5 e5 h5 => ⟨l1, t5, _, _, rfl, rfl, e5 _ _ hl1', h5, by rw [List.length_append, List.length_map, List.length_map]; exact big (by show _ + 1 + 7 ≤ _; omega), fun l2 hl2 => ?_⟩⟩
      have hst : after (rs.take (i + 1)) g0 = (deed r (after (rs.take i) g0)).1 := by
        rw [tk, after_app]
        show (step r (after (rs.take i) g0)).1 = _
        rw [step_deed dr.deed]
      have e6 := (e4.trans e5).trans (Ex.new (o := .lst ((Ss (run (dl (rs.take i)) g0) ++ [S (deed r (after (rs.take i) g0)).2]) ++ Ss (asked.map fun q => told q (deed r (after (rs.take i) g0)).1.1))) hl2)
      refine ⟨R2, l2, _, rfl, hR2p, ?_, e6 _ _ hR2', ?_, ?_, eE2.trans e6⟩
      · obtain ⟨_, _, _, _, hpp, _⟩ := g2.sl
        exact Ne.symm (ne_of_none ((e4.trans e5) _ _ hpp) hl2)
      · rw [upd_same, tk, dl_snoc, run_app, after_dl, run_deed dr.deed]
        unfold Ss
        rw [List.map_append, List.append_assoc]
        rfl
      · rw [hst]
        exact g2.mono e6
  · obtain ⟨R, F, y4, rfl, hRp, hFp, hR', hF', g', eE⟩ := h
    rw [List.length_map, hlen, List.take_length] at hR' hF' g'
    have gi : GI rs.length (after rs g0) := by
      have := GI.after (rs := rs) GI.start hwf
      rwa [Nat.zero_add] at this
    have hsm : Shr 64 (after rs g0).1 := ((Sm.after sm0 GI.start hdk).more (m := 64) (by omega)).1
    generalize hs : after rs g0 = s at g' gi hsm
    have few := gi.few
    have ww := gi.ww
    have as := gi.as
    have sh1 : Shr 10000 s.1 := hsm.mono (by decide)
    have sh4 : Shr 40000 s.1 := hsm.mono (by decide)
    have hml := mk_len ww
    have mw := mk_ways ww
    have ma := mk_asc ww
    have ms : Shr 64 (mk s.1) := mk_short ww hsm
    have hLn := eE _ _ hL
    have hdsn : DsAt H' ts rs := hds.mono fun t xs h => eE _ _ h
    have hdl0 : dl rs ≠ [] := fun z => by
      have := dl_len rs
      rw [z] at this
      have h0 := List.length_pos_iff.mpr hne
      simp at this
      omega
    have hal : (Ss (asked.map Req.line)).length = 7 := rfl
    refine q_when (et_is (b := false) (et_not (et_B (ev_same2 (el_answersV (K := K) (ev_var rfl) hR' hdl0 (by rw [dl_len]; omega) (dl_wf hdk)) (fun _ _ => ev_var rfl) hF' (by rw [run_len, dl_len]; omega)))) rfl) (fun z => nomatch z) fun _ H1 e1 => ?_
    -- the last two answers
    have lastwf : ∀ r ∈ rs ++ [Req.bare .ways, .bare .makers], r.wf := fun r hr => by
      rcases List.mem_append.mp hr with hr | hr
      · exact hwf r hr
      · simp only [List.mem_cons, List.not_mem_nil, or_false] at hr
        rcases hr with rfl | rfl <;> trivial
    refine q_asgL (xs := [S (wtx s.1), S (wtx (mk s.1))]) (el_cast (el_slN (el_answers (K := K) (rs := rs ++ [Req.bare .ways, .bare .makers]) (el_cast (el_catN (el_dlines (ev_var rfl) (e1 _ _ hLn) (hdsn.mono fun t xs h => e1 _ _ h) hdk (by omega) (fun x => rfl) (fun x => rfl)) (el_lst (vs := Ss [KB.ways.w, KB.makers.w]) (ea_cons ev_c (ea_cons ev_c ea_nil)) (by show 2 ≤ 100000; decide)) (by rw [List.length_map, List.length_map]; show _ + 2 ≤ _; omega)) (by unfold Ss; rw [List.map_append, List.map_append]; rfl)) (by simp) (by rw [List.length_append]; show _ + 2 ≤ _; omega) lastwf) (fun _ _ => eo_some (ev_neg ev_c)) (fun _ _ => eo_none)) (by rw [last_run, hs]; unfold Ss; rw [List.map_append]; exact cutV_last2)) fun A H2 hA e2 h2 => ?_
    have e12 := e1.trans e2
    refine q_parD (ed_read (ev_ixL (i := 0) h2 (ev_var rfl) ev_c rfl) ww as (by omega) sh1) (ed_read (ev_ixL (i := 1) h2 (ev_var rfl) ev_c rfl) mw ma (by omega) (ms.mono (by decide))) fun x y H3 e3 hx hy => ?_
    obtain ⟨t1, rfl, ht1, _⟩ := hx
    obtain ⟨t2, rfl, ht2, _⟩ := hy
    -- hung again
    have hrevw : Ways s.1.reverse := fun w hw => ww w (List.mem_reverse.mp hw)
    have hrevs : Shr 64 s.1.reverse := fun w hw => hsm w (List.mem_reverse.mp hw)
    have hangwf : ∀ {l : List W}, Ways l → Shr 64 l → ∀ r ∈ hangs l ++ asked, r.wf := fun {l} wl sl r hr => (List.mem_append.mp hr).elim (hangs_wf wl sl r) (asked_wf r)
    have hanglen : ∀ l : List W, (hangs l).length = l.length := fun l => by unfold hangs; rw [List.length_map]
    refine q_asgL (xs := Ss (run (hangs s.1.reverse ++ asked) g0)) (el_answers (K := K) (el_cast (el_catN (el_hangs (l := s.1.reverse) (by
      have := ei_tupN (K := K) (eu_revV (K := K) (σ := [some (.ref L), some (.ref a), some (.ref R), some (.ref F), y4, some (.ref A), none, some (.ref t1), some (.ref t2), none, none, none, none]) (te := tVar 7) (ev_var rfl) ht1)
      unfold Ss at this ⊢
      rw [← List.map_reverse] at this
      exact this) (by rw [List.length_reverse]; omega) (hrevs.mono (by decide)) (fun x => rfl) (fun x => rfl)) el_asked (by rw [List.length_map, List.length_map, hanglen, List.length_reverse, hal]; omega)) (by unfold Ss; rw [List.map_append, List.map_append])) (by simp) (by rw [List.length_append, hanglen, List.length_reverse]; show _ + 7 ≤ _; omega) (hangwf hrevw hrevs)) fun A9 H4 hA9 e4 h9 => ?_
    refine q_asgL (xs := Ss (run (hangs (mk s.1) ++ asked) g0)) (el_answers (K := K) (el_cast (el_catN (el_hangs (l := mk s.1) (ei_tup (ev_var rfl) (st_of (e4 _ _ ht2))) (by omega) (ms.mono (by decide)) (fun x => rfl) (fun x => rfl)) el_asked (by rw [List.length_map, List.length_map, hanglen, hal]; omega)) (by unfold Ss; rw [List.map_append, List.map_append])) (by simp) (by rw [List.length_append, hanglen]; show _ + 7 ≤ _; omega) (hangwf mw ms)) fun A10 H5 hA10 e5 h10 => ?_
    have e35 := e4.trans e5
    have e05 := (e12.trans e3).trans e35
    -- what was got
    refine q_asgD (ds := [.tup s.1, .tup (mk s.1), .lst (asked.map fun r => told r s.1), .lst ((asked.drop 1).map fun r => told r s.1)]) (dl_lst (es_cons (ed_v (ev_var rfl) (e35 _ _ ht1) (by omega)) (es_cons (ed_v (ev_var rfl) (e35 _ _ ht2) (by omega)) (es_cons (ed_l (el_cast (el_from (k := s.1.length) (ev_var rfl) (sq_of (e5 _ _ h9)) (ev_is (ev_lenT (K := K) (ev_var rfl) (st_of (e35 _ _ ht1))) (by rw [List.length_map]))) ?_) (by show 7 ≤ 40000; decide)) (es_cons (ed_l (el_cast (el_from (k := (mk s.1).length + 1) (ev_var rfl) (sq_of h10) (ev_is (ev_addI (ev_lenT (K := K) (ev_var rfl) (st_of (e35 _ _ ht2))) ev_c) (by rw [List.length_map]; rfl))) ?_) (by show 6 ≤ 40000; decide)) es_nil)))) (by show 4 ≤ 1000; decide)) fun A11 vs11 H6 hA11 e6 h11 v11 => ?_
    · have := hangs_run (l := s.1.reverse) as fun x => List.mem_reverse
      rw [List.length_reverse] at this
      unfold Ss
      rw [← List.map_drop, this]
    · have := hangs_run (l := mk s.1) ma fun x => Iff.rfl
      unfold Ss
      rw [← List.map_drop, ← List.drop_drop, this, ← told_mk ww]
      rfl
    · have e06 := e05.trans e6
      have g6 := g'.mono e06
      refine q_asgD (ds := [.tup s.1, .tup (mk s.1), .lst (asked.map fun r => told r s.1), .lst ((asked.drop 1).map fun r => told r s.1)]) (dl_lst (es_cons (ed_ways (ev_var rfl) g6 (by omega)) (es_cons (ed_makers (ev_var rfl) g6 ww (by omega) sh4) (es_cons (ed_l (el_told (ev_var rfl) g6 gi (by omega)) (by show 7 ≤ 40000; decide)) (es_cons (ed_l (el_cast (el_slN (el_told (ev_var rfl) g6 gi (by omega)) (fun _ _ => eo_some (i := 1) ev_c) (fun _ _ => eo_none)) (by rw [show (1 : Int) = ((1 : Nat) : Int) from rfl, cutV_from]; rfl)) (by show 6 ≤ 40000; decide)) es_nil)))) (by show 4 ≤ 1000; decide)) fun A3 vs3 H7 hA3 e7 h3 v3 => ?_
      have e07 := e06.trans e7
      have morewf : ∀ r ∈ rs ++ [Req.one .look [99, 97, 98], .bare .undo] ++ asked, r.wf := fun r hr => by
        rcases List.mem_append.mp hr with hr | hr
        · rcases List.mem_append.mp hr with hr | hr
          · exact hwf r hr
          · simp only [List.mem_cons, List.not_mem_nil, or_false] at hr
            rcases hr with rfl | rfl
            · exact ⟨(wayB_iff _).mp (by decide), by decide⟩
            · trivial
        · exact asked_wf r hr
      refine q_asgL (xs := Ss ((rs ++ [Req.one .look [99, 97, 98], .bare .undo] ++ asked).map Req.line)) (el_cast (el_catN (el_catN (el_dlines (ev_var rfl) (e07 _ _ hLn) (hdsn.mono fun t xs h => e07 _ _ h) hdk (by omega) (fun x => rfl) (fun x => rfl)) (el_lst (vs := Ss [(Req.one .look [99, 97, 98]).line, KB.undo.w]) (ea_cons ev_c (ea_cons ev_c ea_nil)) (by show 2 ≤ 100000; decide)) (by rw [List.length_map, List.length_map]; show _ + 2 ≤ _; omega)) el_asked (by rw [List.length_append, List.length_map, List.length_map, hal]; show _ + 2 + 7 ≤ _; omega)) (by unfold Ss; rw [List.map_append, List.map_append, List.map_append, List.map_append]; rfl)) fun A12 H8 hA12 e8 h12 => ?_
      have e08 := e07.trans e8
      have ht1' := ((e35.trans e6).trans (e7.trans e8)) _ _ ht1
      have h2' := ((e3.trans e35).trans ((e6.trans e7).trans e8)) _ _ h2
      have g8 := g'.mono e08
      refine q_asgD (ds := [.tup s.1, .tup (mk s.1), .lst (asked.map fun r => told r s.1), .lst ((asked.drop 1).map fun r => told r s.1)] ++ [.lst (asked.map fun r => told r s.1), .str (wtx s.1), .str (wtx s.1)]) (dl_cat (ev_var rfl) ((e7.trans e8) _ _ h11) (v11.mono (e7.trans e8)) (dl_lst (es_cons (ed_l (el_cast (el_slN (el_answersV (K := K) (rs := rs ++ [Req.one .look [99, 97, 98], .bare .undo] ++ asked) (ev_var rfl) h12 (by simp) (by rw [List.length_append, List.length_append]; show _ + 2 + 7 ≤ _; omega) morewf) (fun H9 e9 => eo_some (i := ((rs.length + 2 : Nat) : Int)) (ev_is (ev_addI (ev_len (K := K) (ev_var rfl) (sq_of (e9 _ _ (e08 _ _ hLn)))) ev_c) (by rw [List.length_map, hlen]; rfl))) (fun _ _ => eo_none)) ?_) (by show 7 ≤ 40000; decide)) (es_cons (ed_s (ev_ok (ea_cons (ev_var rfl) ea_nil) fun H9 Q e9 q => ⟨t1, s.1, rfl, st_of (e9 _ _ ht1'), as, by omega, sh1, q⟩)) (es_cons (ed_s (ev_ixL (i := 0) h2' (ev_var rfl) ev_c rfl)) es_nil))) (by show 3 ≤ 1000; decide)) (by show 4 + 3 ≤ 1000; decide)) fun A11b vsb H9 hA11b e9 h11b v11b => ?_
      · rw [cutV_from]
        unfold Ss
        rw [← List.map_drop, more_run, hs]
      · have e09 := e08.trans e9
        have g9 := g'.mono e09
        refine s_ret (ev_same3 (ev_var rfl) h11b v11b (dl_cat (ev_var rfl) ((e8.trans e9) _ _ h3) (v3.mono (e8.trans e9)) (dl_lst (es_cons (ed_l (el_told (ev_var rfl) g9 gi (by omega)) (by show 7 ≤ 40000; decide)) (es_cons (ed_s (ev_ixL (i := 0) (e9 _ _ h2') (ev_var rfl) ev_c rfl)) (es_cons (ed_s (ev_okQ (eq_ways (K := K) (ev_var rfl) g9) fun t H2 Q e2 ht q => ⟨t, s.1, rfl, ht, as, by omega, sh1, q⟩)) es_nil))) (by show 3 ≤ 1000; decide)) (by show 4 + 3 ≤ 1000; decide)) (by show 7 ≤ 40000; decide)) fun H10 e10 => q H10 ((eE.trans e09).trans e10)
end
end Mir
/-! part L10 -/
set_option Elab.async false
set_option linter.all false
set_option maxRecDepth 100000
set_option maxHeartbeats 4000000
/-! The walk: the hand-made cases are right. -/
namespace Mir
open PySem PySem.Spec PyProof.Rows L2 Evl
section
variable {K : PySem.W.Frag} {σ : L2.St} {H H' : Hp} {ta tb te : TE} {t : TA} {r : Req} {rs : List Req}
def EvTs (t : TA) (σ : L2.St) (H : Hp) (rs : List Req) : Prop := ∀ H1, Ex H H1 → ∀ Q : List V → Hp → Prop, (∀ ts H2, Ex H1 H2 → DsAt H2 ts rs → Q (ts.map V.ref) H2) → t σ H1 Q
theorem DsAt.ex {H H1 : Hp} (e : Ex H H1) {ts : List Addr} {rs : List Req} (h : DsAt H ts rs) : DsAt H1 ts rs := h.mono fun _ _ h => e _ _ h
theorem ets_nil : EvTs tNil σ H [] := fun H1 _ Q q => q [] H1 (Ex.refl _) trivial
theorem ets_cons (h : EvU te σ H (Ss (dT r))) (h2 : EvTs t σ H rs) : EvTs (tCons te t) σ H (r :: rs) := fun H1 e Q q => h H1 e _ fun p H2 _ e2 hp => h2 H2 (e.trans e2) _ fun ts H3 e3 hts => q (p :: ts) H3 (e2.trans e3) ⟨e3 _ _ hp, hts⟩
def EvDsL (te : TE) (σ : L2.St) (H : Hp) (rs : List Req) : Prop := ∀ H1, Ex H H1 → ∀ Q : VK, (∀ L ts H2, H1 L = none → Ex H1 H2 → H2 L = some (.lst (ts.map V.ref)) → DsAt H2 ts rs → Q (.ref L) H2) → te σ H1 Q
theorem eds_lst (h : EvTs t σ H rs) (hl : rs.length ≤ 1000) : EvDsL (tLst t) σ H rs := fun H1 e Q q => h H1 e _ fun ts H2 e2 hts => ⟨by rw [List.length_map, hts.len]; exact big (by omega), fun L hL => q L ts _ (fresh_back e2 hL) (e2.trans (Ex.new hL)) upd_same (hts.ex (Ex.new hL))⟩
theorem ev_desk (h : EvDsL te σ H rs) (hk : ∀ r ∈ rs, Dk r) (h0 : rs ≠ []) (hl : rs.length ≤ 7) : Ev (tCall sp__law_desk_right [] E0 (tCons te tNil)) σ H (.bl true) := fun H1 e Q q => h H1 e _ fun L ts H2 _ e2 hL hts => ⟨L, ts, rs, rfl, hL, hts, hk, h0, hl, fun H3 e3 => q H3 (e2.trans e3)⟩
theorem ev_deskV {L : Addr} {ts : List Addr} (h : Ev te σ H (.ref L)) (hL : H L = some (.lst (ts.map V.ref))) (hts : DsAt H ts rs) (hk : ∀ r ∈ rs, Dk r) (h0 : rs ≠ []) (hl : rs.length ≤ 7) : Ev (tCall sp__law_desk_right [] E0 (tCons te tNil)) σ H (.bl true) := fun H1 e Q q => h H1 e _ fun H2 e2 => ⟨L, ts, rs, rfl, e2 _ _ (e _ _ hL), hts.ex (e.trans e2), hk, h0, hl, fun H3 e3 => q H3 (e2.trans e3)⟩
theorem el_rep {k : Nat} {xs : List V} (h : EvL ta σ H xs) (hk : Ev tb σ H (.int (k : Int))) (hz : xs.length * k ≤ 1000000) (hk2 : k ≤ 1000000) : EvL (tOp rRep ta tb) σ H (List.replicate k xs).flatten := fun H1 e Q q => h H1 e _ fun p H2 hp e2 hx => hk H2 (e.trans e2) _ fun H3 e3 =>
  ⟨p, (k : Int), xs, rfl, rfl, e3 _ _ hx, by omega, by omega, by rw [Int.toNat_natCast]; exact big hz, fun r hr => by
    rw [Int.toNat_natCast]
    exact q r _ (fresh_back (e2.trans e3) hr) ((e2.trans e3).trans (Ex.new hr)) upd_same⟩
theorem same_leaf {a b : Addr} {xs : List V} (ha : H a = some (.lst xs)) (hb : H b = some (.lst xs)) (hl : xs.length ≤ 40000) (hx : xs.all leafV = true) : Same H 1 (.ref a) (.ref b) := .inr ⟨a, b, xs, xs, rfl, rfl, .inl ⟨ha, hb⟩, rfl, hl, fun i u v hu hv => by
  rw [hu] at hv
  obtain rfl : u = v := Option.some.inj hv
  exact ⟨rfl, List.all_eq_true.mp hx u (List.mem_of_getElem? hu)⟩⟩
theorem ev_sameV {xs : List V} (h : EvL ta σ H xs) (h2 : EvL tb σ H xs) (hl : xs.length ≤ 40000) (hx : xs.all leafV = true) : Ev (tCall (spS 2) [] E0 (tCons ta (tCons tb tNil))) σ H (.bl true) := fun H1 e Q q =>
  h H1 e _ fun p H2 _ e2 hp => h2 H2 (e.trans e2) _ fun r H3 _ e3 hr => ⟨.ref p, .ref r, rfl, same_leaf (e3 _ _ hp) hr hl hx, fun H4 e4 => q H4 ((e2.trans e3).trans e4)⟩
theorem ev_same2V {l : List W} {p : Addr} (h : Ev ta σ H (.ref p)) (hp : H p = some (.lst (Ss l))) (h2 : EvL tb σ H (Ss l)) (hl : l.length ≤ 40000) : Ev (tCall (spS 2) [] E0 (tCons ta (tCons tb tNil))) σ H (.bl true) := fun H1 e Q q =>
  h H1 e _ fun H2 e2 => h2 H2 (e.trans e2) _ fun r H3 _ e3 hr => ⟨.ref p, .ref r, rfl, same_Ss (e3 _ _ (e2 _ _ (e _ _ hp))) hr hl, fun H4 e4 => q H4 ((e2.trans e3).trans e4)⟩
theorem ev_same2VV {l : List W} {p r : Addr} (h : Ev ta σ H (.ref p)) (hp : H p = some (.lst (Ss l))) (h2 : Ev tb σ H (.ref r)) (hr : H r = some (.lst (Ss l))) (hl : l.length ≤ 40000) : Ev (tCall (spS 2) [] E0 (tCons ta (tCons tb tNil))) σ H (.bl true) := fun H1 e Q q =>
  h H1 e _ fun H2 e2 => h2 H2 (e.trans e2) _ fun H3 e3 => ⟨.ref p, .ref r, rfl, same_Ss (e3 _ _ (e2 _ _ (e _ _ hp))) (e3 _ _ (e2 _ _ (e _ _ hr))) hl, fun H4 e4 => q H4 ((e2.trans e3).trans e4)⟩
end
theorem ixN_neg {n j : Nat} {k : Nat} (h : j + k = n) (hk : 0 < k) : ixN n (-(k : Int)) = some j := by
  unfold ixN
  rw [if_neg (by omega), if_pos (by omega)]
  congr 1
  omega
theorem atI_m2 {xs : List V} {x y : V} : atI (xs ++ [x, y]) (-2) = some x := by
  unfold atI
  rw [show (-2 : Int) = -((2 : Nat) : Int) from rfl, ixN_neg (j := xs.length) (by rw [List.length_append]; rfl) (by decide)]
  show (xs ++ [x, y])[xs.length]? = _
  simp
theorem atI_m1 {xs : List V} {x y : V} : atI (xs ++ [x, y]) (-1) = some y := by
  unfold atI
  rw [show (-1 : Int) = -((1 : Nat) : Int) from rfl, ixN_neg (j := xs.length + 1) (by rw [List.length_append]; rfl) (by decide)]
  show (xs ++ [x, y])[xs.length + 1]? = _
  simp
/-! the hand-made requests -/
abbrev aW : W := [97]
abbrev bW : W := [98]
abbrev cW : W := [99]
abbrev abW : W := [97, 98]
def hand1 : List Req := [.one .hang aW, .one .hang abW, .one .hang aW, .bare .ways, .bare .makers, .one .has [98, 97, 98], .one .has cW, .one .chain abW, .one .look cW, .bare .ways, .bare .makers, .bare .tidy, .bare .ways]
def hand2 : List Req := [.bare .undo, .one .hang [99, 97], .one .take aW, .bare .undo, .bare .undo, .bare .ways, .within [], .two .seen aW bW, .two .between aW [98, 97], .path abW [97, 99]]
def hand3 : List Req := [.one .hang aW, .one .hang abW, .one .hang aW, .one .look cW, .bare .tidy, .bare .undo, .one .take [99, 97]]
def hand4 : List Req := [.bare .undo, .bare .tidy, .one .look abW, .one .take aW]
def hand5 : List Req := [.one .hang bW, .one .look abW] ++ (List.replicate 28 [Req.one .look aW, .one .look bW]).flatten
/-- a request that is no line's trouble, decided -/
def wfB : Req → Bool
  | .bare _ => true
  | .one _ x => wayB x && decide (x.length ≤ 64)
  | .two _ x y => wayB x && decide (x.length ≤ 64) && wayB y && decide (y.length ≤ 64)
  | .path x y => wayB x && decide (x.length ≤ 64) && wayB y && decide (y.length ≤ 64)
  | .within l => l.all wayB && ascB l && decide (l.length < 64) && l.all fun w => decide (w.length ≤ 64)
theorem wfB_ok {r : Req} (h : wfB r = true) : r.wf := by
  match r, h with
  | .bare _, _ => trivial
  | .one _ x, h =>
    simp only [wfB, Bool.and_eq_true, decide_eq_true_eq] at h
    exact ⟨(wayB_iff x).mp h.1, h.2⟩
  | .two _ x y, h =>
    simp only [wfB, Bool.and_eq_true, decide_eq_true_eq] at h
    exact ⟨(wayB_iff x).mp h.1.1.1, h.1.1.2, (wayB_iff y).mp h.1.2, h.2⟩
  | .path x y, h =>
    simp only [wfB, Bool.and_eq_true, decide_eq_true_eq] at h
    have hx := (wayB_iff x).mp h.1.1.1
    have hy := (wayB_iff y).mp h.1.2
    exact ⟨⟨hx.1, hx.2.2⟩, h.1.1.2, ⟨hy.1, hy.2.2⟩, h.2⟩
  | .within l, h =>
    simp only [wfB, Bool.and_eq_true, decide_eq_true_eq] at h
    exact ⟨ways_of h.1.1.1, (ascB_iff l).mp h.1.1.2, h.1.2, shr_of h.2⟩
theorem wf_all {rs : List Req} (h : rs.all wfB = true) : ∀ r ∈ rs, r.wf := fun r hr => wfB_ok (List.all_eq_true.mp h r hr)
def dkB (r : Req) : Bool := isDeed r && wfB r && match r with
  | .one _ x => decide (x.length ≤ 3)
  | _ => true
theorem dk_all {rs : List Req} (h : rs.all dkB = true) : ∀ r ∈ rs, Dk r := fun r hr => by
  have := List.all_eq_true.mp h r hr
  unfold dkB at this
  rw [Bool.and_eq_true, Bool.and_eq_true] at this
  obtain ⟨⟨h1, h2⟩, h3⟩ := this
  refine ⟨h1, wfB_ok h2, fun k x e _ => ?_⟩
  subst e
  exact of_decide_eq_true h3
theorem run1 : run hand1 g0 = [doneW, doneW, refK, [97, 44, 32, 97, 98], [97, 44, 32, 98], yesW, noW, [98, 32, 97], doneW, [99, 97, 44, 32, 99, 97, 98], [99, 97, 44, 32, 99, 98], doneW, [99, 97, 44, 32, 99, 98]] := by decide +kernel
theorem run2 : run hand2 g0 = [refD, doneW, refN, doneW, refD, [45], yesW, [98, 97], [98], [98, 99]] := by decide +kernel
theorem hand5_mk : mk (after hand5 g0).1 = (after hand5 g0).1 := by decide +kernel
def hand6 : List Req := hand5 ++ [.bare .ways, .bare .makers]
abbrev txt1 : List W := [[104, 97, 110, 103, 32, 97], [104, 97, 110, 103, 32, 97, 98], [104, 97, 110, 103, 32, 97], [119, 97, 121, 115], [109, 97, 107, 101, 114, 115], [104, 97, 115, 32, 98, 97, 98], [104, 97, 115, 32, 99], [99, 104, 97, 105, 110, 32, 97, 98], [108, 111, 111, 107, 32, 99], [119, 97, 121, 115]]
theorem lines1 : txt1 ++ [[109, 97, 107, 101, 114, 115], [116, 105, 100, 121], [119, 97, 121, 115]] = hand1.map Req.line := by decide +kernel
theorem lines2 : [117, 110, 100, 111, 10, 104, 97, 110, 103, 32, 99, 97, 10, 116, 97, 107, 101, 32, 97, 10, 117, 110, 100, 111, 10, 117, 110, 100, 111, 10, 119, 97, 121, 115, 10, 119, 105, 116, 104, 105, 110, 32, 45, 10, 115, 101, 101, 110, 32, 97, 32, 98, 10, 98, 101, 116, 119, 101, 101, 110, 32, 97, 32, 98, 97, 10, 112, 97, 116, 104, 32, 97, 98, 32, 97, 99] = linesOf hand2 := by decide +kernel
theorem lines5 : (List.replicate 1 [[104, 97, 110, 103, 32, 98], [108, 111, 111, 107, 32, 97, 98]]).flatten ++ (List.replicate 28 [[108, 111, 111, 107, 32, 97], [108, 111, 111, 107, 32, 98]]).flatten ++ [[119, 97, 121, 115], [109, 97, 107, 101, 114, 115]] = hand6.map Req.line := by decide +kernel
theorem ok1 : hand1 ≠ [] ∧ hand1.length ≤ 63 ∧ ∀ r ∈ hand1, r.wf := ⟨List.cons_ne_nil _ _, by decide +kernel, wf_all (by decide +kernel)⟩
theorem ok2 : hand2 ≠ [] ∧ hand2.length ≤ 63 ∧ ∀ r ∈ hand2, r.wf := ⟨List.cons_ne_nil _ _, by decide +kernel, wf_all (by decide +kernel)⟩
theorem ok3 : hand3 ≠ [] ∧ hand3.length ≤ 7 ∧ ∀ r ∈ hand3, Dk r := ⟨List.cons_ne_nil _ _, by decide +kernel, dk_all (by decide +kernel)⟩
theorem ok4 : hand4 ≠ [] ∧ hand4.length ≤ 7 ∧ ∀ r ∈ hand4, Dk r := ⟨List.cons_ne_nil _ _, by decide +kernel, dk_all (by decide +kernel)⟩
theorem ok5 : hand6 ≠ [] ∧ hand6.length = 60 ∧ ∀ r ∈ hand6, r.wf := ⟨by decide +kernel, by decide +kernel, wf_all (by decide +kernel)⟩
theorem last5 : ∃ (xs : List V) (x : W), Ss (run hand6 g0) = xs ++ [S x, S x] := ⟨Ss (run hand5 g0), wtx (after hand5 g0).1, by
  rw [show hand6 = hand5 ++ [.bare .ways, .bare .makers] from rfl, last_run, hand5_mk]
  unfold Ss
  rw [List.map_append]
  rfl⟩
section
variable {K : PySem.W.Frag} {σ : L2.St} {H : Hp} {ta tb tc : TE} {tl : TE}
theorem el_hand1 {p : Addr} (h : Ev ta σ H (.ref p)) (hp : H p = some (.lst (Ss txt1))) : EvL (tOp rCat ta (tLst (tCons (tC (S [109, 97, 107, 101, 114, 115])) (tCons (tC (S [116, 105, 100, 121])) (tCons (tC (S [119, 97, 121, 115])) tNil))))) σ H (Ss (hand1.map Req.line)) := by
  rw [← lines1]
  unfold Ss
  rw [List.map_append]
  exact el_cat (ys := Ss [[109, 97, 107, 101, 114, 115], [116, 105, 100, 121], [119, 97, 121, 115]]) h hp (el_lst (ea_cons ev_c (ea_cons ev_c (ea_cons ev_c ea_nil))) (by show 3 ≤ 100000; decide)) (by show 10 + 3 ≤ 1000000; decide)
theorem el_hand5 : EvL (tOp rCat (tOp rCat (tOp rRep (tLst (tCons (tC (S [104, 97, 110, 103, 32, 98])) (tCons (tC (S [108, 111, 111, 107, 32, 97, 98])) tNil))) (tC (.int 1))) (tOp rRep (tLst (tCons (tC (S [108, 111, 111, 107, 32, 97])) (tCons (tC (S [108, 111, 111, 107, 32, 98])) tNil))) (tC (.int 28)))) (tLst (tCons (tC (S [119, 97, 121, 115])) (tCons (tC (S [109, 97, 107, 101, 114, 115])) tNil)))) σ H (Ss (hand6.map Req.line)) := by
  rw [← lines5]
  unfold Ss
  rw [List.map_append, List.map_append, List.map_flatten, List.map_flatten, List.map_replicate, List.map_replicate]
  refine el_catN (el_catN (el_rep (k := 1) (el_lst (vs := Ss [[104, 97, 110, 103, 32, 98], [108, 111, 111, 107, 32, 97, 98]]) (ea_cons ev_c (ea_cons ev_c ea_nil)) (by show 2 ≤ 100000; decide)) ev_c (by show 2 * 1 ≤ 1000000; decide) (by decide)) (el_rep (k := 28) (el_lst (vs := Ss [[108, 111, 111, 107, 32, 97], [108, 111, 111, 107, 32, 98]]) (ea_cons ev_c (ea_cons ev_c ea_nil)) (by show 2 ≤ 100000; decide)) ev_c (by show 2 * 28 ≤ 1000000; decide) (by decide)) ?_) (el_lst (vs := Ss [[119, 97, 121, 115], [109, 97, 107, 101, 114, 115]]) (ea_cons ev_c (ea_cons ev_c ea_nil)) (by show 2 ≤ 100000; decide)) ?_
  · rw [List.length_flatten, List.length_flatten, List.map_replicate, List.map_replicate]
    decide +kernel
  · rw [List.length_append, List.length_flatten, List.length_flatten, List.map_replicate, List.map_replicate]
    decide +kernel
theorem q_asgDs {i : Nat} {rs : List Req} {tz : TS} {D : Ends} {te : TE} (h : EvDsL te σ H rs) (k : ∀ L ts H1, H L = none → Ex H H1 → H1 L = some (.lst (ts.map V.ref)) → DsAt H1 ts rs → tz D (σ.set i (some (.ref L))) H1) : tSeq (tAsg te (gName i)) tz D σ H :=
  h H (Ex.refl H) _ fun L ts H1 hL e h1 hts => k L ts H1 hL e h1 hts
theorem u2 {a b : W} : EvU (tTup (tCons (tC (S a)) (tCons (tC (S b)) tNil))) σ H (Ss [a, b]) := eu_tup (ea_cons ev_c (ea_cons ev_c ea_nil)) (by show 2 ≤ 100000; decide)
theorem u1 {a : W} : EvU (tTup (tCons (tC (S a)) tNil)) σ H (Ss [a]) := eu_tup (ea_cons ev_c ea_nil) (by show 1 ≤ 100000; decide)
theorem d_hand3 : EvDsL (tLst (tCons (tTup (tCons (tC (S [104, 97, 110, 103])) (tCons (tC (S [97])) tNil))) (tCons (tTup (tCons (tC (S [104, 97, 110, 103])) (tCons (tC (S [97, 98])) tNil))) (tCons (tTup (tCons (tC (S [104, 97, 110, 103])) (tCons (tC (S [97])) tNil))) (tCons (tTup (tCons (tC (S [108, 111, 111, 107])) (tCons (tC (S [99])) tNil))) (tCons (tTup (tCons (tC (S [116, 105, 100, 121])) tNil)) (tCons (tTup (tCons (tC (S [117, 110, 100, 111])) tNil)) (tCons (tTup (tCons (tC (S [116, 97, 107, 101])) (tCons (tC (S [99, 97])) tNil))) tNil)))))))) σ H hand3 := by
  unfold hand3
  exact eds_lst (ets_cons (r := .one .hang aW) u2 (ets_cons (r := .one .hang abW) u2 (ets_cons (r := .one .hang aW) u2 (ets_cons (r := .one .look cW) u2 (ets_cons (r := .bare .tidy) u1 (ets_cons (r := .bare .undo) u1 (ets_cons (r := .one .take [99, 97]) u2 ets_nil))))))) (by show 7 ≤ 1000; decide)
theorem d_hand4 : EvDsL (tLst (tCons (tTup (tCons (tC (S [117, 110, 100, 111])) tNil)) (tCons (tTup (tCons (tC (S [116, 105, 100, 121])) tNil)) (tCons (tTup (tCons (tC (S [108, 111, 111, 107])) (tCons (tC (S [97, 98])) tNil))) (tCons (tTup (tCons (tC (S [116, 97, 107, 101])) (tCons (tC (S [97])) tNil))) tNil))))) σ H hand4 := by
  unfold hand4
  exact eds_lst (ets_cons (r := .bare .undo) u1 (ets_cons (r := .bare .tidy) u1 (ets_cons (r := .one .look abW) u2 (ets_cons (r := .one .take aW) u2 ets_nil)))) (by show 4 ≤ 1000; decide)
end
end Mir
/-! part L11 -/
set_option Elab.async false
set_option linter.all false
set_option maxRecDepth 100000
set_option maxHeartbeats 4000000
/-! The walk: the hand-made cases are right. -/
namespace Mir
open PySem PySem.Spec PyProof.Rows L2 Evl
abbrev sp__law_by_hand_right : Sp := fun vs H Q _ => vs = [] ∧ Rv (.bl true) H Q
section
variable {P : Program} {w : World} {K : PySem.W.Frag} {mg : Str → Option Value} {base : Heap}
theorem sc__law_by_hand_right : FnScope ["_law_lines_so", "_law_told_so", "_law_due", "_law_deeds_so", "_law_long_so"] [] (defScope (top 96)) := ⟨rfl, rfl, rfl, by decide +kernel, rfl, by decide +kernel, by decide +kernel⟩
theorem ok__law_by_hand_right (B : Bu mg) (T : Cst K mg) (O_answers : Ok P w K mg base CX0 10 "answers" sp_answers) (O__law_same : Ok P w K mg base CX0 2 "_law_same" (spS 2)) (O__law_desk_right : Ok P w K mg base CX0 11 "_law_desk_right" sp__law_desk_right) (O__law_looks_right : Ok P w K mg base CX0 11 "_law_looks_right" sp__law_looks_right) (D : Dn K mg "_law_by_hand_right" 96) : Ok P w K mg base CX0 12 "_law_by_hand_right" sp__law_by_hand_right := by
  refine D.ok sc__law_by_hand_right (fun _ _ _ _ _ _ us hl => match us, hl with | [], _ => rfl) (by rintro vs H Q E ⟨rfl, _⟩; rfl) fun f cdv A outer s H vs Q E hr h => ⟨_, (pss_cons (ps_set (i := 0) sc__law_by_hand_right.nd rfl (.inl rfl) (pe_lst (pa_cons (pe_st (l := [104, 97, 110, 103, 32, 97])) (pa_cons (pe_st (l := [104, 97, 110, 103, 32, 97, 98])) (pa_cons (pe_st (l := [104, 97, 110, 103, 32, 97])) (pa_cons (pe_st (l := [119, 97, 121, 115])) (pa_cons (pe_st (l := [109, 97, 107, 101, 114, 115])) (pa_cons (pe_st (l := [104, 97, 115, 32, 98, 97, 98])) (pa_cons (pe_st (l := [104, 97, 115, 32, 99])) (pa_cons (pe_st (l := [99, 104, 97, 105, 110, 32, 97, 98])) (pa_cons (pe_st (l := [108, 111, 111, 107, 32, 99])) (pa_cons (pe_st (l := [119, 97, 121, 115])) pa_nil))))))))))))
    (pss_cons (ps_set (i := 1) sc__law_by_hand_right.nd rfl (.inl rfl) (pe_ok O_answers hr rfl pass0 (pa_cons (pe_join (pe_st (l := [10])) (pe_op op_cat (pv 0) (pe_lst (pa_cons (pe_st (l := [109, 97, 107, 101, 114, 115])) (pa_cons (pe_st (l := [116, 105, 100, 121])) (pa_cons (pe_st (l := [119, 97, 121, 115])) pa_nil)))))) pa_nil)))
    (pss_cons (ps_set (i := 2) sc__law_by_hand_right.nd rfl (.inl rfl) (pe_lst (pa_cons (pe_st (l := [100, 111, 110, 101])) (pa_cons (pe_st (l := [100, 111, 110, 101])) (pa_cons (pe_st (l := [114, 101, 102, 117, 115, 101, 100, 32, 75, 110, 111, 119, 110])) (pa_cons (pe_st (l := [97, 44, 32, 97, 98])) (pa_cons (pe_st (l := [97, 44, 32, 98])) (pa_cons (pe_st (l := [121, 101, 115])) (pa_cons (pe_st (l := [110, 111])) (pa_cons (pe_st (l := [98, 32, 97])) (pa_cons (pe_st (l := [100, 111, 110, 101])) (pa_cons (pe_st (l := [99, 97, 44, 32, 99, 97, 98])) (pa_cons (pe_st (l := [99, 97, 44, 32, 99, 98])) (pa_cons (pe_st (l := [100, 111, 110, 101])) pa_nil))))))))))))))
    (pss_cons (ps_if (pt_not (pt_val (pe_ok O__law_same hr rfl pass0 (pa_cons (pv 1) (pa_cons (pe_op op_cat (pv 2) (pe_lst (pa_cons (pe_st (l := [99, 97, 44, 32, 99, 98])) pa_nil))) pa_nil)))))
      (pss_one (ps_ret pe_bl))
      pss_nil)
    (pss_cons (ps_set (i := 1) sc__law_by_hand_right.nd rfl (.inl rfl) (pe_ok O_answers hr rfl pass0 (pa_cons (pe_st (l := [117, 110, 100, 111, 10, 104, 97, 110, 103, 32, 99, 97, 10, 116, 97, 107, 101, 32, 97, 10, 117, 110, 100, 111, 10, 117, 110, 100, 111, 10, 119, 97, 121, 115, 10, 119, 105, 116, 104, 105, 110, 32, 45, 10, 115, 101, 101, 110, 32, 97, 32, 98, 10, 98, 101, 116, 119, 101, 101, 110, 32, 97, 32, 98, 97, 10, 112, 97, 116, 104, 32, 97, 98, 32, 97, 99])) pa_nil)))
    (pss_cons (ps_set (i := 2) sc__law_by_hand_right.nd rfl (.inl rfl) (pe_lst (pa_cons (pe_st (l := [114, 101, 102, 117, 115, 101, 100, 32, 78, 111, 116, 104, 105, 110, 103, 68, 111, 110, 101])) (pa_cons (pe_st (l := [100, 111, 110, 101])) (pa_cons (pe_st (l := [114, 101, 102, 117, 115, 101, 100, 32, 78, 111, 87, 97, 121])) (pa_cons (pe_st (l := [100, 111, 110, 101])) (pa_cons (pe_st (l := [114, 101, 102, 117, 115, 101, 100, 32, 78, 111, 116, 104, 105, 110, 103, 68, 111, 110, 101])) (pa_cons (pe_st (l := [45])) (pa_cons (pe_st (l := [121, 101, 115])) (pa_cons (pe_st (l := [98, 97])) (pa_cons (pe_st (l := [98])) (pa_cons (pe_st (l := [98, 99])) pa_nil))))))))))))
    (pss_cons (ps_if (pt_not (pt_val (pe_ok O__law_same hr rfl pass0 (pa_cons (pv 1) (pa_cons (pv 2) pa_nil)))))
      (pss_one (ps_ret pe_bl))
      pss_nil)
    (pss_cons (ps_set (i := 3) sc__law_by_hand_right.nd rfl (.inl rfl) (pe_lst (pa_cons (pe_tup (pa_cons (pe_st (l := [104, 97, 110, 103])) (pa_cons (pe_st (l := [97])) pa_nil))) (pa_cons (pe_tup (pa_cons (pe_st (l := [104, 97, 110, 103])) (pa_cons (pe_st (l := [97, 98])) pa_nil))) (pa_cons (pe_tup (pa_cons (pe_st (l := [104, 97, 110, 103])) (pa_cons (pe_st (l := [97])) pa_nil))) (pa_cons (pe_tup (pa_cons (pe_st (l := [108, 111, 111, 107])) (pa_cons (pe_st (l := [99])) pa_nil))) (pa_cons (pe_tup (pa_cons (pe_st (l := [116, 105, 100, 121])) pa_nil)) (pa_cons (pe_tup (pa_cons (pe_st (l := [117, 110, 100, 111])) pa_nil)) (pa_cons (pe_tup (pa_cons (pe_st (l := [116, 97, 107, 101])) (pa_cons (pe_st (l := [99, 97])) pa_nil))) pa_nil)))))))))
    (pss_cons (ps_if (PW.pt (pw_or (pt_not (pt_val (pe_ok O__law_desk_right hr rfl pass0 (pa_cons (pv 3) pa_nil)))) (pw_or1 (pt_not (pt_val (pe_ok O__law_desk_right hr rfl pass0 (pa_cons (pe_lst (pa_cons (pe_tup (pa_cons (pe_st (l := [117, 110, 100, 111])) pa_nil)) (pa_cons (pe_tup (pa_cons (pe_st (l := [116, 105, 100, 121])) pa_nil)) (pa_cons (pe_tup (pa_cons (pe_st (l := [108, 111, 111, 107])) (pa_cons (pe_st (l := [97, 98])) pa_nil))) (pa_cons (pe_tup (pa_cons (pe_st (l := [116, 97, 107, 101])) (pa_cons (pe_st (l := [97])) pa_nil))) pa_nil))))) pa_nil)))))))
      (pss_one (ps_ret pe_bl))
      pss_nil)
    (pss_cons (ps_set (i := 4) sc__law_by_hand_right.nd rfl (.inl rfl) (pe_ok O_answers hr rfl pass0 (pa_cons (pe_join (pe_st (l := [10])) (pe_op op_cat (pe_op op_cat (pe_op op_rep (pe_lst (pa_cons (pe_st (l := [104, 97, 110, 103, 32, 98])) (pa_cons (pe_st (l := [108, 111, 111, 107, 32, 97, 98])) pa_nil))) pe_int) (pe_op op_rep (pe_lst (pa_cons (pe_st (l := [108, 111, 111, 107, 32, 97])) (pa_cons (pe_st (l := [108, 111, 111, 107, 32, 98])) pa_nil))) pe_int)) (pe_lst (pa_cons (pe_st (l := [119, 97, 121, 115])) (pa_cons (pe_st (l := [109, 97, 107, 101, 114, 115])) pa_nil))))) pa_nil)))
    (pss_one (ps_ret (pe_and (pe_ok O__law_same hr rfl pass0 (pa_cons (pe_lst (pa_cons (pe_callB call_len_seq (by rfl) B.len PySem.boot_len (pa_cons (pv 4) pa_nil)) (pa_cons (pe_cmpR op_eq (pe_ix ix_list (pv 4) (pe_un un_neg pe_int) (fun _ _ => rfl)) (pe_ix ix_list (pv 4) (pe_un un_neg pe_int) (fun _ _ => rfl)) (nomark _)) pa_nil))) (pa_cons (pe_lst (pa_cons pe_int (pa_cons pe_bl pa_nil))) pa_nil))) (pe_one (pe_ok O__law_looks_right hr rfl pass0 (pa_cons (pe_st (l := [97, 98, 99])) (pa_cons (pe_st (l := [99, 98])) pa_nil))))))))))))))))), ?_⟩
  obtain ⟨rfl, q⟩ := h
  refine q_asgL (xs := Ss txt1) (el_lst (ea_cons ev_c (ea_cons ev_c (ea_cons ev_c (ea_cons ev_c (ea_cons ev_c (ea_cons ev_c (ea_cons ev_c (ea_cons ev_c (ea_cons ev_c (ea_cons ev_c ea_nil)))))))))) (by show 10 ≤ 100000; decide)) fun A0 H1 hA0 e1 h0 => ?_
  have ha1 := el_answers (K := K) (rs := hand1) (el_hand1 (ta := tVar 0) (σ := [some (.ref A0), none, none, none, none]) (ev_var rfl) h0) ok1.1 ok1.2.1 ok1.2.2
  rw [run1] at ha1
  refine q_asgL ha1 fun A1 H2 hA1 e2 h1 => ?_
  refine q_asgL (xs := Ss [doneW, doneW, refK, [97, 44, 32, 97, 98], [97, 44, 32, 98], yesW, noW, [98, 32, 97], doneW, [99, 97, 44, 32, 99, 97, 98], [99, 97, 44, 32, 99, 98], doneW]) (el_lst (ea_cons ev_c (ea_cons ev_c (ea_cons ev_c (ea_cons ev_c (ea_cons ev_c (ea_cons ev_c (ea_cons ev_c (ea_cons ev_c (ea_cons ev_c (ea_cons ev_c (ea_cons ev_c (ea_cons ev_c ea_nil)))))))))))) (by show 12 ≤ 100000; decide)) fun A2 H3 hA2 e3 h2 => ?_
  refine q_when (et_is (b := false) (et_not (et_B (ev_same2V (l := [doneW, doneW, refK, [97, 44, 32, 97, 98], [97, 44, 32, 98], yesW, noW, [98, 32, 97], doneW, [99, 97, 44, 32, 99, 97, 98], [99, 97, 44, 32, 99, 98], doneW, [99, 97, 44, 32, 99, 98]]) (ev_var rfl) (e3 _ _ h1) (el_cat (ys := Ss [[99, 97, 44, 32, 99, 98]]) (ev_var rfl) h2 (el_lst (ea_cons ev_c ea_nil) (by show 1 ≤ 100000; decide)) (by show 12 + 1 ≤ 1000000; decide)) (by decide)))) rfl) (fun z => nomatch z) fun _ H4 e4 => ?_
  -- the second
  refine q_asgL (xs := Ss (run hand2 g0)) (el_ok (vs := [S (linesOf hand2)]) (ea_cons (ev_is ev_c (congrArg S lines2)) ea_nil) fun H5 Q _ q => ⟨hand2, rfl, ok2.1, ok2.2.1, ok2.2.2, q⟩) fun A3 H5 hA3 e5 h3 => ?_
  rw [run2] at h3
  refine q_asgL (xs := Ss [refD, doneW, refN, doneW, refD, [45], yesW, [98, 97], [98], [98, 99]]) (el_lst (ea_cons ev_c (ea_cons ev_c (ea_cons ev_c (ea_cons ev_c (ea_cons ev_c (ea_cons ev_c (ea_cons ev_c (ea_cons ev_c (ea_cons ev_c (ea_cons ev_c ea_nil)))))))))) (by show 10 ≤ 100000; decide)) fun A4 H6 hA4 e6 h4 => ?_
  refine q_when (et_is (b := false) (et_not (et_B (ev_same2VV (l := [refD, doneW, refN, doneW, refD, [45], yesW, [98, 97], [98], [98, 99]]) (ev_var rfl) (e6 _ _ h3) (ev_var rfl) h4 (by decide)))) rfl) (fun z => nomatch z) fun _ H7 e7 => ?_
  refine q_asgDs d_hand3 fun L ts H8 hL e8 h8 hts => ?_
  refine q_when (σ := [some (.ref A0), some (.ref A3), some (.ref A4), some (.ref L), none]) (et_is (b := false) (et_or (et_not (et_B (ev_deskV (ev_var rfl) h8 hts ok3.2.2 ok3.1 ok3.2.1))) fun _ => et_not (et_B (ev_desk d_hand4 ok4.2.2 ok4.1 ok4.2.1))) rfl) (fun z => nomatch z) fun _ H9 e9 => ?_
  -- many looks
  have ha5 := el_answers (K := K) (rs := hand6) (el_hand5 (σ := [some (.ref A0), some (.ref A3), some (.ref A4), some (.ref L), none]) (H := H9)) ok5.1 (by rw [ok5.2.1]; decide) ok5.2.2
  obtain ⟨xs5, x5, hx5⟩ := last5
  have hlen5 : (Ss (run hand6 g0)).length = 60 := by
    rw [List.length_map, run_len, ok5.2.1]
  rw [hx5] at ha5 hlen5
  refine q_asgL ha5 fun A5 H10 hA5 e10 h10 => ?_
  refine s_ret (ev_is (ev_andV (a := true) (b := true) (ev_sameV (xs := [.int 60, .bl true]) (el_lst (ea_cons (ev_is (ev_len (K := K) (ev_var rfl) (sq_of h10)) (by rw [hlen5]; rfl)) (ea_cons (ev_is (ev_eqS (a := x5) (b := x5) (ev_op (ev_var rfl) (ev_neg ev_c) (rv_ixL (K := K) (sq_of h10) atI_m2)) (ev_op (ev_var rfl) (ev_neg ev_c) (rv_ixL (K := K) (sq_of h10) atI_m1))) (by simp)) ea_nil)) (by show 2 ≤ 100000; decide)) (el_lst (ea_cons ev_c (ea_cons ev_c ea_nil)) (by show 2 ≤ 100000; decide)) (by show 2 ≤ 40000; decide) rfl) fun _ => ev_ok (ea_cons ev_c (ea_cons ev_c ea_nil)) fun H11 Q _ q => ⟨[97, 98, 99], [99, 98], rfl, (wayB_iff _).mp (by decide), (wayB_iff _).mp (by decide), by decide, by decide, q⟩) rfl) fun H11 e11 => q H11 ?_
  exact (((((((((e1.trans e2).trans e3).trans e4).trans e5).trans e6).trans e7).trans e8).trans e9).trans e10).trans e11
end
end Mir
/-! part L12 -/
set_option Elab.async false
set_option linter.all false
set_option maxRecDepth 100000
set_option maxHeartbeats 4000000
/-! The walk: what is drawn is right, the law. -/
namespace Mir
open PySem PySem.Spec PyProof.Rows L2 Evl
abbrev sp__law_right : Sp := fun vs H Q _ => ∃ b : Addr, vs = [.ref b] ∧ BoxAt H b 0 ∧ ∀ H2, Ko b H H2 → (∃ n, BoxAt H2 b n) → Q (.bl true) H2
abbrev sp_law (K : PySem.W.Frag) : Sp := fun vs H Q _ => ∃ (l : Addr) (zs : List Int), vs = [.ref l] ∧ SqL K H l (zs.map V.int) ∧ zs.length ≤ 63 ∧ Rv (.bl true) H Q
theorem Ko.mutL {b L : Addr} {H H1 : Hp} {o : HO} (k : Ko b H H1) (hL : H L = none) : Ko b H (L2.upd H1 L o) := fun a x n h => by
  rw [upd_ne (ne_of_none h hL)]
  exact k a x n h
theorem Ko.none {b a : Addr} {H H1 : Hp} {n : Nat} (k : Ko b H H1) (hb : ∃ o, H1 b = some o) (z : H1 a = none) : H a = none := by
  cases hx : H a with
  | none => rfl
  | some o =>
    by_cases e : a = b
    · obtain ⟨o', ho⟩ := hb
      rw [e, ho] at z
      cases z
    · rw [k a o e hx] at z
      cases z
theorem ex_ko {b : Addr} {H H1 H2 : Hp} (e : Ex H H1) (k : Ko b H1 H2) (hb : H b = none) : Ex H H2 := fun a o h => k a o (fun z => by rw [z, hb] at h; cases h) (e a o h)
theorem BoxAt.mutL {b L : Addr} {H : Hp} {n : Nat} {o : HO} (h : BoxAt H b n) (hL : L ≠ b) : BoxAt (L2.upd H L o) b n := by
  obtain ⟨i0, i1, i2, h1, h2⟩ := h
  exact ⟨i0, i1, i2, by rw [upd_ne (Ne.symm hL)]; exact h1, h2⟩
theorem dOk_dk {l : List W} {r : Req} {n : Nat} (d : DOk l r) (hs : Shr n l) (hn : n ≤ 64) : Dk r := by
  refine ⟨d.deed, ?_, d.short⟩
  match r, d with
  | .bare _, _ => trivial
  | .one k x, d =>
    refine ⟨d.way _ _ rfl, ?_⟩
    rcases d.few _ _ rfl with h | h
    · omega
    · exact Nat.le_trans (hs x h) hn
  | .two _ _ _, d => exact absurd d.deed (by simp [isDeed])
  | .path _ _, d => exact absurd d.deed (by simp [isDeed])
  | .within _, d => exact absurd d.deed (by simp [isDeed])
theorem atI_last {xs : List V} {y : V} : atI (xs ++ [y]) (-1) = some y := by
  unfold atI
  rw [show (-1 : Int) = -((1 : Nat) : Int) from rfl, ixN_neg (j := xs.length) (by rw [List.length_append]; rfl) (by decide)]
  show (xs ++ [y])[xs.length]? = _
  simp
section
variable {P : Program} {w : World} {K : PySem.W.Frag} {mg : Str → Option Value} {base : Heap}
theorem sc__law_right : FnScope ["_law_box_here", "_law_many", "_law_ways_so", "_law_deeds_so", "_law_lap", "_law_later_so"] ["_law_box_here"] (defScope (top 97)) := ⟨rfl, rfl, rfl, by decide +kernel, rfl, by decide +kernel, by decide +kernel⟩
theorem ok__law_right (B : Bu mg) (T : Cst K mg) (O__law_take : Ok P w K mg base CX0 1 "_law_take" sp__law_take) (O__law_deed : Ok P w K mg base CX0 5 "_law_deed" sp__law_deed) (O__law_next : Ok P w K mg base CX0 4 "_law_next" (sp__law_next K)) (O__law_way : Ok P w K mg base CX0 4 "_law_way" sp__law_way) (O__law_desk_right : Ok P w K mg base CX0 11 "_law_desk_right" sp__law_desk_right) (O__law_looks_right : Ok P w K mg base CX0 11 "_law_looks_right" sp__law_looks_right) (D : Dn K mg "_law_right" 97) : Ok P w K mg base CX0 12 "_law_right" sp__law_right := by
  refine D.ok sc__law_right (fun _ _ _ _ _ _ us hl => match us, hl with | [_], _ => rfl) (by rintro vs H Q E ⟨b, rfl, _⟩; rfl) fun f cdv A outer s H vs Q E hr h => ⟨_, (pss_cons (ps_par3 (i := 1) (j := 2) (l := 3) rfl sc__law_right.nd rfl rfl rfl (by decide) (by decide) (by decide) rfl rfl rfl (pa_cons (pe_op op_add pe_int (pe_ok O__law_take hr rfl pass0 (pa_cons (pv 0) (pa_cons pe_int pa_nil)))) (pa_cons (pe_tup pa_nil) (pa_cons (pe_lst pa_nil) pa_nil))) (by rfl))
    (pss_cons (ps_for PassesOwn.never rfl (pi_range1 rfl B.range (pa_cons (pe_op op_add pe_int (pe_ok O__law_take hr rfl pass0 (pa_cons (pv 0) (pa_cons pe_int pa_nil)))) pa_nil)) (pg_name (i := 4) sc__law_right.nd rfl (.inl rfl))
      (pss_cons (ps_expr (pe_bm PySem.F.plainAttrs_list PySem.F.slot_list_append PySem.F.type_list_append mt_append (pv 3) (pa_cons (pe_ok O__law_deed hr rfl pass0 (pa_cons (pv 0) (pa_cons (pv 2) (pa_cons (pv 1) pa_nil)))) pa_nil)))
      (pss_cons (ps_set (i := 5) sc__law_right.nd rfl (.inl rfl) (pe_ok O__law_next hr rfl pass0 (pa_cons (pv 2) (pa_cons (pe_ix ix_list (pv 3) (pe_un un_neg pe_int) (fun _ _ => rfl)) pa_nil))))
      (pss_one (ps_set (i := 2) sc__law_right.nd rfl (.inl rfl) (pe_ifExp (pt_cmpR op_notN (pv 5) pe_non (nomark _)) (pv 5) (pv 2)))))))
    (pss_cons (ps_if (pt_not (pt_val (pe_ok O__law_desk_right hr rfl pass0 (pa_cons (pv 3) pa_nil))))
      (pss_one (ps_ret pe_bl))
      pss_nil)
    (pss_one (ps_ret (pe_ok O__law_looks_right hr rfl pass0 (pa_cons (pe_ok O__law_way hr rfl pass0 (pa_cons (pv 0) (pa_cons (pv 1) (pa_cons pe_int pa_nil)))) (pa_cons (pe_ok O__law_way hr rfl pass0 (pa_cons (pv 0) (pa_cons (pv 1) (pa_cons pe_int pa_nil)))) pa_nil)))))))), ?_⟩
  obtain ⟨b, rfl, hb, q⟩ := h
  refine ⟨.ref b, rfl, b, 0, 2, rfl, by decide, by decide, hb, by decide, fun v H1 hv k1 hb1 => ⟨2, (v : Int), rfl, rfl, Nat.zero_le _, fun wa hwa => ⟨Nat.zero_le _, fun L hL => ⟨.int ((2 + v : Nat) : Int), .ref wa, .ref L, congrArg (fun z => [V.int z, V.ref wa, V.ref L]) (show (2 : Int) + (v : Int) = ((2 + v : Nat) : Int) by omega), ?_⟩⟩⟩⟩
  have hm2 : 2 ≤ 2 + v := by omega
  have hm8 : 2 + v ≤ 8 := by omega
  generalize 2 + v = many at hm2 hm8
  have k2 : Ko b H (upd (upd H1 wa (.tup [])) L (.lst [])) := (k1.trans (.of (Ex.new hwa))).trans (.of (Ex.new hL))
  have hb2 : BoxAt (upd (upd H1 wa (.tup [])) L (.lst [])) b 1 := (hb1.mono (Ex.new hwa) (Nat.le_refl _)).mono (Ex.new hL) (Nat.le_refl _)
  have hwa2 : (upd (upd H1 wa (.tup [])) L (.lst [])) wa = some (.tup (Ss [])) := (Ex.new hL) _ _ upd_same
  have hL2 : (upd (upd H1 wa (.tup [])) L (.lst [])) L = some (.lst []) := upd_same
  have hLb : L ≠ b := by
    obtain ⟨o, ho⟩ := (hb1.mono (Ex.new (o := .tup []) hwa) (Nat.le_refl _)).some
    exact Ne.symm (ne_of_none ho hL)
  have hLH : H L = none := k1.none (n := 0) hb1.some (fresh_back (Ex.new hwa) hL)
  generalize upd (upd H1 wa (.tup [])) L (.lst []) = G at k2 hb2 hwa2 hL2
  refine ⟨.ref b, rfl, b, 1, 7, rfl, by decide, by decide, hb2, by decide, fun u H3 hu k3 hb3 => ⟨1, (u : Int), rfl, rfl, ?_⟩⟩
  have k03 := k2.trans k3
  have hwab : wa ≠ b := fun z => by
    obtain ⟨_, _, _, h1, _⟩ := hb2
    rw [z, h1] at hwa2
    cases hwa2
  refine ⟨((1 + u : Nat) : Int), congrArg (fun z => [V.int z]) (show (1 : Int) + (u : Int) = ((1 + u : Nat) : Int) by omega), by omega, by omega, for_range (lo := 0) (n := 1 + u) (fun i σ H' => ∃ (wa : Addr) (l : List W) (ts : List Addr) (rs : List Req) (y4 y5 : Option V), σ = [some (.ref b), some (.int (many : Int)), some (.ref wa), some (.ref L), y4, y5] ∧ i ≤ 1 + u ∧ H' wa = some (.tup (Ss l)) ∧ Ways l ∧ l.length ≤ i ∧ Shr (3 + 6 * i) l ∧ H' L = some (.lst (ts.map V.ref)) ∧ DsAt H' ts rs ∧ rs.length = i ∧ (∀ r ∈ rs, Dk r) ∧ Ko b H H' ∧ BoxAt H' b (2 + 20 * i)) ⟨wa, [], [], [], none, none, rfl, Nat.zero_le _, k3 _ _ hwab hwa2, fun _ h => (nomatch h), Nat.le_refl _, fun _ h => (nomatch h), k3 _ _ hLb hL2, trivial, rfl, fun _ h => (nomatch h), k03, hb3⟩ (fun i σ H' hi h => ?_) fun σ H' h => ?_⟩
  · obtain ⟨wa, l, ts, rs, y4, y5, rfl, hiu, hw, wl, ll, sl, hLl, hts, hrl, hdk, kk, hbb⟩ := h
    have hwab : wa ≠ b := fun z => by
      obtain ⟨_, _, _, h1, _⟩ := hbb
      rw [z, h1] at hw
      cases hw
    have hlen := hts.len
    refine ⟨.ref L, rfl, .inl ⟨rfl, _, sq_of hLl⟩, .ref b, rfl, .ref wa, rfl, .int (many : Int), rfl, b, wa, many, 2 + 20 * i, l, rfl, hw, wl, by omega, hm2, hm8, hbb, by omega, fun r d H4 dk k4 hb4 hd => ⟨L, ts.map V.ref, .ref d, rfl, rfl, k4 _ _ hLb hLl, ?_, ?_⟩⟩
    · rw [List.length_map]
      exact bigLt (by omega)
    · have hL4 := k4 _ _ hLb hLl
      have tup4 : ∀ t zs, H4 t = some (.tup zs) → (upd H4 L (.lst (ts.map V.ref ++ [.ref d]))) t = some (.tup zs) := fun t zs h => tup_grow hL4 t zs h
      have hts4 : DsAt (upd H4 L (.lst (ts.map V.ref ++ [.ref d]))) ts rs := hts.mono fun t xs h => tup4 _ _ (k4 _ _ (fun z => by
        obtain ⟨_, _, _, h1, _⟩ := hbb
        rw [z, h1] at h
        cases h) h)
      have hd4 := tup4 _ _ hd
      have hw4 := tup4 _ _ (k4 _ _ hwab hw)
      have hL5 : (upd H4 L (.lst (ts.map V.ref ++ [.ref d]))) L = some (.lst ((ts ++ [d]).map V.ref)) := by
        rw [upd_same, List.map_append]
        rfl
      have kk5 : Ko b H (upd H4 L (.lst (ts.map V.ref ++ [.ref d]))) := (kk.trans k4).mutL hLH
      have hb5 : BoxAt (upd H4 L (.lst (ts.map V.ref ++ [.ref d]))) b (2 + 20 * i + 20) := hb4.mutL hLb
      generalize upd H4 L (.lst (ts.map V.ref ++ [.ref d])) = G5 at hts4 hd4 hw4 hL5 kk5 hb5
      have dkk : Dk r := dOk_dk dk sl (by omega)
      have hdk' : ∀ q ∈ rs ++ [r], Dk q := fun q hq => (List.mem_append.mp hq).elim (hdk q) fun h => by
        rw [List.mem_singleton.mp h]
        exact dkk
      have idx : Ev (tOp (rIxL K) (tVar 3) (tUn (rU fun i => .int (-i)) (tC (.int 1)))) [some (.ref b), some (.int (many : Int)), some (.ref wa), some (.ref L), some (.int (0 + (i : Int))), y5] G5 (.ref d) := ev_op (ev_var rfl) (ev_neg ev_c) (rv_ixL (sq_of hL5) (by rw [List.map_append]; exact atI_last))
      refine ⟨.ref wa, rfl, idx G5 (Ex.refl _) _ fun H6 e6 => ⟨wa, d, l, r, 3 + 6 * i, rfl, e6 _ _ hw4, e6 _ _ hd4, dk, wl, by omega, by omega, sl, fun H7 e7 => ?_, fun l' wl' ll' sl' p H7 hp e7 h7 => ?_⟩⟩
      · have e67 := e6.trans e7
        refine s_asg (v := .ref wa) (ev_ifF (et_is (et_test (ev_notN (x := .non) (ev_var rfl))) rfl) (ev_var rfl)) fun H8 e8 => ?_
        have e68 := e67.trans e8
        exact ⟨wa, l, ts ++ [d], rs ++ [r], _, _, rfl, by omega, e68 _ _ hw4, wl, by omega, sl.mono (by omega), e68 _ _ hL5, (hts4.snoc hd4).ex e68, by rw [List.length_append, hrl]; rfl, hdk', kk5.trans (.of e68), hb5.mono e68 (by omega)⟩
      · have e67 := e6.trans e7
        refine s_asg (v := .ref p) (ev_ifT (et_is (et_test (ev_notN (x := .ref p) (ev_var rfl))) rfl) (ev_var rfl)) fun H8 e8 => ?_
        have e68 := e67.trans e8
        exact ⟨p, l', ts ++ [d], rs ++ [r], _, _, rfl, by omega, e8 _ _ h7, wl', by omega, sl'.mono (by omega), e68 _ _ hL5, (hts4.snoc hd4).ex e68, by rw [List.length_append, hrl]; rfl, hdk', kk5.trans (.of e68), hb5.mono e68 (by omega)⟩
  · obtain ⟨wa, l, ts, rs, y4, y5, rfl, hiu, hw, wl, ll, sl, hLl, hts, hrl, hdk, kk, hbb⟩ := h
    refine q_when (et_is (b := false) (et_not (et_B (ev_deskV (ev_var rfl) hLl hts hdk (fun z => by rw [z] at hrl; simp at hrl; omega) (by omega)))) rfl) (fun z => nomatch z) fun _ H4 e4 => ?_
    refine ⟨.ref b, rfl, .int (many : Int), rfl, b, many, 6, 2 + 20 * (1 + u), rfl, hm2, hm8, by decide, by decide, hbb.mono e4 (Nat.le_refl _), by omega, fun x H5 wx hx k5 hb5 => ⟨.ref b, rfl, .int (many : Int), rfl, b, many, 6, _, rfl, hm2, hm8, by decide, by decide, hb5, by omega, fun y H6 wy hy k6 hb6 => ⟨x, y, rfl, wx, wy, by omega, by omega, fun H7 e7 => ?_⟩⟩⟩
    exact q H7 (((kk.trans (.of e4)).trans k5).trans (k6.trans (.of e7))) ⟨_, hb6.mono e7 (Nat.le_refl _)⟩
theorem FnP.okF {x : Str} {i k : Nat} {N ps : List Str} {sp : Sp} {f : Addr} {fd : FuncData} (F : FnP K x (top i) f fd) (sc : FnScope N ps (defScope (top i)))
    (len : ∀ vs H Q E, sp vs H Q E → vs.length = ps.length)
    (body : ∀ (cdv : Value) (A : Around) (outer : List Env) (s : Shared) (H : Hp) (vs : List V) (Q : VK) (E : XK), Room k (A.deeper (envOfC x (defScope (top i)) s.heap.objs.size f cdv)) → sp vs H Q E →
      ∃ t, PSs (cxOf CX0 P w K mg base N x (defScope (top i)) f cdv A outer s H E).nox (defBody (top i)) t ∧ t { nx := fun _ H' => Q .non H', rt := Q } (start N vs) H) : FnOk P w K mg base CX0 (k + 1) f fd ps sp := by
  refine FunD.ok F sc len fun cdv A outer s H vs Q E hr h => ?_
  obtain ⟨t, h1, h2⟩ := body cdv A outer s H vs Q E hr h
  exact ⟨t, h1.nox, h2⟩
theorem sc_law : FnScope ["_law_script", "_law_cells_here", "_law_k"] ["_law_script"] (defScope (top 98)) := ⟨rfl, rfl, rfl, by decide +kernel, rfl, by decide +kernel, by decide +kernel⟩
theorem okF_law {f : Addr} {fd : FuncData} (B : Bu mg) (T : Cst K mg) (O__law_by_hand_right : Ok P w K mg base CX0 12 "_law_by_hand_right" sp__law_by_hand_right) (O__law_cells : Ok P w K mg base CX0 1 "_law_cells" (sp__law_cells K)) (O__law_box : Ok P w K mg base CX0 1 "_law_box" sp__law_box) (O__law_right : Ok P w K mg base CX0 12 "_law_right" sp__law_right) (D : FnP K "law" (top 98) f fd) : FnOk P w K mg base CX0 13 f fd ["_law_script"] (sp_law K) := by
  refine FnP.okF D sc_law (by rintro vs H Q E ⟨l, zs, rfl, _⟩; rfl) fun cdv A outer s H vs Q E hr h => ⟨_, (pss_cons (ps_if (pt_not (pt_val (pe_ok0 O__law_by_hand_right hr rfl pass0)))
      (pss_one (ps_ret pe_bl))
      pss_nil)
    (pss_cons (ps_set (i := 1) sc_law.nd rfl (.inr rfl) (pe_ok O__law_cells hr rfl pass0 (pa_cons (pv 0) (pa_cons pe_int pa_nil))))
    (pss_one (ps_ret (pe_callB (cr_all rfl) (by rfl) B.all (by decide +kernel) (pa_cons (pe_lc (own := [("_law_k", 2)]) (g := (gName 2)) (tt := tYes) (te := (tCall sp__law_right [] E0 (tCons (tCall sp__law_box [] E0 (tCons (tVar 1) (tCons (tVar 2) tNil))) tNil))) rfl sc_law.nd (pi_range1 rfl B.range (pa_cons (pe_callB call_len_seq (by rfl) B.len PySem.boot_len (pa_cons (pv 1) pa_nil)) pa_nil)) (blkOk_by (N := ["_law_script", "_law_cells_here", "_law_k"]) (sc := defScope (top 98)) (by decide +kernel)) (fun _ _ _ _ _ => (pg_name (i := 2) sc_law.nd rfl (.inl rfl))) (fun _ _ _ _ _ => pts_nil) (fun _ _ _ _ _ => (pe_ok O__law_right hr rfl pass0 (pa_cons (pe_ok O__law_box hr rfl pass0 (pa_cons (pv 1) (pa_cons (pv 2) pa_nil))) pa_nil)))) pa_nil)))))), ?_⟩
  obtain ⟨l, zs, rfl, hl, hz, q⟩ := h
  refine q_when (et_is (b := false) (et_not (et_B (ev_ok (v := .bl true) ea_nil fun H1 Q _ q => ⟨rfl, q⟩))) rfl) (fun z => nomatch z) fun _ H1 e1 => ?_
  refine ⟨.ref l, rfl, l, zs, rfl, ex_l e1 hl, hz, fun ys p H2 hy hp e2 h2 => ?_⟩
  have hlen : (ys.map V.int).length = ys.length := List.length_map _
  have hc : ∀ i H3, Ex H2 H3 → i < ys.length → Ev (tCall sp__law_right [] E0 (tCons (tCall sp__law_box [] E0 (tCons (tVar 1) (tCons (tVar 2) tNil))) tNil)) [some (.ref l), some (.ref p), some (.int ((i : Nat) : Int))] H3 (.bl true) := fun i H3 e3 hi H4 e4 Q q =>
    ⟨.ref p, rfl, .int (i : Int), rfl, p, ys, i, rfl, e4 _ _ (e3 _ _ h2), hi, by omega, fun b H5 hb e5 hbx => ⟨b, rfl, hbx, fun H6 k6 _ => q H6 (ex_ko e5 k6 hb)⟩⟩
  have hlc := el_lc1 (j := 2) (vs := [2]) (t := tYes) (te := tCall sp__law_right [] E0 (tCons (tCall sp__law_box [] E0 (tCons (tVar 1) (tCons (tVar 2) tNil))) tNil)) (σ := [some (.ref l), some (.ref p), none]) (H := H2) (fun _ => true) (fun _ => .bl true) (ei_rng1 (m := (ys.length : Int)) (ea_cons (ev_is (ev_len (K := K) (ev_var (i := 1) rfl) (sq_of h2)) (by rw [hlen])) ea_nil) ⟨by omega, by omega⟩) (by omega) (fun x => rfl) fun i x H3 e3 hi hx => ⟨et_yes, fun _ => by
    have hx : x = .int (i : Int) := hx
    subst hx
    exact hc i H3 e3 (by omega)⟩
  rw [given_all] at hlc
  exact s_ret (ev_is (ev_allF (K := K) (f := fun _ => true) hlc) (by simp)) fun H3 e3 => q H3 ((e1.trans e2).trans e3)
end
end Mir
/-! part Z1 -/
set_option Elab.async false
set_option linter.all false
set_option maxRecDepth 100000
set_option maxHeartbeats 4000000
/-! All promises, from what stands of the written part. -/
namespace Mir
open PySem PySem.Spec PyProof.Rows L2 Evl
def tops : List (Str × Nat) := [(("back" : Str), 17), (("shared" : Str), 18), (("joined" : Str), 19), (("path" : Str), 20), (("begins" : Str), 22), (("palindrome" : Str), 24), (("turned" : Str), 25), (("is_word" : Str), 14), (("is_row" : Str), 15), (("is_way" : Str), 16), (("rooms_of" : Str), 23), (("seen_in" : Str), 27), (("doors_on" : Str), 21), (("is_rising" : Str), 10), (("set_of" : Str), 9), (("maker_ahead" : Str), 30), (("folded_at" : Str), 31), (("makers" : Str), 32), (("is_of" : Str), 34), (("chain_to" : Str), 35), (("within" : Str), 36), (("doors_from" : Str), 39), (("letters_from" : Str), 40), (("mirror_between" : Str), 41), (("ways_text" : Str), 56), (("sure_of" : Str), 55), (("ways_read" : Str), 57), (("yes_or_no" : Str), 69), (("row_in" : Str), 66), (("read_by" : Str), 67), (("values_in" : Str), 68), (("deed_of" : Str), 72), (("told_of" : Str), 71), (("answers" : Str), 73), (("_law_box" : Str), 75), (("_law_take" : Str), 76), (("_law_of" : Str), 78), (("_law_cells" : Str), 77), (("_law_reduced" : Str), 80), (("_law_pal" : Str), 81), (("_law_seen" : Str), 82), (("_law_first" : Str), 83), (("_law_pure" : Str), 84), (("_law_row" : Str), 85), (("_law_way" : Str), 86), (("_law_next" : Str), 87), (("_law_line" : Str), 92), (("_law_asked" : Str), 90), (("_law_did" : Str), 88), (("_law_told" : Str), 91), (("_law_refused" : Str), 93), (("_law_deed" : Str), 89), (("_law_looks_right" : Str), 95), (("_law_desk_right" : Str), 94), (("_law_by_hand_right" : Str), 96), (("_law_right" : Str), 97), (("law" : Str), 98), (("_law_same" : Str), 79)]
def mths : List (Str × Str × Nat) := [(("become" : Str), ("Gallery.become" : Str), 9), (("hang" : Str), ("Gallery.hang" : Str), 10), (("take" : Str), ("Gallery.take" : Str), 11), (("look" : Str), ("Gallery.look" : Str), 12), (("tidy" : Str), ("Gallery.tidy" : Str), 13), (("chain" : Str), ("Gallery.chain" : Str), 16), (("__contains__" : Str), ("Gallery.__contains__" : Str), 6), (("undo" : Str), ("Gallery.undo" : Str), 14)]
def props : List (Str × Str × Nat) := [(("ways" : Str), ("Gallery.ways" : Str), 2), (("makers" : Str), ("Gallery.makers" : Str), 3), (("deeds" : Str), ("Gallery.deeds" : Str), 4)]
structure Facts (P : Program) (K : PySem.W.Frag) (mg : Str → Option Value) (C CK CN CD CB : Addr) : Prop where
  B : Bu mg
  T : Cst K mg
  T2 : Cst2 K mg
  GF : Gal K mg C
  XM : Exm K CK CN CD
  gKnown : mg "Known" = some (.ref CK)
  gNoWay : mg "NoWay" = some (.ref CN)
  gNothingDone : mg "NothingDone" = some (.ref CD)
  gBadText : mg "BadText" = some (.ref CB)
  TK : ErX.ClsX P K mg "Known" "ValueError" "ValueError.__new__" "ValueError.__init__" CK
  evK : EvK K CK
  TN : ErX.ClsX P K mg "NoWay" "LookupError" "LookupError.__new__" "LookupError.__init__" CN
  evN : EvK K CN
  ND : NDx K mg CD
  DI : Dinit K C
  same : mg "makers_makers" = mg "makers"
  dn : ∀ (n : Nat) (x : Str) (i : Nat), tops[n]? = some (x, i) → Dn K mg x i
  dm : ∀ (n : Nat) (x q : Str) (i : Nat), mths[n]? = some (x, q, i) → Dm K C x q i
  dp : ∀ (n : Nat) (x q : Str) (i : Nat), props[n]? = some (x, q, i) → Dp' K C x q i
theorem all_law {P : Program} {w : World} {K : PySem.W.Frag} {mg : Str → Option Value} {base : Heap} {C CK CN CD CB : Addr} {f : Addr} {fd : FuncData} (F : Facts P K mg C CK CN CD CB) (D : FnP K "law" (top 98) f fd) : FnOk P w K mg base CX0 13 f fd ["_law_script"] (sp_law K) := by
  have O_back := ok_back (P := P) (w := w) (base := base) F.B F.T (F.dn 0 _ _ rfl)
  have O_shared := ok_shared (P := P) (w := w) (base := base) F.B F.T (F.dn 1 _ _ rfl)
  have O_joined := ok_joined (P := P) (w := w) (base := base) F.B F.T O_back O_shared (F.dn 2 _ _ rfl)
  have O_path := ok_path (P := P) (w := w) (base := base) F.B F.T O_back O_shared (F.dn 3 _ _ rfl)
  have O_begins := ok_begins (P := P) (w := w) (base := base) F.B F.T (F.dn 4 _ _ rfl)
  have O_palindrome := ok_palindrome (P := P) (w := w) (base := base) F.B F.T O_back (F.dn 5 _ _ rfl)
  have O_turned := ok_turned (P := P) (w := w) (base := base) F.B F.T O_joined O_palindrome (F.dn 6 _ _ rfl)
  have O_is_word := ok_is_word (P := P) (w := w) (base := base) F.B F.T (F.dn 7 _ _ rfl)
  have O_is_row := ok_is_row (P := P) (w := w) (base := base) F.B F.T O_is_word (F.dn 8 _ _ rfl)
  have O_is_way := ok_is_way (P := P) (w := w) (base := base) F.B F.T O_is_row (F.dn 9 _ _ rfl)
  have O_rooms_of := ok_rooms_of (P := P) (w := w) (base := base) F.B F.T (F.dn 10 _ _ rfl)
  have O_seen_in := ok_seen_in (P := P) (w := w) (base := base) F.B F.T O_rooms_of O_turned (F.dn 11 _ _ rfl)
  have O_doors_on := ok_doors_on (P := P) (w := w) (base := base) F.B F.T O_shared (F.dn 12 _ _ rfl)
  have O_is_rising := ok_is_rising (P := P) (w := w) (base := base) F.B F.T (F.dn 13 _ _ rfl)
  have O_set_of := ok_set_of (P := P) (w := w) (base := base) F.B F.T (F.dn 14 _ _ rfl)
  have O_maker_ahead := ok_maker_ahead (P := P) (w := w) (base := base) F.B F.T O_begins (F.dn 15 _ _ rfl)
  have O_folded_at := ok_folded_at (P := P) (w := w) (base := base) F.B F.T O_maker_ahead O_seen_in (F.dn 16 _ _ rfl)
  have O_makers := ok_makers (P := P) (w := w) (base := base) F.B F.T O_begins O_set_of O_folded_at (F.dn 17 _ _ rfl)
  have O_makers_makers := ok_makers_makers O_makers F.same
  have O_is_of := ok_is_of (P := P) (w := w) (base := base) F.B F.T O_makers_makers O_folded_at (F.dn 18 _ _ rfl)
  have O_chain_to := ok_chain_to (P := P) (w := w) (base := base) F.B F.T O_makers_makers O_folded_at (F.dn 19 _ _ rfl)
  have O_within := ok_within (P := P) (w := w) (base := base) F.B F.T O_makers_makers O_folded_at (F.dn 20 _ _ rfl)
  have O_doors_from := ok_doors_from (P := P) (w := w) (base := base) F.B F.T O_rooms_of O_doors_on (F.dn 21 _ _ rfl)
  have O_letters_from := ok_letters_from (P := P) (w := w) (base := base) F.B F.T O_doors_from (F.dn 22 _ _ rfl)
  have O_mirror_between := ok_mirror_between (P := P) (w := w) (base := base) F.B F.T O_doors_from O_letters_from (F.dn 23 _ _ rfl)
  have O_ways_text := ok_ways_text (P := P) (w := w) (base := base) F.B F.T (F.dn 24 _ _ rfl)
  have O_sure_of := ok_sure_of (P := P) (w := w) (base := base) F.B F.T (F.dn 25 _ _ rfl)
  have O_ways_read := ok_ways_read (P := P) (w := w) (base := base) F.B F.T O_is_way O_is_rising O_sure_of (F.dn 26 _ _ rfl)
  have O_m_become := ok_m_become (P := P) (w := w) (base := base) F.B F.T F.GF O_set_of (F.dm 0 _ _ _ rfl)
  have O_m_hang := ok_m_hang (P := P) (w := w) (base := base) F.B F.T F.GF F.TK F.evK O_m_become (F.dm 1 _ _ _ rfl)
  have O_m_take := ok_m_take (P := P) (w := w) (base := base) F.B F.T F.GF F.TN F.evN O_m_become (F.dm 2 _ _ _ rfl)
  have O_m_look := ok_m_look (P := P) (w := w) (base := base) F.B F.T F.GF O_seen_in O_m_become (F.dm 3 _ _ _ rfl)
  have O_m_tidy := ok_m_tidy (P := P) (w := w) (base := base) F.B F.T F.GF O_makers_makers O_m_become (F.dm 4 _ _ _ rfl)
  have O_m_chain := ok_m_chain (P := P) (w := w) (base := base) F.B F.T F.GF O_chain_to (F.dm 5 _ _ _ rfl)
  have O_m_contains := ok_m_contains (P := P) (w := w) (base := base) F.B F.T F.GF O_is_of (F.dm 6 _ _ _ rfl)
  have O_p_ways := ok_p_ways (P := P) (w := w) (base := base) F.B F.T F.GF (F.dp 0 _ _ _ rfl)
  have O_p_makers := ok_p_makers (P := P) (w := w) (base := base) F.B F.T F.GF O_makers_makers (F.dp 1 _ _ _ rfl)
  have O_p_deeds := ok_p_deeds (P := P) (w := w) (base := base) F.B F.T F.GF (F.dp 2 _ _ _ rfl)
  have O_m_undo := ok_m_undo (P := P) (w := w) (base := base) F.B F.T F.GF F.ND (F.dm 7 _ _ _ rfl)
  have N_Gallery := ok_init (P := P) (w := w) (base := base) F.B F.GF O_set_of F.DI
  have O_yes_or_no := ok_yes_or_no (P := P) (w := w) (base := base) F.B F.T (F.dn 27 _ _ rfl)
  have O_row_in := ok_row_in (P := P) (w := w) (base := base) F.B F.T O_is_way (F.dn 28 _ _ rfl)
  have O_read_by := ok_read_by (P := P) (w := w) (base := base) F.B F.T F.gBadText O_ways_read (F.dn 29 _ _ rfl)
  have O_values_in := ok_values_in (P := P) (w := w) (base := base) F.B F.T F.T2 O_is_way O_row_in O_read_by (F.dn 30 _ _ rfl)
  have O_deed_of := ok_deed_of (P := P) (w := w) (base := base) F.B F.T F.GF F.XM F.gKnown F.gNoWay F.gNothingDone O_m_hang O_m_take O_m_look O_m_tidy O_m_undo (F.dn 31 _ _ rfl)
  have O_told_of := ok_told_of (P := P) (w := w) (base := base) F.B F.T F.GF O_ways_text O_yes_or_no O_seen_in O_mirror_between O_path O_within O_m_chain O_m_contains O_p_ways O_p_makers (F.dn 32 _ _ rfl)
  have O_answers := ok_answers (P := P) (w := w) (base := base) F.B F.T F.GF N_Gallery O_values_in O_deed_of O_told_of (F.dn 33 _ _ rfl)
  have O__law_box := ok__law_box (P := P) (w := w) (base := base) F.B F.T (F.dn 34 _ _ rfl)
  have O__law_take := ok__law_take (P := P) (w := w) (base := base) F.B F.T (F.dn 35 _ _ rfl)
  have O__law_of := ok__law_of (P := P) (w := w) (base := base) F.B F.T O__law_take (F.dn 36 _ _ rfl)
  have O__law_cells := ok__law_cells (P := P) (w := w) (base := base) F.B F.T (F.dn 37 _ _ rfl)
  have O__law_reduced := ok__law_reduced (P := P) (w := w) (base := base) F.B F.T (F.dn 38 _ _ rfl)
  have O__law_pal := ok__law_pal (P := P) (w := w) (base := base) F.B F.T (F.dn 39 _ _ rfl)
  have O__law_seen := ok__law_seen (P := P) (w := w) (base := base) F.B F.T O__law_reduced O__law_pal (F.dn 40 _ _ rfl)
  have O__law_first := ok__law_first (P := P) (w := w) (base := base) F.B F.T (F.dn 41 _ _ rfl)
  have O__law_pure := ok__law_pure (P := P) (w := w) (base := base) F.B F.T O__law_first O__law_seen (F.dn 42 _ _ rfl)
  have O__law_row := ok__law_row (P := P) (w := w) (base := base) F.B F.T O__law_take O__law_of (F.dn 43 _ _ rfl)
  have O__law_way := ok__law_way (P := P) (w := w) (base := base) F.B F.T O__law_row O__law_of (F.dn 44 _ _ rfl)
  have O__law_next := ok__law_next (P := P) (w := w) (base := base) F.B F.T O__law_seen O__law_pure (F.dn 45 _ _ rfl)
  have O__law_line := ok__law_line (P := P) (w := w) (base := base) F.B F.T (F.dn 46 _ _ rfl)
  have O__law_asked := ok__law_asked (P := P) (w := w) (base := base) F.B F.T (F.dn 47 _ _ rfl)
  have O__law_did := ok__law_did (P := P) (w := w) (base := base) F.B F.T F.GF F.XM F.gKnown F.gNoWay F.gNothingDone O_m_hang O_m_take O_m_look O_m_tidy O_m_undo (F.dn 48 _ _ rfl)
  have O__law_told := ok__law_told (P := P) (w := w) (base := base) F.B F.T F.GF O_ways_text O_within O_m_chain O_m_contains O_p_ways O_p_makers (F.dn 49 _ _ rfl)
  have O__law_refused := ok__law_refused (P := P) (w := w) (base := base) F.B F.T F.GF O__law_did O_p_ways O_p_deeds (F.dn 50 _ _ rfl)
  have O__law_deed := ok__law_deed (P := P) (w := w) (base := base) F.B F.T O__law_take O__law_of O__law_way (F.dn 51 _ _ rfl)
  have O__law_looks_right := ok__law_looks_right (P := P) (w := w) (base := base) F.B F.T O_mirror_between O_seen_in O_path O_answers (ok_same F.B F.T (F.dn 57 _ _ rfl) 2) (F.dn 52 _ _ rfl)
  have O__law_desk_right := ok__law_desk_right (P := P) (w := w) (base := base) F.B F.T F.GF N_Gallery O_ways_text O_ways_read O_p_ways O_p_makers O_answers (ok_same F.B F.T (F.dn 57 _ _ rfl) 2) (ok_same F.B F.T (F.dn 57 _ _ rfl) 3) O__law_asked O__law_told O__law_line O__law_refused (F.dn 53 _ _ rfl)
  have O__law_by_hand_right := ok__law_by_hand_right (P := P) (w := w) (base := base) F.B F.T O_answers (ok_same F.B F.T (F.dn 57 _ _ rfl) 2) O__law_desk_right O__law_looks_right (F.dn 54 _ _ rfl)
  have O__law_right := ok__law_right (P := P) (w := w) (base := base) F.B F.T O__law_take O__law_deed O__law_next O__law_way O__law_desk_right O__law_looks_right (F.dn 55 _ _ rfl)
  exact okF_law F.B F.T O__law_by_hand_right O__law_cells O__law_box O__law_right D
end Mir
/-! part Z2 -/
set_option Elab.async false
set_option linter.all false
set_option maxRecDepth 100000
set_option maxHeartbeats 0
/-! The head: what stands of the written part, read by a Hook. -/
namespace Mir
open PySem PySem.Spec PyProof.Rows L2 Evl He
abbrev R : PySem.W.OpenRow := PySem.W.OpenLaw.row PySem.Challenge.rw_mirrordoors_k71_whole_a_desk_beside_a_ga
abbrev PR : Program := PySem.Challenge.rw_mirrordoors_k71_whole_a_desk_beside_a_ga.prog
/-! functions at an address -/
abbrev FnY : Type := Option (Str × Str × Arguments × FuncBody × Scope × Addr × List Str × Addr)
def fnY (K : PySem.W.Frag) (a : Addr) : FnY := match K.lookup a with
  | some ⟨_, _, .func fd, _⟩ => some (fd.name, fd.qualname, fd.params, fd.body, fd.scope, fd.globals, fd.closure.map (·.1), fd.builtins)
  | _ => none
def okY (K : PySem.W.Frag) (a : Addr) (q : Str) : Bool := PySem.W.keepIn K (.ref a) && (match K.lookup a with
  | some ⟨_, _, .func fd, _⟩ => PySem.W.codeIn K fd.code q && (dflB K fd.defaults [] && kwdB K fd.kwdefaults [])
  | _ => false)
theorem funY {K : PySem.W.Frag} {a : Addr} {name qual : Str} {params : Arguments} {body : List Stmt} {scope : Scope} (e : fnY K a = some (name, qual, params, .stmts body, scope, mainGlobals, [], builtinsNs)) (c : okY K a qual = true) :
    ∃ fd, FunD K name qual params body scope [] [] a fd := by
  obtain ⟨kp, c2⟩ := ba c
  unfold fnY at e
  cases q : K.lookup a with
  | none =>
    rw [q] at c2
    cases c2
  | some o =>
    obtain ⟨oc, od, dt, osl⟩ := o
    rw [q] at c2 e
    cases dt with
    | func fd =>
      obtain ⟨n1, n2, n3, n4, n5, n6, n7, n8, n9, n10, n11, n12, n13, n14, n15⟩ := fd
      have e2 : (some (n1, n2, n3, n4, n5, n6, n7.map (·.1), n15) : FnY) = some (name, qual, params, .stmts body, scope, mainGlobals, [], builtinsNs) := e
      simp only [Option.some.injEq, Prod.mk.injEq, List.map_eq_nil_iff] at e2
      obtain ⟨h1, h2, h3, h4, h5, h6, h7, h8⟩ := e2
      subst h1 h2 h3 h4 h5 h6 h7 h8
      have c3 : (PySem.W.codeIn K n13 n2 && (dflB K n8 [] && kwdB K n9 [])) = true := c2
      obtain ⟨k1, k2⟩ := ba c3
      obtain ⟨k3, k4⟩ := ba k2
      exact ⟨_, ⟨oc, od, n8, n9, n10, n11, n12, n13, n14, osl, rfl, q, k1, dflB_ok k3, kwdB_ok k4⟩, kp⟩
    | _ => cases c2
/-! the error classes' __init__ -/
def initB (K : PySem.W.Frag) (fI C : Addr) (qual file : Str) : Bool := match K.lookup fI with
  | some ⟨_, _, .func fd, _⟩ => (match fd.defaults, fd.closure, fd.code with
    | .none, [(_, cc)], .ref cda => (match K.lookup cc with
      | some ⟨_, _, .cell (some (.ref C')), _⟩ => decide (C' = C)
      | _ => false) && (PySem.W.codeIn K (.ref cda) qual && (match K.lookup cda with
      | some ⟨_, _, .fields vs, _⟩ => (match vs[2]? with
        | some (Value.str f _) => file == f
        | _ => false)
      | _ => false))
    | _, _, _ => false)
  | _ => false
theorem init_ok {K : PySem.W.Frag} {fI C : Addr} {qual file : Str} {params : Arguments} {body : List Stmt} {scope : Scope} (e : fnY K fI = (some ((("__init__" : Str)), qual, params, FuncBody.stmts body, scope, mainGlobals, [(("__class__" : Str))], builtinsNs) : FnY)) (c : initB K fI C qual file = true) :
    ∃ (cda cc : Addr) (oc : Value) (od : Option Addr) (osl : Array (Option Value)) (kV doc pm : Value) (an : Option Addr) (ct : Value) (ccl : Value) (cdd : Option Addr) (vs : Array Value) (ccs : Array (Option Value)) (fl : Str) (tf : Tok) (cl : Value) (cld : Option Addr) (csl : Array (Option Value)),
      K.lookup fI = some ⟨oc, od, .func (PySem.W.ksFn "__init__" qual params body scope .none kV doc pm an (.ref cda) ct cc), osl⟩ ∧ PySem.W.codeIn K (.ref cda) qual = true ∧
      K.lookup cda = some ⟨ccl, cdd, .fields vs, ccs⟩ ∧ vs[2]? = some (.str fl tf) ∧ (file == fl) = true ∧ K.lookup cc = some ⟨cl, cld, .cell (some (.ref C)), csl⟩ := by
  unfold fnY at e
  unfold initB at c
  cases q : K.lookup fI with
  | none =>
    rw [q] at c
    cases c
  | some o =>
    obtain ⟨oc, od, dt, osl⟩ := o
    rw [q] at c e
    cases dt with
    | func fd =>
      obtain ⟨n1, n2, n3, n4, n5, n6, n7, n8, n9, n10, n11, n12, n13, n14, n15⟩ := fd
      have e2 : (some (n1, n2, n3, n4, n5, n6, n7.map (·.1), n15) : FnY) = (some ((("__init__" : Str)), qual, params, FuncBody.stmts body, scope, mainGlobals, [(("__class__" : Str))], builtinsNs) : FnY) := e
      simp only [Option.some.injEq, Prod.mk.injEq] at e2
      obtain ⟨h1, h2, h3, h4, h5, h6, h7, h8⟩ := e2
      subst h1 h2 h3 h4 h5 h6 h8
      cases n8 with
      | none =>
        match n7, h7 with
        | [(nm, cc)], h7 =>
          obtain rfl : nm = "__class__" := by simpa using h7
          cases n13 with
          | ref cda =>
            have c3 : ((match K.lookup cc with
              | some ⟨_, _, .cell (some (.ref C')), _⟩ => decide (C' = C)
              | _ => false) && (PySem.W.codeIn K (.ref cda) n2 && (match K.lookup cda with
              | some ⟨_, _, .fields vs, _⟩ => (match vs[2]? with
                | some (Value.str f _) => file == f
                | _ => false)
              | _ => false))) = true := c
            obtain ⟨k1, k2⟩ := ba c3
            obtain ⟨k3, k4⟩ := ba k2
            cases q1 : K.lookup cc with
            | none =>
              rw [q1] at k1
              cases k1
            | some o1 =>
              obtain ⟨cl, cld, dt1, csl⟩ := o1
              rw [q1] at k1
              cases dt1 with
              | cell v =>
                cases v with
                | none => cases k1
                | some v =>
                  cases v with
                  | ref C' =>
                    obtain rfl : C' = C := of_decide_eq_true k1
                    cases q2 : K.lookup cda with
                    | none =>
                      rw [q2] at k4
                      cases k4
                    | some o2 =>
                      obtain ⟨ccl, cdd, dt2, ccs⟩ := o2
                      rw [q2] at k4
                      cases dt2 with
                      | fields vs =>
                        have k5 : (match vs[2]? with
                          | some (Value.str f _) => file == f
                          | _ => false) = true := k4
                        cases q3 : vs[2]? with
                        | none =>
                          rw [q3] at k5
                          cases k5
                        | some u =>
                          rw [q3] at k5
                          cases u with
                          | str fl tf => exact ⟨cda, cc, oc, od, osl, n9, n10, n11, n12, n14, ccl, cdd, vs, ccs, fl, tf, cl, cld, csl, rfl, k3, q2, q3, k5, q1⟩
                          | _ => cases k5
                      | _ => cases k4
                  | _ => cases k1
              | _ => cases k1
          | _ => cases c
      | _ => cases c
    | _ => cases c
/-! own facts -/
def propA (K : PySem.W.Frag) (nm : Str) : Addr := match PySem.W.recIn K (ma K (ga K "Gallery") nm) "property" with
  | some (.ref g :: _) => g
  | _ => 0
def recB (K : PySem.W.Frag) (nm : Str) : Bool := match PySem.W.recIn K (ma K (ga K "Gallery") nm) "property" with
  | some (.ref _ :: _) => true
  | _ => false
def propB (K : PySem.W.Frag) (nm qual : Str) : Bool := eqO (PySem.W.findIn K (.ref (ga K "Gallery")) nm) (some (some (.ref (ma K (ga K "Gallery") nm)))) && (eqO (PySem.W.specialIn K (.ref (ma K (ga K "Gallery") nm)) "__get__") (some (some (.builtin "property.__get__"))) &&
  (decide (PySem.W.takesIn K (.ref (ma K (ga K "Gallery") nm)) = some true) && (recB K nm && okY K (propA K nm) qual)))
def slotB (K : PySem.W.Frag) (f : Str) (i : Nat) : Bool := eqO (PySem.W.findIn K (.ref (ga K "Gallery")) f) (some (some (.ref (ma K (ga K "Gallery") f)))) && (eqO (PySem.W.specialIn K (.ref (ma K (ga K "Gallery") f)) "__get__") (some (some (.builtin "member_descriptor.__get__"))) &&
  (decide (PySem.W.takesIn K (.ref (ma K (ga K "Gallery") f)) = some true) && (decide (PySem.W.typeIn K (.ref (ma K (ga K "Gallery") f)) = some (.type "member_descriptor")) && decide (PySem.W.slotIn K (ma K (ga K "Gallery") f) (ga K "Gallery") = some i))))
def sclsB (K : PySem.W.Frag) (C : Addr) : Bool := PySem.W.plainGet K C Str.empty && (PySem.W.isClsIn K C && (PySem.W.plainOver K C && eqO (PySem.W.findIn K (.ref C) "__setattr__") (some (some (.builtin "object.__setattr__")))))
def hdB (K : PySem.W.Frag) (C : Addr) : Bool := match PySem.W.clsIn K C with
  | some cd => cd.hasDict
  | none => false
def clsB (K : PySem.W.Frag) (C : Addr) (B newId initId : String) (qual file : Str) : Bool := PySem.W.excInitIn K C (ErX.mroX B) newId && (hdB K C && (PySem.W.excOver K C (ErX.mroX B) && (eqO (PySem.W.findIn K (.ref C) "__setattr__") (some (some (.builtin "object.__setattr__"))) &&
  (eqO (PySem.W.findIn K (.ref C) "way") (some none) && (PySem.W.keepIn K (.ref C) && (decide (PySem.W.subIn K (.ref C) (.type "BaseException") = some true) && (decide (PySem.W.typeIn K (.ref C) = some (.type "type")) && (eqO (PySem.W.nsIn K cStatics "thirdparty.any") (some none) &&
  (eqO (PySem.W.ks_superIn K C C "__init__") (some (some (.builtin initId))) && (decide (PySem.W.subIn K (.ref C) (.type B) = some true) && (decide (PySem.W.mroIn K C (.ref C) = some true) && (eqO (PySem.W.findIn K (.ref C) "__init__") (some (some (.ref (ma K C "__init__")))) &&
  (decide (PySem.W.typeIn K (.ref (ma K C "__init__")) = some (.type "function")) && initB K (ma K C "__init__") C qual file)))))))))))))
def ndB (K : PySem.W.Frag) (C : Addr) : Bool := PySem.W.excIn K C [.type "LookupError", .type "Exception", .type "BaseException", .type "object"] "LookupError.__new__" && (PySem.W.keepIn K (.ref C) && (decide (PySem.W.subIn K (.ref C) (.type "BaseException") = some true) && decide (PySem.W.typeIn K (.ref C) = some (.type "type"))))
def t0A (K : PySem.W.Frag) : Addr := dflAt ("Gallery", some "__init__") 0 K
def t0B (K : PySem.W.Frag) : Bool := match K.lookup (t0A K) with
  | some ⟨.type c, _, .seq its _, _⟩ => decide (c = "tuple") && decide (its.size = 0)
  | _ => false
def fileW : Str := PR.main.file
def exB (K : PySem.W.Frag) : Bool := sclsB K (ga K "Gallery") && (slotB K "own_past" 0 && (slotB K "own_ways" 1 && (propB K "ways" "Gallery.ways" && (propB K "makers" "Gallery.makers" && (propB K "deeds" "Gallery.deeds" && (clsB K (ga K "Known") "ValueError" "ValueError.__new__" "ValueError.__init__" "Known.__init__" fileW &&
  (clsB K (ga K "NoWay") "LookupError" "LookupError.__new__" "LookupError.__init__" "NoWay.__init__" fileW && (ndB K (ga K "NothingDone") && (t0B K && (tupB K "BARE" (bareW.map fun w => Dv.str (ST w)) && (tupB K "SINGLE" (singleW.map fun w => Dv.str (ST w)) && (tupB K "DOUBLE_desk" (doubleW.map fun w => Dv.str (ST w)) &&
  decide (PySem.W.nsIn K mainGlobals "makers_makers" = PySem.W.nsIn K mainGlobals "makers")))))))))))))
def fnsY (K : PySem.W.Frag) : List FnY := [fnY K (propA K "ways"), fnY K (propA K "makers"), fnY K (propA K "deeds"), fnY K (ma K (ga K "Known") "__init__"), fnY K (ma K (ga K "NoWay") "__init__")]
abbrev iKnown : Stmt := inClass (top 4) 0
abbrev iNoWay : Stmt := inClass (top 2) 0
def valY : List FnY := [some ("ways", "Gallery.ways", defArgs (mth 2), .stmts (defBody (mth 2)), defScope (mth 2), mainGlobals, [], builtinsNs), some ("makers", "Gallery.makers", defArgs (mth 3), .stmts (defBody (mth 3)), defScope (mth 3), mainGlobals, [], builtinsNs), some ("deeds", "Gallery.deeds", defArgs (mth 4), .stmts (defBody (mth 4)), defScope (mth 4), mainGlobals, [], builtinsNs),
  some ("__init__", "Known.__init__", defArgs iKnown, .stmts (defBody iKnown), defScope iKnown, mainGlobals, ["__class__"], builtinsNs), some ("__init__", "NoWay.__init__", defArgs iNoWay, .stmts (defBody iNoWay), defScope iNoWay, mainGlobals, ["__class__"], builtinsNs)]
/-! the facts that HandS reads -/
def fa : List He.Fa := [.glo "back", .glo "shared", .glo "joined", .glo "path", .glo "begins", .glo "palindrome", .glo "turned", .glo "is_word", .glo "is_row", .glo "is_way", .glo "rooms_of", .glo "seen_in", .glo "doors_on", .glo "is_rising", .glo "set_of", .glo "maker_ahead", .glo "folded_at", .glo "makers", .glo "is_of", .glo "chain_to", .glo "within", .glo "doors_from", .glo "letters_from", .glo "mirror_between", .glo "ways_text", .glo "sure_of", .glo "ways_read", .glo "yes_or_no", .glo "row_in", .glo "read_by", .glo "values_in", .glo "deed_of", .glo "told_of", .glo "answers", .glo "_law_box", .glo "_law_take", .glo "_law_of", .glo "_law_cells", .glo "_law_reduced", .glo "_law_pal", .glo "_law_seen", .glo "_law_first", .glo "_law_pure", .glo "_law_row", .glo "_law_way", .glo "_law_next", .glo "_law_line", .glo "_law_asked", .glo "_law_did", .glo "_law_told", .glo "_law_refused", .glo "_law_deed", .glo "_law_looks_right", .glo "_law_desk_right", .glo "_law_by_hand_right", .glo "_law_right", .glo "law", .glo "_law_same", .glo "Gallery", .glo "Known", .glo "NoWay", .glo "NothingDone", .glo "BadText", .glo "makers_makers", .glo "BARE", .glo "SINGLE", .glo "NUMBERS", .glo "DOUBLE_desk", .free "len", .free "min", .free "max", .free "range", .free "zip", .free "sorted", .free "set", .free "list", .free "tuple", .free "isinstance", .free "all", .free "abs", .free "int", .free "str", .free "bool", .free "enumerate", .free "sum", .free "super", .str "LETTERS" (ST lettersW), .str "BLANK" (ST [32]), .str "BREAK" (ST [44, 32]), .str "NONE" (ST [45]), .str "NOTHING" (ST noneW), .int "DOUBLE_between" 2, .meth "Gallery" "become", .meth "Gallery" "hang", .meth "Gallery" "take", .meth "Gallery" "look", .meth "Gallery" "tidy", .meth "Gallery" "chain", .meth "Gallery" "__contains__", .meth "Gallery" "undo", .mkr "Gallery", .exm "Known" "Known" true, .exm "NoWay" "Known" false, .exm "NoWay" "NoWay" true, .exm "NothingDone" "Known" false, .exm "NothingDone" "NoWay" false, .exm "NothingDone" "NothingDone" true, .exm "Known" "NoWay" false, .exm "Known" "NothingDone" false, .exm "NoWay" "NothingDone" false]
def fn : List He.DefD := [⟨("back", none), "back", "back", defArgs (top 17), defBody (top 17), defScope (top 17), [], []⟩, ⟨("shared", none), "shared", "shared", defArgs (top 18), defBody (top 18), defScope (top 18), [], []⟩, ⟨("joined", none), "joined", "joined", defArgs (top 19), defBody (top 19), defScope (top 19), [], []⟩, ⟨("path", none), "path", "path", defArgs (top 20), defBody (top 20), defScope (top 20), [], []⟩, ⟨("begins", none), "begins", "begins", defArgs (top 22), defBody (top 22), defScope (top 22), [], []⟩, ⟨("palindrome", none), "palindrome", "palindrome", defArgs (top 24), defBody (top 24), defScope (top 24), [], []⟩, ⟨("turned", none), "turned", "turned", defArgs (top 25), defBody (top 25), defScope (top 25), [], []⟩, ⟨("is_word", none), "is_word", "is_word", defArgs (top 14), defBody (top 14), defScope (top 14), [], []⟩, ⟨("is_row", none), "is_row", "is_row", defArgs (top 15), defBody (top 15), defScope (top 15), [], []⟩, ⟨("is_way", none), "is_way", "is_way", defArgs (top 16), defBody (top 16), defScope (top 16), [], []⟩, ⟨("rooms_of", none), "rooms_of", "rooms_of", defArgs (top 23), defBody (top 23), defScope (top 23), [], []⟩, ⟨("seen_in", none), "seen_in", "seen_in", defArgs (top 27), defBody (top 27), defScope (top 27), [], []⟩, ⟨("doors_on", none), "doors_on", "doors_on", defArgs (top 21), defBody (top 21), defScope (top 21), [], []⟩, ⟨("is_rising", none), "is_rising", "is_rising", defArgs (top 10), defBody (top 10), defScope (top 10), [], []⟩, ⟨("set_of", none), "set_of", "set_of", defArgs (top 9), defBody (top 9), defScope (top 9), [], []⟩, ⟨("maker_ahead", none), "maker_ahead", "maker_ahead", defArgs (top 30), defBody (top 30), defScope (top 30), [], []⟩, ⟨("folded_at", none), "folded_at", "folded_at", defArgs (top 31), defBody (top 31), defScope (top 31), [], []⟩, ⟨("makers", none), "makers", "makers", defArgs (top 32), defBody (top 32), defScope (top 32), [], []⟩, ⟨("is_of", none), "is_of", "is_of", defArgs (top 34), defBody (top 34), defScope (top 34), [], []⟩, ⟨("chain_to", none), "chain_to", "chain_to", defArgs (top 35), defBody (top 35), defScope (top 35), [], []⟩, ⟨("within", none), "within", "within", defArgs (top 36), defBody (top 36), defScope (top 36), [], []⟩, ⟨("doors_from", none), "doors_from", "doors_from", defArgs (top 39), defBody (top 39), defScope (top 39), [], []⟩, ⟨("letters_from", none), "letters_from", "letters_from", defArgs (top 40), defBody (top 40), defScope (top 40), [], []⟩, ⟨("mirror_between", none), "mirror_between", "mirror_between", defArgs (top 41), defBody (top 41), defScope (top 41), [], []⟩, ⟨("ways_text", none), "ways_text", "ways_text", defArgs (top 56), defBody (top 56), defScope (top 56), [], []⟩, ⟨("sure_of", none), "sure_of", "sure_of", defArgs (top 55), defBody (top 55), defScope (top 55), [], []⟩, ⟨("ways_read", none), "ways_read", "ways_read", defArgs (top 57), defBody (top 57), defScope (top 57), [], []⟩, ⟨("yes_or_no", none), "yes_or_no", "yes_or_no", defArgs (top 69), defBody (top 69), defScope (top 69), [], []⟩, ⟨("row_in", none), "row_in", "row_in", defArgs (top 66), defBody (top 66), defScope (top 66), [], []⟩, ⟨("read_by", none), "read_by", "read_by", defArgs (top 67), defBody (top 67), defScope (top 67), [], []⟩, ⟨("values_in", none), "values_in", "values_in", defArgs (top 68), defBody (top 68), defScope (top 68), [], []⟩, ⟨("deed_of", none), "deed_of", "deed_of", defArgs (top 72), defBody (top 72), defScope (top 72), [], []⟩, ⟨("told_of", none), "told_of", "told_of", defArgs (top 71), defBody (top 71), defScope (top 71), [], []⟩, ⟨("answers", none), "answers", "answers", defArgs (top 73), defBody (top 73), defScope (top 73), [], []⟩, ⟨("_law_box", none), "_law_box", "_law_box", defArgs (top 75), defBody (top 75), defScope (top 75), [], []⟩, ⟨("_law_take", none), "_law_take", "_law_take", defArgs (top 76), defBody (top 76), defScope (top 76), [], []⟩, ⟨("_law_of", none), "_law_of", "_law_of", defArgs (top 78), defBody (top 78), defScope (top 78), [], []⟩, ⟨("_law_cells", none), "_law_cells", "_law_cells", defArgs (top 77), defBody (top 77), defScope (top 77), [], []⟩, ⟨("_law_reduced", none), "_law_reduced", "_law_reduced", defArgs (top 80), defBody (top 80), defScope (top 80), [], []⟩, ⟨("_law_pal", none), "_law_pal", "_law_pal", defArgs (top 81), defBody (top 81), defScope (top 81), [], []⟩, ⟨("_law_seen", none), "_law_seen", "_law_seen", defArgs (top 82), defBody (top 82), defScope (top 82), [], []⟩, ⟨("_law_first", none), "_law_first", "_law_first", defArgs (top 83), defBody (top 83), defScope (top 83), [], []⟩, ⟨("_law_pure", none), "_law_pure", "_law_pure", defArgs (top 84), defBody (top 84), defScope (top 84), [], []⟩, ⟨("_law_row", none), "_law_row", "_law_row", defArgs (top 85), defBody (top 85), defScope (top 85), [], []⟩, ⟨("_law_way", none), "_law_way", "_law_way", defArgs (top 86), defBody (top 86), defScope (top 86), [], []⟩, ⟨("_law_next", none), "_law_next", "_law_next", defArgs (top 87), defBody (top 87), defScope (top 87), [], []⟩, ⟨("_law_line", none), "_law_line", "_law_line", defArgs (top 92), defBody (top 92), defScope (top 92), [], []⟩, ⟨("_law_asked", none), "_law_asked", "_law_asked", defArgs (top 90), defBody (top 90), defScope (top 90), [], []⟩, ⟨("_law_did", none), "_law_did", "_law_did", defArgs (top 88), defBody (top 88), defScope (top 88), [], []⟩, ⟨("_law_told", none), "_law_told", "_law_told", defArgs (top 91), defBody (top 91), defScope (top 91), [], []⟩, ⟨("_law_refused", none), "_law_refused", "_law_refused", defArgs (top 93), defBody (top 93), defScope (top 93), [], []⟩, ⟨("_law_deed", none), "_law_deed", "_law_deed", defArgs (top 89), defBody (top 89), defScope (top 89), [], []⟩, ⟨("_law_looks_right", none), "_law_looks_right", "_law_looks_right", defArgs (top 95), defBody (top 95), defScope (top 95), [], []⟩, ⟨("_law_desk_right", none), "_law_desk_right", "_law_desk_right", defArgs (top 94), defBody (top 94), defScope (top 94), [], []⟩, ⟨("_law_by_hand_right", none), "_law_by_hand_right", "_law_by_hand_right", defArgs (top 96), defBody (top 96), defScope (top 96), [], []⟩, ⟨("_law_right", none), "_law_right", "_law_right", defArgs (top 97), defBody (top 97), defScope (top 97), [], []⟩, ⟨("law", none), "law", "law", defArgs (top 98), defBody (top 98), defScope (top 98), [], []⟩, ⟨("_law_same", none), "_law_same", "_law_same", defArgs (top 79), defBody (top 79), defScope (top 79), [], []⟩,
  ⟨("Gallery", some "become"), "become", "Gallery.become", defArgs (mth 9), defBody (mth 9), defScope (mth 9), [], []⟩, ⟨("Gallery", some "hang"), "hang", "Gallery.hang", defArgs (mth 10), defBody (mth 10), defScope (mth 10), [], []⟩, ⟨("Gallery", some "take"), "take", "Gallery.take", defArgs (mth 11), defBody (mth 11), defScope (mth 11), [], []⟩, ⟨("Gallery", some "look"), "look", "Gallery.look", defArgs (mth 12), defBody (mth 12), defScope (mth 12), [], []⟩, ⟨("Gallery", some "tidy"), "tidy", "Gallery.tidy", defArgs (mth 13), defBody (mth 13), defScope (mth 13), [], []⟩, ⟨("Gallery", some "chain"), "chain", "Gallery.chain", defArgs (mth 16), defBody (mth 16), defScope (mth 16), [], []⟩, ⟨("Gallery", some "__contains__"), "__contains__", "Gallery.__contains__", defArgs (mth 6), defBody (mth 6), defScope (mth 6), [], []⟩, ⟨("Gallery", some "undo"), "undo", "Gallery.undo", defArgs (mth 14), defBody (mth 14), defScope (mth 14), [], []⟩,
  ⟨("Gallery", some "__init__"), "__init__", "Gallery.__init__", defArgs (mth 1), defBody (mth 1), defScope (mth 1), [.adr t0A], []⟩]
def glos : List Str := [("back" : Str), ("shared" : Str), ("joined" : Str), ("path" : Str), ("begins" : Str), ("palindrome" : Str), ("turned" : Str), ("is_word" : Str), ("is_row" : Str), ("is_way" : Str), ("rooms_of" : Str), ("seen_in" : Str), ("doors_on" : Str), ("is_rising" : Str), ("set_of" : Str), ("maker_ahead" : Str), ("folded_at" : Str), ("makers" : Str), ("is_of" : Str), ("chain_to" : Str), ("within" : Str), ("doors_from" : Str), ("letters_from" : Str), ("mirror_between" : Str), ("ways_text" : Str), ("sure_of" : Str), ("ways_read" : Str), ("yes_or_no" : Str), ("row_in" : Str), ("read_by" : Str), ("values_in" : Str), ("deed_of" : Str), ("told_of" : Str), ("answers" : Str), ("_law_box" : Str), ("_law_take" : Str), ("_law_of" : Str), ("_law_cells" : Str), ("_law_reduced" : Str), ("_law_pal" : Str), ("_law_seen" : Str), ("_law_first" : Str), ("_law_pure" : Str), ("_law_row" : Str), ("_law_way" : Str), ("_law_next" : Str), ("_law_line" : Str), ("_law_asked" : Str), ("_law_did" : Str), ("_law_told" : Str), ("_law_refused" : Str), ("_law_deed" : Str), ("_law_looks_right" : Str), ("_law_desk_right" : Str), ("_law_by_hand_right" : Str), ("_law_right" : Str), ("law" : Str), ("_law_same" : Str), ("Gallery" : Str), ("Known" : Str), ("NoWay" : Str), ("NothingDone" : Str), ("BadText" : Str), ("makers_makers" : Str), ("BARE" : Str), ("SINGLE" : Str), ("NUMBERS" : Str), ("DOUBLE_desk" : Str)]
def isCode (o : Obj) : Bool := match o.cls with
  | .type c => decide (c = "code")
  | _ => false
def sel (o : Obj) : List Addr := match isCode o with
  | true => []
  | false => (match o.data with
    | .func fd => refV fd.code ++ (refV fd.defaults ++ fd.closure.map (·.2))
    | .cls cd => [cd.ns]
    | .cell _ => []
    | _ => refsO o)
def nextA (g : Addr → Option Obj) (as : List Addr) : List Addr := as.flatMap fun a => match g a with
  | some o => sel o
  | none => []
def asX (g : Addr → Option Obj) : List Addr :=
  let l1 := glos.map (ga (frG g [mainGlobals]))
  let l2 := nextA g l1
  let l3 := nextA g l2
  let l4 := nextA g l3
  mainGlobals :: cStatics :: (l1 ++ (l2 ++ (l3 ++ (l4 ++ nextA g l4))))
abbrev AlX : Type := Bool × List FnY × He.AlD
def obsX (g : Addr → Option Obj) : AlX := (exB (frG g (asX g)), fnsY (frG g (asX g)), He.obsD fa fn (frG g (asX g)))
def SaysX (K : PySem.W.Frag) : Prop := exB K = true ∧ fnsY K = valY ∧ He.SaysD fa fn K
def hk : PySem.W.Hook where
  α := AlX
  obs := fun s => obsX s.heap.get?
  val := fun _ => (true, valY, He.valD fn)
  says := fun _ h => ∃ K : PySem.W.Frag, K.In h ∧ SaysX K
  of := fun _ s e => ⟨_, frG_in, congrArg (fun z : AlX => z.1) e, congrArg (fun z : AlX => z.2.1) e, congrArg (fun z : AlX => z.2.2) e⟩
  keeps := fun _ _ _ ⟨K, hK, c⟩ k => ⟨K, PySem.W.Frag.In.keeps hK k, c⟩
def ob (s : PySem.W.SharedT) : AlX := obsX (HandSHeadRun.getT s)
theorem ob_eq (s : PySem.W.SharedT) : ob s = hk.obs s.abs := by
  have e : HandSHeadRun.getT s = s.abs.heap.get? := funext (HandSHeadRun.getT_eq s)
  unfold ob
  rw [e] <;> rfl
def loose0 : List PySem.Str := ["_wall", "NoWay", "NothingDone", "Known", "BadText", "BadLine", "LETTERS", "set_of", "is_rising", "fraction", "power", "is_word", "is_row", "is_way", "back"]
def loose1 : List PySem.Str := ["shared", "joined", "path", "doors_on", "begins", "rooms_of", "palindrome", "turned", "seen_in", "way_shown", "maker_ahead", "folded_at", "makers", "makers_makers", "is_of"]
def loose2 : List PySem.Str := ["chain_to", "within", "DOUBLE_between", "doors_from", "letters_from", "mirror_between", "Gallery", "share", "shares", "is_whole", "rooms_left", "how_many_rooms", "BLANK", "BREAK", "NONE"]
def loose3 : List PySem.Str := ["WITHIN", "sure_of", "ways_text", "ways_read", "recipe_parts", "recipe_read", "BARE", "SINGLE", "DOUBLE_desk", "NUMBERS", "NOTHING", "row_in", "read_by", "values_in", "yes_or_no"]
def loose4 : List PySem.Str := ["rooms_told", "told_of", "deed_of", "answers", "_law_box", "_law_take", "_law_cells", "_law_of", "_law_same", "_law_reduced", "_law_pal", "_law_seen", "_law_first", "_law_pure", "_law_row"]
def loose5 : List PySem.Str := ["_law_way", "_law_next", "_law_did", "_law_deed", "_law_asked", "_law_told", "_law_line", "_law_refused", "_law_desk_right", "_law_looks_right", "_law_by_hand_right", "_law_right"]
def loose : List PySem.Str := loose0 ++ (loose1 ++ (loose2 ++ (loose3 ++ (loose4 ++ (loose5)))))

theorem runH (w : World) : HandSHeadRun.RunEq R (PySem.W.view R.prog [98]) hk ob 20000 loose w := by
  intro os
  kernel_rfl
end Mir
/-! part Z3 -/
set_option Elab.async false
set_option linter.all false
set_option maxRecDepth 100000
set_option maxHeartbeats 0
/-! The end: the law holds. -/
namespace Mir
open PySem PySem.Spec PyProof.Rows L2 Evl He
theorem pick2 {x y : Str} {i j : Nat} {P : Str → Nat → Prop} (h : some (x, i) = some (y, j)) (p : P x i) : P y j := by
  cases h
  exact p
theorem pick3 {x y q r : Str} {i j : Nat} {P : Str → Str → Nat → Prop} (h : some (x, q, i) = some (y, r, j)) (p : P x q i) : P y r j := by
  cases h
  exact p
section
variable {K : PySem.W.Frag} {h : Heap} {mg : Str → Option Value}
theorem scls_ok {C : Addr} (c : sclsB K C = true) : SlX.SCls K C := by
  obtain ⟨c1, c⟩ := ba c
  obtain ⟨c2, c⟩ := ba c
  obtain ⟨c3, c4⟩ := ba c
  exact ⟨c1, c2, c3, eqO_ok c4⟩
theorem slot_ok {f : Str} {i : Nat} (c : slotB K f i = true) (hi : i < 1000) : ∃ p, SlX.Slot1 K (ga K "Gallery") f p i := by
  obtain ⟨c1, c⟩ := ba c
  obtain ⟨c2, c⟩ := ba c
  obtain ⟨c3, c⟩ := ba c
  obtain ⟨c4, c5⟩ := ba c
  exact ⟨_, eqO_ok c1, eqO_ok c2, of_decide_eq_true c3, of_decide_eq_true c4, of_decide_eq_true c5, hi⟩
theorem dp_ok {nm qual : Str} {j : Nat} (c : propB K nm qual = true) (e : fnY K (propA K nm) = some (nm, qual, defArgs (mth j), .stmts (defBody (mth j)), defScope (mth j), mainGlobals, [], builtinsNs)) : Dp' K (ga K "Gallery") nm qual j := by
  obtain ⟨c1, c⟩ := ba c
  obtain ⟨c2, c⟩ := ba c
  obtain ⟨c3, c⟩ := ba c
  obtain ⟨c4, c5⟩ := ba c
  obtain ⟨fd, Fd⟩ := funY e c5
  have hr : ∃ rest, PySem.W.recIn K (ma K (ga K "Gallery") nm) "property" = some (.ref (propA K nm) :: rest) := by
    unfold recB at c4
    unfold propA
    split at c4
    · rename_i g rest hg
      exact ⟨rest, by rw [hg]⟩
    · cases c4
  obtain ⟨rest, hr⟩ := hr
  exact ⟨_, _, fd, rest, eqO_ok c1, eqO_ok c2, of_decide_eq_true c3, hr, Fd⟩
theorem htop : (PR.main.scope.names.lookup ("super" : Str)).isSome = false := by decide +kernel
theorem cls_ok2 {x : Str} {B newId initId : String} {qual : Str} {C : Addr} {params : Arguments} {body : List Stmt} {scope : Scope} {p1 p2 q1 q2 q3 q4 q5 q6 q7 q8 q9 q10 : Pos} (gC : mg x = some (.ref C)) (noS : mg "super" = none) (ht : (PR.main.scope.names.lookup ("super" : Str)).isSome = false)
    (c : clsB K C B newId initId qual fileW = true) (e : fnY K (ma K C "__init__") = (some ((("__init__" : Str)), qual, params, FuncBody.stmts body, scope, mainGlobals, [(("__class__" : Str))], builtinsNs) : FnY)) (hp : params = ErX.iA p1 p2) (hb : body = ErX.iB q1 q2 q3 q4 q5 q6 q7 q8 q9 q10) (hs : scope = ErX.iS) :
    ErX.ClsX PR K mg x B newId initId C := by
  subst hp hb hs
  obtain ⟨c1, c⟩ := ba c
  obtain ⟨c2, c⟩ := ba c
  obtain ⟨c3, c⟩ := ba c
  obtain ⟨c4, c⟩ := ba c
  obtain ⟨c5, c⟩ := ba c
  obtain ⟨c6, c⟩ := ba c
  obtain ⟨c7, c⟩ := ba c
  obtain ⟨c8, c⟩ := ba c
  obtain ⟨c9, c⟩ := ba c
  obtain ⟨c10, c⟩ := ba c
  obtain ⟨c11, c⟩ := ba c
  obtain ⟨c12, c⟩ := ba c
  obtain ⟨c13, c⟩ := ba c
  obtain ⟨c14, c15⟩ := ba c
  obtain ⟨cda, cc, oc, od, osl, kV, doc, pm, an, ct, ccl, cdd, vs, ccs, fl, tf, cl, cld, csl, h1, h2, h3, h4, h5, h6⟩ := init_ok e c15
  refine ⟨gC, c1, ?_, c3, eqO_ok c4, eqO_ok c5, c6, of_decide_eq_true c7, of_decide_eq_true c8, eqO_ok c9, eqO_ok c10, of_decide_eq_true c11, of_decide_eq_true c12, noS, ht, ?_⟩
  · unfold hdB at c2
    split at c2
    · rename_i cd hcd
      exact ⟨cd, hcd, c2⟩
    · cases c2
  · exact ⟨ma K C "__init__", cda, cc, qual, oc, od, osl, kV, doc, pm, an, ct, p1, p2, q1, q2, q3, q4, q5, q6, q7, q8, q9, q10, ccl, cdd, vs, ccs, fl, tf, cl, cld, csl, eqO_ok c13, of_decide_eq_true c14, h1, h2, h3, h4, h5, h6⟩
def posD (d : Option Obj) : Option (Pos × Pos × Pos × Pos × Pos) := match d with
  | some ⟨_, _, .func fd, _⟩ => (match fd.body with
    | .stmts [.Expr (.Call (.Attribute (.Call (.Name _ q1) _ _ q2) _ q3) [.Name _ q4] _ q5) _, _] => some (q1, q2, q3, q4, q5)
    | _ => none)
  | _ => none
theorem ev_ok2 {B newId initId : String} {qual : Str} {C : Addr} {params : Arguments} {body : List Stmt} {scope : Scope} {p1 p2 q1 q2 q3 q4 q5 q6 q7 q8 q9 q10 : Pos}
    (c : clsB K C B newId initId qual fileW = true) (e : fnY K (ma K C "__init__") = (some ((("__init__" : Str)), qual, params, FuncBody.stmts body, scope, mainGlobals, [(("__class__" : Str))], builtinsNs) : FnY)) (hp : params = ErX.iA p1 p2) (hb : body = ErX.iB q1 q2 q3 q4 q5 q6 q7 q8 q9 q10) (hs : scope = ErX.iS) (hev : ErX.Evs q1 q2 q3 q4 q5) : EvK K C := by
  subst hp hb hs
  obtain ⟨c1, c⟩ := ba c
  obtain ⟨c2, c⟩ := ba c
  obtain ⟨c3, c⟩ := ba c
  obtain ⟨c4, c⟩ := ba c
  obtain ⟨c5, c⟩ := ba c
  obtain ⟨c6, c⟩ := ba c
  obtain ⟨c7, c⟩ := ba c
  obtain ⟨c8, c⟩ := ba c
  obtain ⟨c9, c⟩ := ba c
  obtain ⟨c10, c⟩ := ba c
  obtain ⟨c11, c⟩ := ba c
  obtain ⟨c12, c⟩ := ba c
  obtain ⟨c13, c⟩ := ba c
  obtain ⟨c14, c15⟩ := ba c
  obtain ⟨cda, cc, oc, od, osl, kV, doc, pm, an, ct, ccl, cdd, vs, ccs, fl, tf, cl, cld, csl, h1, h2, h3, h4, h5, h6⟩ := init_ok e c15
  intro fI cda' cc' qual' oc' od' osl' kV' doc' pm' an' ct' p1' p2' q1' q2' q3' q4' q5' q6' q7' q8' q9' q10' k1 k2
  have ef : fI = ma K C "__init__" := by
    have := k2.symm.trans (eqO_ok c13)
    simpa using this
  subst ef
  have ep := congrArg posD (h1.symm.trans k1)
  have ep : some (q1, q2, q3, q4, q5) = some (q1', q2', q3', q4', q5') := ep
  obtain ⟨rfl, rfl, rfl, rfl, rfl⟩ : q1 = q1' ∧ q2 = q2' ∧ q3 = q3' ∧ q4 = q4' ∧ q5 = q5' := by simpa using ep
  exact hev
theorem nd_ok {C : Addr} (g : mg "NothingDone" = some (.ref C)) (c : ndB K C = true) : NDx K mg C := by
  obtain ⟨c1, c⟩ := ba c
  obtain ⟨c2, c⟩ := ba c
  obtain ⟨c3, c4⟩ := ba c
  exact ⟨g, c1, c2, of_decide_eq_true c3, of_decide_eq_true c4⟩
theorem t0_ok (c : t0B K = true) (H : Hp) : SqT K H (t0A K) [] := by
  unfold t0B at c
  split at c
  · rename_i cn od its n sl hl
    obtain ⟨c1, c2⟩ := ba c
    have hz : its.size = 0 := of_decide_eq_true c2
    refine .inr ⟨_, its, n, hl, congrArg Value.type (of_decide_eq_true c1), rfl, by rw [hz]; exact Nat.zero_le _, ?_⟩
    have : its.toList = [] := List.length_eq_zero_iff.mp (by rw [Array.length_toList]; exact hz)
    rw [this]
    exact .nil
  · cases c
theorem words_ok {x : Str} {l : List W} (c : tupB K x (l.map fun w => Dv.str (ST w)) = true) (H : Hp) : SqT K H (ga K x) (Ss l) := by
  have h := tupB_ok c H
  rw [List.map_map] at h
  exact h
theorem factsX (X : K.In h) (G : h.Ns mainGlobals mg) (s : SaysX K) : Facts PR K mg (ga K "Gallery") (ga K "Known") (ga K "NoWay") (ga K "NothingDone") (ga K "BadText") := by
  obtain ⟨hx, hy, c⟩ := s
  obtain ⟨x1, hx⟩ := ba hx
  obtain ⟨x2, hx⟩ := ba hx
  obtain ⟨x3, hx⟩ := ba hx
  obtain ⟨hpways, hx⟩ := ba hx
  obtain ⟨hpmakers, hx⟩ := ba hx
  obtain ⟨hpdeeds, hx⟩ := ba hx
  obtain ⟨x7, hx⟩ := ba hx
  obtain ⟨x8, hx⟩ := ba hx
  obtain ⟨x9, hx⟩ := ba hx
  obtain ⟨x10, hx⟩ := ba hx
  obtain ⟨x11, hx⟩ := ba hx
  obtain ⟨x12, hx⟩ := ba hx
  obtain ⟨x13, x14⟩ := ba hx
  have x14 := of_decide_eq_true x14
  unfold fnsY valY at hy
  simp only [List.cons.injEq, and_true] at hy
  obtain ⟨hy0, hy1, hy2, hy3, hy4⟩ := hy
  have t0 : Dn K mg "back" 17 := by
    obtain ⟨fd, Fd⟩ := c.def_ 0 (d := ⟨("back", none), "back", "back", defArgs (top 17), defBody (top 17), defScope (top 17), [], []⟩) rfl
    exact ⟨_, fd, Fd, (He.glo_ok X G (c.fact 0 (f := .glo "back") rfl))⟩
  have t1 : Dn K mg "shared" 18 := by
    obtain ⟨fd, Fd⟩ := c.def_ 1 (d := ⟨("shared", none), "shared", "shared", defArgs (top 18), defBody (top 18), defScope (top 18), [], []⟩) rfl
    exact ⟨_, fd, Fd, (He.glo_ok X G (c.fact 1 (f := .glo "shared") rfl))⟩
  have t2 : Dn K mg "joined" 19 := by
    obtain ⟨fd, Fd⟩ := c.def_ 2 (d := ⟨("joined", none), "joined", "joined", defArgs (top 19), defBody (top 19), defScope (top 19), [], []⟩) rfl
    exact ⟨_, fd, Fd, (He.glo_ok X G (c.fact 2 (f := .glo "joined") rfl))⟩
  have t3 : Dn K mg "path" 20 := by
    obtain ⟨fd, Fd⟩ := c.def_ 3 (d := ⟨("path", none), "path", "path", defArgs (top 20), defBody (top 20), defScope (top 20), [], []⟩) rfl
    exact ⟨_, fd, Fd, (He.glo_ok X G (c.fact 3 (f := .glo "path") rfl))⟩
  have t4 : Dn K mg "begins" 22 := by
    obtain ⟨fd, Fd⟩ := c.def_ 4 (d := ⟨("begins", none), "begins", "begins", defArgs (top 22), defBody (top 22), defScope (top 22), [], []⟩) rfl
    exact ⟨_, fd, Fd, (He.glo_ok X G (c.fact 4 (f := .glo "begins") rfl))⟩
  have t5 : Dn K mg "palindrome" 24 := by
    obtain ⟨fd, Fd⟩ := c.def_ 5 (d := ⟨("palindrome", none), "palindrome", "palindrome", defArgs (top 24), defBody (top 24), defScope (top 24), [], []⟩) rfl
    exact ⟨_, fd, Fd, (He.glo_ok X G (c.fact 5 (f := .glo "palindrome") rfl))⟩
  have t6 : Dn K mg "turned" 25 := by
    obtain ⟨fd, Fd⟩ := c.def_ 6 (d := ⟨("turned", none), "turned", "turned", defArgs (top 25), defBody (top 25), defScope (top 25), [], []⟩) rfl
    exact ⟨_, fd, Fd, (He.glo_ok X G (c.fact 6 (f := .glo "turned") rfl))⟩
  have t7 : Dn K mg "is_word" 14 := by
    obtain ⟨fd, Fd⟩ := c.def_ 7 (d := ⟨("is_word", none), "is_word", "is_word", defArgs (top 14), defBody (top 14), defScope (top 14), [], []⟩) rfl
    exact ⟨_, fd, Fd, (He.glo_ok X G (c.fact 7 (f := .glo "is_word") rfl))⟩
  have t8 : Dn K mg "is_row" 15 := by
    obtain ⟨fd, Fd⟩ := c.def_ 8 (d := ⟨("is_row", none), "is_row", "is_row", defArgs (top 15), defBody (top 15), defScope (top 15), [], []⟩) rfl
    exact ⟨_, fd, Fd, (He.glo_ok X G (c.fact 8 (f := .glo "is_row") rfl))⟩
  have t9 : Dn K mg "is_way" 16 := by
    obtain ⟨fd, Fd⟩ := c.def_ 9 (d := ⟨("is_way", none), "is_way", "is_way", defArgs (top 16), defBody (top 16), defScope (top 16), [], []⟩) rfl
    exact ⟨_, fd, Fd, (He.glo_ok X G (c.fact 9 (f := .glo "is_way") rfl))⟩
  have t10 : Dn K mg "rooms_of" 23 := by
    obtain ⟨fd, Fd⟩ := c.def_ 10 (d := ⟨("rooms_of", none), "rooms_of", "rooms_of", defArgs (top 23), defBody (top 23), defScope (top 23), [], []⟩) rfl
    exact ⟨_, fd, Fd, (He.glo_ok X G (c.fact 10 (f := .glo "rooms_of") rfl))⟩
  have t11 : Dn K mg "seen_in" 27 := by
    obtain ⟨fd, Fd⟩ := c.def_ 11 (d := ⟨("seen_in", none), "seen_in", "seen_in", defArgs (top 27), defBody (top 27), defScope (top 27), [], []⟩) rfl
    exact ⟨_, fd, Fd, (He.glo_ok X G (c.fact 11 (f := .glo "seen_in") rfl))⟩
  have t12 : Dn K mg "doors_on" 21 := by
    obtain ⟨fd, Fd⟩ := c.def_ 12 (d := ⟨("doors_on", none), "doors_on", "doors_on", defArgs (top 21), defBody (top 21), defScope (top 21), [], []⟩) rfl
    exact ⟨_, fd, Fd, (He.glo_ok X G (c.fact 12 (f := .glo "doors_on") rfl))⟩
  have t13 : Dn K mg "is_rising" 10 := by
    obtain ⟨fd, Fd⟩ := c.def_ 13 (d := ⟨("is_rising", none), "is_rising", "is_rising", defArgs (top 10), defBody (top 10), defScope (top 10), [], []⟩) rfl
    exact ⟨_, fd, Fd, (He.glo_ok X G (c.fact 13 (f := .glo "is_rising") rfl))⟩
  have t14 : Dn K mg "set_of" 9 := by
    obtain ⟨fd, Fd⟩ := c.def_ 14 (d := ⟨("set_of", none), "set_of", "set_of", defArgs (top 9), defBody (top 9), defScope (top 9), [], []⟩) rfl
    exact ⟨_, fd, Fd, (He.glo_ok X G (c.fact 14 (f := .glo "set_of") rfl))⟩
  have t15 : Dn K mg "maker_ahead" 30 := by
    obtain ⟨fd, Fd⟩ := c.def_ 15 (d := ⟨("maker_ahead", none), "maker_ahead", "maker_ahead", defArgs (top 30), defBody (top 30), defScope (top 30), [], []⟩) rfl
    exact ⟨_, fd, Fd, (He.glo_ok X G (c.fact 15 (f := .glo "maker_ahead") rfl))⟩
  have t16 : Dn K mg "folded_at" 31 := by
    obtain ⟨fd, Fd⟩ := c.def_ 16 (d := ⟨("folded_at", none), "folded_at", "folded_at", defArgs (top 31), defBody (top 31), defScope (top 31), [], []⟩) rfl
    exact ⟨_, fd, Fd, (He.glo_ok X G (c.fact 16 (f := .glo "folded_at") rfl))⟩
  have t17 : Dn K mg "makers" 32 := by
    obtain ⟨fd, Fd⟩ := c.def_ 17 (d := ⟨("makers", none), "makers", "makers", defArgs (top 32), defBody (top 32), defScope (top 32), [], []⟩) rfl
    exact ⟨_, fd, Fd, (He.glo_ok X G (c.fact 17 (f := .glo "makers") rfl))⟩
  have t18 : Dn K mg "is_of" 34 := by
    obtain ⟨fd, Fd⟩ := c.def_ 18 (d := ⟨("is_of", none), "is_of", "is_of", defArgs (top 34), defBody (top 34), defScope (top 34), [], []⟩) rfl
    exact ⟨_, fd, Fd, (He.glo_ok X G (c.fact 18 (f := .glo "is_of") rfl))⟩
  have t19 : Dn K mg "chain_to" 35 := by
    obtain ⟨fd, Fd⟩ := c.def_ 19 (d := ⟨("chain_to", none), "chain_to", "chain_to", defArgs (top 35), defBody (top 35), defScope (top 35), [], []⟩) rfl
    exact ⟨_, fd, Fd, (He.glo_ok X G (c.fact 19 (f := .glo "chain_to") rfl))⟩
  have t20 : Dn K mg "within" 36 := by
    obtain ⟨fd, Fd⟩ := c.def_ 20 (d := ⟨("within", none), "within", "within", defArgs (top 36), defBody (top 36), defScope (top 36), [], []⟩) rfl
    exact ⟨_, fd, Fd, (He.glo_ok X G (c.fact 20 (f := .glo "within") rfl))⟩
  have t21 : Dn K mg "doors_from" 39 := by
    obtain ⟨fd, Fd⟩ := c.def_ 21 (d := ⟨("doors_from", none), "doors_from", "doors_from", defArgs (top 39), defBody (top 39), defScope (top 39), [], []⟩) rfl
    exact ⟨_, fd, Fd, (He.glo_ok X G (c.fact 21 (f := .glo "doors_from") rfl))⟩
  have t22 : Dn K mg "letters_from" 40 := by
    obtain ⟨fd, Fd⟩ := c.def_ 22 (d := ⟨("letters_from", none), "letters_from", "letters_from", defArgs (top 40), defBody (top 40), defScope (top 40), [], []⟩) rfl
    exact ⟨_, fd, Fd, (He.glo_ok X G (c.fact 22 (f := .glo "letters_from") rfl))⟩
  have t23 : Dn K mg "mirror_between" 41 := by
    obtain ⟨fd, Fd⟩ := c.def_ 23 (d := ⟨("mirror_between", none), "mirror_between", "mirror_between", defArgs (top 41), defBody (top 41), defScope (top 41), [], []⟩) rfl
    exact ⟨_, fd, Fd, (He.glo_ok X G (c.fact 23 (f := .glo "mirror_between") rfl))⟩
  have t24 : Dn K mg "ways_text" 56 := by
    obtain ⟨fd, Fd⟩ := c.def_ 24 (d := ⟨("ways_text", none), "ways_text", "ways_text", defArgs (top 56), defBody (top 56), defScope (top 56), [], []⟩) rfl
    exact ⟨_, fd, Fd, (He.glo_ok X G (c.fact 24 (f := .glo "ways_text") rfl))⟩
  have t25 : Dn K mg "sure_of" 55 := by
    obtain ⟨fd, Fd⟩ := c.def_ 25 (d := ⟨("sure_of", none), "sure_of", "sure_of", defArgs (top 55), defBody (top 55), defScope (top 55), [], []⟩) rfl
    exact ⟨_, fd, Fd, (He.glo_ok X G (c.fact 25 (f := .glo "sure_of") rfl))⟩
  have t26 : Dn K mg "ways_read" 57 := by
    obtain ⟨fd, Fd⟩ := c.def_ 26 (d := ⟨("ways_read", none), "ways_read", "ways_read", defArgs (top 57), defBody (top 57), defScope (top 57), [], []⟩) rfl
    exact ⟨_, fd, Fd, (He.glo_ok X G (c.fact 26 (f := .glo "ways_read") rfl))⟩
  have t27 : Dn K mg "yes_or_no" 69 := by
    obtain ⟨fd, Fd⟩ := c.def_ 27 (d := ⟨("yes_or_no", none), "yes_or_no", "yes_or_no", defArgs (top 69), defBody (top 69), defScope (top 69), [], []⟩) rfl
    exact ⟨_, fd, Fd, (He.glo_ok X G (c.fact 27 (f := .glo "yes_or_no") rfl))⟩
  have t28 : Dn K mg "row_in" 66 := by
    obtain ⟨fd, Fd⟩ := c.def_ 28 (d := ⟨("row_in", none), "row_in", "row_in", defArgs (top 66), defBody (top 66), defScope (top 66), [], []⟩) rfl
    exact ⟨_, fd, Fd, (He.glo_ok X G (c.fact 28 (f := .glo "row_in") rfl))⟩
  have t29 : Dn K mg "read_by" 67 := by
    obtain ⟨fd, Fd⟩ := c.def_ 29 (d := ⟨("read_by", none), "read_by", "read_by", defArgs (top 67), defBody (top 67), defScope (top 67), [], []⟩) rfl
    exact ⟨_, fd, Fd, (He.glo_ok X G (c.fact 29 (f := .glo "read_by") rfl))⟩
  have t30 : Dn K mg "values_in" 68 := by
    obtain ⟨fd, Fd⟩ := c.def_ 30 (d := ⟨("values_in", none), "values_in", "values_in", defArgs (top 68), defBody (top 68), defScope (top 68), [], []⟩) rfl
    exact ⟨_, fd, Fd, (He.glo_ok X G (c.fact 30 (f := .glo "values_in") rfl))⟩
  have t31 : Dn K mg "deed_of" 72 := by
    obtain ⟨fd, Fd⟩ := c.def_ 31 (d := ⟨("deed_of", none), "deed_of", "deed_of", defArgs (top 72), defBody (top 72), defScope (top 72), [], []⟩) rfl
    exact ⟨_, fd, Fd, (He.glo_ok X G (c.fact 31 (f := .glo "deed_of") rfl))⟩
  have t32 : Dn K mg "told_of" 71 := by
    obtain ⟨fd, Fd⟩ := c.def_ 32 (d := ⟨("told_of", none), "told_of", "told_of", defArgs (top 71), defBody (top 71), defScope (top 71), [], []⟩) rfl
    exact ⟨_, fd, Fd, (He.glo_ok X G (c.fact 32 (f := .glo "told_of") rfl))⟩
  have t33 : Dn K mg "answers" 73 := by
    obtain ⟨fd, Fd⟩ := c.def_ 33 (d := ⟨("answers", none), "answers", "answers", defArgs (top 73), defBody (top 73), defScope (top 73), [], []⟩) rfl
    exact ⟨_, fd, Fd, (He.glo_ok X G (c.fact 33 (f := .glo "answers") rfl))⟩
  have t34 : Dn K mg "_law_box" 75 := by
    obtain ⟨fd, Fd⟩ := c.def_ 34 (d := ⟨("_law_box", none), "_law_box", "_law_box", defArgs (top 75), defBody (top 75), defScope (top 75), [], []⟩) rfl
    exact ⟨_, fd, Fd, (He.glo_ok X G (c.fact 34 (f := .glo "_law_box") rfl))⟩
  have t35 : Dn K mg "_law_take" 76 := by
    obtain ⟨fd, Fd⟩ := c.def_ 35 (d := ⟨("_law_take", none), "_law_take", "_law_take", defArgs (top 76), defBody (top 76), defScope (top 76), [], []⟩) rfl
    exact ⟨_, fd, Fd, (He.glo_ok X G (c.fact 35 (f := .glo "_law_take") rfl))⟩
  have t36 : Dn K mg "_law_of" 78 := by
    obtain ⟨fd, Fd⟩ := c.def_ 36 (d := ⟨("_law_of", none), "_law_of", "_law_of", defArgs (top 78), defBody (top 78), defScope (top 78), [], []⟩) rfl
    exact ⟨_, fd, Fd, (He.glo_ok X G (c.fact 36 (f := .glo "_law_of") rfl))⟩
  have t37 : Dn K mg "_law_cells" 77 := by
    obtain ⟨fd, Fd⟩ := c.def_ 37 (d := ⟨("_law_cells", none), "_law_cells", "_law_cells", defArgs (top 77), defBody (top 77), defScope (top 77), [], []⟩) rfl
    exact ⟨_, fd, Fd, (He.glo_ok X G (c.fact 37 (f := .glo "_law_cells") rfl))⟩
  have t38 : Dn K mg "_law_reduced" 80 := by
    obtain ⟨fd, Fd⟩ := c.def_ 38 (d := ⟨("_law_reduced", none), "_law_reduced", "_law_reduced", defArgs (top 80), defBody (top 80), defScope (top 80), [], []⟩) rfl
    exact ⟨_, fd, Fd, (He.glo_ok X G (c.fact 38 (f := .glo "_law_reduced") rfl))⟩
  have t39 : Dn K mg "_law_pal" 81 := by
    obtain ⟨fd, Fd⟩ := c.def_ 39 (d := ⟨("_law_pal", none), "_law_pal", "_law_pal", defArgs (top 81), defBody (top 81), defScope (top 81), [], []⟩) rfl
    exact ⟨_, fd, Fd, (He.glo_ok X G (c.fact 39 (f := .glo "_law_pal") rfl))⟩
  have t40 : Dn K mg "_law_seen" 82 := by
    obtain ⟨fd, Fd⟩ := c.def_ 40 (d := ⟨("_law_seen", none), "_law_seen", "_law_seen", defArgs (top 82), defBody (top 82), defScope (top 82), [], []⟩) rfl
    exact ⟨_, fd, Fd, (He.glo_ok X G (c.fact 40 (f := .glo "_law_seen") rfl))⟩
  have t41 : Dn K mg "_law_first" 83 := by
    obtain ⟨fd, Fd⟩ := c.def_ 41 (d := ⟨("_law_first", none), "_law_first", "_law_first", defArgs (top 83), defBody (top 83), defScope (top 83), [], []⟩) rfl
    exact ⟨_, fd, Fd, (He.glo_ok X G (c.fact 41 (f := .glo "_law_first") rfl))⟩
  have t42 : Dn K mg "_law_pure" 84 := by
    obtain ⟨fd, Fd⟩ := c.def_ 42 (d := ⟨("_law_pure", none), "_law_pure", "_law_pure", defArgs (top 84), defBody (top 84), defScope (top 84), [], []⟩) rfl
    exact ⟨_, fd, Fd, (He.glo_ok X G (c.fact 42 (f := .glo "_law_pure") rfl))⟩
  have t43 : Dn K mg "_law_row" 85 := by
    obtain ⟨fd, Fd⟩ := c.def_ 43 (d := ⟨("_law_row", none), "_law_row", "_law_row", defArgs (top 85), defBody (top 85), defScope (top 85), [], []⟩) rfl
    exact ⟨_, fd, Fd, (He.glo_ok X G (c.fact 43 (f := .glo "_law_row") rfl))⟩
  have t44 : Dn K mg "_law_way" 86 := by
    obtain ⟨fd, Fd⟩ := c.def_ 44 (d := ⟨("_law_way", none), "_law_way", "_law_way", defArgs (top 86), defBody (top 86), defScope (top 86), [], []⟩) rfl
    exact ⟨_, fd, Fd, (He.glo_ok X G (c.fact 44 (f := .glo "_law_way") rfl))⟩
  have t45 : Dn K mg "_law_next" 87 := by
    obtain ⟨fd, Fd⟩ := c.def_ 45 (d := ⟨("_law_next", none), "_law_next", "_law_next", defArgs (top 87), defBody (top 87), defScope (top 87), [], []⟩) rfl
    exact ⟨_, fd, Fd, (He.glo_ok X G (c.fact 45 (f := .glo "_law_next") rfl))⟩
  have t46 : Dn K mg "_law_line" 92 := by
    obtain ⟨fd, Fd⟩ := c.def_ 46 (d := ⟨("_law_line", none), "_law_line", "_law_line", defArgs (top 92), defBody (top 92), defScope (top 92), [], []⟩) rfl
    exact ⟨_, fd, Fd, (He.glo_ok X G (c.fact 46 (f := .glo "_law_line") rfl))⟩
  have t47 : Dn K mg "_law_asked" 90 := by
    obtain ⟨fd, Fd⟩ := c.def_ 47 (d := ⟨("_law_asked", none), "_law_asked", "_law_asked", defArgs (top 90), defBody (top 90), defScope (top 90), [], []⟩) rfl
    exact ⟨_, fd, Fd, (He.glo_ok X G (c.fact 47 (f := .glo "_law_asked") rfl))⟩
  have t48 : Dn K mg "_law_did" 88 := by
    obtain ⟨fd, Fd⟩ := c.def_ 48 (d := ⟨("_law_did", none), "_law_did", "_law_did", defArgs (top 88), defBody (top 88), defScope (top 88), [], []⟩) rfl
    exact ⟨_, fd, Fd, (He.glo_ok X G (c.fact 48 (f := .glo "_law_did") rfl))⟩
  have t49 : Dn K mg "_law_told" 91 := by
    obtain ⟨fd, Fd⟩ := c.def_ 49 (d := ⟨("_law_told", none), "_law_told", "_law_told", defArgs (top 91), defBody (top 91), defScope (top 91), [], []⟩) rfl
    exact ⟨_, fd, Fd, (He.glo_ok X G (c.fact 49 (f := .glo "_law_told") rfl))⟩
  have t50 : Dn K mg "_law_refused" 93 := by
    obtain ⟨fd, Fd⟩ := c.def_ 50 (d := ⟨("_law_refused", none), "_law_refused", "_law_refused", defArgs (top 93), defBody (top 93), defScope (top 93), [], []⟩) rfl
    exact ⟨_, fd, Fd, (He.glo_ok X G (c.fact 50 (f := .glo "_law_refused") rfl))⟩
  have t51 : Dn K mg "_law_deed" 89 := by
    obtain ⟨fd, Fd⟩ := c.def_ 51 (d := ⟨("_law_deed", none), "_law_deed", "_law_deed", defArgs (top 89), defBody (top 89), defScope (top 89), [], []⟩) rfl
    exact ⟨_, fd, Fd, (He.glo_ok X G (c.fact 51 (f := .glo "_law_deed") rfl))⟩
  have t52 : Dn K mg "_law_looks_right" 95 := by
    obtain ⟨fd, Fd⟩ := c.def_ 52 (d := ⟨("_law_looks_right", none), "_law_looks_right", "_law_looks_right", defArgs (top 95), defBody (top 95), defScope (top 95), [], []⟩) rfl
    exact ⟨_, fd, Fd, (He.glo_ok X G (c.fact 52 (f := .glo "_law_looks_right") rfl))⟩
  have t53 : Dn K mg "_law_desk_right" 94 := by
    obtain ⟨fd, Fd⟩ := c.def_ 53 (d := ⟨("_law_desk_right", none), "_law_desk_right", "_law_desk_right", defArgs (top 94), defBody (top 94), defScope (top 94), [], []⟩) rfl
    exact ⟨_, fd, Fd, (He.glo_ok X G (c.fact 53 (f := .glo "_law_desk_right") rfl))⟩
  have t54 : Dn K mg "_law_by_hand_right" 96 := by
    obtain ⟨fd, Fd⟩ := c.def_ 54 (d := ⟨("_law_by_hand_right", none), "_law_by_hand_right", "_law_by_hand_right", defArgs (top 96), defBody (top 96), defScope (top 96), [], []⟩) rfl
    exact ⟨_, fd, Fd, (He.glo_ok X G (c.fact 54 (f := .glo "_law_by_hand_right") rfl))⟩
  have t55 : Dn K mg "_law_right" 97 := by
    obtain ⟨fd, Fd⟩ := c.def_ 55 (d := ⟨("_law_right", none), "_law_right", "_law_right", defArgs (top 97), defBody (top 97), defScope (top 97), [], []⟩) rfl
    exact ⟨_, fd, Fd, (He.glo_ok X G (c.fact 55 (f := .glo "_law_right") rfl))⟩
  have t56 : Dn K mg "law" 98 := by
    obtain ⟨fd, Fd⟩ := c.def_ 56 (d := ⟨("law", none), "law", "law", defArgs (top 98), defBody (top 98), defScope (top 98), [], []⟩) rfl
    exact ⟨_, fd, Fd, (He.glo_ok X G (c.fact 56 (f := .glo "law") rfl))⟩
  have t57 : Dn K mg "_law_same" 79 := by
    obtain ⟨fd, Fd⟩ := c.def_ 57 (d := ⟨("_law_same", none), "_law_same", "_law_same", defArgs (top 79), defBody (top 79), defScope (top 79), [], []⟩) rfl
    exact ⟨_, fd, Fd, (He.glo_ok X G (c.fact 57 (f := .glo "_law_same") rfl))⟩
  have m0 : Dm K (ga K "Gallery") "become" "Gallery.become" 9 := by
    obtain ⟨fd, Fd⟩ := c.def_ 58 (d := ⟨("Gallery", some "become"), "become", "Gallery.become", defArgs (mth 9), defBody (mth 9), defScope (mth 9), [], []⟩) rfl
    exact ⟨_, fd, He.meth_ok (c.fact 92 (f := .meth "Gallery" "become") rfl), Fd⟩
  have m1 : Dm K (ga K "Gallery") "hang" "Gallery.hang" 10 := by
    obtain ⟨fd, Fd⟩ := c.def_ 59 (d := ⟨("Gallery", some "hang"), "hang", "Gallery.hang", defArgs (mth 10), defBody (mth 10), defScope (mth 10), [], []⟩) rfl
    exact ⟨_, fd, He.meth_ok (c.fact 93 (f := .meth "Gallery" "hang") rfl), Fd⟩
  have m2 : Dm K (ga K "Gallery") "take" "Gallery.take" 11 := by
    obtain ⟨fd, Fd⟩ := c.def_ 60 (d := ⟨("Gallery", some "take"), "take", "Gallery.take", defArgs (mth 11), defBody (mth 11), defScope (mth 11), [], []⟩) rfl
    exact ⟨_, fd, He.meth_ok (c.fact 94 (f := .meth "Gallery" "take") rfl), Fd⟩
  have m3 : Dm K (ga K "Gallery") "look" "Gallery.look" 12 := by
    obtain ⟨fd, Fd⟩ := c.def_ 61 (d := ⟨("Gallery", some "look"), "look", "Gallery.look", defArgs (mth 12), defBody (mth 12), defScope (mth 12), [], []⟩) rfl
    exact ⟨_, fd, He.meth_ok (c.fact 95 (f := .meth "Gallery" "look") rfl), Fd⟩
  have m4 : Dm K (ga K "Gallery") "tidy" "Gallery.tidy" 13 := by
    obtain ⟨fd, Fd⟩ := c.def_ 62 (d := ⟨("Gallery", some "tidy"), "tidy", "Gallery.tidy", defArgs (mth 13), defBody (mth 13), defScope (mth 13), [], []⟩) rfl
    exact ⟨_, fd, He.meth_ok (c.fact 96 (f := .meth "Gallery" "tidy") rfl), Fd⟩
  have m5 : Dm K (ga K "Gallery") "chain" "Gallery.chain" 16 := by
    obtain ⟨fd, Fd⟩ := c.def_ 63 (d := ⟨("Gallery", some "chain"), "chain", "Gallery.chain", defArgs (mth 16), defBody (mth 16), defScope (mth 16), [], []⟩) rfl
    exact ⟨_, fd, He.meth_ok (c.fact 97 (f := .meth "Gallery" "chain") rfl), Fd⟩
  have m6 : Dm K (ga K "Gallery") "__contains__" "Gallery.__contains__" 6 := by
    obtain ⟨fd, Fd⟩ := c.def_ 64 (d := ⟨("Gallery", some "__contains__"), "__contains__", "Gallery.__contains__", defArgs (mth 6), defBody (mth 6), defScope (mth 6), [], []⟩) rfl
    exact ⟨_, fd, He.meth_ok (c.fact 98 (f := .meth "Gallery" "__contains__") rfl), Fd⟩
  have m7 : Dm K (ga K "Gallery") "undo" "Gallery.undo" 14 := by
    obtain ⟨fd, Fd⟩ := c.def_ 65 (d := ⟨("Gallery", some "undo"), "undo", "Gallery.undo", defArgs (mth 14), defBody (mth 14), defScope (mth 14), [], []⟩) rfl
    exact ⟨_, fd, He.meth_ok (c.fact 99 (f := .meth "Gallery" "undo") rfl), Fd⟩
  have p0 : Dp' K (ga K "Gallery") "ways" "Gallery.ways" 2 := dp_ok hpways hy0
  have p1 : Dp' K (ga K "Gallery") "makers" "Gallery.makers" 3 := dp_ok hpmakers hy1
  have p2 : Dp' K (ga K "Gallery") "deeds" "Gallery.deeds" 4 := dp_ok hpdeeds hy2
  have TKnown : ErX.ClsX PR K mg "Known" "ValueError" "ValueError.__new__" "ValueError.__init__" (ga K "Known") := cls_ok2 (He.glo_ok X G (c.fact 59 (f := .glo "Known") rfl)) (He.free_ok X G (c.fact 85 (f := .free "super") rfl)) htop x7 hy3 rfl rfl rfl
  have EKnown : EvK K (ga K "Known") := ev_ok2 x7 hy3 rfl rfl rfl ⟨_, fun env => rfl⟩
  have TNoWay : ErX.ClsX PR K mg "NoWay" "LookupError" "LookupError.__new__" "LookupError.__init__" (ga K "NoWay") := cls_ok2 (He.glo_ok X G (c.fact 60 (f := .glo "NoWay") rfl)) (He.free_ok X G (c.fact 85 (f := .free "super") rfl)) htop x8 hy4 rfl rfl rfl
  have ENoWay : EvK K (ga K "NoWay") := ev_ok2 x8 hy4 rfl rfl rfl ⟨_, fun env => rfl⟩
  have DI : Dinit K (ga K "Gallery") := by
    obtain ⟨fd, Fd⟩ := c.def_ 66 (d := ⟨("Gallery", some "__init__"), "__init__", "Gallery.__init__", defArgs (mth 1), defBody (mth 1), defScope (mth 1), [.adr t0A], []⟩) rfl
    exact ⟨_, fd, t0A K, He.mkr_ok (c.fact 100 (f := .mkr "Gallery") rfl), Fd, t0_ok x10⟩
  have al : mg "makers_makers" = mg "makers" := by
    rw [(He.glo_ok X G (c.fact 63 (f := .glo "makers_makers") rfl)), (He.glo_ok X G (c.fact 17 (f := .glo "makers") rfl))]
    unfold ga
    rw [x14]
  exact {
    B := ⟨(He.free_ok X G (c.fact 68 (f := .free "len") rfl)), (He.free_ok X G (c.fact 69 (f := .free "min") rfl)), (He.free_ok X G (c.fact 70 (f := .free "max") rfl)), (He.free_ok X G (c.fact 71 (f := .free "range") rfl)), (He.free_ok X G (c.fact 72 (f := .free "zip") rfl)), (He.free_ok X G (c.fact 73 (f := .free "sorted") rfl)), (He.free_ok X G (c.fact 74 (f := .free "set") rfl)), (He.free_ok X G (c.fact 75 (f := .free "list") rfl)), (He.free_ok X G (c.fact 76 (f := .free "tuple") rfl)), (He.free_ok X G (c.fact 77 (f := .free "isinstance") rfl)), (He.free_ok X G (c.fact 78 (f := .free "all") rfl)), (He.free_ok X G (c.fact 79 (f := .free "abs") rfl)), (He.free_ok X G (c.fact 80 (f := .free "int") rfl)), (He.free_ok X G (c.fact 81 (f := .free "str") rfl)), (He.free_ok X G (c.fact 82 (f := .free "bool") rfl)), (He.free_ok X G (c.fact 83 (f := .free "enumerate") rfl)), (He.free_ok X G (c.fact 84 (f := .free "sum") rfl))⟩
    T := ⟨He.str_ok X G (c.fact 86 (f := .str "LETTERS" (ST lettersW)) rfl), He.str_ok X G (c.fact 87 (f := .str "BLANK" (ST [32])) rfl), He.str_ok X G (c.fact 88 (f := .str "BREAK" (ST [44, 32])) rfl), He.str_ok X G (c.fact 89 (f := .str "NONE" (ST [45])) rfl), He.str_ok X G (c.fact 90 (f := .str "NOTHING" (ST noneW)) rfl), He.int_ok X G (c.fact 91 (f := .int "DOUBLE_between" 2) rfl)⟩
    T2 := ⟨⟨_, (He.glo_ok X G (c.fact 64 (f := .glo "BARE") rfl)), words_ok x11⟩, ⟨_, (He.glo_ok X G (c.fact 65 (f := .glo "SINGLE") rfl)), words_ok x12⟩, ⟨_, (He.glo_ok X G (c.fact 66 (f := .glo "NUMBERS") rfl))⟩, ⟨_, (He.glo_ok X G (c.fact 67 (f := .glo "DOUBLE_desk") rfl)), words_ok x13⟩⟩
    GF := ⟨(He.glo_ok X G (c.fact 58 (f := .glo "Gallery") rfl)), scls_ok x1, slot_ok x2 (by decide), slot_ok x3 (by decide)⟩
    XM := { kk := He.exm_ok (c.fact 101 (f := .exm "Known" "Known" true) rfl), nk := He.exm_ok (c.fact 102 (f := .exm "NoWay" "Known" false) rfl), nn := He.exm_ok (c.fact 103 (f := .exm "NoWay" "NoWay" true) rfl), dk := He.exm_ok (c.fact 104 (f := .exm "NothingDone" "Known" false) rfl), dn := He.exm_ok (c.fact 105 (f := .exm "NothingDone" "NoWay" false) rfl), dd := He.exm_ok (c.fact 106 (f := .exm "NothingDone" "NothingDone" true) rfl), kn := He.exm_ok (c.fact 107 (f := .exm "Known" "NoWay" false) rfl), kd := He.exm_ok (c.fact 108 (f := .exm "Known" "NothingDone" false) rfl), nd := He.exm_ok (c.fact 109 (f := .exm "NoWay" "NothingDone" false) rfl) }
    gKnown := (He.glo_ok X G (c.fact 59 (f := .glo "Known") rfl))
    gNoWay := (He.glo_ok X G (c.fact 60 (f := .glo "NoWay") rfl))
    gNothingDone := (He.glo_ok X G (c.fact 61 (f := .glo "NothingDone") rfl))
    gBadText := (He.glo_ok X G (c.fact 62 (f := .glo "BadText") rfl))
    TK := TKnown
    evK := EKnown
    TN := TNoWay
    evN := ENoWay
    ND := nd_ok (He.glo_ok X G (c.fact 61 (f := .glo "NothingDone") rfl)) x9
    DI := DI
    same := al
    dn := fun n x i e => match n, x, i, e with
      | 0, _, _, e => pick2 (P := fun x i => Dn K mg x i) e t0
      | 1, _, _, e => pick2 (P := fun x i => Dn K mg x i) e t1
      | 2, _, _, e => pick2 (P := fun x i => Dn K mg x i) e t2
      | 3, _, _, e => pick2 (P := fun x i => Dn K mg x i) e t3
      | 4, _, _, e => pick2 (P := fun x i => Dn K mg x i) e t4
      | 5, _, _, e => pick2 (P := fun x i => Dn K mg x i) e t5
      | 6, _, _, e => pick2 (P := fun x i => Dn K mg x i) e t6
      | 7, _, _, e => pick2 (P := fun x i => Dn K mg x i) e t7
      | 8, _, _, e => pick2 (P := fun x i => Dn K mg x i) e t8
      | 9, _, _, e => pick2 (P := fun x i => Dn K mg x i) e t9
      | 10, _, _, e => pick2 (P := fun x i => Dn K mg x i) e t10
      | 11, _, _, e => pick2 (P := fun x i => Dn K mg x i) e t11
      | 12, _, _, e => pick2 (P := fun x i => Dn K mg x i) e t12
      | 13, _, _, e => pick2 (P := fun x i => Dn K mg x i) e t13
      | 14, _, _, e => pick2 (P := fun x i => Dn K mg x i) e t14
      | 15, _, _, e => pick2 (P := fun x i => Dn K mg x i) e t15
      | 16, _, _, e => pick2 (P := fun x i => Dn K mg x i) e t16
      | 17, _, _, e => pick2 (P := fun x i => Dn K mg x i) e t17
      | 18, _, _, e => pick2 (P := fun x i => Dn K mg x i) e t18
      | 19, _, _, e => pick2 (P := fun x i => Dn K mg x i) e t19
      | 20, _, _, e => pick2 (P := fun x i => Dn K mg x i) e t20
      | 21, _, _, e => pick2 (P := fun x i => Dn K mg x i) e t21
      | 22, _, _, e => pick2 (P := fun x i => Dn K mg x i) e t22
      | 23, _, _, e => pick2 (P := fun x i => Dn K mg x i) e t23
      | 24, _, _, e => pick2 (P := fun x i => Dn K mg x i) e t24
      | 25, _, _, e => pick2 (P := fun x i => Dn K mg x i) e t25
      | 26, _, _, e => pick2 (P := fun x i => Dn K mg x i) e t26
      | 27, _, _, e => pick2 (P := fun x i => Dn K mg x i) e t27
      | 28, _, _, e => pick2 (P := fun x i => Dn K mg x i) e t28
      | 29, _, _, e => pick2 (P := fun x i => Dn K mg x i) e t29
      | 30, _, _, e => pick2 (P := fun x i => Dn K mg x i) e t30
      | 31, _, _, e => pick2 (P := fun x i => Dn K mg x i) e t31
      | 32, _, _, e => pick2 (P := fun x i => Dn K mg x i) e t32
      | 33, _, _, e => pick2 (P := fun x i => Dn K mg x i) e t33
      | 34, _, _, e => pick2 (P := fun x i => Dn K mg x i) e t34
      | 35, _, _, e => pick2 (P := fun x i => Dn K mg x i) e t35
      | 36, _, _, e => pick2 (P := fun x i => Dn K mg x i) e t36
      | 37, _, _, e => pick2 (P := fun x i => Dn K mg x i) e t37
      | 38, _, _, e => pick2 (P := fun x i => Dn K mg x i) e t38
      | 39, _, _, e => pick2 (P := fun x i => Dn K mg x i) e t39
      | 40, _, _, e => pick2 (P := fun x i => Dn K mg x i) e t40
      | 41, _, _, e => pick2 (P := fun x i => Dn K mg x i) e t41
      | 42, _, _, e => pick2 (P := fun x i => Dn K mg x i) e t42
      | 43, _, _, e => pick2 (P := fun x i => Dn K mg x i) e t43
      | 44, _, _, e => pick2 (P := fun x i => Dn K mg x i) e t44
      | 45, _, _, e => pick2 (P := fun x i => Dn K mg x i) e t45
      | 46, _, _, e => pick2 (P := fun x i => Dn K mg x i) e t46
      | 47, _, _, e => pick2 (P := fun x i => Dn K mg x i) e t47
      | 48, _, _, e => pick2 (P := fun x i => Dn K mg x i) e t48
      | 49, _, _, e => pick2 (P := fun x i => Dn K mg x i) e t49
      | 50, _, _, e => pick2 (P := fun x i => Dn K mg x i) e t50
      | 51, _, _, e => pick2 (P := fun x i => Dn K mg x i) e t51
      | 52, _, _, e => pick2 (P := fun x i => Dn K mg x i) e t52
      | 53, _, _, e => pick2 (P := fun x i => Dn K mg x i) e t53
      | 54, _, _, e => pick2 (P := fun x i => Dn K mg x i) e t54
      | 55, _, _, e => pick2 (P := fun x i => Dn K mg x i) e t55
      | 56, _, _, e => pick2 (P := fun x i => Dn K mg x i) e t56
      | 57, _, _, e => pick2 (P := fun x i => Dn K mg x i) e t57
      | n + 58, x, i, e => nomatch (show (none : Option (Str × Nat)) = some (x, i) from e)
    dm := fun n x q i e => match n, x, q, i, e with
      | 0, _, _, _, e => pick3 (P := fun x q i => Dm K (ga K "Gallery") x q i) e m0
      | 1, _, _, _, e => pick3 (P := fun x q i => Dm K (ga K "Gallery") x q i) e m1
      | 2, _, _, _, e => pick3 (P := fun x q i => Dm K (ga K "Gallery") x q i) e m2
      | 3, _, _, _, e => pick3 (P := fun x q i => Dm K (ga K "Gallery") x q i) e m3
      | 4, _, _, _, e => pick3 (P := fun x q i => Dm K (ga K "Gallery") x q i) e m4
      | 5, _, _, _, e => pick3 (P := fun x q i => Dm K (ga K "Gallery") x q i) e m5
      | 6, _, _, _, e => pick3 (P := fun x q i => Dm K (ga K "Gallery") x q i) e m6
      | 7, _, _, _, e => pick3 (P := fun x q i => Dm K (ga K "Gallery") x q i) e m7
      | n + 8, x, q, i, e => nomatch (show (none : Option (Str × Str × Nat)) = some (x, q, i) from e)
    dp := fun n x q i e => match n, x, q, i, e with
      | 0, _, _, _, e => pick3 (P := fun x q i => Dp' K (ga K "Gallery") x q i) e p0
      | 1, _, _, _, e => pick3 (P := fun x q i => Dp' K (ga K "Gallery") x q i) e p1
      | 2, _, _, _, e => pick3 (P := fun x q i => Dp' K (ga K "Gallery") x q i) e p2
      | n + 3, x, q, i, e => nomatch (show (none : Option (Str × Str × Nat)) = some (x, q, i) from e) }
end
end Mir
/-! part Z4 -/
set_option Elab.async false
set_option linter.all false
set_option maxRecDepth 100000
set_option maxHeartbeats 0
namespace Mir
open PySem PySem.Spec PyProof.Rows L2 Evl He
theorem lawX {K : PySem.W.Frag} {h : Heap} {mg : Str → Option Value} (X : K.In h) (G : h.Ns mainGlobals mg) (s : SaysX K) : ∃ fd, FnP K "law" (top 98) (ga K "law") fd ∧ mg "law" = some (.ref (ga K "law")) := by
  obtain ⟨fd, Fd⟩ := s.2.2.def_ 56 (d := ⟨("law", none), "law", "law", defArgs (top 98), defBody (top 98), defScope (top 98), [], []⟩) rfl
  exact ⟨fd, Fd, He.glo_ok X G (s.2.2.fact 56 (f := .glo "law") rfl)⟩
theorem factsL {P : Program} {w : World} {K : PySem.W.Frag} {h : Heap} {mg : Str → Option Value} {f : Addr} (hP : P = PR) (X : K.In h) (G : h.Ns mainGlobals mg) (hfa : mg ("law" : Str) = some (.ref f)) (c : SaysX K) :
    ∃ fd : FuncData, (∀ (s : Shared) (v : Value), BindsTo s fd ⟨[v], []⟩ [("_law_script", v)]) ∧ ∀ base : Heap, K.In base → base.Ns mainGlobals mg → FnOk P w K mg base CX0 13 f fd ["_law_script"] (sp_law K) := by
  subst hP
  obtain ⟨fd, F, g⟩ := lawX X G c
  have e := hfa.symm.trans g
  cases e
  have b := FunD.bindsA (ps := ["_law_script"]) F fun _ _ _ _ _ _ us hl => match us, hl with | [_], _ => rfl
  exact ⟨fd, fun s v => b s [v] rfl, fun base _ _ => all_law (factsX X G c) F⟩
end Mir
open PySem PySem.W PySem.Calls PyProof.Rows
theorem PySem.Challenge.cw_mirrordoors_k71_whole_a_desk_beside_a_ga_holds : PySem.Challenge.rw_mirrordoors_k71_whole_a_desk_beside_a_ga.Holds := by
  w_on; o_law
  refine HandSHeadRun.head_any (r := OpenLaw.row PySem.Challenge.rw_mirrordoors_k71_whole_a_desk_beside_a_ga) (q := view (OpenLaw.row PySem.Challenge.rw_mirrordoors_k71_whole_a_desk_beside_a_ga).prog [98]) (H := Mir.hk) (ob := Mir.ob) (M := 20000) (loose := Mir.loose) (d := HandSHeadRun.topDef (OpenLaw.row PySem.Challenge.rw_mirrordoors_k71_whole_a_desk_beside_a_ga).prog 98) (kwd := []) Mir.ob_eq
    (by kernel_rfl) (fun s => by kernel_rfl) Mir.runH (by kernel_rfl) (by kernel_rfl) (by kernel_rfl) (by rfl) (by first | assumption | decide +kernel) (by decide +kernel) ⟨rfl, rfl, rfl, rfl, rfl, by decide +kernel⟩ ?hw ?hc
  case hw => w_witness2
  case hc =>
    refine L2.walk_ofE (l := PySem.Challenge.rw_mirrordoors_k71_whole_a_desk_beside_a_ga) (n := 63) (k := 13) (x := "_law_script") (CX := L2.CX0) rfl (by decide) (by kernel_rfl) ⟨rfl, by decide, by decide⟩ ?F (fun _ _ _ _ z => z)
    intro w mg fa h Y G hmg0
    obtain ⟨K, KX, c⟩ := Y
    have hmg : mg ("law" : PySem.Str) = some (.ref fa) := by
      have e : (HandSHeadRun.topDef (OpenLaw.row PySem.Challenge.rw_mirrordoors_k71_whole_a_desk_beside_a_ga).prog 98).name = ("law" : PySem.Str) := by kernel_rfl
      rw [← e]
      exact hmg0
    obtain ⟨fd, hb, hF⟩ := Mir.factsL (P := (PySem.Challenge.rw_mirrordoors_k71_whole_a_desk_beside_a_ga).prog) (w := w) rfl KX G hmg c
    exact ⟨K, fd, Mir.sp_law K, KX, hb, fun H a ns hl _ hS => ⟨a, ns, rfl, hS, hl, fun _ _ => rfl⟩, hF⟩
