import PyProof.Rows.All
import Wide.All
import OpenK.AllK
import Wide.FinOn
import KE.KStateDown
import HandS.ForMost
import HandS.ForExc
import HandS.Evl
import HandS.Walk
import HandS.More
import HandS.Flow
import HandS.Style
import HandS.IsInst
import HandS.ExcInit
import HandS.ExcField
import HandS.TryMany
import HandS.Conv
import HandS.DictComp
import HandS.OwnEq
import HandS.Defaults
import HandS.Head0
import HandS.Head1
import HandS.Head2
import HandS.HeadEnd
import HandS.HeadHook1
import HandS.HeadHook2
import HandS.HeadHook3
import HandS.HeadHook4
import HandS.MakeKwOnly
import HandS.Codes
import KE.KExcIs
import HandS.ExcIs
import HandS.TupAny
import HandS.Deep
import HandS.Star
import PyProof.ExcBaseAll.ValueError
import HandS.ExcOwn
import PySem.Challenge.RW_bothfree_k48_whole_counts_by_all_lots
import HandS.Ends
set_option Elab.async false
set_option linter.all false
set_option maxRecDepth 100000
set_option maxHeartbeats 0
/-! Bf: what all laws share: callees by name, the well as an abstract thing. -/
namespace Bf
open PySem PySem.Spec PyProof.Rows L2
/-! ### a callee of the module, by its name -/
def Cal (P : Program) (w : World) (K : PySem.W.Frag) (mg : Str → Option Value) (base : Heap) (CX : CXT) (k : Nat) (x : Str) (ps : List Str) (sp : Sp) : Prop :=
  ∃ (f : Addr) (fd : FuncData), FnOk P w K mg base CX k f fd ps sp ∧ mg x = some (.ref f) ∧ PySem.W.keepIn K (.ref f) = true ∧ Binds K fd ps []
section
variable {P : Program} {w : World} {K : PySem.W.Frag} {mg : Str → Option Value} {base : Heap} {CX : CXT} {k : Nat} {x : Str} {ps : List Str} {sp sp' : Sp}
theorem Cal.imp (C : Cal P w K mg base CX k x ps sp) (h : ∀ vs H Q E, sp' vs H Q E → sp vs H Q E) : Cal P w K mg base CX k x ps sp' := by
  obtain ⟨f, fd, F, g, kp, b⟩ := C
  exact ⟨f, fd, F.imp h, g, kp, b⟩
theorem Cal.mono {j : Nat} (C : Cal P w K mg base CX j x ps sp) (h : j ≤ k) : Cal P w K mg base CX k x ps sp := by
  obtain ⟨f, fd, F, g, kp, b⟩ := C
  exact ⟨f, fd, F.mono h, g, kp, b⟩
end
section
variable {X : Cx} {CX : CXT} {k : Nat} {ps : List Str} {sp : Sp} {E : XK} {x : Str} {p pos : Pos} {e : Expr} {es : List Expr} {t : TA}
theorem pe_cal (C : Cal X.prog X.w X.K X.mg X.base CX k x ps sp) (hr : Room k X.A) (hx : Passes CX X E) (ha : PA X (e :: es) t) (hg : Gl X x := by rfl)
    (hdb : (x == ("__debug__" : Str)) = false := by decide) (he : starEach (e :: es) X.env = (false, eval e X.env) :: starEach es X.env := by rfl) (hpl : (backTo pos (starEach es X.env)).any (·.1) = false := by rfl) :
    PE X (.Call (.Name x p) (e :: es) [] pos) (tCall sp [] E t) := by
  obtain ⟨f, fd, F, g, kp, b⟩ := C
  exact pe_call F hr hg g kp b .nil hx ha hdb he hpl
theorem pe_calS {E : L2.St → XK} (C : Cal X.prog X.w X.K X.mg X.base CX k x ps sp) (hr : Room k X.A) (hx : ∀ σ, PassesAt CX X σ (E σ)) (ha : PA X (e :: es) t) (hg : Gl X x := by rfl)
    (hdb : (x == ("__debug__" : Str)) = false := by decide) (he : starEach (e :: es) X.env = (false, eval e X.env) :: starEach es X.env := by rfl) (hpl : (backTo pos (starEach es X.env)).any (·.1) = false := by rfl) :
    PE X (.Call (.Name x p) (e :: es) [] pos) (tCallS sp E t) := by
  obtain ⟨f, fd, F, g, kp, b⟩ := C
  exact pe_callS F hr hg g kp b hx ha hdb he hpl
end
/-! ### the well -/
def wellO (a : Addr) : HO := .ext fun h => ∃ (i j k : Int) (t u v : Tok) (n : Nat), h.get? a = some { cls := .type "list", data := .seq #[.int i t, .int j u, .int k v] n }
abbrev wl (i j k : Int) : HO := .lst [.int i, .int j, .int k]
theorem wellO_own {a x : Addr} : wellO a ≠ .own x := fun z => by
  have z' : HO.ext _ = HO.own x := z
  cases z'
theorem wellO_tup {a : Addr} {xs : List V} : wellO a ≠ .tup xs := fun z => by
  have z' : HO.ext _ = HO.tup xs := z
  cases z'
section
variable {P : Program} {w : World} {H : Hp} {h : Heap} {a : Addr}
theorem hok_swap {o o' : HO} (ok : HOk P w H h) (e : H a = some o) (no : ∀ x, o ≠ .own x) (nt : ∀ xs, o ≠ .tup xs) (new : ObjOk P w (upd H a o') h a o') : HOk P w (upd H a o') h := fun b u q => by
  by_cases hb : b = a
  · subst hb; rw [upd_same] at q; cases q; exact new
  · rw [upd_ne hb] at q
    exact (ok b u q).stay (fun c v _ z => z) (fun c hc => by rw [upd_ne (at_ne e hc (no b))]; exact hc) (fun c xs hc => by rw [upd_ne (at_ne e hc (nt xs))]; exact hc)
theorem well_in (ok : HOk P w H h) (e : H a = some (wellO a)) : ∃ i j k, HOk P w (upd H a (wl i j k)) h := by
  have x : ObjOk P w H h a (.ext fun h => ∃ (i j k : Int) (t u v : Tok) (n : Nat), h.get? a = some { cls := .type "list", data := .seq #[.int i t, .int j u, .int k v] n }) := ok a _ e
  obtain ⟨⟨i, j, k, t, u, v, n, q⟩, _, _⟩ := x
  refine ⟨i, j, k, hok_swap ok e (fun _ => wellO_own) (fun _ => wellO_tup) ⟨by show 3 ≤ sizeLine; decide, [.int i t, .int j u, .int k v], n, .cons ⟨t, rfl⟩ (.cons ⟨u, rfl⟩ (.cons ⟨v, rfl⟩ .nil)), q⟩⟩
theorem well_of {i j k : Int} {H' : Hp} (x : ObjOk P w H h a (wl i j k)) : ObjOk P w H' h a (wellO a) := by
  obtain ⟨_, its, n, r, e⟩ := x
  cases r with
  | cons r1 r => cases r with
    | cons r2 r => cases r with
      | cons r3 r => cases r with
        | nil =>
          obtain ⟨t, rfl⟩ := r1
          obtain ⟨u, rfl⟩ := r2
          obtain ⟨v, rfl⟩ := r3
          exact ⟨⟨i, j, k, t, u, v, n, e⟩, ⟨_, e⟩, fun h1 h2 z kk => by
            obtain ⟨i, j, k, t, u, v, n, e⟩ := z
            exact ⟨i, j, k, t, u, v, n, kk _ e⟩⟩
theorem well_out {i j k : Int} (ok : HOk P w (upd H a (wl i j k)) h) : HOk P w (upd H a (wellO a)) h := by
  have q := hok_swap (o' := wellO a) ok upd_same (fun _ z => by cases z) (fun _ z => by cases z) (well_of (ok a _ upd_same))
  rw [upd_upd] at q
  exact q
theorem upd_self {o : HO} (e : H a = some o) : upd H a o = H := by
  funext b
  by_cases hb : b = a
  · rw [hb, upd_same, e]
  · rw [upd_ne hb]
theorem un_back {fs : List Addr} {h' : Heap} {o l1 l2 : HO} (e : H a = some o) (u : Un fs [] (upd H a l1) (upd H a l2) h h') : Un fs [] H H h h' where
  keep := fun b o q n hf hx => u.keep b o q (by rw [upd_ne (ne_of_none e n).symm]; exact n) hf hx
  slot := fun b o q n hf hx => u.slot b o q (by rw [upd_ne (ne_of_none e n).symm]; exact n) hf hx
  free := fun _ _ _ n _ => n
  there := u.there
  tups := fun _ _ q => q
  frzs := fun _ _ _ q => q
  tbls := fun _ _ q => ⟨#[], by rw [q]; simp⟩
theorem un_new {fs : List Addr} {h' : Heap} {l1 l2 : HO} (e : H a = none) (u : Un fs [] H (upd H a l1) h h') : Un fs [] H (upd H a l2) h h' where
  keep := u.keep
  slot := u.slot
  free := fun b o q n hx => by
    have z := u.free b o q n hx
    have hb : b ≠ a := fun hb => by
      rw [hb, upd_same] at z
      cases z
    rw [upd_ne hb]
    exact n
  there := u.there
  tups := fun b xs q => by rw [upd_ne (ne_of_none q e)]; exact q
  frzs := fun b o v q => by rw [upd_ne (ne_of_none q e)]; exact q
  tbls := fun b ps q => ⟨#[], by rw [upd_ne (ne_of_none q e), q]; simp⟩
end
/-- draw, the well told -/
def spDraw0 : Sp := fun vs H Q _ => ∃ (a : Addr) (i j k n : Int), vs = [.ref a, .int n] ∧ H a = some (wl i j k) ∧ 0 < n ∧ n < 1073741824 ∧ ∀ d i' j' k' : Int, 0 ≤ d → d < n → Q (.int d) (upd H a (wl i' j' k'))
/-- draw, the well a thing of its own -/
def spDraw : Sp := fun vs H Q _ => ∃ (a : Addr) (n : Int), vs = [.ref a, .int n] ∧ H a = some (wellO a) ∧ 0 < n ∧ n < 1073741824 ∧ ∀ d : Int, 0 ≤ d → d < n → Q (.int d) H
def spSource0 : Sp := fun vs H Q _ => ∃ n : Int, vs = [.int n] ∧ ∀ (p : Addr) (i j k : Int), H p = none → Q (.ref p) (upd H p (wl i j k))
def spSource : Sp := fun vs H Q _ => ∃ n : Int, vs = [.int n] ∧ ∀ p : Addr, H p = none → Q (.ref p) (upd H p (wellO p))
section
variable {P : Program} {w : World} {K : PySem.W.Frag} {mg : Str → Option Value} {base : Heap} {k : Nat} {f : Addr} {fd : FuncData} {ps : List Str}
theorem draw_abs (hp : ps.length = 2) (F : FnOk P w K mg base CX0 k f fd ps spDraw0) : FnOk P w K mg base CX0 k f fd ps spDraw := by
  refine ⟨fun vs H Q E h => ?_, fun A outer s H args us vs Q E hr e0 hb hv hsp => ?_⟩
  · obtain ⟨a, n, rfl, _⟩ := h
    exact hp.symm
  · obtain ⟨a, n, rfl, ha, h0, h1, q⟩ := hsp
    obtain ⟨i, j, k, hok1⟩ := well_in e0.hok ha
    have na : ∀ {b : Addr}, H b = none → b ≠ a := fun n => (ne_of_none ha n).symm
    have e1 : Env0 P w K mg base A outer s (upd H a (wl i j k)) := ⟨e0.frames, e0.mod, fun b o e => ⟨(e0.bs b o e).1, by rw [upd_ne (na (e0.bs b o e).2)]; exact (e0.bs b o e).2⟩, e0.bsz, e0.funs, fun b hb => by rw [upd_ne (na (e0.frf b hb))]; exact e0.frf b hb, hok1, e0.bare⟩
    refine codeAny_mono (F.run A outer s _ args us _ (fun v H' => ∃ d i' j' k' : Int, v = .int d ∧ 0 ≤ d ∧ d < n ∧ H' = upd H a (wl i' j' k')) E hr e1 hb hv ⟨a, i, j, k, n, rfl, upd_same, h0, h1, fun d i' j' k' d0 d1 => ⟨d, i', j', k', rfl, d0, d1, upd_upd⟩⟩) fun r s' h => ?_
    cases r with
    | error e => exact h
    | ok fl => cases fl with
      | ret u =>
        obtain ⟨v, H', os, bare, un, hok, rv, d, i', j', k', rfl, d0, d1, rfl⟩ := h
        have z := well_out hok
        rw [upd_self ha] at z
        exact ⟨.int d, H, os, bare, un_back ha un, z, rv, q d d0 d1⟩
      | next => exact h
      | brk => exact h
      | cont => exact h
theorem source_abs (hp : ps.length = 1) (F : FnOk P w K mg base CX0 k f fd ps spSource0) : FnOk P w K mg base CX0 k f fd ps spSource := by
  refine ⟨fun vs H Q E h => ?_, fun A outer s H args us vs Q E hr e0 hb hv hsp => ?_⟩
  · obtain ⟨n, rfl, _⟩ := h
    exact hp.symm
  · obtain ⟨n, rfl, q⟩ := hsp
    refine codeAny_mono (F.run A outer s _ args us _ (fun v H' => ∃ (p : Addr) (i j k : Int), v = .ref p ∧ H p = none ∧ H' = upd H p (wl i j k)) E hr e0 hb hv ⟨n, rfl, fun p i j k hp => ⟨p, i, j, k, rfl, hp, rfl⟩⟩) fun r s' h => ?_
    cases r with
    | error e => exact h
    | ok fl => cases fl with
      | ret u =>
        obtain ⟨v, H', os, bare, un, hok, rv, p, i, j, k, rfl, hp, rfl⟩ := h
        exact ⟨.ref p, _, os, bare, un_new hp un, well_out hok, rv, q p hp⟩
      | next => exact h
      | brk => exact h
      | cont => exact h
end
end Bf
/-! Bf, rules that were lacking: several clauses with names, an own == with either answer and its !=, sorted of a tuple of texts, == of dicts of data, a tuple turned about. -/
namespace Bf
open PySem PySem.Spec PyProof.Rows L2
/-! ### try: several clauses, each with a name -/
/-- behind the suite the name's slot i is empty -/
def offA (D : Ends) (i : Nat) : Ends :=
  { nx := fun τ G => D.nx (τ.set i none) G,
    rt := D.rt,
    bk := fun τ G => D.bk (τ.set i none) G,
    ct := fun τ G => D.ct (τ.set i none) G }
abbrev ClA := Value × Nat × (Addr → Value → Option Addr → TS)
def wNam (K : PySem.W.Frag) (Wo : WX) (D : Ends) : List ClA → WX
  | [] => Wo
  | (c, i, ts) :: r => fun cl d τ G =>
      ∃ b, PySem.W.exmOne K cl c = some b ∧
        (b = true → ∀ a, G a = none → ts a cl d (offA D i) (τ.set i (some (.ref a))) G) ∧
        (b = false → wNam K Wo D r cl d τ G)
inductive ClsA (X : Cx) : List ExceptHandler → List ClA → Prop
  | nil : ClsA X [] []
  | cons {x n : Str} {c : Value} {i : Nat} {ts : Addr → Value → Option Addr → TS} {b0 : Stmt} {su : List Stmt} {np ps : Pos} {hs : List ExceptHandler} {l : List ClA}
      (hc : Names X x c) (hi : X.N[i]? = some n) (hl : X.env.kindOf n = some .local)
      (hsu : ∀ (a : Addr) (oe : Obj) (cl : Value) (d : Option Addr) (pn : List (Addr × Obj)), Zc cl d oe → (∃ vs, oe.data = .fields vs) →
        PSs (X.suite a ((a, oe) :: pn)) (b0 :: su) (ts a cl d)) (r : ClsA X hs l) :
      ClsA X (.ExceptHandler (some (.Name x np)) (some n) (b0 :: su) ps :: hs) ((c, i, ts) :: l)
section
variable {X : Cx} {body : List Stmt} {h0 : ExceptHandler} {hds : List ExceptHandler} {l : List ClA} {pos : Pos} {tb : WX → TS} {Wo : WX}
theorem ps_try_nam (hs : X.stack = X.env :: X.outer) (hf : X.env.frame = some X.env.locals) (hN : X.N.Nodup) (tk : Takes X Wo)
    (hb : ∀ (W : WX) (pn : List (Addr × Obj)) (xe : Value → Shared → Prop), Takes (X.tr pn xe) W → PassesOwn (model X.prog X.w) X.A X.env xe →
      PSs (X.tr pn xe) body (tb W)) (hh : ClsA X (h0 :: hds) l) :
    PS X (.Try body (h0 :: hds) [] [] pos) (fun D τ G => tb (wNam X.K Wo D l) D τ G) := by
  refine ⟨fun pins s τ G D I h => wpAny_Try_except ?_⟩
  have ok := I.ok
  have frs_eq : X.A.frames = some (X.env :: X.outer) := by rw [ok.frames, hs]
  refine wpAny_mono ((hb (wNam X.K Wo D l) (X.pn ++ pins) (fun e t1 => wpAny (model X.prog X.w) X.A (noteFrame e X.env) (fun _ t2 =>
      wpAny (model X.prog X.w) X.A (setFlight e none) (fun _ t3 => wpAny (model X.prog X.w) X.A (handleBy e X.env (h0 :: hds)) (SP X pins D) X.xe t3) X.xe t2) X.xe t1)
    (fun u s' xx => ?_) PassesOwn.looking).run [] s τ G D (I.toTry _) h) (fun f t1 hsp => ?_) (fun _ _ he => he)
  · obtain ⟨a, B, sI, pins', τ', G', cl, d, rfl, J0, nb, up, sky, na, os, ag, w⟩ := xx
    have J : Inv X pins τ' G' sI := J0.ofTry ok
    have sky1 : Sky B (X.env :: X.outer) a (Zc cl d) X.env.locals s'.heap := by rw [← hs]; exact sky
    show wpAny (model X.prog X.w) X.A (noteFrame (.ref a) X.env) _ _ _
    refine Sky.land Zc.steady frs_eq hf sky1 fun g3 fl up3 => ?_
    have J3 : Inv X pins τ' G' { s' with heap := g3 } := J.landed nb fl.1 (up.trans up3) os ag
    obtain ⟨o3, v3, q3, z3, d3⟩ := fl.there
    have out : a ∉ frs (X.env :: X.outer) := fun hm => by
      obtain ⟨_, o', e', hnf⟩ := fl.2.2.1.mem hm
      rw [q3] at e'; cases e'
      exact hnf _ d3
    have nL : a ≠ X.env.locals := fun z => out (List.mem_filterMap.mpr ⟨X.env, List.mem_cons_self, by rw [hf, z]⟩)
    have nF : a ∉ X.fs := fun hm => by
      obtain ⟨e, he, q⟩ := List.mem_filterMap.mp hm
      exact out (List.mem_filterMap.mpr ⟨e, List.mem_cons_of_mem _ he, q⟩)
    have S3 := J3.suite q3 d3 na nL nF
    have all : ∀ {hl : List ExceptHandler} {m : List ClA}, ClsA X hl m → wNam X.K Wo D m cl d τ' G' →
        wpAny (model X.prog X.w) X.A (handleBy (.ref a) X.env hl) (SP X pins D) X.xe { s' with heap := g3 } := by
      intro hl m hk
      induction hk with
      | nil =>
        intro w
        refine wpAny_handleBy_nil ?_
        obtain ⟨_, _, _, oe, vs, T, oT, _, he, _, hd, e1, _⟩ := id fl
        unfold PySem.passOn
        refine wpAny_bind (wpAny_field he hd e1 ?_)
        rw [if_neg (show ¬ ((Value.ref T == Value.none) = true) by simp)]
        have last : wpAny (model X.prog X.w) X.A (setFlight (.ref a) X.env.frame) (fun _ t4 =>
            wpAny (model X.prog X.w) X.A (throw (.ref a) : Sem Flow) (SP X pins D) X.xe t4) X.xe { s' with heap := g3 } := by
          rw [hf]
          refine HandSPX.setFlight_upZ fl fun g4 y4 up4 => wpAny_throw (tk _ _ ?_)
          refine ⟨a, B, sI, pins, τ', G', cl, d, rfl, J, nb, (up.trans up3).trans up4, .inr (.inr ?_), na, os, ag, w⟩
          rw [hs]
          exact y4
        first
          | exact wpAny_bind (wpAny_pure (wpAny_bind last))
          | exact wpAny_bind last
      | @cons x n c i ts b0 su np ps hs2 l2 hc hi hl hsu r ih =>
        intro w
        obtain ⟨b, eb, yes, no⟩ := w
        refine wpAny_handleBy_cons (codeAny_handlers_test ?_) (by intro q; cases q)
        have ty : PySem.W.Looks (model X.prog X.w) g3 (typeOf (.ref a)) cl := fun A Q E s k q =>
          wpAny_typeOf_ref (k _ _ q3) (by rw [z3.1]; exact q)
        have hit := PySem.W.exm_one (M := model X.prog X.w) (J3.kIn) ty eb
        have test : ∀ {Q : Value → Shared → Prop} {E : Value → Shared → Prop}, Q c { s' with heap := g3 } →
            wpAny (model X.prog X.w) (X.A.mark (some (.ref a))) (eval (.Name x np) X.env) Q E { s' with heap := g3 } := fun {Q E} q => by
          obtain ⟨hg, dbg, hm | ⟨hm, hv, hnn⟩⟩ := hc
          · exact ld_glob (X := X.suite a ((a, o3) :: (X.pn ++ pins))) S3 hg hm q dbg
          · exact ld_blt (X := X.suite a ((a, o3) :: (X.pn ++ pins))) S3 hg hm hv q hnn dbg
        refine test (hit.here ?_)
        cases b with
        | false => exact ih (no rfl)
        | true =>
          refine codeAny_handlers_suite_as (HandSPX.lands_againZ fl fun g4 fl4 up4 => ?_)
          have J4 : Inv X pins τ' G' { s' with heap := g4 } := J.landed nb fl4.1 ((up.trans up3).trans up4) os ag
          obtain ⟨o4, v4, q4, z4, d4⟩ := fl4.there
          have S4 := J4.suite q4 d4 na nL nF
          refine store_ok (X := X.suite a ((a, o4) :: (X.pn ++ pins))) (v := .ref a) S4 hN hi (.inl hl) rfl (fun t5 S5 => ?_) (.inr hl)
          refine wpAny_mono ((hsu a o4 cl d (X.pn ++ pins) z4 ⟨_, d4⟩).run [] t5 _ G' _ S5 (yes rfl a na)) (fun f t6 hsp => ?_) (fun _ _ z => z.elim)
          have fin : ∀ {σ6 : L2.St} {H6 : Hp} {Q : Shared → Prop}, Inv (X.suite a ((a, o4) :: (X.pn ++ pins))) [] σ6 H6 t6 →
              (∀ t7, Inv X pins (σ6.set i none) H6 t7 → Q t7) →
              wpAny (model X.prog X.w) X.A (do bindName X.env n .none; unbindBehindTheSuite X.env n ps) (fun _ t7 => Q t7) X.xe t6 :=
            fun S6 hq => gone_ok (S6.unsuite ok) hN hi hl hq
          cases f with
          | next => obtain ⟨_, _, S6, q6⟩ := hsp; exact fin S6 fun _ J7 => ⟨_, _, J7, q6⟩
          | brk => obtain ⟨_, _, S6, q6⟩ := hsp; exact fin S6 fun _ J7 => ⟨_, _, J7, q6⟩
          | cont => obtain ⟨_, _, S6, q6⟩ := hsp; exact fin S6 fun _ J7 => ⟨_, _, J7, q6⟩
          | ret u => obtain ⟨_, _, _, S6, r6, q6⟩ := hsp; exact fin S6 fun _ J7 => ⟨_, _, _, J7, r6, q6⟩
    exact all hh w
  · cases f with
    | next => obtain ⟨_, _, J1, q⟩ := hsp; exact wpAny_execs_nil ⟨_, _, J1.ofTry ok, q⟩
    | brk => obtain ⟨_, _, J1, q⟩ := hsp; exact ⟨_, _, J1.ofTry ok, q⟩
    | cont => obtain ⟨_, _, J1, q⟩ := hsp; exact ⟨_, _, J1.ofTry ok, q⟩
    | ret u => obtain ⟨_, _, _, J1, r, q⟩ := hsp; exact ⟨_, _, _, J1.ofTry ok, r, q⟩
end
/-! ### sorted of a tuple of texts -/
def rSortedTS (K : PySem.W.Frag) : List V → Hp → VK → Prop := fun vs H Q => ∃ (a : Addr) (xs : List Str), vs = [V.ref a] ∧ SqT K H a (xs.map V.str) ∧ xs.length < 64 ∧
  ∀ (ys : List Str) (p : Addr), ys.Perm xs → sortedS ys = true → H p = none → Q (.ref p) (upd H p (.lst (ys.map V.str)))
theorem cr_sortedTS {X : Cx} : CallR X (.builtin "sorted") (rSortedTS X.K) := by
  intro pins s σ H vs us Q I r h
  obtain ⟨a, xs, rfl, hs, h64, q⟩ := h
  obtain ⟨its, rv, ⟨o, ho, hc, n, hd⟩, _⟩ := I.tuple hs
  rw [Vals.ref1 r]
  have hl0 : its.length = xs.length := by
    have e := rv.length
    rw [List.length_map] at e
    exact e.symm
  have hS : StrsAre its xs := rv.strs
  refine Calls.call_function_entry PyProof.Rows.kind_sorted PyProof.Rows.plain_sorted PyProof.Rows.entry_sorted (PyProof.Rows.args_sorted1 _) ?_
  unfold Builtin.«sorted»
  refine wpAny_bind (m := checkCount "sorted" 1 1 _) (wpAny_pure (wpAny_bind (wpAny_collect_seq a (.inr rfl) ho hc hd (fun g hk => ?_) (by simp only [List.size_toArray, sizeLine_eq]; omega))))
  have I1 : Inv X pins σ H { s with heap := g, toks := s.toks } := I.kept hk
  refine wpAny_bind (wpAny_newList ?_ (by simp only [sizeLine_eq]; omega))
  have hoL : (g.push (seqObj "list" its.toArray 0)).get? g.objs.size = some (seqObj "list" its.toArray 0) := Heap.get?_push_size _ rfl
  refine wpAny_bind (wpAny_holding (wpAny_call_entry PyProof.Rows.slot_list_sort ⟨_, hoL, rfl⟩ PyProof.Rows.entry_list_sort
    (list_sort_treeK strKind_oneLt (s := { s with heap := g.push (seqObj "list" its.toArray 0) }) hoL hS.keysOf (fun v₁ v₂ rest e => keyKind_strs (by rw [← e]; exact hS)) (by omega) fun st' hp hq => ⟨_, rfl, ?_⟩) (PyProof.Rows.args_list_sort _)))
  obtain ⟨ys, g1, g2, g3⟩ := sorted_out_str hS hp hq
  obtain ⟨e', he'⟩ := PyProof.Rows.sortedHeap_at (vs := its) (out := (arrOf st').map (·.2)) hoL
  have hlen : (ys.map V.str).length ≤ sizeLine := by
    rw [List.length_map, g2.length_eq, sizeLine_eq]
    omega
  refine wpAny_pure ⟨_, rfl, .ref g.objs.size, upd H g.objs.size (.lst (ys.map V.str)), I1.laid (t' := s.toks) (fun b u e => ?_) (Nat.le_refl _)
    ⟨hlen, ((arrOf st').map (·.2)).toList, e', vals_of_strs g1, by rw [Array.toArray_toList]; exact he'⟩, rfl, q ys _ g2 g3 (I1.hok.fresh (Nat.le_refl _))⟩
  have hb : b < g.objs.size := Heap.lt_size e
  rw [PyProof.Rows.sortedHeap_old (Nat.ne_of_lt hb) (by rw [size_push']; exact Nat.lt_succ_of_lt hb)]
  exact Heap.get?_push_of_some _ e
end Bf
namespace Bf
open PySem PySem.Spec PyProof.Rows L2 HT
/-! ### a pair turned about: t[::-1] -/
section
variable {prog : Program} {w : World} {A : Around} {E : Value → Shared → Prop} {s : Shared}
theorem applied_rev {sl : Addr} {vs : Value} {Q : Int × Int × Nat → Shared → Prop} (hs : s.heap.IsSliceOf sl .none .none vs) (ps : IsPart vs (some (-1))) (h : Q ((1 : Int), -1, 2) s) :
    wpAny (model prog w) A (Builtin.Slice.sliceApplied (.ref sl) (pure ((2 : Nat) : Int))) Q E s := by
  obtain ⟨os, e1, e2, e3⟩ := id hs
  unfold Builtin.Slice.sliceApplied Builtin.Slice.sliceFields
  refine wpAny_bind (wpAny_bind (wpAny_field e1 e3 (x := .none) rfl (wpAny_bind (wpAny_field e1 e3 (x := .none) rfl (wpAny_bind (wpAny_field e1 e3 (x := vs) rfl (wpAny_pure ?_)))))))
  refine wpAny_bind (slicePart_ ps ?_)
  show wpAny _ _ (if ((-1 : Int) == 0) = true then _ else _) _ _ s
  rw [if_neg (by decide)]
  refine wpAny_bind (slicePart_ .none (wpAny_bind (slicePart_ .none (wpAny_bind (wpAny_pure ?_)))))
  exact wpAny_pure h
theorem pair_rev {t sl : Addr} {u v vs : Value} {Q : Value → Shared → Prop} (ht : IsTup s.heap t #[u, v]) (hs : s.heap.IsSliceOf sl .none .none vs) (ps : IsPart vs (some (-1)))
    (h : Q (.ref s.heap.objs.size) { s with heap := s.heap.push { cls := .type "tuple", data := .seq #[v, u] } }) : wpAny (model prog w) A (getItem (.ref t) (.ref sl)) Q E s := by
  obtain ⟨os, e1, e2, e3⟩ := id hs
  have ty : s.TypeIs (.ref sl) "slice" := ⟨os, e1, e2⟩
  have two : sizeOk (.seq (#[v, u] : Array Value)) := by show 2 ≤ sizeLine; decide
  unfold getItem
  try with_reducible refine wpAny_holding ?_
  first | refine wpAny_bind (wpAny_pure ?_) | skip
  refine wpAny_bind (wpAny_sequenceKey ht.typeIs (by decide) (wpAny_bind (wpAny_callSpecial?_slot (name := Str.ofString "__getitem__") ht.typeIs PyProof.Rows.slot_tuple_getitem
    (wpAny_call_entry PyProof.Rows.slot_tuple_getitem ht.typeIs entry_tuple_getitem ?_ (args_tuple_getitem _ _)))))
  show wpAny _ _ (Builtin.Tuple.tupleItemsOf (.ref t) >>= _) _ _ s
  refine wpAny_bind (tupleItemsOf_ ht (wpAny_bind (wpAny_typeOf ty ?_)))
  rw [if_pos (by decide)]
  refine wpAny_bind (applied_rev hs ps ?_)
  show wpAny _ _ (if ((1 : Int) == 0 && (-1 : Int) == 1 && (2 : Nat) == 2) = true then _ else _) _ _ s
  rw [if_neg (by decide)]
  first
    | exact wpAny_bind (m := Builtin.Tuple.tupleExact _) (wpAny_newObj_type (wpAny_pure ⟨_, rfl, wpAny_pure h⟩) two)
    | exact wpAny_bind (m := Builtin.Tuple.tupleExact _) (wpAny_newObj_type (wpAny_bind (wpAny_pure (wpAny_pure ⟨_, rfl, wpAny_pure h⟩))) two)
    | exact wpAny_bind (wpAny_bind (m := Builtin.Tuple.tupleExact _) (wpAny_newObj_type (wpAny_pure (wpAny_pure ⟨_, rfl, wpAny_pure h⟩)) two))
    | exact wpAny_bind (wpAny_bind (m := Builtin.Tuple.tupleExact _) (wpAny_newObj_type (wpAny_pure ⟨_, rfl, wpAny_pure h⟩) two))
end
section
variable {X : Cx}
def tRevP (K : PySem.W.Frag) (te : TE) : TE := fun σ H Q => te σ H fun x H1 => ∃ a u v, x = .ref a ∧ SqT K H1 a [u, v] ∧ ∀ p, H1 p = none → Q (.ref p) (upd H1 p (.tup [v, u]))
theorem pe_revP {e : Expr} {te : TE} {k : Nat} {p1 p2 p3 pos : Pos} (he : PE X e te) : PE X (.Subscript e (.Slice none none (some (.UnaryOp .USub (.Constant (.int 1) k p1) p2)) p3) pos) (tRevP X.K te) := by
  refine ⟨fun pins s σ H Q I h => Subscript_ (thn (he.run pins s σ H _ I h) fun v s1 ⟨x, H1, I1, r1, q1⟩ => ?_)⟩
  obtain ⟨a, u1, u2, ex, hx, q⟩ := q1
  subst ex
  cases r1
  have hst : PO X (some (.UnaryOp .USub (.Constant (.int 1) k p1) p2)) (tPart (tUn (rU fun i => .int (-i)) (tC (.int 1)))) := po_some (pe_un un_neg pe_int)
  refine wpAny_Slice (thn (po_none.run pins s1 σ H1 (fun o G => o = none ∧ G = H1) I1 ⟨rfl, rfl⟩) fun vl s2 ⟨l, H2, I2, pl, el, e2⟩ => ?_)
  subst el e2
  refine thn (po_none.run pins s2 σ H2 (fun o G => o = none ∧ G = H2) I2 ⟨rfl, rfl⟩) fun vu s3 ⟨u, H3, I3, pu, eu, e3⟩ => ?_
  subst eu e3
  refine thn (hst.run pins s3 σ H3 (fun o G => o = some (-1) ∧ G = H3) I3 ⟨1, rfl, -1, rfl, rfl, rfl⟩) fun vs s4 ⟨o, H4, I4, ps, eo, e4⟩ => ?_
  subst eo e4
  have I5 : Inv X pins σ H4 { s4 with heap := s4.heap.push { cls := .type "slice", data := .fields #[vl, vu, vs] } } := I4.kept (t' := s4.toks) fun b ob q => Heap.get?_push_of_some _ q
  obtain ⟨its, r, ht, hz⟩ := I5.tuple hx
  cases r with
  | cons ra r => cases r with
    | cons rb r => cases r with
      | nil =>
        cases pl
        cases pu
        refine tail_any (ops := [.ref a, .ref s4.heap.objs.size]) ht.typeIs (PyProof.Rows.slot_tuple_getitem.lookup) ?_ (by with_unfolding_all rfl)
        refine pair_rev ht (Heap.IsSliceOf.new _ _ _ vs) ps ?_
        refine ⟨.ref _, _, I5.laid (t' := s4.toks) (o := .tup [u2, u1]) (fun b ob q => Heap.get?_push_of_some _ q) (Nat.le_refl _) ?_, rfl, q _ (I5.hok.fresh (Nat.le_refl _))⟩
        exact ⟨by show 2 ≤ sizeLine; decide, _, .cons rb (.cons ra .nil), IsTup.new _ _⟩
end
/-! ### == of dicts whose values are data -/
section
variable {X : Cx} {pins : List (Addr × Obj)} {σ : L2.St} {H : Hp} {s : Shared}
/-- the values told as data -/
def KvD (K : PySem.W.Frag) (H : Hp) : List (Key × V) → List (Key × PyData) → Prop := Paired fun p q => p.1 = q.1 ∧ Dp K H p.2 q.2 ∧ SeqAt.shaped q.2 = true
def look (es : List (Key × PyData)) (k : Key) : Option PyData := (es.find? fun e => decide (e.1 = k)).map (·.2)
def hitsD (es : List (Key × PyData)) : List (Key × PyData) → Bool
  | [] => true
  | (k, d) :: r => match look es k with
    | none => false
    | some e => PyData.eqv d e && hitsD es r
def dictEq (ds es : List (Key × PyData)) : Bool := ds.length == es.length && hitsD es ds
theorem KvD.look_none {K : PySem.W.Frag} {ls : List (Key × V)} {es : List (Key × PyData)} {vb : List (Key × Value)} {k : Key} (h : KvD K H ls es) (r : KV ls vb) (e : look es k = none) : valueAt vb k = none := by
  have z : RelO (valV ls k) (valueAt vb k) := r.val k
  have q : valV ls k = none := by
    unfold KvD at h
    unfold valV
    unfold look at e
    clear z r
    induction h with
    | nil => rfl
    | @cons p q ps qs a t ih =>
      rw [List.find?_cons] at e ⊢
      rw [a.1]
      cases c : decide (q.1 = k) with
      | true =>
        rw [c] at e
        cases e
      | false =>
        rw [c] at e
        exact ih e
  rw [q] at z
  cases y : valueAt vb k with
  | none => rfl
  | some u => rw [y] at z; exact z.elim
theorem KvD.look_some {K : PySem.W.Frag} {ls : List (Key × V)} {es : List (Key × PyData)} {vb : List (Key × Value)} {k : Key} {d : PyData} (h : KvD K H ls es) (r : KV ls vb) (e : look es k = some d) :
    ∃ v u, valueAt vb k = some u ∧ RelV v u ∧ Dp K H v d ∧ SeqAt.shaped d = true := by
  have z : RelO (valV ls k) (valueAt vb k) := r.val k
  have q : ∃ v, valV ls k = some v ∧ Dp K H v d ∧ SeqAt.shaped d = true := by
    unfold KvD at h
    unfold valV
    unfold look at e
    clear z r
    induction h with
    | nil => cases e
    | @cons p q ps qs a t ih =>
      rw [List.find?_cons] at e ⊢
      rw [a.1]
      cases c : decide (q.1 = k) with
      | true =>
        rw [c] at e
        have e' : q.2 = d := Option.some.inj e
        exact ⟨p.2, rfl, e' ▸ a.2.1, e' ▸ a.2.2⟩
      | false =>
        rw [c] at e
        exact ih e
  obtain ⟨v, e1, e2, e3⟩ := q
  rw [e1] at z
  obtain ⟨u, hu, ru⟩ := RelO.some_of z
  exact ⟨v, u, hu, ru, e2, e3⟩
theorem hits_run (I : Inv X pins σ H s) {A : Around} (hu : A.units + 64 < cLine) {ls : List (Key × V)} {es : List (Key × PyData)} {vb : List (Key × Value)} (hb : KvD X.K H ls es) (rb : KV ls vb) :
    ∀ {ks : List (Key × V)} {ds : List (Key × PyData)} {va : List (Key × Value)}, KvD X.K H ks ds → KV ks va → PySem.W.KeqHits A s vb va (hitsD es ds) := by
  intro ks ds va h
  unfold KvD at h
  induction h generalizing va with
  | nil =>
    intro r
    cases r
    exact .nil
  | @cons p q ps qs a t ih =>
    intro r
    cases r with
    | @cons _ z _ zs b rt =>
      obtain ⟨k, d⟩ := q
      obtain ⟨k', v'⟩ := z
      obtain ⟨p1, p2⟩ := p
      obtain ⟨a1, a2, a3⟩ := a
      obtain ⟨b1, b2⟩ := b
      dsimp only at a1 a2 a3 b1 b2
      subst a1 b1
      show PySem.W.KeqHits A s vb ((p1, v') :: zs) (match look es p1 with | none => false | some e => PyData.eqv d e && hitsD es qs)
      cases e : look es p1 with
      | none => exact .miss (hb.look_none rb e)
      | some d2 =>
        obtain ⟨v2, u2, e1, r2, h2, s2⟩ := hb.look_some rb e
        obtain ⟨as, g1⟩ := Dp.reads I d _ _ a2 b2
        obtain ⟨bs, g2⟩ := Dp.reads I d2 _ _ h2 r2
        have c1 := (Bool.and_eq_true_iff.mp (show (d.canLay0 && decide (d.depth ≤ 64)) = true from a3))
        have c2 := (Bool.and_eq_true_iff.mp (show (d2.canLay0 && decide (d2.depth ≤ 64)) = true from s2))
        have c3 := of_decide_eq_true c1.2
        exact .hit e1 (SeqAt.eqAt_reads d d2 A s _ _ as bs g1 g2 c1.1 c2.1 (by omega)) (ih rt)
end
section
variable {X : Cx}
def rEqDD (K : PySem.W.Frag) (neg : Bool) : R2 := fun x y H Q => ∃ a b ks ls ds es, x = .ref a ∧ y = .ref b ∧ Rd H a (.dK ks) ∧ Rd H b (.dK ls) ∧ KvD K H ks ds ∧ KvD K H ls es ∧ Q (.bl (if neg then !dictEq ds es else dictEq ds es)) H
theorem KvD.len {K : PySem.W.Frag} {H : Hp} {ks : List (Key × V)} {ds : List (Key × PyData)} (h : KvD K H ks ds) : ks.length = ds.length := Paired.length h
theorem op_eqDD (hu : X.A.units + 65 < cLine) : OpR X (compareOp .Eq) (rEqDD X.K false) := by
  intro pins s σ H x y v u Q I rx ry h
  obtain ⟨a, b, ks, ls, ds, es, rfl, rfl, ha, hb, h1, h2, q⟩ := h
  obtain rfl : v = Value.ref a := rx
  obtain rfl : u = Value.ref b := ry
  obtain ⟨_, ya, va, ra, da⟩ := (show ObjOk X.prog X.w H s.heap a (.dK ks) from ha.ok I.hok)
  obtain ⟨_, yb, vb, rb, db⟩ := (show ObjOk X.prog X.w H s.heap b (.dK ls) from hb.ok I.hok)
  refine PySem.W.keq_eq (knd := mixKind X.prog X.w) (r := hitsD es ds) ya yb da db (by omega) (fun _ => hits_run I (A := X.A.in1) (by show X.A.units + 1 + 64 < cLine; omega) h2 rb h1 ra) ?_
  refine ⟨.bl _, H, I, rfl, ?_⟩
  have e : (va.length == vb.length) = (ds.length == es.length) := by rw [← ra.length, ← rb.length, h1.len, h2.len]
  rw [e]
  exact q
theorem op_neDD (hu : X.A.units + 65 < cLine) : OpR X (compareOp .NotEq) (rEqDD X.K true) := by
  intro pins s σ H x y v u Q I rx ry h
  obtain ⟨a, b, ks, ls, ds, es, rfl, rfl, ha, hb, h1, h2, q⟩ := h
  obtain rfl : v = Value.ref a := rx
  obtain rfl : u = Value.ref b := ry
  obtain ⟨_, ya, va, ra, da⟩ := (show ObjOk X.prog X.w H s.heap a (.dK ks) from ha.ok I.hok)
  obtain ⟨_, yb, vb, rb, db⟩ := (show ObjOk X.prog X.w H s.heap b (.dK ls) from hb.ok I.hok)
  refine PySem.W.keq_ne (knd := mixKind X.prog X.w) (r := hitsD es ds) ya yb da db (by omega) (fun _ => hits_run I (A := X.A.in1) (by show X.A.units + 1 + 64 < cLine; omega) h2 rb h1 ra) ?_
  refine ⟨.bl _, H, I, rfl, ?_⟩
  have e : (va.length == vb.length) = (ds.length == es.length) := by rw [← ra.length, ← rb.length, h1.len, h2.len]
  rw [e]
  exact q
end
end Bf
namespace Bf
open PySem PySem.Spec PyProof.Rows L2
/-! ### a == b, a != b of two instances of one class with its own __eq__: either answer -/
section
open PySem.W
variable {prog : Program} {w : World} {A : Around} {E : Value → Shared → Prop} {s : Shared} {K : Frag} {x y C f : Addr} {ox oy : Obj} {od oe : Option Obj}
theorem special_blt {M : Model} {name : Str} {id : String} {args : List Value} {Q : Option Value → Shared → Prop} (X : K.In s.heap) (I : InstAt s.heap x ox C od) (hs : findIn K (.ref C) name = some (some (.builtin id)))
    (S : Slot "object" name id) (h : wpAny M A (call (.builtin id) (.ref x :: args)) (fun v => Q (some v)) E s) : wpAny M A (callSpecialIfBound? (.ref x) name args) Q E s := by
  simp only [callSpecialIfBound?, bindSpecialIfBound?]
  refine wpAny_holding (wpAny_bind (wpAny_bind (wpAny_bind (I.type.here ((looks_findIn X hs).here ?_)))))
  simp only [S.bind]
  refine wpAny_bind (wpAny_askSetting (wpAny_ite ?_))
  have last : wpAny M A (call (.builtin id) ([.ref x] ++ args) >>= fun v => pure (some v)) Q E s := wpAny_bind (wpAny_mono h (fun _ _ z => wpAny_pure z) fun _ _ z => z)
  split
  · exact wpAny_bind (wpAny_pure (wpAny_pure last))
  · exact wpAny_tryCatch (wpAny_bind (wpAny_pure (wpAny_pure last)))
theorem ne_entry (X : K.In s.heap) (I : InstAt s.heap x ox C od) (hs : findIn K (.ref C) "__eq__" = some (some (.ref f))) (hf : isFn K (.ref f) = true) (hu : A.units < cLine) {Q : Fin → Shared → Prop}
    (hcall : wpAny (model prog w) A (call (.ref f) [.ref x, .ref y]) (fun v s' => ∃ b, v = .bool b ∧ Q (.done (.ret (.bool (!b)))) s') E s) :
    wpAny (model prog w) A (Builtin.«object.__ne__» ⟨[.ref x, .ref y], []⟩) Q E s := by
  unfold Builtin.«object.__ne__»
  repeat (first
    | with_reducible refine wpAny_cRoomFor hu ?_
    | (refine wpAny_bind (m := callSpecialIfBound? (.ref x) (Str.ofString "__eq__") [.ref y]) (ifBound_K X I hs hf (wpAny_mono hcall (fun r s' hr => by
          obtain ⟨b, rfl, hq⟩ := hr
          repeat (first | exact hq | exact wpAny_pure hq | exact wpAny_truthy_bool hq | (refine wpAny_bind (m := truthy (.bool _)) (wpAny_truthy_bool ?_)) | wp_step)) fun _ _ e => e)))
    | wp_step)
theorem try_ne (X : K.In s.heap) (I : InstAt s.heap x ox C od) (hn : findIn K (.ref C) "__ne__" = some (some (.builtin "object.__ne__"))) (ho : subIn K (.ref C) (.type "object") = some true)
    (hs : findIn K (.ref C) "__eq__" = some (some (.ref f))) (hf : isFn K (.ref f) = true) (hu : A.units + 1 < cLine) {Q : Option Value → Shared → Prop}
    (hcall : wpAny (model prog w) A.in1 (call (.ref f) [.ref x, .ref y]) (fun v s' => ∃ b, v = .bool b ∧ Q (some (.bool (!b))) s') E s) :
    wpAny (model prog w) A (tryCompare (.ref x) "__ne__" (.ref y)) Q E s := by
  simp only [tryCompare]
  have sub : Looks (model prog w) s.heap (isInstance (.ref x) (.type "object")) true := I.type.andThen (looks_subIn X ho)
  refine wpAny_bind (special_blt X I hn F.cmp_object.ne (wpAny_call (codeAny_call_builtin F.cmp_object.ne.plain F.cmpEntry_ne
    (check_slot F.cmpKind_ne F.cmpSplit_ne sub (F.cmpArgs_ne _ _) (ne_entry (A := A.in1) X I hs hf hu (wpAny_mono hcall (fun v s' hv => ?_) fun _ _ e => e))))))
  obtain ⟨b, rfl, hq⟩ := hv
  first | exact ⟨b, rfl, wpAny_pure hq⟩ | exact ⟨b, rfl, wpAny_pure (wpAny_pure hq)⟩ | exact ⟨b, rfl, hq⟩
theorem rich_ne (X : K.In s.heap) (I : InstAt s.heap x ox C od) (J : InstAt s.heap y oy C oe) (hn : findIn K (.ref C) "__ne__" = some (some (.builtin "object.__ne__"))) (ho : subIn K (.ref C) (.type "object") = some true)
    (hs : findIn K (.ref C) "__eq__" = some (some (.ref f))) (hf : isFn K (.ref f) = true) (hu : A.units + 1 < cLine) {Q : Value → Shared → Prop}
    (hcall : wpAny (model prog w) A.in1 (call (.ref f) [.ref x, .ref y]) (fun v s' => ∃ b, v = .bool b ∧ Q (.bool (!b)) s') E s) :
    wpAny (model prog w) A (compareOp .NotEq (.ref x) (.ref y)) Q E s := by
  unfold compareOp richCompare
  simp only [oneThing_ref]
  refine wpAny_holding (wpAny_bind (wpAny_cRoomFor (Nat.lt_of_succ_lt hu) ?_))
  rw [cmpInfo_NotEq]
  dsimp only
  refine wpAny_bind (I.type.here (wpAny_bind (J.type.here ?_)))
  rw [show (Value.ref C != Value.ref C) = false by simp]
  simp only [Bool.false_eq_true, if_false]
  refine wpAny_bind (wpAny_pure ?_)
  simp only [Bool.false_eq_true, if_false]
  refine wpAny_bind (try_ne X I hn ho hs hf hu (wpAny_mono hcall (fun v s' hv => ?_) fun _ _ e => e))
  obtain ⟨b, rfl, hq⟩ := hv
  first | exact ⟨b, rfl, wpAny_pure hq⟩ | exact ⟨b, rfl, wpAny_pure (wpAny_pure hq)⟩
end
/-- what the written part says of a class with its own == -/
structure OwnEq (K : PySem.W.Frag) (C f : Addr) : Prop where
  eq : PySem.W.findIn K (.ref C) "__eq__" = some (some (.ref f))
  fn : PySem.W.isFn K (.ref f) = true
  ne : PySem.W.findIn K (.ref C) "__ne__" = some (some (.builtin "object.__ne__"))
  ob : PySem.W.subIn K (.ref C) (.type "object") = some true
def rEqI (C : Addr) (sp : Sp) (neg : Bool) : R2 := fun x y H Q => ∃ a b dx dy fs gs, x = .ref a ∧ y = .ref b ∧ H a = some (.ins C dx fs) ∧ H b = some (.ins C dy gs) ∧
  sp [.ref a, .ref b] H (fun v H' => ∃ k, v = .bl k ∧ Q (.bl (if neg then !k else k)) H') (fun _ _ _ => False)
section
variable {X : Cx} {k : Nat} {C f : Addr} {fd : FuncData} {ps : List Str} {sp : Sp}
theorem op_eqI (T : OwnEq X.K C f) (F : FnOk X.prog X.w X.K X.mg X.base CX0 k f fd ps sp) (hb : Binds X.K fd ps []) (hr : Room k X.A) : OpR X (compareOp .Eq) (rEqI C sp false) := by
  intro pins s σ H x y v u Q I rx ry h
  obtain ⟨a, b, dx, dy, fs, gs, rfl, rfl, ha, hb', hsp⟩ := h
  cases rx
  cases ry
  obtain ⟨_, J, _⟩ := ins_get I.hok ha
  obtain ⟨_, J', _⟩ := ins_get I.hok hb'
  obtain ⟨_, J, _⟩ := J.look
  obtain ⟨_, J', _⟩ := J'.look
  obtain ⟨m, hF⟩ := I.fr
  show wpAny (model X.prog X.w) X.A (richCompare .Eq (.ref a) (.ref b)) (EP X pins σ Q) X.xe s
  refine PySem.W.cmp_K (op := .Eq) (tb := .ref C) hr.units0 hF I.ok.mod.kin J J'.type (by simp [PySem.W.notFirst]) T.eq T.fn ?_
  refine wpAny_mono (run_fn (E := fun _ _ _ => False) (dvs := []) (ds := []) F hr hb .nil pass0 I (vs := [.ref a, .ref b]) (us := [.ref a, .ref b]) (.cons rfl (.cons rfl .nil)) hsp) (fun v s' z => ?_) fun _ _ z => z
  obtain ⟨z, H', I', rz, kk, rfl, q⟩ := z
  cases rz
  exact ⟨.bl kk, H', I', rfl, q⟩
theorem op_neI (T : OwnEq X.K C f) (F : FnOk X.prog X.w X.K X.mg X.base CX0 k f fd ps sp) (hb : Binds X.K fd ps []) (hr : Room (k + 1) X.A) : OpR X (compareOp .NotEq) (rEqI C sp true) := by
  intro pins s σ H x y v u Q I rx ry h
  obtain ⟨a, b, dx, dy, fs, gs, rfl, rfl, ha, hb', hsp⟩ := h
  cases rx
  cases ry
  obtain ⟨_, J, _⟩ := ins_get I.hok ha
  obtain ⟨_, J', _⟩ := ins_get I.hok hb'
  obtain ⟨_, J, _⟩ := J.look
  obtain ⟨_, J', _⟩ := J'.look
  have hl := F.len _ _ _ _ hsp
  have r2 : Vals [V.ref a, V.ref b] [Value.ref a, Value.ref b] := .cons rfl (.cons rfl .nil)
  have e0 := I.env0.in1
  refine rich_ne I.kIn J J' T.ne T.ob T.eq T.fn (hu_of hr) ?_
  refine wpAny_call (codeAny_mono (F.run X.A.in1 X.stack s H ⟨[.ref a, .ref b], []⟩ [.ref a, .ref b] [.ref a, .ref b] _ _ hr.in1 e0 (by
    have := hb s [.ref a, .ref b] I.kIn (by simpa using hl)
    simpa using this) r2 hsp) fun r s' hq => ?_)
  cases r with
  | error e => exact hq.elim
  | ok fl =>
    cases fl with
    | ret w =>
      obtain ⟨z, H', I', rz, kk, rfl, q⟩ := I.after hq
      cases rz
      exact ⟨kk, rfl, .bl (!kk), H', I', rfl, q⟩
    | next => exact False.elim hq
    | brk => exact False.elim hq
    | cont => exact False.elim hq
end
end Bf
namespace Bf
open PySem PySem.Spec PyProof.Rows L2
/-! ### constants of the module -/
section
variable {X : Cx} {x : Str} {pos : Pos}
theorem pe_gi {i : Int} (h : ∃ t, X.mg x = some (.int i t)) (hg : Gl X x := by rfl) (hn : x ≠ "__name__" := by decide) (hd : (x == ("__debug__" : Str)) = false := by decide) : PE X (.Name x pos) (tC (.int i)) := by
  obtain ⟨t, e⟩ := h
  exact pe_glob hg e ⟨t, rfl⟩ hd
theorem pe_gs {z : Str} (h : ∃ t, X.mg x = some (.str z t)) (hg : Gl X x := by rfl) (hn : x ≠ "__name__" := by decide) (hd : (x == ("__debug__" : Str)) = false := by decide) : PE X (.Name x pos) (tC (.str z)) := by
  obtain ⟨t, e⟩ := h
  exact pe_glob hg e ⟨t, rfl⟩ hd
end
/-- the built-in names that the text leaves alone -/
structure Bl (mg : Str → Option Value) : Prop where
  len : mg "len" = none
  isinstance : mg "isinstance" = none
  str : mg "str" = none
  int : mg "int" = none
  bool : mg "bool" = none
  tuple : mg "tuple" = none
  list : mg "list" = none
  dict : mg "dict" = none
  set : mg "set" = none
  sorted : mg "sorted" = none
  all : mg "all" = none
  any : mg "any" = none
  range : mg "range" = none
  enumerate : mg "enumerate" = none
  reversed : mg "reversed" = none
  min : mg "min" = none
  max : mg "max" = none
def blNames : List Str := ["len", "isinstance", "str", "int", "bool", "tuple", "list", "dict", "set", "sorted", "all", "any", "range", "enumerate", "reversed", "min", "max"]
/-! ### exceptions with one field -/
def spInit (K : PySem.W.Frag) (fld : Str) : Sp := fun vs H Q _ => ∃ (a C : Addr) (y : V), vs = [.ref a, y] ∧ H a = some (exo a C none) ∧ OexC K C ∧ PySem.W.findIn K (.ref C) fld = some none ∧
  ∀ dx, H dx = none → dx ≠ a → Q .non (upd (upd H dx (exd dx [(fld, y)])) a (exo a C (some dx)))
/-- what the written part says of an own exception with one field: made, raised, read -/
structure ExT (P : Program) (w : World) (K : PySem.W.Frag) (mg : Str → Option Value) (base : Heap) (x fld : Str) (C : Addr) : Prop where
  g : mg x = some (.ref C)
  o : OexC K C
  xf : XfC K C
  no : PySem.W.findIn K (.ref C) fld = some none
  i : ∃ (f : Addr) (fd : FuncData) (ps : List Str), PySem.W.findIn K (.ref C) "__init__" = some (some (.ref f)) ∧ PySem.W.typeIn K (.ref f) = some (.type "function") ∧ FnOk P w K mg base CX0 1 f fd ps (spInit K fld) ∧ Binds K fd ps []
section
variable {X : Cx} {x fld : Str} {C : Addr} {W : WX} {e : Expr} {ta : TA} {p pos pos2 : Pos}
def tRx (C : Addr) (fld : Str) (W : WX) (ta : TA) : TS := fun _ σ H => ta σ H fun vs H1 => ∃ v, vs = [v] ∧ ∀ d, H1 d = none → W (.ref C) (some d) σ (upd H1 d (.xd [(fld, v)]))
theorem ps_rx (T : ExT X.prog X.w X.K X.mg X.base x fld C) (hc : X.calm = true) (tk : Takes X W) (hr : Room 2 X.A) (ha : PA X [e] ta) (hg : Gl X x := by rfl)
    (hdb : (x == ("__debug__" : Str)) = false := by decide) (he : starEach (e :: []) X.env = (false, eval e X.env) :: starEach [] X.env := by rfl) (hpl : (backTo pos (starEach [] X.env)).any (·.1) = false := by rfl) :
    PS X (.Raise (some (.Call (.Name x p) [e] [] pos)) none pos2) (tRx C fld W ta) := by
  obtain ⟨f, fd, ps, h1, h2, F, b⟩ := T.i
  have ha2 : PA X [e] (fun σ H Q => ∃ G : List V → Hp → Prop, ta σ H G ∧ ∀ vs H1, G vs H1 → Q vs H1) :=
    ⟨fun pos pins s σ H Q I ⟨G, h, m⟩ => thn (ha.run pos pins s σ H G I h) fun us s1 ⟨vs, H1, I1, r1, q⟩ => ⟨vs, H1, I1, r1, m _ _ q⟩⟩
  have z := ps_raise (pos := pos2) hc tk (pmk_oex (p := p) (pos := pos) T.o h1 h2 F hr b .nil pass0 hg T.g ha2 hdb he hpl)
  refine ⟨fun pins s σ H D I h => z.run pins s σ H D I ⟨_, h, ?_⟩⟩
  have key : ∀ vs H1, (∃ v, vs = [v] ∧ ∀ d, H1 d = none → W (.ref C) (some d) σ (upd H1 d (.xd [(fld, v)]))) →
      vs.length ≤ 1000 ∧ ∀ a, H1 a = none → spInit X.K fld (.ref a :: (vs ++ [])) (upd H1 a (exo a C none)) (fun v H2 => v = .non ∧ ∃ (d : Addr) (fs : List (Str × V)), H2 a = some (exo a C (some d)) ∧ H2 d = some (exd d fs) ∧ H1 d = none ∧ (fun cls d H' => W cls d σ H') (.ref C) (some d) (upd (del H2 a) d (.xd fs))) (fun _ _ _ => False) := by
    rintro vs H1 ⟨v, rfl, q⟩
    refine ⟨by show 1 ≤ 1000; decide, fun a na => ⟨a, C, v, rfl, upd_same, T.o, T.no, fun dx ndx ne => ⟨rfl, dx, [(fld, v)], upd_same, ?_, ?_, ?_⟩⟩⟩
    · rw [upd_ne ne, upd_same]
    · rw [upd_ne ne] at ndx
      exact ndx
    · rw [upd_ne ne] at ndx
      have e1 : upd (del (upd (upd (upd H1 a (exo a C none)) dx (exd dx [(fld, v)])) a (exo a C (some dx))) a) dx (.xd [(fld, v)]) = upd H1 dx (.xd [(fld, v)]) := by
        funext b
        by_cases hb : b = dx
        · rw [hb, upd_same, upd_same]
        · rw [upd_ne hb, upd_ne hb]
          by_cases hba : b = a
          · rw [hba, del_same, na]
          · rw [del_ne hba, upd_ne hba, upd_ne hb, upd_ne hba]
      show W (.ref C) (some dx) σ (upd (del (upd (upd (upd H1 a (exo a C none)) dx (exd dx [(fld, v)])) a (exo a C (some dx))) a) dx (.xd [(fld, v)]))
      rw [e1]
      exact q dx ndx
  exact key
end
end Bf
namespace Bf
open PySem PySem.Spec PyProof.Rows L2
/-! ### a def's body -/
abbrev FnS (K : PySem.W.Frag) (x q : Str) (st : Stmt) (f : Addr) (fd : FuncData) : Prop := FunD K x q (defArgs st) (defBody st) (defScope st) [] [] f fd
section
variable {P : Program} {w : World} {K : PySem.W.Frag} {mg : Str → Option Value} {base : Heap} {x q : Str} {st : Stmt} {f : Addr} {fd : FuncData} {N ps : List Str} {k : Nat} {sp : Sp}
/-- a def that lets nothing out -/
theorem okD (F : FnS K x q st f fd) (S : FnScope N ps (defScope st)) (len : ∀ vs H Q E, sp vs H Q E → vs.length = ps.length)
    (hbody : ∀ (cdv : Value) (A : Around) (outer : List Env) (s : Shared) (H : Hp) (vs : List V) (Q : VK) (E : XK),
      Room k (A.deeper (envOfC q (defScope st) s.heap.objs.size f cdv)) → sp vs H Q E →
      ∃ t, PSs (cxOf CX0 P w K mg base N q (defScope st) f cdv A outer s H E).nox (defBody st) t ∧ t { nx := fun _ H' => Q .non H', rt := Q } (start N vs) H) :
    FnOk P w K mg base CX0 (k + 1) f fd ps sp :=
  F.ok S len fun cdv A outer s H vs Q E hr h => let ⟨t, d, r⟩ := hbody cdv A outer s H vs Q E hr h; ⟨t, d.nox, r⟩
/-- a def that may raise -/
theorem okE (F : FnS K x q st f fd) (S : FnScope N ps (defScope st)) (len : ∀ vs H Q E, sp vs H Q E → vs.length = ps.length)
    (hbody : ∀ (cdv : Value) (A : Around) (outer : List Env) (s : Shared) (H : Hp) (vs : List V) (Q : VK) (E : XK),
      Room k (A.deeper (envOfC q (defScope st) s.heap.objs.size f cdv)) → sp vs H Q E →
      Takes (cxOf (L2.CX P w) P w K mg base N q (defScope st) f cdv A outer s H E) (fun cls d _ H => E cls d H) →
      ∃ t, PSs (cxOf (L2.CX P w) P w K mg base N q (defScope st) f cdv A outer s H E) (defBody st) t ∧ t { nx := fun _ H' => Q .non H', rt := Q } (start N vs) H) :
    FnOk P w K mg base (L2.CX P w) (k + 1) f fd ps sp :=
  F.ok S len fun cdv A outer s H vs Q E hr h => hbody cdv A outer s H vs Q E hr h (takes_of rfl rfl rfl rfl)
end
/-! ### __init__ of an exception: self.f = f -/
theorem ok_xinit {P : Program} {w : World} {K : PySem.W.Frag} {mg : Str → Option Value} {base : Heap} {q fld : Str} {st : Stmt} {f : Addr} {fd : FuncData} {p1 p2 p3 p4 : Pos} (F : FnS K "__init__" q st f fd)
    (hb : defBody st = [.Assign [.Attribute (.Name "self" p1) fld p2] (.Name fld p3) p4]) (S : FnScope ["self", fld] ["self", fld] (defScope st))
    (l1 : (defScope st).names.lookup ("self" : Str) = some .local) (l2 : (defScope st).names.lookup fld = some .local) (h1 : (fld == ("__debug__" : Str)) = false) (h2 : (fld == ("__classdict__" : Str)) = false)
    (b : ∀ (kV doc pm : Value) (an : Option Addr) (cdv ct : Value) (us : List Value), us.length = (["self", fld] : List Str).length → bindArgs (PySem.W.fnOf "__init__" q (defArgs st) (defBody st) (defScope st) .none kV doc pm an cdv ct) ⟨us, []⟩ = pure ((["self", fld] : List Str).zip us)) :
    ∃ ps, FnOk P w K mg base CX0 1 f fd ps (spInit K fld) ∧ Binds K fd ps [] := by
  refine ⟨["self", fld], okD F S (fun vs H Q E h => ?_) (fun cdv A outer s H vs Q E hr h => ?_), F.bindsN b⟩
  · obtain ⟨a, C, y, rfl, _⟩ := h
    rfl
  · obtain ⟨a, C, y, rfl, ha, o, no, q⟩ := h
    rw [hb]
    refine ⟨_, pss_one (ps_ost (pe_var (i := 0) rfl (.inl l1)) (pe_var (i := 1) rfl (.inl l2) h1 h2)), ?_⟩
    exact ⟨y, rfl, .ref a, rfl, a, C, rfl, o, no, .inl ⟨ha, fun dx nd ne => q dx nd ne⟩⟩
/-! ### facts of the written part as one Bool -/
def oexB (K : PySem.W.Frag) (C : Addr) : Bool := match K.lookup C with
  | some ⟨.type t, _, .cls cd, sl⟩ => decide (t = "type") && (match cd.mro, sl.toList with
    | .ref D :: bm, [_, _, _, _, some (.builtin n), _] => decide (D = C) && (decide (n = "ValueError.__new__") && (!cd.hasDel && (cd.hasDict && PySem.HandSPX.refsVE bm)))
    | _, _ => false)
  | _ => false
theorem oexB_ok {K : PySem.W.Frag} {C : Addr} (h : oexB K C = true) :
    ∃ nm q N bs bm sn sub ab col dd k0 k1 k2 k3 k5, K.lookup C = some (excClassObj nm q C N bs bm true sn sub ab col dd k0 k1 k2 k3 k5 "ValueError.__new__") ∧ PySem.HandSPX.refsVE bm = true := by
  unfold oexB at h
  split at h
  · rename_i t dd cd sl ho
    have ht := of_decide_eq_true (Bool.and_eq_true_iff.mp h).1
    subst ht
    split at h
    · rename_i D bm k0 k1 k2 k3 n k5 hm hs
      obtain ⟨_, h⟩ := Bool.and_eq_true_iff.mp h
      obtain ⟨h1, h⟩ := Bool.and_eq_true_iff.mp h
      obtain ⟨h2, h⟩ := Bool.and_eq_true_iff.mp h
      obtain ⟨h3, h⟩ := Bool.and_eq_true_iff.mp h
      obtain ⟨h4, h5⟩ := Bool.and_eq_true_iff.mp h
      have h1 := of_decide_eq_true h1
      have h2 := of_decide_eq_true h2
      subst h1 h2
      obtain ⟨nm, bs, mro, ns, qn, hd, sn, sub, ab, col, del⟩ := cd
      dsimp only at hm h3 h4
      subst hm h4
      have h3 : del = false := by simpa using h3
      subst h3
      have hsl : sl = #[k0, k1, k2, k3, some (.builtin "ValueError.__new__"), k5] := by
        obtain ⟨l⟩ := sl
        simp only at hs
        rw [hs]
      subst hsl
      exact ⟨nm, qn, ns, bs, bm, sn, sub, ab, col, dd, k0, k1, k2, k3, k5, ho, h5⟩
    · cases h
  · cases h
def isO (a b : Option (Option Value)) : Bool := decide (a = b)
/-- an exception x with the field f -/
def excB (K : PySem.W.Frag) (x fld : Str) : Bool := oexB K (He.ga K x) && (isO (PySem.W.findIn K (.ref (He.ga K x)) "__setattr__") (some (some (.builtin "object.__setattr__"))) &&
  (decide (PySem.W.subIn K (.ref (He.ga K x)) (.type "BaseException") = some true) && (decide (PySem.W.typeIn K (.ref (He.ga K x)) = some (.type "type")) && (PySem.W.keepIn K (.ref (He.ga K x)) &&
  (xfB K (He.ga K x) && (isO (PySem.W.findIn K (.ref (He.ga K x)) fld) (some none) && (isO (PySem.W.findIn K (.ref (He.ga K x)) "__init__") (some (some (.ref (He.ma K (He.ga K x) "__init__")))) &&
  decide (PySem.W.typeIn K (.ref (He.ma K (He.ga K x) "__init__")) = some (.type "function")))))))))
theorem excB_ok {P : Program} {w : World} {K : PySem.W.Frag} {mg : Str → Option Value} {base : Heap} {x fld : Str} (h : excB K x fld = true) (g : mg x = some (.ref (He.ga K x)))
    (i : ∃ fd ps, FnOk P w K mg base CX0 1 (He.ma K (He.ga K x) "__init__") fd ps (spInit K fld) ∧ Binds K fd ps []) : ExT P w K mg base x fld (He.ga K x) := by
  obtain ⟨h1, h⟩ := Bool.and_eq_true_iff.mp h
  obtain ⟨h2, h⟩ := Bool.and_eq_true_iff.mp h
  obtain ⟨h3, h⟩ := Bool.and_eq_true_iff.mp h
  obtain ⟨h4, h⟩ := Bool.and_eq_true_iff.mp h
  obtain ⟨h5, h⟩ := Bool.and_eq_true_iff.mp h
  obtain ⟨h6, h⟩ := Bool.and_eq_true_iff.mp h
  obtain ⟨h7, h⟩ := Bool.and_eq_true_iff.mp h
  obtain ⟨h8, h9⟩ := Bool.and_eq_true_iff.mp h
  obtain ⟨fd, ps, F, b⟩ := i
  exact ⟨g, ⟨oexB_ok h1, of_decide_eq_true h2, of_decide_eq_true h3, of_decide_eq_true h4, h5⟩, xfB_ok h6, of_decide_eq_true h7, _, fd, ps, of_decide_eq_true h8, of_decide_eq_true h9, F, b⟩
/-- names that stand for objects, names that are free -/
def globB (K : PySem.W.Frag) (l : List Str) : Bool := l.all fun x => isO (PySem.W.nsIn K mainGlobals x) (some (some (.ref (He.ga K x))))
def freeB (K : PySem.W.Frag) (l : List Str) : Bool := l.all fun x => isO (PySem.W.nsIn K mainGlobals x) (some none)
section
variable {K : PySem.W.Frag} {h : Heap} {mg : Str → Option Value}
theorem globB_ok (X : K.In h) (G : h.Ns mainGlobals mg) {l : List Str} (c : globB K l = true) {x : Str} (hx : x ∈ l) : mg x = some (.ref (He.ga K x)) :=
  PySem.W.mg_of X G (of_decide_eq_true (List.all_eq_true.mp c x hx))
theorem freeB_ok (X : K.In h) (G : h.Ns mainGlobals mg) {l : List Str} (c : freeB K l = true) {x : Str} (hx : x ∈ l) : mg x = none :=
  PySem.W.mg_none_of X G (of_decide_eq_true (List.all_eq_true.mp c x hx))
theorem bl_of (X : K.In h) (G : h.Ns mainGlobals mg) (c : freeB K blNames = true) : Bl mg := by
  constructor <;> exact freeB_ok X G c (by decide)
end
/-- a class with its own == -/
def ownB (K : PySem.W.Frag) (C : Addr) : Bool := isO (PySem.W.findIn K (.ref C) "__eq__") (some (some (.ref (He.ma K C "__eq__")))) && (PySem.W.isFn K (.ref (He.ma K C "__eq__")) &&
  (isO (PySem.W.findIn K (.ref C) "__ne__") (some (some (.builtin "object.__ne__"))) && decide (PySem.W.subIn K (.ref C) (.type "object") = some true)))
theorem ownB_ok {K : PySem.W.Frag} {C : Addr} (h : ownB K C = true) : OwnEq K C (He.ma K C "__eq__") := by
  obtain ⟨h1, h⟩ := Bool.and_eq_true_iff.mp h
  obtain ⟨h2, h⟩ := Bool.and_eq_true_iff.mp h
  obtain ⟨h3, h4⟩ := Bool.and_eq_true_iff.mp h
  exact ⟨of_decide_eq_true h1, h2, of_decide_eq_true h3, of_decide_eq_true h4⟩
/-! ### the Hook: the defs, and one Bool -/
abbrev AlB : Type := Bool × List He.FnW
def obB (fn : List He.DefD) (ex : PySem.W.Frag → Bool) (K : PySem.W.Frag) : AlB := (ex K && fn.all fun d => d.ok K, fn.map fun d => He.fnW K d.at_)
structure SayB (fn : List He.DefD) (ex : PySem.W.Frag → Bool) (K : PySem.W.Frag) : Prop where
  more : ex K = true
  defs : ∀ d ∈ fn, ∃ fd, FunD K d.name d.qual d.params d.body d.scope (d.dvs K) (d.kws K) (He.fAd K d.at_) fd
theorem sayB_of {fn : List He.DefD} {ex : PySem.W.Frag → Bool} {K : PySem.W.Frag} (e : obB fn ex K = (true, fn.map He.DefD.val)) : SayB fn ex K := by
  have e1 : (ex K && fn.all fun d => d.ok K) = true := congrArg (fun z : AlB => z.1) e
  have e2 : fn.map (fun d => He.fnW K d.at_) = fn.map He.DefD.val := congrArg (fun z : AlB => z.2) e
  obtain ⟨h1, h2⟩ := Bool.and_eq_true_iff.mp e1
  refine ⟨h1, fun d hd => ?_⟩
  obtain ⟨i, hi, ei⟩ := List.mem_iff_getElem.mp hd
  have e3 : (fn.map fun d => He.fnW K d.at_)[i]? = (fn.map He.DefD.val)[i]? := by rw [e2]
  have e4 : fn[i]? = some d := by rw [List.getElem?_eq_getElem hi, ei]
  rw [List.getElem?_map, List.getElem?_map, e4] at e3
  exact He.DefD.funD (Option.some.inj e3) (List.all_eq_true.mp h2 d hd)
def hookB (n : Nat) (fn : List He.DefD) (ex : PySem.W.Frag → Bool) : PySem.W.Hook where
  α := AlB
  obs := fun s => obB fn ex (He.frG s.heap.get? (He.asD s.heap.get? n))
  val := fun _ => (true, fn.map He.DefD.val)
  says := fun _ h => ∃ K : PySem.W.Frag, K.In h ∧ SayB fn ex K
  of := fun _ _ e => ⟨_, He.frG_in, sayB_of e⟩
  keeps := fun _ _ _ ⟨K, i, c⟩ k => ⟨K, PySem.W.Frag.In.keeps i k, c⟩
def lookB (n : Nat) (fn : List He.DefD) (ex : PySem.W.Frag → Bool) (s : PySem.W.SharedT) : AlB := obB fn ex (He.frG (HandSHeadRun.getT s) (He.asD (HandSHeadRun.getT s) n))
theorem lookB_eq (n : Nat) (fn : List He.DefD) (ex : PySem.W.Frag → Bool) (s : PySem.W.SharedT) : lookB n fn ex s = (hookB n fn ex).obs s.abs := by
  have e : HandSHeadRun.getT s = s.abs.heap.get? := funext (HandSHeadRun.getT_eq s)
  unfold lookB
  rw [e]
  rfl
end Bf
namespace Bf
open PySem PySem.Spec PyProof.Rows L2 Evl
/-! ### the order of texts; the sorted list -/
def leS (a b : Str) : Bool := !ltCps b.cps.toList a.cps.toList
theorem leS_iff {a b : Str} : leS a b = true ↔ a.cps.toList ≤ b.cps.toList := by
  unfold leS
  rw [ltCps_eq]
  simp
theorem leS_trans (a b c : Str) (h1 : leS a b = true) (h2 : leS b c = true) : leS a c = true := leS_iff.mpr (Std.le_trans (leS_iff.mp h1) (leS_iff.mp h2))
theorem leS_total (a b : Str) : (leS a b || leS b a) = true := by
  rw [Bool.or_eq_true]
  rcases Std.le_total (a := a.cps.toList) (b := b.cps.toList) with h | h
  · exact .inl (leS_iff.mpr h)
  · exact .inr (leS_iff.mpr h)
theorem leS_antisymm {a b : Str} (h1 : leS a b = true) (h2 : leS b a = true) : a = b := by
  have e : a.cps.toList = b.cps.toList := Std.le_antisymm (leS_iff.mp h1) (leS_iff.mp h2)
  cases a with
  | mk x => cases b with
    | mk y =>
      have e2 : x = y := Array.toList_inj.mp e
      rw [e2]
theorem pw_of_rising : ∀ (p : Str) (l : List Str), risingS p l = true → (p :: l).Pairwise (fun a b => leS a b = true)
  | p, [], _ => List.pairwise_singleton _ _
  | p, x :: r, h => by
    obtain ⟨h1, h2⟩ := Bool.and_eq_true_iff.mp (show (!ltCps x.cps.toList p.cps.toList && risingS x r) = true from h)
    have ih := pw_of_rising x r h2
    refine List.pairwise_cons.mpr ⟨fun y hy => ?_, ih⟩
    rcases List.mem_cons.mp hy with rfl | hy
    · exact h1
    · exact leS_trans p x y h1 (List.rel_of_pairwise_cons ih hy)
theorem pw_of_sorted : ∀ {l : List Str}, sortedS l = true → l.Pairwise (fun a b => leS a b = true)
  | [], _ => List.Pairwise.nil
  | x :: r, h => pw_of_rising x r h
def srt (l : List Str) : List Str := l.mergeSort leS
theorem srt_perm (l : List Str) : (srt l).Perm l := List.mergeSort_perm l leS
theorem srt_pw (l : List Str) : (srt l).Pairwise (fun a b => leS a b = true) := List.pairwise_mergeSort leS_trans leS_total l
theorem srt_len (l : List Str) : (srt l).length = l.length := (srt_perm l).length_eq
theorem srt_mem {l : List Str} {x : Str} : x ∈ srt l ↔ x ∈ l := (srt_perm l).mem_iff
theorem srt_eq {l m : List Str} (p : m.Perm l) (s : sortedS m = true) : m = srt l :=
  List.Perm.eq_of_pairwise (le := fun a b => leS a b = true) (fun a b _ _ h1 h2 => leS_antisymm h1 h2) (pw_of_sorted s) (srt_pw l) (p.trans (srt_perm l).symm)
theorem srt_congr {l m : List Str} (p : m.Perm l) : srt m = srt l :=
  List.Perm.eq_of_pairwise (le := fun a b => leS a b = true) (fun a b _ _ h1 h2 => leS_antisymm h1 h2) (srt_pw m) (srt_pw l) ((srt_perm m).trans (p.trans (srt_perm l).symm))
/-! ### names -/
def abc : Str := "abcdefghijklmnopqrstuvwxyz"
def isNm (z : Str) : Bool := decide (1 ≤ z.length) && (decide (z.length ≤ 8) && z.cps.toList.all fun c => decide (c ∈ abc.cps.toList))
/-! ### lists of texts -/
theorem inV_str {x : Str} {xs : List Str} : inV (.str x) (xs.map V.str) = decide (x ∈ xs) := by
  unfold inV
  rw [List.any_map]
  induction xs with
  | nil => rfl
  | cons y r ih =>
    rw [List.any_cons, ih]
    show ((y == x) || _) = _
    by_cases h : y = x
    · subst h
      simp
    · have : (y == x) = false := by simpa using h
      rw [this]
      simp [Ne.symm h]
theorem flat_strs (xs : List Str) : (xs.map V.str).all flatV = true := by
  rw [List.all_map]
  exact List.all_eq_true.mpr fun _ _ => rfl
/-! ### a comprehension whose turns only read -/
theorem lc_pure {J : It} {n : Nat} {G : Hp → Prop} {item : Nat → V} {σ : L2.St} {H : Hp} {D : Addr} {vs : List Nat} {j : Nat} {tt : TT} {te : TE} {Qd : Hp → Prop} (f : Nat → Bool) (v : Nat → V)
    (w : Walk J n G (fun i H x H' => H' = H ∧ x = item i)) (hG : ∀ H', Ex H H' → G H') (hD : H D = none) (hn : n ≤ 40000) (hw : ∀ x, wipe ((wipe σ vs).set j (some x)) vs = wipe σ vs)
    (ht : ∀ i H1, Ex H H1 → i < n → EvT tt ((wipe σ vs).set j (some (item i))) H1 (f i)) (he : ∀ i H1, Ex H H1 → i < n → f i = true → Ev te ((wipe σ vs).set j (some (item i))) H1 (v i))
    (hq : ∀ H', Ex H H' → H' D = some (.lst (given n f v)) → Qd H') :
    ∃ W : Nat → Nat → Hp → Prop, (∃ m, W 0 m (upd H D (.lst []))) ∧ ∀ i m H, W i m H →
      (J.stop i H ∧ Qd H) ∨ (J.go i H ∧ ∃ Nx : Hp → Prop, (∀ H', Nx H' → ∃ m', m' < m ∧ W (i + 1) m' H') ∧ ∀ x H', J.yld i H x H' → gName j x (wipe σ vs) H' fun σ2 H2 => wipe σ2 vs = wipe σ vs ∧ tt σ2 H2 fun b H3 =>
        if b = true then te σ2 H3 fun y H4 => ∃ acc, H4 D = some (.lst acc) ∧ acc.length < sizeLine ∧ Nx (upd H4 D (.lst (acc ++ [y]))) else Nx H3) := by
  refine lc_it w (Cw H f v D) ⟨hD, Ex.new hD, upd_same⟩ (fun i H' _ p => hG H' p.2.1) (fun i x H1 H2 hi p y => ?_) (fun H' p => hq H' p.2.1 p.2.2)
  obtain ⟨rfl, rfl⟩ := y
  exact ⟨hw _, cw_turn p (by omega) (ht i H (Ex.refl H) hi) (fun hf => he i H (Ex.refl H) hi hf)⟩
theorem et_yes {σ : L2.St} {H : Hp} : EvT tYes σ H true := fun H1 _ _ q => q H1 (Ex.refl H1)
theorem given_all (n : Nat) (v : Nat → V) : given n (fun _ => true) v = (List.range n).map v := by
  unfold given
  rw [List.filter_eq_self.mpr fun _ _ => rfl]
theorem range_map_get {α β : Type} (l : List α) (g : α → β) (v : Nat → β) (h : ∀ i x, l[i]? = some x → v i = g x) : (List.range l.length).map v = l.map g := by
  apply List.ext_getElem
  · simp
  · intro i h1 h2
    have hi : i < l.length := by simpa using h1
    simp only [List.getElem_map, List.getElem_range]
    exact h i _ (List.getElem?_eq_getElem hi)
theorem walk_strF {z : Str} : Walk (Its z) z.cps.size (fun _ => True) (fun i H v H' => H' = H ∧ v = .str ⟨#[z.cps.getD i 0]⟩) :=
  walk_str.mono (fun _ h => h) fun i H v H' hi _ ⟨e, c, hc, hv⟩ => ⟨e, by
    rw [hv]
    have : z.cps.getD i 0 = c := by simp [Array.getD, hi, (Array.getElem?_eq_some_iff.mp hc).2]
    rw [this]⟩
theorem walk_listF {K : PySem.W.Frag} {a : Addr} {xs : List V} : Walk (Itl K a) xs.length (fun H => SqL K H a xs) (fun i H v H' => H' = H ∧ v = xs.getD i .non) :=
  walk_list.mono (fun _ h => h) fun i H v H' hi _ ⟨e, h⟩ => ⟨e, by simp [List.getD, h]⟩
theorem walk_tupF {K : PySem.W.Frag} {a : Addr} {xs : List V} : Walk (Itt K a) xs.length (fun H => SqT K H a xs) (fun i H v H' => H' = H ∧ v = xs.getD i .non) :=
  walk_tup.mono (fun _ h => h) fun i H v H' hi _ ⟨e, h⟩ => ⟨e, by simp [List.getD, h]⟩
end Bf
namespace Bf
open PySem PySem.Spec PyProof.Rows L2 Evl
/-! ### drawn names -/
/-- what _law_names draws: one to seven letters, never six -/
def Drawn (z : Str) : Prop := isNm z = true ∧ z.length ≤ 7 ∧ z.length ≠ 6
def NamesOk (xs : List Str) : Prop := xs.Nodup ∧ ∀ x ∈ xs, Drawn x
abbrev sign (c : Nat) : Str := ⟨#[c]⟩
theorem str_ext {a b : Str} (h : a.cps.toList = b.cps.toList) : a = b := by
  cases a with
  | mk x => cases b with
    | mk y =>
      have e2 : x = y := Array.toList_inj.mp h
      rw [e2]
theorem joinL_signs : ∀ cs : List Nat, TL.joinL [] (cs.map fun c => [c]) = cs
  | [] => rfl
  | [_] => rfl
  | a :: b :: r => by
    show [a] ++ ([] ++ TL.joinL [] ((b :: r).map fun c => [c])) = a :: b :: r
    rw [joinL_signs (b :: r)]
    rfl
theorem join_signs (cs : List Nat) : (Txt.join "" (cs.map sign)).cps.toList = cs := by
  rw [TL.join_eq]
  have h := TL.tl_join "" (cs.map sign)
  have e : (cs.map sign).map TL.tl = cs.map fun c => [c] := by
    rw [List.map_map]
    rfl
  rw [e, show TL.tl ("" : Str) = [] from rfl, joinL_signs] at h
  exact h
theorem len_toList (z : Str) : z.cps.toList.length = z.length := Array.length_toList
theorem join_drawn {cs : List Nat} (h1 : 1 ≤ cs.length) (h7 : cs.length ≤ 7) (h6 : cs.length ≠ 6) (ha : ∀ c ∈ cs, c ∈ abc.cps.toList) : Drawn (Txt.join "" (cs.map sign)) := by
  have e := join_signs cs
  have l : (Txt.join "" (cs.map sign)).length = cs.length := by rw [← len_toList, e]
  refine ⟨?_, by omega, by omega⟩
  unfold isNm
  rw [decide_eq_true (by omega), decide_eq_true (by omega), Bool.true_and, Bool.true_and, e]
  exact List.all_eq_true.mpr fun c hc => decide_eq_true (ha c hc)
theorem sign_drawn {c : Nat} (h : c ∈ abc.cps.toList) : Drawn (sign c) := by
  refine ⟨?_, by show 1 ≤ 7; decide, by show 1 ≠ 6; decide⟩
  unfold isNm
  show (decide (1 ≤ 1) && (decide (1 ≤ 8) && [c].all fun c => decide (c ∈ abc.cps.toList))) = true
  simp only [List.all_cons, List.all_nil, decide_eq_true h]
  rfl
theorem cut8 {z : Str} (h : z.length ≤ 8) : cutS z none (some 8) = z := by
  apply str_ext
  unfold cutS
  show ((z.cps.toList.drop (HT.sIx z.length 0 none)).take (HT.sIx z.length z.length (some ((8 : Nat) : Int)) - HT.sIx z.length 0 none)) = z.cps.toList
  rw [HT.sIx_none, HT.sIx_nat, List.drop_zero, Nat.sub_zero]
  exact List.take_of_length_le (by rw [len_toList]; omega)
theorem nodup_sub {α : Type} [DecidableEq α] : ∀ {l m : List α}, l.Nodup → (∀ x ∈ l, x ∈ m) → l.length ≤ m.length
  | [], _, _, _ => Nat.zero_le _
  | a :: r, m, hn, hs => by
    obtain ⟨h1, h2⟩ := List.nodup_cons.mp hn
    have ih := nodup_sub (l := r) (m := m.erase a) h2 fun x hx => (List.mem_erase_of_ne (fun z => h1 (by rw [← z]; exact hx))).mpr (hs x (List.mem_cons_of_mem _ hx))
    have ha : a ∈ m := hs a List.mem_cons_self
    have el := List.length_erase_of_mem ha
    have pos := List.length_pos_of_mem ha
    rw [List.length_cons]
    omega
theorem abc_len : abc.cps.toList.length = 26 := by decide +kernel
theorem abc_nodup : (abc.cps.toList.map sign).Nodup := by decide +kernel
theorem all_in {xs : List Str} (h : ∀ i, i < 26 → sign (abc.cps.getD i 0) ∈ xs) : 26 ≤ xs.length := by
  have hs : ∀ x ∈ abc.cps.toList.map sign, x ∈ xs := fun x hx => by
    obtain ⟨c, hc, rfl⟩ := List.mem_map.mp hx
    obtain ⟨i, hi, e⟩ := List.mem_iff_getElem.mp hc
    have h26 : i < 26 := by rw [← abc_len]; exact hi
    have := h i h26
    have e2 : abc.cps.getD i 0 = c := by
      have hi' : i < abc.cps.size := by simpa using hi
      rw [← e]
      simp [Array.getD, hi']
    rw [e2] at this
    exact this
  have := nodup_sub abc_nodup hs
  rw [List.length_map, abc_len] at this
  exact this
theorem getD_abc {i : Nat} (h : i < abc.cps.size) : abc.cps.getD i 0 ∈ abc.cps.toList := by
  have : abc.cps.getD i 0 = abc.cps[i] := by simp [Array.getD, h]
  rw [this]
  simp
end Bf
namespace Bf
open PySem PySem.Spec PyProof.Rows L2 Evl
/-! ### the first of n -/
def firstOf (b : Nat → Bool) (n : Nat) : Option Nat := (List.range n).find? b
theorem first_some {b : Nat → Bool} {n i : Nat} (hi : i < n) (h : b i = true) (hl : ∀ j, j < i → b j = false) : firstOf b n = some i := by
  unfold firstOf
  rw [List.find?_range_eq_some]
  exact ⟨h, List.mem_range.mpr hi, fun j hj => by rw [hl j hj]; rfl⟩
theorem first_none {b : Nat → Bool} {n : Nat} (h : ∀ j, j < n → b j = false) : firstOf b n = none := by
  unfold firstOf
  rw [List.find?_eq_none]
  intro x hx
  rw [h x (List.mem_range.mp hx)]
  exact Bool.false_ne_true
/-! ### places -/
def badPl (xs : List Str) (i : Nat) : Bool := !isNm (xs.getD i "") || decide (xs.getD i "" ∈ xs.take i)
def plErr (xs : List Str) : Option Int := if 1 ≤ xs.length ∧ xs.length ≤ 16 then (firstOf (badPl xs) xs.length).map (fun i => (i : Int)) else some (-1)
/-! ### ends -/
/-- a value in the place of a tie's ends: a tuple, by its entries (none: no text); or no tuple -/
inductive TVal where
  | tup (es : List (Option Str))
  | oth
def pairOk (kn : List Str) : TVal → Bool
  | .tup [some a, some b] => decide (a ∈ kn) && decide (b ∈ kn)
  | _ => false
def lookT (ties : List (Str × TVal)) (n : Str) : TVal := ((ties.find? fun e => decide (e.1 = n)).map (·.2)).getD .oth
def keysT (ties : List (Str × TVal)) : List Str := ties.map (·.1)
def badTie (xs : List Str) (ties : List (Str × TVal)) (i : Nat) : Bool := !isNm ((srt (keysT ties)).getD i "") || !pairOk xs (lookT ties ((srt (keysT ties)).getD i ""))
/-- what is due: places and a number, ties and a name, too many, nothing -/
inductive Due where
  | pl (i : Int) | ti (n : Str) | many | ok
def dueOf (xs : List Str) (ties : List (Str × TVal)) : Due := match plErr xs with
  | some i => .pl i
  | none => match firstOf (badTie xs ties) ties.length with
    | some i => .ti ((srt (keysT ties)).getD i "")
    | none => if 24 < ties.length then .many else .ok
theorem pairOk_perm {xs ys : List Str} (h : ∀ x, x ∈ xs ↔ x ∈ ys) (t : TVal) : pairOk xs t = pairOk ys t := by
  unfold pairOk
  split
  · rw [decide_eq_decide.mpr (h _), decide_eq_decide.mpr (h _)]
  · rfl
/-! ### values as they stand in the heap -/
/-- a text of some length -/
def StrOk (z : Str) : Prop := z.length ≤ 1000 ∧ PyData.strOk z = true
def EntR (K : PySem.W.Frag) (H : Hp) (v : V) : Option Str → Prop
  | some z => v = .str z ∧ StrOk z
  | none => (∀ z, v ≠ .str z) ∧ ∃ t, TyX K H v (.type t) ∧ kitB t "str" = some false
def TVR (K : PySem.W.Frag) (H : Hp) (v : V) : TVal → Prop
  | .tup es => ∃ p vs, v = .ref p ∧ H p = some (.tup vs) ∧ Paired (EntR K H) vs es ∧ vs.length ≤ 1000
  | .oth => ∃ t, TyX K H v (.type t) ∧ kitB t "tuple" = some false
theorem tyx_mono {K : PySem.W.Frag} {H H' : Hp} {v : V} {t : String} (e : Ex H H') (h : TyX K H v (.type t)) : TyX K H' v (.type t) := by
  cases h with
  | base b =>
    cases b with
    | non => exact .base .non
    | bl x => exact .base (.bl x)
    | int i => exact .base (.int i)
    | str x => exact .base (.str x)
    | flt x => exact .base (.flt x)
    | lst q => exact .base (.lst (e _ _ q))
    | frz q => exact .base (.frz (e _ _ q))
    | tup q => exact .base (.tup (e _ _ q))
    | dK q => exact .base (.dK (e _ _ q))
    | dT q => exact .base (.dT (e _ _ q))
  | byt b => exact .byt b
  | set q => exact .set (e _ _ q)
  | kList q c => exact .kList q c
  | kTuple q c => exact .kTuple q c
  | kDict q c => exact .kDict q c
  | fTuple q => exact .fTuple (e _ _ q)
  | fDict q => exact .fDict (e _ _ q)
theorem entR_mono {K : PySem.W.Frag} {H H' : Hp} {v : V} {o : Option Str} (e : Ex H H') (h : EntR K H v o) : EntR K H' v o := by
  cases o with
  | some z => exact h
  | none =>
    obtain ⟨h1, t, h2, h3⟩ := h
    exact ⟨h1, t, tyx_mono e h2, h3⟩
theorem tvr_mono {K : PySem.W.Frag} {H H' : Hp} {v : V} {t : TVal} (e : Ex H H') (h : TVR K H v t) : TVR K H' v t := by
  cases t with
  | tup es =>
    obtain ⟨p, vs, h1, h2, h3, h4⟩ := h
    exact ⟨p, vs, h1, e _ _ h2, Paired.mapP h3 fun _ _ z => entR_mono e z, h4⟩
  | oth =>
    obtain ⟨t, h1, h2⟩ := h
    exact ⟨t, tyx_mono e h1, h2⟩
/-- the pairs of a dict of ties -/
def TieR (K : PySem.W.Frag) (H : Hp) (kvs : List (Key × V)) (ties : List (Str × TVal)) : Prop := Paired (fun p q => p.1 = Sum.inr q.1 ∧ TVR K H p.2 q.2) kvs ties
theorem tieR_mono {K : PySem.W.Frag} {H H' : Hp} {kvs : List (Key × V)} {ties : List (Str × TVal)} (e : Ex H H') (h : TieR K H kvs ties) : TieR K H' kvs ties := Paired.mapP h fun _ _ z => ⟨z.1, tvr_mono e z.2⟩
theorem tieR_keys {K : PySem.W.Frag} {H : Hp} {kvs : List (Key × V)} {ties : List (Str × TVal)} (h : TieR K H kvs ties) : kvs.map (·.1) = (keysT ties).map Sum.inr := by
  unfold TieR at h
  unfold keysT
  induction h with
  | nil => rfl
  | cons a _ ih => rw [List.map_cons, List.map_cons, List.map_cons, ih, a.1]
theorem tieR_len {K : PySem.W.Frag} {H : Hp} {kvs : List (Key × V)} {ties : List (Str × TVal)} (h : TieR K H kvs ties) : kvs.length = ties.length := Paired.length h
/-- a key's value -/
theorem tieR_get {K : PySem.W.Frag} {H : Hp} {kvs : List (Key × V)} {ties : List (Str × TVal)} {n : Str} (h : TieR K H kvs ties) (hn : n ∈ keysT ties) : ∃ v, valV kvs (Sum.inr n) = some v ∧ TVR K H v (lookT ties n) := by
  unfold TieR at h
  unfold keysT at hn
  unfold lookT valV
  induction h with
  | nil => cases hn
  | @cons p q ps qs a t ih =>
    rw [List.find?_cons, List.find?_cons]
    by_cases c : q.1 = n
    · have c1 : decide (p.1 = Sum.inr n) = true := decide_eq_true (by rw [a.1, c])
      rw [c1, decide_eq_true c]
      exact ⟨p.2, rfl, a.2⟩
    · have c1 : decide (p.1 = Sum.inr n) = false := decide_eq_false (by rw [a.1]; exact fun z => c (Sum.inr.inj z))
      rw [c1, decide_eq_false c]
      exact ih (by
        rcases List.mem_cons.mp hn with z | z
        · exact absurd z.symm c
        · exact z)
end Bf
namespace Bf
open PySem PySem.Spec PyProof.Rows L2 Evl
/-! ### texts as data -/
abbrev strsD (xs : List Str) : List PyData := xs.map .str
theorem canLay_strs : ∀ {xs : List Str}, (∀ x ∈ xs, PyData.strOk x = true) → PyData.canLayAll0 (strsD xs) = true
  | [], _ => rfl
  | x :: r, h => by
    show (PyData.strOk x && PyData.canLayAll0 (strsD r)) = true
    rw [h x List.mem_cons_self, canLay_strs fun y hy => h y (List.mem_cons_of_mem _ hy)]
    rfl
theorem depth_strs : ∀ xs : List Str, PyData.depthAll (strsD xs) = 0
  | [] => rfl
  | x :: r => by
    show max 0 (PyData.depthAll (strsD r)) = 0
    rw [depth_strs r]
    rfl
theorem shaped_tup {xs : List Str} (h : ∀ x ∈ xs, PyData.strOk x = true) : SeqAt.shaped (.tuple (strsD xs)) = true := by
  show (PyData.canLayAll0 (strsD xs) && decide (PyData.depthAll (strsD xs) + 1 ≤ 64)) = true
  rw [canLay_strs h, depth_strs]
  rfl
theorem shaped_lst {xs : List Str} (h : ∀ x ∈ xs, PyData.strOk x = true) : SeqAt.shaped (.list (strsD xs)) = true := by
  show (PyData.canLayAll0 (strsD xs) && decide (PyData.depthAll (strsD xs) + 1 ≤ 64)) = true
  rw [canLay_strs h, depth_strs]
  rfl
theorem eqv_strs : ∀ xs ys : List Str, PyData.eqvAll (strsD xs) (strsD ys) = decide (xs = ys)
  | [], [] => rfl
  | [], _ :: _ => rfl
  | _ :: _, [] => rfl
  | x :: r, y :: s => by
    show ((x == y) && PyData.eqvAll (strsD r) (strsD s)) = decide (x :: r = y :: s)
    rw [eqv_strs r s]
    by_cases h : x = y
    · subst h
      by_cases h2 : r = s
      · subst h2; simp
      · simp [h2]
    · simp [h]
theorem dp_strs {K : PySem.W.Frag} {H : Hp} : ∀ xs : List Str, DpAll K H (xs.map V.str) (strsD xs)
  | [] => .nil
  | x :: r => .cons (.str x) (dp_strs r)
/-! ### ties with their ends as data -/
abbrev enD (en : List (Str × Str × Str)) : List (Key × PyData) := en.map fun q => (Sum.inr q.1, .tuple (strsD [q.2.1, q.2.2]))
theorem look_enD (en : List (Str × Str × Str)) (n : Str) : look (enD en) (Sum.inr n) = ((en.find? fun e => decide (e.1 = n)).map (·.2)).map fun q => .tuple (strsD [q.1, q.2]) := by
  unfold look
  induction en with
  | nil => rfl
  | cons q r ih =>
    show ((List.find? _ ((Sum.inr q.1, PyData.tuple (strsD [q.2.1, q.2.2])) :: enD r)).map (·.2)) = _
    rw [List.find?_cons, List.find?_cons]
    by_cases c : q.1 = n
    · rw [decide_eq_true c, show decide ((Sum.inr q.1 : Key) = Sum.inr n) = true from decide_eq_true (by rw [c])]
      rfl
    · rw [decide_eq_false c, show decide ((Sum.inr q.1 : Key) = Sum.inr n) = false from decide_eq_false fun z => c (Sum.inr.inj z)]
      exact ih
theorem find_self {en : List (Str × Str × Str)} (nd : (en.map (·.1)).Nodup) {q : Str × Str × Str} (h : q ∈ en) : en.find? (fun e => decide (e.1 = q.1)) = some q := by
  induction en with
  | nil => cases h
  | cons p r ih =>
    obtain ⟨n1, n2⟩ := List.nodup_cons.mp (show (p.1 :: r.map (·.1)).Nodup from nd)
    rw [List.find?_cons]
    rcases List.mem_cons.mp h with rfl | h
    · rw [decide_eq_true rfl]
    · have c : ¬ p.1 = q.1 := fun z => n1 (by rw [z]; exact List.mem_map.mpr ⟨q, h, rfl⟩)
      rw [decide_eq_false c]
      exact ih n2 h
theorem hits_self {en : List (Str × Str × Str)} (nd : (en.map (·.1)).Nodup) : ∀ l : List (Str × Str × Str), (∀ q ∈ l, q ∈ en) → hitsD (enD en) (enD l) = true
  | [], _ => rfl
  | q :: r, h => by
    show (match look (enD en) (Sum.inr q.1) with | none => false | some e => PyData.eqv (.tuple (strsD [q.2.1, q.2.2])) e && hitsD (enD en) (enD r)) = true
    rw [look_enD, find_self nd (h q List.mem_cons_self)]
    show (PyData.eqvAll (strsD [q.2.1, q.2.2]) (strsD [q.2.1, q.2.2]) && hitsD (enD en) (enD r)) = true
    rw [eqv_strs, hits_self nd r fun p hp => h p (List.mem_cons_of_mem _ hp)]
    simp
theorem dictEq_self {en : List (Str × Str × Str)} (nd : (en.map (·.1)).Nodup) : dictEq (enD en) (enD en) = true := by
  unfold dictEq
  rw [hits_self nd en fun _ h => h]
  simp
theorem dictEq_len {ds es : List (Key × PyData)} (h : ds.length ≠ es.length) : dictEq ds es = false := by
  unfold dictEq
  rw [show (ds.length == es.length) = false by simpa using h, Bool.false_and]
/-! ### a pair sorted -/
def pairS : TVal → Str × Str
  | .tup [some a, some b] => if leS a b = true then (a, b) else (b, a)
  | _ => ("", "")
theorem srt_pair (a b : Str) : srt [a, b] = [(pairS (.tup [some a, some b])).1, (pairS (.tup [some a, some b])).2] := by
  show srt [a, b] = [(if leS a b = true then (a, b) else (b, a)).1, (if leS a b = true then (a, b) else (b, a)).2]
  by_cases h : leS a b = true
  · rw [if_pos h]
    exact (List.Perm.eq_of_pairwise (le := fun a b => leS a b = true) (fun a b _ _ h1 h2 => leS_antisymm h1 h2) (by simp [h]) (srt_pw [a, b]) (srt_perm [a, b]).symm).symm
  · rw [if_neg h]
    have h2 : leS b a = true := by
      rcases Bool.or_eq_true_iff.mp (leS_total a b) with z | z
      · exact absurd z h
      · exact z
    exact (List.Perm.eq_of_pairwise (le := fun a b => leS a b = true) (fun a b _ _ h1 h2 => leS_antisymm h1 h2) (by simp [h2]) (srt_pw [a, b]) ((List.Perm.swap a b []).trans (srt_perm [a, b]).symm)).symm
def endsOf (ties : List (Str × TVal)) : List (Str × Str × Str) := (srt (keysT ties)).map fun n => (n, pairS (lookT ties n))
theorem endsOf_keys (ties : List (Str × TVal)) : (endsOf ties).map (·.1) = srt (keysT ties) := by
  unfold endsOf
  rw [List.map_map]
  exact List.map_id _
theorem nodup_perm {α : Type} {l m : List α} (p : l.Perm m) (h : m.Nodup) : l.Nodup := p.nodup_iff.mpr h
end Bf
namespace Bf
open PySem PySem.Spec PyProof.Rows L2 Evl
theorem nm_ok {z : Str} (h : isNm z = true) : StrOk z := by
  unfold isNm at h
  obtain ⟨_, h⟩ := Bool.and_eq_true_iff.mp h
  obtain ⟨h8, h⟩ := Bool.and_eq_true_iff.mp h
  refine ⟨by have := of_decide_eq_true h8; omega, ?_⟩
  have all : ∀ c ∈ abc.cps.toList, c < 1114112 := by decide +kernel
  show z.cps.all (· < 1114112) = true
  rw [← Array.all_toList, List.all_eq_true]
  intro c hc
  exact decide_eq_true (all c (of_decide_eq_true (List.all_eq_true.mp h c hc)))
theorem drawn_ok {z : Str} (h : Drawn z) : StrOk z := nm_ok h.1
/-! ### a tie put -/
def putT (ties : List (Str × TVal)) (n : Str) (t : TVal) : List (Str × TVal) :=
  if (ties.any fun e => decide (e.1 = n)) = true then ties.map (fun e => if e.1 = n then (e.1, t) else e) else ties ++ [(n, t)]
theorem pair_snoc {α β : Type} {R : α → β → Prop} : ∀ {l : List α} {m : List β} {a : α} {b : β}, Paired R l m → R a b → Paired R (l ++ [a]) (m ++ [b])
  | _, _, _, _, .nil, h => .cons h .nil
  | _, _, _, _, .cons x t, h => .cons x (pair_snoc t h)
theorem tieR_any {K : PySem.W.Frag} {H : Hp} {kvs : List (Key × V)} {ties : List (Str × TVal)} (n : Str) (h : TieR K H kvs ties) : (kvs.any fun kv => decide (kv.1 = Sum.inr n)) = ties.any fun e => decide (e.1 = n) := by
  unfold TieR at h
  induction h with
  | nil => rfl
  | @cons p q ps qs a t ih =>
    rw [List.any_cons, List.any_cons, ih, a.1]
    congr 1
    exact decide_eq_decide.mpr ⟨fun z => Sum.inr.inj z, fun z => by rw [z]⟩
theorem tieR_put {K : PySem.W.Frag} {H : Hp} {kvs : List (Key × V)} {ties : List (Str × TVal)} {n : Str} {v : V} {t : TVal} (h : TieR K H kvs ties) (ht : TVR K H v t) : TieR K H (putK kvs (Sum.inr n) v) (putT ties n t) := by
  unfold putK putT
  rw [tieR_any n h]
  by_cases c : (ties.any fun e => decide (e.1 = n)) = true
  · rw [if_pos c, if_pos c]
    clear c
    unfold TieR at h ⊢
    induction h with
    | nil => exact .nil
    | @cons p q ps qs a t ih =>
      rw [List.map_cons, List.map_cons]
      refine .cons ?_ ih
      by_cases e : q.1 = n
      · rw [if_pos (by rw [a.1, e]), if_pos e]
        exact ⟨a.1, ht⟩
      · rw [if_neg (by rw [a.1]; exact fun z => e (Sum.inr.inj z)), if_neg e]
        exact a
  · rw [if_neg c, if_neg c]
    exact pair_snoc h ⟨rfl, ht⟩
theorem putT_keys (ties : List (Str × TVal)) (n : Str) (t : TVal) : keysT (putT ties n t) = if n ∈ keysT ties then keysT ties else keysT ties ++ [n] := by
  unfold putT keysT
  by_cases c : (ties.any fun e => decide (e.1 = n)) = true
  · have m : n ∈ ties.map (·.1) := by
      obtain ⟨e, he, hn⟩ := List.any_eq_true.mp c
      exact List.mem_map.mpr ⟨e, he, of_decide_eq_true hn⟩
    rw [if_pos c, if_pos m, List.map_map]
    refine List.map_congr_left fun e _ => ?_
    show (if e.1 = n then (e.1, t) else e).1 = e.1
    by_cases z : e.1 = n
    · rw [if_pos z]
    · rw [if_neg z]
  · have m : n ∉ ties.map (·.1) := fun h => by
      obtain ⟨e, he, hn⟩ := List.mem_map.mp h
      exact c (List.any_eq_true.mpr ⟨e, he, decide_eq_true hn⟩)
    rw [if_neg c, if_neg m, List.map_append]
    rfl
theorem putT_nodup {ties : List (Str × TVal)} {n : Str} {t : TVal} (h : (keysT ties).Nodup) : (keysT (putT ties n t)).Nodup := by
  rw [putT_keys]
  by_cases m : n ∈ keysT ties
  · rw [if_pos m]; exact h
  · rw [if_neg m]
    exact List.nodup_append.mpr ⟨h, by simp, fun x hx y hy => by rw [List.mem_singleton.mp hy]; exact fun z => m (z ▸ hx)⟩
theorem putT_mem {ties : List (Str × TVal)} {n x : Str} {t : TVal} (h : x ∈ keysT (putT ties n t)) : x ∈ keysT ties ∨ x = n := by
  rw [putT_keys] at h
  by_cases m : n ∈ keysT ties
  · rw [if_pos m] at h; exact .inl h
  · rw [if_neg m] at h
    rcases List.mem_append.mp h with h | h
    · exact .inl h
    · exact .inr (List.mem_singleton.mp h)
theorem putT_len (ties : List (Str × TVal)) (n : Str) (t : TVal) : (putT ties n t).length ≤ ties.length + 1 := by
  unfold putT
  by_cases c : (ties.any fun e => decide (e.1 = n)) = true
  · rw [if_pos c, List.length_map]; omega
  · rw [if_neg c, List.length_append]; exact Nat.le_refl _
theorem putT_new {ties : List (Str × TVal)} {n : Str} {t : TVal} (h : n ∉ keysT ties) : putT ties n t = ties ++ [(n, t)] := by
  unfold putT
  refine if_neg fun c => h ?_
  obtain ⟨e, he, hn⟩ := List.any_eq_true.mp c
  exact List.mem_map.mpr ⟨e, he, of_decide_eq_true hn⟩
end Bf
namespace Bf
open PySem PySem.Spec PyProof.Rows L2
/-! ### C(..) and o.m(..) within a try: what is raised is wished for at the slots of here -/
section
variable {X : Cx} {CX : CXT} {k : Nat} {f C : Addr} {fd : FuncData} {ps : List Str} {sp : Sp} {E : L2.St → XK} {x m : Str} {p pos apos : Pos} {e o : Expr} {es : List Expr} {ta : TE} {t : TA}
def tMkS (C : Addr) (sp : Sp) (E : L2.St → XK) (t : TA) : TE := fun σ H Q => t σ H fun vs H1 => ∀ y dy, H1 y = none → H1 dy = none → dy ≠ y →
  sp (.ref y :: vs) (upd (upd H1 dy (.own y)) y (.ins C dy [])) (fun v H2 => v = .non ∧ Q (.ref y) H2) (E σ)
theorem run_mkS {pins : List (Addr × Obj)} {σ : L2.St} {H : Hp} {s : Shared} {Q : VK} {us : List Value} {vs : List V} (M : Mk X.K C f) (F : FnOk X.prog X.w X.K X.mg X.base CX k f fd ps sp)
    (hr : Room (k + 1) X.A) (hb : Binds X.K fd ps []) (hx : PassesAt CX X σ (E σ)) (I : Inv X pins σ H s) (r : Vals vs us)
    (h : ∀ y dy, H y = none → H dy = none → dy ≠ y → sp (.ref y :: vs) (upd (upd H dy (.own y)) y (.ins C dy [])) (fun v H2 => v = .non ∧ Q (.ref y) H2) (E σ)) :
    wpAny (model X.prog X.w) X.A (call (.ref C) us) (EP X pins σ Q) X.xe s := by
  have n1 : H (s.heap.objs.size + 1) = none := I.hok.fresh (Nat.le_succ _)
  have n0 : H s.heap.objs.size = none := I.hok.fresh (Nat.le_refl _)
  have hq := h (s.heap.objs.size + 1) s.heap.objs.size n1 n0 (Nat.ne_of_lt (Nat.lt_succ_self _))
  have J := Inv.made (C := C) I
  have r2 : Vals (V.ref (s.heap.objs.size + 1) :: vs) (Value.ref (s.heap.objs.size + 1) :: us) := .cons rfl r
  have hl : (Value.ref (s.heap.objs.size + 1) :: us).length = ps.length := by rw [← r2.length]; exact F.len _ _ _ _ hq
  have b := hb _ (Value.ref (s.heap.objs.size + 1) :: us) J.kIn (by rw [List.append_nil]; exact hl)
  rw [List.append_nil] at b
  refine wpAny_call (make_map (f := f) I.kIn M.makes M.init (beq_iff_eq.mp M.fn) ?_)
  refine codeAny_mono (F.run _ X.stack _ _ ⟨Value.ref (s.heap.objs.size + 1) :: us, []⟩ _ _ _ (E σ) (hr.make C us []) (J.env0.make C us []) b r2 hq) fun r s' z => ?_
  cases r with
  | error er => exact hx pins _ _ er s' J z
  | ok fl =>
    cases fl with
    | ret u =>
      obtain ⟨v, H', I3, rv, ev, q3⟩ := J.after z
      subst ev
      exact ⟨rv, V.ref (s.heap.objs.size + 1), H', I3, rfl, q3⟩
    | next => exact False.elim z
    | brk => exact False.elim z
    | cont => exact False.elim z
theorem pe_mkS (M : Mk X.K C f) (F : FnOk X.prog X.w X.K X.mg X.base CX k f fd ps sp) (hr : Room (k + 1) X.A) (hm : X.mg x = some (.ref C)) (hb : Binds X.K fd ps []) (hx : ∀ σ, PassesAt CX X σ (E σ)) (ha : PA X (e :: es) t)
    (hg : Gl X x := by rfl) (hdb : (x == ("__debug__" : Str)) = false := by decide) (he : starEach (e :: es) X.env = (false, eval e X.env) :: starEach es X.env := by rfl)
    (hpl : (backTo pos (starEach es X.env)).any (·.1) = false := by rfl) : PE X (.Call (.Name x p) (e :: es) [] pos) (tMkS C sp E t) := by
  refine ⟨fun pins s σ H Q I h => wpAny_Call_Name_kw (ld_glob I hg hm ?_ hdb)⟩
  exact PySem.W.callWith_K (h₀ := X.base) I.ok.mod.kin M.kp (thn (ha.run pos pins s σ H _ I h) fun us s1 ⟨vs, H1, I1, r, q⟩ => ⟨I1.kIn, run_mkS M F hr hb (hx σ) I1 r q⟩) he hpl
def tMtS (C : Addr) (m : Str) (sp : Sp) (E : L2.St → XK) (ta : TE) (t : TA) : TE := fun σ H Q => ta σ H fun x H1 => ∃ a dx fs, x = .ref a ∧ H1 a = some (.ins C dx fs) ∧ fs.lookup m = none ∧
  t σ H1 fun vs H2 => sp (x :: vs) H2 Q (E σ)
theorem pe_mtS {pl : Sem Bool} (he : PE X o ta) (c : Cls X.K C) (hm : Meth X.K C m f) (F : FnOk X.prog X.w X.K X.mg X.base CX k f fd ps sp) (hr : Room k X.A) (hb : Binds X.K fd ps []) (hx : ∀ σ, PassesAt CX X σ (E σ)) (ha : PA X (e :: es) t)
    (h1 : starEach (e :: es) X.env = (false, eval e X.env) :: starEach es X.env := by rfl) (h2 : (backTo pos (starEach es X.env)).any (·.1) = false := by rfl)
    (ht : eval (.Call (.Attribute o m apos) (e :: es) [] pos) X.env = (do
      let ov ← eval o X.env
      standAt apos.atName
      let (g, first) ← holding [ov] (getMethod ov m pl)
      callWith pos g first (backTo pos (starEach (e :: es) X.env)) (backToKw pos (keywordEach [] X.env))) := by rfl) :
    PE X (.Call (.Attribute o m apos) (e :: es) [] pos) (tMtS C m sp E ta t) := by
  refine ⟨fun pins s σ H Q I h => PySem.W.methodCall_KW (pl := pl) (thn (he.run pins s σ H _ I h) fun u s1 ⟨x, H1, I1, rx, a, dx, fs, ex, ea, l, q⟩ => ?_) ht⟩
  subst ex
  obtain rfl : u = Value.ref a := rx
  refine getmeth_ok I1 ea c hm l (PySem.W.callWith_K (first := [.ref a]) (h₀ := X.base) I.ok.mod.kin hm.kp (thn (ha.run pos pins s1 σ H1 _ I1 q) fun us s2 ⟨vs, H2, I2, r, q2⟩ => ⟨I2.kIn, ?_⟩) h1 h2)
  exact run_fnS (us := .ref a :: us) (vs := .ref a :: vs) F hr hb (hx σ) I2 (.cons rfl r) q2
end
end Bf
/-! Bf: a list as a thing of its own, told by a property of its entries; a call that writes it alone. Instances made with keywords within a try. -/
namespace Bf
open PySem PySem.Spec PyProof.Rows L2
def absL (a : Addr) (R : List V → Prop) : HO := .ext fun h => ∃ (xs : List V) (its : List Value) (n : Nat), R xs ∧ xs.length ≤ sizeLine ∧ Vals xs its ∧ h.get? a = some { cls := .type "list", data := .seq its.toArray n }
theorem absL_own {a x : Addr} {R : List V → Prop} : absL a R ≠ .own x := fun z => by
  have z' : HO.ext _ = HO.own x := z
  cases z'
theorem absL_tup {a : Addr} {R : List V → Prop} {xs : List V} : absL a R ≠ .tup xs := fun z => by
  have z' : HO.ext _ = HO.tup xs := z
  cases z'
section
variable {P : Program} {w : World} {H : Hp} {h : Heap} {a : Addr} {R : List V → Prop}
theorem abs_in (ok : HOk P w H h) (e : H a = some (absL a R)) : ∃ xs, R xs ∧ HOk P w (upd H a (.lst xs)) h := by
  have x : ObjOk P w H h a (.ext fun h => ∃ (xs : List V) (its : List Value) (n : Nat), R xs ∧ xs.length ≤ sizeLine ∧ Vals xs its ∧ h.get? a = some { cls := .type "list", data := .seq its.toArray n }) := ok a _ e
  obtain ⟨⟨xs, its, n, r, hl, hv, q⟩, _, _⟩ := x
  exact ⟨xs, r, hok_swap ok e (fun _ => absL_own) (fun _ => absL_tup) ⟨hl, its, n, hv, q⟩⟩
theorem abs_of {xs : List V} {H' : Hp} (r : R xs) (x : ObjOk P w H h a (.lst xs)) : ObjOk P w H' h a (absL a R) := by
  obtain ⟨hl, its, n, hv, e⟩ := x
  exact ⟨⟨xs, its, n, r, hl, hv, e⟩, ⟨_, e⟩, fun h1 h2 z kk => by
    obtain ⟨xs, its, n, r, hl, hv, e⟩ := z
    exact ⟨xs, its, n, r, hl, hv, kk _ e⟩⟩
theorem abs_out {xs : List V} (r : R xs) (ok : HOk P w (upd H a (.lst xs)) h) : HOk P w (upd H a (absL a R)) h := by
  have q := hok_swap (o' := absL a R) ok upd_same (fun _ z => by cases z) (fun _ z => by cases z) (abs_of r (ok a _ upd_same))
  rw [upd_upd] at q
  exact q
end
/-- a call that writes the list at a, and leaves the property -/
def absSp (sp0 : Sp) : Sp := fun vs H Q E => ∃ (a : Addr) (R : List V → Prop), H a = some (absL a R) ∧ ∀ xs, R xs → sp0 vs (upd H a (.lst xs)) (fun v H' => ∃ ys, R ys ∧ H' = upd H a (.lst ys) ∧ Q v H) E
/-- a call that makes such a list, last of all -/
def absNew (sp0 : Sp) : Sp := fun vs H Q E => sp0 vs H (fun v H' => ∃ (a : Addr) (R : List V → Prop) (xs : List V) (G : Hp), R xs ∧ G a = none ∧ Evl.Ex H G ∧ H' = upd G a (.lst xs) ∧ v = .ref a ∧ Q (.ref a) (upd G a (absL a R))) E
section
variable {P : Program} {w : World} {K : PySem.W.Frag} {mg : Str → Option Value} {base : Heap} {k : Nat} {f : Addr} {fd : FuncData} {ps : List Str} {sp0 : Sp}
theorem abs_fn {sp : Sp} (len : ∀ vs H Q E, sp vs H Q E → vs.length = ps.length) (imp : ∀ vs H Q E, sp vs H Q E → absSp sp0 vs H Q E) (F : FnOk P w K mg base CX0 k f fd ps sp0) : FnOk P w K mg base CX0 k f fd ps sp := by
  refine ⟨len, fun A outer s H args us vs Q E hr e0 hb hv hsp => ?_⟩
  obtain ⟨a, R, ha, q⟩ := imp _ _ _ _ hsp
  obtain ⟨xs, r, hok1⟩ := abs_in e0.hok ha
  have na : ∀ {b : Addr}, H b = none → b ≠ a := fun n => (ne_of_none ha n).symm
  have e1 : Env0 P w K mg base A outer s (upd H a (.lst xs)) := ⟨e0.frames, e0.mod, fun b o e => ⟨(e0.bs b o e).1, by rw [upd_ne (na (e0.bs b o e).2)]; exact (e0.bs b o e).2⟩, e0.bsz, e0.funs, fun b hb => by rw [upd_ne (na (e0.frf b hb))]; exact e0.frf b hb, hok1, e0.bare⟩
  refine codeAny_mono (F.run A outer s _ args us _ _ E hr e1 hb hv (q xs r)) fun r s' h => ?_
  cases r with
  | error e => exact h
  | ok fl => cases fl with
    | ret u =>
      obtain ⟨v, H', os, bare, un, hok, rv, ys, ry, rfl, hq⟩ := h
      have z := abs_out ry hok
      rw [upd_self ha] at z
      exact ⟨v, H, os, bare, un_back ha un, z, rv, hq⟩
    | next => exact h
    | brk => exact h
    | cont => exact h
theorem un_new2 {fs : List Addr} {H G : Hp} {h h' : Heap} {a : Addr} {l1 l2 : HO} (e : G a = none) (x : Evl.Ex H G) (u : Un fs [] H (upd G a l1) h h') : Un fs [] H (upd G a l2) h h' where
  keep := u.keep
  slot := u.slot
  free := fun b o q n hx => by
    have z := u.free b o q n hx
    have hb : b ≠ a := fun hb => by
      rw [hb, upd_same] at z
      cases z
    rw [upd_ne hb] at z ⊢
    exact z
  there := u.there
  tups := fun b xs q => by
    have hb : b ≠ a := fun hb => by rw [hb] at q; rw [x _ _ q] at e; cases e
    have z := u.tups b xs q
    rw [upd_ne hb] at z ⊢
    exact z
  frzs := fun b o v q => by
    have hb : b ≠ a := fun hb => by rw [hb] at q; rw [x _ _ q] at e; cases e
    have z := u.frzs b o v q
    rw [upd_ne hb] at z ⊢
    exact z
  tbls := fun b ps q => by
    have hb : b ≠ a := fun hb => by rw [hb] at q; rw [x _ _ q] at e; cases e
    have z := u.tbls b ps q
    rw [upd_ne hb] at z ⊢
    exact z
theorem abs_new (len : ∀ vs H Q E, sp0 vs H Q E → vs.length = ps.length) (F : FnOk P w K mg base CX0 k f fd ps sp0) : FnOk P w K mg base CX0 k f fd ps (absNew sp0) := by
  refine ⟨fun vs H Q E h => len vs H _ E h, fun A outer s H args us vs Q E hr e0 hb hv hsp => ?_⟩
  refine codeAny_mono (F.run A outer s _ args us _ _ E hr e0 hb hv hsp) fun r s' h => ?_
  cases r with
  | error e => exact h
  | ok fl => cases fl with
    | ret u =>
      obtain ⟨v, H', os, bare, un, hok, rv, a, R, xs, G, rx, ga, ex, rfl, rfl, hq⟩ := h
      exact ⟨.ref a, _, os, bare, un_new2 ga ex un, abs_out rx hok, rv, hq⟩
    | next => exact h
    | brk => exact h
    | cont => exact h
end
/-! ### C(.., k = v) within a try -/
section
variable {X : Cx} {CX : CXT} {k n : Nat} {f C : Addr} {fd : FuncData} {ps ks : List Str} {sp : Sp} {E : L2.St → XK} {x : Str} {p pos : Pos} {e : Expr} {es : List Expr} {kws : List Keyword} {t tk : TA} {g : List Value → List Value → List Value} {gV : List V → List V → List V}
def tMkKS (C : Addr) (n m : Nat) (sp : Sp) (gV : List V → List V → List V) (E : L2.St → XK) (t tk : TA) : TE := fun σ H Q => t σ H fun vs H1 => tk σ H1 fun zs H2 => vs.length = n ∧ zs.length = m ∧ ∀ y dy, H2 y = none → H2 dy = none → dy ≠ y →
  sp (gV (.ref y :: vs) zs) (upd (upd H2 dy (.own y)) y (.ins C dy [])) (fun v H3 => v = .non ∧ Q (.ref y) H3) (E σ)
theorem run_mkKS {pins : List (Addr × Obj)} {σ : L2.St} {H : Hp} {s : Shared} {Q : VK} {us ws : List Value} {vs zs : List V} (M : Mk X.K C f) (F : FnOk X.prog X.w X.K X.mg X.base CX k f fd ps sp) (hr : Room (k + 1) X.A) (hb : KBn X.K fd ps (n + 1) ks g gV)
    (hx : PassesAt CX X σ (E σ)) (I : Inv X pins σ H s) (r : Vals vs us) (rz : Vals zs ws) (l1 : vs.length = n) (l2 : zs.length = ks.length)
    (h : ∀ y dy, H y = none → H dy = none → dy ≠ y → sp (gV (.ref y :: vs) zs) (upd (upd H dy (.own y)) y (.ins C dy [])) (fun v H2 => v = .non ∧ Q (.ref y) H2) (E σ)) :
    wpAny (model X.prog X.w) X.A (call (.ref C) us (ks.zip ws)) (EP X pins σ Q) X.xe s := by
  have n1 : H (s.heap.objs.size + 1) = none := I.hok.fresh (Nat.le_succ _)
  have n0 : H s.heap.objs.size = none := I.hok.fresh (Nat.le_refl _)
  have hq := h (s.heap.objs.size + 1) s.heap.objs.size n1 n0 (Nat.ne_of_lt (Nat.lt_succ_self _))
  have J := Inv.made (C := C) I
  have q1 : Vals (V.ref (s.heap.objs.size + 1) :: vs) (Value.ref (s.heap.objs.size + 1) :: us) := .cons rfl r
  have q2 := hb.rel q1 rz
  have m1 : (Value.ref (s.heap.objs.size + 1) :: us).length = n + 1 := by rw [List.length_cons, ← r.length, l1]
  have b := hb.to _ (Value.ref (s.heap.objs.size + 1) :: us) ws J.kIn m1 (rz.length.symm.trans l2)
  refine wpAny_call (make_map (f := f) I.kIn M.makes M.init (beq_iff_eq.mp M.fn) ?_)
  refine codeAny_mono (F.run _ X.stack _ _ ⟨Value.ref (s.heap.objs.size + 1) :: us, ks.zip ws⟩ (g (Value.ref (s.heap.objs.size + 1) :: us) ws) _ _ (E σ) (hr.make C us (ks.zip ws)) (J.env0.make C us (ks.zip ws)) b q2 hq) fun r s' z => ?_
  cases r with
  | error er => exact hx pins _ _ er s' J z
  | ok fl =>
    cases fl with
    | ret u =>
      obtain ⟨v, H', I3, rv, ev, q3⟩ := J.after z
      subst ev
      exact ⟨rv, V.ref (s.heap.objs.size + 1), H', I3, rfl, q3⟩
    | next => exact False.elim z
    | brk => exact False.elim z
    | cont => exact False.elim z
theorem pe_mkKS (M : Mk X.K C f) (F : FnOk X.prog X.w X.K X.mg X.base CX k f fd ps sp) (hr : Room (k + 1) X.A) (hm : X.mg x = some (.ref C)) (hb : KBn X.K fd ps (n + 1) ks g gV) (hx : ∀ σ, PassesAt CX X σ (E σ)) (ha : PA X (e :: es) t) (hkw : PK X kws tk) (hg : Gl X x := by rfl)
    (hall : (backToKw pos (keywordEach kws X.env)).all (·.1.isSome) = true := by rfl) (hks : (backToKw pos (keywordEach kws X.env)).filterMap (·.1) = ks := by rfl) (hdb : (x == ("__debug__" : Str)) = false := by decide)
    (he : starEach (e :: es) X.env = (false, eval e X.env) :: starEach es X.env := by rfl) (hpl : ((backTo pos (starEach (e :: es) X.env)).any (·.1) || (backToKw pos (keywordEach kws X.env)).any (·.1.isNone)) = false := by rfl) :
    PE X (.Call (.Name x p) (e :: es) kws pos) (tMkKS C n ks.length sp gV E t tk) := by
  refine ⟨fun pins s σ H Q I h => wpAny_Call_Name_kw (ld_glob I hg hm ?_ hdb)⟩
  refine PySem.W.callWith_KW (h₀ := X.base) I.ok.mod.kin M.kp hall (thn (ha.run pos pins s σ H _ I h) fun us s1 ⟨vs, H1, I1, r, q⟩ => ?_) hpl he
  refine thn (hkw.run pos pins s1 σ H1 _ I1 q) fun ws s2 ⟨zs, H2, I2, rz, l1, l2, q2⟩ => ⟨I2.kIn, ?_⟩
  rw [hks]
  exact run_mkKS M F hr hb (hx σ) I2 r rz l1 l2 q2
end
end Bf
/-! Bf: a text times a number; the least of a list of texts; an own == asked of a value of another kind. -/
namespace Bf
open PySem PySem.Spec PyProof.Rows L2
/-! ### a text times a number -/
def repS (z : Str) (n : Nat) : Str := ⟨(List.replicate n z.cps).foldl (· ++ ·) #[]⟩
theorem foldl_empty (n : Nat) : (List.replicate n (#[] : Array Nat)).foldl (· ++ ·) #[] = #[] := by
  induction n with
  | zero => rfl
  | succ n ih => rw [List.replicate_succ, List.foldl_cons]; simpa using ih
theorem fold_app : ∀ (l : List (Array Nat)) (a : Array Nat), (l.foldl (· ++ ·) a).toList = a.toList ++ (l.map (·.toList)).flatten
  | [], a => by simp
  | b :: r, a => by
    rw [List.foldl_cons, fold_app r, Array.toList_append, List.map_cons, List.flatten_cons, List.append_assoc]
theorem rep_list (z : Str) (n : Nat) : (repS z n).cps.toList = (List.replicate n z.cps.toList).flatten := by
  unfold repS
  rw [fold_app, List.map_replicate]
  simp
theorem rep_len (z : Str) (n : Nat) : (repS z n).length = n * z.length := by
  show (repS z n).cps.size = n * z.cps.size
  rw [← Array.length_toList, rep_list, List.length_flatten, List.map_replicate, List.sum_replicate_nat, Array.length_toList]
theorem op_mulS {X : Cx} : OpR X (binaryOp .Mult) (fun x y H Q => ∃ (z : Str) (n : Nat), x = .str z ∧ y = .int n ∧ n ≤ 1000 ∧ z.length ≤ 1000 ∧ Q (.str (repS z n)) H) := by
  intro pins s σ H x y v u Q I rx ry h
  obtain ⟨z, n, rfl, rfl, hn, hz, q⟩ := h
  obtain ⟨t, rfl⟩ := rx
  obtain ⟨t', rfl⟩ := ry
  refine PySem.P.mul_str ?_ ?_ ?_ ?_
  · have h1 : ¬ ((n : Int) < -(2 ^ 63 : Int)) := by omega
    have h2 : ¬ ((n : Int) ≥ 2 ^ 63) := by omega
    rw [decide_eq_false h1, decide_eq_false h2]
    rfl
  · intro h1 _
    have h2 : (1 : Int) ≤ n := by omega
    have h3 : (1001 : Int) ≤ (2 ^ 63 - 1) / n := by
      rw [Int.le_ediv_iff_mul_le (by omega)]
      have : (1001 : Int) * n ≤ 1001 * 1000 := by omega
      omega
    omega
  · intro _ _
    refine decide_eq_false (p := _ > sizeLine) ?_
    have h1 : z.length * (n : Int).toNat ≤ 1000 * 1000 := Nat.mul_le_mul hz (by rw [Int.toNat_natCast]; exact hn)
    rw [sizeLine_eq]
    omega
  · by_cases h0 : (n : Int) < 1
    · rw [if_pos h0]
      have e : n = 0 := by omega
      subst e
      exact ⟨by decide, .str _, H, I.tok _, ⟨_, rfl⟩, q⟩
    · rw [if_neg h0]
      by_cases h1 : ((n : Int) == 1 || z.length == 0) = true
      · rw [if_pos h1]
        have e : repS z n = z := by
          rcases Bool.or_eq_true_iff.mp h1 with h | h
          · have : n = 1 := by have := eq_of_beq h; omega
            subst this
            show (⟨#[] ++ z.cps⟩ : Str) = z
            simp
          · have hz0 : z.cps = #[] := Array.eq_empty_of_size_eq_zero (eq_of_beq h)
            unfold repS
            rw [hz0, foldl_empty, ← hz0]
        rw [e] at q
        exact ⟨.str _, H, I, ⟨_, rfl⟩, q⟩
      · rw [if_neg h1]
        refine ⟨?_, .str _, H, I.tok _, ⟨_, rfl⟩, q⟩
        have h2 := rep_len z n
        have h3 : n * z.length ≤ 1000 * 1000 := Nat.mul_le_mul hn hz
        show (repS z n).length ≤ sizeLine
        rw [h2, sizeLine_eq]
        omega
/-! ### the least of a list of texts -/
theorem iter_list {prog : Program} {w : World} {A : Around} {E : Value → Shared → Prop} {s : Shared} {l : Addr} {xs : Array Value} {Q : Value → Shared → Prop} (hl : s.heap.IsList l xs)
    (h : ∀ s₂ : Shared, s₂ = { s with heap := s.heap.push { cls := .type "list_iterator", data := .fields #[.ref l, .int 0 0] } } →
      (s₂.heap.IsListIter s.heap.objs.size l 0 ∧ s₂.heap.IsList l xs) → (∀ b ∈ [s.heap.objs.size, l], b < s₂.heap.objs.size) → l ≠ s.heap.objs.size → Q (.ref s.heap.objs.size) s₂) :
    wpAny (model prog w) A (pyIter (.ref l)) Q E s := by
  have hlt : l < s.heap.objs.size := by
    obtain ⟨_, e, _⟩ := hl
    exact Heap.lt_size e
  refine wpAny_pyIter_list hl (h _ rfl ⟨⟨_, Heap.get?_push_size _ rfl, rfl, rfl⟩, hl.push _⟩ (fun b hb => ?_) (Nat.ne_of_lt hlt))
  show b < (s.heap.push _).objs.size
  rw [Heap.size_push]
  rcases List.mem_cons.mp hb with rfl | hb
  · exact Nat.lt_succ_self _
  · rw [List.mem_singleton.mp hb]
    exact Nat.lt_succ_of_lt hlt
theorem best_le (f : Nat → Str) : ∀ k, argBest (fun i j => decide ((f i).cps.toList < (f j).cps.toList)) k ≤ k ∧ ∀ j, j ≤ k → leS (f (argBest (fun i j => decide ((f i).cps.toList < (f j).cps.toList)) k)) (f j) = true
  | 0 => ⟨Nat.le_refl _, fun j hj => by
      have e : j = 0 := by omega
      subst e
      exact leS_iff.mpr (Std.le_refl _)⟩
  | k + 1 => by
    obtain ⟨h1, h2⟩ := best_le f k
    by_cases c : decide ((f (k + 1)).cps.toList < (f (argBest (fun i j => decide ((f i).cps.toList < (f j).cps.toList)) k)).cps.toList) = true
    · have e : argBest (fun i j => decide ((f i).cps.toList < (f j).cps.toList)) (k + 1) = k + 1 := if_pos c
      rw [e]
      refine ⟨Nat.le_refl _, fun j hj => ?_⟩
      by_cases z : j = k + 1
      · rw [z]; exact leS_iff.mpr (Std.le_refl _)
      · have h3 := leS_iff.mp (h2 j (by omega))
        exact leS_iff.mpr (Std.le_trans (Std.le_of_lt (of_decide_eq_true c)) h3)
    · have e : argBest (fun i j => decide ((f i).cps.toList < (f j).cps.toList)) (k + 1) = argBest (fun i j => decide ((f i).cps.toList < (f j).cps.toList)) k := if_neg c
      rw [e]
      refine ⟨by omega, fun j hj => ?_⟩
      by_cases z : j = k + 1
      · rw [z]
        exact leS_iff.mpr (Std.not_lt.mp fun y => c (decide_eq_true y))
      · exact h2 j (by omega)
theorem getDm {xs : List Str} {i : Nat} (h : i < xs.length) : xs.getD i "" ∈ xs := by
  have e : xs.getD i "" = xs[i] := by simp [List.getD, h]
  rw [e]
  exact List.getElem_mem h
theorem strs_at {its : List Value} {xs : List Str} (h : StrsAre its xs) : ∀ {i : Nat} {v : Value}, its[i]? = some v → ∃ t, v = Value.str (xs.getD i "") t := by
  induction h with
  | nil => intro i v h; cases h
  | cons y t r ih =>
    intro i v h
    cases i with
    | zero => exact ⟨t, (Option.some.inj h).symm⟩
    | succ j => exact ih h
def rMinS (K : PySem.W.Frag) : List V → Hp → VK → Prop := fun vs H Q => ∃ (a : Addr) (xs : List Str), vs = [V.ref a] ∧ SqL K H a (xs.map V.str) ∧ xs ≠ [] ∧ ∀ m, m ∈ xs → (∀ y ∈ xs, leS m y = true) → Q (.str m) H
theorem cr_minS {X : Cx} (hc : X.calm = true) : CallR X (.builtin "min") (rMinS X.K) := by
  intro pins s σ H vs us Q I r h
  obtain ⟨a, xs, rfl, hs, hne, q⟩ := h
  obtain ⟨its, rv, hl, _⟩ := I.list hs
  rw [Vals.ref1 r]
  have hS : StrsAre its xs := rv.strs
  have hlen : its.length = xs.length := by
    have e := rv.length
    rw [List.length_map] at e
    exact e.symm
  have pos : 0 < xs.length := List.length_pos_iff.mpr hne
  have at_ : ∀ i v, its.toArray[i]? = some v → ∃ t, v = Value.str (xs.getD i "") t := fun i v h => strs_at hS (by simpa using h)
  refine call_min_walk (iter_list hl.isList fun s2 e st hfp hlI => ?_)
  subst e
  refine ⟨_, _, _, _, _, _, fun i j => decide ((xs.getD i "").cps.toList < (xs.getD j "").cps.toList), rfl, Walks.list (A := X.A.in1) (I.ok.hd hc) _ a hlI its.toArray, st, hfp, by simpa [hlen] using pos, fun i j vi vj s Q E hi hj hq => ?_, fun v h' tk hP hk => ?_⟩
  · obtain ⟨t, rfl⟩ := at_ i vi hi
    obtain ⟨t', rfl⟩ := at_ j vj hj
    exact (PyProof.Rows.lt_str hq : wpAny (model X.prog X.w) X.A.in1 (compareOp .Lt (.str _ t) (.str _ t')) _ _ _)
  · obtain ⟨t, rfl⟩ := at_ _ v hP
    obtain ⟨b1, b2⟩ := best_le (fun i => xs.getD i "") (its.toArray.size - 1)
    have sz : its.toArray.size = xs.length := by simpa using hlen
    refine ⟨.str _, H, I.kept (old_kept hk), ⟨_, rfl⟩, q _ ?_ ?_⟩
    · rw [sz] at b1 ⊢
      have : argBest (fun i j => decide ((xs.getD i "").cps.toList < (xs.getD j "").cps.toList)) (xs.length - 1) < xs.length := by omega
      exact getDm this
    · intro y hy
      obtain ⟨j, hj, rfl⟩ := List.mem_iff_getElem.mp hy
      have := b2 j (by rw [sz]; omega)
      simpa [List.getD, hj] using this
/-! ### an own == asked of a value of another kind -/
def rEqO (K : PySem.W.Frag) (C : Addr) (sp : Sp) : R2 := fun x y H Q => ∃ a dx fs t, x = .ref a ∧ H a = some (.ins C dx fs) ∧ TyX K H y t ∧ PySem.W.notFirst K C t = true ∧
  sp [.ref a, y] H (fun v H' => ∃ k, v = .bl k ∧ Q (.bl k) H') (fun _ _ _ => False)
theorem op_eqO {X : Cx} {k : Nat} {C f : Addr} {fd : FuncData} {ps : List Str} {sp : Sp} (T : OwnEq X.K C f) (F : FnOk X.prog X.w X.K X.mg X.base CX0 k f fd ps sp) (hb : Binds X.K fd ps []) (hr : Room k X.A) : OpR X (compareOp .Eq) (rEqO X.K C sp) := by
  intro pins s σ H x y v u Q I rx ry h
  obtain ⟨a, dx, fs, t, rfl, ha, ty, nf, hsp⟩ := h
  cases rx
  obtain ⟨_, J, _⟩ := ins_get I.hok ha
  obtain ⟨_, J, _⟩ := J.look
  obtain ⟨m, hF⟩ := I.fr
  obtain ⟨Pk, Z, hP, _⟩ := kit_of I ry ty
  show wpAny (model X.prog X.w) X.A (richCompare .Eq (.ref a) u) (EP X pins σ Q) X.xe s
  refine PySem.W.cmp_K (op := .Eq) (tb := t) hr.units0 hF I.ok.mod.kin J (Z.ty _ _ I.kIn hP) nf T.eq T.fn ?_
  refine wpAny_mono (run_fn (E := fun _ _ _ => False) (dvs := []) (ds := []) F hr hb .nil pass0 I (vs := [.ref a, y]) (us := [.ref a, u]) (.cons rfl (.cons ry .nil)) hsp) (fun v s' z => ?_) fun _ _ z => z
  obtain ⟨z, H', I', rz, kk, rfl, q⟩ := z
  cases rz
  exact ⟨.bl kk, H', I', rfl, q⟩
end Bf
/-! Bf: what the laws share beside the rules (names, heaps that grow, dicts built of pairs, locks, the written part). -/
namespace Bf
open PySem PySem.Spec PyProof.Rows L2 Evl
section
variable {P : Program} {w : World} {K : PySem.W.Frag} {mg : Str → Option Value} {base : Heap} {f fi : Addr} {fd fdi : FuncData}
def NmArg (K : PySem.W.Frag) (H : Hp) (v : V) : Prop := (∃ z, v = .str z ∧ z.length ≤ 1000) ∨ ((∀ z, v ≠ .str z) ∧ ∃ t, TyX K H v (.type t) ∧ kitB t "str" = some false)
def isNmV : V → Bool
  | .str z => isNm z
  | _ => false
def spNm (K : PySem.W.Frag) : Sp := fun vs H Q _ => ∃ v, vs = [v] ∧ NmArg K H v ∧ ∀ H', Ex H H' → Q (.bl (isNmV v)) H'
theorem isNmV_no {v : V} (h : ∀ z, v ≠ .str z) : isNmV v = false := by
  cases v with
  | str z => exact absurd rfl (h z)
  | _ => rfl
theorem all_signs {z : Str} {bs : List Bool} (h : bs = (List.range z.cps.size).map fun i => decide (z.cps.getD i 0 ∈ abc.cps.toList)) : bs.all id = z.cps.toList.all fun c => decide (c ∈ abc.cps.toList) := by
  have e := range_map_get z.cps.toList (fun c => decide (c ∈ abc.cps.toList)) (fun i => decide (z.cps.getD i 0 ∈ abc.cps.toList)) (fun i x hx => by
    have : z.cps.getD i 0 = x := by
      rw [Array.getElem?_toList] at hx
      simp [Array.getD, hx]
      obtain ⟨h1, h2⟩ := Array.getElem?_eq_some_iff.mp hx
      simp [h1, h2]
    rw [this])
  rw [Array.length_toList] at e
  rw [h, e, List.all_map]
  rfl
theorem nm_long {z : Str} (h : 8 < z.length) : isNmV (.str z) = false := by
  show isNm z = false
  unfold isNm
  rw [decide_eq_false (show ¬ z.length ≤ 8 by omega), Bool.false_and, Bool.and_false]
theorem nm_short {z : Str} (h : z.length < 1) : isNmV (.str z) = false := by
  show isNm z = false
  unfold isNm
  rw [decide_eq_false (show ¬ 1 ≤ z.length by omega), Bool.false_and]
theorem nm_okV {z : Str} (h1 : 1 ≤ z.length) (h2 : z.length ≤ 8) : isNmV (.str z) = z.cps.toList.all fun c => decide (c ∈ abc.cps.toList) := by
  show isNm z = _
  unfold isNm
  rw [decide_eq_true h1, decide_eq_true h2, Bool.true_and, Bool.true_and]
theorem iteB {b : Bool} {A B : Prop} (h1 : b = true → A) (h2 : b = false → B) : if b = true then A else B := by
  cases b with
  | true => exact iteT (h1 rfl)
  | false => exact iteF (h2 rfl)
theorem seqIx {m n : Nat} (h : m < n) : seqIndex? (m : Int) n = some m := by
  unfold seqIndex?
  simp
  omega
theorem map_erase {α β : Type} (g : α → β) : ∀ (l : List α) (k : Nat), (l.map g).eraseIdx k = (l.eraseIdx k).map g
  | [], _ => rfl
  | _ :: _, 0 => rfl
  | a :: r, k + 1 => by
    show g a :: (r.map g).eraseIdx k = g a :: (r.eraseIdx k).map g
    rw [map_erase g r k]
theorem perm_erase {α : Type} : ∀ {l : List α} {k : Nat} {x : α}, l[k]? = some x → (x :: l.eraseIdx k).Perm l
  | [], _, _, h => by simp at h
  | a :: r, 0, x, h => by
    have e : a = x := Option.some.inj h
    subst e
    exact List.Perm.refl _
  | a :: r, k + 1, x, h => by
    have ih := perm_erase (l := r) (k := k) (x := x) h
    show (x :: a :: r.eraseIdx k).Perm (a :: r)
    exact (List.Perm.swap a x _).trans (ih.cons a)
def KeysAt (K : PySem.W.Frag) (H : Hp) (p : Addr) (ss : List Str) : Prop := SqL K H p (ss.map V.str) ∨ ∃ kvs : List (Key × V), H p = some (.dK kvs) ∧ kvs.map (·.1) = ss.map Sum.inr
theorem keys_map {kvs : List (Key × V)} {ss : List Str} (h : kvs.map (·.1) = ss.map Sum.inr) : (kvs.map fun kv => kV kv.1) = ss.map V.str := by
  have e : (kvs.map fun kv => kV kv.1) = (kvs.map (·.1)).map kV := by rw [List.map_map]; rfl
  rw [e, h, List.map_map]
  rfl
theorem keys_len {kvs : List (Key × V)} {ss : List Str} (h : kvs.map (·.1) = ss.map Sum.inr) : kvs.length = ss.length := by
  have e := congrArg List.length h
  rwa [List.length_map, List.length_map] at e
theorem KeysAt.mono {H H' : Hp} {p : Addr} {ss : List Str} (h : KeysAt K H p ss) (e : Ex H H') : KeysAt K H' p ss := by
  rcases h with h | ⟨kvs, h, k⟩
  · exact .inl (ex_l e h)
  · exact .inr ⟨kvs, e p _ h, k⟩
theorem cr_listK {X : Cx} (hc : X.calm = true) : CallR X (.type "list") (fun xs H Q => ∃ (p : Addr) (ss : List Str), xs = [.ref p] ∧ KeysAt X.K H p ss ∧ ∀ l, H l = none → Q (.ref l) (upd H l (.lst (ss.map V.str)))) := by
  intro pins s σ H vs us Q I r h
  obtain ⟨p, ss, rfl, hk, q⟩ := h
  rcases hk with h | ⟨kvs, h, hks⟩
  · exact call_list_of pins s σ H _ us Q I r ⟨p, _, rfl, .inl h, q⟩
  · exact call_listD hc pins s σ H _ us Q I r ⟨p, kvs, rfl, .inl h, fun l nl => by rw [keys_map hks]; exact q l nl⟩
theorem cr_lenK {X : Cx} : CallR X (.builtin "len") (fun xs H Q => ∃ (p : Addr) (ss : List Str), xs = [.ref p] ∧ KeysAt X.K H p ss ∧ Q (.int ss.length) H) := by
  intro pins s σ H vs us Q I r h
  obtain ⟨p, ss, rfl, hk, q⟩ := h
  rcases hk with h | ⟨kvs, h, hks⟩
  · exact call_len_seq pins s σ H _ us Q I r ⟨p, _, rfl, .inl h, by rw [List.length_map]; exact q⟩
  · exact call_lenD pins s σ H _ us Q I r ⟨p, kvs, rfl, h, by rw [keys_len hks]; exact q⟩
def Out (K : PySem.W.Frag) (H : Hp) (E : XK) (x f : Str) (v : V) : Prop := ∀ (d : Addr) (G : Hp), Ex H G → H d = none → G d = some (.xd [(f, v)]) → E (.ref (He.ga K x)) (some d) G
theorem Out.go {K : PySem.W.Frag} {H G : Hp} {E : XK} {x f : Str} {v : V} (o : Out K H E x f v) (e : Ex H G) {d : Addr} (hd : G d = none) : E (.ref (He.ga K x)) (some d) (upd G d (.xd [(f, v)])) :=
  o d _ (e.trans (Ex.new hd)) (fresh_back e hd) upd_same
theorem take_map (xs : List Str) (i : Nat) (h : i ≤ xs.length) : cutV (xs.map V.str) none (some (i : Int)) = (xs.take i).map V.str := by
  unfold cutV
  rw [HT.sIx_none, HT.sIx_nat, List.drop_zero, Nat.sub_zero, List.length_map, Nat.min_eq_left h, List.map_take]
theorem getD_map {xs : List Str} {i : Nat} {v : V} (h : (xs.map V.str)[i]? = some v) : v = .str (xs.getD i "") ∧ i < xs.length := by
  rw [List.getElem?_map] at h
  cases e : xs[i]? with
  | none => rw [e] at h; cases h
  | some z =>
    rw [e] at h
    obtain ⟨h1, h2⟩ := List.getElem?_eq_some_iff.mp e
    refine ⟨?_, h1⟩
    rw [← Option.some.inj h]
    simp [List.getD, e]
theorem getD_mem {xs : List Str} {i : Nat} (h : i < xs.length) : xs.getD i "" ∈ xs := by
  have e : xs.getD i "" = xs[i] := by simp [List.getD, h]
  rw [e]
  exact List.getElem_mem h
theorem hu65 {A : Around} {k : Nat} (r : Room k A) : A.units + 65 < cLine := by
  have := r.un
  omega
def ExB (x : Addr) (H G : Hp) : Prop := ∀ b o, b ≠ x → H b = some o → G b = some o
theorem Ex.toB {x : Addr} {H G : Hp} (e : Ex H G) : ExB x H G := fun b o _ h => e b o h
theorem ExB.then {x : Addr} {H G G' : Hp} (a : ExB x H G) (e : Ex G G') : ExB x H G' := fun b o n h => e b o (a b o n h)
theorem ExB.set {x : Addr} {H G : Hp} {o : HO} (a : ExB x H G) : ExB x H (upd G x o) := fun b u n h => by rw [upd_ne n]; exact a b u n h
def OutB (K : PySem.W.Frag) (x : Addr) (H : Hp) (E : XK) (c f : Str) (v : V) : Prop := ∀ (d : Addr) (G : Hp), ExB x H G → d ≠ x → H d = none → G d = some (.xd [(f, v)]) → E (.ref (He.ga K c)) (some d) G
theorem OutB.go {x : Addr} {H G : Hp} {E : XK} {c f : Str} {v : V} {o : HO} (q : OutB K x H E c f v) (e : ExB x H G) (hx : G x = some o) {d : Addr} (hd : G d = none) : E (.ref (He.ga K c)) (some d) (upd G d (.xd [(f, v)])) := by
  have nx : d ≠ x := fun z => by rw [z, hx] at hd; cases hd
  refine q d _ (e.then (Ex.new hd)) nx ?_ upd_same
  cases h : H d with
  | none => rfl
  | some u => rw [e d u nx h] at hd; cases hd
theorem dc_it {J : It} {n : Nat} {G : Hp → Prop} {Y : Nat → Hp → V → Hp → Prop} (w : Walk J n G Y) {g : TG} {tt : TT} {tk tv : TE} {vs : List Nat} {σ : L2.St} {H1 : Hp} {D : Addr} {Qd : Hp → Prop} (Pv : Nat → Hp → Prop)
    (h0 : Pv 0 (upd H1 D (.dK []))) (hG : ∀ i H, i ≤ n → Pv i H → G H)
    (hs : ∀ i x H H', i < n → Pv i H → Y i H x H' → g x (wipe σ vs) H' fun σ2 H2 => wipe σ2 vs = wipe σ vs ∧ tt σ2 H2 fun b H3 =>
      if b = true then tk σ2 H3 fun y H4 => tv σ2 H4 fun z H5 => ∃ kvs k, y = kV k ∧ H5 D = some (.dK kvs) ∧ kvs.length < sizeLine ∧ Pv (i + 1) (upd H5 D (.dK (putK kvs k z))) else Pv (i + 1) H3) (hd : ∀ H, Pv n H → Qd H) :
    ∃ W : Nat → Nat → Hp → Prop, (∃ m, W 0 m (upd H1 D (.dK []))) ∧ ∀ i m H, W i m H →
      (J.stop i H ∧ Qd H) ∨ (J.go i H ∧ ∃ Nx : Hp → Prop, (∀ H', Nx H' → ∃ m', m' < m ∧ W (i + 1) m' H') ∧ ∀ x H', J.yld i H x H' → g x (wipe σ vs) H' fun σ2 H2 => wipe σ2 vs = wipe σ vs ∧ tt σ2 H2 fun b H3 =>
        if b = true then tk σ2 H3 fun y H4 => tv σ2 H4 fun z H5 => ∃ kvs k, y = kV k ∧ H5 D = some (.dK kvs) ∧ kvs.length < sizeLine ∧ Nx (upd H5 D (.dK (putK kvs k z))) else Nx H3) := by
  refine ⟨fun i m H => m = n - i ∧ i ≤ n ∧ Pv i H, ⟨n, by simp, Nat.zero_le _, h0⟩, ?_⟩
  rintro i m H ⟨rfl, hi, p⟩
  by_cases hlt : i < n
  · exact .inr ⟨w.goes i H hlt (hG i H hi p), Pv (i + 1), fun H' p' => ⟨n - (i + 1), by omega, rfl, hlt, p'⟩, fun x H' y => hs i x H H' hlt p (w.yields i H x H' hlt (hG i H hi p) y)⟩
  · have e : i = n := by omega
    subst e
    exact .inl ⟨w.stops H (hG i H hi p), hd H p⟩
theorem paired_snoc {α β : Type} {R : α → β → Prop} : ∀ {l : List α} {m : List β} {a : α} {b : β}, Paired R l m → R a b → Paired R (l ++ [a]) (m ++ [b])
  | _, _, _, _, .nil, h => .cons h .nil
  | _, _, _, _, .cons x t, h => .cons x (paired_snoc t h)
theorem not_in_take {α : Type} {l : List α} (nd : l.Nodup) {i : Nat} {x : α} (h : l[i]? = some x) : x ∉ l.take i := by
  intro hm
  obtain ⟨j, hj, e⟩ := List.mem_iff_getElem.mp hm
  obtain ⟨h1, h2⟩ := List.getElem?_eq_some_iff.mp h
  rw [List.length_take] at hj
  have hj1 : j < l.length := by omega
  rw [List.getElem_take] at e
  exact (List.pairwise_iff_getElem.mp nd) j i hj1 h1 (by omega) (e.trans h2.symm)
def Exm (K : PySem.W.Frag) (x y : Str) (b : Bool) : Prop := PySem.W.exmOne K (.ref (He.ga K x)) (.ref (He.ga K y)) = some b
theorem exb_back {H1 G : Hp} {y dy : Addr} {o o' : HO} (hy : H1 y = none) (hd : H1 dy = none) (e : ExB y (upd (upd H1 dy o) y o') G) : Ex H1 G := fun b u h => by
  have n1 : b ≠ y := fun z => by rw [z, hy] at h; cases h
  have n2 : b ≠ dy := fun z => by rw [z, hd] at h; cases h
  exact e b u n1 (by rw [upd_ne n1, upd_ne n2]; exact h)
theorem ex_new2 {H1 : Hp} {y dy : Addr} {o o' : HO} (hy : H1 y = none) (hd : H1 dy = none) : Ex H1 (upd (upd H1 dy o) y o') := exb_back hy hd (fun b u n h => h)
theorem nope {p : Prop} : ∀ {a b : Bool}, (a != b) = true → a = b → p := fun h z => by subst z; simp at h
theorem natOf {l : List Int} {v : V} (h : v ∈ l.map V.int) (p : ∀ i ∈ l, 0 ≤ i ∧ i ≤ 25) : ∃ m : Nat, v = .int m ∧ (m : Int) ∈ l ∧ m ≤ 25 := by
  obtain ⟨i, hi, rfl⟩ := List.mem_map.mp h
  obtain ⟨h0, h1⟩ := p i hi
  obtain ⟨m, rfl⟩ := Int.eq_ofNat_of_zero_le h0
  exact ⟨m, rfl, hi, by omega⟩
theorem viaC {p : Prop} {C R : V → Hp → Prop} (h1 : (∀ v G, R v G → C v G) → p) (h2 : ∀ v G, R v G → C v G) : p := h1 h2
theorem drop_map (xs : List Str) (k : Nat) (h : k ≤ xs.length) : cutV (xs.map V.str) (some (k : Int)) none = (xs.drop k).map V.str := by
  unfold cutV
  rw [HT.sIx_none, HT.sIx_nat, List.length_map, Nat.min_eq_left h, List.map_drop]
  exact List.take_of_length_le (by rw [List.length_drop, List.length_map]; omega)
theorem tup_upd {H : Hp} {d t : Addr} {o o' : HO} {xs : List V} (hd : H d = some o) (no : ∀ ys, o ≠ .tup ys) (h : H t = some (.tup xs)) : (upd H d o') t = some (.tup xs) := by
  rw [upd_ne fun z => by rw [z, hd] at h; exact no _ (Option.some.inj h)]
  exact h
theorem merge_app : ∀ (kvs acc : List (Key × V)), ((acc ++ kvs).map (·.1)).Nodup → mergeK acc kvs = acc ++ kvs
  | [], acc, _ => by rw [List.append_nil]; rfl
  | p :: r, acc, h => by
    have e : mergeK acc (p :: r) = mergeK (putK acc p.1 p.2) r := rfl
    have no : valV acc p.1 = none := by
      unfold valV
      rw [List.find?_eq_none.mpr]
      · rfl
      · intro q hq z
        rw [List.map_append] at h
        exact (List.nodup_append.mp h).2.2 q.1 (List.mem_map.mpr ⟨q, hq, rfl⟩) p.1 (List.mem_map.mpr ⟨p, List.mem_cons_self, rfl⟩) (of_decide_eq_true z)
    rw [e, putK_new _ no, merge_app r _ (by rw [List.append_assoc]; exact h), List.append_assoc]
    rfl
def PairsAt (H : Hp) (D : Addr) (kvs : List (Key × V)) : Prop := ∃ ps : List Addr, H D = some (.lst (ps.map V.ref)) ∧ Paired (fun p kv => H p = some (.tup [kV kv.1, kv.2])) ps kvs
theorem PairsAt.nil {H : Hp} {D : Addr} : PairsAt (upd H D (.lst [])) D [] := ⟨[], upd_same, .nil⟩
theorem PairsAt.upd {H : Hp} {D d : Addr} {kvs : List (Key × V)} {o o' : HO} (h : PairsAt H D kvs) (hd : H d = some o) (no : ∀ ys, o ≠ .tup ys) (ne : D ≠ d) : PairsAt (upd H d o') D kvs := by
  obtain ⟨ps, h1, h2⟩ := h
  exact ⟨ps, by rw [upd_ne ne]; exact h1, Paired.mapP h2 fun _ _ z => tup_upd hd no z⟩
theorem PairsAt.more {H G : Hp} {D t : Addr} {kvs : List (Key × V)} {k : Key} {v : V} {n : Nat} (h : PairsAt H D kvs) (e : Ex H G) (ht : G t = some (.tup [kV k, v])) (hl : kvs.length ≤ 1000) :
    ∃ acc, G D = some (.lst acc) ∧ acc.length < sizeLine ∧ PairsAt (L2.upd G D (.lst (acc ++ [.ref t]))) D (kvs ++ [(k, v)]) := by
  obtain ⟨ps, h1, h2⟩ := h
  have hD := e D _ h1
  have hlen := Paired.length h2
  refine ⟨_, hD, by rw [List.length_map]; exact sz_lt (by omega), ps ++ [t], by rw [upd_same, List.map_append]; rfl, paired_snoc (Paired.mapP h2 fun _ _ z => tup_upd hD (fun _ z => by cases z) (e _ _ z)) (tup_upd hD (fun _ z => by cases z) ht)⟩
theorem PairsAt.sq {H : Hp} {D : Addr} {kvs : List (Key × V)} (h : PairsAt H D kvs) : ∃ ps : List Addr, SqL K H D (ps.map V.ref) ∧ Paired (fun p kv => SqT K H p [kV kv.1, kv.2]) ps kvs := by
  obtain ⟨ps, h1, h2⟩ := h
  exact ⟨ps, sq_of h1, Paired.mapP h2 fun _ _ z => st_of z⟩
theorem lock_ex {H G : Hp} {d : Addr} {u o : HO} (hd : H d = some u) (e : Ex (upd H d o) G) : Ex H (upd G d u) := fun b v h => by
  by_cases z : b = d
  · rw [z, hd] at h
    rw [z, upd_same, ← h]
  · rw [upd_ne z]
    exact e b v (by rw [upd_ne z]; exact h)
theorem dget_frz {H : Hp} {d : Addr} {kvs : List (Key × V)} {n : Str} {o : Obj} {r : Option V} (h : H d = some (.frz o (.dK kvs))) (e : valV kvs (Sum.inr n) = r) : DGet H d (.str n) r := by
  rw [← e]
  exact .inl ⟨kvs, Sum.inr n, .inr ⟨o, h⟩, rfl, rfl⟩
theorem dget_at {H : Hp} {d : Addr} {kvs : List (Key × V)} {n : Str} {r : Option V} (h : H d = some (.dK kvs)) (e : valV kvs (Sum.inr n) = r) : DGet H d (.str n) r := by
  rw [← e]
  exact DGet.k (k := Sum.inr n) h
def insB (K : PySem.W.Frag) (C : Addr) : Bool := isO (PySem.W.findIn K (.ref C) "__class__") (some (some (.builtin "object.__class__"))) && (isO (PySem.W.specialIn K (.builtin "object.__class__") "__get__") (some (some (.builtin "getset_descriptor.__get__"))) &&
  (decide (PySem.W.takesIn K (.builtin "object.__class__") = some true) && (decide (PySem.W.mroIn K C (.type "object") = some true) && decide (PySem.W.kitOne K (.ref C) (.ref C) = some true))))
theorem insB_ok {K : PySem.W.Frag} {C : Addr} (h : insB K C = true) (cl : Cls K C) : C8.InsC K C := by
  obtain ⟨h1, h⟩ := Bool.and_eq_true_iff.mp h
  obtain ⟨h2, h⟩ := Bool.and_eq_true_iff.mp h
  obtain ⟨h3, h⟩ := Bool.and_eq_true_iff.mp h
  obtain ⟨h4, h5⟩ := Bool.and_eq_true_iff.mp h
  exact ⟨cl, of_decide_eq_true h1, of_decide_eq_true h2, of_decide_eq_true h3, of_decide_eq_true h4, of_decide_eq_true h5⟩
theorem SayB.def_ {fn : List He.DefD} {ex : PySem.W.Frag → Bool} {K : PySem.W.Frag} (c : SayB fn ex K) (i : Nat) {d : He.DefD} (h : fn[i]? = some d) : ∃ fd, FunD K d.name d.qual d.params d.body d.scope (d.dvs K) (d.kws K) (He.fAd K d.at_) fd :=
  c.defs d (List.mem_of_getElem? h)
theorem cal_of {CX : CXT} {k : Nat} {x : Str} {ps : List Str} {sp : Sp} {st : Stmt} {fd : FuncData} (F : FnS K x x st (He.ga K x) fd) (ok : FnOk P w K mg base CX k (He.ga K x) fd ps sp) (g : mg x = some (.ref (He.ga K x)))
    (b : ∀ (kV doc pm : Value) (an : Option Addr) (cdv ct : Value) (us : List Value), us.length = ps.length → bindArgs (PySem.W.fnOf x x (defArgs st) (defBody st) (defScope st) .none kV doc pm an cdv ct) ⟨us, []⟩ = pure (ps.zip us)) :
    Cal P w K mg base CX k x ps sp := ⟨He.ga K x, fd, ok, g, F.kp, F.bindsN b⟩
end
end Bf
/-! Bf: isinstance of a caught error with fields. A call with keyword-only parameters. -/
namespace Bf
open PySem PySem.Spec PyProof.Rows L2
/-- isinstance(e, c) in a suite: cls the error's class (one of S), d its dict -/
def rIsX (K : PySem.W.Frag) (S : Addr → Prop) (a : Addr) (cls : Value) (d : Option Addr) : List V → Hp → VK → Prop := fun xs H Q =>
  ∃ (D dd : Addr) (fs : List (Str × V)) (c : V) (cv : Value) (b : Bool), xs = [.ref a, c] ∧ S D ∧ cls = .ref D ∧ d = some dd ∧ H dd = some (.xd fs) ∧ ClsV c cv ∧ PySem.W.kitOne K (.ref D) cv = some b ∧ Q (.bl b) H
theorem call_isX {X : Cx} {S : Addr → Prop} {a : Addr} {cls : Value} {d : Option Addr} {oe : Obj} {pn : List (Addr × Obj)} (C : ∀ D, S D → ExcC X.K D) (hz : Zc cls d oe) (hf : ∃ vs, oe.data = .fields vs) :
    CallR (X.suite a ((a, oe) :: pn)) (.builtin "isinstance") (rIsX X.K S a cls d) := by
  intro pins s σ H xs us Q I r h
  obtain ⟨D, dd, fs, c, cv, b, rfl, hS, rfl, rfl, hdd, kc, e, q⟩ := h
  obtain ⟨u, v, rfl, ru, rv⟩ := vals2 r
  have eu : u = .ref a := ru
  have ev := kc.eq rv
  subst eu ev
  obtain ⟨got, _⟩ := I.pin (a, oe) (List.mem_append_left _ List.mem_cons_self)
  obtain ⟨vs, dat⟩ := hf
  have c1 := C D hS
  have xd : ObjOk X.prog X.w H s.heap dd (.xd fs) := I.hok dd _ hdd
  obtain ⟨mA, ns, _⟩ := xd
  obtain ⟨od, at_, _⟩ := lookIn_ns ns
  have J : PySem.W.InstAt s.heap a oe D (some od) := ⟨got, hz.1, by unfold PySem.W.notCls; rw [dat] <;> rfl, by rw [hz.2]; exact at_⟩
  have hc : (PySem.W.clsIn X.K D).isSome = true := by
    obtain ⟨cd, z, _⟩ := PySem.W.any_some c1.hd
    rw [z]
    rfl
  exact PySem.W.kia_one (PySem.W.kitx_exc hc c1.hg c1.hk c1.hs c1.ha c1.hn c1.ht c1.hm) I.kIn J e (fun z => nomatch z) fun tk => ⟨.bl b, H, I.kept (t' := tk) fun _ _ z => z, rfl, q⟩
def exIsB (K : PySem.W.Frag) (D : Addr) : Bool := isO (PySem.W.findIn K (.ref D) "__getattribute__") (some (some (.builtin "BaseException.__getattribute__"))) && (isO (PySem.W.findIn K (.ref D) "__getattr__") (some none) && (decide (PySem.W.subIn K (.ref D) (.type "BaseException") = some true) &&
  (PySem.W.hasDictIn K D && (isO (PySem.W.findIn K (.ref D) "__class__") (some (some (.builtin "object.__class__"))) && (isO (PySem.W.specialIn K (.builtin "object.__class__") "__get__") (some (some (.builtin "getset_descriptor.__get__"))) &&
  (decide (PySem.W.takesIn K (.builtin "object.__class__") = some true) && decide (PySem.W.mroIn K D (.type "object") = some true)))))))
theorem exIsB_ok {K : PySem.W.Frag} {D : Addr} (h : exIsB K D = true) : ExcC K D := by
  obtain ⟨h1, h⟩ := Bool.and_eq_true_iff.mp h
  obtain ⟨h2, h⟩ := Bool.and_eq_true_iff.mp h
  obtain ⟨h3, h⟩ := Bool.and_eq_true_iff.mp h
  obtain ⟨h4, h⟩ := Bool.and_eq_true_iff.mp h
  obtain ⟨h5, h⟩ := Bool.and_eq_true_iff.mp h
  obtain ⟨h6, h⟩ := Bool.and_eq_true_iff.mp h
  obtain ⟨h7, h8⟩ := Bool.and_eq_true_iff.mp h
  exact ⟨of_decide_eq_true h1, of_decide_eq_true h2, of_decide_eq_true h3, h4, of_decide_eq_true h5, of_decide_eq_true h6, of_decide_eq_true h7, of_decide_eq_true h8⟩
/-- the keyword-only parameters come last, and all are given -/
theorem kbn_of {K : PySem.W.Frag} {x q : Str} {st : Stmt} {f : Addr} {fd : FuncData} {ps : List Str} {n : Nat} {ks : List Str} (F : FnS K x q st f fd)
    (b : ∀ (kV doc pm : Value) (an : Option Addr) (cdv ct : Value) (us ws : List Value), us.length = n → ws.length = ks.length → bindArgs (PySem.W.fnOf x q (defArgs st) (defBody st) (defScope st) .none kV doc pm an cdv ct) ⟨us, ks.zip ws⟩ = pure (ps.zip (us ++ ws))) :
    KBn K fd ps n ks (fun us ws => us ++ ws) (fun vs zs => vs ++ zs) := by
  obtain ⟨oc, od, dV, kV, doc, pm, an, cdv, ct, osl, rfl, lk, hcd, hD, hK⟩ := F.ex
  rcases hD with ⟨_, rfl⟩ | ⟨e, _⟩
  · exact ⟨fun s us ws _ l1 l2 => .of_eq (b kV doc pm an cdv ct us ws l1 l2), fun r1 r2 => r1.append r2⟩
  · exact absurd rfl e
end Bf
/-! Dz: code read over plain data. D: a value as a tree; Rep: a value of the heap is that tree; Th: what is kept of the heap; the slots by data. -/
namespace Dz
open PySem PySem.Spec PyProof.Rows L2 Evl Bf
inductive D where
  | non | bl (b : Bool) | int (i : Int) | str (s : Str)
  | lst (xs : List D) | tup (xs : List D) | dic (kvs : List (Key × D))
  | ins (c : Str) (fs : List (Str × D))
  | ty (n : String) | cls (c : Str) | scr (ns : List Int) | exc (a dd : Addr) (c : Str) (fs : List (Str × D)) | well (k : Nat) | fam (names : List Str) (src : D) (g : Str) | dit (kvs : List (List Key × V))
/-! ### what may be a well -/
def Well3 (xs : List V) : Prop := ∃ i j k : Int, xs = [.int i, .int j, .int k]
def Well4 (xs : List V) : Prop := ∃ n i j k : Int, xs = [.int n, .int i, .int j, .int k] ∧ 0 ≤ n
abbrev wst (s : Addr) (n i j k l : Int) : List V := [.ref s, .int n, .int i, .int j, .int k, .int l]
def Well6 (s : Addr) (xs : List V) : Prop := ∃ n i j k l : Int, xs = wst s n i j k l ∧ 0 ≤ n
def WellK (H : Hp) (ow : Addr → Prop) (a : Addr) : Nat → Prop
  | 0 => H a = some (absL a Well3)
  | 1 => H a = some (absL a Well4)
  | _ => ∃ (s : Addr) (ns : List Int), H a = some (absL a (Well6 s)) ∧ H s = some (.lst (ns.map V.int)) ∧ ¬ ow s
/-- a list of the outside: locked, or written -/
def SqF (K : PySem.W.Frag) (H : Hp) (a : Addr) (vs : List V) : Prop := (∃ o, H a = some (.frz o (.lst vs))) ∨ ∃ (o : Obj) (its : Array Value) (n : Nat), K.lookup a = some o ∧ o.cls = .type "list" ∧ o.dict = none ∧ o.data = .seq its n ∧ its.size ≤ sizeLine ∧ Vals vs its.toList
theorem SqF.l {K : PySem.W.Frag} {H : Hp} {a : Addr} {vs : List V} (h : SqF K H a vs) : SqL K H a vs := h.elim (fun z => .inl (.inr z)) .inr
/-- a family of the program: its fields, and behind them, seen by none, what its ranks are -/
abbrev famO (K : PySem.W.Frag) (dx t s c : Addr) (g : Str) : HO := .ins (He.ga K "Family") dx [("names", .ref t), ("source", .ref s), ("counted", .ref c), ("names", .str g)]
/-- the dict at c is a family's own -/
def isMemo (K : PySem.W.Frag) (H : Hp) (c : Addr) : Prop := ∃ (a dx t s : Addr) (g : Str), H a = some (famO K dx t s c g)
/-! ### a value of the heap is a tree; ow: the places that are somebody's own -/
mutual
inductive Rep (K : PySem.W.Frag) (H : Hp) (ow : Addr → Prop) : V → D → Prop
  | non : Rep K H ow .non .non
  | bl (b : Bool) : Rep K H ow (.bl b) (.bl b)
  | int (i : Int) : Rep K H ow (.int i) (.int i)
  | str (s : Str) : Rep K H ow (.str s) (.str s)
  | lst {a : Addr} {vs : List V} {ds : List D} : H a = some (.lst vs) → ¬ ow a → RepL K H ow vs ds → Rep K H ow (.ref a) (.lst ds)
  | tup {a : Addr} {vs : List V} {ds : List D} : H a = some (.tup vs) → RepL K H ow vs ds → Rep K H ow (.ref a) (.tup ds)
  | dic {a : Addr} {vs : List (Key × V)} {ds : List (Key × D)} : Rd H a (.dK vs) → ¬ ow a → RepK K H ow vs ds → Rep K H ow (.ref a) (.dic ds)
  | ins {a dx : Addr} {c : Str} {vs : List (Str × V)} {ds : List (Str × D)} : H a = some (.ins (He.ga K c) dx vs) → ¬ ow a → RepF K H ow vs ds → Rep K H ow (.ref a) (.ins c ds)
  | ty (n : String) : Rep K H ow (.ty n) (.ty n)
  | cls (c : Str) : Rep K H ow (.ref (He.ga K c)) (.cls c)
  | scr {a : Addr} {ns : List Int} : SqF K H a (ns.map V.int) → Rep K H ow (.ref a) (.scr ns)
  | exc {a dd : Addr} {c : Str} {vs : List (Str × V)} {ds : List (Str × D)} : H dd = some (.xd vs) → RepF K H ow vs ds → Rep K H ow (.ref a) (.exc a dd c ds)
  | well {a : Addr} {k : Nat} : WellK H ow a k → ¬ ow a → Rep K H ow (.ref a) (.well k)
  | fam {a dx t s c : Addr} {ns : List Str} {d : D} {g : Str} : H a = some (famO K dx t s c g) → ¬ ow a → H t = some (.tup (ns.map V.str)) → Rep K H ow (.ref s) d → Rep K H ow (.ref a) (.fam ns d g)
  | dit {a : Addr} {kvs : List (List Key × V)} : H a = some (.dT kvs) → ¬ isMemo K H a → ¬ ow a → (kvs.all fun p => flatV p.2) = true → Rep K H ow (.ref a) (.dit kvs)
inductive RepL (K : PySem.W.Frag) (H : Hp) (ow : Addr → Prop) : List V → List D → Prop
  | nil : RepL K H ow [] []
  | cons {v : V} {vs : List V} {d : D} {ds : List D} : Rep K H ow v d → RepL K H ow vs ds → RepL K H ow (v :: vs) (d :: ds)
inductive RepK (K : PySem.W.Frag) (H : Hp) (ow : Addr → Prop) : List (Key × V) → List (Key × D) → Prop
  | nil : RepK K H ow [] []
  | cons {k : Key} {v : V} {vs : List (Key × V)} {d : D} {ds : List (Key × D)} : Rep K H ow v d → RepK K H ow vs ds → RepK K H ow ((k, v) :: vs) ((k, d) :: ds)
inductive RepF (K : PySem.W.Frag) (H : Hp) (ow : Addr → Prop) : List (Str × V) → List (Str × D) → Prop
  | nil : RepF K H ow [] []
  | cons {k : Str} {v : V} {vs : List (Str × V)} {d : D} {ds : List (Str × D)} : Rep K H ow v d → RepF K H ow vs ds → RepF K H ow ((k, v) :: vs) ((k, d) :: ds)
end
/-- all that a tree leans on stands in G as in H -/
structure Mv (K : PySem.W.Frag) (H : Hp) (ow : Addr → Prop) (G : Hp) (ow' : Addr → Prop) : Prop where
  l : ∀ a vs, H a = some (.lst vs) → ¬ ow a → G a = some (.lst vs) ∧ ¬ ow' a
  r : ∀ a vs, SqF K H a vs → SqF K G a vs
  t : ∀ a vs, H a = some (.tup vs) → G a = some (.tup vs)
  d : ∀ a vs, Rd H a (.dK vs) → ¬ ow a → Rd G a (.dK vs) ∧ ¬ ow' a
  i : ∀ a C dx fs, H a = some (.ins C dx fs) → ¬ ow a → G a = some (.ins C dx fs) ∧ ¬ ow' a
  x : ∀ a vs, H a = some (.xd vs) → G a = some (.xd vs)
  w : ∀ a k, WellK H ow a k → ¬ ow a → WellK G ow' a k ∧ ¬ ow' a
  c : ∀ a kvs, H a = some (.dT kvs) → ¬ isMemo K H a → ¬ ow a → G a = some (.dT kvs) ∧ ¬ isMemo K G a ∧ ¬ ow' a
section
variable {K : PySem.W.Frag} {H G : Hp} {ow ow' : Addr → Prop}
mutual
theorem Rep.mv (m : Mv K H ow G ow') {v : V} {d : D} (h : Rep K H ow v d) : Rep K G ow' v d :=
  match h with
  | .non => .non
  | .bl b => .bl b
  | .int i => .int i
  | .str s => .str s
  | .lst a b c => .lst (m.l _ _ a b).1 (m.l _ _ a b).2 (RepL.mv m c)
  | .tup a c => .tup (m.t _ _ a) (RepL.mv m c)
  | .dic a b c => .dic (m.d _ _ a b).1 (m.d _ _ a b).2 (RepK.mv m c)
  | .ins a b c => .ins (m.i _ _ _ _ a b).1 (m.i _ _ _ _ a b).2 (RepF.mv m c)
  | .ty n => .ty n
  | .cls c => .cls c
  | .scr a => .scr (m.r _ _ a)
  | .exc a b => .exc (m.x _ _ a) (RepF.mv m b)
  | .well a b => .well (m.w _ _ a b).1 (m.w _ _ a b).2
  | .fam a b c d => .fam (m.i _ _ _ _ a b).1 (m.i _ _ _ _ a b).2 (m.t _ _ c) (Rep.mv m d)
  | .dit a b c d => have z := m.c _ _ a b c; .dit z.1 z.2.1 z.2.2 d
theorem RepL.mv (m : Mv K H ow G ow') {vs : List V} {ds : List D} (h : RepL K H ow vs ds) : RepL K G ow' vs ds :=
  match h with
  | .nil => .nil
  | .cons a b => .cons (Rep.mv m a) (RepL.mv m b)
theorem RepK.mv (m : Mv K H ow G ow') {vs : List (Key × V)} {ds : List (Key × D)} (h : RepK K H ow vs ds) : RepK K G ow' vs ds :=
  match h with
  | .nil => .nil
  | .cons a b => .cons (Rep.mv m a) (RepK.mv m b)
theorem RepF.mv (m : Mv K H ow G ow') {vs : List (Str × V)} {ds : List (Str × D)} (h : RepF K H ow vs ds) : RepF K G ow' vs ds :=
  match h with
  | .nil => .nil
  | .cons a b => .cons (Rep.mv m a) (RepF.mv m b)
end
end
end Dz
namespace Dz
open PySem PySem.Spec PyProof.Rows L2 Evl Bf
/-! ### what is kept of the heap -/
def isIns : HO → Bool
  | .ins _ _ _ => true
  | _ => false
structure Th (K : PySem.W.Frag) where
  Ok : Hp → Prop
  Gr : Hp → Hp → Prop
  refl : ∀ H, Gr H H
  trans : ∀ {H G J : Hp}, Gr H G → Gr G J → Gr H J
  keep : ∀ {H G : Hp} {a : Addr} {o : HO}, Gr H G → H a = some o → (∀ kvs, o ≠ .dT kvs) → G a = some o
  keepT : ∀ {H G : Hp} {a : Addr} {kvs : List (List Key × V)}, Gr H G → H a = some (.dT kvs) → ∃ kvs', G a = some (.dT kvs')
  keepD : ∀ {H G : Hp} {a : Addr} {kvs : List (List Key × V)}, Gr H G → H a = some (.dT kvs) → ¬ isMemo K H a → G a = some (.dT kvs) ∧ ¬ isMemo K G a
  noMemo : ∀ {H : Hp} {p : Addr}, Ok H → H p = none → ¬ isMemo K H p
  new : ∀ {H : Hp} {p : Addr} {o : HO}, Ok H → H p = none → isIns o = false → Ok (upd H p o) ∧ Gr H (upd H p o)
  put : ∀ {H G : Hp} {p : Addr} {o o' : HO}, Gr H G → H p = none → Ok G → G p = some o → (∀ xs, o ≠ .tup xs) → (∀ kvs, o ≠ .dT kvs) → (∀ kvs, o' ≠ .dT kvs) → isIns o = false → isIns o' = false → Ok (upd G p o') ∧ Gr H (upd G p o')
  putD : ∀ {H G : Hp} {p : Addr} {kvs kvs' : List (List Key × V)}, Gr H G → H p = none → Ok G → G p = some (.dT kvs) → ¬ isMemo K G p → Ok (upd G p (.dT kvs')) ∧ Gr H (upd G p (.dT kvs'))
  make : ∀ {H : Hp} {y dy C : Addr}, Ok H → H y = none → H dy = none → dy ≠ y → Ok (upd (upd H dy (.own y)) y (.ins C dy [])) ∧ Gr H (upd (upd H dy (.own y)) y (.ins C dy []))
  fput : ∀ {H G : Hp} {y dy C : Addr} {fs fs' : List (Str × V)}, Gr H G → H y = none → Ok G → G y = some (.ins C dy fs) → C ≠ He.ga K "Family" → Ok (upd G y (.ins C dy fs')) ∧ Gr H (upd G y (.ins C dy fs'))
namespace Th
variable {K : PySem.W.Frag} (T : Th K)
theorem back {H G : Hp} (g : T.Gr H G) {a : Addr} (h : G a = none) : H a = none := by
  cases e : H a with
  | none => rfl
  | some o =>
    by_cases c : ∃ kvs, o = .dT kvs
    · obtain ⟨kvs, rfl⟩ := c
      obtain ⟨k', z⟩ := T.keepT g e
      rw [z] at h; cases h
    · rw [T.keep g e fun kvs z => c ⟨kvs, z⟩] at h; cases h
theorem forth {H G : Hp} (g : T.Gr H G) {a : Addr} (h : H a ≠ none) : G a ≠ none := fun z => h (T.back g z)
end Th
section
variable {K : PySem.W.Frag} {H G : Hp} {ow ow' : Addr → Prop}
theorem Mv.gr (T : Th K) (g : T.Gr H G) : Mv K H ow G ow where
  l := fun a vs h n => ⟨T.keep g h (fun _ z => by cases z), n⟩
  r := fun a vs h => by
    rcases h with ⟨o, h⟩ | h
    · exact .inl ⟨o, T.keep g h (fun _ z => by cases z)⟩
    · exact .inr h
  t := fun a vs h => T.keep g h fun _ z => by cases z
  d := fun a vs h n => ⟨by
    rcases h with h | ⟨o, h⟩
    · exact .inl (T.keep g h fun _ z => by cases z)
    · exact .inr ⟨o, T.keep g h (fun _ z => by cases z)⟩, n⟩
  i := fun a C dx fs h n => ⟨T.keep g h (fun _ z => by cases z), n⟩
  x := fun a vs h => T.keep g h (fun _ z => by cases z)
  w := fun a k h n => ⟨by
    cases k with
    | zero => exact T.keep (o := absL a Well3) g h (fun _ z => by have z' : HO.ext _ = HO.dT _ := z; cases z')
    | succ k => cases k with
      | zero => exact T.keep (o := absL a Well4) g h (fun _ z => by have z' : HO.ext _ = HO.dT _ := z; cases z')
      | succ k =>
        obtain ⟨s, ns, h1, h2, h3⟩ := h
        exact ⟨s, ns, T.keep (o := absL a (Well6 s)) g h1 (fun _ z => by have z' : HO.ext _ = HO.dT _ := z; cases z'), T.keep g h2 (fun _ z => by cases z), h3⟩, n⟩
  c := fun a kvs h n w => ⟨(T.keepD g h n).1, (T.keepD g h n).2, w⟩
/-- fewer owners -/
theorem Mv.less (h : ∀ a, ow' a → ow a) : Mv K H ow H ow' where
  l := fun a vs e n => ⟨e, fun z => n (h a z)⟩
  r := fun a vs e => e
  t := fun a vs e => e
  d := fun a vs e n => ⟨e, fun z => n (h a z)⟩
  i := fun a C dx fs e n => ⟨e, fun z => n (h a z)⟩
  x := fun a vs e => e
  w := fun a k e n => ⟨by
    cases k with
    | zero => exact e
    | succ k => cases k with
      | zero => exact e
      | succ k =>
        obtain ⟨s, ns, h1, h2, h3⟩ := e
        exact ⟨s, ns, h1, h2, fun z => h3 (h s z)⟩, fun z => n (h a z)⟩
  c := fun a kvs e m n => ⟨e, m, fun z => n (h a z)⟩
/-- a new owner, at a place that was free -/
theorem Mv.more (h : ∀ a, ow' a → ow a ∨ H a = none) : Mv K H ow H ow' where
  l := fun a vs e n => ⟨e, fun z => (h a z).elim n fun q => by rw [q] at e; cases e⟩
  r := fun a vs e => e
  t := fun a vs e => e
  d := fun a vs e n => ⟨e, fun z => (h a z).elim n fun q => by rcases e with e | ⟨o, e⟩ <;> rw [q] at e <;> cases e⟩
  i := fun a C dx fs e n => ⟨e, fun z => (h a z).elim n fun q => by rw [q] at e; cases e⟩
  x := fun a vs e => e
  w := fun a k e n => by
    cases k with
    | zero => exact ⟨e, fun z => (h a z).elim n fun q => by rw [show H a = _ from e] at q; cases q⟩
    | succ k => cases k with
      | zero => exact ⟨e, fun z => (h a z).elim n fun q => by rw [show H a = _ from e] at q; cases q⟩
      | succ k =>
        obtain ⟨s, ns, h1, h2, h3⟩ := e
        exact ⟨⟨s, ns, h1, h2, fun z => (h s z).elim h3 fun q => by rw [q] at h2; cases h2⟩, fun z => (h a z).elim n fun q => by rw [q] at h1; cases h1⟩
  c := fun a kvs e m n => ⟨e, m, fun z => (h a z).elim n fun q => by rw [q] at e; cases e⟩
/-- the object at p, one's own, is written -/
theorem Mv.putA {p : Addr} {o o' : HO} (hp : H p = some o) (n1 : ∀ xs, o ≠ .tup xs) (n3 : ∀ ob u, o ≠ .frz ob u) (n7 : ∀ vs, o ≠ .xd vs)
    (own : ow p) (h : ∀ a, ow' a → ow a) (n8 : ∀ C dx fs, o' = .ins C dx fs → C ≠ He.ga K "Family" := by intro _ _ _ z; cases z) : Mv K H ow (upd H p o') ow' where
  l := fun a vs e n => ⟨by rw [upd_ne (fun z : a = p => n (z ▸ own))]; exact e, fun z => n (h a z)⟩
  r := fun a vs e => by
    rcases e with ⟨ob, e⟩ | e
    · exact .inl ⟨ob, by rw [upd_ne fun z => by rw [z, hp] at e; exact n3 _ _ (Option.some.inj e)]; exact e⟩
    · exact .inr e
  t := fun a vs e => by rw [upd_ne fun z => by rw [z, hp] at e; exact n1 _ (Option.some.inj e)]; exact e
  d := fun a vs e n => ⟨by
    have np : a ≠ p := fun z => n (z ▸ own)
    rcases e with e | ⟨ob, e⟩
    · exact .inl (by rw [upd_ne np]; exact e)
    · exact .inr ⟨ob, by rw [upd_ne np]; exact e⟩, fun z => n (h a z)⟩
  i := fun a C dx fs e n => ⟨by rw [upd_ne (fun z : a = p => n (z ▸ own))]; exact e, fun z => n (h a z)⟩
  x := fun a vs e => by rw [upd_ne fun z => by rw [z, hp] at e; exact n7 _ (Option.some.inj e)]; exact e
  w := fun a k e n => ⟨by
    have np : a ≠ p := fun z => n (z ▸ own)
    cases k with
    | zero => show upd H p o' a = _; rw [upd_ne np]; exact e
    | succ k => cases k with
      | zero => show upd H p o' a = _; rw [upd_ne np]; exact e
      | succ k =>
        obtain ⟨s, ns, h1, h2, h3⟩ := e
        exact ⟨s, ns, by rw [upd_ne np]; exact h1, by rw [upd_ne (fun z : s = p => h3 (z ▸ own))]; exact h2, fun z => h3 (h s z)⟩, fun z => n (h a z)⟩
  c := fun a kvs e m n => ⟨by rw [upd_ne (fun z : a = p => n (z ▸ own))]; exact e, fun ⟨b, dx, t, s, g, q⟩ => by
    by_cases z : b = p
    · rw [z, upd_same] at q
      exact n8 _ _ _ (Option.some.inj q) rfl
    · rw [upd_ne z] at q
      exact m ⟨b, dx, t, s, g, q⟩, fun z => n (h a z)⟩
theorem Mv.put {p : Addr} {o o' : HO} (hp : H p = some o) (n1 : ∀ xs, o ≠ .tup xs) (n2 : ∀ kvs, o ≠ .dT kvs) (n3 : ∀ ob u, o ≠ .frz ob u) (n7 : ∀ vs, o ≠ .xd vs)
    (own : ow p) (h : ∀ a, ow' a → ow a) (n8 : ∀ C dx fs, o' = .ins C dx fs → C ≠ He.ga K "Family" := by intro _ _ _ z; cases z) : Mv K H ow (upd H p o') ow' := Mv.putA hp n1 n3 n7 own h n8
theorem memo_put {p : Addr} {o : HO} (n : ∀ C dx fs, o = .ins C dx fs → C ≠ He.ga K "Family") {c : Addr} (h : ¬ isMemo K H c) : ¬ isMemo K (upd H p o) c := fun ⟨b, dx, t, s, g, q⟩ => by
  by_cases z : b = p
  · rw [z, upd_same] at q
    exact n _ _ _ (Option.some.inj q) rfl
  · rw [upd_ne z] at q
    exact h ⟨b, dx, t, s, g, q⟩
theorem memo_put' {p : Addr} {o : HO} (n : isIns o = false) {c : Addr} (h : ¬ isMemo K H c) : ¬ isMemo K (upd H p o) c := memo_put (fun C dx fs e => by rw [e] at n; cases n) h
theorem keepD_put {p a : Addr} {o : HO} (ne : a ≠ p) (n : ∀ C dx fs, o = .ins C dx fs → C ≠ He.ga K "Family") {kvs : List (List Key × V)} (e : H a = some (.dT kvs)) (h : ¬ isMemo K H a) : (upd H p o) a = some (.dT kvs) ∧ ¬ isMemo K (upd H p o) a := ⟨by rw [upd_ne ne]; exact e, memo_put n h⟩
end
end Dz
namespace Dz
open PySem PySem.Spec PyProof.Rows L2 Evl Bf
/-! ### readings over data -/
structure Exc where
  cls : Str
  fs : List (Str × D)
abbrev Ro := List (Option D)
abbrev XQ := Exc → Prop
abbrev DX := Ro → (D → Prop) → XQ → Prop
abbrev DA := Ro → (List D → Prop) → XQ → Prop
abbrev DT := Ro → (Bool → Prop) → XQ → Prop
/-- a call over data -/
abbrev DF := List D → (D → Prop) → XQ → Prop
def owOf (ow0 : Addr → Prop) (O : List Nat) (σ : L2.St) : Addr → Prop := fun a => ow0 a ∨ ∃ i ∈ O, σ[i]? = some (some (.ref a))
inductive OwnR (K : PySem.W.Frag) (H : Hp) (ow : Addr → Prop) : Addr → D → Prop
  | lst {a : Addr} {vs : List V} {ds : List D} : H a = some (.lst vs) → RepL K H ow vs ds → OwnR K H ow a (.lst ds)
  | dic {a : Addr} {vs : List (Key × V)} {ds : List (Key × D)} : H a = some (.dK vs) → RepK K H ow vs ds → OwnR K H ow a (.dic ds)
  | ins {a dx : Addr} {c : Str} {vs : List (Str × V)} {ds : List (Str × D)} : H a = some (.ins (He.ga K c) dx vs) → RepF K H ow vs ds → OwnR K H ow a (.ins c ds)
  | dit {a : Addr} {kvs : List (List Key × V)} : H a = some (.dT kvs) → ¬ isMemo K H a → (kvs.all fun p => flatV p.2) = true → OwnR K H ow a (.dit kvs)
def RepO (K : PySem.W.Frag) (H : Hp) (ow : Addr → Prop) (v : V) (d : D) : Prop := Rep K H ow v d ∨ ∃ a, v = .ref a ∧ OwnR K H ow a d
def XRep (K : PySem.W.Frag) (G : Hp) (ow : Addr → Prop) : Option Addr → Exc → Prop
  | some d, x => ∃ fvs, G d = some (.xd fvs) ∧ RepF K G ow fvs x.fs
  | none, x => x.fs = []
/-! ### a tree all of one's own: fp, its places -/
mutual
inductive Own (K : PySem.W.Frag) (H : Hp) (ow : Addr → Prop) : List Addr → V → D → Prop
  | leaf {v : V} {d : D} : Rep K H ow v d → Own K H ow [] v d
  | lst {a : Addr} {vs : List V} {ds : List D} {fp : List Addr} : H a = some (.lst vs) → OwnL K H ow fp vs ds → Own K H ow (a :: fp) (.ref a) (.lst ds)
  | tup {a : Addr} {vs : List V} {ds : List D} {fp : List Addr} : H a = some (.tup vs) → OwnL K H ow fp vs ds → Own K H ow fp (.ref a) (.tup ds)
  | dic {a : Addr} {vs : List (Key × V)} {ds : List (Key × D)} {fp : List Addr} : H a = some (.dK vs) → OwnK K H ow fp vs ds → Own K H ow (a :: fp) (.ref a) (.dic ds)
  | ins {a dx : Addr} {c : Str} {vs : List (Str × V)} {ds : List (Str × D)} {fp : List Addr} : H a = some (.ins (He.ga K c) dx vs) → OwnF K H ow fp vs ds → Own K H ow (a :: fp) (.ref a) (.ins c ds)
inductive OwnL (K : PySem.W.Frag) (H : Hp) (ow : Addr → Prop) : List Addr → List V → List D → Prop
  | nil : OwnL K H ow [] [] []
  | cons {f g : List Addr} {v : V} {vs : List V} {d : D} {ds : List D} : Own K H ow f v d → OwnL K H ow g vs ds → OwnL K H ow (f ++ g) (v :: vs) (d :: ds)
inductive OwnK (K : PySem.W.Frag) (H : Hp) (ow : Addr → Prop) : List Addr → List (Key × V) → List (Key × D) → Prop
  | nil : OwnK K H ow [] [] []
  | cons {f g : List Addr} {k : Key} {v : V} {vs : List (Key × V)} {d : D} {ds : List (Key × D)} : Own K H ow f v d → OwnK K H ow g vs ds → OwnK K H ow (f ++ g) ((k, v) :: vs) ((k, d) :: ds)
inductive OwnF (K : PySem.W.Frag) (H : Hp) (ow : Addr → Prop) : List Addr → List (Str × V) → List (Str × D) → Prop
  | nil : OwnF K H ow [] [] []
  | cons {f g : List Addr} {k : Str} {v : V} {vs : List (Str × V)} {d : D} {ds : List (Str × D)} : Own K H ow f v d → OwnF K H ow g vs ds → OwnF K H ow (f ++ g) ((k, v) :: vs) ((k, d) :: ds)
end
/-- the objects at fp stand -/
def Keeps (H G : Hp) (fp : List Addr) : Prop := ∀ a ∈ fp, ∀ o, H a = some o → (∀ kvs, o ≠ .dT kvs) → G a = some o
theorem Keeps.hd {H G : Hp} {a : Addr} {fp : List Addr} (h : Keeps H G (a :: fp)) {o : HO} (e : H a = some o) (n : ∀ kvs, o ≠ .dT kvs) : G a = some o := h a List.mem_cons_self o e n
theorem Keeps.tl {H G : Hp} {a : Addr} {fp : List Addr} (h : Keeps H G (a :: fp)) : Keeps H G fp := fun b hb => h b (List.mem_cons_of_mem _ hb)
theorem Keeps.l {H G : Hp} {f g : List Addr} (h : Keeps H G (f ++ g)) : Keeps H G f := fun b hb => h b (List.mem_append_left _ hb)
theorem Keeps.r {H G : Hp} {f g : List Addr} (h : Keeps H G (f ++ g)) : Keeps H G g := fun b hb => h b (List.mem_append_right _ hb)
section
variable {K : PySem.W.Frag} {H G : Hp} {ow ow' : Addr → Prop}
mutual
theorem Own.mv (m : Mv K H ow G ow') {fp : List Addr} {v : V} {d : D} (h : Own K H ow fp v d) (k : Keeps H G fp) : Own K G ow' fp v d :=
  match h, k with
  | .leaf r, _ => .leaf (r.mv m)
  | .lst a b, k => .lst (k.hd a fun _ z => by cases z) (OwnL.mv m b k.tl)
  | .tup a b, k => .tup (m.t _ _ a) (OwnL.mv m b k)
  | .dic a b, k => .dic (k.hd a fun _ z => by cases z) (OwnK.mv m b k.tl)
  | .ins a b, k => .ins (k.hd a fun _ z => by cases z) (OwnF.mv m b k.tl)
theorem OwnL.mv (m : Mv K H ow G ow') {fp : List Addr} {vs : List V} {ds : List D} (h : OwnL K H ow fp vs ds) (k : Keeps H G fp) : OwnL K G ow' fp vs ds :=
  match h, k with
  | .nil, _ => .nil
  | .cons a b, k => .cons (Own.mv m a k.l) (OwnL.mv m b k.r)
theorem OwnK.mv (m : Mv K H ow G ow') {fp : List Addr} {vs : List (Key × V)} {ds : List (Key × D)} (h : OwnK K H ow fp vs ds) (k : Keeps H G fp) : OwnK K G ow' fp vs ds :=
  match h, k with
  | .nil, _ => .nil
  | .cons a b, k => .cons (Own.mv m a k.l) (OwnK.mv m b k.r)
theorem OwnF.mv (m : Mv K H ow G ow') {fp : List Addr} {vs : List (Str × V)} {ds : List (Str × D)} (h : OwnF K H ow fp vs ds) (k : Keeps H G fp) : OwnF K G ow' fp vs ds :=
  match h, k with
  | .nil, _ => .nil
  | .cons a b, k => .cons (Own.mv m a k.l) (OwnF.mv m b k.r)
end
mutual
/-- one's own tree, given away -/
theorem Own.rep (s : ∀ a, ow' a → ow a) {fp : List Addr} {v : V} {d : D} (h : Own K H ow fp v d) (n : ∀ a ∈ fp, ¬ ow' a) : Rep K H ow' v d :=
  match h, n with
  | .leaf r, _ => r.mv (Mv.less s)
  | .lst a b, n => .lst a (n _ List.mem_cons_self) (OwnL.rep s b fun x hx => n x (List.mem_cons_of_mem _ hx))
  | .tup a b, n => .tup a (OwnL.rep s b n)
  | .dic a b, n => .dic (.inl a) (n _ List.mem_cons_self) (OwnK.rep s b fun x hx => n x (List.mem_cons_of_mem _ hx))
  | .ins a b, n => .ins a (n _ List.mem_cons_self) (OwnF.rep s b fun x hx => n x (List.mem_cons_of_mem _ hx))
theorem OwnL.rep (s : ∀ a, ow' a → ow a) {fp : List Addr} {vs : List V} {ds : List D} (h : OwnL K H ow fp vs ds) (n : ∀ a ∈ fp, ¬ ow' a) : RepL K H ow' vs ds :=
  match h, n with
  | .nil, _ => .nil
  | .cons a b, n => .cons (Own.rep s a fun x hx => n x (List.mem_append_left _ hx)) (OwnL.rep s b fun x hx => n x (List.mem_append_right _ hx))
theorem OwnK.rep (s : ∀ a, ow' a → ow a) {fp : List Addr} {vs : List (Key × V)} {ds : List (Key × D)} (h : OwnK K H ow fp vs ds) (n : ∀ a ∈ fp, ¬ ow' a) : RepK K H ow' vs ds :=
  match h, n with
  | .nil, _ => .nil
  | .cons a b, n => .cons (Own.rep s a fun x hx => n x (List.mem_append_left _ hx)) (OwnK.rep s b fun x hx => n x (List.mem_append_right _ hx))
theorem OwnF.rep (s : ∀ a, ow' a → ow a) {fp : List Addr} {vs : List (Str × V)} {ds : List (Str × D)} (h : OwnF K H ow fp vs ds) (n : ∀ a ∈ fp, ¬ ow' a) : RepF K H ow' vs ds :=
  match h, n with
  | .nil, _ => .nil
  | .cons a b, n => .cons (Own.rep s a fun x hx => n x (List.mem_append_left _ hx)) (OwnF.rep s b fun x hx => n x (List.mem_append_right _ hx))
end
mutual
theorem Own.trk {fp : List Addr} {v : V} {d : D} (h : Own K H ow fp v d) : ∀ a ∈ fp, H a ≠ none :=
  match h with
  | .leaf r => fun _ z => absurd z List.not_mem_nil
  | .lst a b => fun x hx => (List.mem_cons.mp hx).elim (fun e => by rw [e, a]; exact fun z => by cases z) (OwnL.trk b x)
  | .tup a b => OwnL.trk b
  | .dic a b => fun x hx => (List.mem_cons.mp hx).elim (fun e => by rw [e, a]; exact fun z => by cases z) (OwnK.trk b x)
  | .ins a b => fun x hx => (List.mem_cons.mp hx).elim (fun e => by rw [e, a]; exact fun z => by cases z) (OwnF.trk b x)
theorem OwnL.trk {fp : List Addr} {vs : List V} {ds : List D} (h : OwnL K H ow fp vs ds) : ∀ a ∈ fp, H a ≠ none :=
  match h with
  | .nil => fun _ z => absurd z List.not_mem_nil
  | .cons a b => fun x hx => (List.mem_append.mp hx).elim (Own.trk a x) (OwnL.trk b x)
theorem OwnK.trk {fp : List Addr} {vs : List (Key × V)} {ds : List (Key × D)} (h : OwnK K H ow fp vs ds) : ∀ a ∈ fp, H a ≠ none :=
  match h with
  | .nil => fun _ z => absurd z List.not_mem_nil
  | .cons a b => fun x hx => (List.mem_append.mp hx).elim (Own.trk a x) (OwnK.trk b x)
theorem OwnF.trk {fp : List Addr} {vs : List (Str × V)} {ds : List (Str × D)} (h : OwnF K H ow fp vs ds) : ∀ a ∈ fp, H a ≠ none :=
  match h with
  | .nil => fun _ z => absurd z List.not_mem_nil
  | .cons a b => fun x hx => (List.mem_append.mp hx).elim (Own.trk a x) (OwnF.trk b x)
end
end
/-- slots from dp on in a list of owners: the slot less dp holds a tree all of its own -/
def dp : Nat := 1000
/-- from dq on: the slot less dq holds a tree that is new since the def was entered -/
def dq : Nat := 2000
def vis (O : List Nat) (i : Nat) : Bool := !O.contains i && !O.contains (i + dp)
def fre (O : List Nat) (i : Nat) : Bool := vis O i && !O.contains (i + dq)
theorem vis_of {O : List Nat} {i : Nat} (h : vis O i = true) : i ∉ O ∧ i + dp ∉ O := by
  obtain ⟨h1, h2⟩ := Bool.and_eq_true_iff.mp h
  exact ⟨by simpa using h1, by simpa using h2⟩
theorem fre_of {O : List Nat} {i : Nat} (h : fre O i = true) : i ∉ O ∧ i + dp ∉ O := vis_of (Bool.and_eq_true_iff.mp h).1
theorem fre_q {O : List Nat} {i : Nat} (h : fre O i = true) : i + dq ∉ O := by
  obtain ⟨h1, h2⟩ := Bool.and_eq_true_iff.mp h
  simpa using h2
abbrev tt : Addr → Prop := fun _ => True
def DpAt (K : PySem.W.Frag) (H : Hp) (ow0 iw : Addr → Prop) (rg : Addr → Nat) (i : Nat) (so : Option (Option V)) (ro : Option (Option D)) : Prop :=
  ∃ v d fp, ro = some (some d) ∧ so = some (some v) ∧ Own K H tt fp v d ∧ fp.Nodup ∧ ∀ a ∈ fp, ow0 a ∧ rg a = i ∧ ¬ iw a
theorem DpAt.mv {K : PySem.W.Frag} {H G : Hp} {ow0 ow1 iw iw' : Addr → Prop} {rg : Addr → Nat} {i : Nat} {so : Option (Option V)} {ro : Option (Option D)} (h : DpAt K H ow0 iw rg i so ro) (m : Mv K H tt G tt) (hn : ∀ a, ow0 a → ¬ iw a → ∀ o, H a = some o → (∀ kvs, o ≠ .dT kvs) → G a = some o)
    (h0 : ∀ a, ow0 a → rg a = i → ¬ iw a → ow1 a ∧ ¬ iw' a) : DpAt K G ow1 iw' rg i so ro := by
  obtain ⟨v, d, fp, h1, h2, h3, h4, h5⟩ := h
  exact ⟨v, d, fp, h1, h2, h3.mv m fun a ha o z n => hn a (h5 a ha).1 (h5 a ha).2.2 o z n, h4, fun a ha => have ⟨z1, z2, z3⟩ := h5 a ha; ⟨(h0 a z1 z2 z3).1, z2, (h0 a z1 z2 z3).2⟩⟩
/-- what must stand besides: trees; iw: owners' places that lie in no slot's own tree -/
structure Fr where
  vd : List (V × D) := []
  iw : Addr → Prop := fun _ => True
  p0 : Option V := none
structure ER (K : PySem.W.Frag) (H : Hp) (ow0 : Addr → Prop) (fr : Fr) (O : List Nat) (σ : L2.St) (ρ : Ro) : Prop where
  val : ∀ i d, ρ[i]? = some (some d) → i ∉ O → i + dp ∉ O → ∃ v, σ[i]? = some (some v) ∧ Rep K H (owOf ow0 O σ) v d
  own : ∀ i, i ∈ O → i < dp → ∃ a d, ρ[i]? = some (some d) ∧ σ[i]? = some (some (.ref a)) ∧ ¬ ow0 a ∧ OwnR K H (owOf ow0 O σ) a d ∧ ∀ j ∈ O, σ[j]? = some (some (.ref a)) → j = i
  frm : ∀ p ∈ fr.vd, Rep K H (owOf ow0 O σ) p.1 p.2
  dep : ∃ rg : Addr → Nat, ∀ i, i < dp → i + dp ∈ O → DpAt K H ow0 fr.iw rg i σ[i]? ρ[i]?
  nwq : ∀ i, i + dq ∈ O → ∃ v d, ρ[i]? = some (some d) ∧ σ[i]? = some (some v) ∧ Rep K H (fun a => owOf ow0 O σ a ∨ fr.iw a) v d
  trk : ∀ a, ow0 a → H a ≠ none
  len : ρ.length = σ.length
  slt : ∀ v, fr.p0 = some v → 0 ∈ O ∨ dp ∈ O ∨ dq ∈ O → σ[0]? = some (some v)
  sml : σ.length ≤ dp
section
variable {K : PySem.W.Frag} {H G : Hp} {ow ow' ow0 : Addr → Prop} {fr : Fr} {O : List Nat} {σ : L2.St} {ρ : Ro}
theorem OwnR.mv (m : Mv K H ow G ow') {a : Addr} {d : D} (hl : ∀ o, H a = some o → (∀ kvs, o ≠ .dT kvs) → G a = some o) (h : OwnR K H ow a d)
    (hl2 : ∀ kvs, H a = some (.dT kvs) → ¬ isMemo K H a → G a = some (.dT kvs) ∧ ¬ isMemo K G a := by first | exact fun _ z n => ⟨z, n⟩ | exact fun _ z n => Th.keepD _ (by assumption) z n) : OwnR K G ow' a d := by
  cases h with
  | lst h1 h2 => exact .lst (hl _ h1 fun _ z => by cases z) (h2.mv m)
  | dic h1 h2 => exact .dic (hl _ h1 fun _ z => by cases z) (h2.mv m)
  | ins h1 h2 => exact .ins (hl _ h1 fun _ z => by cases z) (h2.mv m)
  | dit h1 h2 h3 => exact .dit (hl2 _ h1 h2).1 (hl2 _ h1 h2).2 h3
theorem OwnR.trk {a : Addr} {d : D} (h : OwnR K H ow a d) : H a ≠ none := by
  cases h with
  | lst h1 => rw [h1]; exact fun z => by cases z
  | dic h1 => rw [h1]; exact fun z => by cases z
  | ins h1 => rw [h1]; exact fun z => by cases z
  | dit h1 => rw [h1]; exact fun z => by cases z
theorem Rep.gr (T : Th K) (g : T.Gr H G) {v : V} {d : D} (h : Rep K H ow v d) : Rep K G ow v d := h.mv (Mv.gr T g)
theorem RepL.gr (T : Th K) (g : T.Gr H G) {v : List V} {d : List D} (h : RepL K H ow v d) : RepL K G ow v d := h.mv (Mv.gr T g)
theorem RepO.gr (T : Th K) (g : T.Gr H G) {v : V} {d : D} (h : RepO K H ow v d) : RepO K G ow v d := by
  rcases h with h | ⟨a, e, h⟩
  · exact .inl (h.gr T g)
  · exact .inr ⟨a, e, h.mv (Mv.gr T g) fun o z n => T.keep g z n⟩
theorem Rep.o {v : V} {d : D} (h : Rep K H ow v d) : RepO K H ow v d := .inl h
theorem ER.gr (T : Th K) (g : T.Gr H G) (e : ER K H ow0 fr O σ ρ) : ER K G ow0 fr O σ ρ where
  val := fun i d h n m => let ⟨v, h1, h2⟩ := e.val i d h n m; ⟨v, h1, h2.gr T g⟩
  own := fun i h l => let ⟨a, d, h1, h2, h3, h4, h5⟩ := e.own i h l; ⟨a, d, h1, h2, h3, h4.mv (Mv.gr T g) fun o z n => T.keep g z n, h5⟩
  frm := fun p hp => (e.frm p hp).gr T g
  dep := let ⟨rg, h⟩ := e.dep; ⟨rg, fun i l hi => (h i l hi).mv (Mv.gr T g) (fun a _ _ o z n => T.keep g z n) fun a z _ n => ⟨z, n⟩⟩
  nwq := fun i hi => let ⟨v, d, h1, h2, h3⟩ := e.nwq i hi; ⟨v, d, h1, h2, h3.gr T g⟩
  trk := fun a h => T.forth g (e.trk a h)
  len := e.len
  slt := e.slt
  sml := e.sml
theorem ER.lt (e : ER K H ow0 fr O σ ρ) {i : Nat} {d : D} (h : ρ[i]? = some (some d)) : i < dp := by
  have h1 := (List.getElem?_eq_some_iff.mp h).1
  have h2 := e.sml
  rw [e.len] at h1
  omega
theorem ER.ltS (e : ER K H ow0 fr O σ ρ) {i : Nat} {v : V} (h : σ[i]? = some (some v)) : i < dp := by
  have h1 := (List.getElem?_eq_some_iff.mp h).1
  have h2 := e.sml
  omega
theorem ER.otrk (e : ER K H ow0 fr O σ ρ) : ∀ a, owOf ow0 O σ a → H a ≠ none := fun a h => by
  rcases h with h | ⟨i, hi, h⟩
  · exact e.trk a h
  · obtain ⟨b, d, _, h2, _, h4, _⟩ := e.own i hi (e.ltS h)
    rw [h] at h2
    cases h2
    exact h4.trk
end
section
variable {K : PySem.W.Frag} (T : Th K) (W : WX) (O : List Nat)
/-- what is wished of an exception -/
def XOk (H : Hp) (ow : Addr → Prop) (σ : L2.St) (Ax : XQ) : Prop := ∀ x d G, Ax x → T.Ok G → T.Gr H G → XRep K G ow d x → W (.ref (He.ga K x.cls)) d σ G
def eOf (φ : DX) : TE := fun σ H Q => ∃ ρ ow0 fr A Ax, T.Ok H ∧ ER K H ow0 fr O σ ρ ∧ φ ρ A Ax ∧ (∀ d v G, A d → T.Ok G → T.Gr H G → Rep K G (owOf ow0 O σ) v d → Q v G) ∧ XOk T W H (owOf ow0 O σ) σ Ax
def eoOf (φ : DX) : TE := fun σ H Q => ∃ ρ ow0 fr A Ax, T.Ok H ∧ ER K H ow0 fr O σ ρ ∧ φ ρ A Ax ∧ (∀ d v G, A d → T.Ok G → T.Gr H G → RepO K G (owOf ow0 O σ) v d → Q v G) ∧ XOk T W H (owOf ow0 O σ) σ Ax
def aOf (n : Nat) (φ : DA) : TA := fun σ H Q => ∃ ρ ow0 fr A Ax, T.Ok H ∧ ER K H ow0 fr O σ ρ ∧ φ ρ A Ax ∧ (∀ ds vs G, A ds → vs.length = n → T.Ok G → T.Gr H G → RepL K G (owOf ow0 O σ) vs ds → Q vs G) ∧ XOk T W H (owOf ow0 O σ) σ Ax
def aoOf (φ : DA) : TA := fun σ H Q => ∃ ρ ow0 fr A Ax, T.Ok H ∧ ER K H ow0 fr O σ ρ ∧ φ ρ A Ax ∧ (∀ ds vs G, A ds → T.Ok G → T.Gr H G → Paired (RepO K G (owOf ow0 O σ)) vs ds → Q vs G) ∧ XOk T W H (owOf ow0 O σ) σ Ax
def tOf (φ : DT) : TT := fun σ H Q => ∃ ρ ow0 fr A Ax, T.Ok H ∧ ER K H ow0 fr O σ ρ ∧ φ ρ A Ax ∧ (∀ b G, A b → T.Ok G → T.Gr H G → Q b G) ∧ XOk T W H (owOf ow0 O σ) σ Ax
end
theorem XOk.gr {K : PySem.W.Frag} {T : Th K} {W : WX} {H G : Hp} {ow : Addr → Prop} {σ : L2.St} {Ax : XQ} (g : T.Gr H G) (h : XOk T W H ow σ Ax) : XOk T W G ow σ Ax := fun x d J a o g' r => h x d J a o (T.trans g g') r
theorem peI {X : Cx} {e : Expr} {t t' : TE} (h : PE X e t) (i : ∀ σ H Q, t' σ H Q → t σ H Q) : PE X e t' := ⟨fun pins s σ H Q I q => h.run pins s σ H Q I (i σ H Q q)⟩
theorem ptI {X : Cx} {e : Expr} {t t' : TT} (h : PT X e t) (i : ∀ σ H Q, t' σ H Q → t σ H Q) : PT X e t' := ⟨fun pins s σ H Q I q => h.run pins s σ H Q I (i σ H Q q)⟩
theorem pwI {X : Cx} {e : Expr} {t t' : TT} (h : PW X e t) (i : ∀ σ H Q, t' σ H Q → t σ H Q) : PW X e t' := ⟨fun wh pins s σ H Q I q => h.run wh pins s σ H Q I (i σ H Q q)⟩
theorem paI {X : Cx} {e : List Expr} {t t' : TA} (h : PA X e t) (i : ∀ σ H Q, t' σ H Q → t σ H Q) : PA X e t' := ⟨fun pos pins s σ H Q I q => h.run pos pins s σ H Q I (i σ H Q q)⟩
theorem psI {X : Cx} {st : Stmt} {t t' : TS} (h : PS X st t) (i : ∀ D σ H, t' D σ H → t D σ H) : PS X st t' := ⟨fun pins s σ H D I q => h.run pins s σ H D I (i D σ H q)⟩
theorem pssI {X : Cx} {st : List Stmt} {t t' : TS} (h : PSs X st t) (i : ∀ D σ H, t' D σ H → t D σ H) : PSs X st t' := ⟨fun pins s σ H D I q => h.run pins s σ H D I (i D σ H q)⟩
/-! ### names, constants -/
def xVar (i : Nat) : DX := fun ρ A _ => ∃ d, ρ[i]? = some (some d) ∧ A d
def xC (d : D) : DX := fun _ A _ => A d
section
variable {X : Cx} {T : Th X.K} {W : WX} {O : List Nat} {e a b : Expr} {φ φa φb : DX} {pos : Pos}
theorem be_o (h : PE X e (eOf T W O φ)) : PE X e (eoOf T W O φ) := peI h fun σ H Q ⟨ρ, ow0, fr, A, Ax, ok, er, q, k, x⟩ => ⟨ρ, ow0, fr, A, Ax, ok, er, q, fun d v G a o g r => k d v G a o g (.inl r), x⟩
theorem be_var {i : Nat} {x : Str} (hN : X.N[i]? = some x) (hv : Vis X.env.scope x) (hO : vis O i = true) (hd : (x == ("__debug__" : Str)) = false := by decide) (hcd : (x == ("__classdict__" : Str)) = false := by decide) :
    PE X (.Name x pos) (eOf T W O (xVar i)) := peI (pe_var hN hv hd hcd) fun σ H Q ⟨ρ, ow0, fr, A, Ax, ok, er, ⟨d, h1, h2⟩, k, _⟩ => by
  obtain ⟨v, e1, r⟩ := er.val i d h1 (vis_of hO).1 (vis_of hO).2
  exact ⟨v, e1, k d v H h2 ok (T.refl H) r⟩
theorem bo_var {i : Nat} {x : Str} (hN : X.N[i]? = some x) (hv : Vis X.env.scope x) (hO : O.contains i = true) (hd : (x == ("__debug__" : Str)) = false := by decide) (hcd : (x == ("__classdict__" : Str)) = false := by decide) :
    PE X (.Name x pos) (eoOf T W O (xVar i)) := peI (pe_var hN hv hd hcd) fun σ H Q ⟨ρ, ow0, fr, A, Ax, ok, er, ⟨d, h1, h2⟩, k, _⟩ => by
  obtain ⟨a, d', e1, e2, _, r, _⟩ := er.own i (by simpa using hO) (er.lt h1)
  rw [h1] at e1
  cases e1
  exact ⟨.ref a, e2, k d (.ref a) H h2 ok (T.refl H) (.inr ⟨a, rfl, r⟩)⟩
theorem c_aux {v : V} {d : D} (h : ∀ H ow, Rep X.K H ow v d) (p : PE X e (tC v)) : PE X e (eOf T W O (xC d)) :=
  peI p fun σ H Q ⟨ρ, ow0, fr, A, Ax, ok, er, q, k, _⟩ => k d v H q ok (T.refl H) (h H _)
theorem be_int {i j pos} : PE X (.Constant (.int i) j pos) (eOf T W O (xC (.int i))) := c_aux (fun _ _ => .int i) pe_int
theorem be_bl {b j pos} : PE X (.Constant (.bool b) j pos) (eOf T W O (xC (.bl b))) := c_aux (fun _ _ => .bl b) pe_bl
theorem be_non {j pos} : PE X (.Constant .none j pos) (eOf T W O (xC .non)) := c_aux (fun _ _ => .non) pe_non
theorem be_str {x j pos} : PE X (.Constant (.str x) j pos) (eOf T W O (xC (.str x))) := c_aux (fun _ _ => .str x) pe_str
theorem be_gi {x : Str} {i : Int} (h : ∃ t, X.mg x = some (.int i t)) (hg : Gl X x := by rfl) (hn : x ≠ "__name__" := by decide) (hd : (x == ("__debug__" : Str)) = false := by decide) : PE X (.Name x pos) (eOf T W O (xC (.int i))) := c_aux (fun _ _ => .int i) (pe_gi h hg hn hd)
theorem be_gs {x : Str} {i : Str} (h : ∃ t, X.mg x = some (.str i t)) (hg : Gl X x := by rfl) (hn : x ≠ "__name__" := by decide) (hd : (x == ("__debug__" : Str)) = false := by decide) : PE X (.Name x pos) (eOf T W O (xC (.str i))) := c_aux (fun _ _ => .str i) (pe_gs h hg hn hd)
theorem be_ty {x : Str} {n : String} (hg : Gl X x) (hm : X.mg x = none) (hv : bootBuiltins x = some (.type n)) (hn : x ≠ "__name__" := by decide) (hd : (x == ("__debug__" : Str)) = false := by decide) : PE X (.Name x pos) (eOf T W O (xC (.ty n))) :=
  c_aux (fun _ _ => .ty n) (pe_bltn (v := .ty n) hg hm hv rfl hn hd)
theorem be_cls {x : Str} (hm : X.mg x = some (.ref (He.ga X.K x))) (hg : Gl X x := by rfl) (hd : (x == ("__debug__" : Str)) = false := by decide) : PE X (.Name x pos) (eOf T W O (xC (.cls x))) :=
  c_aux (fun _ _ => .cls x) (pe_glob (v := .ref (He.ga X.K x)) hg hm rfl hd)
/-! ### operators -/
def xOp1 (g : D → Option D) (φa : DX) : DX := fun ρ A Ax => φa ρ (fun x => ∃ z, g x = some z ∧ A z) Ax
def xOp2 (g : D → D → Option D) (φa φb : DX) : DX := fun ρ A Ax => φa ρ (fun x => φb ρ (fun y => ∃ z, g x y = some z ∧ A z) Ax) Ax
/-- an operation on values is g on trees -/
def OpD (T : Th X.K) (r : R2) (g : D → D → Option D) : Prop := ∀ (H : Hp) (ow : Addr → Prop) (x y : V) (d e z : D) (Q : VK), T.Ok H → (∀ a, ow a → H a ≠ none) → RepO X.K H ow x d → RepO X.K H ow y e → g d e = some z →
  (∀ v G, T.Ok G → T.Gr H G → Rep X.K G ow v z → Q v G) → r x y H Q
theorem op2_aux {r : R2} {g : D → D → Option D} (hg : OpD T r g) {σ : L2.St} {H : Hp} {Q : VK} (h : eOf T W O (xOp2 g φa φb) σ H Q) : tOp r (eoOf T W O φa) (eoOf T W O φb) σ H Q := by
  obtain ⟨ρ, ow0, fr, A, Ax, ok, er, q, k, x⟩ := h
  refine ⟨ρ, ow0, fr, _, Ax, ok, er, q, fun d v G qd okG gG rv => ?_, x⟩
  refine ⟨ρ, ow0, fr, _, Ax, okG, er.gr T gG, qd, fun d' v' G' ⟨z, ez, qz⟩ okG' gG' rv' => ?_, x.gr gG⟩
  exact hg G' (owOf ow0 O σ) v v' d d' z Q okG' ((er.gr T gG).gr T gG').otrk (rv.gr T gG') rv' ez fun u J okJ gJ ru => k z u J qz okJ (T.trans gG (T.trans gG' gJ)) ru
theorem be_op {op : Operator} {r : R2} {g : D → D → Option D} (hr : OpR X (binaryOp op) r) (hg : OpD T r g) (ha : PE X a (eoOf T W O φa)) (hb : PE X b (eoOf T W O φb)) : PE X (.BinOp a op b pos) (eOf T W O (xOp2 g φa φb)) :=
  peI (pe_op hr ha hb) fun _ _ _ h => op2_aux hg h
theorem be_cmp {op : CmpOp} {r : R2} {g : D → D → Option D} (hr : OpR X (compareOp op) r) (hg : OpD T r g) (ha : PE X a (eoOf T W O φa)) (hb : PE X b (eoOf T W O φb)) (hm : behindInMarks op b = false) : PE X (.Compare a [op] [b] pos) (eOf T W O (xOp2 g φa φb)) :=
  peI (pe_cmpR hr ha hb hm) fun _ _ _ h => op2_aux hg h
theorem be_ix {r : R2} {g : D → D → Option D} (hr : IxR X r) (hg : OpD T r g) (ha : PE X a (eoOf T W O φa)) (hb : PE X b (eoOf T W O φb)) (hs : PlainIx b) : PE X (.Subscript a b pos) (eOf T W O (xOp2 g φa φb)) :=
  peI (pe_ix hr ha hb hs) fun _ _ _ h => op2_aux hg h
def xNeg (φa : DX) : DX := xOp1 (fun d => match d with | .int i => some (.int (-i)) | _ => none) φa
theorem be_neg (ha : PE X a (eOf T W O φa)) : PE X (.UnaryOp .USub a pos) (eOf T W O (xNeg φa)) :=
  peI (pe_un un_neg ha) fun σ H Q ⟨ρ, ow0, fr, A, Ax, ok, er, q, k, x⟩ => ⟨ρ, ow0, fr, _, Ax, ok, er, q, fun d v G ⟨z, ez, qz⟩ okG gG rv => (by
    cases rv with
    | int i =>
      cases ez
      exact ⟨i, rfl, k _ _ G qz okG gG (.int _)⟩
    | _ => cases ez), x⟩
/-! ### and, or, not, if .. else -/
def xAnd (φa φb : DX) : DX := fun ρ A Ax => φa ρ (fun x => ∃ c, x = .bl c ∧ if c = true then φb ρ A Ax else A (.bl false)) Ax
def xOr (φa φb : DX) : DX := fun ρ A Ax => φa ρ (fun x => ∃ c, x = .bl c ∧ if c = true then A (.bl true) else φb ρ A Ax) Ax
def xNot (φa : DX) : DX := fun ρ A Ax => φa ρ (fun x => ∃ c, x = .bl c ∧ A (.bl (!c))) Ax
def xIf (t : DT) (φa φb : DX) : DX := fun ρ A Ax => t ρ (fun c => if c = true then φa ρ A Ax else φb ρ A Ax) Ax
variable {rest : List Expr} {t u : DT}
theorem be_one {op} (h : PE X a (eOf T W O φ)) : PE X (.BoolOp op [a] pos) (eOf T W O φ) := pe_one h
theorem rep_bl {K : PySem.W.Frag} {H : Hp} {ow : Addr → Prop} {v : V} {c : Bool} (h : Rep K H ow v (.bl c)) : v = .bl c := by cases h; rfl
theorem be_and (ha : PE X a (eOf T W O φa)) (hb : PE X (.BoolOp .And (b :: rest) pos) (eOf T W O φb)) : PE X (.BoolOp .And (a :: b :: rest) pos) (eOf T W O (xAnd φa φb)) :=
  peI (pe_and ha hb) fun σ H Q ⟨ρ, ow0, fr, A, Ax, ok, er, q, k, x⟩ => ⟨ρ, ow0, fr, _, Ax, ok, er, q, fun d v G ⟨c, ec, qc⟩ okG gG rv => by
    subst ec
    refine ⟨c, rep_bl rv, ?_⟩
    cases c with
    | true => exact ⟨ρ, ow0, fr, A, Ax, okG, er.gr T gG, qc, fun d v J a o g r => k d v J a o (T.trans gG g) r, x.gr gG⟩
    | false => exact k _ _ G qc okG gG (.bl false), x⟩
theorem be_or (ha : PE X a (eOf T W O φa)) (hb : PE X (.BoolOp .Or (b :: rest) pos) (eOf T W O φb)) : PE X (.BoolOp .Or (a :: b :: rest) pos) (eOf T W O (xOr φa φb)) :=
  peI (pe_or ha hb) fun σ H Q ⟨ρ, ow0, fr, A, Ax, ok, er, q, k, x⟩ => ⟨ρ, ow0, fr, _, Ax, ok, er, q, fun d v G ⟨c, ec, qc⟩ okG gG rv => by
    subst ec
    refine ⟨c, rep_bl rv, ?_⟩
    cases c with
    | false => exact ⟨ρ, ow0, fr, A, Ax, okG, er.gr T gG, qc, fun d v J a o g r => k d v J a o (T.trans gG g) r, x.gr gG⟩
    | true => exact k _ _ G qc okG gG (.bl true), x⟩
theorem be_not (ha : PE X a (eOf T W O φa)) : PE X (.UnaryOp .Not a pos) (eOf T W O (xNot φa)) :=
  peI (pe_not ha) fun σ H Q ⟨ρ, ow0, fr, A, Ax, ok, er, q, k, x⟩ => ⟨ρ, ow0, fr, _, Ax, ok, er, q, fun d v G ⟨c, ec, qc⟩ okG gG rv => by
    subst ec
    exact ⟨c, rep_bl rv, k _ _ G qc okG gG (.bl _)⟩, x⟩
theorem be_ifExp {c : Expr} (hc : PT X c (tOf T W O t)) (ha : PE X a (eOf T W O φa)) (hb : PE X b (eOf T W O φb)) : PE X (.IfExp c a b pos) (eOf T W O (xIf t φa φb)) :=
  peI (pe_ifExp hc ha hb) fun σ H Q ⟨ρ, ow0, fr, A, Ax, ok, er, q, k, x⟩ => ⟨ρ, ow0, fr, _, Ax, ok, er, q, fun c G qc okG gG => by
    cases c with
    | true => exact ⟨ρ, ow0, fr, A, Ax, okG, er.gr T gG, qc, fun d v J a o g r => k d v J a o (T.trans gG g) r, x.gr gG⟩
    | false => exact ⟨ρ, ow0, fr, A, Ax, okG, er.gr T gG, qc, fun d v J a o g r => k d v J a o (T.trans gG g) r, x.gr gG⟩, x⟩
/-! ### tests -/
def tB' (φ : DX) : DT := fun ρ A Ax => φ ρ (fun x => ∃ c, x = .bl c ∧ A c) Ax
def tAnd' (t u : DT) : DT := fun ρ A Ax => t ρ (fun c => if c = true then u ρ A Ax else A false) Ax
def tOr' (t u : DT) : DT := fun ρ A Ax => t ρ (fun c => if c = true then A true else u ρ A Ax) Ax
def tNot' (t : DT) : DT := fun ρ A Ax => t ρ (fun c => A (!c)) Ax
theorem b_aux {σ : L2.St} {H : Hp} {Q : Bool → Hp → Prop} (h : tOf T W O (tB' φ) σ H Q) : tB (eOf T W O φ) σ H Q := by
  obtain ⟨ρ, ow0, fr, A, Ax, ok, er, q, k, x⟩ := h
  refine ⟨ρ, ow0, fr, _, Ax, ok, er, q, fun d v G ⟨c, ec, qc⟩ okG gG rv => ?_, x⟩
  subst ec
  exact ⟨c, rep_bl rv, k c G qc okG gG⟩
theorem bt_val (h : PE X e (eOf T W O φ)) (he : ∀ whole, isTrue e X.env whole = (do let v ← whole; standAt e.pos; holding [v] (truthy v)) := by intro _; rfl) : PT X e (tOf T W O (tB' φ)) :=
  ptI (pt_val h he) fun _ _ _ h => b_aux h
theorem bt_cmp {op : CmpOp} {r : R2} {g : D → D → Option D} (hr : OpR X (compareOp op) r) (hg : OpD T r g) (ha : PE X a (eoOf T W O φa)) (hb : PE X b (eoOf T W O φb)) (hm : behindInMarks op b = false) : PT X (.Compare a [op] [b] pos) (tOf T W O (tB' (xOp2 g φa φb))) :=
  ptI (pt_cmpR hr ha hb hm) fun σ H Q h => by
    have z := b_aux h
    exact op2_aux hg z
theorem bw_and1 (ha : PT X a (tOf T W O t)) : PW X (.BoolOp .And [a] pos) (tOf T W O t) := pw_and1 ha
theorem bw_or1 (ha : PT X a (tOf T W O t)) : PW X (.BoolOp .Or [a] pos) (tOf T W O t) := pw_or1 ha
theorem bw_and (ha : PT X a (tOf T W O t)) (hb : PW X (.BoolOp .And (b :: rest) pos) (tOf T W O u)) : PW X (.BoolOp .And (a :: b :: rest) pos) (tOf T W O (tAnd' t u)) :=
  pwI (pw_and ha hb) fun σ H Q ⟨ρ, ow0, fr, A, Ax, ok, er, q, k, x⟩ => ⟨ρ, ow0, fr, _, Ax, ok, er, q, fun c G qc okG gG => by
    cases c with
    | true => exact ⟨ρ, ow0, fr, A, Ax, okG, er.gr T gG, qc, fun b J a o g => k b J a o (T.trans gG g), x.gr gG⟩
    | false => exact k false G qc okG gG, x⟩
theorem bw_or (ha : PT X a (tOf T W O t)) (hb : PW X (.BoolOp .Or (b :: rest) pos) (tOf T W O u)) : PW X (.BoolOp .Or (a :: b :: rest) pos) (tOf T W O (tOr' t u)) :=
  pwI (pw_or ha hb) fun σ H Q ⟨ρ, ow0, fr, A, Ax, ok, er, q, k, x⟩ => ⟨ρ, ow0, fr, _, Ax, ok, er, q, fun c G qc okG gG => by
    cases c with
    | false => exact ⟨ρ, ow0, fr, A, Ax, okG, er.gr T gG, qc, fun b J a o g => k b J a o (T.trans gG g), x.gr gG⟩
    | true => exact k true G qc okG gG, x⟩
theorem bt_not (ha : PT X a (tOf T W O t)) : PT X (.UnaryOp .Not a pos) (tOf T W O (tNot' t)) :=
  ptI (pt_not ha) fun σ H Q ⟨ρ, ow0, fr, A, Ax, ok, er, q, k, x⟩ => ⟨ρ, ow0, fr, _, Ax, ok, er, q, fun c G qc okG gG => k _ G qc okG gG, x⟩
/-! ### chains a < b < c -/
def xChain (g g' : D → D → Option D) (φa φb φc : DX) : DX := fun ρ A Ax => φa ρ (fun x => φb ρ (fun y => ∃ c, g x y = some (.bl c) ∧ if c = true then φc ρ (fun z => ∃ w, g' y z = some w ∧ A w) Ax else A (.bl false)) Ax) Ax
theorem chain_aux {c : Expr} {φc : DX} {r r' : R2} {g g' : D → D → Option D} (hg : OpD T r g) (hg' : OpD T r' g') {σ : L2.St} {H : Hp} {Q : VK} (h : eOf T W O (xChain g g' φa φb φc) σ H Q) :
    tChain r r' (eoOf T W O φa) (eoOf T W O φb) (eoOf T W O φc) σ H Q := by
  obtain ⟨ρ, ow0, fr, A, Ax, ok, er, q, k, x⟩ := h
  refine ⟨ρ, ow0, fr, _, Ax, ok, er, q, fun d v G qd okG gG rv => ?_, x⟩
  have er1 := er.gr T gG
  refine ⟨ρ, ow0, fr, _, Ax, okG, er1, qd, fun d' v' G' ⟨b, eb, qb⟩ okG' gG' rv' => ?_, x.gr gG⟩
  have er2 := er1.gr T gG'
  refine hg G' (owOf ow0 O σ) v v' d d' _ _ okG' er2.otrk (rv.gr T gG') rv' eb fun u J okJ gJ ru => ⟨b, rep_bl ru, ?_⟩
  have g3 := T.trans gG (T.trans gG' gJ)
  cases b with
  | false => exact k _ _ J qb okJ g3 (.bl false)
  | true =>
    refine ⟨ρ, ow0, fr, _, Ax, okJ, er2.gr T gJ, qb, fun d3 v3 L ⟨w, ew, qw⟩ okL gL r3 => ?_, x.gr g3⟩
    exact hg' L (owOf ow0 O σ) v' v3 d' d3 w Q okL ((er2.gr T gJ).gr T gL).otrk ((rv'.gr T gJ).gr T gL) r3 ew fun u' M okM gM rM => k w u' M qw okM (T.trans g3 (T.trans gL gM)) rM
theorem be_chain {op op' : CmpOp} {c : Expr} {φc : DX} {r r' : R2} {g g' : D → D → Option D} (hr : OpR X (compareOp op) r) (hg : OpD T r g) (hr' : OpR X (compareOp op') r') (hg' : OpD T r' g') (ha : PE X a (eoOf T W O φa)) (hb : PE X b (eoOf T W O φb)) (hc : PE X c (eoOf T W O φc))
    (hm : lastMarks [op, op'] [b, c] = false := by with_unfolding_all rfl) : PE X (.Compare a [op, op'] [b, c] pos) (eOf T W O (xChain g g' φa φb φc)) := peI (pe_chain hr hr' ha hb hc hm) fun _ _ _ h => chain_aux (c := c) hg hg' h
theorem bt_chain {op op' : CmpOp} {c : Expr} {φc : DX} {r r' : R2} {g g' : D → D → Option D} (hr : OpR X (compareOp op) r) (hg : OpD T r g) (hr' : OpR X (compareOp op') r') (hg' : OpD T r' g') (ha : PE X a (eoOf T W O φa)) (hb : PE X b (eoOf T W O φb)) (hc : PE X c (eoOf T W O φc))
    (hm : lastMarks [op, op'] [b, c] = false := by with_unfolding_all rfl) : PT X (.Compare a [op, op'] [b, c] pos) (tOf T W O (tB' (xChain g g' φa φb φc))) := ptI (pt_chain hr hr' ha hb hc hm) fun _ _ _ h => by
  have z := b_aux h
  exact chain_aux (c := c) hg hg' z
end
end Dz
namespace Dz
open PySem PySem.Spec PyProof.Rows L2 Evl Bf
theorem SqH {K : PySem.W.Frag} {H : Hp} {a : Addr} {vs : List V} (h : H a = some (.tup vs)) : SqT K H a vs := .inl (.inl h)
def big : Nat := 100000
theorem big_sz {n : Nat} (h : n ≤ big) : n ≤ sizeLine := sz_of h
section
variable {K : PySem.W.Frag} {H : Hp} {ow : Addr → Prop} {v : V}
/-! ### what stands behind a tree -/
theorem o_lst {ds : List D} (h : RepO K H ow v (.lst ds)) : ∃ a vs, v = .ref a ∧ H a = some (.lst vs) ∧ RepL K H ow vs ds := by
  rcases h with h | ⟨a, e, h⟩
  · cases h with
    | lst a b c => exact ⟨_, _, rfl, a, c⟩
  · cases h with
    | lst b c => exact ⟨a, _, e, b, c⟩
theorem o_tup {ds : List D} (h : RepO K H ow v (.tup ds)) : ∃ a vs, v = .ref a ∧ H a = some (.tup vs) ∧ RepL K H ow vs ds := by
  rcases h with h | ⟨a, e, h⟩
  · cases h with
    | tup a c => exact ⟨_, _, rfl, a, c⟩
  · cases h
theorem o_dic {ds : List (Key × D)} (h : RepO K H ow v (.dic ds)) : ∃ a vs, v = .ref a ∧ Rd H a (.dK vs) ∧ RepK K H ow vs ds := by
  rcases h with h | ⟨a, e, h⟩
  · cases h with
    | dic a b c => exact ⟨_, _, rfl, a, c⟩
  · cases h with
    | dic b c => exact ⟨a, _, e, .inl b, c⟩
theorem o_scr {ns : List Int} (h : RepO K H ow v (.scr ns)) : ∃ a, v = .ref a ∧ SqF K H a (ns.map V.int) := by
  rcases h with h | ⟨a, e, h⟩
  · cases h with
    | scr a => exact ⟨_, rfl, a⟩
  · cases h
theorem o_int {i : Int} (h : RepO K H ow v (.int i)) : v = .int i := by
  rcases h with h | ⟨a, e, h⟩
  · cases h; rfl
  · cases h
theorem o_str {i : Str} (h : RepO K H ow v (.str i)) : v = .str i := by
  rcases h with h | ⟨a, e, h⟩
  · cases h; rfl
  · cases h
theorem o_bl {i : Bool} (h : RepO K H ow v (.bl i)) : v = .bl i := by
  rcases h with h | ⟨a, e, h⟩
  · cases h; rfl
  · cases h
theorem o_non (h : RepO K H ow v .non) : v = .non := by
  rcases h with h | ⟨a, e, h⟩
  · cases h; rfl
  · cases h
theorem o_ty {n : String} (h : RepO K H ow v (.ty n)) : v = .ty n := by
  rcases h with h | ⟨a, e, h⟩
  · cases h; rfl
  · cases h
theorem o_cls {c : Str} (h : RepO K H ow v (.cls c)) : v = .ref (He.ga K c) := by
  rcases h with h | ⟨a, e, h⟩
  · cases h; rfl
  · cases h
theorem RepL.length : ∀ {vs : List V} {ds : List D}, RepL K H ow vs ds → vs.length = ds.length
  | _, _, .nil => rfl
  | _, _, .cons _ t => by rw [List.length_cons, List.length_cons, RepL.length t]
theorem RepL.at : ∀ {vs : List V} {ds : List D} {i : Nat} {v : V}, RepL K H ow vs ds → vs[i]? = some v → ∃ d, ds[i]? = some d ∧ Rep K H ow v d
  | _, _, _, _, .nil, h => by simp at h
  | _, _, 0, _, .cons r _, h => by simp at h; subst h; exact ⟨_, rfl, r⟩
  | _, _, i + 1, _, .cons _ t, h => by
    obtain ⟨d, h1, h2⟩ := RepL.at (i := i) t (by simpa using h)
    exact ⟨d, by simpa using h1, h2⟩
theorem RepL.at' : ∀ {vs : List V} {ds : List D} {i : Nat} {d : D}, RepL K H ow vs ds → ds[i]? = some d → ∃ v, vs[i]? = some v ∧ Rep K H ow v d
  | _, _, _, _, .nil, h => by simp at h
  | _, _, 0, _, .cons r _, h => by simp at h; subst h; exact ⟨_, rfl, r⟩
  | _, _, i + 1, _, .cons _ t, h => by
    obtain ⟨d, h1, h2⟩ := RepL.at' (i := i) t (by simpa using h)
    exact ⟨d, by simpa using h1, h2⟩
theorem RepL.append : ∀ {vs ws : List V} {ds es : List D}, RepL K H ow vs ds → RepL K H ow ws es → RepL K H ow (vs ++ ws) (ds ++ es)
  | _, _, _, _, .nil, h => h
  | _, _, _, _, .cons r t, h => .cons r (RepL.append t h)
theorem RepL.drop : ∀ {vs : List V} {ds : List D} (n : Nat), RepL K H ow vs ds → RepL K H ow (vs.drop n) (ds.drop n)
  | _, _, 0, h => h
  | _, _, n + 1, .nil => .nil
  | _, _, n + 1, .cons _ t => RepL.drop n t
theorem RepL.take : ∀ {vs : List V} {ds : List D} (n : Nat), RepL K H ow vs ds → RepL K H ow (vs.take n) (ds.take n)
  | _, _, 0, _ => .nil
  | _, _, n + 1, .nil => .nil
  | _, _, n + 1, .cons r t => .cons r (RepL.take n t)
theorem RepL.erase : ∀ {vs : List V} {ds : List D} (n : Nat), RepL K H ow vs ds → RepL K H ow (vs.eraseIdx n) (ds.eraseIdx n)
  | _, _, _, .nil => .nil
  | _, _, 0, .cons _ t => t
  | _, _, n + 1, .cons r t => .cons r (RepL.erase n t)
theorem RepL.flat : ∀ {n : Nat} {vs : List V} {ds : List D}, RepL K H ow vs ds → RepL K H ow (List.replicate n vs).flatten (List.replicate n ds).flatten
  | 0, _, _, _ => .nil
  | n + 1, _, _, h => by
    rw [List.replicate_succ, List.replicate_succ, List.flatten_cons, List.flatten_cons]
    exact h.append (RepL.flat h)
theorem RepL.rev : ∀ {vs : List V} {ds : List D}, RepL K H ow vs ds → RepL K H ow vs.reverse ds.reverse
  | _, _, .nil => .nil
  | _, _, .cons r t => by
    rw [List.reverse_cons, List.reverse_cons]
    exact (RepL.rev t).append (.cons r .nil)
theorem repL_strs : ∀ {vs : List V} {xs : List Str}, RepL K H ow vs (xs.map D.str) → vs = xs.map V.str
  | _, [], h => by cases h; rfl
  | _, x :: xs, h => by
    cases h with
    | cons r t => cases r; rw [repL_strs t]; rfl
theorem strs_repL : ∀ (xs : List Str), RepL K H ow (xs.map V.str) (xs.map D.str)
  | [] => .nil
  | x :: xs => .cons (.str x) (strs_repL xs)
theorem repL_ints : ∀ {vs : List V} {xs : List Int}, RepL K H ow vs (xs.map D.int) → vs = xs.map V.int
  | _, [], h => by cases h; rfl
  | _, x :: xs, h => by
    cases h with
    | cons r t => cases r; rw [repL_ints t]; rfl
theorem ints_repL : ∀ (xs : List Int), RepL K H ow (xs.map V.int) (xs.map D.int)
  | [] => .nil
  | x :: xs => .cons (.int x) (ints_repL xs)
theorem repL_bls : ∀ {vs : List V} {xs : List Bool}, RepL K H ow vs (xs.map D.bl) → vs = xs.map V.bl
  | _, [], h => by cases h; rfl
  | _, x :: xs, h => by
    cases h with
    | cons r t => cases r; rw [repL_bls t]; rfl
/-- a new list, a new tuple -/
theorem new_lst {T : Th K} {p : Addr} {vs : List V} {ds : List D} (ok : T.Ok H) (tr : ∀ a, ow a → H a ≠ none) (hp : H p = none) (r : RepL K H ow vs ds) : T.Ok (upd H p (.lst vs)) ∧ T.Gr H (upd H p (.lst vs)) ∧ Rep K (upd H p (.lst vs)) ow (.ref p) (.lst ds) := by
  obtain ⟨h1, h2⟩ := T.new (o := .lst vs) ok hp rfl
  exact ⟨h1, h2, .lst upd_same (fun z => tr p z hp) (r.gr T h2)⟩
theorem new_tup {T : Th K} {p : Addr} {vs : List V} {ds : List D} (ok : T.Ok H) (tr : ∀ a, ow a → H a ≠ none) (hp : H p = none) (r : RepL K H ow vs ds) : T.Ok (upd H p (.tup vs)) ∧ T.Gr H (upd H p (.tup vs)) ∧ Rep K (upd H p (.tup vs)) ow (.ref p) (.tup ds) := by
  obtain ⟨h1, h2⟩ := T.new (o := .tup vs) ok hp rfl
  exact ⟨h1, h2, .tup upd_same (r.gr T h2)⟩
end
/-! ### flat trees, trees that are data -/
def D.flat : D → Option V
  | .non => some .non
  | .bl b => some (.bl b)
  | .int i => some (.int i)
  | .str s => some (.str s)
  | _ => none
def flats : List D → Option (List V)
  | [] => some []
  | d :: ds => match d.flat, flats ds with
    | some v, some vs => some (v :: vs)
    | _, _ => none
theorem flat_rep {K : PySem.W.Frag} {H : Hp} {ow : Addr → Prop} {v w : V} {d : D} (h : RepO K H ow v d) (e : d.flat = some w) : v = w ∧ flatV v = true := by
  cases d with
  | non => cases e; exact ⟨o_non h, by rw [o_non h]; rfl⟩
  | bl b => cases e; exact ⟨o_bl h, by rw [o_bl h]; rfl⟩
  | int b => cases e; exact ⟨o_int h, by rw [o_int h]; rfl⟩
  | str b => cases e; exact ⟨o_str h, by rw [o_str h]; rfl⟩
  | _ => cases e
theorem flats_rep {K : PySem.W.Frag} {H : Hp} {ow : Addr → Prop} : ∀ {vs ws : List V} {ds : List D}, RepL K H ow vs ds → flats ds = some ws → vs = ws ∧ vs.all flatV = true
  | _, _, _, .nil, e => by cases e; exact ⟨rfl, rfl⟩
  | _, _, d :: ds, .cons r t, e => by
    unfold flats at e
    split at e
    · rename_i v vs h1 h2
      cases e
      obtain ⟨a1, a2⟩ := flat_rep r.o h1
      obtain ⟨b1, b2⟩ := flats_rep t h2
      exact ⟨by rw [a1, b1], by rw [List.all_cons, a2, b2]; rfl⟩
    · cases e
theorem flats_strs : ∀ xs : List Str, flats (xs.map D.str) = some (xs.map V.str)
  | [] => rfl
  | x :: xs => by
    show (match (D.str x).flat, flats (xs.map D.str) with
      | some v, some vs => some (v :: vs)
      | _, _ => none) = _
    rw [flats_strs xs]; rfl
mutual
def D.py : D → Option PyData
  | .non => some .none
  | .bl b => some (.bool b)
  | .int i => some (.int i)
  | .str s => some (.str s)
  | .lst xs => match pyL xs with | some ys => some (.list ys) | none => none
  | .tup xs => match pyL xs with | some ys => some (.tuple ys) | none => none
  | _ => none
def pyL : List D → Option (List PyData)
  | [] => some []
  | d :: ds => match d.py, pyL ds with
    | some v, some vs => some (v :: vs)
    | _, _ => none
end
mutual
theorem py_rep {K : PySem.W.Frag} {H : Hp} {ow : Addr → Prop} {v : V} {d : D} (h : Rep K H ow v d) {p : PyData} (e : d.py = some p) : Dp K H v p :=
  match h with
  | .non => by cases e; exact .non
  | .bl b => by cases e; exact .bl b
  | .int i => by cases e; exact .int i
  | .str s => by cases e; exact .str s
  | .lst (ds := ds) a b c => by
    unfold D.py at e
    split at e
    · rename_i ys h1
      cases e
      exact .lst (.inl (.inl a)) (pyL_rep c h1)
    · cases e
  | .tup (ds := ds) a c => by
    unfold D.py at e
    split at e
    · rename_i ys h1
      cases e
      exact .tup (.inl (.inl a)) (pyL_rep c h1)
    · cases e
  | .dic a b c => by cases e
  | .ins a b c => by cases e
  | .ty n => by cases e
  | .cls c => by cases e
  | .scr a => by cases e
  | .exc a b => by cases e
  | .well a b => by cases e
  | .fam a b c d => by cases e
  | .dit a b c d => by cases e
theorem pyL_rep {K : PySem.W.Frag} {H : Hp} {ow : Addr → Prop} {vs : List V} {ds : List D} (h : RepL K H ow vs ds) {ps : List PyData} (e : pyL ds = some ps) : DpAll K H vs ps :=
  match h with
  | .nil => by cases e; exact .nil
  | .cons a b => by
    unfold pyL at e
    split at e
    · rename_i x xs h1 h2
      cases e
      exact .cons (py_rep a h1) (pyL_rep b h2)
    · cases e
end
theorem py_repO {K : PySem.W.Frag} {H : Hp} {ow : Addr → Prop} {v : V} {d : D} (h : RepO K H ow v d) {p : PyData} (e : d.py = some p) : Dp K H v p := by
  rcases h with h | ⟨a, rfl, h⟩
  · exact py_rep h e
  · cases h with
    | lst a c =>
      unfold D.py at e
      split at e
      · rename_i ys h1
        cases e
        exact .lst (.inl (.inl a)) (pyL_rep c h1)
      · cases e
    | dic a c => cases e
    | ins a c => cases e
    | dit a b c => cases e
/-! ### the operators over trees -/
def dAdd : D → D → Option D
  | .int i, .int j => some (.int (i + j))
  | .str a, .str b => if a.length + b.length ≤ big then some (.str (a ++ b)) else none
  | .lst a, .lst b => if a.length + b.length ≤ big then some (.lst (a ++ b)) else none
  | .tup a, .tup b => if a.length + b.length ≤ big then some (.tup (a ++ b)) else none
  | _, _ => none
def dSub : D → D → Option D
  | .int i, .int j => some (.int (i - j))
  | _, _ => none
def dMul : D → D → Option D
  | .int i, .int j => if (-(2 ^ 64) < i ∧ i < 2 ^ 64) ∨ (-(2 ^ 64) < j ∧ j < 2 ^ 64) then some (.int (i * j)) else none
  | .str z, .int n => if 0 ≤ n ∧ n ≤ 1000 ∧ z.length ≤ 1000 then some (.str (repS z n.toNat)) else none
  | .lst xs, .int n => if 0 ≤ n ∧ n ≤ big ∧ xs.length * n.toNat ≤ big then some (.lst (List.replicate n.toNat xs).flatten) else none
  | _, _ => none
def dFdiv : D → D → Option D
  | .int i, .int j => if j ≠ 0 ∧ j.natAbs < 1073741824 then some (.int (i.fdiv j)) else none
  | _, _ => none
def dMod : D → D → Option D
  | .int i, .int j => if j ≠ 0 then some (.int (i.fmod j)) else none
  | _, _ => none
def dPow : D → D → Option D
  | .int i, .int j => if 0 ≤ j ∧ j ≤ 1000000 ∧ i.natAbs < 2 ^ 64 then some (.int (i ^ j.toNat)) else none
  | _, _ => none
def dLt : D → D → Option D
  | .int i, .int j => some (.bl (decide (i < j)))
  | .str a, .str b => some (.bl (decide (a.cps.toList < b.cps.toList)))
  | _, _ => none
def dLe : D → D → Option D
  | .int i, .int j => some (.bl (decide (i ≤ j)))
  | .str a, .str b => some (.bl (!decide (b.cps.toList < a.cps.toList)))
  | _, _ => none
def dGt : D → D → Option D
  | .int i, .int j => some (.bl (decide (j < i)))
  | .str a, .str b => some (.bl (decide (b.cps.toList < a.cps.toList)))
  | _, _ => none
def dGe : D → D → Option D
  | .int i, .int j => some (.bl (decide (j ≤ i)))
  | _, _ => none
def dEq (neg : Bool) (d e : D) : Option D :=
  match d.py, e.py with
  | some p, some q => if SeqAt.shaped p = true ∧ SeqAt.shaped q = true then some (.bl (neg != PyData.eqv p q)) else none
  | _, _ => none
def isNonD : D → Bool
  | .non => true
  | _ => false
def dIs (neg : Bool) : D → D → Option D
  | d, .non => some (.bl (neg != isNonD d))
  | _, _ => none
def dIn (neg : Bool) : D → D → Option D
  | x, .lst ys => match x.flat, flats ys with
    | some v, some ws => some (.bl (neg != inV v ws))
    | _, _ => none
  | x, .tup ys => match x.flat, flats ys with
    | some v, some ws => some (.bl (neg != inV v ws))
    | _, _ => none
  | .str a, .str z => match a.cps.toList with
    | [c] => some (.bl (neg != decide (c ∈ z.cps.toList)))
    | _ => none
  | _, _ => none
def dIx : D → D → Option D
  | .lst xs, .int i => atI xs i
  | .tup xs, .int i => atI xs i
  | .scr ns, .int i => (atI ns i).map .int
  | .str z, .int i => if z.length ≤ big then (atI z.cps.toList i).map fun c => .str ⟨#[c]⟩ else none
  | _, _ => none
section
variable {X : Cx} {T : Th X.K}
theorem od_add : OpD T (fun x y H Q => rI0 (fun i j => .int (i + j)) x y H Q ∨ (∃ i j, x = .str i ∧ y = .str j ∧ i.length + j.length ≤ sizeLine ∧ Q (.str (i ++ j)) H) ∨ rCat x y H Q ∨ rCatA X.K x y H Q) dAdd := by
  intro H ow x y d e z Q ok tr rx ry hg k
  unfold dAdd at hg
  split at hg
  · cases hg
    rw [o_int rx, o_int ry]
    exact .inl ⟨_, _, rfl, rfl, k _ H ok (T.refl H) (.int _)⟩
  · split at hg
    · rename_i hl
      cases hg
      rw [o_str rx, o_str ry]
      exact .inr (.inl ⟨_, _, rfl, rfl, big_sz hl, k _ H ok (T.refl H) (.str _)⟩)
    · cases hg
  · split at hg
    · rename_i hl
      cases hg
      obtain ⟨p, vs, rfl, hp, rp⟩ := o_lst rx
      obtain ⟨q, ws, rfl, hq, rq⟩ := o_lst ry
      refine .inr (.inr (.inl ⟨p, q, vs, ws, rfl, rfl, hp, hq, by rw [rp.length, rq.length]; exact big_sz hl, fun l hl => ?_⟩))
      obtain ⟨h1, h2, h3⟩ := new_lst ok tr hl (rp.append rq)
      exact k _ _ h1 h2 h3
    · cases hg
  · split at hg
    · rename_i hl
      cases hg
      obtain ⟨p, vs, rfl, hp, rp⟩ := o_tup rx
      obtain ⟨q, ws, rfl, hq, rq⟩ := o_tup ry
      refine .inr (.inr (.inr ⟨p, q, vs, ws, rfl, rfl, .inl (.inl hp), .inl (.inl hq), by rw [rp.length, rq.length]; exact big_sz hl, fun e => ?_, fun _ e => ?_, fun _ _ l hl => ?_⟩))
      · subst e; cases rp
        exact k _ H ok (T.refl H) (.tup hq rq)
      · subst e; cases rq
        rw [List.append_nil] at k
        exact k _ H ok (T.refl H) (.tup hp rp)
      · obtain ⟨h1, h2, h3⟩ := new_tup ok tr hl (rp.append rq)
        exact k _ _ h1 h2 h3
    · cases hg
  · cases hg
theorem or_add : OpR X (binaryOp .Add) (fun x y H Q => rI0 (fun i j => .int (i + j)) x y H Q ∨ (∃ i j, x = .str i ∧ y = .str j ∧ i.length + j.length ≤ sizeLine ∧ Q (.str (i ++ j)) H) ∨ rCat x y H Q ∨ rCatA X.K x y H Q) :=
  OpR.or op_add (OpR.or op_add_str (OpR.or op_cat op_catA))
theorem od_sub : OpD T (rI0 fun i j => .int (i - j)) dSub := by
  intro H ow x y d e z Q ok tr rx ry hg k
  unfold dSub at hg
  split at hg
  · cases hg
    rw [o_int rx, o_int ry]
    exact ⟨_, _, rfl, rfl, k _ H ok (T.refl H) (.int _)⟩
  · cases hg
theorem od_mul : OpD T (fun x y H Q => rI CMul (fun i j => .int (i * j)) x y H Q ∨ (∃ (z : Str) (n : Nat), x = .str z ∧ y = .int n ∧ n ≤ 1000 ∧ z.length ≤ 1000 ∧ Q (.str (repS z n)) H) ∨ rRep x y H Q) dMul := by
  intro H ow x y d e z Q ok tr rx ry hg k
  unfold dMul at hg
  split at hg
  · split at hg
    · rename_i hc
      cases hg
      rw [o_int rx, o_int ry]
      exact .inl ⟨_, _, rfl, rfl, hc, k _ H ok (T.refl H) (.int _)⟩
    · cases hg
  · split at hg
    · rename_i z n hc
      cases hg
      rw [o_str rx, o_int ry]
      obtain ⟨m, rfl⟩ := Int.eq_ofNat_of_zero_le hc.1
      exact .inr (.inl ⟨_, m, rfl, rfl, by omega, hc.2.2, k _ H ok (T.refl H) (.str _)⟩)
    · cases hg
  · split at hg
    · rename_i xs n hc
      cases hg
      obtain ⟨p, vs, rfl, hp, rp⟩ := o_lst rx
      rw [o_int ry]
      have hb : (big : Int) = 100000 := rfl
      refine .inr (.inr ⟨p, n, vs, rfl, rfl, hp, by omega, by omega, by rw [rp.length]; exact big_sz hc.2.2, fun l hl => ?_⟩)
      obtain ⟨h1, h2, h3⟩ := new_lst ok tr hl (rp.flat (n := n.toNat))
      exact k _ _ h1 h2 h3
    · cases hg
  · cases hg
theorem or_mul : OpR X (binaryOp .Mult) (fun x y H Q => rI CMul (fun i j => .int (i * j)) x y H Q ∨ (∃ (z : Str) (n : Nat), x = .str z ∧ y = .int n ∧ n ≤ 1000 ∧ z.length ≤ 1000 ∧ Q (.str (repS z n)) H) ∨ rRep x y H Q) :=
  OpR.or op_mul (OpR.or op_mulS op_rep)
theorem od_fdiv : OpD T (rI CDivN fun i j => .int (i.fdiv j)) dFdiv := by
  intro H ow x y d e z Q ok tr rx ry hg k
  unfold dFdiv at hg
  split at hg
  · split at hg
    · rename_i hc
      cases hg
      rw [o_int rx, o_int ry]
      exact ⟨_, _, rfl, rfl, hc, k _ H ok (T.refl H) (.int _)⟩
    · cases hg
  · cases hg
theorem od_mod : OpD T (rI (fun _ j => j ≠ 0) fun i j => .int (i.fmod j)) dMod := by
  intro H ow x y d e z Q ok tr rx ry hg k
  unfold dMod at hg
  split at hg
  · split at hg
    · rename_i hc
      cases hg
      rw [o_int rx, o_int ry]
      exact ⟨_, _, rfl, rfl, hc, k _ H ok (T.refl H) (.int _)⟩
    · cases hg
  · cases hg
theorem od_pow : OpD T (rI CPow fun i j => .int (i ^ j.toNat)) dPow := by
  intro H ow x y d e z Q ok tr rx ry hg k
  unfold dPow at hg
  split at hg
  · split at hg
    · rename_i hc
      cases hg
      rw [o_int rx, o_int ry]
      exact ⟨_, _, rfl, rfl, hc, k _ H ok (T.refl H) (.int _)⟩
    · cases hg
  · cases hg
theorem od_lt : OpD T (fun x y H Q => rI0 (fun i j => .bl (decide (i < j))) x y H Q ∨ ∃ i j, x = .str i ∧ y = .str j ∧ Q (.bl (decide (i.cps.toList < j.cps.toList))) H) dLt := by
  intro H ow x y d e z Q ok tr rx ry hg k
  unfold dLt at hg
  split at hg
  · cases hg
    rw [o_int rx, o_int ry]
    exact .inl ⟨_, _, rfl, rfl, k _ H ok (T.refl H) (.bl _)⟩
  · cases hg
    rw [o_str rx, o_str ry]
    exact .inr ⟨_, _, rfl, rfl, k _ H ok (T.refl H) (.bl _)⟩
  · cases hg
theorem or_lt : OpR X (compareOp .Lt) (fun x y H Q => rI0 (fun i j => .bl (decide (i < j))) x y H Q ∨ ∃ i j, x = .str i ∧ y = .str j ∧ Q (.bl (decide (i.cps.toList < j.cps.toList))) H) := OpR.or op_lt op_lt_str
theorem od_le : OpD T (fun x y H Q => rI0 (fun i j => .bl (decide (i ≤ j))) x y H Q ∨ ∃ i j, x = .str i ∧ y = .str j ∧ Q (.bl (!decide (j.cps.toList < i.cps.toList))) H) dLe := by
  intro H ow x y d e z Q ok tr rx ry hg k
  unfold dLe at hg
  split at hg
  · cases hg
    rw [o_int rx, o_int ry]
    exact .inl ⟨_, _, rfl, rfl, k _ H ok (T.refl H) (.bl _)⟩
  · cases hg
    rw [o_str rx, o_str ry]
    exact .inr ⟨_, _, rfl, rfl, k _ H ok (T.refl H) (.bl _)⟩
  · cases hg
theorem or_le : OpR X (compareOp .LtE) (fun x y H Q => rI0 (fun i j => .bl (decide (i ≤ j))) x y H Q ∨ ∃ i j, x = .str i ∧ y = .str j ∧ Q (.bl (!decide (j.cps.toList < i.cps.toList))) H) := OpR.or op_le op_le_str
theorem od_gt : OpD T (fun x y H Q => rI0 (fun i j => .bl (decide (j < i))) x y H Q ∨ ∃ i j, x = .str i ∧ y = .str j ∧ Q (.bl (decide (j.cps.toList < i.cps.toList))) H) dGt := by
  intro H ow x y d e z Q ok tr rx ry hg k
  unfold dGt at hg
  split at hg
  · cases hg
    rw [o_int rx, o_int ry]
    exact .inl ⟨_, _, rfl, rfl, k _ H ok (T.refl H) (.bl _)⟩
  · cases hg
    rw [o_str rx, o_str ry]
    exact .inr ⟨_, _, rfl, rfl, k _ H ok (T.refl H) (.bl _)⟩
  · cases hg
theorem or_gt : OpR X (compareOp .Gt) (fun x y H Q => rI0 (fun i j => .bl (decide (j < i))) x y H Q ∨ ∃ i j, x = .str i ∧ y = .str j ∧ Q (.bl (decide (j.cps.toList < i.cps.toList))) H) := OpR.or op_gt op_gt_str
theorem od_ge : OpD T (rI0 fun i j => .bl (decide (j ≤ i))) dGe := by
  intro H ow x y d e z Q ok tr rx ry hg k
  unfold dGe at hg
  split at hg
  · cases hg
    rw [o_int rx, o_int ry]
    exact ⟨_, _, rfl, rfl, k _ H ok (T.refl H) (.bl _)⟩
  · cases hg
theorem od_eq : OpD T (rEqD X.K) (dEq false) := by
  intro H ow x y d e z Q ok tr rx ry hg k
  unfold dEq at hg
  split at hg
  · rename_i p q h1 h2
    split at hg
    · rename_i hc
      cases hg
      refine ⟨p, q, py_repO rx h1, py_repO ry h2, hc.1, hc.2, ?_⟩
      have := k _ H ok (T.refl H) (.bl _)
      simpa using this
    · cases hg
  · cases hg
theorem od_ne : OpD T (rNeD X.K) (dEq true) := by
  intro H ow x y d e z Q ok tr rx ry hg k
  unfold dEq at hg
  split at hg
  · rename_i p q h1 h2
    split at hg
    · rename_i hc
      cases hg
      refine ⟨p, q, py_repO rx h1, py_repO ry h2, hc.1, hc.2, ?_⟩
      have := k _ H ok (T.refl H) (.bl _)
      simpa using this
    · cases hg
  · cases hg
theorem is_non {K : PySem.W.Frag} {H : Hp} {ow : Addr → Prop} {v : V} {d : D} (h : RepO K H ow v d) : decide (v = .non) = isNonD d := by
  rcases h with h | ⟨a, rfl, h⟩
  · cases h <;> rfl
  · cases h <;> rfl
theorem od_is : OpD T (fun x y H Q => y = .non ∧ Q (.bl (decide (x = .non))) H) (dIs false) := by
  intro H ow x y d e z Q ok tr rx ry hg k
  unfold dIs at hg
  split at hg
  · cases hg
    refine ⟨o_non ry, ?_⟩
    rw [is_non rx]
    have := k _ H ok (T.refl H) (.bl _)
    simpa using this
  · cases hg
theorem od_isnot : OpD T (fun x y H Q => y = .non ∧ Q (.bl (!decide (x = .non))) H) (dIs true) := by
  intro H ow x y d e z Q ok tr rx ry hg k
  unfold dIs at hg
  split at hg
  · cases hg
    refine ⟨o_non ry, ?_⟩
    rw [is_non rx]
    have := k _ H ok (T.refl H) (.bl _)
    simpa using this
  · cases hg
theorem one_sign {a : Str} {c : Nat} (h : a.cps.toList = [c]) : a = ⟨#[c]⟩ := by
  obtain ⟨⟨l⟩⟩ := a
  simp only at h
  rw [h]
theorem od_in : OpD T (fun x y H Q => rIn X.K false x y H Q ∨ ∃ (c : Nat) (z : Str), x = .str ⟨#[c]⟩ ∧ y = .str z ∧ Q (.bl (decide (c ∈ z.cps.toList))) H) (dIn false) := by
  intro H ow x y d e z Q ok tr rx ry hg k
  unfold dIn at hg
  split at hg
  · split at hg
    · rename_i v ws h1 h2
      cases hg
      obtain ⟨p, vs, rfl, hp, rp⟩ := o_lst ry
      obtain ⟨e1, f1⟩ := flat_rep rx h1
      obtain ⟨e2, f2⟩ := flats_rep rp h2
      refine .inl ⟨p, vs, rfl, .inl (.inl (.inl hp)), f1, f2, ?_⟩
      have := k _ H ok (T.refl H) (.bl _)
      rw [e1, e2]
      simpa using this
    · cases hg
  · split at hg
    · rename_i v ws h1 h2
      cases hg
      obtain ⟨p, vs, rfl, hp, rp⟩ := o_tup ry
      obtain ⟨e1, f1⟩ := flat_rep rx h1
      obtain ⟨e2, f2⟩ := flats_rep rp h2
      refine .inl ⟨p, vs, rfl, .inr (SqH hp), f1, f2, ?_⟩
      have := k _ H ok (T.refl H) (.bl _)
      rw [e1, e2]
      simpa using this
    · cases hg
  · split at hg
    · rename_i c h1
      cases hg
      rw [o_str rx, o_str ry]
      refine .inr ⟨c, _, by rw [one_sign h1], rfl, ?_⟩
      have := k _ H ok (T.refl H) (.bl _)
      simpa using this
    · cases hg
  · cases hg
theorem or_in : OpR X (compareOp .In) (fun x y H Q => rIn X.K false x y H Q ∨ ∃ (c : Nat) (z : Str), x = .str ⟨#[c]⟩ ∧ y = .str z ∧ Q (.bl (decide (c ∈ z.cps.toList))) H) := OpR.or op_in_seq op_in_sign
theorem od_notin : OpD T (fun x y H Q => rIn X.K true x y H Q ∨ ∃ (c : Nat) (z : Str), x = .str ⟨#[c]⟩ ∧ y = .str z ∧ Q (.bl (!decide (c ∈ z.cps.toList))) H) (dIn true) := by
  intro H ow x y d e z Q ok tr rx ry hg k
  unfold dIn at hg
  split at hg
  · split at hg
    · rename_i v ws h1 h2
      cases hg
      obtain ⟨p, vs, rfl, hp, rp⟩ := o_lst ry
      obtain ⟨e1, f1⟩ := flat_rep rx h1
      obtain ⟨e2, f2⟩ := flats_rep rp h2
      refine .inl ⟨p, vs, rfl, .inl (.inl (.inl hp)), f1, f2, ?_⟩
      have := k _ H ok (T.refl H) (.bl _)
      rw [e1, e2]
      simpa using this
    · cases hg
  · split at hg
    · rename_i v ws h1 h2
      cases hg
      obtain ⟨p, vs, rfl, hp, rp⟩ := o_tup ry
      obtain ⟨e1, f1⟩ := flat_rep rx h1
      obtain ⟨e2, f2⟩ := flats_rep rp h2
      refine .inl ⟨p, vs, rfl, .inr (SqH hp), f1, f2, ?_⟩
      have := k _ H ok (T.refl H) (.bl _)
      rw [e1, e2]
      simpa using this
    · cases hg
  · split at hg
    · rename_i c h1
      cases hg
      rw [o_str rx, o_str ry]
      refine .inr ⟨c, _, by rw [one_sign h1], rfl, ?_⟩
      have := k _ H ok (T.refl H) (.bl _)
      simpa using this
    · cases hg
  · cases hg
theorem or_notin : OpR X (compareOp .NotIn) (fun x y H Q => rIn X.K true x y H Q ∨ ∃ (c : Nat) (z : Str), x = .str ⟨#[c]⟩ ∧ y = .str z ∧ Q (.bl (!decide (c ∈ z.cps.toList))) H) := OpR.or op_notIn_seq op_notIn_sign
theorem atI_rep {K : PySem.W.Frag} {H : Hp} {ow : Addr → Prop} {vs : List V} {ds : List D} {i : Int} {d : D} (r : RepL K H ow vs ds) (h : atI ds i = some d) : ∃ v, atI vs i = some v ∧ Rep K H ow v d := by
  unfold atI at h ⊢
  rw [r.length]
  cases e : ixN ds.length i with
  | none => rw [e] at h; cases h
  | some j =>
    rw [e] at h
    obtain ⟨v, h1, h2⟩ := r.at' (show ds[j]? = some d from h)
    exact ⟨v, h1, h2⟩
theorem od_ix : OpD T (rIx X.K) dIx := by
  intro H ow x y d e z Q ok tr rx ry hg k
  unfold dIx at hg
  split at hg
  · obtain ⟨p, vs, rfl, hp, rp⟩ := o_lst rx
    rw [o_int ry]
    obtain ⟨v, h1, h2⟩ := atI_rep rp hg
    exact .inl ⟨p, vs, _, v, rfl, rfl, .inl (.inl hp), h1, k _ H ok (T.refl H) h2⟩
  · obtain ⟨p, vs, rfl, hp, rp⟩ := o_tup rx
    rw [o_int ry]
    obtain ⟨v, h1, h2⟩ := atI_rep rp hg
    exact .inr (.inl ⟨p, vs, _, v, rfl, rfl, SqH hp, h1, k _ H ok (T.refl H) h2⟩)
  · rename_i ns i
    obtain ⟨p, rfl, hp⟩ := o_scr rx
    rw [o_int ry]
    cases e : atI ns i with
    | none => rw [e] at hg; cases hg
    | some n =>
      rw [e] at hg
      cases hg
      refine .inl ⟨p, _, _, .int n, rfl, rfl, hp.l, ?_, k _ H ok (T.refl H) (.int n)⟩
      unfold atI at e ⊢
      rw [List.length_map]
      cases e2 : ixN ns.length i with
      | none => rw [e2] at e; cases e
      | some j =>
        rw [e2] at e
        show (ns.map V.int)[j]? = _
        rw [List.getElem?_map, show ns[j]? = some n from e]
        rfl
  · rename_i zz i
    split at hg
    · rename_i hl
      rw [o_str rx, o_int ry]
      cases e : atI zz.cps.toList i with
      | none => rw [e] at hg; cases hg
      | some c =>
        rw [e] at hg
        cases hg
        exact .inr (.inr ⟨_, _, c, rfl, rfl, big_sz hl, e, k _ H ok (T.refl H) (.str _)⟩)
    · cases hg
  · cases hg
end
end Dz
namespace Dz
open PySem PySem.Spec PyProof.Rows L2 Evl Bf
/-! ### arguments, displays -/
def aNil : DA := fun _ A _ => A []
def aCons (φ : DX) (φs : DA) : DA := fun ρ A Ax => φ ρ (fun x => φs ρ (fun xs => A (x :: xs)) Ax) Ax
/-- what a call gives: a tree; or a new thing of one's own -/
def PostR (K : PySem.W.Frag) (H G : Hp) (ow : Addr → Prop) : Nat → V → D → Prop
  | 0, v, d => Rep K G ow v d
  | 1, v, d => ∃ p, v = .ref p ∧ H p = none ∧ OwnR K G (fun a => ow a ∨ a = p) p d
  | 2, v, d => ∃ fp, Own K G tt fp v d ∧ fp.Nodup ∧ ∀ a ∈ fp, H a = none
  | _ + 3, v, d => Rep K G (fun a => ow a ∨ H a ≠ none) v d
section
variable {K : PySem.W.Frag} {H G : Hp} {ow : Addr → Prop} {v : V} {d : D}
theorem OwnR.rep {p : Addr} (h : OwnR K G (fun a => ow a ∨ a = p) p d) (n : ¬ ow p) : Rep K G ow (.ref p) d := by
  have m : Mv K G (fun a => ow a ∨ a = p) G ow := Mv.less fun a z => .inl z
  cases h with
  | lst a b => exact .lst a n (b.mv m)
  | dic a b => exact .dic (.inl a) n (b.mv m)
  | ins a b => exact .ins a n (b.mv m)
  | dit a b c => exact .dit a b n c
theorem PostR.rep {fz : Nat} (h : PostR K H G ow fz v d) (tr : ∀ a, ow a → H a ≠ none) : Rep K G ow v d := by
  match fz, h with
  | 0, h => exact h
  | 1, h =>
    obtain ⟨p, rfl, hp, o⟩ := h
    exact o.rep fun z => tr p z hp
  | 2, h =>
    obtain ⟨fp, o, _, n⟩ := h
    exact o.rep (fun _ _ => trivial) fun a ha z => tr a z (n a ha)
  | _ + 3, h => exact h.mv (Mv.less fun _ z => .inl z)
end
/-- a reading whose value is a new thing of one's own -/
def efOf {K : PySem.W.Frag} (T : Th K) (W : WX) (O : List Nat) (φ : DX) : TE := fun σ H Q => ∃ ρ ow0 fr A Ax, T.Ok H ∧ ER K H ow0 fr O σ ρ ∧ φ ρ A Ax ∧ (∀ d v G, A d → T.Ok G → T.Gr H G → PostR K H G (owOf ow0 O σ) 1 v d → Q v G) ∧ XOk T W H (owOf ow0 O σ) σ Ax
section
variable {X : Cx} {T : Th X.K} {W : WX} {O : List Nat} {e a b : Expr} {es : List Expr} {φ φa φb : DX} {φs : DA} {pos : Pos}
theorem be_f (h : PE X e (efOf T W O φ)) : PE X e (eOf T W O φ) := peI h fun σ H Q ⟨ρ, ow0, fr, A, Ax, ok, er, q, k, x⟩ => ⟨ρ, ow0, fr, A, Ax, ok, er, q, fun d v G a o g r => k d v G a o g (r.rep er.otrk), x⟩
theorem ba_nil : PA X [] (aOf T W O 0 aNil) := paI pa_nil fun σ H Q ⟨ρ, ow0, fr, A, Ax, ok, er, q, k, _⟩ => k [] [] H q rfl ok (T.refl H) .nil
theorem ba_cons {n : Nat} (ha : PE X e (eOf T W O φ)) (hr : PA X es (aOf T W O n φs)) (hs : starEach (e :: es) X.env = (false, eval e X.env) :: starEach es X.env := by rfl) : PA X (e :: es) (aOf T W O (n + 1) (aCons φ φs)) :=
  paI (pa_cons ha hr hs) fun σ H Q ⟨ρ, ow0, fr, A, Ax, ok, er, q, k, x⟩ => ⟨ρ, ow0, fr, _, Ax, ok, er, q, fun d v G qd okG gG rv =>
    ⟨ρ, ow0, fr, _, Ax, okG, er.gr T gG, qd, fun ds vs J qs hn okJ gJ rs => k _ _ J qs (by rw [List.length_cons, hn]) okJ (T.trans gG gJ) (.cons (rv.gr T gJ) rs), x.gr gG⟩, x⟩
theorem bo_nil : PA X [] (aoOf T W O aNil) := paI pa_nil fun σ H Q ⟨ρ, ow0, fr, A, Ax, ok, er, q, k, _⟩ => k [] [] H q ok (T.refl H) .nil
theorem bo_cons (ha : PE X e (eoOf T W O φ)) (hr : PA X es (aoOf T W O φs)) (hs : starEach (e :: es) X.env = (false, eval e X.env) :: starEach es X.env := by rfl) : PA X (e :: es) (aoOf T W O (aCons φ φs)) :=
  paI (pa_cons ha hr hs) fun σ H Q ⟨ρ, ow0, fr, A, Ax, ok, er, q, k, x⟩ => ⟨ρ, ow0, fr, _, Ax, ok, er, q, fun d v G qd okG gG rv =>
    ⟨ρ, ow0, fr, _, Ax, okG, er.gr T gG, qd, fun ds vs J qs okJ gJ rs => k _ _ J qs okJ (T.trans gG gJ) (.cons (rv.gr T gJ) rs), x.gr gG⟩, x⟩
def xTup (φs : DA) : DX := fun ρ A Ax => φs ρ (fun xs => xs.length ≤ big ∧ A (.tup xs)) Ax
def xLst (φs : DA) : DX := fun ρ A Ax => φs ρ (fun xs => xs.length ≤ big ∧ A (.lst xs)) Ax
theorem be_tup {x1} {n : Nat} (h : PA X es (aOf T W O n φs)) : PE X (.Tuple es x1 pos) (eOf T W O (xTup φs)) :=
  peI (pe_tup h) fun σ H Q ⟨ρ, ow0, fr, A, Ax, ok, er, q, k, x⟩ => ⟨ρ, ow0, fr, _, Ax, ok, er, q, fun ds vs G ⟨hl, qd⟩ _ okG gG rv => ⟨by rw [rv.length]; exact big_sz hl, fun p hp => by
    obtain ⟨h1, h2, h3⟩ := new_tup okG (er.gr T gG).otrk hp rv
    exact k _ _ _ qd h1 (T.trans gG h2) h3⟩, x⟩
theorem more_own {K : PySem.W.Frag} {H : Hp} {ow : Addr → Prop} {p : Addr} (hp : H p = none) : Mv K H ow H (fun a => ow a ∨ a = p) := Mv.more fun a z => z.imp_right fun (e : a = p) => by rw [e]; exact hp
theorem new_own {K : PySem.W.Frag} {T : Th K} {H : Hp} {ow : Addr → Prop} {p : Addr} {vs : List V} {ds : List D} (ok : T.Ok H) (hp : H p = none) (r : RepL K H ow vs ds) :
    T.Ok (upd H p (.lst vs)) ∧ T.Gr H (upd H p (.lst vs)) ∧ OwnR K (upd H p (.lst vs)) (fun a => ow a ∨ a = p) p (.lst ds) := by
  obtain ⟨h1, h2⟩ := T.new (o := .lst vs) ok hp rfl
  exact ⟨h1, h2, .lst upd_same ((r.mv (more_own hp)).gr T h2)⟩
theorem new_ownD {K : PySem.W.Frag} {T : Th K} {H : Hp} {ow : Addr → Prop} {p : Addr} {vs : List (Key × V)} {ds : List (Key × D)} (ok : T.Ok H) (hp : H p = none) (r : RepK K H ow vs ds) :
    T.Ok (upd H p (.dK vs)) ∧ T.Gr H (upd H p (.dK vs)) ∧ OwnR K (upd H p (.dK vs)) (fun a => ow a ∨ a = p) p (.dic ds) := by
  obtain ⟨h1, h2⟩ := T.new (o := .dK vs) ok hp rfl
  exact ⟨h1, h2, .dic upd_same ((r.mv (more_own hp)).mv (Mv.gr T h2))⟩
theorem bf_lst {n : Nat} (h : PA X es (aOf T W O n φs)) : PE X (.List es pos) (efOf T W O (xLst φs)) :=
  peI (pe_lst h) fun σ H Q ⟨ρ, ow0, fr, A, Ax, ok, er, q, k, x⟩ => ⟨ρ, ow0, fr, _, Ax, ok, er, q, fun ds vs G ⟨hl, qd⟩ _ okG gG rv => ⟨by rw [rv.length]; exact big_sz hl, fun p hp => by
    obtain ⟨h1, h2, h3⟩ := new_own okG hp rv
    exact k _ _ _ qd h1 (T.trans gG h2) ⟨p, rfl, T.back gG hp, h3⟩⟩, x⟩
theorem bf_dnew : PE X (.Dict [] [] pos) (efOf T W O (xC (.dic []))) :=
  peI pe_dnewK fun σ H Q ⟨ρ, ow0, fr, A, Ax, ok, er, q, k, x⟩ => fun p hp => by
    obtain ⟨h1, h2, h3⟩ := new_ownD (ow := owOf ow0 O σ) ok hp (.nil (K := X.K))
    exact k _ _ _ q h1 h2 ⟨p, rfl, hp, h3⟩
/-! ### calls of built-in things -/
def xB (g : List D → Option D) (φs : DA) : DX := fun ρ A Ax => φs ρ (fun xs => ∃ z, g xs = some z ∧ A z) Ax
def CallD (T : Th X.K) (r : List V → Hp → VK → Prop) (fz : Nat) (g : List D → Option D) : Prop := ∀ (H : Hp) (ow : Addr → Prop) (vs : List V) (ds : List D) (z : D) (Q : VK), T.Ok H → (∀ a, ow a → H a ≠ none) → Paired (RepO X.K H ow) vs ds → g ds = some z →
  (∀ v G, T.Ok G → T.Gr H G → PostR X.K H G ow fz v z → Q v G) → r vs H Q
variable {r : List V → Hp → VK → Prop} {g : List D → Option D} {id : String} {nm : String} {x : Str} {p : Pos}
theorem cb_aux (hg : CallD T r 0 g) {σ : L2.St} {H : Hp} {Q : VK} (h : eOf T W O (xB g φs) σ H Q) : tCB r (aoOf T W O φs) σ H Q := by
  obtain ⟨ρ, ow0, fr, A, Ax, ok, er, q, k, x⟩ := h
  exact ⟨ρ, ow0, fr, _, Ax, ok, er, q, fun ds vs G ⟨z, ez, qz⟩ okG gG rv => hg G (owOf ow0 O σ) vs ds z Q okG (er.gr T gG).otrk rv ez fun v J okJ gJ rJ => k z v J qz okJ (T.trans gG gJ) rJ, x⟩
theorem cf_aux (hg : CallD T r 1 g) {σ : L2.St} {H : Hp} {Q : VK} (h : efOf T W O (xB g φs) σ H Q) : tCB r (aoOf T W O φs) σ H Q := by
  obtain ⟨ρ, ow0, fr, A, Ax, ok, er, q, k, x⟩ := h
  exact ⟨ρ, ow0, fr, _, Ax, ok, er, q, fun ds vs G ⟨z, ez, qz⟩ okG gG rv => hg G (owOf ow0 O σ) vs ds z Q okG (er.gr T gG).otrk rv ez fun v J okJ gJ ⟨p, e1, e2, e3⟩ => k z v J qz okJ (T.trans gG gJ) ⟨p, e1, T.back gG e2, e3⟩, x⟩
theorem be_bf (hc : CallR X (.builtin id) r) (hg : CallD T r 0 g) (hG : Gl X x) (hm : X.mg x = none) (hv : bootBuiltins x = some (.builtin id)) (ha : PA X (e :: es) (aoOf T W O φs)) (hn : x ≠ "__name__" := by decide) (hdb : (x == ("__debug__" : Str)) = false := by decide)
    (he : starEach (e :: es) X.env = (false, eval e X.env) :: starEach es X.env := by rfl) (hpl : (backTo pos (starEach es X.env)).any (·.1) = false := by rfl) : PE X (.Call (.Name x p) (e :: es) [] pos) (eOf T W O (xB g φs)) := peI (pe_callB hc hG hm hv ha hn hdb he hpl) fun _ _ _ h => cb_aux hg h
theorem be_bt (hc : CallR X (.type nm) r) (hg : CallD T r 0 g) (hG : Gl X x) (hm : X.mg x = none) (hv : bootBuiltins x = some (.type nm)) (ha : PA X (e :: es) (aoOf T W O φs)) (hn : x ≠ "__name__" := by decide) (hdb : (x == ("__debug__" : Str)) = false := by decide)
    (he : starEach (e :: es) X.env = (false, eval e X.env) :: starEach es X.env := by rfl) (hpl : (backTo pos (starEach es X.env)).any (·.1) = false := by rfl) : PE X (.Call (.Name x p) (e :: es) [] pos) (eOf T W O (xB g φs)) := peI (pe_callTy hc hG hm hv ha hn hdb he hpl) fun _ _ _ h => cb_aux hg h
theorem bf_bf (hc : CallR X (.builtin id) r) (hg : CallD T r 1 g) (hG : Gl X x) (hm : X.mg x = none) (hv : bootBuiltins x = some (.builtin id)) (ha : PA X (e :: es) (aoOf T W O φs)) (hn : x ≠ "__name__" := by decide) (hdb : (x == ("__debug__" : Str)) = false := by decide)
    (he : starEach (e :: es) X.env = (false, eval e X.env) :: starEach es X.env := by rfl) (hpl : (backTo pos (starEach es X.env)).any (·.1) = false := by rfl) : PE X (.Call (.Name x p) (e :: es) [] pos) (efOf T W O (xB g φs)) := peI (pe_callB hc hG hm hv ha hn hdb he hpl) fun _ _ _ h => cf_aux hg h
theorem bf_bt (hc : CallR X (.type nm) r) (hg : CallD T r 1 g) (hG : Gl X x) (hm : X.mg x = none) (hv : bootBuiltins x = some (.type nm)) (ha : PA X (e :: es) (aoOf T W O φs)) (hn : x ≠ "__name__" := by decide) (hdb : (x == ("__debug__" : Str)) = false := by decide)
    (he : starEach (e :: es) X.env = (false, eval e X.env) :: starEach es X.env := by rfl) (hpl : (backTo pos (starEach es X.env)).any (·.1) = false := by rfl) : PE X (.Call (.Name x p) (e :: es) [] pos) (efOf T W O (xB g φs)) := peI (pe_callTy hc hG hm hv ha hn hdb he hpl) fun _ _ _ h => cf_aux hg h
end
/-! ### the built-in calls over trees -/
def D.strs : List D → Option (List Str)
  | [] => some []
  | .str s :: ds => match D.strs ds with | some r => some (s :: r) | none => none
  | _ :: _ => none
theorem strs_of : ∀ {ds : List D} {xs : List Str}, D.strs ds = some xs → ds = xs.map D.str
  | [], xs, h => by cases h; rfl
  | .str s :: ds, xs, h => by
    unfold D.strs at h
    split at h
    · rename_i r e
      cases h
      rw [strs_of e]; rfl
    · cases h
  | .non :: _, _, h => by cases h
  | .bl _ :: _, _, h => by cases h
  | .int _ :: _, _, h => by cases h
  | .lst _ :: _, _, h => by cases h
  | .tup _ :: _, _, h => by cases h
  | .dic _ :: _, _, h => by cases h
  | .ins _ _ :: _, _, h => by cases h
  | .ty _ :: _, _, h => by cases h
  | .cls _ :: _, _, h => by cases h
  | .scr _ :: _, _, h => by cases h
  | .exc _ _ _ _ :: _, _, h => by cases h
  | .well _ :: _, _, h => by cases h
  | .fam _ _ _ :: _, _, h => by cases h
  | .dit _ :: _, _, h => by cases h
theorem strs_map : ∀ xs : List Str, D.strs (xs.map D.str) = some xs
  | [] => rfl
  | x :: xs => by
    show (match D.strs (xs.map D.str) with | some r => some (x :: r) | none => none) = _
    rw [strs_map xs]
def D.bls : List D → Option (List Bool)
  | [] => some []
  | .bl s :: ds => match D.bls ds with | some r => some (s :: r) | none => none
  | _ :: _ => none
theorem bls_of : ∀ {ds : List D} {xs : List Bool}, D.bls ds = some xs → ds = xs.map D.bl
  | [], xs, h => by cases h; rfl
  | .bl s :: ds, xs, h => by
    unfold D.bls at h
    split at h
    · rename_i r e
      cases h
      rw [bls_of e]; rfl
    · cases h
  | .non :: _, _, h => by cases h
  | .str _ :: _, _, h => by cases h
  | .int _ :: _, _, h => by cases h
  | .lst _ :: _, _, h => by cases h
  | .tup _ :: _, _, h => by cases h
  | .dic _ :: _, _, h => by cases h
  | .ins _ _ :: _, _, h => by cases h
  | .ty _ :: _, _, h => by cases h
  | .cls _ :: _, _, h => by cases h
  | .scr _ :: _, _, h => by cases h
  | .exc _ _ _ _ :: _, _, h => by cases h
  | .well _ :: _, _, h => by cases h
  | .fam _ _ _ :: _, _, h => by cases h
  | .dit _ :: _, _, h => by cases h
theorem bls_map : ∀ xs : List Bool, D.bls (xs.map D.bl) = some xs
  | [] => rfl
  | x :: xs => by
    show (match D.bls (xs.map D.bl) with | some r => some (x :: r) | none => none) = _
    rw [bls_map xs]
def dLen : List D → Option D
  | [.lst xs] => some (.int xs.length)
  | [.tup xs] => some (.int xs.length)
  | [.scr xs] => some (.int xs.length)
  | [.str z] => if z.length ≤ big then some (.int z.length) else none
  | _ => none
def dLenD : List D → Option D
  | [.dic xs] => some (.int xs.length)
  | _ => none
def dInt : List D → Option D
  | [.int i] => some (.int i)
  | [.bl b] => some (.int (if b then 1 else 0))
  | _ => none
def dList : List D → Option D
  | [.lst xs] => some (.lst xs)
  | [.tup xs] => some (.lst xs)
  | [.scr ns] => some (.lst (ns.map .int))
  | _ => none
def dTuple : List D → Option D
  | [.lst xs] => some (.tup xs)
  | [.tup xs] => some (.tup xs)
  | _ => none
/-- texts, sorted -/
def dSorted : List D → Option D
  | [.lst xs] => match D.strs xs with
    | some ss => if ss.length < 64 then some (.lst ((srt ss).map .str)) else none
    | none => none
  | [.tup xs] => match D.strs xs with
    | some ss => if ss.length < 64 then some (.lst ((srt ss).map .str)) else none
    | none => none
  | _ => none
def dMin : List D → Option D
  | [.int i, .int j] => some (.int (if j < i then j else i))
  | _ => none
def dMax : List D → Option D
  | [.int i, .int j] => some (.int (if j > i then j else i))
  | _ => none
def dAll : List D → Option D
  | [.lst xs] => match D.bls xs with
    | some bs => some (.bl (bs.all id))
    | none => none
  | _ => none
def dAny : List D → Option D
  | [.lst xs] => match D.bls xs with
    | some bs => some (.bl (bs.any id))
    | none => none
  | _ => none
theorem pair1 {α β : Type} {R : α → β → Prop} {vs : List α} {d : β} (h : Paired R vs [d]) : ∃ v, vs = [v] ∧ R v d := by
  cases h with
  | cons a t => cases t; exact ⟨_, rfl, a⟩
theorem pair2 {α β : Type} {R : α → β → Prop} {vs : List α} {d e : β} (h : Paired R vs [d, e]) : ∃ v w, vs = [v, w] ∧ R v d ∧ R w e := by
  cases h with
  | cons a t => cases t with
    | cons b t => cases t; exact ⟨_, _, rfl, a, b⟩
section
variable {X : Cx} {T : Th X.K}
theorem cd_len : CallD T (fun xs H Q => ∃ x n, xs = [x] ∧ LenV X.K x H n ∧ Q (.int n) H) 0 dLen := by
  intro H ow vs ds z Q ok tr r hg k
  unfold dLen at hg
  split at hg
  · cases hg
    obtain ⟨v, rfl, rv⟩ := pair1 r
    obtain ⟨p, ws, rfl, hp, rp⟩ := o_lst rv
    exact ⟨_, _, rfl, .inl ⟨ws, .inl (.inl hp), rp.length.symm⟩, k _ H ok (T.refl H) (.int _)⟩
  · cases hg
    obtain ⟨v, rfl, rv⟩ := pair1 r
    obtain ⟨p, ws, rfl, hp, rp⟩ := o_tup rv
    exact ⟨_, _, rfl, .inr ⟨ws, SqH hp, rp.length.symm⟩, k _ H ok (T.refl H) (.int _)⟩
  · cases hg
    obtain ⟨v, rfl, rv⟩ := pair1 r
    obtain ⟨p, rfl, hp⟩ := o_scr rv
    exact ⟨_, _, rfl, .inl ⟨_, hp.l, (List.length_map _).symm⟩, k _ H ok (T.refl H) (.int _)⟩
  · split at hg
    · rename_i hl
      cases hg
      obtain ⟨v, rfl, rv⟩ := pair1 r
      rw [o_str rv]
      exact ⟨_, _, rfl, ⟨big_sz hl, rfl⟩, k _ H ok (T.refl H) (.int _)⟩
    · cases hg
  · cases hg
theorem RepK.length {K : PySem.W.Frag} {H : Hp} {ow : Addr → Prop} : ∀ {vs : List (Key × V)} {ds : List (Key × D)}, RepK K H ow vs ds → vs.length = ds.length
  | _, _, .nil => rfl
  | _, _, .cons _ t => by rw [List.length_cons, List.length_cons, RepK.length t]
theorem cd_int : CallD T (fun xs H Q => (∃ i, xs = [.int i] ∧ Q (.int i) H) ∨ ∃ k, xs = [.bl k] ∧ Q (.int (if k then 1 else 0)) H) 0 dInt := by
  intro H ow vs ds z Q ok tr r hg k
  unfold dInt at hg
  split at hg
  · cases hg
    obtain ⟨v, rfl, rv⟩ := pair1 r
    rw [o_int rv]
    exact .inl ⟨_, rfl, k _ H ok (T.refl H) (.int _)⟩
  · cases hg
    obtain ⟨v, rfl, rv⟩ := pair1 r
    rw [o_bl rv]
    exact .inr ⟨_, rfl, k _ H ok (T.refl H) (.int _)⟩
  · cases hg
theorem cd_list : CallD T (fun xs H Q => ∃ p ys, xs = [.ref p] ∧ (SqL X.K H p ys ∨ SqT X.K H p ys) ∧ ∀ l, H l = none → Q (.ref l) (upd H l (.lst ys))) 1 dList := by
  intro H ow vs ds z Q ok tr r hg k
  unfold dList at hg
  split at hg
  · cases hg
    obtain ⟨v, rfl, rv⟩ := pair1 r
    obtain ⟨p, ws, rfl, hp, rp⟩ := o_lst rv
    refine ⟨_, _, rfl, .inl (.inl (.inl hp)), fun l hl => ?_⟩
    obtain ⟨h1, h2, h3⟩ := new_own ok hl rp
    exact k _ _ h1 h2 ⟨l, rfl, hl, h3⟩
  · cases hg
    obtain ⟨v, rfl, rv⟩ := pair1 r
    obtain ⟨p, ws, rfl, hp, rp⟩ := o_tup rv
    refine ⟨_, _, rfl, .inr (SqH hp), fun l hl => ?_⟩
    obtain ⟨h1, h2, h3⟩ := new_own ok hl rp
    exact k _ _ h1 h2 ⟨l, rfl, hl, h3⟩
  · cases hg
    obtain ⟨v, rfl, rv⟩ := pair1 r
    obtain ⟨p, rfl, hp⟩ := o_scr rv
    refine ⟨_, _, rfl, .inl hp.l, fun l hl => ?_⟩
    obtain ⟨h1, h2, h3⟩ := new_own (ow := ow) ok hl (ints_repL (K := X.K) _)
    exact k _ _ h1 h2 ⟨l, rfl, hl, h3⟩
  · cases hg
theorem cd_tuple : CallD T (fun xs H Q => ∃ p ys, xs = [.ref p] ∧ ((SqL X.K H p ys ∧ ∀ l, H l = none → Q (.ref l) (upd H l (.tup ys))) ∨ (SqT X.K H p ys ∧ Q (.ref p) H))) 0 dTuple := by
  intro H ow vs ds z Q ok tr r hg k
  unfold dTuple at hg
  split at hg
  · cases hg
    obtain ⟨v, rfl, rv⟩ := pair1 r
    obtain ⟨p, ws, rfl, hp, rp⟩ := o_lst rv
    refine ⟨_, _, rfl, .inl ⟨.inl (.inl hp), fun l hl => ?_⟩⟩
    obtain ⟨h1, h2, h3⟩ := new_tup ok tr hl rp
    exact k _ _ h1 h2 h3
  · cases hg
    obtain ⟨v, rfl, rv⟩ := pair1 r
    obtain ⟨p, ws, rfl, hp, rp⟩ := o_tup rv
    exact ⟨_, _, rfl, .inr ⟨SqH hp, k _ H ok (T.refl H) (.tup hp rp)⟩⟩
  · cases hg
theorem CallR.or {X : Cx} {f : Value} {r r' : List V → Hp → VK → Prop} (h : CallR X f r) (h' : CallR X f r') : CallR X f (fun vs H Q => r vs H Q ∨ r' vs H Q) := by
  intro pins s σ H vs us Q I rv q
  rcases q with q | q
  · exact h pins s σ H vs us Q I rv q
  · exact h' pins s σ H vs us Q I rv q
theorem cd_sorted : CallD T (fun vs H Q => rSortedS X.K vs H Q ∨ rSortedTS X.K vs H Q) 1 dSorted := by
  intro H ow vs ds z Q ok tr r hg k
  unfold dSorted at hg
  split at hg
  · split at hg
    · rename_i ss e
      split at hg
      · rename_i hl
        cases hg
        obtain ⟨v, rfl, rv⟩ := pair1 r
        obtain ⟨p, ws, rfl, hp, rp⟩ := o_lst rv
        rw [strs_of e] at rp
        rw [repL_strs rp] at hp
        refine .inl ⟨p, ss, rfl, .inl (.inl hp), hl, fun ys q pm st hq => ?_⟩
        rw [srt_eq pm st]
        obtain ⟨h1, h2, h3⟩ := new_own (ow := ow) ok hq (strs_repL (K := X.K) (srt ss))
        exact k _ _ h1 h2 ⟨q, rfl, hq, h3⟩
      · cases hg
    · cases hg
  · split at hg
    · rename_i ss e
      split at hg
      · rename_i hl
        cases hg
        obtain ⟨v, rfl, rv⟩ := pair1 r
        obtain ⟨p, ws, rfl, hp, rp⟩ := o_tup rv
        rw [strs_of e] at rp
        rw [repL_strs rp] at hp
        refine .inr ⟨p, ss, rfl, SqH hp, hl, fun ys q pm st hq => ?_⟩
        rw [srt_eq pm st]
        obtain ⟨h1, h2, h3⟩ := new_own (ow := ow) ok hq (strs_repL (K := X.K) (srt ss))
        exact k _ _ h1 h2 ⟨q, rfl, hq, h3⟩
      · cases hg
    · cases hg
  · cases hg
theorem cr_sortedD : CallR X (.builtin "sorted") (fun vs H Q => rSortedS X.K vs H Q ∨ rSortedTS X.K vs H Q) := CallR.or cr_sortedS cr_sortedTS
theorem cd_min : CallD T (fun xs H Q => ∃ i j, xs = [.int i, .int j] ∧ Q (.int (if j < i then j else i)) H) 0 dMin := by
  intro H ow vs ds z Q ok tr r hg k
  unfold dMin at hg
  split at hg
  · cases hg
    obtain ⟨v, w, rfl, rv, rw'⟩ := pair2 r
    rw [o_int rv, o_int rw']
    exact ⟨_, _, rfl, k _ H ok (T.refl H) (.int _)⟩
  · cases hg
theorem cd_max : CallD T (fun xs H Q => ∃ i j, xs = [.int i, .int j] ∧ Q (.int (if j > i then j else i)) H) 0 dMax := by
  intro H ow vs ds z Q ok tr r hg k
  unfold dMax at hg
  split at hg
  · cases hg
    obtain ⟨v, w, rfl, rv, rw'⟩ := pair2 r
    rw [o_int rv, o_int rw']
    exact ⟨_, _, rfl, k _ H ok (T.refl H) (.int _)⟩
  · cases hg
theorem cd_all : CallD T (rAll X.K) 0 dAll := by
  intro H ow vs ds z Q ok tr r hg k
  unfold dAll at hg
  split at hg
  · split at hg
    · rename_i bs e
      cases hg
      obtain ⟨v, rfl, rv⟩ := pair1 r
      obtain ⟨p, ws, rfl, hp, rp⟩ := o_lst rv
      rw [bls_of e] at rp
      rw [repL_bls rp] at hp
      exact ⟨p, bs, rfl, .inl (.inl hp), k _ H ok (T.refl H) (.bl _)⟩
    · cases hg
  · cases hg
theorem cd_any : CallD T (fun vs H Q => ∃ (a : Addr) (bs : List Bool), vs = [V.ref a] ∧ SqL X.K H a (bs.map V.bl) ∧ Q (.bl (bs.any id)) H) 0 dAny := by
  intro H ow vs ds z Q ok tr r hg k
  unfold dAny at hg
  split at hg
  · split at hg
    · rename_i bs e
      cases hg
      obtain ⟨v, rfl, rv⟩ := pair1 r
      obtain ⟨p, ws, rfl, hp, rp⟩ := o_lst rv
      rw [bls_of e] at rp
      rw [repL_bls rp] at hp
      exact ⟨p, bs, rfl, .inl (.inl hp), k _ H ok (T.refl H) (.bl _)⟩
    · cases hg
  · cases hg
/-! ### isinstance of a built-in class -/
def tyN : D → Option String
  | .non => some "NoneType"
  | .bl _ => some "bool"
  | .int _ => some "int"
  | .str _ => some "str"
  | .lst _ => some "list"
  | .tup _ => some "tuple"
  | .dic _ => some "dict"
  | _ => none
theorem ty_rep {K : PySem.W.Frag} {H : Hp} {ow : Addr → Prop} {v : V} {d : D} {t : String} (h : RepO K H ow v d) (e : tyN d = some t) : TyX K H v (.type t) := by
  cases d with
  | non => cases e; rw [o_non h]; exact .base .non
  | bl b => cases e; rw [o_bl h]; exact .base (.bl b)
  | int b => cases e; rw [o_int h]; exact .base (.int b)
  | str b => cases e; rw [o_str h]; exact .base (.str b)
  | lst b =>
    cases e
    obtain ⟨p, ws, rfl, hp, rp⟩ := o_lst h
    exact .base (.lst hp)
  | tup b =>
    cases e
    obtain ⟨p, ws, rfl, hp, rp⟩ := o_tup h
    exact .base (.tup hp)
  | dic b =>
    cases e
    obtain ⟨p, ws, rfl, hp, rp⟩ := o_dic h
    rcases hp with hp | ⟨o, hp⟩
    · exact .base (.dK hp)
    · exact .fDict hp
  | _ => cases e
def dIsi : List D → Option D
  | [d, .ty n] => match tyN d with
    | some t => (kitB t n).map .bl
    | none => none
  | _ => none
theorem cd_isi : CallD T (rIsi X.K) 0 dIsi := by
  intro H ow vs ds z Q ok tr r hg k
  unfold dIsi at hg
  split at hg
  · rename_i d n
    split at hg
    · rename_i t e
      obtain ⟨v, w, rfl, rv, rw'⟩ := pair2 r
      rw [o_ty rw']
      cases e2 : kitB t n with
      | none => rw [e2] at hg; cases hg
      | some b =>
        rw [e2] at hg
        cases hg
        exact ⟨_, _, _, _, b, rfl, .ty n, ty_rep rv e, kit_ty e2, k _ H ok (T.refl H) (.bl b)⟩
    · cases hg
  · cases hg
end
end Dz
namespace Dz
open PySem PySem.Spec PyProof.Rows L2 Evl Bf
/-! ### slices -/
abbrev DO := Ro → (Option Int → Prop) → XQ → Prop
def oNone : DO := fun _ A _ => A none
def oSome (φ : DX) : DO := fun ρ A Ax => φ ρ (fun x => ∃ i, x = .int i ∧ A (some i)) Ax
def poOf {K : PySem.W.Frag} (T : Th K) (W : WX) (O : List Nat) (φ : DO) : TO := fun σ H Q => ∃ ρ ow0 fr A Ax, T.Ok H ∧ ER K H ow0 fr O σ ρ ∧ φ ρ A Ax ∧ (∀ d G, A d → T.Ok G → T.Gr H G → Q d G) ∧ XOk T W H (owOf ow0 O σ) σ Ax
def cut {α : Type} (xs : List α) (lo hi : Option Int) : List α := (xs.drop (HT.sIx xs.length 0 lo)).take (HT.sIx xs.length xs.length hi - HT.sIx xs.length 0 lo)
def dSl : D → Option Int → Option Int → Option D
  | .lst xs, lo, hi => some (.lst (cut xs lo hi))
  | .tup xs, lo, hi => some (.tup (cut xs lo hi))
  | .str z, lo, hi => if z.length ≤ big then some (.str (cutS z lo hi)) else none
  | _, _, _ => none
def xSl (φ : DX) (φl φh : DO) : DX := fun ρ A Ax => φ ρ (fun x => φl ρ (fun l => φh ρ (fun h => ∃ z, dSl x l h = some z ∧ A z) Ax) Ax) Ax
section
variable {X : Cx} {T : Th X.K} {W : WX} {O : List Nat} {e o i a b : Expr} {es : List Expr} {φ φa φb : DX} {φs : DA} {φl φh : DO} {pos p2 p : Pos}
theorem bp_none : PO X none (poOf T W O oNone) := ⟨fun pins s σ H Q I ⟨ρ, ow0, fr, A, Ax, ok, er, q, k, x⟩ => po_none.run pins s σ H Q I (k none H q ok (T.refl H))⟩
theorem rep_int {K : PySem.W.Frag} {H : Hp} {ow : Addr → Prop} {v : V} {i : Int} (h : Rep K H ow v (.int i)) : v = .int i := by cases h; rfl
theorem bp_some (h : PE X e (eOf T W O φ)) : PO X (some e) (poOf T W O (oSome φ)) := ⟨fun pins s σ H Q I ⟨ρ, ow0, fr, A, Ax, ok, er, q, k, x⟩ => (po_some h).run pins s σ H Q I
  ⟨ρ, ow0, fr, _, Ax, ok, er, q, fun d v G ⟨i, e1, qi⟩ okG gG rv => by subst e1; exact ⟨i, rep_int rv, k _ G qi okG gG⟩, x⟩⟩
theorem cut_repL {K : PySem.W.Frag} {H : Hp} {ow : Addr → Prop} {vs : List V} {ds : List D} {lo hi : Option Int} (r : RepL K H ow vs ds) : RepL K H ow (cutV vs lo hi) (cut ds lo hi) := by
  unfold cutV cut
  rw [r.length]
  exact (r.drop _).take _
theorem be_slice {lo hi : Option Expr} (he : PE X e (eoOf T W O φ)) (hl : PO X lo (poOf T W O φl)) (hu : PO X hi (poOf T W O φh)) : PE X (.Subscript e (.Slice lo hi none p2) pos) (eOf T W O (xSl φ φl φh)) := by
  refine peI (pe_slice (SlR.or sl_list (SlR.or sl_tupA sl_str)) he hl hu) fun σ H Q ⟨ρ, ow0, fr, A, Ax, ok, er, q, k, x⟩ => ?_
  refine ⟨ρ, ow0, fr, _, Ax, ok, er, q, fun d v G qd okG gG rv => ?_, x⟩
  have er1 := er.gr T gG
  refine ⟨ρ, ow0, fr, _, Ax, okG, er1, qd, fun l J ql okJ gJ => ?_, x.gr gG⟩
  have er2 := er1.gr T gJ
  refine ⟨ρ, ow0, fr, _, Ax, okJ, er2, ql, fun h L ⟨z, ez, qz⟩ okL gL => ?_, x.gr (T.trans gG gJ)⟩
  have rv2 := (rv.gr T gJ).gr T gL
  have g3 := T.trans gG (T.trans gJ gL)
  have tr := (er2.gr T gL).otrk
  unfold dSl at ez
  split at ez
  · cases ez
    obtain ⟨p, ws, rfl, hp, rp⟩ := o_lst rv2
    refine .inl ⟨p, ws, rfl, .inl (.inl hp), fun y hy => ?_⟩
    obtain ⟨h1, h2, h3⟩ := new_lst okL tr hy (cut_repL (lo := l) (hi := h) rp)
    exact k _ _ _ qz h1 (T.trans g3 h2) h3
  · cases ez
    obtain ⟨p, ws, rfl, hp, rp⟩ := o_tup rv2
    refine .inr (.inl ⟨p, ws, rfl, SqH hp, fun hw => ?_, fun _ y hy => ?_⟩)
    · have e1 : cutV ws l h = ws := by
        unfold cutV
        rw [hw.1, hw.2, List.drop_zero, Nat.sub_zero, List.take_length]
      have r2 := cut_repL (lo := l) (hi := h) rp
      rw [e1] at r2
      exact k _ _ L qz okL g3 (.tup hp r2)
    · obtain ⟨h1, h2, h3⟩ := new_tup okL tr hy (cut_repL (lo := l) (hi := h) rp)
      exact k _ _ _ qz h1 (T.trans g3 h2) h3
  · split at ez
    · rename_i hl
      cases ez
      rw [o_str rv2]
      exact .inr (.inr ⟨_, rfl, big_sz hl, k _ _ L qz okL g3 (.str _)⟩)
    · cases ez
  · cases ez
/-! ### dicts -/
def dKey : D → Option Key
  | .int i => some (Sum.inl i)
  | .str s => some (Sum.inr s)
  | _ => none
def dVal (kvs : List (Key × D)) (k : Key) : Option D := (kvs.find? fun kv => decide (kv.1 = k)).map (·.2)
def putD (kvs : List (Key × D)) (k : Key) (v : D) : List (Key × D) := if (kvs.any fun kv => decide (kv.1 = k)) = true then kvs.map (fun kv => if kv.1 = k then (kv.1, v) else kv) else kvs ++ [(k, v)]
theorem key_rep {K : PySem.W.Frag} {H : Hp} {ow : Addr → Prop} {v : V} {d : D} {k : Key} (h : RepO K H ow v d) (e : dKey d = some k) : v = kV k := by
  cases d with
  | int i => cases e; exact o_int h
  | str i => cases e; exact o_str h
  | _ => cases e
theorem val_rep {K : PySem.W.Frag} {H : Hp} {ow : Addr → Prop} (k : Key) : ∀ {vs : List (Key × V)} {ds : List (Key × D)}, RepK K H ow vs ds → (∃ v d, valV vs k = some v ∧ dVal ds k = some d ∧ Rep K H ow v d) ∨ (valV vs k = none ∧ dVal ds k = none)
  | _, _, .nil => .inr ⟨rfl, rfl⟩
  | _, _, .cons (k := k') r t => by
    unfold valV dVal
    rw [List.find?_cons, List.find?_cons]
    by_cases c : k' = k
    · rw [decide_eq_true c]
      exact .inl ⟨_, _, rfl, rfl, r⟩
    · rw [decide_eq_false c]
      exact val_rep k t
def xDGet (φd φk : DX) : DX := fun ρ A Ax => φd ρ (fun x => φk ρ (fun y => ∃ kvs k z, x = .dic kvs ∧ dKey y = some k ∧ dVal kvs k = some z ∧ A z) Ax) Ax
def xDIn (neg : Bool) (φk φd : DX) : DX := fun ρ A Ax => φk ρ (fun y => φd ρ (fun x => ∃ kvs k, x = .dic kvs ∧ dKey y = some k ∧ A (.bl (neg != (dVal kvs k).isSome))) Ax) Ax
theorem dget_rd {H : Hp} {d : Addr} {kvs : List (Key × V)} {k : Key} (h : Rd H d (.dK kvs)) : DGet H d (kV k) (valV kvs k) := .inl ⟨kvs, k, h, rfl, rfl⟩
theorem be_dget (hu : X.A.units + 1 < cLine) (ho : PE X o (eoOf T W O φa)) (hi : PE X i (eOf T W O φb)) (hs : NoSl i) : PE X (.Subscript o i pos) (eOf T W O (xDGet φa φb)) := by
  refine peI (pe_dget hu ho hi hs) fun σ H Q ⟨ρ, ow0, fr, A, Ax, ok, er, q, k, x⟩ => ⟨ρ, ow0, fr, _, Ax, ok, er, q, fun d v G qd okG gG rv => ?_, x⟩
  refine ⟨ρ, ow0, fr, _, Ax, okG, er.gr T gG, qd, fun d' v' J ⟨kvs, kk, z, e1, e2, e3, qz⟩ okJ gJ rv' => ?_, x.gr gG⟩
  subst e1
  obtain ⟨p, ws, rfl, hp, rp⟩ := o_dic (rv.gr T gJ)
  rw [key_rep rv'.o e2]
  rcases val_rep kk rp with ⟨w, d2, h1, h2, h3⟩ | ⟨_, h2⟩
  · rw [e3] at h2
    cases h2
    exact ⟨p, w, rfl, by rw [← h1]; exact dget_rd hp, k _ _ J qz okJ (T.trans gG gJ) h3⟩
  · rw [e3] at h2; cases h2
theorem din_aux (neg : Bool) {σ : L2.St} {H : Hp} {Q : VK} (h : eOf T W O (xDIn neg φa φb) σ H Q) : eOf T W O φa σ H fun y H1 => eoOf T W O φb σ H1 fun x H2 => ∃ a o, x = .ref a ∧ DGet H2 a y o ∧ Q (.bl (neg != o.isSome)) H2 := by
  obtain ⟨ρ, ow0, fr, A, Ax, ok, er, q, k, x⟩ := h
  refine ⟨ρ, ow0, fr, _, Ax, ok, er, q, fun d v G qd okG gG rv => ?_, x⟩
  refine ⟨ρ, ow0, fr, _, Ax, okG, er.gr T gG, qd, fun d' v' J ⟨kvs, kk, e1, e2, qz⟩ okJ gJ rv' => ?_, x.gr gG⟩
  subst e1
  obtain ⟨p, ws, rfl, hp, rp⟩ := o_dic rv'
  rw [key_rep rv.o e2]
  refine ⟨p, _, rfl, dget_rd hp, ?_⟩
  have e3 : (valV ws kk).isSome = (dVal kvs kk).isSome := by
    rcases val_rep kk rp with ⟨w, d2, h1, h2, h3⟩ | ⟨h1, h2⟩
    · rw [h1, h2]; rfl
    · rw [h1, h2]; rfl
  rw [e3]
  exact k _ _ J qz okJ (T.trans gG gJ) (.bl _)
theorem be_din (hu : X.A.units + 1 < cLine) (hi : PE X i (eOf T W O φa)) (ho : PE X o (eoOf T W O φb)) (h1 : behindInMarks .In o = false := by rfl) : PE X (.Compare i [.In] [o] pos) (eOf T W O (xDIn false φa φb)) :=
  peI (L2.pe_cmp (pc_din hu hi ho) h1) fun σ H Q h => by
    have z := din_aux false h
    simp only [Bool.false_bne] at z
    exact z
theorem be_dnotin (hu : X.A.units + 1 < cLine) (hi : PE X i (eOf T W O φa)) (ho : PE X o (eoOf T W O φb)) (h1 : behindInMarks .NotIn o = false := by rfl) : PE X (.Compare i [.NotIn] [o] pos) (eOf T W O (xDIn true φa φb)) :=
  peI (L2.pe_cmp (pc_dnotin hu hi ho) h1) fun σ H Q h => by
    have z := din_aux true h
    simp only [Bool.true_bne] at z
    exact z
theorem bt_din (hu : X.A.units + 1 < cLine) (hi : PE X i (eOf T W O φa)) (ho : PE X o (eoOf T W O φb)) (h1 : behindInMarks .In o = false := by rfl) : PT X (.Compare i [.In] [o] pos) (tOf T W O (tB' (xDIn false φa φb))) :=
  ptI (L2.pt_cmp (pc_din hu hi ho) h1) fun σ H Q h => by
    have z := din_aux false (b_aux h)
    simp only [Bool.false_bne] at z
    exact z
theorem bt_dnotin (hu : X.A.units + 1 < cLine) (hi : PE X i (eOf T W O φa)) (ho : PE X o (eoOf T W O φb)) (h1 : behindInMarks .NotIn o = false := by rfl) : PT X (.Compare i [.NotIn] [o] pos) (tOf T W O (tB' (xDIn true φa φb))) :=
  ptI (L2.pt_cmp (pc_dnotin hu hi ho) h1) fun σ H Q h => by
    have z := din_aux true (b_aux h)
    simp only [Bool.true_bne] at z
    exact z
end
/-! ### own defs -/
def spOf {K : PySem.W.Frag} (T : Th K) (fz : Nat) (n : Nat) (F : DF) : Sp := fun vs H Q E => vs.length = n ∧ ∃ ds ow A Ax, T.Ok H ∧ (∀ a, ow a → H a ≠ none) ∧ RepL K H ow vs ds ∧ F ds A Ax ∧
  (∀ d v G, A d → T.Ok G → T.Gr H G → PostR K H G ow fz v d → Q v G) ∧ (∀ x d G, Ax x → T.Ok G → T.Gr H G → XRep K G ow d x → E (.ref (He.ga K x.cls)) d G)
def xFn (F : DF) (φs : DA) : DX := fun ρ A Ax => φs ρ (fun ds => F ds A Ax) Ax
theorem fn_up {P : Program} {w : World} {K : PySem.W.Frag} {mg : Str → Option Value} {base : Heap} {k : Nat} {f : Addr} {fd : FuncData} {ps : List Str} {sp : Sp} (F : FnOk P w K mg base CX0 k f fd ps sp) : FnOk P w K mg base (L2.CX P w) k f fd ps sp := by
  refine ⟨F.len, fun A outer s H args us vs Q E hr e0 hb hv hsp => codeAny_mono (F.run A outer s H args us vs Q E hr e0 hb hv hsp) fun r s' h => ?_⟩
  cases r with
  | error e => exact False.elim h
  | ok fl => cases fl <;> exact h
abbrev Fn (P : Program) (w : World) {K : PySem.W.Frag} (T : Th K) (mg : Str → Option Value) (base : Heap) (k : Nat) (x : Str) (ps : List Str) (fz : Nat) (F : DF) : Prop := Cal P w K mg base (L2.CX P w) k x ps (spOf T fz ps.length F)
theorem sp_imp {K : PySem.W.Frag} {T : Th K} {fz : Nat} {n : Nat} {F F' : DF} (h : ∀ ds A Ax, F' ds A Ax → F ds A Ax) {vs : List V} {H : Hp} {Q : VK} {E : XK} (s : spOf T fz n F' vs H Q E) : spOf T fz n F vs H Q E := by
  obtain ⟨hn, ds, ow, A, Ax, h1, h2, h3, h4, h5⟩ := s
  exact ⟨hn, ds, ow, A, Ax, h1, h2, h3, h ds A Ax h4, h5⟩
theorem Fn.to {P : Program} {w : World} {K : PySem.W.Frag} {T : Th K} {mg : Str → Option Value} {base : Heap} {k : Nat} {x : Str} {ps : List Str} {fz : Nat} {F F' : DF} (C : Fn P w T mg base k x ps fz F) (h : ∀ ds A Ax, F' ds A Ax → F ds A Ax) : Fn P w T mg base k x ps fz F' :=
  Cal.imp C fun vs H Q E s => sp_imp h s
theorem Fn.up {P : Program} {w : World} {K : PySem.W.Frag} {T : Th K} {mg : Str → Option Value} {base : Heap} {j k : Nat} {x : Str} {ps : List Str} {fz : Nat} {F : DF} (C : Fn P w T mg base j x ps fz F) (h : j ≤ k) : Fn P w T mg base k x ps fz F := Cal.mono C h
section
variable {X : Cx} {T : Th X.K} {W : WX} {O : List Nat} {e : Expr} {es : List Expr} {φs : DA} {pos p : Pos} {k : Nat} {x : Str} {ps : List Str} {fz : Nat} {F : DF}
theorem fn_aux {n : Nat} {σ : L2.St} {H : Hp} {Q : VK} (h : eOf T W O (xFn F φs) σ H Q) : tCallS (spOf T fz n F) (WE W) (aOf T W O n φs) σ H Q := by
  obtain ⟨ρ, ow0, fr, A, Ax, ok, er, q, k, x⟩ := h
  refine ⟨ρ, ow0, fr, _, Ax, ok, er, q, fun ds vs G qs hn okG gG rs => ?_, x⟩
  refine ⟨hn, ds, owOf ow0 O σ, A, Ax, okG, (er.gr T gG).otrk, rs, qs, fun d v J a o g r => ?_, fun y d J a o g r => x y d J a o (T.trans gG g) r⟩
  exact k d v J a o (T.trans gG g) (r.rep (er.gr T gG).otrk)
theorem ff_aux {n : Nat} {σ : L2.St} {H : Hp} {Q : VK} (h : efOf T W O (xFn F φs) σ H Q) : tCallS (spOf T 1 n F) (WE W) (aOf T W O n φs) σ H Q := by
  obtain ⟨ρ, ow0, fr, A, Ax, ok, er, q, k, x⟩ := h
  refine ⟨ρ, ow0, fr, _, Ax, ok, er, q, fun ds vs G qs hn okG gG rs => ?_, x⟩
  refine ⟨hn, ds, owOf ow0 O σ, A, Ax, okG, (er.gr T gG).otrk, rs, qs, fun d v J a o g ⟨p, e1, e2, e3⟩ => ?_, fun y d J a o g r => x y d J a o (T.trans gG g) r⟩
  exact k d v J a o (T.trans gG g) ⟨p, e1, T.back gG e2, e3⟩
theorem be_fn (C : Fn X.prog X.w T X.mg X.base k x ps fz F) (hr : Room k X.A) (tk : Takes X W) (ha : PA X (e :: es) (aOf T W O ps.length φs)) (hg : Gl X x := by rfl)
    (hdb : (x == ("__debug__" : Str)) = false := by decide) (he : starEach (e :: es) X.env = (false, eval e X.env) :: starEach es X.env := by rfl) (hpl : (backTo pos (starEach es X.env)).any (·.1) = false := by rfl) :
    PE X (.Call (.Name x p) (e :: es) [] pos) (eOf T W O (xFn F φs)) := peI (pe_calS C hr (fun σ => passAt tk σ) ha hg hdb he hpl) fun _ _ _ h => fn_aux h
theorem bf_fn (C : Fn X.prog X.w T X.mg X.base k x ps 1 F) (hr : Room k X.A) (tk : Takes X W) (ha : PA X (e :: es) (aOf T W O ps.length φs)) (hg : Gl X x := by rfl)
    (hdb : (x == ("__debug__" : Str)) = false := by decide) (he : starEach (e :: es) X.env = (false, eval e X.env) :: starEach es X.env := by rfl) (hpl : (backTo pos (starEach es X.env)).any (·.1) = false := by rfl) :
    PE X (.Call (.Name x p) (e :: es) [] pos) (efOf T W O (xFn F φs)) := peI (pe_calS C hr (fun σ => passAt tk σ) ha hg hdb he hpl) fun _ _ _ h => ff_aux h
end
end Dz
namespace Dz
open PySem PySem.Spec PyProof.Rows L2 Evl Bf
structure DE where
  nx : Ro → Prop
  rt : D → Prop
  bk : Ro → Prop
  ct : Ro → Prop
  ex : Exc → Ro → Prop
abbrev DS := DE → Ro → Prop
abbrev DG := D → Ro → (Ro → Prop) → Prop
/-- the state of a def's run: entered at H0 with the owners owi -/
structure Sr {K : PySem.W.Frag} (T : Th K) (H0 : Hp) (owi ow0 : Addr → Prop) (fr : Fr) (O : List Nat) (σ : L2.St) (H : Hp) (ρ : Ro) : Prop where
  ok : T.Ok H
  gr : T.Gr H0 H
  er : ER K H ow0 fr O σ ρ
  sub : ∀ a, owi a → ow0 a ∧ fr.iw a
  new : ∀ i ∈ O, ∀ a, σ[i]? = some (some (.ref a)) → H0 a = none
  iwH : fr.iw = fun a => H0 a ≠ none
section
variable {K : PySem.W.Frag} (T : Th K) (W : WX) (fz : Nat)
structure EOk (H0 : Hp) (owi : Addr → Prop) (fr : Fr) (On Ol : List Nat) (E : DE) (M : Ends) : Prop where
  nx : ∀ σ H ρ ow0, Sr T H0 owi ow0 fr On σ H ρ → E.nx ρ → M.nx σ H
  rt : ∀ v d G, T.Ok G → T.Gr H0 G → PostR K H0 G owi fz v d → E.rt d → M.rt v G
  bk : ∀ σ H ρ ow0, Sr T H0 owi ow0 fr Ol σ H ρ → E.bk ρ → M.bk σ H
  ct : ∀ σ H ρ ow0, Sr T H0 owi ow0 fr Ol σ H ρ → E.ct ρ → M.ct σ H
  ex : ∀ x d σ H ρ ow0, Sr T H0 owi ow0 fr [] σ H ρ → XRep K H (owOf ow0 [] σ) d x → E.ex x ρ → W (.ref (He.ga K x.cls)) d σ H
def sOf (O On Ol : List Nat) (φ : DS) : TS := fun M σ H => ∃ ρ H0 owi ow0 fr E, Sr T H0 owi ow0 fr O σ H ρ ∧ (∀ a, owi a → H0 a ≠ none) ∧ EOk T W fz H0 owi fr On Ol E M ∧ φ E ρ
end
section
variable {K : PySem.W.Frag} {T : Th K} {W : WX} {fz : Nat} {H0 H G : Hp} {owi ow0 : Addr → Prop} {fr fr' : Fr} {O O2 On Ol : List Nat} {σ : L2.St} {ρ : Ro} {E : DE} {M : Ends}
theorem ow_sub {ow1 : Addr → Prop} (hw : ∀ a, ow1 a → ow0 a) (h : ∀ i ∈ O2, i < dp → i ∈ O) (hl : σ.length ≤ dp) : ∀ a, owOf ow1 O2 σ a → owOf ow0 O σ a := fun a z => z.imp (hw a) fun ⟨i, hi, e⟩ => ⟨i, h i hi (by have := (List.getElem?_eq_some_iff.mp e).1; omega), e⟩
/-- what may be given away: all but that a tree of one's own may stay known as new -/
def wkn (O O2 : List Nat) : Prop := ∀ c ∈ O2, c ∈ O ∨ ∃ i, c = i + dq ∧ i < dp ∧ i + dp ∈ O ∧ i + dp ∉ O2
theorem wkn_lo (h : wkn O O2) : ∀ i ∈ O2, i < dp → i ∈ O := fun i hi l => (h i hi).elim id fun ⟨j, e, _⟩ => absurd l (by rw [e]; unfold dp dq; omega)
theorem wkn_mid (h : wkn O O2) {i : Nat} (l : i < dp) : i + dp ∈ O2 → i + dp ∈ O := fun hi => (h _ hi).elim id fun ⟨j, e, _⟩ => absurd l (by unfold dp dq at *; omega)
def wknB (O O2 : List Nat) : Bool := O2.all fun c => O.contains c || (decide (dq ≤ c ∧ c < dq + dp) && (O.contains (c - dq + dp) && !O2.contains (c - dq + dp)))
theorem wknB_ok (h : wknB O O2 = true) : wkn O O2 := fun c hc => by
  have := List.all_eq_true.mp h c hc
  rcases Bool.or_eq_true_iff.mp this with z | z
  · exact .inl (by simpa using z)
  · obtain ⟨z1, z2⟩ := Bool.and_eq_true_iff.mp z
    have z1 := of_decide_eq_true z1
    obtain ⟨z2, z3⟩ := Bool.and_eq_true_iff.mp z2
    exact .inr ⟨c - dq, by omega, by omega, by simpa using z2, by simpa using z3⟩
/-- what was one's own is given away -/
theorem ER.weak (e : ER K H ow0 fr O σ ρ) (h : wkn O O2) : ∃ ow1 : Addr → Prop, (∀ a, ow1 a → ow0 a) ∧ (∀ a, ow0 a → fr.iw a → ow1 a) ∧ ER K H ow1 fr O2 σ ρ := by
  obtain ⟨rg, hd⟩ := e.dep
  have sb : ∀ a, (ow0 a ∧ (fr.iw a ∨ (rg a < dp ∧ rg a + dp ∈ O2))) → ow0 a := fun a z => z.1
  have sub1 := ow_sub (σ := σ) sb (wkn_lo h) e.sml
  have m : Mv K H (owOf ow0 O σ) H (owOf (fun a => ow0 a ∧ (fr.iw a ∨ (rg a < dp ∧ rg a + dp ∈ O2))) O2 σ) := Mv.less sub1
  have nd : ∀ {i : Nat} {fp : List Addr}, i + dp ∉ O2 → (∀ a ∈ fp, ow0 a ∧ rg a = i ∧ ¬ fr.iw a) → ∀ a ∈ fp, ¬ owOf (fun a => ow0 a ∧ (fr.iw a ∨ (rg a < dp ∧ rg a + dp ∈ O2))) O2 σ a := fun {i fp} hi2 h5 a ha z => by
    obtain ⟨g1, g2, g3⟩ := h5 a ha
    rcases z with z | ⟨j, hj, z⟩
    · rcases z.2 with z | z
      · exact g3 z
      · exact hi2 (g2 ▸ z.2)
    · obtain ⟨b, _, _, e2, e3, _⟩ := e.own j (wkn_lo h j hj (e.ltS z)) (e.ltS z)
      rw [z] at e2
      cases e2
      exact e3 g1
  refine ⟨_, sb, fun a z1 z2 => ⟨z1, .inl z2⟩, ⟨fun i d hr hi hi2 => ?_, fun i hi l => ?_, fun p hp => (e.frm p hp).mv m, ⟨rg, fun i l hi => ?_⟩, fun i hi => ?_, fun a z => e.trk a z.1, e.len, fun v z h0 => e.slt v z ?_, e.sml⟩⟩
  · by_cases c : i ∈ O
    · obtain ⟨a, d', h1, h2, h3, h4, h5⟩ := e.own i c (e.lt hr)
      rw [hr] at h1
      cases h1
      refine ⟨.ref a, h2, ?_⟩
      have na : ¬ owOf (fun a => ow0 a ∧ (fr.iw a ∨ (rg a < dp ∧ rg a + dp ∈ O2))) O2 σ a := fun z => by
        rcases z with z | ⟨j, hj, z⟩
        · exact h3 z.1
        · exact hi (h5 j (wkn_lo h j hj (e.ltS z)) z ▸ hj)
      cases h4 with
      | lst a b => exact .lst a na (b.mv m)
      | dic a b => exact .dic (.inl a) na (b.mv m)
      | ins a b => exact .ins a na (b.mv m)
      | dit a b c => exact .dit a b na c
    · by_cases c2 : i + dp ∈ O
      · obtain ⟨v, d2, fp, h1, h2, h3, h4, h5⟩ := hd i (e.lt hr) c2
        rw [hr] at h1
        cases h1
        exact ⟨v, h2, h3.rep (fun _ _ => trivial) (nd hi2 h5)⟩
      · obtain ⟨v, h1, h2⟩ := e.val i d hr c c2
        exact ⟨v, h1, h2.mv m⟩
  · obtain ⟨a, d, h1, h2, h3, h4, h5⟩ := e.own i (wkn_lo h i hi l) l
    exact ⟨a, d, h1, h2, fun z => h3 z.1, h4.mv m (fun o z _ => z), fun j hj z => h5 j (wkn_lo h j hj (e.ltS z)) z⟩
  · exact (hd i l (wkn_mid h l hi)).mv (Mv.less fun _ z => z) (fun _ _ _ o z _ => z) fun a z1 z2 z3 => ⟨⟨z1, .inr ⟨z2 ▸ l, z2 ▸ hi⟩⟩, z3⟩
  · rcases h _ hi with hi' | ⟨j, ej, lj, hj, nj⟩
    · obtain ⟨v, d, h1, h2, h3⟩ := e.nwq i hi'
      exact ⟨v, d, h1, h2, h3.mv (Mv.less fun a z => z.imp_left (sub1 a))⟩
    · have : j = i := by omega
      subst this
      obtain ⟨v, d, fp, h1, h2, h3, h4, h5⟩ := hd j lj hj
      refine ⟨v, d, h1, h2, h3.rep (fun _ _ => trivial) fun a ha z => ?_⟩
      rcases z with z | z
      · exact nd (i := j) nj h5 a ha z
      · exact (h5 a ha).2.2 z
  · rcases h0 with h0 | h0 | h0
    · exact .inl (wkn_lo h 0 h0 (by decide))
    · have := wkn_mid h (i := 0) (by decide) (by rw [Nat.zero_add]; exact h0)
      rw [Nat.zero_add] at this
      exact .inr (.inl this)
    · rcases h _ h0 with h0 | ⟨j, ej, lj, hj, nj⟩
      · exact .inr (.inr h0)
      · have : j = 0 := by omega
        subst this
        rw [Nat.zero_add] at hj
        exact .inr (.inl hj)
theorem Sr.weak (s : Sr T H0 owi ow0 fr O σ H ρ) (h : wkn O O2) : ∃ ow1 : Addr → Prop, (∀ a, ow1 a → ow0 a) ∧ Sr T H0 owi ow1 fr O2 σ H ρ := by
  obtain ⟨ow1, h1, h2, h3⟩ := s.er.weak h
  exact ⟨ow1, h1, s.ok, s.gr, h3, fun a z => ⟨h2 a (s.sub a z).1 (s.sub a z).2, (s.sub a z).2⟩, fun i hi a z => s.new i (wkn_lo h i hi (s.er.ltS z)) a z, s.iwH⟩
theorem Sr.go (s : Sr T H0 owi ow0 fr O σ H ρ) (ok : T.Ok G) (g : T.Gr H G) : Sr T H0 owi ow0 fr O σ G ρ := ⟨ok, T.trans s.gr g, s.er.gr T g, s.sub, s.new, s.iwH⟩
theorem Sr.less (s : Sr T H0 owi ow0 fr O σ H ρ) (h1 : ∀ p ∈ fr'.vd, p ∈ fr.vd) (h2 : fr'.iw = fr.iw) (h3 : fr'.p0 = fr.p0) : Sr T H0 owi ow0 fr' O σ H ρ :=
  ⟨s.ok, s.gr, ⟨s.er.val, s.er.own, fun p hp => s.er.frm p (h1 p hp), by rw [h2]; exact s.er.dep, by rw [h2]; exact s.er.nwq, s.er.trk, s.er.len, fun v z => s.er.slt v (h3 ▸ z), s.er.sml⟩, by rw [h2]; exact s.sub, s.new, by rw [h2]; exact s.iwH⟩
/-- what is wished of an exception, from the ends -/
theorem EOk.x (k : EOk T W fz H0 owi fr On Ol E M) (s : Sr T H0 owi ow0 fr O σ H ρ) : XOk T W H (owOf ow0 O σ) σ (fun x => E.ex x ρ) := fun x d G hx ok g r => by
  obtain ⟨ow1, sb, s2⟩ := (s.go ok g).weak (O2 := []) (fun i z => absurd z List.not_mem_nil)
  refine k.ex x d σ G ρ ow1 s2 ?_ hx
  cases d with
  | none => exact r
  | some d =>
    obtain ⟨fvs, h1, h2⟩ := r
    exact ⟨fvs, h1, h2.mv (Mv.less (ow_sub sb (fun i z => absurd z List.not_mem_nil) s.er.sml))⟩
end
/-! ### statements -/
def sNil : DS := fun E ρ => E.nx ρ
def sSeq (φ ψ : DS) : DS := fun E ρ => φ { E with nx := ψ E } ρ
def sExpr (φ : DX) : DS := fun E ρ => φ ρ (fun _ => E.nx ρ) fun x => E.ex x ρ
def sRet (φ : DX) : DS := fun E ρ => φ ρ E.rt fun x => E.ex x ρ
def sSet (i : Nat) (φ : DX) : DS := fun E ρ => φ ρ (fun d => E.nx (ρ.set i (some d))) fun x => E.ex x ρ
def sIf (t : DT) (φ ψ : DS) : DS := fun E ρ => t ρ (fun b => if b = true then φ E ρ else ψ E ρ) fun x => E.ex x ρ
section
variable {X : Cx} {T : Th X.K} {W : WX} {fz : Nat} {O O1 O2 On Ol : List Nat} {st : Stmt} {rest : List Stmt} {φ ψ : DS} {e c : Expr} {φe : DX} {t : DT} {pos : Pos}
theorem ss_nil : PSs X [] (sOf T W fz O O Ol sNil) := pssI pss_nil fun M σ H ⟨ρ, H0, owi, ow0, fr, E, s, _, k, q⟩ => k.nx σ H ρ ow0 s q
theorem ss_cons (h1 : PS X st (sOf T W fz O O1 Ol φ)) (h2 : PSs X rest (sOf T W fz O1 O2 Ol ψ)) : PSs X (st :: rest) (sOf T W fz O O2 Ol (sSeq φ ψ)) :=
  pssI (pss_cons h1 h2) fun M σ H ⟨ρ, H0, owi, ow0, fr, E, s, tr, k, q⟩ => ⟨ρ, H0, owi, ow0, fr, { E with nx := ψ E }, s, tr, ⟨fun σ' H' ρ' ow' s' q' => ⟨ρ', H0, owi, ow', fr, E, s', tr, k, q'⟩, k.rt, k.bk, k.ct, k.ex⟩, q⟩
theorem ss_one (h : PS X st (sOf T W fz O On Ol φ)) : PSs X [st] (sOf T W fz O On Ol φ) := pss_one h
theorem ss_pre (h : PSs X rest (sOf T W fz O2 On Ol φ)) (i : wknB O O2 = true) : PSs X rest (sOf T W fz O On Ol φ) :=
  pssI h fun M σ H ⟨ρ, H0, owi, ow0, fr, E, s, tr, k, q⟩ => have ⟨ow1, _, s1⟩ := s.weak (O2 := O2) (wknB_ok i); ⟨ρ, H0, owi, ow1, fr, E, s1, tr, k, q⟩
theorem s_pre (h : PS X st (sOf T W fz O2 On Ol φ)) (i : wknB O O2 = true) : PS X st (sOf T W fz O On Ol φ) :=
  psI h fun M σ H ⟨ρ, H0, owi, ow0, fr, E, s, tr, k, q⟩ => have ⟨ow1, _, s1⟩ := s.weak (O2 := O2) (wknB_ok i); ⟨ρ, H0, owi, ow1, fr, E, s1, tr, k, q⟩
theorem ss_post (h : PSs X rest (sOf T W fz O O2 Ol φ)) (i : wknB O2 On = true) : PSs X rest (sOf T W fz O On Ol φ) :=
  pssI h fun M σ H ⟨ρ, H0, owi, ow0, fr, E, s, tr, k, q⟩ => ⟨ρ, H0, owi, ow0, fr, E, s, tr, ⟨fun σ' H' ρ' ow' s' q' => have ⟨ow1, _, s1⟩ := s'.weak (O2 := On) (wknB_ok i); k.nx σ' H' ρ' ow1 s1 q', k.rt, k.bk, k.ct, k.ex⟩, q⟩
theorem s_post (h : PS X st (sOf T W fz O O2 Ol φ)) (i : wknB O2 On = true) : PS X st (sOf T W fz O On Ol φ) :=
  psI h fun M σ H ⟨ρ, H0, owi, ow0, fr, E, s, tr, k, q⟩ => ⟨ρ, H0, owi, ow0, fr, E, s, tr, ⟨fun σ' H' ρ' ow' s' q' => have ⟨ow1, _, s1⟩ := s'.weak (O2 := On) (wknB_ok i); k.nx σ' H' ρ' ow1 s1 q', k.rt, k.bk, k.ct, k.ex⟩, q⟩
theorem s_pass : PS X (.Pass pos) (sOf T W fz O O Ol sNil) := psI ps_pass fun M σ H ⟨ρ, H0, owi, ow0, fr, E, s, _, k, q⟩ => k.nx σ H ρ ow0 s q
theorem s_break : PS X (.Break pos) (sOf T W fz Ol On Ol (fun E ρ => E.bk ρ)) := psI ps_break fun M σ H ⟨ρ, H0, owi, ow0, fr, E, s, _, k, q⟩ => k.bk σ H ρ ow0 s q
theorem s_continue : PS X (.Continue pos) (sOf T W fz Ol On Ol (fun E ρ => E.ct ρ)) := psI ps_continue fun M σ H ⟨ρ, H0, owi, ow0, fr, E, s, _, k, q⟩ => k.ct σ H ρ ow0 s q
theorem s_expr (he : PE X e (eOf T W O φe)) (hs : swapsWith e none pos.line X.env = pure false := by rfl) : PS X (.Expr e pos) (sOf T W fz O O Ol (sExpr φe)) :=
  psI (ps_expr he hs) fun M σ H ⟨ρ, H0, owi, ow0, fr, E, s, _, k, q⟩ => ⟨ρ, ow0, fr, _, _, s.ok, s.er, q, fun d v G qd ok g r => k.nx σ G ρ ow0 (s.go ok g) qd, k.x s⟩
/-- return e -/
theorem s_ret (he : PE X e (eOf T W O φe)) : PS X (.Return (some e) pos) (sOf T W 0 O On Ol (sRet φe)) :=
  psI (ps_ret he) fun M σ H ⟨ρ, H0, owi, ow0, fr, E, s, tr, k, q⟩ => ⟨ρ, ow0, fr, _, _, s.ok, s.er, q, fun d v G qd ok g r => k.rt v d G ok (T.trans s.gr g) (r.mv (Mv.less fun a z => .inl (s.sub a z).1)) qd, k.x s⟩
theorem s_retF (he : PE X e (efOf T W O φe)) : PS X (.Return (some e) pos) (sOf T W 1 O On Ol (sRet φe)) :=
  psI (ps_ret he) fun M σ H ⟨ρ, H0, owi, ow0, fr, E, s, tr, k, q⟩ => ⟨ρ, ow0, fr, _, _, s.ok, s.er, q, fun d v G qd ok g ⟨p, e1, e2, e3⟩ => k.rt v d G ok (T.trans s.gr g) ⟨p, e1, T.back s.gr e2, e3.mv (Mv.less fun a z => z.imp_left fun z => .inl (s.sub a z).1) fun o z _ => z⟩ qd, k.x s⟩
/-- return of what is one's own -/
theorem s_retO {i : Nat} {x : Str} {pos' : Pos} (hN : X.N[i]? = some x) (hv : Vis X.env.scope x) (hO : O.contains i = true) (hd : (x == ("__debug__" : Str)) = false := by decide) (hcd : (x == ("__classdict__" : Str)) = false := by decide) :
    PS X (.Return (some (.Name x pos')) pos) (sOf T W 1 O On Ol (sRet (xVar i))) :=
  psI (ps_ret (pe_var hN hv hd hcd)) fun M σ H ⟨ρ, H0, owi, ow0, fr, E, s, tr, k, ⟨d, h1, h2⟩⟩ => by
    have hi : i ∈ O := by simpa using hO
    obtain ⟨a, d', e1, e2, na, r, _⟩ := s.er.own i hi (s.er.lt h1)
    rw [h1] at e1
    cases e1
    refine ⟨.ref a, e2, k.rt _ d H s.ok s.gr ⟨a, rfl, s.new i hi a e2, r.mv (Mv.less fun b z => ?_) fun o z _ => z⟩ h2⟩
    rcases z with z | z
    · exact .inl (s.sub b z).1
    · exact .inr ⟨i, hi, by rw [z]; exact e2⟩
theorem s_retN : PS X (.Return none pos) (sOf T W 0 O On Ol (sRet (xC .non))) := psI ps_retN fun M σ H ⟨ρ, H0, owi, ow0, fr, E, s, tr, k, q⟩ => k.rt .non .non H s.ok s.gr .non q
theorem s_if {a b : List Stmt} (hc : PT X c (tOf T W O t)) (ha : PSs X a (sOf T W fz O On Ol φ)) (hb : PSs X b (sOf T W fz O On Ol ψ)) : PS X (.If c a b pos) (sOf T W fz O On Ol (sIf t φ ψ)) :=
  psI (ps_if hc ha hb) fun M σ H ⟨ρ, H0, owi, ow0, fr, E, s, tr, k, q⟩ => ⟨ρ, ow0, fr, _, _, s.ok, s.er, q, fun b G qb ok g => by
    cases b with
    | true => exact ⟨ρ, H0, owi, ow0, fr, E, s.go ok g, tr, k, qb⟩
    | false => exact ⟨ρ, H0, owi, ow0, fr, E, s.go ok g, tr, k, qb⟩, k.x s⟩
/-! ### x = e -/
theorem ow_set {ow0 : Addr → Prop} {σ : L2.St} {i : Nat} {v : Option V} (h : i ∉ O) : owOf ow0 O (σ.set i v) = owOf ow0 O σ := by
  funext a
  unfold owOf
  refine propext (or_congr_right ⟨fun ⟨j, hj, e⟩ => ⟨j, hj, ?_⟩, fun ⟨j, hj, e⟩ => ⟨j, hj, ?_⟩⟩)
  · rw [List.getElem?_set_ne (fun z : i = j => h (z ▸ hj))] at e; exact e
  · rw [List.getElem?_set_ne (fun z : i = j => h (z ▸ hj))]; exact e
theorem ER.set {K : PySem.W.Frag} {H : Hp} {ow0 : Addr → Prop} {fr : Fr} {σ : L2.St} {ρ : Ro} {i : Nat} {v : V} {d : D} (e : ER K H ow0 fr O σ ρ) (h : fre O i = true) (r : Rep K H (owOf ow0 O σ) v d) : ER K H ow0 fr O (σ.set i (some v)) (ρ.set i (some d)) where
  val := fun j d' hd hj hj2 => by
    rw [ow_set (fre_of h).1]
    by_cases c : i = j
    · subst c
      have hl : i < ρ.length := by
        have := (List.getElem?_eq_some_iff.mp hd).1
        simpa using this
      rw [List.getElem?_set_self hl] at hd
      cases hd
      exact ⟨v, List.getElem?_set_self (by rw [← e.len]; exact hl), r⟩
    · rw [List.getElem?_set_ne c] at hd ⊢
      exact e.val j d' hd hj hj2
  own := fun j hj l => by
    have h' := (fre_of h).1
    have c : i ≠ j := fun z => h' (z ▸ hj)
    obtain ⟨a, d', h1, h2, h3, h4, h5⟩ := e.own j hj l
    rw [ow_set h', List.getElem?_set_ne c, List.getElem?_set_ne c]
    refine ⟨a, d', h1, h2, h3, h4, fun m hm z => h5 m hm ?_⟩
    rw [List.getElem?_set_ne (fun z : i = m => h' (z ▸ hm))] at z
    exact z
  frm := fun p hp => by rw [ow_set (fre_of h).1]; exact e.frm p hp
  dep := by
    obtain ⟨rg, hd⟩ := e.dep
    refine ⟨rg, fun j l hj => ?_⟩
    have c : i ≠ j := fun z => (fre_of h).2 (z ▸ hj)
    rw [List.getElem?_set_ne c, List.getElem?_set_ne c]
    exact hd j l hj
  nwq := fun j hj => by
    have c : i ≠ j := fun z => fre_q h (z ▸ hj)
    rw [ow_set (fre_of h).1, List.getElem?_set_ne c, List.getElem?_set_ne c]
    exact e.nwq j hj
  trk := e.trk
  len := by rw [List.length_set, List.length_set]; exact e.len
  slt := fun w z h0 => by
    rw [List.getElem?_set_ne (fun q : i = 0 => h0.elim (fun h0 => (fre_of h).1 (q ▸ h0)) fun h0 => h0.elim (fun h0 => (fre_of h).2 (by rw [q, Nat.zero_add]; exact h0)) fun h0 => fre_q h (by rw [q, Nat.zero_add]; exact h0))]
    exact e.slt w z h0
  sml := by rw [List.length_set]; exact e.sml
theorem Sr.set {K : PySem.W.Frag} {T : Th K} {H0 H : Hp} {owi ow0 : Addr → Prop} {fr : Fr} {σ : L2.St} {ρ : Ro} {i : Nat} {v : V} {d : D} (s : Sr T H0 owi ow0 fr O σ H ρ) (h : fre O i = true) (r : Rep K H (owOf ow0 O σ) v d) : Sr T H0 owi ow0 fr O (σ.set i (some v)) H (ρ.set i (some d)) :=
  ⟨s.ok, s.gr, s.er.set h r, s.sub, fun j hj a z => s.new j hj a (by rw [List.getElem?_set_ne (fun z : i = j => (fre_of h).1 (z ▸ hj))] at z; exact z), s.iwH⟩
theorem set_aux {i : Nat} (hO : fre O i = true) (M : Ends) (σ : L2.St) (H : Hp) (h : sOf T W fz O O Ol (sSet i φe) M σ H) : tAsg (eOf T W O φe) (gName i) M σ H := by
  obtain ⟨ρ, H0, owi, ow0, fr, E, s, _, k, q⟩ := h
  exact ⟨ρ, ow0, fr, _, _, s.ok, s.er, q, fun d v G qd ok g r => k.nx _ G _ ow0 ((s.go ok g).set hO r) qd, k.x s⟩
theorem s_set {i : Nat} {x : Str} {pos' : Pos} (hN : X.N.Nodup) (hi : X.N[i]? = some x) (hx : Loc X.env.scope x) (hO : fre O i = true) (he : PE X e (eOf T W O φe)) (hs : swapsWith e (some (.Name x pos')) pos.line X.env = pure false := by rfl)
    (hf : X.fn x = true ∨ X.env.scope.names.lookup x = some .local := by first | exact .inl rfl | exact .inr rfl | assumption) : PS X (.Assign [.Name x pos'] e pos) (sOf T W fz O O Ol (sSet i φe)) :=
  psI (ps_set hN hi hx he hs hf) fun M σ H h => set_aux hO M σ H h
/-! ### x = something new of one's own -/
theorem ow_own {ow0 : Addr → Prop} {σ : L2.St} {i : Nat} {p : Addr} (h : i ∉ O) (hl : i < σ.length) : ∀ a, owOf ow0 (i :: O) (σ.set i (some (.ref p))) a ↔ (owOf ow0 O σ a ∨ a = p) := fun a => by
  constructor
  · rintro (z | ⟨j, hj, e⟩)
    · exact .inl (.inl z)
    · rcases List.mem_cons.mp hj with rfl | hj
      · rw [List.getElem?_set_self hl] at e
        cases e
        exact .inr rfl
      · rw [List.getElem?_set_ne (fun z : i = j => h (z ▸ hj))] at e
        exact .inl (.inr ⟨j, hj, e⟩)
  · rintro ((z | ⟨j, hj, e⟩) | rfl)
    · exact .inl z
    · exact .inr ⟨j, List.mem_cons_of_mem _ hj, by rw [List.getElem?_set_ne (fun z : i = j => h (z ▸ hj))]; exact e⟩
    · exact .inr ⟨i, List.mem_cons_self, List.getElem?_set_self hl⟩
theorem Sr.own {K : PySem.W.Frag} {T : Th K} {H0 H G : Hp} {owi ow0 : Addr → Prop} {fr : Fr} {σ : L2.St} {ρ : Ro} {i : Nat} {p : Addr} {d : D} (s : Sr T H0 owi ow0 fr O σ H ρ) (hO : fre O i = true) (i0 : i ≠ 0) (hl : i < ρ.length) (ok : T.Ok G) (g : T.Gr H G) (hp : H p = none)
    (r : OwnR K G (fun a => owOf ow0 O σ a ∨ a = p) p d) : Sr T H0 owi ow0 fr (i :: O) (σ.set i (some (.ref p))) G (ρ.set i (some d)) := by
  have h := (fre_of hO).1
  have hl' : i < σ.length := by rw [← s.er.len]; exact hl
  have hdp : i < dp := by have := s.er.sml; omega
  have eo := ow_own (O := O) (ow0 := ow0) (σ := σ) (p := p) h hl'
  have m0 : Mv K G (fun a => owOf ow0 O σ a ∨ a = p) G (owOf ow0 (i :: O) (σ.set i (some (.ref p)))) := Mv.less fun a z => (eo a).mp z
  have m1 : Mv K H (owOf ow0 O σ) H (fun a => owOf ow0 O σ a ∨ a = p) := more_own hp
  have np : ∀ {a : Addr}, H a ≠ none → a ≠ p := fun z e => z (e ▸ hp)
  have di : ∀ {j : Nat}, j + dp ∈ i :: O → j + dp ∈ O := fun {j} z => (List.mem_cons.mp z).elim (fun e => absurd e (by omega)) id
  refine ⟨ok, T.trans s.gr g, ⟨fun j d' hd hj hj2 => ?_, fun j hj l => ?_, fun q hq => (((s.er.frm q hq).mv m1).gr T g).mv m0, ?_, fun j hj => ?_, fun a ha => T.forth g (s.er.trk a ha), by rw [List.length_set, List.length_set]; exact s.er.len, fun v z h0 => ?_, by rw [List.length_set]; exact s.er.sml⟩, s.sub, fun j hj a z => ?_, s.iwH⟩
  · have c : i ≠ j := fun z => hj (z ▸ List.mem_cons_self)
    rw [List.getElem?_set_ne c] at hd ⊢
    obtain ⟨v, h1, h2⟩ := s.er.val j d' hd (fun z => hj (List.mem_cons_of_mem _ z)) fun z => hj2 (List.mem_cons_of_mem _ z)
    exact ⟨v, h1, ((h2.mv m1).gr T g).mv m0⟩
  · by_cases c : i = j
    · subst c
      rw [List.getElem?_set_self hl, List.getElem?_set_self hl']
      refine ⟨p, d, rfl, rfl, fun z => s.er.trk p z hp, r.mv m0 fun o z _ => z, fun m hm z => ?_⟩
      rcases List.mem_cons.mp hm with e | hm
      · exact e
      · rw [List.getElem?_set_ne (fun z : i = m => h (z ▸ hm))] at z
        exact absurd hp (s.er.otrk p (.inr ⟨m, hm, z⟩))
    · rcases List.mem_cons.mp hj with e | hj
      · exact absurd e.symm c
      · obtain ⟨a, d', h1, h2, h3, h4, h5⟩ := s.er.own j hj l
        rw [List.getElem?_set_ne c, List.getElem?_set_ne c]
        refine ⟨a, d', h1, h2, h3, ((h4.mv m1 fun o z _ => z).mv (Mv.gr T g) fun o z n => T.keep g z n).mv m0 fun o z _ => z, fun m hm z => ?_⟩
        rcases List.mem_cons.mp hm with e | hm
        · subst e
          rw [List.getElem?_set_self hl'] at z
          cases z
          exact absurd rfl (np h4.trk)
        · rw [List.getElem?_set_ne (fun z : i = m => h (z ▸ hm))] at z
          exact h5 m hm z
  · obtain ⟨rg, hd⟩ := s.er.dep
    refine ⟨rg, fun j l hj => ?_⟩
    have c : i ≠ j := fun z => (fre_of hO).2 (z ▸ di hj)
    rw [List.getElem?_set_ne c, List.getElem?_set_ne c]
    exact (hd j l (di hj)).mv (Mv.gr T g) (fun a _ _ o z n => T.keep g z n) fun a z _ n => ⟨z, n⟩
  · have hj' : j + dq ∈ O := (List.mem_cons.mp hj).elim (fun e => absurd e (by unfold dp dq at *; omega)) id
    have c : i ≠ j := fun z => fre_q hO (z ▸ hj')
    obtain ⟨v, d', h1, h2, h3⟩ := s.er.nwq j hj'
    rw [List.getElem?_set_ne c, List.getElem?_set_ne c]
    refine ⟨v, d', h1, h2, (h3.mv (Mv.more fun a z => ?_)).gr T g⟩
    rcases z with z | z
    · rcases (eo a).mp z with z | z
      · exact .inl (.inl z)
      · exact .inr (z ▸ hp)
    · exact .inl (.inr z)
  · rw [List.getElem?_set_ne i0]
    refine s.er.slt v z (h0.imp (fun h0 => (List.mem_cons.mp h0).elim (fun q => absurd q.symm i0) id) fun h0 => h0.imp (fun h0 => (List.mem_cons.mp h0).elim (fun q => absurd q (by omega)) id) fun h0 => (List.mem_cons.mp h0).elim (fun q => absurd q (by unfold dp dq at *; omega)) id)
  · rcases List.mem_cons.mp hj with rfl | hj
    · rw [List.getElem?_set_self hl'] at z
      cases z
      exact T.back s.gr hp
    · rw [List.getElem?_set_ne (fun z : i = j => h (z ▸ hj))] at z
      exact s.new j hj a z
def sSetO (i : Nat) (φ : DX) : DS := fun E ρ => i < ρ.length ∧ φ ρ (fun d => E.nx (ρ.set i (some d))) fun x => E.ex x ρ
theorem setO_aux {i : Nat} (hO : fre O i = true) (i0 : i ≠ 0) (M : Ends) (σ : L2.St) (H : Hp) (h : sOf T W fz O (i :: O) Ol (sSetO i φe) M σ H) : tAsg (efOf T W O φe) (gName i) M σ H := by
  obtain ⟨ρ, H0, owi, ow0, fr, E, s, _, k, hl, q⟩ := h
  exact ⟨ρ, ow0, fr, _, _, s.ok, s.er, q, fun d v G qd ok g ⟨p, e1, e2, e3⟩ => by
    subst e1
    exact k.nx _ G _ ow0 (s.own hO i0 hl ok g e2 e3) qd, k.x s⟩
theorem s_setO {i : Nat} {x : Str} {pos' : Pos} (hN : X.N.Nodup) (hi : X.N[i]? = some x) (hx : Loc X.env.scope x) (hO : fre O i = true) (he : PE X e (efOf T W O φe)) (i0 : i ≠ 0 := by decide) (hs : swapsWith e (some (.Name x pos')) pos.line X.env = pure false := by rfl)
    (hf : X.fn x = true ∨ X.env.scope.names.lookup x = some .local := by first | exact .inl rfl | exact .inr rfl | assumption) : PS X (.Assign [.Name x pos'] e pos) (sOf T W fz O (i :: O) Ol (sSetO i φe)) :=
  psI (ps_set hN hi hx he hs hf) fun M σ H h => setO_aux hO i0 M σ H h
end
end Dz
/-! Bf: exceptions with two fields. -/
namespace Bf
open PySem PySem.Spec PyProof.Rows L2
def spInit2 (K : PySem.W.Frag) (f1 f2 : Str) : Sp := fun vs H Q _ => ∃ (a C : Addr) (y1 y2 : V), vs = [.ref a, y1, y2] ∧ H a = some (exo a C none) ∧ OexC K C ∧ PySem.W.findIn K (.ref C) f1 = some none ∧ PySem.W.findIn K (.ref C) f2 = some none ∧
  ∀ dx, H dx = none → dx ≠ a → Q .non (upd (upd H dx (exd dx [(f2, y2), (f1, y1)])) a (exo a C (some dx)))
structure ExT2 (P : Program) (w : World) (K : PySem.W.Frag) (mg : Str → Option Value) (base : Heap) (x f1 f2 : Str) (C : Addr) : Prop where
  g : mg x = some (.ref C)
  o : OexC K C
  xf : XfC K C
  no : PySem.W.findIn K (.ref C) f1 = some none
  no2 : PySem.W.findIn K (.ref C) f2 = some none
  i : ∃ (f : Addr) (fd : FuncData) (ps : List Str), PySem.W.findIn K (.ref C) "__init__" = some (some (.ref f)) ∧ PySem.W.typeIn K (.ref f) = some (.type "function") ∧ FnOk P w K mg base CX0 1 f fd ps (spInit2 K f1 f2) ∧ Binds K fd ps []
section
variable {X : Cx} {x f1 f2 : Str} {C : Addr} {W : WX} {e e' : Expr} {ta : TA} {p pos pos2 : Pos}
def tRx2 (C : Addr) (f1 f2 : Str) (W : WX) (ta : TA) : TS := fun _ σ H => ta σ H fun vs H1 => ∃ v1 v2, vs = [v1, v2] ∧ ∀ d, H1 d = none → W (.ref C) (some d) σ (upd H1 d (.xd [(f2, v2), (f1, v1)]))
theorem ps_rx2 (T : ExT2 X.prog X.w X.K X.mg X.base x f1 f2 C) (hc : X.calm = true) (tk : Takes X W) (hr : Room 2 X.A) (ha : PA X [e, e'] ta) (hg : Gl X x := by rfl)
    (hdb : (x == ("__debug__" : Str)) = false := by decide) (he : starEach (e :: [e']) X.env = (false, eval e X.env) :: starEach [e'] X.env := by rfl) (hpl : (backTo pos (starEach [e'] X.env)).any (·.1) = false := by rfl) :
    PS X (.Raise (some (.Call (.Name x p) [e, e'] [] pos)) none pos2) (tRx2 C f1 f2 W ta) := by
  obtain ⟨f, fd, ps, h1, h2, F, b⟩ := T.i
  have ha2 : PA X [e, e'] (fun σ H Q => ∃ G : List V → Hp → Prop, ta σ H G ∧ ∀ vs H1, G vs H1 → Q vs H1) :=
    ⟨fun pos pins s σ H Q I ⟨G, h, m⟩ => thn (ha.run pos pins s σ H G I h) fun us s1 ⟨vs, H1, I1, r1, q⟩ => ⟨vs, H1, I1, r1, m _ _ q⟩⟩
  have z := ps_raise (pos := pos2) hc tk (pmk_oex (p := p) (pos := pos) T.o h1 h2 F hr b .nil pass0 hg T.g ha2 hdb he hpl)
  refine ⟨fun pins s σ H D I h => z.run pins s σ H D I ⟨_, h, ?_⟩⟩
  have key : ∀ vs H1, (∃ v1 v2, vs = [v1, v2] ∧ ∀ d, H1 d = none → W (.ref C) (some d) σ (upd H1 d (.xd [(f2, v2), (f1, v1)]))) →
      vs.length ≤ 1000 ∧ ∀ a, H1 a = none → spInit2 X.K f1 f2 (.ref a :: (vs ++ [])) (upd H1 a (exo a C none)) (fun v H2 => v = .non ∧ ∃ (d : Addr) (fs : List (Str × V)), H2 a = some (exo a C (some d)) ∧ H2 d = some (exd d fs) ∧ H1 d = none ∧ (fun cls d H' => W cls d σ H') (.ref C) (some d) (upd (del H2 a) d (.xd fs))) (fun _ _ _ => False) := by
    rintro vs H1 ⟨v1, v2, rfl, q⟩
    refine ⟨by show 2 ≤ 1000; decide, fun a na => ⟨a, C, v1, v2, rfl, upd_same, T.o, T.no, T.no2, fun dx ndx ne => ⟨rfl, dx, [(f2, v2), (f1, v1)], upd_same, ?_, ?_, ?_⟩⟩⟩
    · rw [upd_ne ne, upd_same]
    · rw [upd_ne ne] at ndx
      exact ndx
    · rw [upd_ne ne] at ndx
      have e1 : upd (del (upd (upd (upd H1 a (exo a C none)) dx (exd dx [(f2, v2), (f1, v1)])) a (exo a C (some dx))) a) dx (.xd [(f2, v2), (f1, v1)]) = upd H1 dx (.xd [(f2, v2), (f1, v1)]) := by
        funext b
        by_cases hb : b = dx
        · rw [hb, upd_same, upd_same]
        · rw [upd_ne hb, upd_ne hb]
          by_cases hba : b = a
          · rw [hba, del_same, na]
          · rw [del_ne hba, upd_ne hba, upd_ne hb, upd_ne hba]
      show W (.ref C) (some dx) σ (upd (del (upd (upd (upd H1 a (exo a C none)) dx (exd dx [(f2, v2), (f1, v1)])) a (exo a C (some dx))) a) dx (.xd [(f2, v2), (f1, v1)]))
      rw [e1]
      exact q dx ndx
  exact key
end
/-- __init__ of an exception: self.f1 = f1; self.f2 = f2 -/
theorem ok_xinit2 {P : Program} {w : World} {K : PySem.W.Frag} {mg : Str → Option Value} {base : Heap} {q f1 f2 : Str} {st : Stmt} {f : Addr} {fd : FuncData} {p1 p2 p3 p4 p5 p6 p7 p8 : Pos} (F : FnS K "__init__" q st f fd)
    (hb : defBody st = [.Assign [.Attribute (.Name "self" p1) f1 p2] (.Name f1 p3) p4, .Assign [.Attribute (.Name "self" p5) f2 p6] (.Name f2 p7) p8]) (S : FnScope ["self", f1, f2] ["self", f1, f2] (defScope st))
    (l1 : (defScope st).names.lookup ("self" : Str) = some .local) (l2 : (defScope st).names.lookup f1 = some .local) (l3 : (defScope st).names.lookup f2 = some .local) (h1 : (f1 == ("__debug__" : Str)) = false) (h2 : (f1 == ("__classdict__" : Str)) = false) (h3 : (f2 == ("__debug__" : Str)) = false) (h4 : (f2 == ("__classdict__" : Str)) = false)
    (b : ∀ (kV doc pm : Value) (an : Option Addr) (cdv ct : Value) (us : List Value), us.length = (["self", f1, f2] : List Str).length → bindArgs (PySem.W.fnOf "__init__" q (defArgs st) (defBody st) (defScope st) .none kV doc pm an cdv ct) ⟨us, []⟩ = pure ((["self", f1, f2] : List Str).zip us)) :
    ∃ ps, FnOk P w K mg base CX0 1 f fd ps (spInit2 K f1 f2) ∧ Binds K fd ps [] := by
  refine ⟨["self", f1, f2], okD F S (fun vs H Q E h => ?_) (fun cdv A outer s H vs Q E hr h => ?_), F.bindsN b⟩
  · obtain ⟨a, C, y1, y2, rfl, _⟩ := h
    rfl
  · obtain ⟨a, C, y1, y2, rfl, ha, o, no, no2, q⟩ := h
    rw [hb]
    refine ⟨_, pss_cons (ps_ost (pe_var (i := 0) rfl (.inl l1)) (pe_var (i := 1) rfl (.inl l2) h1 h2)) (pss_one (ps_ost (pe_var (i := 0) rfl (.inl l1)) (pe_var (i := 2) rfl (.inl l3) h3 h4))), ?_⟩
    refine ⟨y1, rfl, .ref a, rfl, a, C, rfl, o, no, .inl ⟨ha, fun dx nd ne => ⟨y2, rfl, .ref a, rfl, a, C, rfl, o, no2, .inr ⟨dx, [(f1, y1)], upd_same, by rw [upd_ne ne, upd_same], by show 1 ≤ 900; decide, ?_⟩⟩⟩⟩
    have e : upd (upd (upd H dx (exd dx [(f1, y1)])) a (exo a C (some dx))) dx (exd dx [(f2, y2), (f1, y1)]) = upd (upd H dx (exd dx [(f2, y2), (f1, y1)])) a (exo a C (some dx)) := by
      funext z
      by_cases hz : z = dx
      · rw [hz, upd_same, upd_ne ne, upd_same]
      · rw [upd_ne hz]
        by_cases hza : z = a
        · rw [hza, upd_same, upd_same]
        · rw [upd_ne hza, upd_ne hza, upd_ne hz, upd_ne hz]
    show Q .non (upd (upd (upd H dx (exd dx [(f1, y1)])) a (exo a C (some dx))) dx (exd dx [(f2, y2), (f1, y1)]))
    rw [e]
    exact q dx nd ne
def excB2 (K : PySem.W.Frag) (x f1 f2 : Str) : Bool := isO (PySem.W.findIn K (.ref (He.ga K x)) f2) (some none) && excB K x f1
theorem excB2_ok {P : Program} {w : World} {K : PySem.W.Frag} {mg : Str → Option Value} {base : Heap} {x f1 f2 : Str} (h : excB2 K x f1 f2 = true) (g : mg x = some (.ref (He.ga K x)))
    (i : ∃ fd ps, FnOk P w K mg base CX0 1 (He.ma K (He.ga K x) "__init__") fd ps (spInit2 K f1 f2) ∧ Binds K fd ps []) : ExT2 P w K mg base x f1 f2 (He.ga K x) := by
  obtain ⟨h0, h⟩ := Bool.and_eq_true_iff.mp h
  obtain ⟨h1, h⟩ := Bool.and_eq_true_iff.mp h
  obtain ⟨h2, h⟩ := Bool.and_eq_true_iff.mp h
  obtain ⟨h3, h⟩ := Bool.and_eq_true_iff.mp h
  obtain ⟨h4, h⟩ := Bool.and_eq_true_iff.mp h
  obtain ⟨h5, h⟩ := Bool.and_eq_true_iff.mp h
  obtain ⟨h6, h⟩ := Bool.and_eq_true_iff.mp h
  obtain ⟨h7, h⟩ := Bool.and_eq_true_iff.mp h
  obtain ⟨h8, h9⟩ := Bool.and_eq_true_iff.mp h
  obtain ⟨fd, ps, F, b⟩ := i
  exact ⟨g, ⟨oexB_ok h1, of_decide_eq_true h2, of_decide_eq_true h3, of_decide_eq_true h4, h5⟩, xfB_ok h6, of_decide_eq_true h7, of_decide_eq_true h0, _, fd, ps, of_decide_eq_true h8, of_decide_eq_true h9, F, b⟩
end Bf
namespace Dz
open PySem PySem.Spec PyProof.Rows L2 Evl Bf
/-! ### targets: the places is are written -/
def SameBut (is : List Nat) (σ τ : L2.St) : Prop := σ.length = τ.length ∧ ∀ j, j ∉ is → τ[j]? = σ[j]?
def gOf {K : PySem.W.Frag} (T : Th K) (O is : List Nat) (g : DG) : TG := fun v σ H Q => ∃ ρ ow0 fr d R, T.Ok H ∧ ER K H ow0 fr O σ ρ ∧ Rep K H (owOf ow0 O σ) v d ∧ g d ρ R ∧
  ∀ τ ρ', ER K H ow0 fr O τ ρ' → SameBut is σ τ → R ρ' → Q τ H
abbrev DGs := List D → Ro → (Ro → Prop) → Prop
def gsOf {K : PySem.W.Frag} (T : Th K) (O is : List Nat) (g : DGs) : TGs := fun vs σ H Q => ∃ ρ ow0 fr ds R, T.Ok H ∧ ER K H ow0 fr O σ ρ ∧ RepL K H (owOf ow0 O σ) vs ds ∧ g ds ρ R ∧
  ∀ τ ρ', ER K H ow0 fr O τ ρ' → SameBut is σ τ → R ρ' → Q τ H
def gN (i : Nat) : DG := fun d ρ R => R (ρ.set i (some d))
def gT (n : Nat) (g : DGs) : DG := fun d ρ R => ∃ ds, d = .tup ds ∧ ds.length = n ∧ g ds ρ R
def gsN : DGs := fun ds ρ R => ds = [] ∧ R ρ
def gsC (g : DG) (gs : DGs) : DGs := fun ds ρ R => ∃ d r, ds = d :: r ∧ g d ρ fun ρ' => gs r ρ' R
theorem SameBut.refl (is : List Nat) (σ : L2.St) : SameBut is σ σ := ⟨rfl, fun _ _ => rfl⟩
section
variable {X : Cx} {T : Th X.K} {O is js : List Nat} {g : DG} {gs : DGs} {e : Expr} {es : List Expr} {pos : Pos}
theorem pgI {t t' : TG} (h : PG X e t) (i : ∀ v σ H Q, t' v σ H Q → t v σ H Q) : PG X e t' := ⟨fun pins s σ H v u Q I r q => h.run pins s σ H v u Q I r (i v σ H Q q)⟩
theorem pgsI {t t' : TGs} (h : PGs X es t) (i : ∀ v σ H Q, t' v σ H Q → t v σ H Q) : PGs X es t' := ⟨fun pins s σ H v u Q I r q => h.run pins s σ H v u Q I r (i v σ H Q q)⟩
theorem g_name {i : Nat} {x : Str} (hN : X.N.Nodup) (hi : X.N[i]? = some x) (hx : Loc X.env.scope x) (hO : fre O i = true) (hf : X.fn x = true ∨ X.env.scope.names.lookup x = some .local := by first | exact .inl rfl | exact .inr rfl | assumption) : PG X (.Name x pos) (gOf T O [i] (gN i)) :=
  pgI (pg_name hN hi hx hf) fun v σ H Q ⟨ρ, ow0, fr, d, R, ok, er, r, q, k⟩ => k _ _ (er.set hO r) ⟨by rw [List.length_set], fun j hj => List.getElem?_set_ne (fun z => hj (by rw [z]; exact List.mem_singleton.mpr rfl))⟩ q
theorem g_nil : PGs X [] (gsOf T O is gsN) := pgsI pgs_nil fun vs σ H Q ⟨ρ, ow0, fr, ds, R, ok, er, r, ⟨e, q⟩, k⟩ => by
  subst e
  cases r
  exact ⟨rfl, k σ ρ er (SameBut.refl is σ) q⟩
theorem ow_same {ow0 : Addr → Prop} {σ τ : L2.St} (h : SameBut is σ τ) (d : ∀ i ∈ is, i ∉ O) : owOf ow0 O τ = owOf ow0 O σ := by
  funext a
  unfold owOf
  refine propext (or_congr_right ⟨fun ⟨j, hj, e⟩ => ⟨j, hj, ?_⟩, fun ⟨j, hj, e⟩ => ⟨j, hj, ?_⟩⟩)
  · rw [h.2 j (fun z => d j z hj)] at e; exact e
  · rw [h.2 j (fun z => d j z hj)]; exact e
theorem g_cons (h1 : PG X e (gOf T O is g)) (h2 : PGs X es (gsOf T O js gs)) (hd : (is.all fun i => fre O i) = true) (hs : (assignEach (e :: es) X.env).map (·.2) = assign e X.env :: (assignEach es X.env).map (·.2) := by rfl) : PGs X (e :: es) (gsOf T O (is ++ js) (gsC g gs)) :=
  pgsI (pgs_cons h1 h2 hs) fun vs σ H Q ⟨ρ, ow0, fr, ds, R, ok, er, r, ⟨d, dr, e1, q⟩, k⟩ => by
    subst e1
    cases r with
    | cons r rr =>
      refine ⟨_, _, rfl, ρ, ow0, fr, d, _, ok, er, r, q, fun τ ρ' er' sb q' => ?_⟩
      have hO : ∀ i ∈ is, i ∉ O := fun i hi => (fre_of (List.all_eq_true.mp hd i hi)).1
      refine ⟨ρ', ow0, fr, dr, R, ok, er', by rw [ow_same sb hO]; exact rr, q', fun τ2 ρ2 er2 sb2 q2 => k τ2 ρ2 er2 ⟨sb.1.trans sb2.1, fun j hj => ?_⟩ q2⟩
      rw [sb2.2 j (fun z => hj (List.mem_append_right _ z)), sb.2 j (fun z => hj (List.mem_append_left _ z))]
theorem g_tup {n : Nat} {kk : Nat} (hc : X.calm = true) (h : PGs X es (gsOf T O is gs)) (hn : (assignEach es X.env).length = n := by rfl) (hst : (assignEach es X.env).findIdx? (·.1) = none := by rfl) : PG X (.Tuple es kk pos) (gOf T O is (gT n gs)) :=
  pgI (pg_tup hc h hn hst) fun v σ H Q ⟨ρ, ow0, fr, d, R, ok, er, r, ⟨ds, e1, hz, q⟩, k⟩ => by
    subst e1
    obtain ⟨a, ws, rfl, ha, ra⟩ := o_tup r.o
    exact ⟨a, ws, rfl, SqH ha, by rw [ra.length]; exact hz, ρ, ow0, fr, ds, R, ok, er, ra, q, k⟩
end
/-! ### what is walked -/
abbrev DI := Ro → (List D → Prop) → XQ → Prop
def Wlk {K : PySem.W.Frag} (T : Th K) (J : It) (items : List D) (vd : List (V × D)) : Prop := ∀ ow G, T.Ok G → (∀ a, ow a → G a ≠ none) → (∀ p ∈ vd, RepO K G ow p.1 p.2) →
  (∀ i, i < items.length → J.go i G) ∧ J.stop items.length G ∧ ∀ i x G', i < items.length → J.yld i G x G' → T.Ok G' ∧ T.Gr G G' ∧ ∃ d, items[i]? = some d ∧ Rep K G' ow x d
section
variable {K : PySem.W.Frag} (T : Th K) (W : WX) (O : List Nat)
def iOf (φ : DI) : TI := fun σ H R => ∃ ρ ow0 fr A Ax, T.Ok H ∧ ER K H ow0 fr O σ ρ ∧ φ ρ A Ax ∧ (∀ items J G vd, A items → T.Ok G → T.Gr H G → (∀ p ∈ vd, Rep K G (owOf ow0 O σ) p.1 p.2) → Wlk T J items vd → R J G) ∧ XOk T W H (owOf ow0 O σ) σ Ax
def ioOf (φ : DI) : TI := fun σ H R => ∃ ρ ow0 fr A Ax, T.Ok H ∧ ER K H ow0 fr O σ ρ ∧ φ ρ A Ax ∧ (∀ items J G vd, A items → T.Ok G → T.Gr H G → (∀ p ∈ vd, RepO K G (owOf ow0 O σ) p.1 p.2) → Wlk T J items vd → R J G) ∧ XOk T W H (owOf ow0 O σ) σ Ax
end
def iLst (φ : DX) : DI := fun ρ A Ax => φ ρ (fun x => ∃ xs, x = .lst xs ∧ A xs) Ax
def iTupD (φ : DX) : DI := fun ρ A Ax => φ ρ (fun x => ∃ xs, x = .tup xs ∧ A xs) Ax
def rng (lo hi : Int) : List D := (List.range (hi - lo).toNat).map fun i => .int (lo + (i : Nat))
def iRg1 (φ : DX) : DI := fun ρ A Ax => φ ρ (fun x => ∃ j : Int, x = .int j ∧ -(2 ^ 62) ≤ j ∧ j < 2 ^ 62 ∧ A (rng 0 j)) Ax
def iRg2 (φ ψ : DX) : DI := fun ρ A Ax => φ ρ (fun x => ψ ρ (fun y => ∃ i j : Int, x = .int i ∧ y = .int j ∧ (-(2 ^ 62) ≤ i ∧ i < 2 ^ 62 ∧ -(2 ^ 62) ≤ j ∧ j < 2 ^ 62) ∧ A (rng i j)) Ax) Ax
def enumD (xs : List D) : List D := (List.range xs.length).map fun i => .tup [.int (i : Nat), xs.getD i .non]
def iEnm (φ : DX) : DI := fun ρ A Ax => φ ρ (fun x => ∃ xs, x = .lst xs ∧ A (enumD xs)) Ax
def iTxt (φ : DX) : DI := fun ρ A Ax => φ ρ (fun x => ∃ z : Str, x = .str z ∧ A (z.cps.toList.map fun c => .str ⟨#[c]⟩)) Ax
section
variable {X : Cx} {T : Th X.K} {W : WX} {O : List Nat} {tg e a b : Expr} {φ ψ : DX} {p pos : Pos}
theorem piI {t t' : TI} (h : PI X tg e t) (i : ∀ σ H R, t' σ H R → t σ H R) : PI X tg e t' := ⟨fun pins s σ H R I q => h.run pins s σ H R I (i σ H R q)⟩
theorem wlk_list {K : PySem.W.Frag} {T : Th K} {a : Addr} {xs : List D} : Wlk T (Itl K a) xs [(.ref a, .lst xs)] := fun ow G ok tr h => by
  obtain ⟨p, vs, e, hp, r⟩ := o_lst (h _ List.mem_cons_self)
  cases e
  have q : SqL K G a vs := .inl (.inl hp)
  refine ⟨fun i hi => ⟨vs, vs[i]'(by rw [r.length]; exact hi), q, by simp [r.length, hi]⟩, ⟨vs, q, Nat.le_of_eq r.length⟩, fun i x G' hi y => ?_⟩
  obtain ⟨rfl, y⟩ := y
  obtain ⟨d, h1, h2⟩ := r.at (y vs q)
  exact ⟨ok, T.refl _, d, h1, h2⟩
theorem wlk_tup {K : PySem.W.Frag} {T : Th K} {a : Addr} {xs : List D} : Wlk T (Itt K a) xs [(.ref a, .tup xs)] := fun ow G ok tr h => by
  obtain ⟨p, vs, e, q, r⟩ := o_tup (h _ List.mem_cons_self)
  cases e
  refine ⟨fun i hi => ⟨vs, vs[i]'(by rw [r.length]; exact hi), SqH q, by simp [r.length, hi]⟩, ⟨vs, SqH q, Nat.le_of_eq r.length⟩, fun i x G' hi y => ?_⟩
  obtain ⟨rfl, y⟩ := y
  obtain ⟨d, h1, h2⟩ := r.at (y vs (SqH q))
  exact ⟨ok, T.refl _, d, h1, h2⟩
theorem rng_len (lo hi : Int) : (rng lo hi).length = (hi - lo).toNat := by unfold rng; rw [List.length_map, List.length_range]
theorem wlk_range {K : PySem.W.Frag} {T : Th K} {lo hi : Int} : Wlk T (Itr lo (hi - lo).toNat) (rng lo hi) [] := fun ow G ok tr h => by
  rw [rng_len]
  refine ⟨fun i hi => hi, Nat.le_refl _, fun i x G' hi y => ?_⟩
  obtain ⟨rfl, rfl⟩ := y
  refine ⟨ok, T.refl _, .int (lo + (i : Nat)), ?_, .int _⟩
  unfold rng
  rw [List.getElem?_map, List.getElem?_range hi]
  rfl
theorem enum_len (xs : List D) : (enumD xs).length = xs.length := by unfold enumD; rw [List.length_map, List.length_range]
theorem enum_at {xs : List D} {i : Nat} (h : i < xs.length) : (enumD xs)[i]? = some (.tup [.int (i : Nat), xs[i]]) := by
  unfold enumD
  rw [List.getElem?_map, List.getElem?_range h]
  simp [h]
theorem wlk_enum {K : PySem.W.Frag} {T : Th K} {a : Addr} {xs : List D} : Wlk T (Ite K a) (enumD xs) [(.ref a, .lst xs)] := fun ow G ok tr h => by
  rw [enum_len]
  obtain ⟨p, vs, e, hp, r⟩ := o_lst (h _ List.mem_cons_self)
  cases e
  have q : SqL K G a vs := .inl (.inl hp)
  refine ⟨fun i hi => ⟨vs, vs[i]'(by rw [r.length]; exact hi), q, by simp [r.length, hi]⟩, ⟨vs, q, Nat.le_of_eq r.length⟩, fun i x G' hi y => ?_⟩
  obtain ⟨t, v, h1, h2, h3, h4⟩ := y
  obtain ⟨d, e1, e2⟩ := r.at (h4 vs q)
  subst h1 h3
  obtain ⟨n1, n2, n3⟩ := new_tup (T := T) ok tr h2 (.cons (.int (i : Nat)) (.cons e2 .nil))
  refine ⟨n1, n2, _, ?_, n3⟩
  rw [enum_at hi]
  rw [List.getElem?_eq_getElem hi] at e1
  rw [Option.some.inj e1]
theorem wlk_str {K : PySem.W.Frag} {T : Th K} {z : Str} : Wlk T (Its z) (z.cps.toList.map fun c => .str ⟨#[c]⟩) [] := fun ow G ok tr h => by
  rw [List.length_map, Array.length_toList]
  refine ⟨fun i hi => hi, Nat.le_refl _, fun i x G' hi y => ?_⟩
  obtain ⟨rfl, c, h1, rfl⟩ := y
  refine ⟨ok, T.refl _, .str ⟨#[c]⟩, ?_, .str _⟩
  rw [List.getElem?_map, Array.getElem?_toList, h1]
  rfl
theorem i_list (he : PE X e (eOf T W O φ)) : PI X tg e (iOf T W O (iLst φ)) := piI (pi_list he) fun σ H R ⟨ρ, ow0, fr, A, Ax, ok, er, q, k, x⟩ => ⟨ρ, ow0, fr, _, Ax, ok, er, q, fun d v G ⟨xs, e1, qx⟩ okG gG rv => by
    subst e1
    obtain ⟨a, vs, rfl, ha, ra⟩ := o_lst rv.o
    exact ⟨a, rfl, ⟨vs, .inl (.inl ha)⟩, k xs _ G [(.ref a, .lst xs)] qx okG gG (fun p hp => by rw [List.mem_singleton.mp hp]; exact rv) wlk_list⟩, x⟩
theorem io_list (he : PE X e (eoOf T W O φ)) : PI X tg e (ioOf T W O (iLst φ)) := piI (pi_list he) fun σ H R ⟨ρ, ow0, fr, A, Ax, ok, er, q, k, x⟩ => ⟨ρ, ow0, fr, _, Ax, ok, er, q, fun d v G ⟨xs, e1, qx⟩ okG gG rv => by
    subst e1
    obtain ⟨a, vs, rfl, ha, ra⟩ := o_lst rv
    exact ⟨a, rfl, ⟨vs, .inl (.inl ha)⟩, k xs _ G [(.ref a, .lst xs)] qx okG gG (fun p hp => by rw [List.mem_singleton.mp hp]; exact rv) wlk_list⟩, x⟩
theorem i_tup (he : PE X e (eOf T W O φ)) : PI X tg e (iOf T W O (iTupD φ)) := piI (pi_tup he) fun σ H R ⟨ρ, ow0, fr, A, Ax, ok, er, q, k, x⟩ => ⟨ρ, ow0, fr, _, Ax, ok, er, q, fun d v G ⟨xs, e1, qx⟩ okG gG rv => by
    subst e1
    obtain ⟨a, vs, rfl, ha, ra⟩ := o_tup rv.o
    exact ⟨a, rfl, ⟨vs, SqH ha⟩, k xs _ G [(.ref a, .tup xs)] qx okG gG (fun p hp => by rw [List.mem_singleton.mp hp]; exact rv) wlk_tup⟩, x⟩
def on1 (A : D → Prop) : List D → Prop
  | [x] => A x
  | _ => False
def on2 (A : D → D → Prop) : List D → Prop
  | [x, y] => A x y
  | _ => False
theorem on1_of {A : D → Prop} {ds : List D} (h : on1 A ds) : ∃ x, ds = [x] ∧ A x := by
  match ds, h with
  | [x], h => exact ⟨x, rfl, h⟩
theorem on2_of {A : D → D → Prop} {ds : List D} (h : on2 A ds) : ∃ x y, ds = [x, y] ∧ A x y := by
  match ds, h with
  | [x, y], h => exact ⟨x, y, rfl, h⟩
theorem i_range1 (hg : Gl X "range") (hm : X.mg "range" = none) (ha : PE X a (eOf T W O φ)) (hs : starEach [a] X.env = [(false, eval a X.env)] := by rfl) : PI X tg (.Call (.Name "range" p) [a] [] pos) (iOf T W O (iRg1 φ)) :=
  piI (pi_range1 hg hm (ba_cons ha ba_nil hs) hs) fun σ H R ⟨ρ, ow0, fr, A, Ax, ok, er, q, k, x⟩ => ⟨ρ, ow0, fr, on1 _, Ax, ok, er, q, fun ds vs G z _ okG gG rv => by
    obtain ⟨_, rfl, j, rfl, h1, h2, qx⟩ := on1_of z
    cases rv with
    | cons r t =>
      cases t
      rw [rep_int r]
      refine ⟨j, rfl, h1, h2, ?_⟩
      have := k _ _ G [] qx okG gG (fun p hp => absurd hp List.not_mem_nil) (wlk_range (lo := 0) (hi := j))
      simpa using this, x⟩
theorem i_range2 (hg : Gl X "range") (hm : X.mg "range" = none) (ha : PE X a (eOf T W O φ)) (hb : PE X b (eOf T W O ψ)) (hs : starEach [a, b] X.env = [(false, eval a X.env), (false, eval b X.env)] := by rfl) (hs2 : starEach [b] X.env = [(false, eval b X.env)] := by rfl) : PI X tg (.Call (.Name "range" p) [a, b] [] pos) (iOf T W O (iRg2 φ ψ)) :=
  piI (pi_range2 hg hm (ba_cons ha (ba_cons hb ba_nil hs2) (by rw [hs, hs2])) hs hs2) fun σ H R ⟨ρ, ow0, fr, A, Ax, ok, er, q, k, x⟩ => ⟨ρ, ow0, fr, on2 _, Ax, ok, er, q, fun ds vs G z _ okG gG rv => by
    obtain ⟨_, _, rfl, i, j, rfl, rfl, h1, qx⟩ := on2_of z
    cases rv with
    | cons r t =>
      cases t with
      | cons r2 t =>
        cases t
        rw [rep_int r, rep_int r2]
        exact ⟨i, j, rfl, h1, k _ _ G [] qx okG gG (fun p hp => absurd hp List.not_mem_nil) wlk_range⟩, x⟩
theorem i_enum {elts : List Expr} {kk : Nat} {tpos : Pos} (hg : Gl X "enumerate") (hm : X.mg "enumerate" = none) (ha : PE X a (eOf T W O φ)) (hs : starEach [a] X.env = [(false, eval a X.env)] := by rfl) : PI X (.Tuple elts kk tpos) (.Call (.Name "enumerate" p) [a] [] pos) (iOf T W O (iEnm φ)) :=
  piI (pi_enum hg hm (ba_cons ha ba_nil hs) hs) fun σ H R ⟨ρ, ow0, fr, A, Ax, ok, er, q, k, x⟩ => ⟨ρ, ow0, fr, on1 _, Ax, ok, er, q, fun ds vs G z _ okG gG rv => by
    obtain ⟨_, rfl, xs, rfl, qx⟩ := on1_of z
    cases rv with
    | cons r t =>
      cases t
      obtain ⟨a, vs, rfl, ha, ra⟩ := o_lst r.o
      exact ⟨a, vs, rfl, .inl (.inl ha), k _ _ G [(.ref a, .lst xs)] qx okG gG (fun p hp => by rw [List.mem_singleton.mp hp]; exact r) wlk_enum⟩, x⟩
theorem i_str (he : PE X e (eOf T W O φ)) : PI X tg e (iOf T W O (iTxt φ)) := piI (pi_str he) fun σ H R ⟨ρ, ow0, fr, A, Ax, ok, er, q, k, x⟩ => ⟨ρ, ow0, fr, _, Ax, ok, er, q, fun d v G ⟨z, e1, qx⟩ okG gG rv => by
    subst e1
    exact ⟨z, o_str rv.o, k _ _ G [] qx okG gG (fun p hp => absurd hp List.not_mem_nil) wlk_str⟩, x⟩
theorem i_io {φi : DI} (h : PI X tg e (iOf T W O φi)) : PI X tg e (ioOf T W O φi) := piI h fun σ H R ⟨ρ, ow0, fr, A, Ax, ok, er, q, k, x⟩ => ⟨ρ, ow0, fr, A, Ax, ok, er, q, fun items J G vd a o g r w => k items J G vd a o g (fun p hp => .inl (r p hp)) w, x⟩
end
/-! ### for -/
def forL (g : DG) (b : DS) : List D → DS
  | [], E, ρ => E.nx ρ
  | x :: xs, E, ρ => g x ρ fun ρ' => b { E with nx := forL g b xs E, ct := forL g b xs E, bk := E.nx } ρ'
def sFor (φ : DI) (g : DG) (b : DS) : DS := fun E ρ => φ ρ (fun items => forL g b items E ρ) fun x => E.ex x ρ
section
variable {X : Cx} {T : Th X.K} {W : WX} {fz : Nat} {O is Ol : List Nat} {tg iter : Expr} {body : List Stmt} {φ : DI} {g : DG} {b : DS} {pos : Pos}
theorem Sr.er_set {K : PySem.W.Frag} {T : Th K} {H0 H : Hp} {owi ow0 : Addr → Prop} {fr : Fr} {σ τ : L2.St} {ρ ρ' : Ro} (s : Sr T H0 owi ow0 fr O σ H ρ) (e : ER K H ow0 fr O τ ρ') (sb : SameBut is σ τ) (d : ∀ i ∈ is, i ∉ O) : Sr T H0 owi ow0 fr O τ H ρ' :=
  ⟨s.ok, s.gr, e, s.sub, fun i hi a z => s.new i hi a (by rw [← sb.2 i (fun q => d i q hi)]; exact z), s.iwH⟩
theorem Sr.vd {K : PySem.W.Frag} {T : Th K} {H0 H : Hp} {owi ow0 : Addr → Prop} {fr : Fr} {σ : L2.St} {ρ : Ro} {vd : List (V × D)} (s : Sr T H0 owi ow0 fr O σ H ρ) (h : ∀ p ∈ vd, Rep K H (owOf ow0 O σ) p.1 p.2) : Sr T H0 owi ow0 { fr with vd := vd ++ fr.vd } O σ H ρ :=
  ⟨s.ok, s.gr, ⟨s.er.val, s.er.own, fun p hp => (List.mem_append.mp hp).elim (h p) (s.er.frm p), s.er.dep, s.er.nwq, s.er.trk, s.er.len, s.er.slt, s.er.sml⟩, s.sub, s.new, s.iwH⟩
theorem s_for (hp : PassesOwn (model X.prog X.w) X.A X.env X.xe) (hc : X.calm = true) (hi : PI X tg iter (iOf T W O φ)) (hg : PG X tg (gOf T O is g)) (hd : (is.all fun i => fre O i) = true) (hb : PSs X body (sOf T W fz O O O b))
    (hs : ∀ x, foldedSetIterable iter X.env x = pure x := by intro _; rfl) : PS X (.For tg iter body [] pos) (sOf T W fz O O Ol (sFor φ g b)) := by
  refine psI (ps_for hp hc hi hg hb hs) fun M σ H ⟨ρ, H0, owi, ow0, fr, E, s, tr, k, q⟩ => ?_
  have hO : ∀ i ∈ is, i ∉ O := fun i hi => (fre_of (List.all_eq_true.mp hd i hi)).1
  refine ⟨ρ, ow0, fr, _, _, s.ok, s.er, q, fun items J G vd qi okG gG rvd wk => ?_, k.x s⟩
  have sG := (s.go okG gG).vd rvd
  refine ⟨fun i m σ H => m = items.length - i ∧ i ≤ items.length ∧ ∃ ρ ow0, Sr T H0 owi ow0 { fr with vd := vd ++ fr.vd } O σ H ρ ∧ forL g b (items.drop i) E ρ, ⟨items.length, by simp, Nat.zero_le _, ρ, ow0, sG, by rw [List.drop_zero]; exact qi⟩, ?_⟩
  rintro i m σ' H' ⟨rfl, hi, ρ', ow', s', q'⟩
  obtain ⟨w1, w2, w3⟩ := wk (owOf ow' O σ') H' s'.ok s'.er.otrk fun p hp => .inl (s'.er.frm p (List.mem_append_left _ hp))
  by_cases hlt : i < items.length
  · refine .inr ⟨w1 i hlt, fun σ2 H2 => ∃ ρ ow0, Sr T H0 owi ow0 { fr with vd := vd ++ fr.vd } O σ2 H2 ρ ∧ forL g b (items.drop (i + 1)) E ρ, fun σ2 H2 ⟨ρ2, ow2, s2, q2⟩ => ⟨items.length - (i + 1), by omega, rfl, hlt, ρ2, ow2, s2, q2⟩, fun x H2 y => ?_⟩
    obtain ⟨ok2, g2, d, hd2, rx⟩ := w3 i x H2 hlt y
    have e1 : items.drop i = d :: items.drop (i + 1) := by
      rw [List.drop_eq_getElem_cons hlt]
      rw [List.getElem?_eq_getElem hlt] at hd2
      rw [Option.some.inj hd2]
    rw [e1] at q'
    have s2 := s'.go ok2 g2
    refine ⟨ρ', ow', { fr with vd := vd ++ fr.vd }, d, _, ok2, s2.er, rx, q', fun τ ρ3 er3 sb3 q3 => ?_⟩
    refine ⟨ρ3, H0, owi, ow', { fr with vd := vd ++ fr.vd }, { E with nx := forL g b (items.drop (i + 1)) E, ct := forL g b (items.drop (i + 1)) E, bk := E.nx }, s2.er_set er3 sb3 hO, tr, ⟨fun σ4 H4 ρ4 ow4 s4 q4 => ⟨ρ4, ow4, s4, q4⟩, k.rt, fun σ4 H4 ρ4 ow4 s4 q4 => ?_, fun σ4 H4 ρ4 ow4 s4 q4 => ⟨ρ4, ow4, s4, q4⟩, fun x d σ4 H4 ρ4 ow4 s4 r4 q4 => ?_⟩, q3⟩
    · exact k.nx σ4 H4 ρ4 ow4 (s4.less (fun p hp => List.mem_append_right _ hp) rfl rfl) q4
    · exact k.ex x d σ4 H4 ρ4 ow4 (s4.less (fun p hp => List.mem_append_right _ hp) rfl rfl) r4 q4
  · have e : i = items.length := by omega
    subst e
    rw [List.drop_length] at q'
    exact .inl ⟨w2, k.nx σ' H' ρ' ow' (s'.less (fun p hp => List.mem_append_right _ hp) rfl rfl) q'⟩
/-! ### while -/
def sWhile (c : DT) (b : DS) : DS := fun E ρ => ∃ Wd : Nat → Ro → Prop, (∃ m, Wd m ρ) ∧ ∀ m ρ, Wd m ρ → c ρ (fun t => if t = true then ∃ N : Ro → Prop, (∀ ρ', N ρ' → ∃ m', m' < m ∧ Wd m' ρ') ∧ b { E with nx := N, ct := N, bk := E.nx } ρ else E.nx ρ) fun x => E.ex x ρ
theorem s_while {c : Expr} {t : DT} (hp : PassesOwn (model X.prog X.w) X.A X.env X.xe) (hc : PT X c (tOf T W O t)) (hb : PSs X body (sOf T W fz O O O b)) : PS X (.While c body [] pos) (sOf T W fz O O Ol (sWhile t b)) := by
  refine psI (ps_while hp hc hb) fun M σ H ⟨ρ, H0, owi, ow0, fr, E, s, tr, k, Wd, ⟨m0, w0⟩, turn⟩ => ?_
  refine ⟨fun m σ H => ∃ ρ ow0, Sr T H0 owi ow0 fr O σ H ρ ∧ Wd m ρ, ⟨m0, ρ, ow0, s, w0⟩, ?_⟩
  rintro m σ' H' ⟨ρ', ow', s', w'⟩
  refine ⟨ρ', ow', fr, _, _, s'.ok, s'.er, turn m ρ' w', fun b G qb ok g => ?_, k.x s'⟩
  cases b with
  | false => exact k.nx σ' G ρ' ow' (s'.go ok g) qb
  | true =>
    obtain ⟨N, hN, q⟩ := qb
    refine ⟨fun σ2 H2 => ∃ ρ ow0, Sr T H0 owi ow0 fr O σ2 H2 ρ ∧ N ρ, fun σ2 H2 ⟨ρ2, ow2, s2, q2⟩ => ?_, ρ', H0, owi, ow', fr, { E with nx := N, ct := N, bk := E.nx }, s'.go ok g, tr, ⟨fun σ4 H4 ρ4 ow4 s4 q4 => ⟨ρ4, ow4, s4, q4⟩, k.rt, k.nx, fun σ4 H4 ρ4 ow4 s4 q4 => ⟨ρ4, ow4, s4, q4⟩, k.ex⟩, q⟩
    obtain ⟨m', h1, h2⟩ := hN ρ2 q2
    exact ⟨m', h1, ρ2, ow2, s2, h2⟩
end
end Dz
namespace Dz
open PySem PySem.Spec PyProof.Rows L2 Evl Bf
def W0 : WX := fun _ _ _ _ => False
/-! ### comprehensions -/
def wipeR (ρ : Ro) : List Nat → Ro
  | [] => ρ
  | v :: vs => (wipeR ρ vs).set v none
def lcL (ρ : Ro) (vs : List Nat) (g : DG) (t : DT) (e : DX) : List D → List D → (List D → Prop) → Prop
  | [], acc, Q => Q acc
  | x :: xs, acc, Q => g x (wipeR ρ vs) fun ρ' => t ρ' (fun b => if b = true then e ρ' (fun y => lcL ρ vs g t e xs (acc ++ [y]) Q) (fun _ => False) else lcL ρ vs g t e xs acc Q) (fun _ => False)
def xLc (φ : DI) (vs : List Nat) (g : DG) (t : DT) (e : DX) : DX := fun ρ A Ax => φ ρ (fun items => items.length ≤ big ∧ lcL ρ vs g t e items [] fun ys => A (.lst ys)) Ax
def tYesD : DT := fun _ A _ => A true
section
variable {O : List Nat} {σ τ : L2.St} {ρ : Ro}
theorem wipe_get (σ : L2.St) (j : Nat) : ∀ vs : List Nat, (wipe σ vs)[j]? = if j ∈ vs then (if j < σ.length then some none else none) else σ[j]?
  | [] => by rw [if_neg List.not_mem_nil]; rfl
  | v :: vs => by
    show ((wipe σ vs).set v none)[j]? = _
    by_cases c : v = j
    · subst c
      rw [if_pos List.mem_cons_self]
      by_cases hl : v < σ.length
      · rw [if_pos hl, List.getElem?_set_self (by rw [wipe_length]; exact hl)]
      · rw [if_neg hl, List.getElem?_eq_none (by rw [List.length_set, wipe_length]; omega)]
    · rw [List.getElem?_set_ne c, wipe_get σ j vs]
      by_cases h : j ∈ vs
      · rw [if_pos h, if_pos (List.mem_cons_of_mem _ h)]
      · rw [if_neg h, if_neg (fun z => (List.mem_cons.mp z).elim (fun q => c q.symm) h)]
theorem wipeR_length (ρ : Ro) : ∀ vs : List Nat, (wipeR ρ vs).length = ρ.length
  | [] => rfl
  | v :: vs => by
    show ((wipeR ρ vs).set v none).length = _
    rw [List.length_set, wipeR_length ρ vs]
theorem wipeR_get (ρ : Ro) (j : Nat) : ∀ vs : List Nat, (wipeR ρ vs)[j]? = if j ∈ vs then (if j < ρ.length then some none else none) else ρ[j]?
  | [] => by rw [if_neg List.not_mem_nil]; rfl
  | v :: vs => by
    show ((wipeR ρ vs).set v none)[j]? = _
    by_cases c : v = j
    · subst c
      rw [if_pos List.mem_cons_self]
      by_cases hl : v < ρ.length
      · rw [if_pos hl, List.getElem?_set_self (by rw [wipeR_length]; exact hl)]
      · rw [if_neg hl, List.getElem?_eq_none (by rw [List.length_set, wipeR_length]; omega)]
    · rw [List.getElem?_set_ne c, wipeR_get ρ j vs]
      by_cases h : j ∈ vs
      · rw [if_pos h, if_pos (List.mem_cons_of_mem _ h)]
      · rw [if_neg h, if_neg (fun z => (List.mem_cons.mp z).elim (fun q => c q.symm) h)]
theorem wipe_same {is vs : List Nat} (h : SameBut is (wipe σ vs) τ) (hs : ∀ i ∈ is, i ∈ vs) : wipe τ vs = wipe σ vs := by
  refine List.ext_getElem? fun j => ?_
  rw [wipe_get, wipe_get]
  have hl : τ.length = σ.length := by rw [← h.1, wipe_length]
  by_cases c : j ∈ vs
  · rw [if_pos c, if_pos c, hl]
  · rw [if_neg c, if_neg c, h.2 j (fun z => c (hs j z)), wipe_get, if_neg c]
theorem ow_wipe {ow0 : Addr → Prop} {vs : List Nat} (h : ∀ i ∈ vs, i ∉ O) : owOf ow0 O (wipe σ vs) = owOf ow0 O σ := by
  funext a
  unfold owOf
  refine propext (or_congr_right ⟨fun ⟨j, hj, e⟩ => ⟨j, hj, ?_⟩, fun ⟨j, hj, e⟩ => ⟨j, hj, ?_⟩⟩)
  · rw [wipe_get, if_neg (fun z => h j z hj)] at e; exact e
  · rw [wipe_get, if_neg (fun z => h j z hj)]; exact e
theorem ER.wipe {K : PySem.W.Frag} {H : Hp} {ow0 : Addr → Prop} {fr : Fr} {vs : List Nat} (e : ER K H ow0 fr O σ ρ) (h' : ∀ i ∈ vs, fre O i = true) : ER K H ow0 fr O (L2.wipe σ vs) (wipeR ρ vs) where
  val := fun i d hd hi hi2 => by
    have h : ∀ i ∈ vs, i ∉ O := fun i hi => (fre_of (h' i hi)).1
    rw [ow_wipe h]
    rw [wipeR_get] at hd
    by_cases c : i ∈ vs
    · rw [if_pos c] at hd
      split at hd <;> cases hd
    · rw [if_neg c] at hd
      rw [wipe_get, if_neg c]
      exact e.val i d hd hi hi2
  own := fun i hi l => by
    have h : ∀ i ∈ vs, i ∉ O := fun i hi => (fre_of (h' i hi)).1
    have c : i ∉ vs := fun z => h i z hi
    obtain ⟨a, d, h1, h2, h3, h4, h5⟩ := e.own i hi l
    rw [ow_wipe h, wipeR_get, if_neg c, wipe_get, if_neg c]
    refine ⟨a, d, h1, h2, h3, h4, fun j hj z => h5 j hj ?_⟩
    rw [wipe_get, if_neg (fun z => h j z hj)] at z
    exact z
  frm := fun p hp => by rw [ow_wipe fun i hi => (fre_of (h' i hi)).1]; exact e.frm p hp
  dep := by
    obtain ⟨rg, hd⟩ := e.dep
    refine ⟨rg, fun i l hi => ?_⟩
    have c : i ∉ vs := fun z => (fre_of (h' i z)).2 hi
    rw [wipeR_get, if_neg c, wipe_get, if_neg c]
    exact hd i l hi
  nwq := fun i hi => by
    have c : i ∉ vs := fun z => fre_q (h' i z) hi
    rw [ow_wipe fun i hi => (fre_of (h' i hi)).1, wipeR_get, if_neg c, wipe_get, if_neg c]
    exact e.nwq i hi
  trk := e.trk
  len := by rw [wipeR_length, wipe_length]; exact e.len
  slt := fun v z h0 => by
    rw [wipe_get, if_neg (fun q => h0.elim (fun h0 => (fre_of (h' 0 q)).1 h0) fun h0 => h0.elim (fun h0 => (fre_of (h' 0 q)).2 (by rw [Nat.zero_add]; exact h0)) fun h0 => fre_q (h' 0 q) (by rw [Nat.zero_add]; exact h0))]
    exact e.slt v z h0
  sml := by rw [wipe_length]; exact e.sml
/-- the owners with one more -/
theorem ow_more {ow0 : Addr → Prop} {p : Addr} : owOf (fun a => ow0 a ∨ a = p) O σ = fun a => owOf ow0 O σ a ∨ a = p := by
  funext a
  unfold owOf
  exact propext ⟨fun z => z.elim (fun z => z.elim (fun z => .inl (.inl z)) .inr) fun z => .inl (.inr z), fun z => z.elim (fun z => z.elim (fun z => .inl (.inl z)) .inr) fun z => .inl (.inr z)⟩
theorem ER.more {K : PySem.W.Frag} {H : Hp} {ow0 : Addr → Prop} {fr : Fr} {p : Addr} {o : HO} (T : Th K) (e : ER K H ow0 fr O σ ρ) (hp : H p = none) (g : T.Gr H (upd H p o)) : ER K (upd H p o) (fun a => ow0 a ∨ a = p) { fr with iw := fun a => fr.iw a ∨ a = p } O σ ρ := by
  have m1 : Mv K H (owOf ow0 O σ) H (owOf (fun a => ow0 a ∨ a = p) O σ) := by rw [ow_more]; exact more_own hp
  refine ⟨fun i d hd hi hi2 => ?_, fun i hi l => ?_, fun q hq => ((e.frm q hq).mv m1).gr T g, ?_, fun i hi => ?_, fun a ha => ?_, e.len, e.slt, e.sml⟩
  · obtain ⟨v, h1, h2⟩ := e.val i d hd hi hi2
    exact ⟨v, h1, (h2.mv m1).gr T g⟩
  · obtain ⟨a, d, h1, h2, h3, h4, h5⟩ := e.own i hi l
    refine ⟨a, d, h1, h2, fun z => z.elim h3 fun z => h4.trk (z ▸ hp), (h4.mv m1 fun o z _ => z).mv (Mv.gr T g) fun o z n => T.keep g z n, h5⟩
  · obtain ⟨rg, hd⟩ := e.dep
    exact ⟨rg, fun i l hi => (hd i l hi).mv (Mv.gr T g) (fun a _ _ o z n => T.keep g z n) fun a z _ n => ⟨.inl z, fun q => q.elim n fun q => e.trk a z (q ▸ hp)⟩⟩
  · obtain ⟨v, d, h1, h2, h3⟩ := e.nwq i hi
    refine ⟨v, d, h1, h2, (h3.mv (Mv.more fun a z => ?_)).gr T g⟩
    rw [ow_more] at z
    rcases z with (z | z) | (z | z)
    · exact .inl (.inl z)
    · exact .inr (z ▸ hp)
    · exact .inl (.inr z)
    · exact .inr (z ▸ hp)
  · rcases ha with ha | rfl
    · exact T.forth g (e.trk a ha)
    · rw [upd_same]; exact fun z => by cases z
/-- the object at p, an owner's beyond the slots, is written -/
theorem ER.put0 {K : PySem.W.Frag} {H : Hp} {ow0 : Addr → Prop} {fr : Fr} {p : Addr} {o o' : HO} (e : ER K H ow0 fr O σ ρ) (hp : H p = some o) (n1 : ∀ xs, o ≠ .tup xs) (n2 : ∀ kvs, o ≠ .dT kvs) (n3 : ∀ ob u, o ≠ .frz ob u) (n7 : ∀ vs, o ≠ .xd vs) (own : ow0 p) (nf : fr.iw p) (n8 : ∀ C dx fs, o' = .ins C dx fs → C ≠ He.ga K "Family" := by intro _ _ _ z; cases z) : ER K (upd H p o') ow0 fr O σ ρ := by
  have m : Mv K H (owOf ow0 O σ) (upd H p o') (owOf ow0 O σ) := Mv.put hp n1 n2 n3 n7 (.inl own) (fun a z => z) n8
  refine ⟨fun i d hd hi hi2 => ?_, fun i hi l => ?_, fun q hq => (e.frm q hq).mv m, ?_, fun i hi => ?_, fun a ha => ?_, e.len, e.slt, e.sml⟩
  · obtain ⟨v, h1, h2⟩ := e.val i d hd hi hi2
    exact ⟨v, h1, h2.mv m⟩
  · obtain ⟨a, d, h1, h2, h3, h4, h5⟩ := e.own i hi l
    exact ⟨a, d, h1, h2, h3, h4.mv m (fun o z _ => by rw [upd_ne (fun z : a = p => h3 (z ▸ own))]; exact z) (hl2 := fun _ => keepD_put (fun z : a = p => h3 (z ▸ own)) n8), h5⟩
  · obtain ⟨rg, hd⟩ := e.dep
    exact ⟨rg, fun i l hi => (hd i l hi).mv (Mv.put hp n1 n2 n3 n7 trivial (fun a z => z) n8) (fun a _ n o z _ => by rw [upd_ne (fun q : a = p => n (q ▸ nf))]; exact z) fun a z _ n => ⟨z, n⟩⟩
  · obtain ⟨v, d, h1, h2, h3⟩ := e.nwq i hi
    exact ⟨v, d, h1, h2, h3.mv (Mv.put hp n1 n2 n3 n7 (.inl (.inl own)) (fun a z => z) n8)⟩
  · by_cases c : a = p
    · rw [c, upd_same]; exact fun z => by cases z
    · rw [upd_ne c]; exact e.trk a ha
end
/-- a tree, or one's own, apart from p -/
def RepP (K : PySem.W.Frag) (H : Hp) (ow : Addr → Prop) (p : Addr) (v : V) (d : D) : Prop := Rep K H (fun a => ow a ∨ a = p) v d ∨ ∃ a, v = .ref a ∧ a ≠ p ∧ OwnR K H (fun a => ow a ∨ a = p) a d
section
variable {K : PySem.W.Frag} {H G : Hp} {ow : Addr → Prop} {p : Addr} {v : V} {d : D}
theorem RepP.o (h : RepP K H ow p v d) : RepO K H (fun a => ow a ∨ a = p) v d := h.imp_right fun ⟨a, e, _, z⟩ => ⟨a, e, z⟩
theorem RepP.of {o : HO} (h : RepO K H ow v d) (T : Th K) (hp : H p = none) (g : T.Gr H (upd H p o)) : RepP K (upd H p o) ow p v d := by
  rcases h with z | ⟨a, e1, z⟩
  · exact .inl ((z.mv (more_own hp)).gr T g)
  · exact .inr ⟨a, e1, fun e => z.trk (e ▸ hp), (z.mv (more_own hp) fun o z _ => z).mv (Mv.gr T g) fun o z n => T.keep g z n⟩
theorem RepP.gr (T : Th K) (g : T.Gr H G) (h : RepP K H ow p v d) : RepP K G ow p v d := by
  rcases h with z | ⟨a, e1, n, z⟩
  · exact .inl (z.gr T g)
  · exact .inr ⟨a, e1, n, z.mv (Mv.gr T g) fun o z n => T.keep g z n⟩
theorem RepP.put {xs ys : List V} (hp : H p = some (.lst xs)) (h : RepP K H ow p v d) : RepP K (upd H p (.lst ys)) ow p v d := by
  have mp : Mv K H (fun a => ow a ∨ a = p) (upd H p (.lst ys)) (fun a => ow a ∨ a = p) := Mv.put hp (fun _ z => by cases z) (fun _ z => by cases z) (fun _ _ z => by cases z) (fun _ z => by cases z) (.inr rfl) fun a z => z
  rcases h with z | ⟨a, e1, n, z⟩
  · exact .inl (z.mv mp)
  · exact .inr ⟨a, e1, n, z.mv mp (fun o z2 _ => by rw [upd_ne n]; exact z2) (hl2 := fun _ => keepD_put n (by intro _ _ _ z; cases z))⟩
theorem RepP.putD {xs ys : List (Key × V)} (hp : H p = some (.dK xs)) (h : RepP K H ow p v d) : RepP K (upd H p (.dK ys)) ow p v d := by
  have mp : Mv K H (fun a => ow a ∨ a = p) (upd H p (.dK ys)) (fun a => ow a ∨ a = p) := Mv.put hp (fun _ z => by cases z) (fun _ z => by cases z) (fun _ _ z => by cases z) (fun _ z => by cases z) (.inr rfl) fun a z => z
  rcases h with z | ⟨a, e1, n, z⟩
  · exact .inl (z.mv mp)
  · exact .inr ⟨a, e1, n, z.mv mp (fun o z2 _ => by rw [upd_ne n]; exact z2) (hl2 := fun _ => keepD_put n (by intro _ _ _ z; cases z))⟩
end
section
variable {X : Cx} {T : Th X.K} {W : WX} {O is vs : List Nat} {tg iter elt : Expr} {ifs : List Expr} {φ : DI} {g : DG} {t : DT} {e : DX} {pos : Pos} {scope : Scope} {own : List (Str × Nat)}
theorem lc_aux {σ : L2.St} {H : Hp} {Q : VK} (hv : (vs.all fun i => fre O i) = true) (hi : (is.all fun i => vs.contains i) = true) (h : efOf T W O (xLc φ vs g t e) σ H Q) : tLc (ioOf T W O φ) (gOf T O is g) (tOf T W0 O t) (eOf T W0 O e) vs σ H Q := by
  obtain ⟨ρ, ow0, fr, A, Ax, ok, er, q, k, x⟩ := h
  have hV' : ∀ i ∈ vs, fre O i = true := fun i hi => List.all_eq_true.mp hv i hi
  have hV : ∀ i ∈ vs, i ∉ O := fun i hi => (fre_of (hV' i hi)).1
  have hI : ∀ i ∈ is, i ∈ vs := fun i h => by simpa using List.all_eq_true.mp hi i h
  refine ⟨ρ, ow0, fr, _, Ax, ok, er, q, fun items J H1 vd ⟨hl, qi⟩ ok1 g1 rvd wk p hp => ?_, x⟩
  have er1 := er.gr T g1
  obtain ⟨n1, n2⟩ := T.new (o := .lst []) ok1 hp rfl
  have er2 := (er1.more T hp n2).wipe hV'
  have eo : owOf (fun a => ow0 a ∨ a = p) O (wipe σ vs) = fun a => owOf ow0 O σ a ∨ a = p := by rw [ow_wipe hV, ow_more]
  refine ⟨fun i m G => m = items.length - i ∧ i ≤ items.length ∧ ∃ acc av, T.Ok G ∧ T.Gr H1 G ∧ ER X.K G (fun a => ow0 a ∨ a = p) { vd := fr.vd, iw := fun a => fr.iw a ∨ a = p } O (wipe σ vs) (wipeR ρ vs) ∧ (∀ q ∈ vd, RepP X.K G (owOf ow0 O σ) p q.1 q.2) ∧ G p = some (.lst av) ∧
      RepL X.K G (fun a => owOf ow0 O σ a ∨ a = p) av acc ∧ acc.length ≤ i ∧ lcL ρ vs g t e (items.drop i) acc fun ys => A (.lst ys), ⟨items.length, by simp, Nat.zero_le _, [], [], n1, n2, ⟨er2.val, er2.own, er2.frm, er2.dep, er2.nwq, er2.trk, er2.len, (fun v z => nomatch z), er2.sml⟩, fun q hq => ?_, upd_same, .nil, Nat.zero_le _, by rw [List.drop_zero]; exact qi⟩, ?_⟩
  · exact RepP.of (rvd q hq) T hp n2
  rintro i m G ⟨rfl, hi, acc, av, okG, gG, erG, rG, hG, lG, al, qG⟩
  have trG : ∀ a, (fun a => owOf ow0 O σ a ∨ a = p) a → G a ≠ none := by rw [← eo]; exact erG.otrk
  obtain ⟨w1, w2, w3⟩ := wk _ G okG trG fun q hq => (rG q hq).o
  by_cases hlt : i < items.length
  · refine .inr ⟨w1 i hlt, fun G' => i + 1 ≤ items.length ∧ ∃ acc av, T.Ok G' ∧ T.Gr H1 G' ∧ ER X.K G' (fun a => ow0 a ∨ a = p) { vd := fr.vd, iw := fun a => fr.iw a ∨ a = p } O (wipe σ vs) (wipeR ρ vs) ∧ (∀ q ∈ vd, RepP X.K G' (owOf ow0 O σ) p q.1 q.2) ∧ G' p = some (.lst av) ∧
      RepL X.K G' (fun a => owOf ow0 O σ a ∨ a = p) av acc ∧ acc.length ≤ i + 1 ∧ lcL ρ vs g t e (items.drop (i + 1)) acc fun ys => A (.lst ys), fun G' h' => ⟨items.length - (i + 1), by omega, rfl, h'⟩, fun x G2 y => ?_⟩
    obtain ⟨ok2, g2, d, hd, rx⟩ := w3 i x G2 hlt y
    have e1 : items.drop i = d :: items.drop (i + 1) := by
      rw [List.drop_eq_getElem_cons hlt]
      rw [List.getElem?_eq_getElem hlt] at hd
      rw [Option.some.inj hd]
    rw [e1] at qG
    have er3 := erG.gr T g2
    rw [← eo] at rx
    refine ⟨wipeR ρ vs, _, { vd := fr.vd, iw := fun a => fr.iw a ∨ a = p }, d, _, ok2, er3, rx, qG, fun τ ρ' erT sb qT => ⟨wipe_same sb hI, ?_⟩⟩
    have eoT : owOf (fun a => ow0 a ∨ a = p) O τ = fun a => owOf ow0 O σ a ∨ a = p := by
      rw [← eo]
      exact ow_same sb fun i z => hV i (hI i z)
    have lo : ∀ {L : Hp}, T.Gr G L → T.Ok L → lcL ρ vs g t e (items.drop (i + 1)) acc (fun ys => A (.lst ys)) → (i + 1 ≤ items.length ∧ ∃ acc av, T.Ok L ∧ T.Gr H1 L ∧ ER X.K L (fun a => ow0 a ∨ a = p) { vd := fr.vd, iw := fun a => fr.iw a ∨ a = p } O (wipe σ vs) (wipeR ρ vs) ∧ (∀ q ∈ vd, RepP X.K L (owOf ow0 O σ) p q.1 q.2) ∧ L p = some (.lst av) ∧
      RepL X.K L (fun a => owOf ow0 O σ a ∨ a = p) av acc ∧ acc.length ≤ i + 1 ∧ lcL ρ vs g t e (items.drop (i + 1)) acc fun ys => A (.lst ys)) := fun gL okL qL =>
      ⟨hlt, acc, av, okL, T.trans gG gL, erG.gr T gL, fun q hq => (rG q hq).gr T gL, T.keep gL hG (fun _ z => by cases z), lG.gr T gL, by omega, qL⟩
    refine ⟨ρ', _, { vd := fr.vd, iw := fun a => fr.iw a ∨ a = p }, _, _, ok2, erT, qT, fun b L qb okL gL => ?_, fun x d G a => absurd a (fun z => z)⟩
    have g3 := T.trans g2 gL
    cases b with
    | false => exact lo g3 okL qb
    | true =>
      refine ⟨ρ', _, { vd := fr.vd, iw := fun a => fr.iw a ∨ a = p }, _, _, okL, erT.gr T gL, qb, fun y v L2 qy okL2 gL2 ry => ?_, fun x d G a => absurd a (fun z => z)⟩
      have g4 := T.trans g3 gL2
      have hp4 := T.keep g4 hG (fun _ z => by cases z)
      have al2 : av.length < 100000 := by
        have h1 : av.length = acc.length := lG.length
        have h2 : items.length ≤ 100000 := hl
        omega
      refine ⟨av, hp4, sz_lt al2, hlt, acc ++ [y], av ++ [v], ?_⟩
      rw [eoT] at ry
      obtain ⟨p1, p2⟩ := T.put (o' := .lst (av ++ [v])) (T.trans gG g4) hp okL2 hp4 (fun _ z => by cases z) (fun _ z => by cases z) (fun _ z => by cases z) rfl rfl
      have mp : Mv X.K L2 (fun a => owOf ow0 O σ a ∨ a = p) (upd L2 p (.lst (av ++ [v]))) (fun a => owOf ow0 O σ a ∨ a = p) := Mv.put hp4 (fun _ z => by cases z) (fun _ z => by cases z) (fun _ _ z => by cases z) (fun _ z => by cases z) (.inr rfl) fun a z => z
      refine ⟨p1, p2, (erG.gr T g4).put0 hp4 (fun _ z => by cases z) (fun _ z => by cases z) (fun _ _ z => by cases z) (fun _ z => by cases z) (.inr rfl) (.inr rfl), fun q hq => ?_, upd_same, ((lG.gr T g4).mv mp).append (.cons (ry.mv mp) .nil), by rw [List.length_append]; show acc.length + 1 ≤ i + 1; omega, qy⟩
      exact RepP.put hp4 ((rG q hq).gr T g4)
  · have e1 : i = items.length := by omega
    subst e1
    rw [List.drop_length] at qG
    refine .inl ⟨w2, k _ _ G qG okG (T.trans g1 gG) ⟨p, rfl, T.back g1 hp, .lst hG ?_⟩⟩
    exact lG
end
end Dz
namespace Dz
open PySem PySem.Spec PyProof.Rows L2 Evl Bf
section
variable {X : Cx} {T : Th X.K} {W : WX} {fz : Nat} {O is vs Ol : List Nat} {tg iter elt : Expr} {ifs : List Expr} {φ : DI} {g : DG} {t : DT} {e : DX} {pos spos : Pos} {scope : Scope} {own : List (Str × Nat)}
theorem pts0 : PTs X [] (tOf T W O tYesD) := ⟨fun pins s σ H Q I ⟨ρ, ow0, fr, A, Ax, ok, er, q, k, x⟩ => pts_nil.run pins s σ H Q I (k true H q ok (T.refl H))⟩
theorem bf_lc (hc : X.calm = true) (hN : X.N.Nodup) (hi : PI X tg iter (ioOf T W O φ)) (ok : BlkOk X.N X.env.scope scope own)
    (hg : ∀ (s : Shared) (H : Hp) (C : Addr) (cl : List (Str × Addr)) (fp : List Addr), PG (X.blk s H scope (compEnvC scope cl C X.env) fp) tg (gOf (K := X.K) T O is g)) (ht : ∀ (s : Shared) (H : Hp) (C : Addr) (cl : List (Str × Addr)) (fp : List Addr), PTs (X.blk s H scope (compEnvC scope cl C X.env) fp) ifs (tOf (K := X.K) T W0 O t))
    (he : ∀ (s : Shared) (H : Hp) (C : Addr) (cl : List (Str × Addr)) (fp : List Addr), PE (X.blk s H scope (compEnvC scope cl C X.env) fp) elt (eOf (K := X.K) T W0 O e)) (hv : ((own.map (·.2)).all fun i => fre O i) = true) (hI : (is.all fun i => (own.map (·.2)).contains i) = true)
    (hs : ∀ x, foldedSetIterable iter X.env x = pure x := by intro _; rfl) : PE X (.ListComp elt [⟨tg, iter, ifs, 0⟩] scope pos) (efOf T W O (xLc φ (own.map (·.2)) g t e)) :=
  peI (pe_lc hc hN hi ok hg ht he hs) fun _ _ _ h => lc_aux hv hI h
theorem s_setLc {i : Nat} {y : Str} {py : Pos} (hc : X.calm = true) (hN : X.N.Nodup) (hy : X.N[i]? = some y) (hyl : X.env.scope.names.lookup y = some .local) (hsw : swapsWith (.ListComp elt [⟨tg, iter, ifs, 0⟩] scope pos) (some (.Name y py)) spos.line X.env = pure true)
    (hi : PI X tg iter (ioOf T W O φ)) (ok : BlkOk X.N X.env.scope scope own)
    (hg : ∀ (s : Shared) (H : Hp) (C : Addr) (cl : List (Str × Addr)) (fp : List Addr), PG (X.blk s H scope (compEnvC scope cl C X.env) fp) tg (gOf (K := X.K) T O is g)) (ht : ∀ (s : Shared) (H : Hp) (C : Addr) (cl : List (Str × Addr)) (fp : List Addr), PTs (X.blk s H scope (compEnvC scope cl C X.env) fp) ifs (tOf (K := X.K) T W0 O t))
    (he : ∀ (s : Shared) (H : Hp) (C : Addr) (cl : List (Str × Addr)) (fp : List Addr), PE (X.blk s H scope (compEnvC scope cl C X.env) fp) elt (eOf (K := X.K) T W0 O e)) (hv : ((own.map (·.2)).all fun i => fre O i) = true) (hI : (is.all fun i => (own.map (·.2)).contains i) = true)
    (hO : fre O i = true) (hs : ∀ x, foldedSetIterable iter X.env x = pure x := by intro _; rfl) : PS X (.Assign [.Name y py] (.ListComp elt [⟨tg, iter, ifs, 0⟩] scope pos) spos) (sOf T W fz O O Ol (sSet i (xLc φ (own.map (·.2)) g t e))) :=
  psI (ps_setLc hc hN hy hyl hsw hi ok hg ht he hs) fun M σ H h => by
    have z := set_aux hO M σ H h
    obtain ⟨ρ, ow0, fr, A, Ax, ok, er, q, k, x⟩ := z
    exact lc_aux hv hI ⟨ρ, ow0, fr, A, Ax, ok, er, q, fun d v G a o g r => k d v G a o g (r.rep er.otrk), x⟩
theorem s_setLcO {i : Nat} {y : Str} {py : Pos} (hc : X.calm = true) (hN : X.N.Nodup) (hy : X.N[i]? = some y) (hyl : X.env.scope.names.lookup y = some .local) (hsw : swapsWith (.ListComp elt [⟨tg, iter, ifs, 0⟩] scope pos) (some (.Name y py)) spos.line X.env = pure true)
    (hi : PI X tg iter (ioOf T W O φ)) (ok : BlkOk X.N X.env.scope scope own)
    (hg : ∀ (s : Shared) (H : Hp) (C : Addr) (cl : List (Str × Addr)) (fp : List Addr), PG (X.blk s H scope (compEnvC scope cl C X.env) fp) tg (gOf (K := X.K) T O is g)) (ht : ∀ (s : Shared) (H : Hp) (C : Addr) (cl : List (Str × Addr)) (fp : List Addr), PTs (X.blk s H scope (compEnvC scope cl C X.env) fp) ifs (tOf (K := X.K) T W0 O t))
    (he : ∀ (s : Shared) (H : Hp) (C : Addr) (cl : List (Str × Addr)) (fp : List Addr), PE (X.blk s H scope (compEnvC scope cl C X.env) fp) elt (eOf (K := X.K) T W0 O e)) (hv : ((own.map (·.2)).all fun i => fre O i) = true) (hI : (is.all fun i => (own.map (·.2)).contains i) = true)
    (hO : fre O i = true) (i0 : i ≠ 0 := by decide) (hs : ∀ x, foldedSetIterable iter X.env x = pure x := by intro _; rfl) : PS X (.Assign [.Name y py] (.ListComp elt [⟨tg, iter, ifs, 0⟩] scope pos) spos) (sOf T W fz O (i :: O) Ol (sSetO i (xLc φ (own.map (·.2)) g t e))) :=
  psI (ps_setLc hc hN hy hyl hsw hi ok hg ht he hs) fun M σ H h => lc_aux hv hI (setO_aux hO i0 M σ H h)
end
/-! ### what is one's own is changed -/
theorem own_disN {K : PySem.W.Frag} {H : Hp} {ow ow' : Addr → Prop} {a : Addr} {d : D} (ha : ow' a) (h4 : OwnR K H ow a d) (g : Rep K H ow' (.ref a) d) : False := by
  cases h4 with
  | lst _ _ => cases g with
    | lst _ n _ => exact n ha
  | dic _ _ => cases g with
    | dic _ n _ => exact n ha
  | ins _ _ => cases g with
    | ins _ n _ => exact n ha
  | dit _ _ _ => cases g with
    | dit _ _ n _ => exact n ha
theorem own_dis {K : PySem.W.Frag} {H : Hp} {ow ow0 : Addr → Prop} {a : Addr} {d : D} {fp : List Addr} {P : Addr → Prop} (h3 : ¬ ow0 a) (h4 : OwnR K H ow a d) (g3 : Own K H tt fp (.ref a) d) (g5 : ∀ b ∈ fp, ow0 b ∧ P b) : False := by
  cases h4 with
  | lst _ _ => cases g3 with
    | leaf r => cases r with
      | lst _ n _ => exact n trivial
    | lst _ _ => exact h3 (g5 a List.mem_cons_self).1
  | dic _ _ => cases g3 with
    | leaf r => cases r with
      | dic _ n _ => exact n trivial
    | dic _ _ => exact h3 (g5 a List.mem_cons_self).1
  | ins _ _ => cases g3 with
    | leaf r => cases r with
      | ins _ n _ => exact n trivial
    | ins _ _ => exact h3 (g5 a List.mem_cons_self).1
  | dit _ _ _ => cases g3 with
    | leaf r => cases r with
      | dit _ _ n _ => exact n trivial
theorem Sr.putG {K : PySem.W.Frag} {T : Th K} {H0 H : Hp} {owi ow0 : Addr → Prop} {fr : Fr} {O : List Nat} {σ : L2.St} {ρ : Ro} {i : Nat} {a : Addr} {o o' : HO} {d' : D} (s : Sr T H0 owi ow0 fr O σ H ρ) (hi : i ∈ O) (ha : σ[i]? = some (some (.ref a))) (ho : H a = some o)
    (n1 : ∀ xs, o ≠ .tup xs) (n3 : ∀ ob u, o ≠ .frz ob u) (n7 : ∀ vs, o ≠ .xd vs) (p1 : T.Ok (upd H a o')) (p2 : T.Gr H0 (upd H a o')) (n6 : isIns o' = false) (new : OwnR K (upd H a o') (owOf ow0 O σ) a d') : Sr T H0 owi ow0 fr O σ (upd H a o') (ρ.set i (some d')) := by
  have n8 : ∀ C dx fs, o' = .ins C dx fs → C ≠ He.ga K "Family" := fun C dx fs e => by rw [e] at n6; cases n6
  have m : Mv K H (owOf ow0 O σ) (upd H a o') (owOf ow0 O σ) := Mv.putA ho n1 n3 n7 (.inr ⟨i, hi, ha⟩) (fun a z => z) n8
  have hdp : i < dp := s.er.ltS ha
  obtain ⟨a', d, h1, h2, h3, h4, h5⟩ := s.er.own i hi hdp
  rw [ha] at h2
  cases h2
  have hl : i < ρ.length := (List.getElem?_eq_some_iff.mp h1).1
  refine ⟨p1, p2, ⟨fun j d2 hd hj hj2 => ?_, fun j hj l => ?_, fun q hq => (s.er.frm q hq).mv m, ?_, fun j hj => ?_, fun b hb => ?_, by rw [List.length_set]; exact s.er.len, s.er.slt, s.er.sml⟩, s.sub, s.new, s.iwH⟩
  · have c : i ≠ j := fun z => hj (z ▸ hi)
    rw [List.getElem?_set_ne c] at hd
    obtain ⟨v, e1, e2⟩ := s.er.val j d2 hd hj hj2
    exact ⟨v, e1, e2.mv m⟩
  · by_cases c : i = j
    · subst c
      rw [List.getElem?_set_self hl]
      exact ⟨a, d', rfl, ha, h3, new, h5⟩
    · obtain ⟨b, d2, e1, e2, e3, e4, e5⟩ := s.er.own j hj l
      rw [List.getElem?_set_ne c]
      have nb : b ≠ a := fun z => by subst z; exact c (e5 i hi ha)
      exact ⟨b, d2, e1, e2, e3, e4.mv m (fun o z _ => by rw [upd_ne nb]; exact z) (hl2 := fun _ => keepD_put nb n8), e5⟩
  · obtain ⟨rg, hd⟩ := s.er.dep
    refine ⟨rg, fun j l hj => ?_⟩
    have hk := (hd j l hj).mv (Mv.putA (o' := o') ho n1 n3 n7 trivial (fun a z => z) n8) (fun b z0 n o z _ => by rw [upd_ne (fun q : b = a => h3 (q ▸ z0))]; exact z) fun a z _ n => ⟨z, n⟩
    have c : i ≠ j := fun z => by
      obtain ⟨v, d', fp, g1, g2, g3, _, g5⟩ := hd j l hj
      subst z
      rw [ha] at g2
      cases g2
      rw [h1] at g1
      cases g1
      exact own_dis h3 h4 g3 g5
    rw [List.getElem?_set_ne c]
    exact hk
  · obtain ⟨v, d', g1, g2, g3⟩ := s.er.nwq j hj
    have c : i ≠ j := fun z => by
      subst z
      rw [ha] at g2
      cases g2
      rw [h1] at g1
      cases g1
      exact own_disN (.inl (.inr ⟨i, hi, ha⟩)) h4 g3
    rw [List.getElem?_set_ne c]
    exact ⟨v, d', g1, g2, g3.mv (Mv.putA ho n1 n3 n7 (.inl (.inr ⟨i, hi, ha⟩)) (fun a z => z) n8)⟩
  · rw [upd_ne (fun z : b = a => h3 (z ▸ hb))]
    exact s.er.trk b hb
theorem Sr.putO {K : PySem.W.Frag} {T : Th K} {H0 H : Hp} {owi ow0 : Addr → Prop} {fr : Fr} {O : List Nat} {σ : L2.St} {ρ : Ro} {i : Nat} {a : Addr} {o o' : HO} {d' : D} (s : Sr T H0 owi ow0 fr O σ H ρ) (hi : i ∈ O) (ha : σ[i]? = some (some (.ref a))) (ho : H a = some o)
    (n1 : ∀ xs, o ≠ .tup xs) (n2 : ∀ kvs, o ≠ .dT kvs) (n3 : ∀ ob u, o ≠ .frz ob u) (n7 : ∀ vs, o ≠ .xd vs) (n4 : isIns o = false) (n5 : ∀ kvs, o' ≠ .dT kvs) (n6 : isIns o' = false) (new : OwnR K (upd H a o') (owOf ow0 O σ) a d') : Sr T H0 owi ow0 fr O σ (upd H a o') (ρ.set i (some d')) :=
  have p := T.put (o' := o') s.gr (s.new i hi a ha) s.ok ho n1 n2 n5 n4 n6
  s.putG hi ha ho n1 n3 n7 p.1 p.2 n6 new
theorem Sr.putL {K : PySem.W.Frag} {T : Th K} {H0 H : Hp} {owi ow0 : Addr → Prop} {fr : Fr} {O : List Nat} {σ : L2.St} {ρ : Ro} {i : Nat} {a : Addr} {vs ws : List V} {ds : List D} (s : Sr T H0 owi ow0 fr O σ H ρ) (hi : i ∈ O) (ha : σ[i]? = some (some (.ref a))) (ho : H a = some (.lst vs))
    (r : RepL K H (owOf ow0 O σ) ws ds) : Sr T H0 owi ow0 fr O σ (upd H a (.lst ws)) (ρ.set i (some (.lst ds))) :=
  s.putO hi ha ho (fun _ z => by cases z) (fun _ z => by cases z) (fun _ _ z => by cases z) (fun _ z => by cases z) rfl (fun _ z => by cases z) rfl (.lst upd_same (r.mv (Mv.put ho (fun _ z => by cases z) (fun _ z => by cases z) (fun _ _ z => by cases z) (fun _ z => by cases z) (.inr ⟨i, hi, ha⟩) fun a z => z)))
theorem Sr.putD {K : PySem.W.Frag} {T : Th K} {H0 H : Hp} {owi ow0 : Addr → Prop} {fr : Fr} {O : List Nat} {σ : L2.St} {ρ : Ro} {i : Nat} {a : Addr} {vs ws : List (Key × V)} {ds : List (Key × D)} (s : Sr T H0 owi ow0 fr O σ H ρ) (hi : i ∈ O) (ha : σ[i]? = some (some (.ref a))) (ho : H a = some (.dK vs))
    (r : RepK K H (owOf ow0 O σ) ws ds) : Sr T H0 owi ow0 fr O σ (upd H a (.dK ws)) (ρ.set i (some (.dic ds))) :=
  s.putO hi ha ho (fun _ z => by cases z) (fun _ z => by cases z) (fun _ _ z => by cases z) (fun _ z => by cases z) rfl (fun _ z => by cases z) rfl (.dic upd_same (r.mv (Mv.put ho (fun _ z => by cases z) (fun _ z => by cases z) (fun _ _ z => by cases z) (fun _ z => by cases z) (.inr ⟨i, hi, ha⟩) fun a z => z)))
/-- one's own list: where it stands -/
theorem Sr.ownL {K : PySem.W.Frag} {T : Th K} {H0 H : Hp} {owi ow0 : Addr → Prop} {fr : Fr} {O : List Nat} {σ : L2.St} {ρ : Ro} {i : Nat} {ds : List D} (s : Sr T H0 owi ow0 fr O σ H ρ) (hi : i ∈ O) (hd : ρ[i]? = some (some (.lst ds))) :
    ∃ a vs, σ[i]? = some (some (.ref a)) ∧ H a = some (.lst vs) ∧ RepL K H (owOf ow0 O σ) vs ds := by
  obtain ⟨a, d, h1, h2, h3, h4, h5⟩ := s.er.own i hi (s.er.lt hd)
  rw [hd] at h1
  cases h1
  cases h4 with
  | lst e1 e2 => exact ⟨a, _, h2, e1, e2⟩
theorem Sr.ownD {K : PySem.W.Frag} {T : Th K} {H0 H : Hp} {owi ow0 : Addr → Prop} {fr : Fr} {O : List Nat} {σ : L2.St} {ρ : Ro} {i : Nat} {ds : List (Key × D)} (s : Sr T H0 owi ow0 fr O σ H ρ) (hi : i ∈ O) (hd : ρ[i]? = some (some (.dic ds))) :
    ∃ a vs, σ[i]? = some (some (.ref a)) ∧ H a = some (.dK vs) ∧ RepK K H (owOf ow0 O σ) vs ds := by
  obtain ⟨a, d, h1, h2, h3, h4, h5⟩ := s.er.own i hi (s.er.lt hd)
  rw [hd] at h1
  cases h1
  cases h4 with
  | dic e1 e2 => exact ⟨a, _, h2, e1, e2⟩
theorem Sr.ownTy {K : PySem.W.Frag} {T : Th K} {H0 H : Hp} {owi ow0 : Addr → Prop} {fr : Fr} {O : List Nat} {σ : L2.St} {ρ : Ro} {i : Nat} (s : Sr T H0 owi ow0 fr O σ H ρ) (hi : i ∈ O) {ds : List D} (hd : ρ[i]? = some (some (.lst ds))) : ∃ a, σ[i]? = some (some (.ref a)) ∧ tyV K "list" (.ref a) H := by
  obtain ⟨a, vs, h1, h2, _⟩ := s.ownL hi hd
  exact ⟨a, h1, .inl ⟨rfl, vs, .inl (.inl h2)⟩⟩
def sApp (i : Nat) (φ : DX) : DS := fun E ρ => ∃ xs, ρ[i]? = some (some (.lst xs)) ∧ xs.length < big ∧ φ ρ (fun d => E.nx (ρ.set i (some (.lst (xs ++ [d]))))) fun x => E.ex x ρ
def sClr (i : Nat) : DS := fun E ρ => ∃ xs, ρ[i]? = some (some (.lst xs)) ∧ E.nx (ρ.set i (some (.lst [])))
def sExt (i : Nat) (φ : DX) : DS := fun E ρ => ∃ xs, ρ[i]? = some (some (.lst xs)) ∧ φ ρ (fun d => ∃ ys, d = .lst ys ∧ xs.length + ys.length ≤ big ∧ E.nx (ρ.set i (some (.lst (xs ++ ys))))) fun x => E.ex x ρ
def sIns (i : Nat) (φ ψ : DX) : DS := fun E ρ => ∃ xs, ρ[i]? = some (some (.lst xs)) ∧ xs.length < big ∧ φ ρ (fun k => ψ ρ (fun d => ∃ n : Nat, k = .int n ∧ n < 2 ^ 62 ∧ E.nx (ρ.set i (some (.lst (xs.take n ++ [d] ++ xs.drop n))))) (fun x => E.ex x ρ)) fun x => E.ex x ρ
def sPut (i : Nat) (φk φv : DX) : DS := fun E ρ => ∃ kvs, ρ[i]? = some (some (.dic kvs)) ∧ kvs.length < big ∧ φv ρ (fun d => φk ρ (fun y => ∃ k, dKey y = some k ∧ E.nx (ρ.set i (some (.dic (putD kvs k d))))) (fun x => E.ex x ρ)) fun x => E.ex x ρ
theorem RepK.any {K : PySem.W.Frag} {H : Hp} {ow : Addr → Prop} (k : Key) : ∀ {vs : List (Key × V)} {ds : List (Key × D)}, RepK K H ow vs ds → (vs.any fun kv => decide (kv.1 = k)) = ds.any fun kv => decide (kv.1 = k)
  | _, _, .nil => rfl
  | _, _, .cons _ t => by rw [List.any_cons, List.any_cons, RepK.any k t]
theorem RepK.append {K : PySem.W.Frag} {H : Hp} {ow : Addr → Prop} : ∀ {vs ws : List (Key × V)} {ds es : List (Key × D)}, RepK K H ow vs ds → RepK K H ow ws es → RepK K H ow (vs ++ ws) (ds ++ es)
  | _, _, _, _, .nil, h => h
  | _, _, _, _, .cons r t, h => .cons r (RepK.append t h)
theorem RepK.put {K : PySem.W.Frag} {H : Hp} {ow : Addr → Prop} {k : Key} {v : V} {d : D} {vs : List (Key × V)} {ds : List (Key × D)} (r : RepK K H ow vs ds) (h : Rep K H ow v d) : RepK K H ow (putK vs k v) (putD ds k d) := by
  have mp : ∀ {vs : List (Key × V)} {ds : List (Key × D)}, RepK K H ow vs ds → RepK K H ow (vs.map fun kv => if kv.1 = k then (kv.1, v) else kv) (ds.map fun kv => if kv.1 = k then (kv.1, d) else kv) := by
    intro vs ds r
    induction vs generalizing ds with
    | nil => cases r; exact .nil
    | cons p t ih =>
      cases r with
      | @cons k' v' _ d' ds' r1 r2 =>
        rw [List.map_cons, List.map_cons]
        by_cases c : k' = k
        · show RepK K H ow ((if k' = k then (k', v) else (k', v')) :: _) ((if k' = k then (k', d) else (k', d')) :: _)
          rw [if_pos c, if_pos c]
          exact .cons h (ih r2)
        · show RepK K H ow ((if k' = k then (k', v) else (k', v')) :: _) ((if k' = k then (k', d) else (k', d')) :: _)
          rw [if_neg c, if_neg c]
          exact .cons r1 (ih r2)
  unfold putK putD
  rw [r.any k]
  by_cases c : (ds.any fun kv => decide (kv.1 = k)) = true
  · rw [if_pos c, if_pos c]; exact mp r
  · rw [if_neg c, if_neg c]; exact r.append (.cons h .nil)
section
variable {X : Cx} {T : Th X.K} {W : WX} {fz : Nat} {O Ol : List Nat} {e e2 : Expr} {φ ψ : DX} {pos pos2 pos3 pos4 : Pos} {i : Nat} {x : Str}
theorem s_app (hN : X.N[i]? = some x) (hv : Vis X.env.scope x) (hO : O.contains i = true) (he : PE X e (eOf T W O φ)) (hd : (x == ("__debug__" : Str)) = false := by decide) (hcd : (x == ("__classdict__" : Str)) = false := by decide)
    (hs1 : starEach [e] X.env = [(false, eval e X.env)] := by rfl)
    (hp : PE X (.Call (.Attribute (.Name x pos) "append" pos2) [e] [] pos3) (tBM X.K "list" rAppend (tVar i) (aOf T W O 1 (aCons φ aNil)))) (hs : swapsWith (.Call (.Attribute (.Name x pos) "append" pos2) [e] [] pos3) none pos4.line X.env = pure false := by rfl) :
    PS X (.Expr (.Call (.Attribute (.Name x pos) "append" pos2) [e] [] pos3) pos4) (sOf T W fz O O Ol (sApp i φ)) := by
  refine psI (ps_expr hp hs) fun M σ H ⟨ρ, H0, owi, ow0, fr, E, s, _, k, xs, hx, hl, q⟩ => ?_
  have hi : i ∈ O := by simpa using hO
  obtain ⟨a, e1, ty⟩ := s.ownTy hi hx
  refine ⟨.ref a, e1, ty, ρ, ow0, fr, on1 _, _, s.ok, s.er, q, fun ds vs G z _ ok g r => ?_, k.x s⟩
  obtain ⟨d, rfl, qd⟩ := on1_of z
  cases r with
  | cons r t =>
    cases t
    have sG := s.go ok g
    obtain ⟨a', vs, e2, e3, rs⟩ := sG.ownL hi hx
    rw [e1] at e2
    cases e2
    exact ⟨a, vs, _, rfl, rfl, e3, sz_lt (by rw [rs.length]; exact hl), k.nx _ _ _ ow0 (sG.putL hi e1 e3 (rs.append (.cons r .nil))) qd⟩
theorem s_clr (hN : X.N[i]? = some x) (hv : Vis X.env.scope x) (hO : O.contains i = true)
    (hp : PE X (.Call (.Attribute (.Name x pos) "clear" pos2) [] [] pos3) (tBM0 X.K "list" rClear (tVar i))) (hs : swapsWith (.Call (.Attribute (.Name x pos) "clear" pos2) [] [] pos3) none pos4.line X.env = pure false := by rfl) :
    PS X (.Expr (.Call (.Attribute (.Name x pos) "clear" pos2) [] [] pos3) pos4) (sOf T W fz O O Ol (sClr i)) := by
  refine psI (ps_expr hp hs) fun M σ H ⟨ρ, H0, owi, ow0, fr, E, s, _, k, xs, hx, q⟩ => ?_
  have hi : i ∈ O := by simpa using hO
  obtain ⟨a, e1, ty⟩ := s.ownTy hi hx
  obtain ⟨a', vs, e2, e3, rs⟩ := s.ownL hi hx
  rw [e1] at e2
  cases e2
  exact ⟨.ref a, e1, ty, a, vs, rfl, rfl, e3, k.nx _ _ _ ow0 (s.putL hi e1 e3 .nil) q⟩
theorem s_ext (hN : X.N[i]? = some x) (hv : Vis X.env.scope x) (hO : O.contains i = true)
    (hp : PE X (.Call (.Attribute (.Name x pos) "extend" pos2) [e] [] pos3) (tBM X.K "list" rExtend (tVar i) (aOf T W O 1 (aCons φ aNil)))) (hs : swapsWith (.Call (.Attribute (.Name x pos) "extend" pos2) [e] [] pos3) none pos4.line X.env = pure false := by rfl) :
    PS X (.Expr (.Call (.Attribute (.Name x pos) "extend" pos2) [e] [] pos3) pos4) (sOf T W fz O O Ol (sExt i φ)) := by
  refine psI (ps_expr hp hs) fun M σ H ⟨ρ, H0, owi, ow0, fr, E, s, _, k, xs, hx, q⟩ => ?_
  have hi : i ∈ O := by simpa using hO
  obtain ⟨a, e1, ty⟩ := s.ownTy hi hx
  refine ⟨.ref a, e1, ty, ρ, ow0, fr, on1 _, _, s.ok, s.er, q, fun ds vs G z _ ok g r => ?_, k.x s⟩
  obtain ⟨_, rfl, ys, rfl, hl, qd⟩ := on1_of z
  cases r with
  | cons r t =>
    cases t
    have sG := s.go ok g
    obtain ⟨a', vs, e2, e3, rs⟩ := sG.ownL hi hx
    rw [e1] at e2
    cases e2
    obtain ⟨b, ws, rfl, hb, rb⟩ := o_lst r.o
    exact ⟨a, b, vs, ws, rfl, rfl, e3, hb, by rw [rs.length, rb.length]; exact big_sz hl, k.nx _ _ _ ow0 (sG.putL hi e1 e3 (rs.append rb)) qd⟩
theorem s_ins (hN : X.N[i]? = some x) (hv : Vis X.env.scope x) (hO : O.contains i = true)
    (hp : PE X (.Call (.Attribute (.Name x pos) "insert" pos2) [e, e2] [] pos3) (tBM X.K "list" (fun x vs H Q => ∃ (l : Addr) (xs : List V) (i : Int) (y : V), x = .ref l ∧ vs = [.int i, y] ∧ H l = some (.lst xs) ∧ xs.length < sizeLine ∧ 0 ≤ i ∧ i < 2 ^ 63 ∧
    Q .non (upd H l (.lst (xs.take i.toNat ++ [y] ++ xs.drop i.toNat)))) (tVar i) (aOf T W O 2 (aCons φ (aCons ψ aNil))))) (hs : swapsWith (.Call (.Attribute (.Name x pos) "insert" pos2) [e, e2] [] pos3) none pos4.line X.env = pure false := by rfl) :
    PS X (.Expr (.Call (.Attribute (.Name x pos) "insert" pos2) [e, e2] [] pos3) pos4) (sOf T W fz O O Ol (sIns i φ ψ)) := by
  refine psI (ps_expr hp hs) fun M σ H ⟨ρ, H0, owi, ow0, fr, E, s, _, k, xs, hx, hl, q⟩ => ?_
  have hi : i ∈ O := by simpa using hO
  obtain ⟨a, e1, ty⟩ := s.ownTy hi hx
  refine ⟨.ref a, e1, ty, ρ, ow0, fr, on2 _, _, s.ok, s.er, q, fun ds vs G z _ ok g r => ?_, k.x s⟩
  obtain ⟨_, d, rfl, n, rfl, hn, qd⟩ := on2_of z
  cases r with
  | cons r1 t =>
    cases t with
    | cons r t =>
      cases t
      have sG := s.go ok g
      obtain ⟨a', vs, e2, e3, rs⟩ := sG.ownL hi hx
      rw [e1] at e2
      cases e2
      rw [rep_int r1]
      refine ⟨a, vs, n, _, rfl, rfl, e3, sz_lt (by rw [rs.length]; exact hl), by omega, by omega, k.nx _ _ _ ow0 (sG.putL hi e1 e3 ?_) qd⟩
      exact ((rs.take n).append (.cons r .nil)).append (rs.drop n)
theorem s_put (hu : X.A.units + 1 < cLine) (hN : X.N[i]? = some x) (hv : Vis X.env.scope x) (hO : O.contains i = true) (hk : PE X e (eOf T W O φ)) (he : PE X e2 (eOf T W O ψ)) (hd : (x == ("__debug__" : Str)) = false := by decide) (hcd : (x == ("__classdict__" : Str)) = false := by decide)
    (hs : swapsWith e2 (some (.Subscript (.Name x pos) e pos2)) pos3.line X.env = pure false := by rfl) : PS X (.Assign [.Subscript (.Name x pos) e pos2] e2 pos3) (sOf T W fz O O Ol (sPut i φ ψ)) := by
  refine psI (ps_dput hu (pe_var hN hv hd hcd) hk he hs) fun M σ H ⟨ρ, H0, owi, ow0, fr, E, s, _, k, kvs, hx, hl, q⟩ => ?_
  have hi : i ∈ O := by simpa using hO
  refine ⟨ρ, ow0, fr, _, _, s.ok, s.er, q, fun d v G qd ok g r => ?_, k.x s⟩
  have sG := s.go ok g
  obtain ⟨a, vs, e1, e3, rs⟩ := sG.ownD hi hx
  refine ⟨.ref a, e1, ρ, ow0, fr, _, _, sG.ok, sG.er, qd, fun y w J ⟨kk, e5, qk⟩ ok2 g2 r2 => ?_, k.x sG⟩
  have sJ := sG.go ok2 g2
  obtain ⟨a', vs2, e6, e7, rs2⟩ := sJ.ownD hi hx
  rw [e1] at e6
  cases e6
  rw [key_rep r2.o e5]
  exact ⟨a, _, rfl, DPut.k e7 (sz_lt (by rw [rs2.length]; exact hl)), k.nx _ _ _ ow0 (sJ.putD hi e1 e7 (rs2.put (r.gr T g2))) qk⟩
end
/-! ### raise -/
def sRaise (c f : Str) (φ : DX) : DS := fun E ρ => φ ρ (fun d => E.ex ⟨c, [(f, d)]⟩ ρ) fun x => E.ex x ρ
def sRaise2 (c f1 f2 : Str) (φ ψ : DX) : DS := fun E ρ => φ ρ (fun d => ψ ρ (fun d2 => E.ex ⟨c, [(f2, d2), (f1, d)]⟩ ρ) fun x => E.ex x ρ) fun x => E.ex x ρ
section
variable {X : Cx} {T : Th X.K} {W : WX} {fz : Nat} {O On Ol : List Nat} {e e' : Expr} {φ ψ : DX} {p pos pos2 : Pos} {x f f1 f2 : Str}
theorem s_raise (R : ExT X.prog X.w X.K X.mg X.base x f (He.ga X.K x)) (hc : X.calm = true) (tk : Takes X W) (hr : Room 2 X.A) (ha : PE X e (eOf T W O φ)) (hg : Gl X x := by rfl)
    (hdb : (x == ("__debug__" : Str)) = false := by decide) (he : starEach (e :: []) X.env = (false, eval e X.env) :: starEach [] X.env := by rfl) (hpl : (backTo pos (starEach [] X.env)).any (·.1) = false := by rfl) :
    PS X (.Raise (some (.Call (.Name x p) [e] [] pos)) none pos2) (sOf T W fz O On Ol (sRaise x f φ)) := by
  refine psI (ps_rx R hc tk hr (ba_cons ha ba_nil he) hg hdb he hpl) fun M σ H ⟨ρ, H0, owi, ow0, fr, E, s, _, k, q⟩ => ?_
  refine ⟨ρ, ow0, fr, on1 _, _, s.ok, s.er, q, fun ds vs G z _ ok g r => ?_, k.x s⟩
  obtain ⟨d, rfl, qd⟩ := on1_of z
  cases r with
  | cons r t =>
    cases t
    refine ⟨_, rfl, fun dd hd => ?_⟩
    obtain ⟨n1, n2⟩ := T.new (o := .xd [(f, _)]) ok hd rfl
    exact k.x s _ (some dd) _ qd n1 (T.trans g n2) ⟨_, upd_same, .cons (r.gr T n2) .nil⟩
theorem s_raise2 (R : ExT2 X.prog X.w X.K X.mg X.base x f1 f2 (He.ga X.K x)) (hc : X.calm = true) (tk : Takes X W) (hr : Room 2 X.A) (ha : PE X e (eOf T W O φ)) (hb : PE X e' (eOf T W O ψ)) (hg : Gl X x := by rfl)
    (hdb : (x == ("__debug__" : Str)) = false := by decide) (he : starEach (e :: [e']) X.env = (false, eval e X.env) :: starEach [e'] X.env := by rfl) (he2 : starEach [e'] X.env = [(false, eval e' X.env)] := by rfl) (hpl : (backTo pos (starEach [e'] X.env)).any (·.1) = false := by rfl) :
    PS X (.Raise (some (.Call (.Name x p) [e, e'] [] pos)) none pos2) (sOf T W fz O On Ol (sRaise2 x f1 f2 φ ψ)) := by
  refine psI (ps_rx2 R hc tk hr (ba_cons ha (ba_cons hb ba_nil he2) he) hg hdb he hpl) fun M σ H ⟨ρ, H0, owi, ow0, fr, E, s, _, k, q⟩ => ?_
  refine ⟨ρ, ow0, fr, on2 _, _, s.ok, s.er, q, fun ds vs G z _ ok g r => ?_, k.x s⟩
  obtain ⟨d, d2, rfl, qd⟩ := on2_of z
  cases r with
  | cons r t =>
    cases t with
    | cons r2 t =>
      cases t
      refine ⟨_, _, rfl, fun dd hd => ?_⟩
      obtain ⟨n1, n2⟩ := T.new (o := .xd [(f2, _), (f1, _)]) ok hd rfl
      exact k.x s _ (some dd) _ qd n1 (T.trans g n2) ⟨_, upd_same, .cons (r2.gr T n2) (.cons (r.gr T n2) .nil)⟩
end
/-! ### a def -/
def startD (m : Nat) (ds : List D) : Ro := ds.map some ++ List.replicate (m - ds.length) none
def fnD (fz : Nat) (m n : Nat) (φ : DS) : DF := fun ds A Ax => ds.length = n ∧ φ { nx := fun _ => fz = 0 ∧ A .non, rt := A, bk := fun _ => False, ct := fun _ => False, ex := fun x _ => Ax x } (startD m ds)
theorem start_er {K : PySem.W.Frag} {H : Hp} {ow iw : Addr → Prop} {N : List Str} {vs : List V} {ds : List D} (r : RepL K H ow vs ds) (tr : ∀ a, ow a → H a ≠ none) (hM : N.length ≤ dp) (hv : vs.length ≤ N.length) : ER K H ow { iw := iw } [] (start N vs) (startD N.length ds) := by
  have eo : owOf ow [] (start N vs) = ow := by
    funext a
    exact propext ⟨fun z => z.elim id fun ⟨i, hi, _⟩ => absurd hi List.not_mem_nil, .inl⟩
  refine ⟨fun i d hd _ _ => ?_, fun i hi => absurd hi List.not_mem_nil, fun p hp => absurd hp List.not_mem_nil, ⟨fun _ => 0, fun i _ hi => absurd hi List.not_mem_nil⟩, fun i hi => absurd hi List.not_mem_nil, tr, ?_, (fun v z => nomatch z), ?_⟩
  · rw [eo]
    unfold startD at hd
    unfold L2.start
    by_cases c : i < ds.length
    · rw [List.getElem?_append_left (by rw [List.length_map]; exact c), List.getElem?_map] at hd
      rw [List.getElem?_append_left (by rw [List.length_map, r.length]; exact c), List.getElem?_map]
      cases e : ds[i]? with
      | none => rw [e] at hd; cases hd
      | some d' =>
        rw [e] at hd
        cases hd
        obtain ⟨v, h1, h2⟩ := r.at' e
        exact ⟨v, by rw [h1]; rfl, h2⟩
    · rw [List.getElem?_append_right (by rw [List.length_map]; omega)] at hd
      have := List.mem_of_getElem? hd
      cases List.eq_of_mem_replicate this
  · unfold startD L2.start
    rw [List.length_append, List.length_append, List.length_map, List.length_map, List.length_replicate, List.length_replicate, r.length]
  · unfold L2.start
    rw [List.length_append, List.length_map, List.length_replicate]
    omega
section
variable {P : Program} {w : World} {K : PySem.W.Frag} {mg : Str → Option Value} {base : Heap} {x q : Str} {st : Stmt} {f : Addr} {fd : FuncData} {N ps : List Str} {k : Nat} {T : Th K} {fz : Nat} {On : List Nat} {φ : DS}
theorem ok_fn (F : FnS K x q st f fd) (S : FnScope N ps (defScope st))
    (hbody : ∀ (cdv : Value) (A : Around) (outer : List Env) (s : Shared) (H : Hp) (E : XK), Room k (A.deeper (envOfC q (defScope st) s.heap.objs.size f cdv)) →
      Takes (cxOf (L2.CX P w) P w K mg base N q (defScope st) f cdv A outer s H E) (fun cls d _ H => E cls d H) →
      PSs (cxOf (L2.CX P w) P w K mg base N q (defScope st) f cdv A outer s H E) (defBody st) (sOf (K := K) T (fun cls d _ H => E cls d H) fz [] On [] φ)) (hM : N.length ≤ dp := by decide) (hv : ps.length ≤ N.length := by decide) :
    FnOk P w K mg base (L2.CX P w) (k + 1) f fd ps (spOf T fz ps.length (fnD fz N.length ps.length φ)) := by
  refine okE F S (fun vs H Q E h => h.1) fun cdv A outer s H vs Q E hr h tk => ⟨_, hbody cdv A outer s H E hr tk, ?_⟩
  obtain ⟨hn, ds, ow, B, Bx, ok, tr, r, ⟨hd, q⟩, k1, k2⟩ := h
  refine ⟨startD N.length ds, H, ow, ow, { iw := fun a => H a ≠ none }, { nx := fun _ => fz = 0 ∧ B .non, rt := B, bk := fun _ => False, ct := fun _ => False, ex := fun x _ => Bx x }, ⟨ok, T.refl H, start_er r tr hM (by rw [hn]; exact hv), fun a z => ⟨z, tr a z⟩, fun i hi => absurd hi List.not_mem_nil, rfl⟩, tr, ⟨fun σ G ρ ow0 s ⟨e1, e2⟩ => ?_, fun v d G ok g p a => k1 d v G a ok g p, fun _ _ _ _ _ z => z, fun _ _ _ _ _ z => z, fun x d σ G ρ ow0 s xr a => ?_⟩, q⟩
  · subst e1
    exact k1 .non .non G e2 s.ok s.gr .non
  · refine k2 x d G a s.ok s.gr ?_
    cases d with
    | none => exact xr
    | some d =>
      obtain ⟨fvs, h1, h2⟩ := xr
      exact ⟨fvs, h1, h2.mv (Mv.less fun a z => .inl (s.sub a z).1)⟩
theorem fn_of_ok (F : FnS K x x st (He.ga K x) fd) (ok : FnOk P w K mg base (L2.CX P w) k (He.ga K x) fd ps (spOf T fz ps.length φF)) (g : mg x = some (.ref (He.ga K x)))
    (b : ∀ (kV doc pm : Value) (an : Option Addr) (cdv ct : Value) (us : List Value), us.length = ps.length → bindArgs (PySem.W.fnOf x x (defArgs st) (defBody st) (defScope st) .none kV doc pm an cdv ct) ⟨us, []⟩ = pure (ps.zip us)) :
    Fn P w T mg base k x ps fz φF := cal_of F ok g b
end
end Dz
namespace Dz
open PySem PySem.Spec PyProof.Rows L2 Evl Bf
/-! ### (a, b) = e; x = xs[::-1] -/
def sAsg (φ : DX) (g : DG) : DS := fun E ρ => φ ρ (fun d => g d ρ E.nx) fun x => E.ex x ρ
def dRev : D → Option D
  | .lst xs => some (.lst xs.reverse)
  | _ => none
section
variable {X : Cx} {T : Th X.K} {W : WX} {fz : Nat} {O is Ol : List Nat} {tg e : Expr} {φ : DX} {g : DG} {pos : Pos}
theorem s_asg (he : PE X e (eOf T W O φ)) (hg : PG X tg (gOf T O is g)) (hd : (is.all fun i => fre O i) = true) (hs : swapsWithSole [tg] e pos.line X.env = pure false := by rfl) (hw : swappedStores [tg] e X.env = pure none := by rfl)
    (h1 : (assignEach [tg] X.env).map (·.2) = [assign tg X.env] := by rfl) : PS X (.Assign [tg] e pos) (sOf T W fz O O Ol (sAsg φ g)) := by
  refine psI (ps_asg he hg hs hw h1) fun M σ H ⟨ρ, H0, owi, ow0, fr, E, s, _, k, q⟩ => ⟨ρ, ow0, fr, _, _, s.ok, s.er, q, fun d v G qd ok g r => ?_, k.x s⟩
  have sG := s.go ok g
  exact ⟨ρ, ow0, fr, d, _, sG.ok, sG.er, r, qd, fun τ ρ' er sb q' => k.nx τ G ρ' ow0 (sG.er_set er sb fun i hi => (fre_of (List.all_eq_true.mp hd i hi)).1) q'⟩
theorem be_rev {kk : Nat} {p1 p2 p3 : Pos} (he : PE X e (eoOf T W O φ)) : PE X (.Subscript e (.Slice none none (some (.UnaryOp .USub (.Constant (.int 1) kk p1) p2)) p3) pos) (eOf T W O (xOp1 dRev φ)) :=
  peI (pe_revL he) fun σ H Q ⟨ρ, ow0, fr, A, Ax, ok, er, q, k, x⟩ => ⟨ρ, ow0, fr, _, Ax, ok, er, q, fun d v G ⟨z, ez, qz⟩ okG gG rv => (by
    unfold dRev at ez
    split at ez
    · cases ez
      obtain ⟨p, ws, rfl, hp, rp⟩ := o_lst rv
      refine ⟨p, ws, rfl, .inl (.inl hp), fun y hy => ?_⟩
      obtain ⟨h1, h2, h3⟩ := new_lst okG (er.gr T gG).otrk hy rp.rev
      exact k _ _ _ qz h1 (T.trans gG h2) h3
    · cases ez), x⟩
end
/-! ### expressions that take out of one's own lists -/
abbrev DM := Ro → (D → Ro → Prop) → XQ → Prop
def mOf {K : PySem.W.Frag} (T : Th K) (W : WX) (O : List Nat) (φ : DM) : TE := fun σ H Q => ∃ ρ H0 owi ow0 fr A Ax, Sr T H0 owi ow0 fr O σ H ρ ∧ φ ρ A Ax ∧ (∀ d ρ' v G, A d ρ' → Sr T H0 owi ow0 fr O σ G ρ' → Rep K G (owOf ow0 O σ) v d → Q v G) ∧ XOk T W H (owOf ow0 O σ) σ Ax
def xPopAt (i : Nat) (φ : DX) : DM := fun ρ A Ax => ∃ xs, ρ[i]? = some (some (.lst xs)) ∧ φ ρ (fun d => ∃ (k : Nat) (y : D), d = .int k ∧ xs[k]? = some y ∧ k < big ∧ A y (ρ.set i (some (.lst (xs.eraseIdx k))))) Ax
def xPop (i : Nat) : DM := fun ρ A _ => ∃ xs y, ρ[i]? = some (some (.lst xs)) ∧ xs[xs.length - 1]? = some y ∧ A y (ρ.set i (some (.lst xs.dropLast)))
def sSetM (i : Nat) (φ : DM) : DS := fun E ρ => φ ρ (fun d ρ' => E.nx (ρ'.set i (some d))) fun x => E.ex x ρ
def sAppM (i : Nat) (φ : DM) : DS := fun E ρ => (∃ xs, ρ[i]? = some (some (.lst xs))) ∧ φ ρ (fun d ρ' => ∃ xs, ρ'[i]? = some (some (.lst xs)) ∧ xs.length < big ∧ E.nx (ρ'.set i (some (.lst (xs ++ [d]))))) fun x => E.ex x ρ
theorem RepL.dropLast {K : PySem.W.Frag} {H : Hp} {ow : Addr → Prop} {vs : List V} {ds : List D} (r : RepL K H ow vs ds) : RepL K H ow vs.dropLast ds.dropLast := by
  rw [List.dropLast_eq_take, List.dropLast_eq_take, r.length]
  exact r.take _
section
variable {X : Cx} {T : Th X.K} {W : WX} {fz : Nat} {O Ol : List Nat} {e : Expr} {φ : DX} {ψ : DM} {pos pos2 pos3 pos4 : Pos} {i : Nat} {x : Str}
theorem m_popAt (hN : X.N[i]? = some x) (hv : Vis X.env.scope x) (hO : O.contains i = true) (he : PE X e (eOf T W O φ))
    (hp : PE X (.Call (.Attribute (.Name x pos) "pop" pos2) [e] [] pos3) (tBM X.K "list" rPopAt (tVar i) (aOf T W O 1 (aCons φ aNil)))) : PE X (.Call (.Attribute (.Name x pos) "pop" pos2) [e] [] pos3) (mOf T W O (xPopAt i φ)) := by
  refine peI hp fun σ H Q ⟨ρ, H0, owi, ow0, fr, A, Ax, s, ⟨xs, hx, q⟩, k, xk⟩ => ?_
  have hi : i ∈ O := by simpa using hO
  obtain ⟨a, e1, ty⟩ := s.ownTy hi hx
  refine ⟨.ref a, e1, ty, ρ, ow0, fr, on1 _, _, s.ok, s.er, q, fun ds vs G z _ ok g r => ?_, xk⟩
  obtain ⟨_, rfl, kk, y, rfl, hy, hk, qd⟩ := on1_of z
  cases r with
  | cons r t =>
    cases t
    have sG := s.go ok g
    obtain ⟨a', vs, e2, e3, rs⟩ := sG.ownL hi hx
    rw [e1] at e2
    cases e2
    obtain ⟨v, hv1, hv2⟩ := rs.at' hy
    rw [rep_int r]
    have hlt : kk < vs.length := (List.getElem?_eq_some_iff.mp hv1).1
    have hb : kk < 100000 := hk
    refine ⟨a, vs, kk, kk, v, rfl, rfl, e3, by omega, by omega, seqIx hlt, hv1, ?_⟩
    have sP := sG.putL hi e1 e3 (rs.erase kk)
    exact k y _ v _ qd sP (hv2.mv (Mv.put e3 (fun _ z => by cases z) (fun _ z => by cases z) (fun _ _ z => by cases z) (fun _ z => by cases z) (.inr ⟨i, hi, e1⟩) fun a z => z))
theorem m_pop (hN : X.N[i]? = some x) (hv : Vis X.env.scope x) (hO : O.contains i = true)
    (hp : PE X (.Call (.Attribute (.Name x pos) "pop" pos2) [] [] pos3) (tBM0 X.K "list" rPop (tVar i))) : PE X (.Call (.Attribute (.Name x pos) "pop" pos2) [] [] pos3) (mOf T W O (xPop i)) := by
  refine peI hp fun σ H Q ⟨ρ, H0, owi, ow0, fr, A, Ax, s, ⟨xs, y, hx, hy, q⟩, k, xk⟩ => ?_
  have hi : i ∈ O := by simpa using hO
  obtain ⟨a, e1, ty⟩ := s.ownTy hi hx
  obtain ⟨a', vs, e2, e3, rs⟩ := s.ownL hi hx
  rw [e1] at e2
  cases e2
  obtain ⟨v, hv1, hv2⟩ := rs.at' hy
  refine ⟨.ref a, e1, ty, a, vs, v, rfl, rfl, e3, by rw [rs.length]; exact hv1, ?_⟩
  exact k y _ v _ q (s.putL hi e1 e3 rs.dropLast) (hv2.mv (Mv.put e3 (fun _ z => by cases z) (fun _ z => by cases z) (fun _ _ z => by cases z) (fun _ z => by cases z) (.inr ⟨i, hi, e1⟩) fun a z => z))
theorem s_setM {pos' : Pos} (hN : X.N.Nodup) (hi : X.N[i]? = some x) (hx : Loc X.env.scope x) (hO : fre O i = true) (he : PE X e (mOf T W O ψ)) (hs : swapsWith e (some (.Name x pos')) pos.line X.env = pure false := by rfl)
    (hf : X.fn x = true ∨ X.env.scope.names.lookup x = some .local := by first | exact .inl rfl | exact .inr rfl | assumption) : PS X (.Assign [.Name x pos'] e pos) (sOf T W fz O O Ol (sSetM i ψ)) :=
  psI (ps_set hN hi hx he hs hf) fun M σ H ⟨ρ, H0, owi, ow0, fr, E, s, _, k, q⟩ => ⟨ρ, H0, owi, ow0, fr, _, _, s, q, fun d ρ' v G qd sG r => k.nx _ G _ ow0 (sG.set hO r) qd, k.x s⟩
theorem s_appM (hN : X.N[i]? = some x) (hv : Vis X.env.scope x) (hO : O.contains i = true) (he : PE X e (mOf T W O ψ))
    (hp : PE X (.Call (.Attribute (.Name x pos) "append" pos2) [e] [] pos3) (tBM X.K "list" rAppend (tVar i) (tCons (mOf T W O ψ) tNil))) (hs : swapsWith (.Call (.Attribute (.Name x pos) "append" pos2) [e] [] pos3) none pos4.line X.env = pure false := by rfl) :
    PS X (.Expr (.Call (.Attribute (.Name x pos) "append" pos2) [e] [] pos3) pos4) (sOf T W fz O O Ol (sAppM i ψ)) := by
  refine psI (ps_expr hp hs) fun M σ H ⟨ρ, H0, owi, ow0, fr, E, s, _, k, ⟨xs, hx⟩, q⟩ => ?_
  have hi : i ∈ O := by simpa using hO
  obtain ⟨a, e1, ty⟩ := s.ownTy hi hx
  refine ⟨.ref a, e1, ty, ρ, H0, owi, ow0, fr, _, _, s, q, fun d ρ' v G ⟨ys, hy, hl, qd⟩ sG r => ?_, k.x s⟩
  obtain ⟨a', vs, e2, e3, rs⟩ := sG.ownL hi hy
  rw [e1] at e2
  cases e2
  exact ⟨a, vs, _, rfl, rfl, e3, sz_lt (by rw [rs.length]; exact hl), k.nx _ _ _ ow0 (sG.putL hi e1 e3 (rs.append (.cons r .nil))) qd⟩
end
/-! ### fields -/
def xFld (c f : Str) (φ : DX) : DX := fun ρ A Ax => φ ρ (fun x => ∃ fs z, x = .ins c fs ∧ fs.lookup f = some z ∧ A z) Ax
theorem o_ins {K : PySem.W.Frag} {H : Hp} {ow : Addr → Prop} {v : V} {c : Str} {ds : List (Str × D)} (h : RepO K H ow v (.ins c ds)) : ∃ a dx vs, v = .ref a ∧ H a = some (.ins (He.ga K c) dx vs) ∧ RepF K H ow vs ds := by
  rcases h with h | ⟨a, e, h⟩
  · cases h with
    | ins a b c => exact ⟨_, _, _, rfl, a, c⟩
  · cases h with
    | ins b c => exact ⟨a, _, _, e, b, c⟩
theorem RepF.look {K : PySem.W.Frag} {H : Hp} {ow : Addr → Prop} (f : Str) : ∀ {vs : List (Str × V)} {ds : List (Str × D)}, RepF K H ow vs ds → (∃ v d, vs.lookup f = some v ∧ ds.lookup f = some d ∧ Rep K H ow v d) ∨ (vs.lookup f = none ∧ ds.lookup f = none)
  | _, _, .nil => .inr ⟨rfl, rfl⟩
  | _, _, .cons (k := k) r t => by
    rw [List.lookup_cons, List.lookup_cons]
    cases c : f == k with
    | true => exact .inl ⟨_, _, rfl, rfl, r⟩
    | false => exact RepF.look f t
def putFD (f : Str) (d : D) : List (Str × D) → List (Str × D)
  | [] => [(f, d)]
  | (g, e) :: r => if g = f then (f, d) :: r else (g, e) :: putFD f d r
def sFld' (i : Nat) (c f : Str) (φ : DX) : DS := fun E ρ => ∃ fs, ρ[i]? = some (some (.ins c fs)) ∧ fs.length < 1000 ∧ φ ρ (fun d => E.nx (ρ.set i (some (.ins c (putFD f d fs))))) fun x => E.ex x ρ
section
variable {X : Cx} {T : Th X.K} {W : WX} {fz : Nat} {O Ol : List Nat} {e value : Expr} {φ ψ : DX} {pos pos' pos2 : Pos} {i : Nat} {c f x : Str}
theorem be_fld (hc : Cls X.K (He.ga X.K c)) (hn : NoAttr X.K (He.ga X.K c) f) (he : PE X e (eoOf T W O φ)) (hb : attributeBase e f X.env (eval e X.env) = eval e X.env) : PE X (.Attribute e f pos) (eOf T W O (xFld c f φ)) :=
  peI (pe_fld he hb) fun σ H Q ⟨ρ, ow0, fr, A, Ax, ok, er, q, k, x⟩ => ⟨ρ, ow0, fr, _, Ax, ok, er, q, fun d v G ⟨fs, z, e1, e2, qz⟩ okG gG rv => (by
    subst e1
    obtain ⟨a, dx, vs, rfl, ha, ra⟩ := o_ins rv
    rcases ra.look f with ⟨v, d, h1, h2, h3⟩ | ⟨_, h2⟩
    · rw [e2] at h2
      cases h2
      exact ⟨a, _, dx, vs, v, rfl, ha, hc, hn, h1, k _ _ G qz okG gG h3⟩
    · rw [e2] at h2; cases h2), x⟩
theorem RepF.put {K : PySem.W.Frag} {H : Hp} {ow : Addr → Prop} {f : Str} {v : V} {d : D} (h : Rep K H ow v d) : ∀ {vs : List (Str × V)} {ds : List (Str × D)}, RepF K H ow vs ds → RepF K H ow (putF f v vs) (putFD f d ds)
  | _, _, .nil => .cons h .nil
  | _, _, .cons (k := k) (v := v') (vs := vs) (d := d') (ds := ds) r t => by
    unfold putF putFD
    by_cases c : k = f
    · subst c
      first
        | (rw [if_pos rfl, if_pos rfl]; exact .cons h t)
        | (simp; exact .cons h t)
    · rw [if_neg c]
      first
        | (rw [if_neg c]; exact .cons r (RepF.put h t))
        | (rw [if_neg (by simpa using c)]; exact .cons r (RepF.put h t))
theorem RepF.length {K : PySem.W.Frag} {H : Hp} {ow : Addr → Prop} : ∀ {vs : List (Str × V)} {ds : List (Str × D)}, RepF K H ow vs ds → vs.length = ds.length
  | _, _, .nil => rfl
  | _, _, .cons _ t => by rw [List.length_cons, List.length_cons, RepF.length t]
theorem Sr.putI {K : PySem.W.Frag} {T : Th K} {H0 H : Hp} {owi ow0 : Addr → Prop} {fr : Fr} {σ : L2.St} {ρ : Ro} {a dx : Addr} {c : Str} {vs ws : List (Str × V)} {ds : List (Str × D)} (s : Sr T H0 owi ow0 fr O σ H ρ) (hi : i ∈ O) (ha : σ[i]? = some (some (.ref a))) (ho : H a = some (.ins (He.ga K c) dx vs))
    (nf : He.ga K c ≠ He.ga K "Family") (r : RepF K H (owOf ow0 O σ) ws ds) : Sr T H0 owi ow0 fr O σ (upd H a (.ins (He.ga K c) dx ws)) (ρ.set i (some (.ins c ds))) := by
  obtain ⟨p1, p2⟩ := T.fput (fs' := ws) s.gr (s.new i hi a ha) s.ok ho nf
  have n8 : ∀ C dx' fs, HO.ins (He.ga K c) dx ws = .ins C dx' fs → C ≠ He.ga K "Family" := fun C dx' fs e => by cases e; exact nf
  have m : Mv K H (owOf ow0 O σ) (upd H a (.ins (He.ga K c) dx ws)) (owOf ow0 O σ) := Mv.put ho (fun _ z => by cases z) (fun _ z => by cases z) (fun _ _ z => by cases z) (fun _ z => by cases z) (.inr ⟨i, hi, ha⟩) (fun a z => z) n8
  have hdp : i < dp := s.er.ltS ha
  obtain ⟨a', d, h1, h2, h3, h4, h5⟩ := s.er.own i hi hdp
  rw [ha] at h2
  cases h2
  have hl : i < ρ.length := (List.getElem?_eq_some_iff.mp h1).1
  refine ⟨p1, p2, ⟨fun j d2 hd hj hj2 => ?_, fun j hj l => ?_, fun q hq => (s.er.frm q hq).mv m, ?_, fun j hj => ?_, fun b hb => ?_, by rw [List.length_set]; exact s.er.len, s.er.slt, s.er.sml⟩, s.sub, s.new, s.iwH⟩
  · have c : i ≠ j := fun z => hj (z ▸ hi)
    rw [List.getElem?_set_ne c] at hd
    obtain ⟨v, e1, e2⟩ := s.er.val j d2 hd hj hj2
    exact ⟨v, e1, e2.mv m⟩
  · by_cases c : i = j
    · subst c
      rw [List.getElem?_set_self hl]
      exact ⟨a, _, rfl, ha, h3, .ins upd_same (r.mv m), h5⟩
    · obtain ⟨b, d2, e1, e2, e3, e4, e5⟩ := s.er.own j hj l
      rw [List.getElem?_set_ne c]
      have nb : b ≠ a := fun z => by subst z; exact c (e5 i hi ha)
      exact ⟨b, d2, e1, e2, e3, e4.mv m (fun o z _ => by rw [upd_ne nb]; exact z) (hl2 := fun _ => keepD_put nb n8), e5⟩
  · obtain ⟨rg, hd⟩ := s.er.dep
    refine ⟨rg, fun j l hj => ?_⟩
    have hk := (hd j l hj).mv (Mv.put (o' := .ins (He.ga K c) dx ws) ho (fun _ z => by cases z) (fun _ z => by cases z) (fun _ _ z => by cases z) (fun _ z => by cases z) trivial (fun a z => z) n8) (fun b z0 n o z _ => by rw [upd_ne (fun q : b = a => h3 (q ▸ z0))]; exact z) fun a z _ n => ⟨z, n⟩
    have c : i ≠ j := fun z => by
      obtain ⟨v, d', fp, g1, g2, g3, _, g5⟩ := hd j l hj
      subst z
      rw [ha] at g2
      cases g2
      rw [h1] at g1
      cases g1
      exact own_dis h3 h4 g3 g5
    rw [List.getElem?_set_ne c]
    exact hk
  · obtain ⟨v, d', g1, g2, g3⟩ := s.er.nwq j hj
    have c : i ≠ j := fun z => by
      subst z
      rw [ha] at g2
      cases g2
      rw [h1] at g1
      cases g1
      exact own_disN (.inl (.inr ⟨i, hi, ha⟩)) h4 g3
    rw [List.getElem?_set_ne c]
    exact ⟨v, d', g1, g2, g3.mv (Mv.put ho (fun _ z => by cases z) (fun _ z => by cases z) (fun _ _ z => by cases z) (fun _ z => by cases z) (.inl (.inr ⟨i, hi, ha⟩)) (fun a z => z) n8)⟩
  · rw [upd_ne (fun z : b = a => h3 (z ▸ hb))]
    exact s.er.trk b hb
theorem s_fld (hN : X.N[i]? = some x) (hv : Vis X.env.scope x) (hO : O.contains i = true) (hc : Cls X.K (He.ga X.K c)) (hn : NoAttr X.K (He.ga X.K c) f) (nf : He.ga X.K c ≠ He.ga X.K "Family") (he : PE X value (eOf T W O φ)) (hd : (x == ("__debug__" : Str)) = false := by decide) (hcd : (x == ("__classdict__" : Str)) = false := by decide)
    (hs : swapsWith value (some (.Attribute (.Name x pos) f pos')) pos2.line X.env = pure false := by rfl) : PS X (.Assign [.Attribute (.Name x pos) f pos'] value pos2) (sOf T W fz O O Ol (sFld' i c f φ)) := by
  refine psI (ps_fld (pe_var hN hv hd hcd) he hs) fun M σ H ⟨ρ, H0, owi, ow0, fr, E, s, _, k, fs, hx, hl, q⟩ => ?_
  have hi : i ∈ O := by simpa using hO
  refine ⟨ρ, ow0, fr, _, _, s.ok, s.er, q, fun d v G qd ok g r => ?_, k.x s⟩
  have sG := s.go ok g
  obtain ⟨a, d', e1, e2, _, e4, _⟩ := sG.er.own i hi (sG.er.lt hx)
  rw [hx] at e1
  cases e1
  cases e4 with
  | ins h1 h2 => exact ⟨.ref a, e2, a, _, _, _, rfl, h1, hc, hn, by rw [h2.length]; exact hl, k.nx _ _ _ ow0 (sG.putI hi e2 h1 nf (RepF.put r h2)) qd⟩
end
/-! ### instances made -/
def spIni {K : PySem.W.Frag} (T : Th K) (c : Str) (n : Nat) (F : DF) : Sp := fun vs H Q E => vs.length = n + 1 ∧ ∃ y dy ds ws ow A Ax H1, vs = .ref y :: ws ∧ H = upd (upd H1 dy (.own y)) y (.ins (He.ga K c) dy []) ∧ H1 y = none ∧ H1 dy = none ∧ dy ≠ y ∧
  T.Ok H1 ∧ (∀ a, ow a → H1 a ≠ none) ∧ RepL K H1 ow ws ds ∧ F ds A Ax ∧ (∀ fs G, A (.ins c fs) → T.Ok G → T.Gr H1 G → OwnR K G (fun a => ow a ∨ a = y) y (.ins c fs) → Q .non G) ∧
  (∀ x d G, Ax x → T.Ok G → T.Gr H1 G → XRep K G ow d x → E (.ref (He.ga K x.cls)) d G)
/-- what is known of a class that is made by its __init__ -/
structure MkD (P : Program) (w : World) {K : PySem.W.Frag} (T : Th K) (mg : Str → Option Value) (base : Heap) (k : Nat) (c : Str) (n : Nat) (F : DF) : Prop where
  g : mg c = some (.ref (He.ga K c))
  ex : ∃ (fi : Addr) (fd : FuncData) (ps : List Str), Mk K (He.ga K c) fi ∧ FnOk P w K mg base (L2.CX P w) k fi fd ps (spIni T c n F) ∧ Binds K fd ps []
theorem MkD.to {P : Program} {w : World} {K : PySem.W.Frag} {T : Th K} {mg : Str → Option Value} {base : Heap} {k n : Nat} {c : Str} {F F' : DF} (M : MkD P w T mg base k c n F) (h : ∀ ds A Ax, F' ds A Ax → F ds A Ax) : MkD P w T mg base k c n F' := by
  obtain ⟨g, fi, fd, ps, h1, h2, h3⟩ := M
  refine ⟨g, fi, fd, ps, h1, h2.imp fun vs H Q E ⟨l, y, dy, ds, ws, ow, A, Ax, H1, a1, a2, a3, a4, a5, a6, a7, a8, a9, a10⟩ => ⟨l, y, dy, ds, ws, ow, A, Ax, H1, a1, a2, a3, a4, a5, a6, a7, a8, h _ _ _ a9, a10⟩, h3⟩
section
variable {X : Cx} {T : Th X.K} {W : WX} {O : List Nat} {e : Expr} {es : List Expr} {φs : DA} {pos p : Pos} {k n : Nat} {c : Str} {F : DF}
theorem mk_aux {σ : L2.St} {H : Hp} {Q : VK} (h : efOf T W O (xFn F φs) σ H Q) (hF : ∀ ds A Ax, F ds A Ax → F ds (fun d => ∃ fs, d = .ins c fs ∧ A d) Ax) : tMkS (He.ga X.K c) (spIni T c n F) (WE W) (aOf T W O n φs) σ H Q := by
  obtain ⟨ρ, ow0, fr, A, Ax, ok, er, q, k, x⟩ := h
  refine ⟨ρ, ow0, fr, _, Ax, ok, er, q, fun ds vs G qs hn okG gG rs y dy hy hdy ne => ?_, x⟩
  refine ⟨by rw [List.length_cons, hn], y, dy, ds, vs, owOf ow0 O σ, _, Ax, G, rfl, rfl, hy, hdy, ne, okG, (er.gr T gG).otrk, rs, hF _ _ _ qs, fun fs J ⟨fs', e1, a⟩ o g r => ⟨rfl, ?_⟩, fun z d J a o g r => x z d J a o (T.trans gG g) r⟩
  exact k _ _ J a o (T.trans gG g) ⟨y, rfl, T.back gG hy, r⟩
/-- C(..): a new thing of one's own -/
theorem bf_mk (M : MkD X.prog X.w T X.mg X.base k c n F) (hF : ∀ ds A Ax, F ds A Ax → F ds (fun d => ∃ fs, d = .ins c fs ∧ A d) Ax) (hr : Room (k + 1) X.A) (tk : Takes X W) (ha : PA X (e :: es) (aOf T W O n φs)) (hg : Gl X c := by rfl)
    (hdb : (c == ("__debug__" : Str)) = false := by decide) (he : starEach (e :: es) X.env = (false, eval e X.env) :: starEach es X.env := by rfl) (hpl : (backTo pos (starEach es X.env)).any (·.1) = false := by rfl) :
    PE X (.Call (.Name c p) (e :: es) [] pos) (efOf T W O (xFn F φs)) := by
  obtain ⟨fi, fd, ps, h1, h2, h3⟩ := M.ex
  exact peI (pe_mkS h1 h2 hr M.g h3 (fun σ => passAt tk σ) ha hg hdb he hpl) fun _ _ _ h => mk_aux h hF
end
/-! ### an __init__ -/
def iniD (c : Str) (m n : Nat) (φ : DS) : DF := fun ds A Ax => ds.length = n ∧ φ { nx := fun ρ => ∃ fs, ρ[0]? = some (some (.ins c fs)) ∧ A (.ins c fs), rt := fun _ => False, bk := fun _ => False, ct := fun _ => False, ex := fun x _ => Ax x } (some (.ins c []) :: startD (m - 1) ds)
theorem iniD_ins {c : Str} {m n : Nat} {φ : DS} (ds : List D) (A : D → Prop) (Ax : XQ) (h : iniD c m n φ ds A Ax) : iniD c m n φ ds (fun d => ∃ fs, d = .ins c fs ∧ A d) Ax := by
  obtain ⟨h1, h2⟩ := h
  refine ⟨h1, ?_⟩
  have e : (fun ρ : Ro => ∃ fs, ρ[0]? = some (some (D.ins c fs)) ∧ ∃ fs', D.ins c fs = .ins c fs' ∧ A (.ins c fs)) = fun ρ : Ro => ∃ fs, ρ[0]? = some (some (D.ins c fs)) ∧ A (.ins c fs) := by
    funext ρ
    exact propext ⟨fun ⟨fs, a, fs', b, z⟩ => ⟨fs, a, z⟩, fun ⟨fs, a, z⟩ => ⟨fs, a, fs, rfl, z⟩⟩
  rw [e]
  exact h2
section
variable {P : Program} {w : World} {K : PySem.W.Frag} {mg : Str → Option Value} {base : Heap} {x q : Str} {st : Stmt} {f : Addr} {fd : FuncData} {N ps : List Str} {k n : Nat} {T : Th K} {c : Str} {φ : DS}
theorem start_ini {H H1 : Hp} {ow : Addr → Prop} {y : Addr} {ws : List V} {ds : List D} (hN : 1 ≤ N.length) (hy : H1 y = none) (r : RepL K H ow ws ds) (tr : ∀ a, ow a → H1 a ≠ none) (eo : owOf ow [0] (L2.start N (.ref y :: ws)) = fun a => ow a ∨ a = y)
    (hI : OwnR K H (fun a => ow a ∨ a = y) y (.ins c [])) (g : ∀ a, H1 a ≠ none → H a ≠ none) (r2 : RepL K H (fun a => ow a ∨ a = y) ws ds) (hM : N.length ≤ dp) (hv : ws.length + 1 ≤ N.length) {iw : Addr → Prop} : ER K H ow { p0 := some (.ref y), iw := iw } [0] (L2.start N (.ref y :: ws)) (some (.ins c []) :: startD (N.length - 1) ds) := by
  have e1 : (L2.start N (.ref y :: ws)) = some (.ref y) :: (ws.map some ++ List.replicate (N.length - 1 - ws.length) none) := by
    unfold L2.start
    rw [List.map_cons, List.cons_append, List.length_cons, Nat.sub_add_eq, Nat.sub_right_comm]
  have base := start_er (N := N.drop 1) (ow := fun a => ow a ∨ a = y) r2 (fun a z => z.elim (fun z => g a (tr a z)) fun z => by rw [z]; exact hI.trk) (iw := iw) (by rw [List.length_drop]; omega) (by rw [List.length_drop]; omega)
  have e2 : (N.drop 1).length = N.length - 1 := by rw [List.length_drop]
  have eo2 : owOf (fun a => ow a ∨ a = y) [] (L2.start (N.drop 1) ws) = fun a => ow a ∨ a = y := by
    funext a
    exact propext ⟨fun z => z.elim id fun ⟨i, hi, _⟩ => absurd hi List.not_mem_nil, .inl⟩
  have e3 : L2.start (N.drop 1) ws = ws.map some ++ List.replicate (N.length - 1 - ws.length) none := by
    unfold L2.start
    rw [e2]
  refine ⟨fun i d hd hi hi2 => ?_, fun i hi l => ?_, fun p hp => absurd hp List.not_mem_nil, ⟨fun _ => 0, fun i _ hi => absurd (List.mem_singleton.mp hi) (by unfold dp; omega)⟩, fun i hi => absurd (List.mem_singleton.mp hi) (by unfold dq; omega), fun a z => g a (tr a z), ?_, (fun v z _ => by rw [e1]; cases z; rfl), ?_⟩
  · rw [eo]
    cases i with
    | zero => exact absurd List.mem_cons_self hi
    | succ i =>
      rw [List.getElem?_cons_succ] at hd
      obtain ⟨v, h1, h2⟩ := base.val i d (by rw [e2]; exact hd) List.not_mem_nil List.not_mem_nil
      rw [eo2] at h2
      refine ⟨v, ?_, h2⟩
      rw [e1, List.getElem?_cons_succ, ← e3]
      exact h1
  · have : i = 0 := by simpa using hi
    subst this
    rw [eo]
    exact ⟨y, _, rfl, by rw [e1]; rfl, fun z => tr y z hy, hI, fun j hj _ => by simpa using hj⟩
  · rw [e1, ← e3, List.length_cons, List.length_cons, ← base.len, e2]
  · rw [e1, List.length_cons, List.length_append, List.length_map, List.length_replicate]
    omega
theorem ok_ini (F : FnS K x q st f fd) (S : FnScope N ps (defScope st)) (hN : 1 ≤ N.length) (hp : ps.length = n + 1)
    (hbody : ∀ (cdv : Value) (A : Around) (outer : List Env) (s : Shared) (H : Hp) (E : XK), Room k (A.deeper (envOfC q (defScope st) s.heap.objs.size f cdv)) →
      Takes (cxOf (L2.CX P w) P w K mg base N q (defScope st) f cdv A outer s H E) (fun cls d _ H => E cls d H) →
      PSs (cxOf (L2.CX P w) P w K mg base N q (defScope st) f cdv A outer s H E) (defBody st) (sOf (K := K) T (fun cls d _ H => E cls d H) 0 [0] [0] [] φ)) (hM : N.length ≤ dp := by decide) (hv : ps.length ≤ N.length := by decide) :
    FnOk P w K mg base (L2.CX P w) (k + 1) f fd ps (spIni T c n (iniD c N.length n φ)) := by
  refine okE F S (fun vs H Q E h => h.1.trans hp.symm) fun cdv A outer s H vs Q E hr h tk => ⟨_, hbody cdv A outer s H E hr tk, ?_⟩
  obtain ⟨hn, y, dy, ds, ws, ow, B, Bx, H1, rfl, rfl, hy, hdy, ne, ok, tr, r, ⟨hd, q⟩, k1, k2⟩ := h
  obtain ⟨m1, m2⟩ := T.make (C := He.ga K c) ok hy hdy ne
  have e1 : (L2.start N (.ref y :: ws)) = some (.ref y) :: (ws.map some ++ List.replicate (N.length - 1 - ws.length) none) := by
    unfold L2.start
    rw [List.map_cons, List.cons_append, List.length_cons, Nat.sub_add_eq, Nat.sub_right_comm]
  have eo : owOf ow [0] (L2.start N (.ref y :: ws)) = fun a => ow a ∨ a = y := by
    funext a
    refine propext ⟨fun z => z.imp_right fun ⟨i, hi, e⟩ => ?_, fun z => z.imp_right fun e => ⟨0, List.mem_cons_self, by rw [e1, e]; rfl⟩⟩
    have : i = 0 := by simpa using hi
    subst this
    rw [e1] at e
    cases e
    rfl
  have r1 : RepL K H1 (fun a => ow a ∨ a = y) ws ds := r.mv (more_own hy)
  refine ⟨some (.ins c []) :: startD (N.length - 1) ds, H1, ow, ow, { p0 := some (.ref y), iw := fun a => H1 a ≠ none }, { nx := fun ρ => ∃ fs, ρ[0]? = some (some (.ins c fs)) ∧ B (.ins c fs), rt := fun _ => False, bk := fun _ => False, ct := fun _ => False, ex := fun x _ => Bx x },
    ⟨m1, m2, start_ini hN hy (r.gr T m2) tr eo (.ins upd_same .nil) (fun a z => T.forth m2 z) (r1.gr T m2) hM (by rw [List.length_cons] at hn; omega), fun a z => ⟨z, tr a z⟩, fun i hi a z => ?_, rfl⟩, tr, ⟨fun σ G ρ ow0 s ⟨fs, h1, h2⟩ => ?_, fun v d G ok g p a => a.elim, fun _ _ _ _ _ z => z, fun _ _ _ _ _ z => z, fun x d σ G ρ ow0 s xr a => ?_⟩, q⟩
  · have : i = 0 := by simpa using hi
    subst this
    rw [e1] at z
    cases z
    exact hy
  · obtain ⟨a, d, e2, e3, e4, e5, e6⟩ := s.er.own 0 List.mem_cons_self (by decide)
    rw [s.er.slt _ rfl (.inl List.mem_cons_self)] at e3
    cases e3
    rw [h1] at e2
    cases e2
    refine k1 fs G h2 s.ok s.gr (e5.mv (Mv.less fun b z => ?_) fun o z _ => z)
    rcases z with z | rfl
    · exact .inl (s.sub b z).1
    · exact .inr ⟨0, List.mem_cons_self, s.er.slt _ rfl (.inl List.mem_cons_self)⟩
  · refine k2 x d G a s.ok s.gr ?_
    cases d with
    | none => exact xr
    | some d =>
      obtain ⟨fvs, h1, h2⟩ := xr
      exact ⟨fvs, h1, h2.mv (Mv.less fun a z => .inl (s.sub a z).1)⟩
end
end Dz
/-! Dz, plainly: comprehensions and loops over data, by functions. -/
namespace Dz
open PySem PySem.Spec PyProof.Rows L2 Evl Bf
section
variable {ρ : Ro} {vs : List Nat} {g : DG} {t : DT} {e : DX} {Q : List D → Prop}
theorem lc_opt (f : D → Option D) : ∀ (xs acc : List D), (∀ x ∈ xs, ∀ K : Option D → Prop, K (f x) → g x (wipeR ρ vs) fun ρ' => t ρ' (fun b => if b = true then e ρ' (fun y => K (some y)) (fun _ => False) else K none) fun _ => False) →
    Q (acc ++ xs.filterMap f) → lcL ρ vs g t e xs acc Q
  | [], acc, _, q => by rw [List.filterMap_nil, List.append_nil] at q; exact q
  | x :: xs, acc, h, q => by
    refine h x List.mem_cons_self (fun o => match o with | some y => lcL ρ vs g t e xs (acc ++ [y]) Q | none => lcL ρ vs g t e xs acc Q) ?_
    cases c : f x with
    | none =>
      rw [List.filterMap_cons_none c] at q
      exact lc_opt f xs acc (fun y hy => h y (List.mem_cons_of_mem _ hy)) q
    | some y =>
      rw [List.filterMap_cons_some c] at q
      refine lc_opt f xs (acc ++ [y]) (fun y hy => h y (List.mem_cons_of_mem _ hy)) ?_
      rw [List.append_assoc]
      exact q
theorem lc_map (f : D → D) (xs : List D) (h : ∀ x ∈ xs, ∀ K : D → Prop, K (f x) → g x (wipeR ρ vs) fun ρ' => e ρ' K fun _ => False) (q : Q (xs.map f)) : lcL ρ vs g tYesD e xs [] Q := by
  refine lc_opt (fun x => some (f x)) xs [] (fun x hx K k => ?_) (by rw [List.nil_append, List.filterMap_eq_map']; exact q)
  have := h x hx (fun y => K (some y)) k
  simpa [tYesD] using this
/-- over a list of pictures of plain things -/
theorem lc_mapT {α : Type} (c : α → D) (f : α → D) (xs : List α) (h : ∀ x ∈ xs, ∀ K : D → Prop, K (f x) → g (c x) (wipeR ρ vs) fun ρ' => e ρ' K fun _ => False) (q : Q (xs.map f)) : lcL ρ vs g tYesD e (xs.map c) [] Q := by
  have key : ∀ (xs : List α) (acc : List D), (∀ x ∈ xs, ∀ K : D → Prop, K (f x) → g (c x) (wipeR ρ vs) fun ρ' => e ρ' K fun _ => False) → Q (acc ++ xs.map f) → lcL ρ vs g tYesD e (xs.map c) acc Q := by
    intro xs
    induction xs with
    | nil => intro acc _ q; rw [List.map_nil, List.append_nil] at q; exact q
    | cons x xs ih =>
      intro acc h q
      have := h x List.mem_cons_self (fun y => lcL ρ vs g tYesD e (xs.map c) (acc ++ [y]) Q) (ih _ (fun y hy => h y (List.mem_cons_of_mem _ hy)) (by rw [List.append_assoc]; exact q))
      show g (c x) (wipeR ρ vs) fun ρ' => tYesD ρ' (fun b => if b = true then e ρ' (fun y => lcL ρ vs g tYesD e (xs.map c) (acc ++ [y]) Q) (fun _ => False) else lcL ρ vs g tYesD e (xs.map c) acc Q) (fun _ => False)
      simpa [tYesD] using this
  exact key xs [] h q
theorem lc_filT {α : Type} (c : α → D) (p : α → Bool) (f : α → D) (xs : List α) (h : ∀ x ∈ xs, ∀ K : Option D → Prop, K (if p x = true then some (f x) else none) → g (c x) (wipeR ρ vs) fun ρ' => t ρ' (fun b => if b = true then e ρ' (fun y => K (some y)) (fun _ => False) else K none) fun _ => False)
    (q : Q ((xs.filter p).map f)) : lcL ρ vs g t e (xs.map c) [] Q := by
  have key : ∀ (xs : List α) (acc : List D), (∀ x ∈ xs, ∀ K : Option D → Prop, K (if p x = true then some (f x) else none) → g (c x) (wipeR ρ vs) fun ρ' => t ρ' (fun b => if b = true then e ρ' (fun y => K (some y)) (fun _ => False) else K none) fun _ => False) → Q (acc ++ (xs.filter p).map f) → lcL ρ vs g t e (xs.map c) acc Q := by
    intro xs
    induction xs with
    | nil => intro acc _ q; rw [List.filter_nil, List.map_nil, List.append_nil] at q; exact q
    | cons x xs ih =>
      intro acc h q
      refine h x List.mem_cons_self (fun o => match o with | some y => lcL ρ vs g t e (xs.map c) (acc ++ [y]) Q | none => lcL ρ vs g t e (xs.map c) acc Q) ?_
      by_cases hp : p x = true
      · rw [if_pos hp]
        rw [List.filter_cons_of_pos hp] at q
        exact ih _ (fun y hy => h y (List.mem_cons_of_mem _ hy)) (by rw [List.append_assoc]; exact q)
      · rw [if_neg hp]
        rw [List.filter_cons_of_neg hp] at q
        exact ih _ (fun y hy => h y (List.mem_cons_of_mem _ hy)) q
  exact key xs [] h q
end
/-- a loop, by what holds at each turn -/
theorem for_inv {g : DG} {b : DS} {E : DE} (items : List D) (P : Nat → Ro → Prop) {ρ : Ro} (h0 : P 0 ρ) (hs : ∀ i x ρ N, items[i]? = some x → P i ρ → (∀ ρ', P (i + 1) ρ' → N ρ') → g x ρ fun ρ' => b { E with nx := N, ct := N, bk := E.nx } ρ') (hd : ∀ ρ, P items.length ρ → E.nx ρ) : forL g b items E ρ := by
  have key : ∀ (k i : Nat) (ρ : Ro), i + k = items.length → P i ρ → forL g b (items.drop i) E ρ := by
    intro k
    induction k with
    | zero =>
      intro i ρ hi p
      have e : i = items.length := by omega
      subst e
      rw [List.drop_length]
      exact hd ρ p
    | succ k ih =>
      intro i ρ hi p
      have hlt : i < items.length := by omega
      rw [List.drop_eq_getElem_cons hlt]
      exact hs i _ ρ _ (List.getElem?_eq_getElem hlt) p fun ρ' z => ih (i + 1) ρ' (by omega) z
  have := key items.length 0 ρ (by omega) h0
  rwa [List.drop_zero] at this
/-- over a list of pictures of plain things -/
theorem for_invT {α : Type} (c : α → D) {g : DG} {b : DS} {E : DE} (items : List α) (P : Nat → Ro → Prop) {ρ : Ro} (h0 : P 0 ρ) (hs : ∀ i x ρ N, items[i]? = some x → P i ρ → (∀ ρ', P (i + 1) ρ' → N ρ') → g (c x) ρ fun ρ' => b { E with nx := N, ct := N, bk := E.nx } ρ') (hd : ∀ ρ, P items.length ρ → E.nx ρ) : forL g b (items.map c) E ρ := by
  refine for_inv _ P h0 (fun i x ρ N hx p n => ?_) (fun ρ p => hd ρ (by rwa [List.length_map] at p))
  rw [List.getElem?_map] at hx
  cases e : items[i]? with
  | none => rw [e] at hx; cases hx
  | some y =>
    rw [e] at hx
    cases hx
    exact hs i y ρ N e p n
theorem for_range {g : DG} {b : DS} {E : DE} (lo hi : Int) (P : Nat → Ro → Prop) {ρ : Ro} (h0 : P 0 ρ) (hs : ∀ i ρ N, i < (hi - lo).toNat → P i ρ → (∀ ρ', P (i + 1) ρ' → N ρ') → g (.int (lo + (i : Nat))) ρ fun ρ' => b { E with nx := N, ct := N, bk := E.nx } ρ') (hd : ∀ ρ, P (hi - lo).toNat ρ → E.nx ρ) : forL g b (rng lo hi) E ρ := by
  refine for_invT (fun i : Nat => D.int (lo + i)) (List.range (hi - lo).toNat) P h0 (fun i x ρ N hx p n => ?_) (fun ρ p => hd ρ (by rwa [List.length_range] at p))
  obtain ⟨h1, h2⟩ := List.getElem?_eq_some_iff.mp hx
  rw [List.length_range] at h1
  rw [List.getElem_range] at h2
  subst h2
  exact hs i ρ N h1 p n
theorem enum_cons_aux (xs : List D) (n : Nat) : (List.range xs.length).map (fun i => D.tup [.int ((n + i : Nat) : Int), xs.getD i .non]) = (xs.zipIdx n).map fun p => D.tup [.int (p.2 : Nat), p.1] := by
  induction xs generalizing n with
  | nil => rfl
  | cons x xs ih =>
    rw [List.length_cons, List.range_succ_eq_map, List.map_cons, List.map_map, List.zipIdx_cons, List.map_cons]
    congr 1
    have := ih (n + 1)
    rw [← this]
    refine List.map_congr_left fun i _ => ?_
    show D.tup [.int ((n + (i + 1) : Nat) : Int), _] = _
    rw [show n + (i + 1) = n + 1 + i by omega]
    rfl
theorem enum_zip (xs : List D) : enumD xs = (xs.zipIdx).map fun p => D.tup [.int (p.2 : Nat), p.1] := by
  have := enum_cons_aux xs 0
  unfold enumD
  simpa using this
end Dz
namespace Bf
open PySem PySem.Spec PyProof.Rows L2 Evl
/-! ### lots, things and rooms, plainly -/
def badIt (kn xs : List Str) (i : Nat) : Bool := !decide (xs.getD i "" ∈ kn) || decide (xs.getD i "" ∈ xs.take i)
/-- the first wrong one of some items -/
def fwOf (kn xs : List Str) : Option Nat := firstOf (badIt kn xs) xs.length
def txt (es : List (Option Str)) : List Str := es.map (·.getD "")
def nmO : Option Str → Bool
  | some z => isNm z
  | none => false
def badO (pre : List Str) : Option Str → Bool
  | none => true
  | some z => !isNm z || decide (z ∈ pre)
def badTh (es : List (Option Str)) (i : Nat) : Bool := badO (txt (es.take i)) (es.getD i none)
def thErr (es : List (Option Str)) : Option Int := if es.length ≤ 24 then (firstOf (badTh es) es.length).map (fun i => (i : Int)) else some (-1)
inductive LotV where
  | lst (es : List (Option Str))
  | oth
inductive RoomV where
  | rm (l : LotV) (n : Option Int)
  | oth
def lotOk (kn : List Str) : LotV → Bool
  | .lst es => es.all (·.isSome) && (fwOf kn (txt es)).isNone
  | .oth => false
def roomOk (kn : List Str) : RoomV → Bool
  | .rm l (some i) => lotOk kn l && decide (0 ≤ i)
  | _ => false
def shareL (a b : List Str) : List Str := a.filter fun x => decide (x ∈ b)
def crossB (a b : List Str) : Bool := decide (0 < (shareL a b).length) && decide ((shareL a b).length < min a.length b.length)
theorem txt_len (es : List (Option Str)) : (txt es).length = es.length := by unfold txt; rw [List.length_map]
theorem txt_take (es : List (Option Str)) (i : Nat) : txt (es.take i) = (txt es).take i := by unfold txt; rw [List.map_take]
theorem txt_some (xs : List Str) : txt (xs.map some) = xs := by unfold txt; rw [List.map_map]; exact List.map_id _
theorem seen_val (n : Str) : ∀ {ks : List Str} {kvs : List (Key × V)}, kvs.map (·.1) = ks.map Sum.inr → (valV kvs (Sum.inr n)).isSome = decide (n ∈ ks)
  | [], [], _ => rfl
  | [], _ :: _, h => by cases h
  | _ :: _, [], h => by cases h
  | k :: ks, q :: kvs, h => by
    obtain ⟨h1, h2⟩ := List.cons.inj h
    have ih := seen_val n h2
    unfold valV at ih ⊢
    rw [List.find?_cons]
    by_cases c : n = k
    · have c1 : decide (q.1 = Sum.inr n) = true := decide_eq_true (h1.trans (by rw [c]))
      rw [c1, decide_eq_true (show n ∈ k :: ks by rw [c]; exact List.mem_cons_self)]
      rfl
    · have c1 : decide (q.1 = Sum.inr n) = false := decide_eq_false fun z => c (Sum.inr.inj (z.symm.trans h1))
      rw [c1]
      refine ih.trans (decide_eq_decide.mpr ⟨fun z => List.mem_cons_of_mem _ z, fun z => ?_⟩)
      rcases List.mem_cons.mp z with z | z
      · exact absurd z c
      · exact z
def rLstOf (K : PySem.W.Frag) : List V → Hp → VK → Prop := fun xs H Q => ∃ p ys, xs = [.ref p] ∧ (SqL K H p ys ∨ SqT K H p ys) ∧ ∀ l, H l = none → Q (.ref l) (upd H l (.lst ys))
def rTupOf (K : PySem.W.Frag) : List V → Hp → VK → Prop := fun xs H Q => ∃ p ys, xs = [.ref p] ∧ ((SqL K H p ys ∧ ∀ l, H l = none → Q (.ref l) (upd H l (.tup ys))) ∨ (SqT K H p ys ∧ Q (.ref p) H))
end Bf
/-! Dz, plainly: what the operators give for the usual kinds of data. -/
namespace Dz
open PySem PySem.Spec PyProof.Rows L2 Evl Bf
abbrev lstS (xs : List Str) : D := .lst (xs.map .str)
abbrev tupS (xs : List Str) : D := .tup (xs.map .str)
theorem dKey_str (s : Str) : dKey (.str s) = some (Sum.inr s) := rfl
theorem dKey_int (s : Int) : dKey (.int s) = some (Sum.inl s) := rfl
theorem len_lst (xs : List D) : dLen [.lst xs] = some (.int xs.length) := rfl
theorem len_tup (xs : List D) : dLen [.tup xs] = some (.int xs.length) := rfl
theorem len_scr (xs : List Int) : dLen [.scr xs] = some (.int xs.length) := rfl
theorem len_str {z : Str} (h : z.length ≤ 1000) : dLen [.str z] = some (.int z.length) := by
  show (if z.length ≤ big then some (D.int z.length) else none) = _
  rw [if_pos (by show z.length ≤ 100000; omega)]
theorem in_lst (neg : Bool) (x : Str) (xs : List Str) : dIn neg (.str x) (.lst (xs.map .str)) = some (.bl (neg != decide (x ∈ xs))) := by
  show (match (D.str x).flat, flats (xs.map D.str) with
    | some v, some ws => some (D.bl (neg != inV v ws))
    | _, _ => none) = _
  rw [flats_strs]
  show some (D.bl (neg != inV (.str x) (xs.map V.str))) = _
  rw [inV_str]
theorem in_tup (neg : Bool) (x : Str) (xs : List Str) : dIn neg (.str x) (.tup (xs.map .str)) = some (.bl (neg != decide (x ∈ xs))) := by
  show (match (D.str x).flat, flats (xs.map D.str) with
    | some v, some ws => some (D.bl (neg != inV v ws))
    | _, _ => none) = _
  rw [flats_strs]
  show some (D.bl (neg != inV (.str x) (xs.map V.str))) = _
  rw [inV_str]
theorem in_sign (neg : Bool) (c : Nat) (z : Str) : dIn neg (.str ⟨#[c]⟩) (.str z) = some (.bl (neg != decide (c ∈ z.cps.toList))) := rfl
def seqS (d : D) (xs : List Str) : Prop := d = lstS xs ∨ d = tupS xs
theorem in_seq {neg : Bool} {x : Str} {d : D} {xs : List Str} (h : seqS d xs) : dIn neg (.str x) d = some (.bl (neg != decide (x ∈ xs))) := by
  rcases h with rfl | rfl
  · exact in_lst neg x xs
  · exact in_tup neg x xs
theorem sorted_lst {xs : List Str} (h : xs.length < 64) : dSorted [.lst (xs.map .str)] = some (.lst ((srt xs).map .str)) := by
  unfold dSorted
  simp only [strs_map]
  rw [if_pos h]
theorem sorted_tup {xs : List Str} (h : xs.length < 64) : dSorted [.tup (xs.map .str)] = some (.lst ((srt xs).map .str)) := by
  unfold dSorted
  simp only [strs_map]
  rw [if_pos h]
theorem add_lst {a b : List D} (h : a.length + b.length ≤ 1000) : dAdd (.lst a) (.lst b) = some (.lst (a ++ b)) := by
  show (if a.length + b.length ≤ big then some (D.lst (a ++ b)) else none) = _
  rw [if_pos (by show a.length + b.length ≤ 100000; omega)]
theorem add_tup {a b : List D} (h : a.length + b.length ≤ 1000) : dAdd (.tup a) (.tup b) = some (.tup (a ++ b)) := by
  show (if a.length + b.length ≤ big then some (D.tup (a ++ b)) else none) = _
  rw [if_pos (by show a.length + b.length ≤ 100000; omega)]
theorem add_str {a b : Str} (h : a.length + b.length ≤ 1000) : dAdd (.str a) (.str b) = some (.str (a ++ b)) := by
  show (if a.length + b.length ≤ big then some (D.str (a ++ b)) else none) = _
  rw [if_pos (by show a.length + b.length ≤ 100000; omega)]
theorem at_nat {α : Type} {xs : List α} {i : Nat} {x : α} (h : xs[i]? = some x) : atI xs (i : Int) = some x := atI_nat h
theorem ix_lst {xs : List D} {i : Nat} {x : D} (h : xs[i]? = some x) : dIx (.lst xs) (.int i) = some x := atI_nat h
theorem ix_tup' {xs : List D} {i : Nat} {x : D} (h : xs[i]? = some x) : dIx (.tup xs) (.int i) = some x := atI_nat h
theorem ix_str' {z : Str} {i c : Nat} (h : z.cps.toList[i]? = some c) (hz : z.length ≤ 1000) : dIx (.str z) (.int i) = some (.str ⟨#[c]⟩) := by
  show (if z.length ≤ big then (atI z.cps.toList (i : Int)).map (fun c => D.str ⟨#[c]⟩) else none) = _
  rw [if_pos (by show z.length ≤ 100000; omega), atI_nat h]
  rfl
/-! ### dicts of things that were seen -/
def seenD (xs : List Str) : List (Key × D) := xs.map fun x => (Sum.inr x, .bl true)
theorem seen_get (n : Str) : ∀ xs : List Str, (dVal (seenD xs) (Sum.inr n)).isSome = decide (n ∈ xs)
  | [] => rfl
  | x :: xs => by
    have ih := seen_get n xs
    unfold dVal seenD at ih ⊢
    rw [List.map_cons, List.find?_cons]
    by_cases c : x = n
    · rw [decide_eq_true (show (Sum.inr x : Key) = Sum.inr n by rw [c])]
      rw [decide_eq_true (show n ∈ x :: xs by rw [c]; exact List.mem_cons_self)]
      rfl
    · rw [decide_eq_false (fun z => c (Sum.inr.inj z))]
      refine ih.trans (decide_eq_decide.mpr ⟨fun z => List.mem_cons_of_mem _ z, fun z => ?_⟩)
      rcases List.mem_cons.mp z with z | z
      · exact absurd z.symm c
      · exact z
theorem seen_put {xs : List Str} {n : Str} (h : n ∉ xs) : putD (seenD xs) (Sum.inr n) (.bl true) = seenD (xs ++ [n]) := by
  unfold putD
  have e : ((seenD xs).any fun kv => decide (kv.1 = Sum.inr n)) = false := by
    rw [List.any_eq_false]
    intro p hp z
    obtain ⟨x, hx, rfl⟩ := List.mem_map.mp hp
    have : (Sum.inr x : Key) = Sum.inr n := of_decide_eq_true z
    exact h (Sum.inr.inj this ▸ hx)
  rw [e, if_neg (by decide)]
  unfold seenD
  rw [List.map_append]
  rfl
theorem seen_len (xs : List Str) : (seenD xs).length = xs.length := by unfold seenD; rw [List.length_map]
/-! ### loops over numbered things -/
theorem for_enum {α : Type} (c : α → D) {g : DG} {b : DS} {E : DE} (xs : List α) (P : Nat → Ro → Prop) {ρ : Ro} (h0 : P 0 ρ) (hs : ∀ i x ρ N, xs[i]? = some x → P i ρ → (∀ ρ', P (i + 1) ρ' → N ρ') → g (.tup [.int (i : Nat), c x]) ρ fun ρ' => b { E with nx := N, ct := N, bk := E.nx } ρ') (hd : ∀ ρ, P xs.length ρ → E.nx ρ) :
    forL g b (enumD (xs.map c)) E ρ := by
  refine for_inv _ P h0 (fun i x ρ N hx p n => ?_) (fun ρ p => hd ρ (by rwa [enum_len, List.length_map] at p))
  have hl : i < (enumD (xs.map c)).length := (List.getElem?_eq_some_iff.mp hx).1
  rw [enum_len] at hl
  rw [enum_at hl] at hx
  cases hx
  have hl2 : i < xs.length := by rwa [List.length_map] at hl
  rw [List.getElem_map]
  exact hs i _ ρ N (List.getElem?_eq_getElem hl2) p n
theorem take_next {α : Type} {xs : List α} {i : Nat} {x : α} (h : xs[i]? = some x) : xs.take (i + 1) = xs.take i ++ [x] := by
  rw [List.take_add_one, h]
  rfl
theorem getD_of {α : Type} {xs : List α} {i : Nat} {x d : α} (h : xs[i]? = some x) : xs.getD i d = x := by simp [List.getD, h]
end Dz
namespace Dz
open PySem PySem.Spec PyProof.Rows L2 Evl Bf
/-! ### what the written part says of a class -/
def kinds : List String := ["NoneType", "bool", "int", "str", "list", "tuple", "dict"]
structure ClsT (K : PySem.W.Frag) (c : Str) (fl : List Str) : Prop where
  cl : Cls K (He.ga K c)
  nF : ∀ f ∈ fl, NoAttr K (He.ga K c) f
  nfam : He.ga K c ≠ He.ga K "Family"
  ins : C8.InsC K (He.ga K c)
  no : ∀ t ∈ kinds, PySem.W.kitOne K (.type t) (.ref (He.ga K c)) = some false
  nf : ∀ t ∈ kinds, PySem.W.notFirst K (He.ga K c) (.type t) = true
def clsB (K : PySem.W.Frag) (c : Str) (fl : List Str) : Bool := (He.Fa.cls c).ok K && (fl.all (fun f => (He.Fa.noat c f).ok K) && (decide (He.ga K c ≠ He.ga K "Family") && (insB K (He.ga K c) && (kinds.all (fun t => decide (PySem.W.kitOne K (.type t) (.ref (He.ga K c)) = some false)) && kinds.all (fun t => PySem.W.notFirst K (He.ga K c) (.type t))))))
theorem clsB_ok {K : PySem.W.Frag} {c : Str} {fl : List Str} (h : clsB K c fl = true) : ClsT K c fl := by
  obtain ⟨h1, h⟩ := Bool.and_eq_true_iff.mp h
  obtain ⟨h2, h⟩ := Bool.and_eq_true_iff.mp h
  obtain ⟨h3, h⟩ := Bool.and_eq_true_iff.mp h
  obtain ⟨h4, h⟩ := Bool.and_eq_true_iff.mp h
  obtain ⟨h5, h6⟩ := Bool.and_eq_true_iff.mp h
  have cl : Cls K (He.ga K c) := He.cls_ok h1
  exact ⟨cl, fun f hf => He.noat_ok (List.all_eq_true.mp h2 f hf), of_decide_eq_true h3, insB_ok h4 cl, fun t ht => of_decide_eq_true (List.all_eq_true.mp h5 t ht), fun t ht => List.all_eq_true.mp h6 t ht⟩
/-! ### methods -/
structure MtD (P : Program) (w : World) {K : PySem.W.Frag} (T : Th K) (mg : Str → Option Value) (base : Heap) (k : Nat) (c m : Str) (n : Nat) (fz : Nat) (F : DF) : Prop where
  cl : Cls K (He.ga K c)
  ex : ∃ (f : Addr) (fd : FuncData) (ps : List Str), Meth K (He.ga K c) m f ∧ FnOk P w K mg base (L2.CX P w) k f fd ps (spOf T fz n F) ∧ Binds K fd ps []
theorem MtD.to {P : Program} {w : World} {K : PySem.W.Frag} {T : Th K} {mg : Str → Option Value} {base : Heap} {k n : Nat} {c m : Str} {fz : Nat} {F F' : DF} (M : MtD P w T mg base k c m n fz F) (h : ∀ ds A Ax, F' ds A Ax → F ds A Ax) : MtD P w T mg base k c m n fz F' := by
  obtain ⟨cl, f, fd, ps, h1, h2, h3⟩ := M
  exact ⟨cl, f, fd, ps, h1, h2.imp fun vs H Q E s => sp_imp h s, h3⟩
def xMeth (c m : Str) (F : DF) (φ : DX) (φs : DA) : DX := fun ρ A Ax => φ ρ (fun x => ∃ fs, x = .ins c fs ∧ fs.lookup m = none ∧ φs ρ (fun ds => F (x :: ds) A Ax) Ax) Ax
def xMeth0 (c m : Str) (F : DF) (φ : DX) : DX := fun ρ A Ax => φ ρ (fun x => ∃ fs, x = .ins c fs ∧ fs.lookup m = none ∧ F [x] A Ax) Ax
section
variable {X : Cx} {CX : CXT} {k : Nat} {f C : Addr} {fd : FuncData} {ps : List Str} {sp : Sp} {E : L2.St → XK} {m : Str} {pos apos : Pos} {o : Expr} {ta : TE}
def tMtS0 (C : Addr) (m : Str) (sp : Sp) (E : L2.St → XK) (ta : TE) : TE := fun σ H Q => ta σ H fun x H1 => ∃ a dx fs, x = .ref a ∧ H1 a = some (.ins C dx fs) ∧ fs.lookup m = none ∧ sp [x] H1 Q (E σ)
theorem pe_mtS0 {pl : Sem Bool} (he : PE X o ta) (c : Cls X.K C) (hm : Meth X.K C m f) (F : FnOk X.prog X.w X.K X.mg X.base CX k f fd ps sp) (hr : Room k X.A) (hb : Binds X.K fd ps []) (hx : ∀ σ, PassesAt CX X σ (E σ))
    (ht : eval (.Call (.Attribute o m apos) [] [] pos) X.env = (do
      let ov ← eval o X.env
      standAt apos.atName
      let (f, first) ← holding [ov] (getMethod ov m pl)
      callWith pos f first (backTo pos (starEach [] X.env)) (backToKw pos (keywordEach [] X.env))) := by rfl) :
    PE X (.Call (.Attribute o m apos) [] [] pos) (tMtS0 C m sp E ta) := by
  refine ⟨fun pins s σ H Q I h => ?_⟩
  refine PySem.W.methodCall_KW (pl := pl) (thn (he.run pins s σ H _ I h) fun u s1 ⟨x, H1, I1, rx, a, dx, fs, ex, ea, l, q⟩ => ?_) ht
  subst ex
  obtain rfl : u = Value.ref a := rx
  refine getmeth_ok I1 ea c hm l ?_
  exact PySem.W.callWith_K0 (first := [.ref a]) I1.kIn hm.kp (run_fnS (us := [.ref a]) (vs := [.ref a]) F hr hb (hx σ) I1 (.cons rfl .nil) q)
end
theorem ins_cases {K : PySem.W.Frag} {H : Hp} {ow : Addr → Prop} {v : V} {c : Str} {fs : List (Str × D)} (r : Rep K H ow v (.ins c fs)) {m : Str} (h : fs.lookup m = none) : ∃ a dx vs, v = .ref a ∧ H a = some (.ins (He.ga K c) dx vs) ∧ vs.lookup m = none := by
  obtain ⟨a, dx, vs, e, ha, ra⟩ := o_ins r.o
  refine ⟨a, dx, vs, e, ha, ?_⟩
  rcases ra.look m with ⟨v, d, h1, h2, _⟩ | ⟨h1, _⟩
  · rw [h] at h2; cases h2
  · exact h1
section
variable {X : Cx} {T : Th X.K} {W : WX} {O : List Nat} {e o : Expr} {es : List Expr} {φ : DX} {φs : DA} {pos apos : Pos} {k n : Nat} {c m : Str} {fz : Nat} {F : DF}
theorem mt_aux {σ : L2.St} {H : Hp} {Q : VK} (h : eOf T W O (xMeth c m F φ φs) σ H Q) : tMtS (He.ga X.K c) m (spOf T fz (n + 1) F) (WE W) (eOf T W O φ) (aOf T W O n φs) σ H Q := by
  obtain ⟨ρ, ow0, fr, A, Ax, ok, er, q, k, x⟩ := h
  refine ⟨ρ, ow0, fr, _, Ax, ok, er, q, fun d v G ⟨fs, e1, e2, qd⟩ okG gG rv => ?_, x⟩
  subst e1
  obtain ⟨a, dx, vs, rfl, ha, hl⟩ := ins_cases rv e2
  refine ⟨a, dx, vs, rfl, ha, hl, ρ, ow0, fr, _, Ax, okG, er.gr T gG, qd, fun ds ws J qs hn okJ gJ rs => ?_, x.gr gG⟩
  refine ⟨by rw [List.length_cons, hn], _, owOf ow0 O σ, A, Ax, okJ, ((er.gr T gG).gr T gJ).otrk, .cons (rv.gr T gJ) rs, qs, fun d v L a o g r => ?_, fun y d L a o g r => x y d L a o (T.trans gG (T.trans gJ g)) r⟩
  exact k d v L a o (T.trans gG (T.trans gJ g)) (r.rep ((er.gr T gG).gr T gJ).otrk)
theorem be_meth (M : MtD X.prog X.w T X.mg X.base k c m (n + 1) fz F) (hr : Room k X.A) (tk : Takes X W) (he : PE X o (eOf T W O φ)) (ha : PA X (e :: es) (aOf T W O n φs)) {pl : Sem Bool}
    (h1 : starEach (e :: es) X.env = (false, eval e X.env) :: starEach es X.env := by rfl) (h2 : (backTo pos (starEach es X.env)).any (·.1) = false := by rfl)
    (ht : eval (.Call (.Attribute o m apos) (e :: es) [] pos) X.env = (do
      let ov ← eval o X.env
      standAt apos.atName
      let (g, first) ← holding [ov] (getMethod ov m pl)
      callWith pos g first (backTo pos (starEach (e :: es) X.env)) (backToKw pos (keywordEach [] X.env))) := by rfl) : PE X (.Call (.Attribute o m apos) (e :: es) [] pos) (eOf T W O (xMeth c m F φ φs)) := by
  obtain ⟨f, fd, ps, a1, a2, a3⟩ := M.ex
  exact peI (pe_mtS he M.cl a1 a2 hr a3 (fun σ => passAt tk σ) ha h1 h2 ht) fun _ _ _ h => mt_aux h
theorem mt0_aux {σ : L2.St} {H : Hp} {Q : VK} (h : eOf T W O (xMeth0 c m F φ) σ H Q) : tMtS0 (He.ga X.K c) m (spOf T fz 1 F) (WE W) (eOf T W O φ) σ H Q := by
  obtain ⟨ρ, ow0, fr, A, Ax, ok, er, q, k, x⟩ := h
  refine ⟨ρ, ow0, fr, _, Ax, ok, er, q, fun d v G ⟨fs, e1, e2, qd⟩ okG gG rv => ?_, x⟩
  subst e1
  obtain ⟨a, dx, vs, rfl, ha, hl⟩ := ins_cases rv e2
  exact ⟨a, dx, vs, rfl, ha, hl, rfl, _, owOf ow0 O σ, A, Ax, okG, (er.gr T gG).otrk, .cons rv .nil, qd, fun d v L a o g r => k d v L a o (T.trans gG g) (r.rep (er.gr T gG).otrk), fun y d L a o g r => x y d L a o (T.trans gG g) r⟩
theorem mf0_aux {σ : L2.St} {H : Hp} {Q : VK} (h : efOf T W O (xMeth0 c m F φ) σ H Q) : tMtS0 (He.ga X.K c) m (spOf T 1 1 F) (WE W) (eOf T W O φ) σ H Q := by
  obtain ⟨ρ, ow0, fr, A, Ax, ok, er, q, k, x⟩ := h
  refine ⟨ρ, ow0, fr, _, Ax, ok, er, q, fun d v G ⟨fs, e1, e2, qd⟩ okG gG rv => ?_, x⟩
  subst e1
  obtain ⟨a, dx, vs, rfl, ha, hl⟩ := ins_cases rv e2
  exact ⟨a, dx, vs, rfl, ha, hl, rfl, _, owOf ow0 O σ, A, Ax, okG, (er.gr T gG).otrk, .cons rv .nil, qd, fun d v L a o g ⟨p, e1, e2, e3⟩ => k d v L a o (T.trans gG g) ⟨p, e1, T.back gG e2, e3⟩, fun y d L a o g r => x y d L a o (T.trans gG g) r⟩
theorem be_meth0 (M : MtD X.prog X.w T X.mg X.base k c m 1 fz F) (hr : Room k X.A) (tk : Takes X W) (he : PE X o (eOf T W O φ)) {pl : Sem Bool}
    (ht : eval (.Call (.Attribute o m apos) [] [] pos) X.env = (do
      let ov ← eval o X.env
      standAt apos.atName
      let (f, first) ← holding [ov] (getMethod ov m pl)
      callWith pos f first (backTo pos (starEach [] X.env)) (backToKw pos (keywordEach [] X.env))) := by rfl) : PE X (.Call (.Attribute o m apos) [] [] pos) (eOf T W O (xMeth0 c m F φ)) := by
  obtain ⟨f, fd, ps, a1, a2, a3⟩ := M.ex
  exact peI (pe_mtS0 he M.cl a1 a2 hr a3 (fun σ => passAt tk σ) ht) fun _ _ _ h => mt0_aux h
theorem bf_meth0 (M : MtD X.prog X.w T X.mg X.base k c m 1 1 F) (hr : Room k X.A) (tk : Takes X W) (he : PE X o (eOf T W O φ)) {pl : Sem Bool}
    (ht : eval (.Call (.Attribute o m apos) [] [] pos) X.env = (do
      let ov ← eval o X.env
      standAt apos.atName
      let (f, first) ← holding [ov] (getMethod ov m pl)
      callWith pos f first (backTo pos (starEach [] X.env)) (backToKw pos (keywordEach [] X.env))) := by rfl) : PE X (.Call (.Attribute o m apos) [] [] pos) (efOf T W O (xMeth0 c m F φ)) := by
  obtain ⟨f, fd, ps, a1, a2, a3⟩ := M.ex
  exact peI (pe_mtS0 he M.cl a1 a2 hr a3 (fun σ => passAt tk σ) ht) fun _ _ _ h => mf0_aux h
/-! ### isinstance(x, C) -/
def isC (c : Str) : D → Option Bool
  | .ins c' _ => if c' = c then some true else none
  | d => match tyN d with | some _ => some false | none => none
def dIsC (c : Str) : List D → Option D
  | [d, .cls c'] => if c' = c then (isC c d).map .bl else none
  | _ => none
theorem tyN_kinds {d : D} {t : String} (h : tyN d = some t) : t ∈ kinds := by
  cases d <;> cases h <;> decide
theorem cd_isC {c : Str} {fl : List Str} (K : ClsT X.K c fl) : CallD T (rIsi X.K) 0 (dIsC c) := by
  intro H ow vs ds z Q ok tr r hg k
  unfold dIsC at hg
  split at hg
  · rename_i d c'
    split at hg
    · rename_i e
      subst e
      obtain ⟨v, w, rfl, rv, rw'⟩ := pair2 r
      rw [o_cls rw']
      unfold isC at hg
      split at hg
      · rename_i c2 fs
        split at hg
        · rename_i e2
          subst e2
          cases hg
          obtain ⟨a, dx, ws, rfl, ha, _⟩ := o_ins rv
          exact ⟨_, _, _, _, true, rfl, .own _, .base (.ins ha K.ins.cl K.ins.ha K.ins.hn K.ins.htk K.ins.hm), K.ins.me, k _ H ok (T.refl H) (.bl true)⟩
        · cases hg
      · split at hg
        · rename_i t e2
          cases hg
          exact ⟨_, _, _, _, false, rfl, .own _, ty_rep rv e2, K.no t (tyN_kinds e2), k _ H ok (T.refl H) (.bl false)⟩
        · cases hg
    · cases hg
  · cases hg
end
/-! ### an own == -/
theorem fn_down {P : Program} {w : World} {K : PySem.W.Frag} {mg : Str → Option Value} {base : Heap} {k : Nat} {f : Addr} {fd : FuncData} {ps : List Str} {sp : Sp} (F : FnOk P w K mg base (L2.CX P w) k f fd ps sp) : FnOk P w K mg base CX0 k f fd ps (fun vs H Q _ => sp vs H Q fun _ _ _ => False) := by
  refine ⟨fun vs H Q E h => F.len _ _ _ _ h, fun A outer s H args us vs Q E hr e0 hb hv hsp => codeAny_mono (F.run A outer s H args us vs Q _ hr e0 hb hv hsp) fun r s' h => ?_⟩
  cases r with
  | error e =>
    obtain ⟨_, _, _, _, _, _, _, _, _, _, _, _, z⟩ := h
    exact z.elim
  | ok fl => cases fl <;> exact h
structure EqD (P : Program) (w : World) {K : PySem.W.Frag} (T : Th K) (mg : Str → Option Value) (base : Heap) (k : Nat) (c : Str) (F : DF) : Prop where
  nf : ∀ t ∈ kinds, PySem.W.notFirst K (He.ga K c) (.type t) = true
  ex : ∃ (f : Addr) (fd : FuncData) (ps : List Str), OwnEq K (He.ga K c) f ∧ FnOk P w K mg base (L2.CX P w) k f fd ps (spOf T 0 2 F) ∧ Binds K fd ps []
theorem EqD.to {P : Program} {w : World} {K : PySem.W.Frag} {T : Th K} {mg : Str → Option Value} {base : Heap} {k : Nat} {c : Str} {F F' : DF} (M : EqD P w T mg base k c F) (h : ∀ ds A Ax, F' ds A Ax → F ds A Ax) : EqD P w T mg base k c F' := by
  obtain ⟨cl, f, fd, ps, h1, h2, h3⟩ := M
  exact ⟨cl, f, fd, ps, h1, h2.imp fun vs H Q E s => sp_imp h s, h3⟩
def xEqO (c : Str) (neg : Bool) (F : DF) (φa φb : DX) : DX := fun ρ A Ax => φa ρ (fun x => φb ρ (fun y => ∃ fs, x = .ins c fs ∧ ((∃ gs, y = .ins c gs) ∨ (neg = false ∧ (tyN y).isSome = true)) ∧ F [x, y] (fun z => ∃ b, z = .bl b ∧ A (.bl (neg != b))) fun _ => False) Ax) Ax
section
variable {X : Cx} {T : Th X.K} {W : WX} {O : List Nat} {a b : Expr} {φa φb : DX} {pos : Pos} {k : Nat} {c : Str} {F : DF}
theorem eq_aux (neg : Bool) {r : R2} (hr : ∀ (H : Hp) (ow : Addr → Prop) (v u : V) (d e : D) (Q : VK), T.Ok H → (∀ a, ow a → H a ≠ none) → Rep X.K H ow v d → Rep X.K H ow u e → (∃ fs, d = .ins c fs) → ((∃ gs, e = .ins c gs) ∨ (neg = false ∧ (tyN e).isSome = true)) →
      spOf T 0 2 F [v, u] H (fun z H' => ∃ kk, z = .bl kk ∧ Q (.bl (neg != kk)) H') (fun _ _ _ => False) → r v u H Q)
    {σ : L2.St} {H : Hp} {Q : VK} (h : eOf T W O (xEqO c neg F φa φb) σ H Q) : tOp r (eOf T W O φa) (eOf T W O φb) σ H Q := by
  obtain ⟨ρ, ow0, fr, A, Ax, ok, er, q, k, x⟩ := h
  refine ⟨ρ, ow0, fr, _, Ax, ok, er, q, fun d v G qd okG gG rv => ?_, x⟩
  refine ⟨ρ, ow0, fr, _, Ax, okG, er.gr T gG, qd, fun d' v' J ⟨fs, e1, e2, qz⟩ okJ gJ rv' => ?_, x.gr gG⟩
  have er2 := (er.gr T gG).gr T gJ
  have rv2 := rv.gr T gJ
  refine hr J (owOf ow0 O σ) v v' d d' Q okJ er2.otrk rv2 rv' ⟨fs, e1⟩ e2 ⟨rfl, [d, d'], owOf ow0 O σ, _, _, okJ, er2.otrk, .cons rv2 (.cons rv' .nil), qz, fun z u L ⟨bb, e3, a⟩ o g r => ?_, fun x d G a => absurd a fun z => z⟩
  subst e3
  exact ⟨bb, rep_bl r, k _ _ L a o (T.trans gG (T.trans gJ g)) (.bl _)⟩
theorem eq_or (M : EqD X.prog X.w T X.mg X.base k c F) (hr : Room k X.A) : ∃ r, OpR X (compareOp .Eq) r ∧ ∀ (H : Hp) (ow : Addr → Prop) (v u : V) (d e : D) (Q : VK), T.Ok H → (∀ a, ow a → H a ≠ none) → Rep X.K H ow v d → Rep X.K H ow u e → (∃ fs, d = .ins c fs) → ((∃ gs, e = .ins c gs) ∨ (false = false ∧ (tyN e).isSome = true)) →
      spOf T 0 2 F [v, u] H (fun z H' => ∃ kk, z = .bl kk ∧ Q (.bl (false != kk)) H') (fun _ _ _ => False) → r v u H Q := by
  obtain ⟨f, fd, ps, own, ok, hb⟩ := M.ex
  refine ⟨_, OpR.or (op_eqI own (fn_down ok) hb hr) (op_eqO own (fn_down ok) hb hr), fun H ow v u d e Q okH tr rv ru ⟨fs, e1⟩ he hs => ?_⟩
  subst e1
  obtain ⟨a, dx, vs, rfl, ha, _⟩ := o_ins rv.o
  simp only [Bool.false_bne] at hs
  rcases he with ⟨gs, rfl⟩ | ⟨_, ht⟩
  · obtain ⟨b, dy, ws, rfl, hb2, _⟩ := o_ins ru.o
    exact .inl ⟨a, b, dx, dy, vs, ws, rfl, rfl, ha, hb2, hs⟩
  · cases et : tyN e with
    | none => rw [et] at ht; cases ht
    | some t => exact .inr ⟨a, dx, vs, _, rfl, ha, ty_rep ru.o et, M.nf t (tyN_kinds et), hs⟩
theorem ne_or (M : EqD X.prog X.w T X.mg X.base k c F) (hr : Room (k + 1) X.A) : ∃ r, OpR X (compareOp .NotEq) r ∧ ∀ (H : Hp) (ow : Addr → Prop) (v u : V) (d e : D) (Q : VK), T.Ok H → (∀ a, ow a → H a ≠ none) → Rep X.K H ow v d → Rep X.K H ow u e → (∃ fs, d = .ins c fs) → ((∃ gs, e = .ins c gs) ∨ (true = false ∧ (tyN e).isSome = true)) →
      spOf T 0 2 F [v, u] H (fun z H' => ∃ kk, z = .bl kk ∧ Q (.bl (true != kk)) H') (fun _ _ _ => False) → r v u H Q := by
  obtain ⟨f, fd, ps, own, ok, hb⟩ := M.ex
  refine ⟨_, op_neI own (fn_down ok) hb hr, fun H ow v u d e Q okH tr rv ru ⟨fs, e1⟩ he hs => ?_⟩
  subst e1
  obtain ⟨a, dx, vs, rfl, ha, _⟩ := o_ins rv.o
  simp only [Bool.true_bne] at hs
  rcases he with ⟨gs, rfl⟩ | ⟨h, _⟩
  · obtain ⟨b, dy, ws, rfl, hb2, _⟩ := o_ins ru.o
    exact ⟨a, b, dx, dy, vs, ws, rfl, rfl, ha, hb2, hs⟩
  · cases h
theorem be_eqO (M : EqD X.prog X.w T X.mg X.base k c F) (hr : Room k X.A) (ha : PE X a (eOf T W O φa)) (hb : PE X b (eOf T W O φb)) : PE X (.Compare a [.Eq] [b] pos) (eOf T W O (xEqO c false F φa φb)) := by
  obtain ⟨r, h1, h2⟩ := eq_or M hr
  exact peI (pe_cmpR h1 ha hb (nomark _)) fun _ _ _ h => eq_aux false h2 h
theorem be_eqOn (M : EqD X.prog X.w T X.mg X.base k c F) (hr : Room (k + 1) X.A) (ha : PE X a (eOf T W O φa)) (hb : PE X b (eOf T W O φb)) : PE X (.Compare a [.NotEq] [b] pos) (eOf T W O (xEqO c true F φa φb)) := by
  obtain ⟨r, h1, h2⟩ := ne_or M hr
  exact peI (pe_cmpR h1 ha hb (nomark _)) fun _ _ _ h => eq_aux true h2 h
theorem bt_eqO (M : EqD X.prog X.w T X.mg X.base k c F) (hr : Room k X.A) (ha : PE X a (eOf T W O φa)) (hb : PE X b (eOf T W O φb)) : PT X (.Compare a [.Eq] [b] pos) (tOf T W O (tB' (xEqO c false F φa φb))) := by
  obtain ⟨r, h1, h2⟩ := eq_or M hr
  exact ptI (pt_cmpR h1 ha hb (nomark _)) fun _ _ _ h => eq_aux false h2 (b_aux h)
theorem bt_eqOn (M : EqD X.prog X.w T X.mg X.base k c F) (hr : Room (k + 1) X.A) (ha : PE X a (eOf T W O φa)) (hb : PE X b (eOf T W O φb)) : PT X (.Compare a [.NotEq] [b] pos) (tOf T W O (tB' (xEqO c true F φa φb))) := by
  obtain ⟨r, h1, h2⟩ := ne_or M hr
  exact ptI (pt_cmpR h1 ha hb (nomark _)) fun _ _ _ h => eq_aux true h2 (b_aux h)
end
/-! ### try .. except X as e -/
def offD (E : DE) (i : Nat) : DE := { nx := fun ρ => E.nx (ρ.set i none), rt := E.rt, bk := fun ρ => E.bk (ρ.set i none), ct := fun ρ => E.ct (ρ.set i none), ex := fun _ _ => False }
def catchD (nm : List Str) : List (Str × Nat × (Addr → Addr → DS)) → Exc → DE → Ro → Prop
  | [], x, E, ρ => E.ex x ρ
  | (h, i, ψ) :: r, x, E, ρ => x.cls ∈ nm ∧ if x.cls = h then x.fs ≠ [] ∧ ∀ a dd, ψ a dd (offD E i) (ρ.set i (some (.exc a dd x.cls x.fs))) else catchD nm r x E ρ
def sTry (nm : List Str) (b : DS) (hs : List (Str × Nat × (Addr → Addr → DS))) : DS := fun E ρ => b { E with ex := fun x ρ' => catchD nm hs x E ρ' } ρ
/-- the error classes of a text are apart -/
def ExmT (K : PySem.W.Frag) (nm : List Str) : Prop := ∀ x ∈ nm, ∀ h ∈ nm, PySem.W.exmOne K (.ref (He.ga K x)) (.ref (He.ga K h)) = some (decide (x = h))
def exmB (K : PySem.W.Frag) (nm : List Str) : Bool := nm.all fun x => nm.all fun h => decide (PySem.W.exmOne K (.ref (He.ga K x)) (.ref (He.ga K h)) = some (decide (x = h)))
theorem exmB_ok {K : PySem.W.Frag} {nm : List Str} (h : exmB K nm = true) : ExmT K nm := fun x hx y hy => of_decide_eq_true (List.all_eq_true.mp (List.all_eq_true.mp h x hx) y hy)
/-- e.f of a caught error -/
def xXf (a dd : Addr) (c f : Str) (φ : DX) : DX := fun ρ A Ax => φ ρ (fun v => ∃ fs z, v = .exc a dd c fs ∧ fs.lookup f = some z ∧ A z) Ax
def uOf {K : PySem.W.Frag} (T : Th K) (fz : Nat) (Ol : List Nat) (h : Str) (ψ : Addr → Addr → DS) (a : Addr) (cl : Value) (d : Option Addr) : TS := fun M τ G => ∃ dd, d = some dd ∧ cl = .ref (He.ga K h) ∧ sOf T W0 fz [] [] Ol (ψ a dd) M τ G
section
variable {X : Cx} {T : Th X.K} {W : WX} {fz : Nat} {O Ol : List Nat}
theorem u_of {h : Str} {ψ : Addr → Addr → DS} {sts : List Stmt} {a : Addr} {oe : Obj} {cl : Value} {d : Option Addr} {pn : List (Addr × Obj)}
    (hb : ∀ dd, d = some dd → cl = .ref (He.ga X.K h) → PSs (X.suite a ((a, oe) :: pn)) sts (sOf (K := X.K) T W0 fz [] [] Ol (ψ a dd))) : PSs (X.suite a ((a, oe) :: pn)) sts (uOf (K := X.K) T fz Ol h ψ a cl d) :=
  ⟨fun pins s σ H M I ⟨dd, e1, e2, q⟩ => (hb dd e1 e2).run pins s σ H M I q⟩
theorem be_xf {a : Addr} {oe : Obj} {cl : Value} {dd : Addr} {d : Option Addr} {pn : List (Addr × Obj)} {e : Expr} {φ : DX} {pos : Pos} {c f : Str} (xf : XfC X.K (He.ga X.K c)) (hno : PySem.W.findIn X.K (.ref (He.ga X.K c)) f = some none)
    (hz : Zc cl d oe) (hf : ∃ vs, oe.data = .fields vs) (e1 : d = some dd) (e2 : cl = .ref (He.ga X.K c)) (he : PE (X.suite a ((a, oe) :: pn)) e (eOf (K := X.K) T W0 O φ)) (hb : attributeBase e f X.env (eval e X.env) = eval e X.env := by rfl) :
    PE (X.suite a ((a, oe) :: pn)) (.Attribute e f pos) (eOf (K := X.K) T W0 O (xXf a dd c f φ)) :=
  peI (pe_xf xf hno hz hf he hb) fun σ H Q ⟨ρ, ow0, fr, A, Ax, ok, er, q, k, x⟩ => ⟨ρ, ow0, fr, _, Ax, ok, er, q, fun v u G ⟨fs, z, e3, e4, qz⟩ okG gG rv => (by
    subst e3
    cases rv with
    | exc h1 h2 =>
      rcases h2.look f with ⟨w, d2, g1, g2, g3⟩ | ⟨_, g2⟩
      · rw [e4] at g2
        cases g2
        exact ⟨rfl, e2, dd, _, w, e1, h1, g1, k _ _ G qz okG gG g3⟩
      · rw [e4] at g2; cases g2), x⟩
theorem ER.unset {K : PySem.W.Frag} {H : Hp} {ow0 : Addr → Prop} {fr : Fr} {σ : L2.St} {ρ : Ro} {i : Nat} (e : ER K H ow0 fr [] σ ρ) : ER K H ow0 fr [] (σ.set i none) (ρ.set i none) where
  val := fun j d hd hj hj2 => by
    rw [ow_set List.not_mem_nil]
    by_cases c : i = j
    · subst c
      by_cases hl : i < ρ.length
      · rw [List.getElem?_set_self hl] at hd; cases hd
      · rw [List.getElem?_eq_none (by rw [List.length_set]; omega)] at hd; cases hd
    · rw [List.getElem?_set_ne c] at hd ⊢
      exact e.val j d hd hj hj2
  own := fun j hj => absurd hj List.not_mem_nil
  frm := fun p hp => by rw [ow_set List.not_mem_nil]; exact e.frm p hp
  dep := ⟨fun _ => 0, fun j _ hj => absurd hj List.not_mem_nil⟩
  nwq := fun j hj => absurd hj List.not_mem_nil
  trk := e.trk
  len := by rw [List.length_set, List.length_set]; exact e.len
  slt := fun v _ h0 => h0.elim (fun h0 => absurd h0 List.not_mem_nil) fun h0 => h0.elim (fun h0 => absurd h0 List.not_mem_nil) fun h0 => absurd h0 List.not_mem_nil
  sml := by rw [List.length_set]; exact e.sml
theorem Sr.unset {K : PySem.W.Frag} {T : Th K} {H0 H : Hp} {owi ow0 : Addr → Prop} {fr : Fr} {σ : L2.St} {ρ : Ro} {i : Nat} (s : Sr T H0 owi ow0 fr [] σ H ρ) : Sr T H0 owi ow0 fr [] (σ.set i none) H (ρ.set i none) := ⟨s.ok, s.gr, s.er.unset, s.sub, fun j hj => absurd hj List.not_mem_nil, s.iwH⟩
/-- the clauses of a try, with their readings -/
inductive ClsD (X : Cx) (T : Th X.K) (fz : Nat) (nm : List Str) : List ExceptHandler → List ClA → List (Str × Nat × (Addr → Addr → DS)) → Prop
  | nil : ClsD X T fz nm [] [] []
  | cons {x n : Str} {i : Nat} {ψ : Addr → Addr → DS} {b0 : Stmt} {su : List Stmt} {np ps : Pos} {hs : List ExceptHandler} {l : List ClA} {ds : List (Str × Nat × (Addr → Addr → DS))} (hm : x ∈ nm)
      (hc : Names X x (.ref (He.ga X.K x))) (hi : X.N[i]? = some n) (hl : X.env.kindOf n = some .local)
      (hsu : ∀ (a : Addr) (oe : Obj) (cl : Value) (d : Option Addr) (pn : List (Addr × Obj)), Zc cl d oe → (∃ vs, oe.data = .fields vs) → PSs (X.suite a ((a, oe) :: pn)) (b0 :: su) (uOf (K := X.K) T fz [] x ψ a cl d)) (r : ClsD X T fz nm hs l ds) :
      ClsD X T fz nm (.ExceptHandler (some (.Name x np)) (some n) (b0 :: su) ps :: hs) ((.ref (He.ga X.K x), i, fun a cl d => uOf (K := X.K) T fz [] x ψ a cl d) :: l) ((x, i, ψ) :: ds)
theorem ClsD.cls {nm : List Str} {hs : List ExceptHandler} {l : List ClA} {ds : List (Str × Nat × (Addr → Addr → DS))} (h : ClsD X T fz nm hs l ds) : ClsA X hs l := by
  induction h with
  | nil => exact .nil
  | cons hm hc hi hl hsu r ih => exact .cons hc hi hl hsu ih
theorem s_try {nm : List Str} {body : List Stmt} {h0 : ExceptHandler} {hds : List ExceptHandler} {l : List ClA} {ds : List (Str × Nat × (Addr → Addr → DS))} {b : DS} {pos : Pos} (hs : X.stack = X.env :: X.outer) (hf : X.env.frame = some X.env.locals) (hN : X.N.Nodup) (tk : Takes X W) (xm : ExmT X.K nm)
    (hb : ∀ (W : WX) (pn : List (Addr × Obj)) (xe : Value → Shared → Prop), Takes (X.tr pn xe) W → PassesOwn (model X.prog X.w) X.A X.env xe → PSs (X.tr pn xe) body (sOf (K := X.K) T W fz [] [] [] b))
    (hh : ClsD X T fz nm (h0 :: hds) l ds) : PS X (.Try body (h0 :: hds) [] [] pos) (sOf T W fz [] [] [] (sTry nm b ds)) := by
  refine psI (ps_try_nam (tb := fun W => sOf (K := X.K) T W fz [] [] [] b) hs hf hN tk hb hh.cls) fun M σ H ⟨ρ, H0, owi, ow0, fr, E, s, tr, k, q⟩ => ?_
  refine ⟨ρ, H0, owi, ow0, fr, { E with ex := fun x ρ' => catchD nm ds x E ρ' }, s, tr, ⟨k.nx, k.rt, k.bk, k.ct, fun x d σ1 H1 ρ1 ow1 s1 xr qx => ?_⟩, q⟩
  have all : ∀ {hl : List ExceptHandler} {m : List ClA} {es : List (Str × Nat × (Addr → Addr → DS))}, ClsD X T fz nm hl m es → catchD nm es x E ρ1 → wNam X.K W M m (.ref (He.ga X.K x.cls)) d σ1 H1 := by
    intro hl m es hk
    induction hk with
    | nil => intro qx; exact k.ex x d σ1 H1 ρ1 ow1 s1 xr qx
    | @cons y n i ψ b0 su np ps hs l ds hm hc hi hl hsu r ih =>
      intro qx
      obtain ⟨q1, q2⟩ := qx
      refine ⟨_, xm x.cls q1 y hm, fun e a ha => ?_, fun e => ?_⟩
      · have e := of_decide_eq_true e
        rw [if_pos e] at q2
        obtain ⟨nf, q2⟩ := q2
        cases d with
        | none => exact absurd xr nf
        | some dd =>
          obtain ⟨fvs, g1, g2⟩ := xr
          refine ⟨dd, rfl, by rw [e], _, H0, owi, ow1, fr, offD E i, s1.set rfl (.exc g1 g2), tr, ⟨fun σ2 H2 ρ2 ow2 s2 q3 => k.nx _ H2 _ ow2 s2.unset q3, k.rt, fun σ2 H2 ρ2 ow2 s2 q3 => k.bk _ H2 _ ow2 s2.unset q3, fun σ2 H2 ρ2 ow2 s2 q3 => k.ct _ H2 _ ow2 s2.unset q3, fun _ _ _ _ _ _ _ _ z => z.elim⟩, q2 a dd⟩
      · rw [if_neg (of_decide_eq_false e)] at q2
        exact ih q2
  exact all hh qx
end
end Dz
namespace Dz
open PySem PySem.Spec PyProof.Rows L2 Evl Bf
/-! ### == of data without bools -/
mutual
/-- data of at most that depth: no bool, no dict, texts as they should be -/
def D.okE : Nat → D → Bool
  | _, .non => true
  | _, .int _ => true
  | _, .str s => PyData.strOk s
  | n + 1, .lst xs => okEL n xs
  | n + 1, .tup xs => okEL n xs
  | _, _ => false
def okEL : Nat → List D → Bool
  | _, [] => true
  | n, d :: ds => D.okE n d && okEL n ds
end
mutual
theorem okE_py : ∀ (n : Nat) (d : D), d.okE n = true → ∃ p, d.py = some p ∧ p.canLay0 = true ∧ p.depth ≤ n
  | _, .non, _ => ⟨_, rfl, rfl, Nat.zero_le _⟩
  | _, .int _, _ => ⟨_, rfl, rfl, Nat.zero_le _⟩
  | n, .str s, h => ⟨_, rfl, by unfold D.okE at h; exact h, Nat.zero_le _⟩
  | n + 1, .lst xs, h => by
    unfold D.okE at h
    obtain ⟨ps, h1, h2, h3⟩ := okEL_py n xs h
    refine ⟨.list ps, ?_, h2, ?_⟩
    · unfold D.py; rw [h1]
    · show PyData.depthAll ps + 1 ≤ n + 1; omega
  | n + 1, .tup xs, h => by
    unfold D.okE at h
    obtain ⟨ps, h1, h2, h3⟩ := okEL_py n xs h
    refine ⟨.tuple ps, ?_, h2, ?_⟩
    · unfold D.py; rw [h1]
    · show PyData.depthAll ps + 1 ≤ n + 1; omega
  | 0, .lst _, h => by unfold D.okE at h; cases h
  | 0, .tup _, h => by unfold D.okE at h; cases h
  | _, .bl _, h => by unfold D.okE at h; cases h
  | _, .dic _, h => by unfold D.okE at h; cases h
  | _, .ins _ _, h => by unfold D.okE at h; cases h
  | _, .ty _, h => by unfold D.okE at h; cases h
  | _, .cls _, h => by unfold D.okE at h; cases h
  | _, .scr _, h => by unfold D.okE at h; cases h
  | _, .exc _ _ _ _, h => by unfold D.okE at h; cases h
  | _, .well _, h => by unfold D.okE at h; cases h
  | _, .fam _ _ _, h => by unfold D.okE at h; cases h
  | _, .dit _, h => by unfold D.okE at h; cases h
theorem okEL_py : ∀ (n : Nat) (ds : List D), okEL n ds = true → ∃ ps, pyL ds = some ps ∧ PyData.canLayAll0 ps = true ∧ PyData.depthAll ps ≤ n
  | _, [], _ => ⟨[], rfl, rfl, Nat.zero_le _⟩
  | n, d :: ds, h => by
    unfold okEL at h
    obtain ⟨h1, h2⟩ := Bool.and_eq_true_iff.mp h
    obtain ⟨p, a1, a2, a3⟩ := okE_py n d h1
    obtain ⟨ps, b1, b2, b3⟩ := okEL_py n ds h2
    refine ⟨p :: ps, ?_, ?_, ?_⟩
    · unfold pyL; rw [a1, b1]
    · show (p.canLay0 && PyData.canLayAll0 ps) = true; rw [a2, b2]; rfl
    · show max p.depth (PyData.depthAll ps) ≤ n; omega
end
mutual
theorem eqv_d : ∀ (d e : D) (n m : Nat) {p q : PyData}, d.okE n = true → e.okE m = true → d.py = some p → e.py = some q → (PyData.eqv p q = true ↔ d = e)
  | .non, e, _, _, p, q, _, he, h1, h2 => by
    cases h1
    cases e <;> first
      | (cases h2; done)
      | (cases h2; exact ⟨fun _ => rfl, fun _ => rfl⟩)
      | (cases h2; exact ⟨(fun z => by cases z), (fun z => by cases z)⟩)
      | (unfold D.py at h2; split at h2 <;> cases h2; exact ⟨(fun z => by cases z), (fun z => by cases z)⟩)
  | .int i, e, _, _, p, q, _, he, h1, h2 => by
    cases h1
    cases e with
    | int j => cases h2; show (i == j) = true ↔ _; rw [beq_iff_eq]; exact ⟨fun z => by rw [z], fun z => D.int.inj z⟩
    | bl j => unfold D.okE at he; cases he
    | lst _ => unfold D.py at h2; split at h2 <;> cases h2; exact ⟨(fun z => by cases z), (fun z => by cases z)⟩
    | tup _ => unfold D.py at h2; split at h2 <;> cases h2; exact ⟨(fun z => by cases z), (fun z => by cases z)⟩
    | _ => cases h2 <;> exact ⟨(fun z => by cases z), (fun z => by cases z)⟩
  | .str i, e, _, _, p, q, _, he, h1, h2 => by
    cases h1
    cases e with
    | str j => cases h2; show (i == j) = true ↔ _; rw [beq_iff_eq]; exact ⟨fun z => by rw [z], fun z => D.str.inj z⟩
    | lst _ => unfold D.py at h2; split at h2 <;> cases h2; exact ⟨(fun z => by cases z), (fun z => by cases z)⟩
    | tup _ => unfold D.py at h2; split at h2 <;> cases h2; exact ⟨(fun z => by cases z), (fun z => by cases z)⟩
    | _ => cases h2 <;> exact ⟨(fun z => by cases z), (fun z => by cases z)⟩
  | .lst xs, e, n, m, p, q, hd, he, h1, h2 => by
    unfold D.py at h1
    split at h1
    · rename_i ps g1
      cases h1
      cases n with
      | zero => unfold D.okE at hd; cases hd
      | succ n =>
        unfold D.okE at hd
        cases e with
        | lst ys =>
          unfold D.py at h2
          split at h2
          · rename_i qs g2
            cases h2
            cases m with
            | zero => unfold D.okE at he; cases he
            | succ m =>
              unfold D.okE at he
              show PyData.eqvAll ps qs = true ↔ _
              rw [eqv_dL xs ys n m hd he g1 g2]
              exact ⟨fun z => by rw [z], fun z => D.lst.inj z⟩
          · cases h2
        | tup _ => unfold D.py at h2; split at h2 <;> cases h2; exact ⟨(fun z => by cases z), (fun z => by cases z)⟩
        | _ => cases h2 <;> exact ⟨(fun z => by cases z), (fun z => by cases z)⟩
    · cases h1
  | .tup xs, e, n, m, p, q, hd, he, h1, h2 => by
    unfold D.py at h1
    split at h1
    · rename_i ps g1
      cases h1
      cases n with
      | zero => unfold D.okE at hd; cases hd
      | succ n =>
        unfold D.okE at hd
        cases e with
        | tup ys =>
          unfold D.py at h2
          split at h2
          · rename_i qs g2
            cases h2
            cases m with
            | zero => unfold D.okE at he; cases he
            | succ m =>
              unfold D.okE at he
              show PyData.eqvAll ps qs = true ↔ _
              rw [eqv_dL xs ys n m hd he g1 g2]
              exact ⟨fun z => by rw [z], fun z => D.tup.inj z⟩
          · cases h2
        | lst _ => unfold D.py at h2; split at h2 <;> cases h2; exact ⟨(fun z => by cases z), (fun z => by cases z)⟩
        | _ => cases h2 <;> exact ⟨(fun z => by cases z), (fun z => by cases z)⟩
    · cases h1
  | .bl _, _, _, _, _, _, hd, _, _, _ => by unfold D.okE at hd; cases hd
  | .dic _, _, _, _, _, _, hd, _, _, _ => by unfold D.okE at hd; cases hd
  | .ins _ _, _, _, _, _, _, hd, _, _, _ => by unfold D.okE at hd; cases hd
  | .ty _, _, _, _, _, _, hd, _, _, _ => by unfold D.okE at hd; cases hd
  | .cls _, _, _, _, _, _, hd, _, _, _ => by unfold D.okE at hd; cases hd
  | .scr _, _, _, _, _, _, hd, _, _, _ => by unfold D.okE at hd; cases hd
  | .exc _ _ _ _, _, _, _, _, _, hd, _, _, _ => by unfold D.okE at hd; cases hd
  | .well _, _, _, _, _, _, hd, _, _, _ => by unfold D.okE at hd; cases hd
  | .fam _ _ _, _, _, _, _, _, hd, _, _, _ => by unfold D.okE at hd; cases hd
  | .dit _, _, _, _, _, _, hd, _, _, _ => by unfold D.okE at hd; cases hd
theorem eqv_dL : ∀ (xs ys : List D) (n m : Nat) {ps qs : List PyData}, okEL n xs = true → okEL m ys = true → pyL xs = some ps → pyL ys = some qs → (PyData.eqvAll ps qs = true ↔ xs = ys)
  | [], [], _, _, ps, qs, _, _, h1, h2 => by cases h1; cases h2; exact ⟨fun _ => rfl, fun _ => rfl⟩
  | [], y :: ys, _, _, ps, qs, _, _, h1, h2 => by
    cases h1
    unfold pyL at h2
    split at h2 <;> cases h2
    exact ⟨(fun z => by cases z), (fun z => by cases z)⟩
  | x :: xs, [], _, _, ps, qs, _, _, h1, h2 => by
    cases h2
    unfold pyL at h1
    split at h1 <;> cases h1
    exact ⟨(fun z => by cases z), (fun z => by cases z)⟩
  | x :: xs, y :: ys, n, m, ps, qs, hd, he, h1, h2 => by
    unfold okEL at hd he
    obtain ⟨a1, a2⟩ := Bool.and_eq_true_iff.mp hd
    obtain ⟨b1, b2⟩ := Bool.and_eq_true_iff.mp he
    unfold pyL at h1 h2
    split at h1
    · rename_i p1 ps1 c1 c2
      cases h1
      split at h2
      · rename_i q1 qs1 d1 d2
        cases h2
        show (PyData.eqv p1 q1 && PyData.eqvAll ps1 qs1) = true ↔ _
        rw [Bool.and_eq_true, eqv_d x y n m a1 b1 c1 d1, eqv_dL xs ys n m a2 b2 c2 d2]
        exact ⟨fun ⟨z1, z2⟩ => by rw [z1, z2], fun z => List.cons.inj z⟩
      · cases h2
    · cases h1
end
theorem eq_of {neg : Bool} {d e : D} (h1 : d.okE 64 = true) (h2 : e.okE 64 = true) {b : Bool} (hb : b = true ↔ d = e) : dEq neg d e = some (.bl (neg != b)) := by
  obtain ⟨p, a1, a2, a3⟩ := okE_py 64 d h1
  obtain ⟨q, b1, b2, b3⟩ := okE_py 64 e h2
  unfold dEq
  rw [a1, b1]
  have s1 : SeqAt.shaped p = true := by show (p.canLay0 && decide (p.depth ≤ 64)) = true; rw [a2, decide_eq_true a3]; rfl
  have s2 : SeqAt.shaped q = true := by show (q.canLay0 && decide (q.depth ≤ 64)) = true; rw [b2, decide_eq_true b3]; rfl
  show (if SeqAt.shaped p = true ∧ SeqAt.shaped q = true then some (D.bl (neg != PyData.eqv p q)) else none) = _
  rw [if_pos ⟨s1, s2⟩]
  have e1 : PyData.eqv p q = b := by
    have := eqv_d d e 64 64 h1 h2 a1 b1
    cases hp : PyData.eqv p q with
    | true => exact (hb.mpr (this.mp hp)).symm
    | false =>
      cases hc : b with
      | false => rfl
      | true => rw [this.mpr (hb.mp hc)] at hp; cases hp
  rw [e1]
theorem eq_int (neg : Bool) (i j : Int) : dEq neg (.int i) (.int j) = some (.bl (neg != decide (i = j))) := eq_of rfl rfl ⟨fun z => by rw [of_decide_eq_true z], fun z => decide_eq_true (D.int.inj z)⟩
theorem okE_up {n m : Nat} (h : n ≤ m) : ∀ d : D, d.okE n = true → d.okE m = true := by
  have all : ∀ n m : Nat, n ≤ m → (∀ d : D, d.okE n = true → d.okE m = true) := by
    intro n
    induction n with
    | zero =>
      intro m hm d hd
      cases d <;> first
        | (unfold D.okE at hd ⊢; exact hd)
        | (unfold D.okE at hd; cases hd)
    | succ n ih =>
      intro m hm d hd
      cases m with
      | zero => omega
      | succ m =>
        have hl : ∀ ds : List D, okEL n ds = true → okEL m ds = true := by
          intro ds
          induction ds with
          | nil => intro _; unfold okEL; rfl
          | cons x xs ihx =>
            intro h
            unfold okEL at h ⊢
            obtain ⟨a1, a2⟩ := Bool.and_eq_true_iff.mp h
            rw [ih m (by omega) x a1, ihx a2]
            rfl
        cases d <;> first
          | (unfold D.okE at hd ⊢; exact hl _ hd)
          | (unfold D.okE at hd ⊢; exact hd)
          | (unfold D.okE at hd; cases hd)
  exact all n m h
theorem okEL_of {n : Nat} : ∀ {ds : List D}, (∀ d ∈ ds, d.okE n = true) → okEL n ds = true
  | [], _ => by unfold okEL; rfl
  | d :: ds, h => by
    unfold okEL
    rw [h d List.mem_cons_self, okEL_of fun x hx => h x (List.mem_cons_of_mem _ hx)]
    rfl
theorem ok_lst {n : Nat} {ds : List D} (h : ∀ d ∈ ds, d.okE n = true) : (D.lst ds).okE (n + 1) = true := by unfold D.okE; exact okEL_of h
theorem ok_tup {n : Nat} {ds : List D} (h : ∀ d ∈ ds, d.okE n = true) : (D.tup ds).okE (n + 1) = true := by unfold D.okE; exact okEL_of h
theorem ok_strs {xs : List Str} (h : ∀ x ∈ xs, PyData.strOk x = true) : ∀ d ∈ xs.map D.str, d.okE 0 = true := fun d hd => by
  obtain ⟨x, hx, rfl⟩ := List.mem_map.mp hd
  unfold D.okE
  exact h x hx
theorem strs_inj {xs ys : List Str} : xs.map D.str = ys.map D.str ↔ xs = ys := ⟨fun h => (List.map_inj_right (fun a b z => D.str.inj z)).mp h, fun h => by rw [h]⟩
end Dz
namespace Dz
theorem add_int (i j : Int) : dAdd (.int i) (.int j) = some (.int (i + j)) := rfl
end Dz
namespace Dz
open PySem PySem.Spec PyProof.Rows L2 Evl Bf
/-! ### trees with nothing that may be changed -/
mutual
def D.flt : D → Bool
  | .non => true
  | .bl _ => true
  | .int _ => true
  | .str _ => true
  | .ty _ => true
  | .cls _ => true
  | .scr _ => true
  | .tup ds => fltL ds
  | .lst _ => false
  | .dic _ => false
  | .ins _ _ => false
  | .exc _ _ _ _ => false
  | .well _ => false
  | .fam _ _ _ => false
  | .dit _ => false
def fltL : List D → Bool
  | [] => true
  | d :: ds => d.flt && fltL ds
end
def fltK : List (Key × D) → Bool
  | [] => true
  | d :: ds => d.2.flt && fltK ds
def fltF : List (Str × D) → Bool
  | [] => true
  | d :: ds => d.2.flt && fltF ds
/-- a list, dict or thing with nothing in it that may be changed -/
def D.fltC : D → Bool
  | .lst ds => fltL ds
  | .dic ds => fltK ds
  | .ins _ ds => fltF ds
  | _ => false
def nb : Addr → Prop := fun _ => False
section
variable {K : PySem.W.Frag} {H G : Hp} {ow ow' : Addr → Prop}
mutual
theorem Rep.flt {v : V} {d : D} (h : Rep K H ow v d) (f : d.flt = true) : Rep K H ow' v d :=
  match h, f with
  | .non, _ => .non
  | .bl b, _ => .bl b
  | .int i, _ => .int i
  | .str s, _ => .str s
  | .tup a c, f => .tup a (RepL.flt c (by rw [D.flt] at f; exact f))
  | .ty n, _ => .ty n
  | .cls c, _ => .cls c
  | .scr a, _ => .scr a
  | .lst _ _ _, f => by simp [D.flt] at f
  | .dic _ _ _, f => by simp [D.flt] at f
  | .ins _ _ _, f => by simp [D.flt] at f
  | .exc _ _, f => by simp [D.flt] at f
  | .well _ _, f => by simp [D.flt] at f
  | .fam _ _ _ _, f => by simp [D.flt] at f
  | .dit _ _ _ _, f => by simp [D.flt] at f
theorem RepL.flt {vs : List V} {ds : List D} (h : RepL K H ow vs ds) (f : fltL ds = true) : RepL K H ow' vs ds :=
  match h, f with
  | .nil, _ => .nil
  | .cons a b, f => by
    rw [fltL] at f
    obtain ⟨f1, f2⟩ := Bool.and_eq_true_iff.mp f
    exact .cons (Rep.flt a f1) (RepL.flt b f2)
end
theorem RepK.flt : ∀ {vs : List (Key × V)} {ds : List (Key × D)}, RepK K H ow vs ds → fltK ds = true → RepK K H ow' vs ds
  | _, _, .nil, _ => .nil
  | _, _, .cons a b, f => by
    obtain ⟨f1, f2⟩ := Bool.and_eq_true_iff.mp f
    exact .cons (a.flt f1) (RepK.flt b f2)
theorem RepF.flt : ∀ {vs : List (Str × V)} {ds : List (Str × D)}, RepF K H ow vs ds → fltF ds = true → RepF K H ow' vs ds
  | _, _, .nil, _ => .nil
  | _, _, .cons a b, f => by
    obtain ⟨f1, f2⟩ := Bool.and_eq_true_iff.mp f
    exact .cons (a.flt f1) (RepF.flt b f2)
theorem Rep.r0 {v : V} {d : D} (h : Rep K H ow v d) : Rep K H nb v d := h.mv (Mv.less fun _ z => z.elim)
theorem RepO.r0 {v : V} {d : D} (h : RepO K H ow v d) : Rep K H nb v d := by
  rcases h with h | ⟨a, rfl, h⟩
  · exact h.r0
  · have m : Mv K H ow H nb := Mv.less fun _ z => z.elim
    cases h with
    | lst a b => exact .lst a (fun z => z) (b.mv m)
    | dic a b => exact .dic (.inl a) (fun z => z) (b.mv m)
    | ins a b => exact .ins a (fun z => z) (b.mv m)
    | dit a b c => exact .dit a b (fun z => z) c
theorem Own.r0 {fp : List Addr} {v : V} {d : D} (h : Own K H ow fp v d) : Rep K H nb v d := h.rep (fun _ z => z.elim) fun _ _ z => z
end
/-! ### reading what may be somebody's own -/
def erOf {K : PySem.W.Frag} (T : Th K) (W : WX) (O : List Nat) (φ : DX) : TE := fun σ H Q => ∃ ρ ow0 fr A Ax, T.Ok H ∧ ER K H ow0 fr O σ ρ ∧ φ ρ A Ax ∧ (∀ d v G, A d → T.Ok G → T.Gr H G → Rep K G nb v d → Q v G) ∧ XOk T W H (owOf ow0 O σ) σ Ax
def arOf {K : PySem.W.Frag} (T : Th K) (W : WX) (O : List Nat) (n : Nat) (φ : DA) : TA := fun σ H Q => ∃ ρ ow0 fr A Ax, T.Ok H ∧ ER K H ow0 fr O σ ρ ∧ φ ρ A Ax ∧ (∀ ds vs G, A ds → vs.length = n → T.Ok G → T.Gr H G → RepL K G nb vs ds → Q vs G) ∧ XOk T W H (owOf ow0 O σ) σ Ax
def xFlt (φ : DX) : DX := fun ρ A Ax => φ ρ (fun d => d.flt = true ∧ A d) Ax
def xFltC (φ : DX) : DX := fun ρ A Ax => φ ρ (fun d => d.fltC = true ∧ A d) Ax
/-- .. of a call that may raise -/
def xFltX (φ : DX) : DX := fun ρ A Ax => φ ρ (fun d => d.flt = true ∧ A d) fun x => fltF x.fs = true ∧ Ax x
def xFltCX (φ : DX) : DX := fun ρ A Ax => φ ρ (fun d => d.fltC = true ∧ A d) fun x => fltF x.fs = true ∧ Ax x
section
variable {X : Cx} {T : Th X.K} {W : WX} {O : List Nat} {e a b : Expr} {es : List Expr} {φ φa φb : DX} {φs : DA} {pos p : Pos}
theorem nb_trk {H : Hp} : ∀ a, nb a → H a ≠ none := fun _ z => z.elim
theorem er_o (h : PE X e (eoOf T W O φ)) : PE X e (erOf T W O φ) := peI h fun σ H Q ⟨ρ, ow0, fr, A, Ax, ok, er, q, k, x⟩ => ⟨ρ, ow0, fr, A, Ax, ok, er, q, fun d v G a o g r => k d v G a o g r.r0, x⟩
theorem er_var {i : Nat} {x : Str} (hN : X.N[i]? = some x) (hv : Vis X.env.scope x) (hO : O.contains (i + dp) = true) (hd : (x == ("__debug__" : Str)) = false := by decide) (hcd : (x == ("__classdict__" : Str)) = false := by decide) :
    PE X (.Name x pos) (erOf T W O (xVar i)) := peI (pe_var hN hv hd hcd) fun σ H Q ⟨ρ, ow0, fr, A, Ax, ok, er, ⟨d, h1, h2⟩, k, _⟩ => by
  obtain ⟨rg, hd⟩ := er.dep
  obtain ⟨v, d', fp, e1, e2, e3, _⟩ := hd i (er.lt h1) (by simpa using hO)
  rw [h1] at e1
  cases e1
  exact ⟨v, e2, k d v H h2 ok (T.refl H) e3.r0⟩
/-- what can not be changed is a value as any other -/
theorem be_r (h : PE X e (erOf T W O φ)) : PE X e (eOf T W O (xFlt φ)) := peI h fun σ H Q ⟨ρ, ow0, fr, A, Ax, ok, er, q, k, x⟩ => ⟨ρ, ow0, fr, _, Ax, ok, er, q, fun d v G ⟨f, a⟩ o g r => k d v G a o g (r.flt f), x⟩
theorem rop2_aux {r : R2} {g : D → D → Option D} (hg : OpD T r g) {σ : L2.St} {H : Hp} {Q : VK} (h : erOf T W O (xOp2 g φa φb) σ H Q) : tOp r (erOf T W O φa) (erOf T W O φb) σ H Q := by
  obtain ⟨ρ, ow0, fr, A, Ax, ok, er, q, k, x⟩ := h
  refine ⟨ρ, ow0, fr, _, Ax, ok, er, q, fun d v G qd okG gG rv => ?_, x⟩
  refine ⟨ρ, ow0, fr, _, Ax, okG, er.gr T gG, qd, fun d' v' G' ⟨z, ez, qz⟩ okG' gG' rv' => ?_, x.gr gG⟩
  exact hg G' nb v v' d d' z Q okG' nb_trk (.inl (rv.gr T gG')) (.inl rv') ez fun u J okJ gJ ru => k z u J qz okJ (T.trans gG (T.trans gG' gJ)) ru
theorem er_op {op : Operator} {r : R2} {g : D → D → Option D} (hr : OpR X (binaryOp op) r) (hg : OpD T r g) (ha : PE X a (erOf T W O φa)) (hb : PE X b (erOf T W O φb)) : PE X (.BinOp a op b pos) (erOf T W O (xOp2 g φa φb)) :=
  peI (pe_op hr ha hb) fun _ _ _ h => rop2_aux hg h
theorem er_cmp {op : CmpOp} {r : R2} {g : D → D → Option D} (hr : OpR X (compareOp op) r) (hg : OpD T r g) (ha : PE X a (erOf T W O φa)) (hb : PE X b (erOf T W O φb)) (hm : behindInMarks op b = false) : PE X (.Compare a [op] [b] pos) (erOf T W O (xOp2 g φa φb)) :=
  peI (pe_cmpR hr ha hb hm) fun _ _ _ h => rop2_aux hg h
theorem er_ix {r : R2} {g : D → D → Option D} (hr : IxR X r) (hg : OpD T r g) (ha : PE X a (erOf T W O φa)) (hb : PE X b (erOf T W O φb)) (hs : PlainIx b) : PE X (.Subscript a b pos) (erOf T W O (xOp2 g φa φb)) :=
  peI (pe_ix hr ha hb hs) fun _ _ _ h => rop2_aux hg h
theorem rt_cmp {op : CmpOp} {r : R2} {g : D → D → Option D} (hr : OpR X (compareOp op) r) (hg : OpD T r g) (ha : PE X a (erOf T W O φa)) (hb : PE X b (erOf T W O φb)) (hm : behindInMarks op b = false) : PT X (.Compare a [op] [b] pos) (tOf T W O (tB' (xOp2 g φa φb))) :=
  ptI (pt_cmpR hr ha hb hm) fun σ H Q ⟨ρ, ow0, fr, A, Ax, ok, er, q, k, x⟩ => rop2_aux hg ⟨ρ, ow0, fr, _, Ax, ok, er, q, fun d v G ⟨c, e1, a⟩ o g r => by
    subst e1
    exact ⟨c, rep_bl r, k c G a o g⟩, x⟩
theorem er_fld {c f : Str} (hc : Cls X.K (He.ga X.K c)) (hn : NoAttr X.K (He.ga X.K c) f) (he : PE X e (erOf T W O φ)) (hb : attributeBase e f X.env (eval e X.env) = eval e X.env) : PE X (.Attribute e f pos) (erOf T W O (xFld c f φ)) :=
  peI (pe_fld he hb) fun σ H Q ⟨ρ, ow0, fr, A, Ax, ok, er, q, k, x⟩ => ⟨ρ, ow0, fr, _, Ax, ok, er, q, fun d v G ⟨fs, z, e1, e2, qz⟩ okG gG rv => (by
    subst e1
    obtain ⟨a, dx, vs, rfl, ha, ra⟩ := o_ins (.inl rv)
    rcases ra.look f with ⟨v, d, h1, h2, h3⟩ | ⟨_, h2⟩
    · rw [e2] at h2
      cases h2
      exact ⟨a, _, dx, vs, v, rfl, ha, hc, hn, h1, k _ _ G qz okG gG h3⟩
    · rw [e2] at h2; cases h2), x⟩
theorem ar_nil : PA X [] (arOf T W O 0 aNil) := paI pa_nil fun σ H Q ⟨ρ, ow0, fr, A, Ax, ok, er, q, k, _⟩ => k [] [] H q rfl ok (T.refl H) .nil
theorem ar_cons {n : Nat} (ha : PE X e (erOf T W O φ)) (hr : PA X es (arOf T W O n φs)) (hs : starEach (e :: es) X.env = (false, eval e X.env) :: starEach es X.env := by rfl) : PA X (e :: es) (arOf T W O (n + 1) (aCons φ φs)) :=
  paI (pa_cons ha hr hs) fun σ H Q ⟨ρ, ow0, fr, A, Ax, ok, er, q, k, x⟩ => ⟨ρ, ow0, fr, _, Ax, ok, er, q, fun d v G qd okG gG rv =>
    ⟨ρ, ow0, fr, _, Ax, okG, er.gr T gG, qd, fun ds vs J qs hn okJ gJ rs => k _ _ J qs (by rw [List.length_cons, hn]) okJ (T.trans gG gJ) (.cons (rv.gr T gJ) rs), x.gr gG⟩, x⟩
theorem prd_o {K : PySem.W.Frag} {H : Hp} {ow : Addr → Prop} : ∀ {vs : List V} {ds : List D}, RepL K H ow vs ds → Paired (RepO K H ow) vs ds
  | _, _, .nil => .nil
  | _, _, .cons a b => .cons (.inl a) (prd_o b)
theorem rb_aux {n fz : Nat} {r : List V → Hp → VK → Prop} {g : List D → Option D} (hg : CallD T r fz g) {σ : L2.St} {H : Hp} {Q : VK} (h : erOf T W O (xB g φs) σ H Q) : tCB r (arOf T W O n φs) σ H Q := by
  obtain ⟨ρ, ow0, fr, A, Ax, ok, er, q, k, x⟩ := h
  exact ⟨ρ, ow0, fr, _, Ax, ok, er, q, fun ds vs G ⟨z, ez, qz⟩ _ okG gG rv => hg G nb vs ds z Q okG nb_trk (prd_o rv) ez fun v J okJ gJ rJ => k z v J qz okJ (T.trans gG gJ) (rJ.rep nb_trk), x⟩
theorem ownr_flt {K : PySem.W.Frag} {G : Hp} {ow ow' : Addr → Prop} {p : Addr} {d : D} (h : OwnR K G ow p d) (f : d.fltC = true) : OwnR K G ow' p d := by
  cases h with
  | lst a b => exact .lst a (b.flt f)
  | dic a b => exact .dic a (b.flt f)
  | ins a b => exact .ins a (b.flt f)
  | dit a b c => exact .dit a b c
theorem rf_aux {n : Nat} {r : List V → Hp → VK → Prop} {g : List D → Option D} (hg : CallD T r 1 g) {σ : L2.St} {H : Hp} {Q : VK} (h : efOf T W O (xFltC (xB g φs)) σ H Q) : tCB r (arOf T W O n φs) σ H Q := by
  obtain ⟨ρ, ow0, fr, A, Ax, ok, er, q, k, x⟩ := h
  exact ⟨ρ, ow0, fr, _, Ax, ok, er, q, fun ds vs G ⟨z, ez, f, qz⟩ _ okG gG rv => hg G nb vs ds z Q okG nb_trk (prd_o rv) ez fun v J okJ gJ ⟨p, e1, e2, e3⟩ => k z v J qz okJ (T.trans gG gJ) ⟨p, e1, T.back gG e2, ownr_flt e3 f⟩, x⟩
variable {r : List V → Hp → VK → Prop} {g : List D → Option D} {id : String} {nm : String} {x : Str} {n : Nat}
theorem er_bf (hc : CallR X (.builtin id) r) {fz : Nat} (hg : CallD T r fz g) (hG : Gl X x) (hm : X.mg x = none) (hv : bootBuiltins x = some (.builtin id)) (ha : PA X (e :: es) (arOf T W O n φs)) (hn : x ≠ "__name__" := by decide) (hdb : (x == ("__debug__" : Str)) = false := by decide)
    (he : starEach (e :: es) X.env = (false, eval e X.env) :: starEach es X.env := by rfl) (hpl : (backTo pos (starEach es X.env)).any (·.1) = false := by rfl) : PE X (.Call (.Name x p) (e :: es) [] pos) (erOf T W O (xB g φs)) := peI (pe_callB hc hG hm hv ha hn hdb he hpl) fun _ _ _ h => rb_aux hg h
theorem er_bt (hc : CallR X (.type nm) r) {fz : Nat} (hg : CallD T r fz g) (hG : Gl X x) (hm : X.mg x = none) (hv : bootBuiltins x = some (.type nm)) (ha : PA X (e :: es) (arOf T W O n φs)) (hn : x ≠ "__name__" := by decide) (hdb : (x == ("__debug__" : Str)) = false := by decide)
    (he : starEach (e :: es) X.env = (false, eval e X.env) :: starEach es X.env := by rfl) (hpl : (backTo pos (starEach es X.env)).any (·.1) = false := by rfl) : PE X (.Call (.Name x p) (e :: es) [] pos) (erOf T W O (xB g φs)) := peI (pe_callTy hc hG hm hv ha hn hdb he hpl) fun _ _ _ h => rb_aux hg h
theorem rf_bf (hc : CallR X (.builtin id) r) (hg : CallD T r 1 g) (hG : Gl X x) (hm : X.mg x = none) (hv : bootBuiltins x = some (.builtin id)) (ha : PA X (e :: es) (arOf T W O n φs)) (hn : x ≠ "__name__" := by decide) (hdb : (x == ("__debug__" : Str)) = false := by decide)
    (he : starEach (e :: es) X.env = (false, eval e X.env) :: starEach es X.env := by rfl) (hpl : (backTo pos (starEach es X.env)).any (·.1) = false := by rfl) : PE X (.Call (.Name x p) (e :: es) [] pos) (efOf T W O (xFltC (xB g φs))) := peI (pe_callB hc hG hm hv ha hn hdb he hpl) fun _ _ _ h => rf_aux hg h
theorem rf_bt (hc : CallR X (.type nm) r) (hg : CallD T r 1 g) (hG : Gl X x) (hm : X.mg x = none) (hv : bootBuiltins x = some (.type nm)) (ha : PA X (e :: es) (arOf T W O n φs)) (hn : x ≠ "__name__" := by decide) (hdb : (x == ("__debug__" : Str)) = false := by decide)
    (he : starEach (e :: es) X.env = (false, eval e X.env) :: starEach es X.env := by rfl) (hpl : (backTo pos (starEach es X.env)).any (·.1) = false := by rfl) : PE X (.Call (.Name x p) (e :: es) [] pos) (efOf T W O (xFltC (xB g φs))) := peI (pe_callTy hc hG hm hv ha hn hdb he hpl) fun _ _ _ h => rf_aux hg h
/-! ### own defs, handed what may be somebody's own -/
theorem xrep_flt {K : PySem.W.Frag} {G : Hp} {ow ow' : Addr → Prop} {d : Option Addr} {x : Exc} (h : XRep K G ow d x) (f : fltF x.fs = true) : XRep K G ow' d x := by
  cases d with
  | none => exact h
  | some d =>
    obtain ⟨fvs, h1, h2⟩ := h
    exact ⟨fvs, h1, h2.flt f⟩
variable {k : Nat} {ps : List Str} {fz : Nat} {F : DF}
theorem rn_aux {σ : L2.St} {H : Hp} {Q : VK} (h : eOf T W O (xFltX (xFn F φs)) σ H Q) (hx : φs = φs) : tCallS (spOf T fz n F) (WE W) (arOf T W O n φs) σ H Q := by
  obtain ⟨ρ, ow0, fr, A, Ax, ok, er, q, k, x⟩ := h
  refine ⟨ρ, ow0, fr, _, _, ok, er, q, fun ds vs G qs hn okG gG rs => ?_, fun y d G ⟨f, a⟩ o g r => x y d G a o g r⟩
  refine ⟨hn, ds, nb, _, _, okG, nb_trk, rs, qs, fun d v J ⟨f, a⟩ o g r => ?_, fun y d J ⟨f, a⟩ o g r => x y d J a o (T.trans gG g) (xrep_flt r f)⟩
  exact k d v J a o (T.trans gG g) ((r.rep nb_trk).flt f)
theorem rnf_aux {σ : L2.St} {H : Hp} {Q : VK} (h : efOf T W O (xFltCX (xFn F φs)) σ H Q) : tCallS (spOf T 1 n F) (WE W) (arOf T W O n φs) σ H Q := by
  obtain ⟨ρ, ow0, fr, A, Ax, ok, er, q, k, x⟩ := h
  refine ⟨ρ, ow0, fr, _, _, ok, er, q, fun ds vs G qs hn okG gG rs => ?_, fun y d G ⟨f, a⟩ o g r => x y d G a o g r⟩
  refine ⟨hn, ds, nb, _, _, okG, nb_trk, rs, qs, fun d v J ⟨f, a⟩ o g ⟨p, e1, e2, e3⟩ => ?_, fun y d J ⟨f, a⟩ o g r => x y d J a o (T.trans gG g) (xrep_flt r f)⟩
  exact k d v J a o (T.trans gG g) ⟨p, e1, T.back gG e2, ownr_flt e3 f⟩
theorem rn_fn (C : Fn X.prog X.w T X.mg X.base k x ps fz F) (hr : Room k X.A) (tk : Takes X W) (ha : PA X (e :: es) (arOf T W O ps.length φs)) (hg : Gl X x := by rfl)
    (hdb : (x == ("__debug__" : Str)) = false := by decide) (he : starEach (e :: es) X.env = (false, eval e X.env) :: starEach es X.env := by rfl) (hpl : (backTo pos (starEach es X.env)).any (·.1) = false := by rfl) :
    PE X (.Call (.Name x p) (e :: es) [] pos) (eOf T W O (xFltX (xFn F φs))) := peI (pe_calS C hr (fun σ => passAt tk σ) ha hg hdb he hpl) fun _ _ _ h => rn_aux h rfl
theorem rf_fn (C : Fn X.prog X.w T X.mg X.base k x ps 1 F) (hr : Room k X.A) (tk : Takes X W) (ha : PA X (e :: es) (arOf T W O ps.length φs)) (hg : Gl X x := by rfl)
    (hdb : (x == ("__debug__" : Str)) = false := by decide) (he : starEach (e :: es) X.env = (false, eval e X.env) :: starEach es X.env := by rfl) (hpl : (backTo pos (starEach es X.env)).any (·.1) = false := by rfl) :
    PE X (.Call (.Name x p) (e :: es) [] pos) (efOf T W O (xFltCX (xFn F φs))) := peI (pe_calS C hr (fun σ => passAt tk σ) ha hg hdb he hpl) fun _ _ _ h => rnf_aux h
end
end Dz
namespace Dz
open PySem PySem.Spec PyProof.Rows L2 Evl Bf
/-! ### new trees, all of one's own -/
def esOf {K : PySem.W.Frag} (T : Th K) (W : WX) (O : List Nat) (φ : DX) : TE := fun σ H Q => ∃ ρ ow0 fr A Ax, T.Ok H ∧ ER K H ow0 fr O σ ρ ∧ φ ρ A Ax ∧ (∀ d v G, A d → T.Ok G → T.Gr H G → PostR K H G (owOf ow0 O σ) 2 v d → Q v G) ∧ XOk T W H (owOf ow0 O σ) σ Ax
def enOf {K : PySem.W.Frag} (T : Th K) (W : WX) (O : List Nat) (φ : DX) : TE := fun σ H Q => ∃ ρ ow0 fr A Ax, T.Ok H ∧ ER K H ow0 fr O σ ρ ∧ φ ρ A Ax ∧ (∀ d v G, A d → T.Ok G → T.Gr H G → PostR K H G (owOf ow0 O σ) 3 v d → Q v G) ∧ XOk T W H (owOf ow0 O σ) σ Ax
def NewL (K : PySem.W.Frag) (H G : Hp) (vs : List V) (ds : List D) : Prop := ∃ fp, OwnL K G tt fp vs ds ∧ fp.Nodup ∧ ∀ a ∈ fp, H a = none
def asOf {K : PySem.W.Frag} (T : Th K) (W : WX) (O : List Nat) (φ : DA) : TA := fun σ H Q => ∃ ρ ow0 fr A Ax, T.Ok H ∧ ER K H ow0 fr O σ ρ ∧ φ ρ A Ax ∧ (∀ ds vs G, A ds → T.Ok G → T.Gr H G → NewL K H G vs ds → Q vs G) ∧ XOk T W H (owOf ow0 O σ) σ Ax
def xX (φ : DX) : DX := fun ρ A Ax => φ ρ A fun x => fltF x.fs = true ∧ Ax x
section
variable {K : PySem.W.Frag} {H G J : Hp} {ow : Addr → Prop}
theorem Own.gr (T : Th K) (g : T.Gr H G) {fp : List Addr} {v : V} {d : D} (h : Own K H tt fp v d) : Own K G tt fp v d := h.mv (Mv.gr T g) fun a _ o z n => T.keep g z n
theorem OwnL.gr (T : Th K) (g : T.Gr H G) {fp : List Addr} {v : List V} {d : List D} (h : OwnL K H tt fp v d) : OwnL K G tt fp v d := h.mv (Mv.gr T g) fun a _ o z n => T.keep g z n
theorem OwnL.append : ∀ {f g : List Addr} {vs ws : List V} {ds es : List D}, OwnL K H ow f vs ds → OwnL K H ow g ws es → OwnL K H ow (f ++ g) (vs ++ ws) (ds ++ es)
  | _, _, _, _, _, _, .nil, h => h
  | _, _, _, _, _, _, .cons a b, h => by
    rw [List.append_assoc]
    exact .cons a (OwnL.append b h)
theorem OwnL.snoc {f g : List Addr} {vs : List V} {ds : List D} {v : V} {d : D} (h : OwnL K H ow f vs ds) (o : Own K H ow g v d) : OwnL K H ow (f ++ g) (vs ++ [v]) (ds ++ [d]) := by
  have := h.append (.cons o .nil)
  rwa [List.append_nil] at this
theorem OwnL.length : ∀ {f : List Addr} {vs : List V} {ds : List D}, OwnL K H ow f vs ds → vs.length = ds.length
  | _, _, _, .nil => rfl
  | _, _, _, .cons _ b => by rw [List.length_cons, List.length_cons, OwnL.length b]
theorem ownL_leaf : ∀ {vs : List V} {ds : List D}, RepL K H ow vs ds → OwnL K H ow [] vs ds
  | _, _, .nil => .nil
  | _, _, .cons a b => OwnL.cons (f := []) (.leaf a) (ownL_leaf b)
theorem ownK_leaf : ∀ {vs : List (Key × V)} {ds : List (Key × D)}, RepK K H ow vs ds → OwnK K H ow [] vs ds
  | _, _, .nil => .nil
  | _, _, .cons a b => OwnK.cons (f := []) (.leaf a) (ownK_leaf b)
theorem ownF_leaf : ∀ {vs : List (Str × V)} {ds : List (Str × D)}, RepF K H ow vs ds → OwnF K H ow [] vs ds
  | _, _, .nil => .nil
  | _, _, .cons a b => OwnF.cons (f := []) (.leaf a) (ownF_leaf b)
theorem ownr_own {p : Addr} {d : D} (h : OwnR K G ow p d) (f : d.fltC = true) : Own K G tt [p] (.ref p) d := by
  cases h with
  | lst a b => exact .lst a (ownL_leaf (b.flt f))
  | dic a b => exact .dic a (ownK_leaf (b.flt f))
  | ins a b => exact .ins a (ownF_leaf (b.flt f))
  | dit a b c => cases f
theorem nodup_app {f g : List Addr} (h1 : f.Nodup) (h2 : g.Nodup) (h : ∀ a ∈ f, a ∉ g) : (f ++ g).Nodup := List.nodup_append.mpr ⟨h1, h2, fun a ha b hb e => h a ha (e ▸ hb)⟩
theorem newL_cons (T : Th K) (g1 : T.Gr H G) (g2 : T.Gr G J) {v : V} {d : D} {vs : List V} {ds : List D} (h1 : PostR K H G ow 2 v d) (h2 : NewL K G J vs ds) : NewL K H J (v :: vs) (d :: ds) := by
  obtain ⟨f, o1, n1, e1⟩ := h1
  obtain ⟨g, o2, n2, e2⟩ := h2
  refine ⟨f ++ g, .cons (o1.gr T g2) o2, nodup_app n1 n2 fun a ha hg => o1.trk a ha (e2 a hg), fun a ha => ?_⟩
  rcases List.mem_append.mp ha with h | h
  · exact e1 a h
  · exact T.back g1 (e2 a h)
theorem s_new (h : PostR K H G ow 2 v d) (tr : ∀ a, ow a → H a ≠ none) : PostR K H G ow 3 v d := by
  obtain ⟨fp, o, _, n⟩ := h
  exact o.rep (fun _ _ => trivial) fun a ha z => z.elim (fun z => tr a z (n a ha)) fun z => z (n a ha)
end
section
variable {X : Cx} {T : Th X.K} {W : WX} {O : List Nat} {e a b : Expr} {es : List Expr} {φ φa φb : DX} {φs : DA} {pos p : Pos}
theorem es_f (h : PE X e (efOf T W O φ)) : PE X e (esOf T W O (xFltC φ)) := peI h fun σ H Q ⟨ρ, ow0, fr, A, Ax, ok, er, q, k, x⟩ => ⟨ρ, ow0, fr, _, Ax, ok, er, q, fun d v G ⟨f, a⟩ o g ⟨p, e1, e2, e3⟩ => by
  subst e1
  exact k d _ G a o g ⟨[p], ownr_own e3 f, List.nodup_cons.mpr ⟨List.not_mem_nil, List.nodup_nil⟩, fun a ha => by rw [List.mem_singleton.mp ha]; exact e2⟩, x⟩
theorem es_e (h : PE X e (eOf T W O φ)) : PE X e (esOf T W O (xFlt φ)) := peI h fun σ H Q ⟨ρ, ow0, fr, A, Ax, ok, er, q, k, x⟩ => ⟨ρ, ow0, fr, _, Ax, ok, er, q, fun d v G ⟨f, a⟩ o g r => k d _ G a o g ⟨[], .leaf (r.flt f), List.nodup_nil, fun a ha => absurd ha List.not_mem_nil⟩, x⟩
theorem be_s (h : PE X e (esOf T W O φ)) : PE X e (eOf T W O φ) := peI h fun σ H Q ⟨ρ, ow0, fr, A, Ax, ok, er, q, k, x⟩ => ⟨ρ, ow0, fr, A, Ax, ok, er, q, fun d v G a o g r => k d v G a o g (r.rep er.otrk), x⟩
theorem en_s (h : PE X e (esOf T W O φ)) : PE X e (enOf T W O φ) := peI h fun σ H Q ⟨ρ, ow0, fr, A, Ax, ok, er, q, k, x⟩ => ⟨ρ, ow0, fr, A, Ax, ok, er, q, fun d v G a o g r => k d v G a o g (s_new r er.otrk), x⟩
theorem be_n (h : PE X e (enOf T W O φ)) : PE X e (eOf T W O φ) := peI h fun σ H Q ⟨ρ, ow0, fr, A, Ax, ok, er, q, k, x⟩ => ⟨ρ, ow0, fr, A, Ax, ok, er, q, fun d v G a o g r => k d v G a o g (PostR.rep (fz := 3) r er.otrk), x⟩
theorem as_nil : PA X [] (asOf T W O aNil) := paI pa_nil fun σ H Q ⟨ρ, ow0, fr, A, Ax, ok, er, q, k, _⟩ => k [] [] H q ok (T.refl H) ⟨[], .nil, List.nodup_nil, fun a ha => absurd ha List.not_mem_nil⟩
theorem as_cons (ha : PE X e (esOf T W O φ)) (hr : PA X es (asOf T W O φs)) (hs : starEach (e :: es) X.env = (false, eval e X.env) :: starEach es X.env := by rfl) : PA X (e :: es) (asOf T W O (aCons φ φs)) :=
  paI (pa_cons ha hr hs) fun σ H Q ⟨ρ, ow0, fr, A, Ax, ok, er, q, k, x⟩ => ⟨ρ, ow0, fr, _, Ax, ok, er, q, fun d v G qd okG gG rv =>
    ⟨ρ, ow0, fr, _, Ax, okG, er.gr T gG, qd, fun ds vs J qs okJ gJ rs => k _ _ J qs okJ (T.trans gG gJ) (newL_cons T gG gJ rv rs), x.gr gG⟩, x⟩
theorem newL_len {K : PySem.W.Frag} {H G : Hp} {vs : List V} {ds : List D} (h : NewL K H G vs ds) : vs.length = ds.length := let ⟨_, o, _⟩ := h; o.length
theorem es_tup {x1} (h : PA X es (asOf T W O φs)) : PE X (.Tuple es x1 pos) (esOf T W O (xTup φs)) :=
  peI (pe_tup h) fun σ H Q ⟨ρ, ow0, fr, A, Ax, ok, er, q, k, x⟩ => ⟨ρ, ow0, fr, _, Ax, ok, er, q, fun ds vs G ⟨hl, qd⟩ okG gG rv => ⟨by rw [newL_len rv]; exact big_sz hl, fun p hp => by
    obtain ⟨fp, o, nd, nw⟩ := rv
    obtain ⟨h1, h2⟩ := T.new (o := .tup vs) okG hp rfl
    exact k _ _ _ qd h1 (T.trans gG h2) ⟨fp, .tup upd_same (o.gr T h2), nd, nw⟩⟩, x⟩
theorem es_lst (h : PA X es (asOf T W O φs)) : PE X (.List es pos) (esOf T W O (xLst φs)) :=
  peI (pe_lst h) fun σ H Q ⟨ρ, ow0, fr, A, Ax, ok, er, q, k, x⟩ => ⟨ρ, ow0, fr, _, Ax, ok, er, q, fun ds vs G ⟨hl, qd⟩ okG gG rv => ⟨by rw [newL_len rv]; exact big_sz hl, fun p hp => by
    obtain ⟨fp, o, nd, nw⟩ := rv
    obtain ⟨h1, h2⟩ := T.new (o := .lst vs) okG hp rfl
    exact k _ _ _ qd h1 (T.trans gG h2) ⟨p :: fp, .lst upd_same (o.gr T h2), List.nodup_cons.mpr ⟨fun z => o.trk p z hp, nd⟩, fun a ha => (List.mem_cons.mp ha).elim (fun e => e ▸ T.back gG hp) (nw a)⟩⟩, x⟩
/-! ### comprehensions of such -/
variable {is vs : List Nat} {tg iter elt : Expr} {ifs : List Expr} {φi : DI} {g : DG} {t : DT} {ee : DX} {scope : Scope} {own : List (Str × Nat)}
theorem lcs_aux {σ : L2.St} {H : Hp} {Q : VK} (hv : (vs.all fun i => fre O i) = true) (hi : (is.all fun i => vs.contains i) = true) (h : esOf T W O (xLc φi vs g t ee) σ H Q) : tLc (ioOf T W O φi) (gOf T O is g) (tOf T W0 O t) (esOf T W0 O ee) vs σ H Q := by
  obtain ⟨ρ, ow0, fr, A, Ax, ok, er, q, k, x⟩ := h
  have hV' : ∀ i ∈ vs, fre O i = true := fun i hi => List.all_eq_true.mp hv i hi
  have hV : ∀ i ∈ vs, i ∉ O := fun i hi => (fre_of (hV' i hi)).1
  have hI : ∀ i ∈ is, i ∈ vs := fun i h => by simpa using List.all_eq_true.mp hi i h
  refine ⟨ρ, ow0, fr, _, Ax, ok, er, q, fun items J H1 vd ⟨hl, qi⟩ ok1 g1 rvd wk p hp => ?_, x⟩
  have er1 := er.gr T g1
  obtain ⟨n1, n2⟩ := T.new (o := .lst []) ok1 hp rfl
  have er2 := (er1.more T hp n2).wipe hV'
  have eo : owOf (fun a => ow0 a ∨ a = p) O (wipe σ vs) = fun a => owOf ow0 O σ a ∨ a = p := by rw [ow_wipe hV, ow_more]
  refine ⟨fun i m G => m = items.length - i ∧ i ≤ items.length ∧ ∃ acc av, T.Ok G ∧ T.Gr H1 G ∧ ER X.K G (fun a => ow0 a ∨ a = p) { vd := fr.vd, iw := fun a => fr.iw a ∨ a = p } O (wipe σ vs) (wipeR ρ vs) ∧ (∀ q ∈ vd, RepP X.K G (owOf ow0 O σ) p q.1 q.2) ∧ G p = some (.lst av) ∧
      (∃ fa, OwnL X.K G tt fa av acc ∧ fa.Nodup ∧ (∀ a ∈ fa, H1 a = none) ∧ p ∉ fa) ∧ acc.length ≤ i ∧ lcL ρ vs g t ee (items.drop i) acc fun ys => A (.lst ys), ⟨items.length, by simp, Nat.zero_le _, [], [], n1, n2, ⟨er2.val, er2.own, er2.frm, er2.dep, er2.nwq, er2.trk, er2.len, (fun v z => nomatch z), er2.sml⟩, fun q hq => ?_, upd_same, ⟨[], .nil, List.nodup_nil, fun a ha => absurd ha List.not_mem_nil, List.not_mem_nil⟩, Nat.zero_le _, by rw [List.drop_zero]; exact qi⟩, ?_⟩
  · exact RepP.of (rvd q hq) T hp n2
  rintro i m G ⟨rfl, hi, acc, av, okG, gG, erG, rG, hG, ⟨fa, lG, ndG, nwG, npG⟩, al, qG⟩
  have trG : ∀ a, (fun a => owOf ow0 O σ a ∨ a = p) a → G a ≠ none := by rw [← eo]; exact erG.otrk
  obtain ⟨w1, w2, w3⟩ := wk _ G okG trG fun q hq => (rG q hq).o
  by_cases hlt : i < items.length
  · refine .inr ⟨w1 i hlt, fun G' => i + 1 ≤ items.length ∧ ∃ acc av, T.Ok G' ∧ T.Gr H1 G' ∧ ER X.K G' (fun a => ow0 a ∨ a = p) { vd := fr.vd, iw := fun a => fr.iw a ∨ a = p } O (wipe σ vs) (wipeR ρ vs) ∧ (∀ q ∈ vd, RepP X.K G' (owOf ow0 O σ) p q.1 q.2) ∧ G' p = some (.lst av) ∧
      (∃ fa, OwnL X.K G' tt fa av acc ∧ fa.Nodup ∧ (∀ a ∈ fa, H1 a = none) ∧ p ∉ fa) ∧ acc.length ≤ i + 1 ∧ lcL ρ vs g t ee (items.drop (i + 1)) acc fun ys => A (.lst ys), fun G' h' => ⟨items.length - (i + 1), by omega, rfl, h'⟩, fun x G2 y => ?_⟩
    obtain ⟨ok2, g2, d, hd, rx⟩ := w3 i x G2 hlt y
    have e1 : items.drop i = d :: items.drop (i + 1) := by
      rw [List.drop_eq_getElem_cons hlt]
      rw [List.getElem?_eq_getElem hlt] at hd
      rw [Option.some.inj hd]
    rw [e1] at qG
    have er3 := erG.gr T g2
    rw [← eo] at rx
    refine ⟨wipeR ρ vs, _, { vd := fr.vd, iw := fun a => fr.iw a ∨ a = p }, d, _, ok2, er3, rx, qG, fun τ ρ' erT sb qT => ⟨wipe_same sb hI, ?_⟩⟩
    have lo : ∀ {L : Hp}, T.Gr G L → T.Ok L → lcL ρ vs g t ee (items.drop (i + 1)) acc (fun ys => A (.lst ys)) → (i + 1 ≤ items.length ∧ ∃ acc av, T.Ok L ∧ T.Gr H1 L ∧ ER X.K L (fun a => ow0 a ∨ a = p) { vd := fr.vd, iw := fun a => fr.iw a ∨ a = p } O (wipe σ vs) (wipeR ρ vs) ∧ (∀ q ∈ vd, RepP X.K L (owOf ow0 O σ) p q.1 q.2) ∧ L p = some (.lst av) ∧
      (∃ fa, OwnL X.K L tt fa av acc ∧ fa.Nodup ∧ (∀ a ∈ fa, H1 a = none) ∧ p ∉ fa) ∧ acc.length ≤ i + 1 ∧ lcL ρ vs g t ee (items.drop (i + 1)) acc fun ys => A (.lst ys)) := fun gL okL qL =>
      ⟨hlt, acc, av, okL, T.trans gG gL, erG.gr T gL, fun q hq => (rG q hq).gr T gL, T.keep gL hG (fun _ z => by cases z), ⟨fa, lG.gr T gL, ndG, nwG, npG⟩, by omega, qL⟩
    refine ⟨ρ', _, { vd := fr.vd, iw := fun a => fr.iw a ∨ a = p }, _, _, ok2, erT, qT, fun b L qb okL gL => ?_, fun x d G a => absurd a (fun z => z)⟩
    have g3 := T.trans g2 gL
    cases b with
    | false => exact lo g3 okL qb
    | true =>
      refine ⟨ρ', _, { vd := fr.vd, iw := fun a => fr.iw a ∨ a = p }, _, _, okL, erT.gr T gL, qb, fun y v L2 qy okL2 gL2 ⟨fy, oy, ndy, nwy⟩ => ?_, fun x d G a => absurd a (fun z => z)⟩
      have g4 := T.trans g3 gL2
      have hp4 := T.keep g4 hG (fun _ z => by cases z)
      have hp3 : L p ≠ none := by rw [T.keep g3 hG (fun _ z => by cases z)]; exact fun z => by cases z
      have al2 : av.length < 100000 := by
        have h1 : av.length = acc.length := lG.length
        have h2 : items.length ≤ 100000 := hl
        omega
      refine ⟨av, hp4, sz_lt al2, hlt, acc ++ [y], av ++ [v], ?_⟩
      obtain ⟨p1, p2⟩ := T.put (o' := .lst (av ++ [v])) (T.trans gG g4) hp okL2 hp4 (fun _ z => by cases z) (fun _ z => by cases z) (fun _ z => by cases z) rfl rfl
      have mt : Mv X.K L2 tt (upd L2 p (.lst (av ++ [v]))) tt := Mv.put hp4 (fun _ z => by cases z) (fun _ z => by cases z) (fun _ _ z => by cases z) (fun _ z => by cases z) trivial fun a z => z
      have npy : p ∉ fy := fun z => hp3 (nwy p z)
      have kp : ∀ {f : List Addr}, p ∉ f → Keeps L2 (upd L2 p (.lst (av ++ [v]))) f := fun {f} n a ha o z _ => by rw [upd_ne (fun e : a = p => n (e ▸ ha))]; exact z
      refine ⟨p1, p2, (erG.gr T g4).put0 hp4 (fun _ z => by cases z) (fun _ z => by cases z) (fun _ _ z => by cases z) (fun _ z => by cases z) (.inr rfl) (.inr rfl), fun q hq => ?_, upd_same, ⟨fa ++ fy, ((lG.gr T g4).mv mt (kp npG)).snoc (oy.mv mt (kp npy)), nodup_app ndG ndy fun a ha hb => (lG.gr T g3).trk a ha (nwy a hb), fun a ha => ?_, fun z => (List.mem_append.mp z).elim npG npy⟩, by rw [List.length_append]; show acc.length + 1 ≤ i + 1; omega, qy⟩
      · exact RepP.put hp4 ((rG q hq).gr T g4)
      · rcases List.mem_append.mp ha with z | z
        · exact nwG a z
        · exact T.back (T.trans gG g3) (nwy a z)
  · have e1 : i = items.length := by omega
    subst e1
    rw [List.drop_length] at qG
    refine .inl ⟨w2, k _ _ G qG okG (T.trans g1 gG) ⟨p :: fa, .lst hG lG, List.nodup_cons.mpr ⟨npG, ndG⟩, fun a ha => ?_⟩⟩
    rcases List.mem_cons.mp ha with z | z
    · rw [z]; exact T.back g1 hp
    · exact T.back g1 (nwG a z)
theorem es_lc (hc : X.calm = true) (hN : X.N.Nodup) (hi : PI X tg iter (ioOf T W O φi)) (ok : BlkOk X.N X.env.scope scope own)
    (hg : ∀ (s : Shared) (H : Hp) (C : Addr) (cl : List (Str × Addr)) (fp : List Addr), PG (X.blk s H scope (compEnvC scope cl C X.env) fp) tg (gOf (K := X.K) T O is g)) (ht : ∀ (s : Shared) (H : Hp) (C : Addr) (cl : List (Str × Addr)) (fp : List Addr), PTs (X.blk s H scope (compEnvC scope cl C X.env) fp) ifs (tOf (K := X.K) T W0 O t))
    (he : ∀ (s : Shared) (H : Hp) (C : Addr) (cl : List (Str × Addr)) (fp : List Addr), PE (X.blk s H scope (compEnvC scope cl C X.env) fp) elt (esOf (K := X.K) T W0 O ee)) (hv : ((own.map (·.2)).all fun i => fre O i) = true) (hI : (is.all fun i => (own.map (·.2)).contains i) = true)
    (hs : ∀ x, foldedSetIterable iter X.env x = pure x := by intro _; rfl) : PE X (.ListComp elt [⟨tg, iter, ifs, 0⟩] scope pos) (esOf T W O (xLc φi (own.map (·.2)) g t ee)) :=
  peI (pe_lc hc hN hi ok hg ht he hs) fun _ _ _ h => lcs_aux hv hI h
/-! ### calls that give such -/
variable {k n : Nat} {ps : List Str} {F : DF} {x c m : Str} {o : Expr} {apos : Pos}
theorem fs_aux {σ : L2.St} {H : Hp} {Q : VK} (h : esOf T W O (xFn F φs) σ H Q) : tCallS (spOf T 2 n F) (WE W) (aOf T W O n φs) σ H Q := by
  obtain ⟨ρ, ow0, fr, A, Ax, ok, er, q, k, x⟩ := h
  refine ⟨ρ, ow0, fr, _, Ax, ok, er, q, fun ds vs G qs hn okG gG rs => ?_, x⟩
  refine ⟨hn, ds, owOf ow0 O σ, A, Ax, okG, (er.gr T gG).otrk, rs, qs, fun d v J a o g ⟨fp, e1, e2, e3⟩ => ?_, fun y d J a o g r => x y d J a o (T.trans gG g) r⟩
  exact k d v J a o (T.trans gG g) ⟨fp, e1, e2, fun a ha => T.back gG (e3 a ha)⟩
theorem rs_aux {σ : L2.St} {H : Hp} {Q : VK} (h : esOf T W O (xX (xFn F φs)) σ H Q) : tCallS (spOf T 2 n F) (WE W) (arOf T W O n φs) σ H Q := by
  obtain ⟨ρ, ow0, fr, A, Ax, ok, er, q, k, x⟩ := h
  refine ⟨ρ, ow0, fr, _, _, ok, er, q, fun ds vs G qs hn okG gG rs => ?_, fun y d G ⟨f, a⟩ o g r => x y d G a o g r⟩
  refine ⟨hn, ds, nb, _, _, okG, nb_trk, rs, qs, fun d v J a o g ⟨fp, e1, e2, e3⟩ => ?_, fun y d J ⟨f, a⟩ o g r => x y d J a o (T.trans gG g) (xrep_flt r f)⟩
  exact k d v J a o (T.trans gG g) ⟨fp, e1, e2, fun a ha => T.back gG (e3 a ha)⟩
theorem es_fn (C : Fn X.prog X.w T X.mg X.base k x ps 2 F) (hr : Room k X.A) (tk : Takes X W) (ha : PA X (e :: es) (aOf T W O ps.length φs)) (hg : Gl X x := by rfl)
    (hdb : (x == ("__debug__" : Str)) = false := by decide) (he : starEach (e :: es) X.env = (false, eval e X.env) :: starEach es X.env := by rfl) (hpl : (backTo pos (starEach es X.env)).any (·.1) = false := by rfl) :
    PE X (.Call (.Name x p) (e :: es) [] pos) (esOf T W O (xFn F φs)) := peI (pe_calS C hr (fun σ => passAt tk σ) ha hg hdb he hpl) fun _ _ _ h => fs_aux h
theorem rs_fn (C : Fn X.prog X.w T X.mg X.base k x ps 2 F) (hr : Room k X.A) (tk : Takes X W) (ha : PA X (e :: es) (arOf T W O ps.length φs)) (hg : Gl X x := by rfl)
    (hdb : (x == ("__debug__" : Str)) = false := by decide) (he : starEach (e :: es) X.env = (false, eval e X.env) :: starEach es X.env := by rfl) (hpl : (backTo pos (starEach es X.env)).any (·.1) = false := by rfl) :
    PE X (.Call (.Name x p) (e :: es) [] pos) (esOf T W O (xX (xFn F φs))) := peI (pe_calS C hr (fun σ => passAt tk σ) ha hg hdb he hpl) fun _ _ _ h => rs_aux h
theorem ms0_aux {σ : L2.St} {H : Hp} {Q : VK} (h : esOf T W O (xMeth0 c m F φ) σ H Q) : tMtS0 (He.ga X.K c) m (spOf T 2 1 F) (WE W) (eOf T W O φ) σ H Q := by
  obtain ⟨ρ, ow0, fr, A, Ax, ok, er, q, k, x⟩ := h
  refine ⟨ρ, ow0, fr, _, Ax, ok, er, q, fun d v G ⟨fs, e1, e2, qd⟩ okG gG rv => ?_, x⟩
  subst e1
  obtain ⟨a, dx, vs, rfl, ha, hl⟩ := ins_cases rv e2
  exact ⟨a, dx, vs, rfl, ha, hl, rfl, _, owOf ow0 O σ, A, Ax, okG, (er.gr T gG).otrk, .cons rv .nil, qd, fun d v L a o g ⟨fp, e1, e2, e3⟩ => k d v L a o (T.trans gG g) ⟨fp, e1, e2, fun a ha => T.back gG (e3 a ha)⟩, fun y d L a o g r => x y d L a o (T.trans gG g) r⟩
theorem es_meth0 (M : MtD X.prog X.w T X.mg X.base k c m 1 2 F) (hr : Room k X.A) (tk : Takes X W) (he : PE X o (eOf T W O φ)) {pl : Sem Bool}
    (ht : eval (.Call (.Attribute o m apos) [] [] pos) X.env = (do
      let ov ← eval o X.env
      standAt apos.atName
      let (f, first) ← holding [ov] (getMethod ov m pl)
      callWith pos f first (backTo pos (starEach [] X.env)) (backToKw pos (keywordEach [] X.env))) := by rfl) : PE X (.Call (.Attribute o m apos) [] [] pos) (esOf T W O (xMeth0 c m F φ)) := by
  obtain ⟨f, fd, ps, a1, a2, a3⟩ := M.ex
  exact peI (pe_mtS0 he M.cl a1 a2 hr a3 (fun σ => passAt tk σ) ht) fun _ _ _ h => ms0_aux h
end
/-! ### return of such -/
section
variable {X : Cx} {T : Th X.K} {W : WX} {O On Ol : List Nat} {e : Expr} {φe : DX} {pos : Pos}
theorem s_retS (he : PE X e (esOf T W O φe)) : PS X (.Return (some e) pos) (sOf T W 2 O On Ol (sRet φe)) :=
  psI (ps_ret he) fun M σ H ⟨ρ, H0, owi, ow0, fr, E, s, tr, k, q⟩ => ⟨ρ, ow0, fr, _, _, s.ok, s.er, q, fun d v G qd ok g ⟨fp, e1, e2, e3⟩ => k.rt v d G ok (T.trans s.gr g) ⟨fp, e1, e2, fun a ha => T.back s.gr (e3 a ha)⟩ qd, k.x s⟩
/-- return of a slot that holds a tree of one's own -/
theorem s_retT {i : Nat} {x : Str} {pos' : Pos} (hN : X.N[i]? = some x) (hv : Vis X.env.scope x) (hO : O.contains (i + dp) = true) (hd : (x == ("__debug__" : Str)) = false := by decide) (hcd : (x == ("__classdict__" : Str)) = false := by decide) :
    PS X (.Return (some (.Name x pos')) pos) (sOf T W 2 O On Ol (sRet (xVar i))) :=
  psI (ps_ret (pe_var hN hv hd hcd)) fun M σ H ⟨ρ, H0, owi, ow0, fr, E, s, tr, k, ⟨d, h1, h2⟩⟩ => by
    obtain ⟨rg, hd⟩ := s.er.dep
    obtain ⟨v, d', fp, e1, e2, e3, e4, e5⟩ := hd i (s.er.lt h1) (by simpa using hO)
    rw [h1] at e1
    cases e1
    refine ⟨v, e2, k.rt _ d H s.ok s.gr ⟨fp, e3, e4, fun a ha => ?_⟩ h2⟩
    have := (e5 a ha).2.2
    rw [s.iwH] at this
    exact Classical.not_not.mp this
end
end Dz
namespace Dz
open PySem PySem.Spec PyProof.Rows L2 Evl Bf
/-! ### counts of places -/
theorem nd_count {l : List Addr} : l.Nodup ↔ ∀ a, l.count a ≤ 1 := by
  induction l with
  | nil => exact ⟨fun _ a => by simp, fun _ => List.nodup_nil⟩
  | cons b l ih =>
    rw [List.nodup_cons, ih]
    constructor
    · rintro ⟨h1, h2⟩ a
      rw [List.count_cons]
      have := h2 a
      by_cases c : b = a
      · subst c
        rw [List.count_eq_zero.mpr h1]; simp
      · simp [c]; exact this
    · intro h
      refine ⟨fun z => ?_, fun a => ?_⟩
      · have h1 := h b
        rw [List.count_cons_self] at h1
        have := List.count_pos_iff.mpr z
        omega
      · have h1 := h a
        rw [List.count_cons] at h1
        split at h1 <;> omega
theorem cnt_le {f g : List Addr} (h : f.Nodup) (n : ∀ a, g.count a ≤ f.count a) : g.Nodup := nd_count.mpr fun a => Nat.le_trans (n a) (nd_count.mp h a)
theorem cnt_mem {f g : List Addr} (n : ∀ a, g.count a ≤ f.count a) : ∀ a ∈ g, a ∈ f := fun a ha => List.count_pos_iff.mp (Nat.lt_of_lt_of_le (List.count_pos_iff.mpr ha) (n a))
theorem Mv.trans {K : PySem.W.Frag} {H G J : Hp} {ow ow' ow2 : Addr → Prop} (m : Mv K H ow G ow') (n : Mv K G ow' J ow2) : Mv K H ow J ow2 where
  l := fun a vs h o => n.l a vs (m.l a vs h o).1 (m.l a vs h o).2
  r := fun a vs h => n.r a vs (m.r a vs h)
  t := fun a vs h => n.t a vs (m.t a vs h)
  d := fun a vs h o => n.d a vs (m.d a vs h o).1 (m.d a vs h o).2
  i := fun a C dx fs h o => n.i a C dx fs (m.i a C dx fs h o).1 (m.i a C dx fs h o).2
  x := fun a vs h => n.x a vs (m.x a vs h)
  w := fun a k h o => n.w a k (m.w a k h o).1 (m.w a k h o).2
  c := fun a kvs h o z => have q := m.c a kvs h o z; n.c a kvs q.1 q.2.1 q.2.2
theorem Keeps.trans {H G J : Hp} {f : List Addr} (h1 : Keeps H G f) (h2 : Keeps G J f) : Keeps H J f := fun a ha o z n => h2 a ha o (h1 a ha o z n) n
theorem keeps_gr {K : PySem.W.Frag} (T : Th K) {H G : Hp} (g : T.Gr H G) {f : List Addr} : Keeps H G f := fun a _ o z n => T.keep g z n
theorem keeps_put {H : Hp} {p : Addr} {o : HO} {f : List Addr} (n : p ∉ f) : Keeps H (upd H p o) f := fun a ha o z _ => by rw [upd_ne (fun e : a = p => n (e ▸ ha))]; exact z
/-! ### a place within a tree of one's own -/
def Foc (K : PySem.W.Frag) (H : Hp) (fp : List Addr) (v : V) (fp1 : List Addr) (v1 : V) (d1 : D) (ctx : D → D) : Prop := ∃ fa fb, fp = fa ++ fp1 ++ fb ∧ Own K H tt fp1 v1 d1 ∧ ∀ G f d, Mv K H tt G tt → Keeps H G fa → Keeps H G fb → Own K G tt f v1 d → Own K G tt (fa ++ f ++ fb) v (ctx d)
section
variable {K : PySem.W.Frag} {H G : Hp} {fp fp1 : List Addr} {v v1 : V} {d d1 : D} {ctx : D → D}
theorem Foc.gr (T : Th K) (g : T.Gr H G) (h : Foc K H fp v fp1 v1 d1 ctx) : Foc K G fp v fp1 v1 d1 ctx := by
  obtain ⟨fa, fb, e, o, k⟩ := h
  exact ⟨fa, fb, e, o.gr T g, fun J f d m ka kb o' => k J f d ((Mv.gr T g).trans m) ((keeps_gr T g).trans ka) ((keeps_gr T g).trans kb) o'⟩
theorem Foc.root (o : Own K H tt fp v d) : Foc K H fp v fp v d id := ⟨[], [], by rw [List.append_nil]; rfl, o, fun G f d _ _ _ o' => by rw [List.append_nil]; exact o'⟩
theorem OwnL.split : ∀ {k : Nat} {g : List Addr} {vs : List V} {ds : List D} {dk : D}, OwnL K H tt g vs ds → ds[k]? = some dk → ∃ g0 gk g1 vk, g = g0 ++ gk ++ g1 ∧ vs[k]? = some vk ∧ Own K H tt gk vk dk ∧
    ∀ G f d, Mv K H tt G tt → Keeps H G g0 → Keeps H G g1 → Own K G tt f vk d → OwnL K G tt (g0 ++ f ++ g1) vs (ds.set k d)
  | 0, _, _, _, _, .cons (f := f) (g := g) a b, e => by
    cases e
    exact ⟨[], f, g, _, rfl, rfl, a, fun G f' d m _ k1 o => .cons o (b.mv m k1)⟩
  | k + 1, _, _, _, _, .cons (f := f) (g := g) a b, e => by
    obtain ⟨g0, gk, g1, vk, e1, e2, e3, e4⟩ := OwnL.split b (show _ = _ from e)
    refine ⟨f ++ g0, gk, g1, vk, by rw [e1]; simp, e2, e3, fun G f' d m k0 k1 o => ?_⟩
    have := OwnL.cons (a.mv m k0.l) (e4 G f' d m k0.r k1 o)
    rw [List.set_cons_succ]
    simpa using this
  | _, _, _, _, _, .nil, e => by cases e
theorem OwnF.split {f : Str} : ∀ {g : List Addr} {vs : List (Str × V)} {ds : List (Str × D)} {dk : D}, OwnF K H tt g vs ds → ds.lookup f = some dk → ∃ g0 gk g1 vk, g = g0 ++ gk ++ g1 ∧ vs.lookup f = some vk ∧ Own K H tt gk vk dk ∧
    ∀ G f' d, Mv K H tt G tt → Keeps H G g0 → Keeps H G g1 → Own K G tt f' vk d → OwnF K G tt (g0 ++ f' ++ g1) vs (putFD f d ds)
  | _, _, _, _, .cons (f := f1) (g := g) (k := k) (v := v) (vs := vs) (d := d) (ds := ds) a b, e => by
    rw [List.lookup_cons] at e ⊢
    by_cases c : k = f
    · subst c
      rw [beq_self_eq_true] at e ⊢
      cases e
      refine ⟨[], f1, g, _, rfl, rfl, a, fun G f' d m _ k1 o => ?_⟩
      unfold putFD
      rw [if_pos rfl]
      exact .cons o (b.mv m k1)
    · have c' : (f == k) = false := by simpa using fun z => c z.symm
      rw [c'] at e ⊢
      obtain ⟨g0, gk, g1, vk, e1, e2, e3, e4⟩ := OwnF.split b e
      refine ⟨f1 ++ g0, gk, g1, vk, by rw [e1]; simp, e2, e3, fun G f' d m k0 k1 o => ?_⟩
      unfold putFD
      rw [if_neg c]
      have := OwnF.cons (k := k) (a.mv m k0.l) (e4 G f' d m k0.r k1 o)
      simpa using this
  | _, _, _, _, .nil, e => by cases e
theorem OwnK.split {f : Key} : ∀ {g : List Addr} {vs : List (Key × V)} {ds : List (Key × D)} {dk : D}, OwnK K H tt g vs ds → dVal ds f = some dk → ∃ g0 gk g1 vk, g = g0 ++ gk ++ g1 ∧ valV vs f = some vk ∧ Own K H tt gk vk dk
  | _, _, _, _, .cons (f := f1) (g := g) (k := k) (v := v) (vs := vs) (d := d) (ds := ds) a b, e => by
    unfold dVal at e
    unfold valV
    rw [List.find?_cons] at e ⊢
    by_cases c : k = f
    · rw [decide_eq_true c] at e ⊢
      cases e
      exact ⟨[], f1, g, _, rfl, rfl, a⟩
    · rw [decide_eq_false c] at e ⊢
      obtain ⟨g0, gk, g1, vk, e1, e2, e3⟩ := OwnK.split b e
      exact ⟨f1 ++ g0, gk, g1, vk, by rw [e1]; simp, e2, e3⟩
  | _, _, _, _, .nil, e => by cases e
theorem own_lst {g : List Addr} {v : V} {ds : List D} (h : Own K H tt g v (.lst ds)) : ∃ p vs g', v = .ref p ∧ g = p :: g' ∧ H p = some (.lst vs) ∧ OwnL K H tt g' vs ds := by
  cases h with
  | leaf r => cases r with
    | lst _ n _ => exact absurd trivial n
  | lst a b => exact ⟨_, _, _, rfl, rfl, a, b⟩
theorem own_dic {g : List Addr} {v : V} {ds : List (Key × D)} (h : Own K H tt g v (.dic ds)) : ∃ p vs g', v = .ref p ∧ g = p :: g' ∧ H p = some (.dK vs) ∧ OwnK K H tt g' vs ds := by
  cases h with
  | leaf r => cases r with
    | dic _ n _ => exact absurd trivial n
  | dic a b => exact ⟨_, _, _, rfl, rfl, a, b⟩
theorem own_ins {g : List Addr} {v : V} {c : Str} {ds : List (Str × D)} (h : Own K H tt g v (.ins c ds)) : ∃ p dx vs g', v = .ref p ∧ g = p :: g' ∧ H p = some (.ins (He.ga K c) dx vs) ∧ OwnF K H tt g' vs ds := by
  cases h with
  | leaf r => cases r with
    | ins _ n _ => exact absurd trivial n
  | ins a b => exact ⟨_, _, _, _, rfl, rfl, a, b⟩
theorem own_tup {g : List Addr} {v : V} {ds : List D} (h : Own K H tt g v (.tup ds)) : ∃ p vs, v = .ref p ∧ H p = some (.tup vs) ∧ OwnL K H tt g vs ds := by
  cases h with
  | leaf r => cases r with
    | tup a b => exact ⟨_, _, rfl, a, ownL_leaf b⟩
  | tup a b => exact ⟨_, _, rfl, a, b⟩
theorem Foc.ixL {ds : List D} {k : Nat} {dk : D} (h : Foc K H fp v fp1 v1 (.lst ds) ctx) (e : ds[k]? = some dk) : ∃ p vs vk gk, v1 = .ref p ∧ H p = some (.lst vs) ∧ vs.length = ds.length ∧ vs[k]? = some vk ∧ Foc K H fp v gk vk dk (fun x => ctx (.lst (ds.set k x))) := by
  obtain ⟨fa, fb, e1, o, kk⟩ := h
  obtain ⟨p, vs, g, rfl, rfl, hp, ol⟩ := own_lst o
  obtain ⟨g0, gk, g1, vk, rfl, e3, e4, e5⟩ := ol.split e
  refine ⟨p, vs, vk, gk, rfl, hp, ol.length, e3, fa ++ (p :: g0), g1 ++ fb, by rw [e1]; simp, e4, fun G f d m ka kb o' => ?_⟩
  have := kk G _ _ m ka.l kb.r (.lst (ka.r.hd hp fun _ z => by cases z) (e5 G f d m ka.r.tl kb.l o'))
  simpa using this
theorem Foc.ixT {ds : List D} {k : Nat} {dk : D} (h : Foc K H fp v fp1 v1 (.tup ds) ctx) (e : ds[k]? = some dk) : ∃ p vs vk gk, v1 = .ref p ∧ H p = some (.tup vs) ∧ vs.length = ds.length ∧ vs[k]? = some vk ∧ Foc K H fp v gk vk dk (fun x => ctx (.tup (ds.set k x))) := by
  obtain ⟨fa, fb, e1, o, kk⟩ := h
  obtain ⟨p, vs, rfl, hp, ol⟩ := own_tup o
  obtain ⟨g0, gk, g1, vk, rfl, e3, e4, e5⟩ := ol.split e
  refine ⟨p, vs, vk, gk, rfl, hp, ol.length, e3, fa ++ g0, g1 ++ fb, by rw [e1]; simp, e4, fun G f d m ka kb o' => ?_⟩
  have := kk G _ _ m ka.l kb.r (.tup (m.t _ _ hp) (e5 G f d m ka.r kb.l o'))
  simpa using this
theorem Foc.fld {c f : Str} {ds : List (Str × D)} {dk : D} (h : Foc K H fp v fp1 v1 (.ins c ds) ctx) (e : ds.lookup f = some dk) : ∃ p dx vs vk gk, v1 = .ref p ∧ H p = some (.ins (He.ga K c) dx vs) ∧ vs.lookup f = some vk ∧ Foc K H fp v gk vk dk (fun x => ctx (.ins c (putFD f x ds))) := by
  obtain ⟨fa, fb, e1, o, kk⟩ := h
  obtain ⟨p, dx, vs, g, rfl, rfl, hp, ol⟩ := own_ins o
  obtain ⟨g0, gk, g1, vk, rfl, e3, e4, e5⟩ := ol.split e
  refine ⟨p, dx, vs, vk, gk, rfl, hp, e3, fa ++ (p :: g0), g1 ++ fb, by rw [e1]; simp, e4, fun G f' d m ka kb o' => ?_⟩
  have := kk G _ _ m ka.l kb.r (.ins (ka.r.hd hp fun _ z => by cases z) (e5 G f' d m ka.r.tl kb.l o'))
  simpa using this
end
/-! ### a new slot with a tree of its own -/
theorem Sr.ownT {K : PySem.W.Frag} {T : Th K} {H0 H G : Hp} {owi ow0 : Addr → Prop} {fr : Fr} {O : List Nat} {σ : L2.St} {ρ : Ro} {i : Nat} {v : V} {d : D} {fp : List Addr} (s : Sr T H0 owi ow0 fr O σ H ρ) (hO : fre O i = true) (i0 : i ≠ 0) (hl : i < ρ.length) (ok : T.Ok G) (g : T.Gr H G)
    (o : Own K G tt fp v d) (nd : fp.Nodup) (nw : ∀ a ∈ fp, H a = none) : Sr T H0 owi (fun a => ow0 a ∨ a ∈ fp) fr ((i + dp) :: O) (σ.set i (some v)) G (ρ.set i (some d)) := by
  have h := (fre_of hO).1
  have hl' : i < σ.length := by rw [← s.er.len]; exact hl
  have hdp : i < dp := by have := s.er.sml; omega
  have eo : ∀ a, owOf (fun a => ow0 a ∨ a ∈ fp) ((i + dp) :: O) (σ.set i (some v)) a → owOf ow0 O σ a ∨ a ∈ fp := fun a z => by
    rcases z with (z | z) | ⟨j, hj, z⟩
    · exact .inl (.inl z)
    · exact .inr z
    · rcases List.mem_cons.mp hj with rfl | hj
      · have := (List.getElem?_eq_some_iff.mp z).1
        rw [List.length_set] at this
        have := s.er.sml
        omega
      · rw [List.getElem?_set_ne (fun z : i = j => h (z ▸ hj))] at z
        exact .inl (.inr ⟨j, hj, z⟩)
  have m1 : Mv K H (owOf ow0 O σ) G (owOf (fun a => ow0 a ∨ a ∈ fp) ((i + dp) :: O) (σ.set i (some v))) := (Mv.more fun a z => (eo a z).imp_right (nw a)).trans (Mv.gr T g)
  have nfp : ∀ {a : Addr}, H a ≠ none → a ∉ fp := fun z e => z (nw _ e)
  have lo : ∀ {j : Nat}, j < dp → j ∈ (i + dp) :: O → j ∈ O := fun {j} l z => (List.mem_cons.mp z).elim (fun e => absurd l (by omega)) id
  refine ⟨ok, T.trans s.gr g, ⟨fun j d' hd hj hj2 => ?_, fun j hj l => ?_, fun q hq => (s.er.frm q hq).mv m1, ?_, fun j hj => ?_, fun a ha => ha.elim (fun ha => T.forth g (s.er.trk a ha)) (o.trk a), by rw [List.length_set, List.length_set]; exact s.er.len, fun v z h0 => ?_, by rw [List.length_set]; exact s.er.sml⟩, fun a z => ⟨.inl (s.sub a z).1, (s.sub a z).2⟩, fun j hj a z => ?_, s.iwH⟩
  · have c : i ≠ j := fun z => hj2 (z ▸ List.mem_cons_self)
    rw [List.getElem?_set_ne c] at hd ⊢
    obtain ⟨v, h1, h2⟩ := s.er.val j d' hd (fun z => hj (List.mem_cons_of_mem _ z)) fun z => hj2 (List.mem_cons_of_mem _ z)
    exact ⟨v, h1, h2.mv m1⟩
  · have hj' := lo l hj
    have c : i ≠ j := fun z => h (z ▸ hj')
    obtain ⟨a, d', h1, h2, h3, h4, h5⟩ := s.er.own j hj' l
    rw [List.getElem?_set_ne c, List.getElem?_set_ne c]
    refine ⟨a, d', h1, h2, fun z => z.elim h3 (nfp h4.trk), h4.mv m1 (fun o z n => T.keep g z n), fun m hm z => ?_⟩
    rcases List.mem_cons.mp hm with e | hm
    · subst e
      have := (List.getElem?_eq_some_iff.mp z).1
      rw [List.length_set] at this
      have := s.er.sml
      omega
    · rw [List.getElem?_set_ne (fun z : i = m => h (z ▸ hm))] at z
      exact h5 m hm z
  · obtain ⟨rg, hd⟩ := s.er.dep
    refine ⟨fun a => if a ∈ fp then i else rg a, fun j l hj => ?_⟩
    by_cases c : i = j
    · subst c
      refine ⟨v, d, fp, List.getElem?_set_self hl, List.getElem?_set_self hl', o, nd, fun a ha => ⟨.inr ha, if_pos ha, ?_⟩⟩
      rw [s.iwH]
      exact fun z => z (T.back s.gr (nw a ha))
    · have hj' : j + dp ∈ O := (List.mem_cons.mp hj).elim (fun e => absurd e (by omega)) id
      obtain ⟨v', d', f', g1, g2, g3, g4, g5⟩ := hd j l hj'
      rw [List.getElem?_set_ne c, List.getElem?_set_ne c]
      refine ⟨v', d', f', g1, g2, g3.gr T g, g4, fun a ha => ⟨.inl (g5 a ha).1, ?_, (g5 a ha).2.2⟩⟩
      show (if a ∈ fp then i else rg a) = j
      rw [if_neg (nfp (g3.trk a ha))]
      exact (g5 a ha).2.1
  · have hj' : j + dq ∈ O := (List.mem_cons.mp hj).elim (fun e => absurd e (by unfold dp dq at *; omega)) id
    have c : i ≠ j := fun z => fre_q hO (z ▸ hj')
    obtain ⟨v, d', h1, h2, h3⟩ := s.er.nwq j hj'
    rw [List.getElem?_set_ne c, List.getElem?_set_ne c]
    refine ⟨v, d', h1, h2, (h3.mv (Mv.more fun a z => ?_)).gr T g⟩
    rcases z with z | z
    · rcases eo a z with z | z
      · exact .inl (.inl z)
      · exact .inr (nw a z)
    · exact .inl (.inr z)
  · rw [List.getElem?_set_ne i0]
    refine s.er.slt v z (h0.imp (fun h0 => lo (by decide) h0) fun h0 => h0.imp (fun h0 => (List.mem_cons.mp h0).elim (fun q => absurd q (by omega)) id) fun h0 => (List.mem_cons.mp h0).elim (fun q => absurd q (by unfold dp dq at *; omega)) id)
  · rcases List.mem_cons.mp hj with rfl | hj
    · have := (List.getElem?_eq_some_iff.mp z).1
      rw [List.length_set] at this
      have := s.er.sml
      omega
    · rw [List.getElem?_set_ne (fun z : i = j => h (z ▸ hj))] at z
      exact s.new j hj a z
section
variable {X : Cx} {T : Th X.K} {W : WX} {fz : Nat} {O Ol : List Nat} {e : Expr} {φe : DX} {pos : Pos}
theorem setT_aux {i : Nat} (hO : fre O i = true) (i0 : i ≠ 0) (M : Ends) (σ : L2.St) (H : Hp) (h : sOf T W fz O ((i + dp) :: O) Ol (sSetO i φe) M σ H) : tAsg (esOf T W O φe) (gName i) M σ H := by
  obtain ⟨ρ, H0, owi, ow0, fr, E, s, _, k, hl, q⟩ := h
  exact ⟨ρ, ow0, fr, _, _, s.ok, s.er, q, fun d v G qd ok g ⟨fp, e1, e2, e3⟩ => k.nx _ G _ _ (s.ownT hO i0 hl ok g e1 e2 e3) qd, k.x s⟩
theorem s_setT {i : Nat} {x : Str} {pos' : Pos} (hN : X.N.Nodup) (hi : X.N[i]? = some x) (hx : Loc X.env.scope x) (hO : fre O i = true) (he : PE X e (esOf T W O φe)) (i0 : i ≠ 0 := by decide) (hs : swapsWith e (some (.Name x pos')) pos.line X.env = pure false := by rfl)
    (hf : X.fn x = true ∨ X.env.scope.names.lookup x = some .local := by first | exact .inl rfl | exact .inr rfl | assumption) : PS X (.Assign [.Name x pos'] e pos) (sOf T W fz O ((i + dp) :: O) Ol (sSetO i φe)) :=
  psI (ps_set hN hi hx he hs hf) fun M σ H h => setT_aux hO i0 M σ H h
variable {is : List Nat} {tg iter elt : Expr} {ifs : List Expr} {φ : DI} {g : DG} {t : DT} {ee : DX} {spos : Pos} {scope : Scope} {own : List (Str × Nat)}
theorem s_setLcT {i : Nat} {y : Str} {py : Pos} (hc : X.calm = true) (hN : X.N.Nodup) (hy : X.N[i]? = some y) (hyl : X.env.scope.names.lookup y = some .local) (hsw : swapsWith (.ListComp elt [⟨tg, iter, ifs, 0⟩] scope pos) (some (.Name y py)) spos.line X.env = pure true)
    (hi : PI X tg iter (ioOf T W O φ)) (ok : BlkOk X.N X.env.scope scope own)
    (hg : ∀ (s : Shared) (H : Hp) (C : Addr) (cl : List (Str × Addr)) (fp : List Addr), PG (X.blk s H scope (compEnvC scope cl C X.env) fp) tg (gOf (K := X.K) T O is g)) (ht : ∀ (s : Shared) (H : Hp) (C : Addr) (cl : List (Str × Addr)) (fp : List Addr), PTs (X.blk s H scope (compEnvC scope cl C X.env) fp) ifs (tOf (K := X.K) T W0 O t))
    (he : ∀ (s : Shared) (H : Hp) (C : Addr) (cl : List (Str × Addr)) (fp : List Addr), PE (X.blk s H scope (compEnvC scope cl C X.env) fp) elt (esOf (K := X.K) T W0 O ee)) (hv : ((own.map (·.2)).all fun i => fre O i) = true) (hI : (is.all fun i => (own.map (·.2)).contains i) = true)
    (hO : fre O i = true) (i0 : i ≠ 0 := by decide) (hs : ∀ x, foldedSetIterable iter X.env x = pure x := by intro _; rfl) : PS X (.Assign [.Name y py] (.ListComp elt [⟨tg, iter, ifs, 0⟩] scope pos) spos) (sOf T W fz O ((i + dp) :: O) Ol (sSetO i (xLc φ (own.map (·.2)) g t ee))) :=
  psI (ps_setLc hc hN hy hyl hsw hi ok hg ht he hs) fun M σ H h => lcs_aux hv hI (setT_aux hO i0 M σ H h)
end
end Dz
namespace Dz
open PySem PySem.Spec PyProof.Rows L2 Evl Bf
/-! ### a tree of one's own, opened -/
structure SrI {K : PySem.W.Frag} (T : Th K) (H0 : Hp) (owi ow0 : Addr → Prop) (fr : Fr) (O : List Nat) (σ : L2.St) (H : Hp) (ρ : Ro) (i : Nat) (rg : Addr → Nat) (fp : List Addr) (v : V) (d : D) : Prop where
  s : Sr T H0 owi ow0 fr O σ H ρ
  dep : ∀ j, j < dp → j + dp ∈ O → DpAt K H ow0 fr.iw rg j σ[j]? ρ[j]?
  mem : i + dp ∈ O
  nom : i ∉ O
  noq : i + dq ∉ O
  lt : i < dp
  rho : ρ[i]? = some (some d)
  sig : σ[i]? = some (some v)
  own : Own K H tt fp v d
  nd : fp.Nodup
  prp : ∀ a ∈ fp, ow0 a ∧ rg a = i ∧ ¬ fr.iw a
section
variable {K : PySem.W.Frag} {T : Th K} {H0 H G : Hp} {owi ow0 : Addr → Prop} {fr : Fr} {O : List Nat} {σ : L2.St} {ρ : Ro} {i : Nat} {rg : Addr → Nat} {fp : List Addr} {v : V} {d : D}
theorem Sr.open (s : Sr T H0 owi ow0 fr O σ H ρ) (hd : ρ[i]? = some (some d)) (h1 : O.contains (i + dp) = true) (h2 : O.contains i = false) (h3 : O.contains (i + dq) = false) : ∃ rg fp v, SrI T H0 owi ow0 fr O σ H ρ i rg fp v d := by
  obtain ⟨rg, hD⟩ := s.er.dep
  have m : i + dp ∈ O := by simpa using h1
  obtain ⟨v, d', fp, e1, e2, e3, e4, e5⟩ := hD i (s.er.lt hd) m
  rw [hd] at e1
  cases e1
  exact ⟨rg, fp, v, s, hD, m, by simpa using h2, by simpa using h3, s.er.lt hd, hd, e2, e3, e4, e5⟩
theorem SrI.go (s : SrI T H0 owi ow0 fr O σ H ρ i rg fp v d) (ok : T.Ok G) (g : T.Gr H G) : SrI T H0 owi ow0 fr O σ G ρ i rg fp v d :=
  ⟨s.s.go ok g, fun j l hj => (s.dep j l hj).mv (Mv.gr T g) (fun a _ _ o z n => T.keep g z n) fun a z _ n => ⟨z, n⟩, s.mem, s.nom, s.noq, s.lt, s.rho, s.sig, s.own.gr T g, s.nd, s.prp⟩
theorem SrI.new0 (s : SrI T H0 owi ow0 fr O σ H ρ i rg fp v d) : ∀ a ∈ fp, H0 a = none := fun a ha => by
  have := (s.prp a ha).2.2
  rw [s.s.iwH] at this
  exact Classical.not_not.mp this
/-- the object at p, within the tree, is written; fn: new places that come into the tree -/
theorem SrI.put (s : SrI T H0 owi ow0 fr O σ H ρ i rg fp v d) (ok : T.Ok G) (g : T.Gr H G) {fn : List Addr} (nw : ∀ a ∈ fn, H a = none) (al : ∀ a ∈ fn, G a ≠ none) {p : Addr} {o o' : HO} (hp : p ∈ fp) (ho : G p = some o)
    (n1 : ∀ xs, o ≠ .tup xs) (n2 : ∀ kvs, o ≠ .dT kvs) (n3 : ∀ ob u, o ≠ .frz ob u) (n7 : ∀ vs, o ≠ .xd vs) (ok' : T.Ok (upd G p o')) (gr' : T.Gr H0 (upd G p o')) {f' : List Addr} {d' : D} (own : Own K (upd G p o') tt f' v d') (cn : ∀ a, f'.count a ≤ (fp ++ fn).count a) (nfn : fn.Nodup) (n8 : ∀ C dx fs, o' = .ins C dx fs → C ≠ He.ga K "Family" := by intro _ _ _ z; cases z) :
    Sr T H0 owi (fun a => ow0 a ∨ a ∈ fn) fr O σ (upd G p o') (ρ.set i (some d')) := by
  have nfn' : ∀ {a : Addr}, H a ≠ none → a ∉ fn := fun z e => z (nw _ e)
  have owp : ow0 p := (s.prp p hp).1
  have hl : i < ρ.length := (List.getElem?_eq_some_iff.mp s.rho).1
  have eo : ∀ a, owOf (fun a => ow0 a ∨ a ∈ fn) O σ a → owOf ow0 O σ a ∨ a ∈ fn := fun a z => by
    rcases z with (z | z) | z
    · exact .inl (.inl z)
    · exact .inr z
    · exact .inl (.inr z)
  have mp : ∀ {ow : Addr → Prop}, ow p → Mv K G ow (upd G p o') ow := fun z => Mv.put ho n1 n2 n3 n7 z (fun a z => z) n8
  have m1 : Mv K H (owOf ow0 O σ) (upd G p o') (owOf (fun a => ow0 a ∨ a ∈ fn) O σ) := ((Mv.more fun a z => (eo a z).imp_right (nw a)).trans (Mv.gr T g)).trans (mp (.inl (.inl owp)))
  have ndf : (fp ++ fn).Nodup := nodup_app s.nd nfn fun a ha hf => s.own.trk a ha (nw a hf)
  refine ⟨ok', gr', ⟨fun j d2 hd hj hj2 => ?_, fun j hj l => ?_, fun q hq => (s.s.er.frm q hq).mv m1, ⟨fun a => if a ∈ fn then i else rg a, fun j l hj => ?_⟩, fun j hj => ?_, fun a ha => ?_, by rw [List.length_set]; exact s.s.er.len, s.s.er.slt, s.s.er.sml⟩, fun a z => ⟨.inl (s.s.sub a z).1, (s.s.sub a z).2⟩, s.s.new, s.s.iwH⟩
  · have c : i ≠ j := fun z => hj2 (z ▸ s.mem)
    rw [List.getElem?_set_ne c] at hd
    obtain ⟨w, e1, e2⟩ := s.s.er.val j d2 hd hj hj2
    exact ⟨w, e1, e2.mv m1⟩
  · have c : i ≠ j := fun z => s.nom (z ▸ hj)
    obtain ⟨b, d2, e1, e2, e3, e4, e5⟩ := s.s.er.own j hj l
    rw [List.getElem?_set_ne c]
    refine ⟨b, d2, e1, e2, fun z => z.elim e3 (nfn' e4.trk), e4.mv m1 (fun o z n => ?_) (hl2 := fun kvs z n => keepD_put (fun q : b = p => e3 (q ▸ owp)) n8 (T.keepD g z n).1 (T.keepD g z n).2), e5⟩
    rw [upd_ne (fun q : b = p => e3 (q ▸ owp))]
    exact T.keep g z n
  · by_cases c : i = j
    · subst c
      refine ⟨v, d', f', List.getElem?_set_self hl, s.sig, own, cnt_le ndf cn, fun a ha => ?_⟩
      rcases List.mem_append.mp (cnt_mem cn a ha) with z | z
      · obtain ⟨z1, z2, z3⟩ := s.prp a z
        refine ⟨.inl z1, ?_, z3⟩
        show (if a ∈ fn then i else rg a) = i
        rw [z2]
        exact ite_self i
      · refine ⟨.inr z, if_pos z, ?_⟩
        rw [s.s.iwH]
        exact fun q => q (T.back s.s.gr (nw a z))
    · obtain ⟨v', d2, f2, g1, g2, g3, g4, g5⟩ := s.dep j l hj
      rw [List.getElem?_set_ne c]
      refine ⟨v', d2, f2, g1, g2, (g3.gr T g).mv (mp trivial) (keeps_put fun z => ?_), g4, fun a ha => ⟨.inl (g5 a ha).1, ?_, (g5 a ha).2.2⟩⟩
      · exact c (by rw [← (g5 p z).2.1, (s.prp p hp).2.1])
      · show (if a ∈ fn then i else rg a) = j
        rw [if_neg (nfn' (g3.trk a ha))]
        exact (g5 a ha).2.1
  · have c : i ≠ j := fun z => s.noq (z ▸ hj)
    obtain ⟨w, d2, g1, g2, g3⟩ := s.s.er.nwq j hj
    rw [List.getElem?_set_ne c]
    refine ⟨w, d2, g1, g2, ((g3.mv (Mv.more fun a z => ?_)).gr T g).mv (mp (ow := fun a => owOf (fun a => ow0 a ∨ a ∈ fn) O σ a ∨ fr.iw a) (.inl (.inl (.inl owp))))⟩
    rcases z with z | z
    · rcases eo a z with z | z
      · exact .inl (.inl z)
      · exact .inr (nw a z)
    · exact .inl (.inr z)
  · by_cases c : a = p
    · rw [c, upd_same]; exact fun z => by cases z
    · rw [upd_ne c]
      exact ha.elim (fun z => T.forth g (s.s.er.trk a z)) (al a)
end
/-! ### what stands at a place within it -/
abbrev DP := Ro → (D → (D → D) → Prop) → XQ → Prop
def epOf {K : PySem.W.Frag} (T : Th K) (W : WX) (O : List Nat) (i : Nat) (φ : DP) : TE := fun σ H Q => ∃ ρ H0 owi ow0 fr rg fp v d A Ax, SrI T H0 owi ow0 fr O σ H ρ i rg fp v d ∧ φ ρ A Ax ∧ (∀ d1 ctx v1 fp1 G, A d1 ctx → T.Ok G → T.Gr H G → Foc K G fp v fp1 v1 d1 ctx → Q v1 G) ∧ XOk T W H (owOf ow0 O σ) σ Ax
def pVar (i : Nat) : DP := fun ρ A _ => ∃ d, ρ[i]? = some (some d) ∧ A d id
def seqOf : D → Option (List D)
  | .lst ds => some ds
  | .tup ds => some ds
  | _ => none
def putIx (d : D) (k : Nat) (x : D) : D := match d with
  | .lst ds => .lst (ds.set k x)
  | .tup ds => .tup (ds.set k x)
  | d => d
def pIx (φ : DP) (ψ : DX) : DP := fun ρ A Ax => φ ρ (fun d1 ctx => ψ ρ (fun y => ∃ j ds k dk, y = .int j ∧ seqOf d1 = some ds ∧ ixN ds.length j = some k ∧ ds[k]? = some dk ∧ A dk fun x => ctx (putIx d1 k x)) Ax) Ax
def pFld (c f : Str) (φ : DP) : DP := fun ρ A Ax => φ ρ (fun d1 ctx => ∃ fs z, d1 = .ins c fs ∧ fs.lookup f = some z ∧ A z fun x => ctx (.ins c (putFD f x fs))) Ax
section
variable {X : Cx} {T : Th X.K} {W : WX} {O : List Nat} {e a b : Expr} {φ : DP} {ψ : DX} {pos : Pos} {i : Nat} {x c f : Str}
theorem ep_var (hN : X.N[i]? = some x) (hv : Vis X.env.scope x) (hd : (x == ("__debug__" : Str)) = false := by decide) (hcd : (x == ("__classdict__" : Str)) = false := by decide) : PE X (.Name x pos) (epOf T W O i (pVar i)) :=
  peI (pe_var hN hv hd hcd) fun σ H Q ⟨ρ, H0, owi, ow0, fr, rg, fp, v, d, A, Ax, s, ⟨d', e1, q⟩, k, _⟩ => by
    rw [s.rho] at e1
    cases e1
    exact ⟨v, s.sig, k _ _ _ _ H q s.s.ok (T.refl H) (Foc.root s.own)⟩
theorem ep_ix (ha : PE X a (epOf T W O i φ)) (hb : PE X b (eOf T W O ψ)) (hs : PlainIx b) : PE X (.Subscript a b pos) (epOf T W O i (pIx φ ψ)) :=
  peI (pe_ix ix_seq ha hb hs) fun σ H Q ⟨ρ, H0, owi, ow0, fr, rg, fp, v, d, A, Ax, s, q, k, x⟩ => ⟨ρ, H0, owi, ow0, fr, rg, fp, v, d, _, Ax, s, q, fun d1 ctx v1 fp1 G qd ok g fc => (by
    refine ⟨ρ, ow0, fr, _, Ax, ok, (s.go ok g).s.er, qd, fun y w J ⟨j, ds, kk, dk, e1, e0, e2, e3, q2⟩ ok2 g2 r => ?_, x.gr g⟩
    subst e1
    rw [rep_int r]
    have fc2 := fc.gr T g2
    unfold seqOf at e0
    split at e0
    · cases e0
      obtain ⟨p, vs, vk, gk, rfl, hp, hl, hk, fk⟩ := fc2.ixL e3
      refine .inl ⟨p, vs, _, vk, rfl, rfl, .inl (.inl hp), ?_, k _ _ _ _ J q2 ok2 (T.trans g g2) fk⟩
      unfold atI
      rw [hl, e2]
      exact hk
    · cases e0
      obtain ⟨p, vs, vk, gk, rfl, hp, hl, hk, fk⟩ := fc2.ixT e3
      refine .inr (.inl ⟨p, vs, _, vk, rfl, rfl, SqH hp, ?_, k _ _ _ _ J q2 ok2 (T.trans g g2) fk⟩)
      unfold atI
      rw [hl, e2]
      exact hk
    · cases e0), x⟩
theorem ep_fld (hc : Cls X.K (He.ga X.K c)) (hn : NoAttr X.K (He.ga X.K c) f) (he : PE X e (epOf T W O i φ)) (hb : attributeBase e f X.env (eval e X.env) = eval e X.env) : PE X (.Attribute e f pos) (epOf T W O i (pFld c f φ)) :=
  peI (pe_fld he hb) fun σ H Q ⟨ρ, H0, owi, ow0, fr, rg, fp, v, d, A, Ax, s, q, k, x⟩ => ⟨ρ, H0, owi, ow0, fr, rg, fp, v, d, _, Ax, s, q, fun d1 ctx v1 fp1 G ⟨fs, z, e1, e2, qd⟩ ok g fc => by
    subst e1
    obtain ⟨p, dx, vs, vk, gk, rfl, hp, hk, fk⟩ := fc.fld e2
    exact ⟨p, _, dx, vs, vk, rfl, hp, hc, hn, hk, k _ _ _ _ G qd ok g fk⟩, x⟩
end
/-! ### statements that write within it -/
def sAppP (i : Nat) (φ : DP) (ψ : DX) : DS := fun E ρ => (∃ d, ρ[i]? = some (some d)) ∧ φ ρ (fun d1 ctx => ∃ xs, d1 = .lst xs ∧ xs.length < big ∧ ψ ρ (fun y => E.nx (ρ.set i (some (ctx (.lst (xs ++ [y])))))) fun x => E.ex x ρ) fun x => E.ex x ρ
def sClrP (i : Nat) (φ : DP) : DS := fun E ρ => (∃ d, ρ[i]? = some (some d)) ∧ φ ρ (fun d1 ctx => ∃ xs, d1 = .lst xs ∧ E.nx (ρ.set i (some (ctx (.lst []))))) fun x => E.ex x ρ
def sFldP (i : Nat) (c f : Str) (ψ : DX) : DS := fun E ρ => ∃ fs, ρ[i]? = some (some (.ins c fs)) ∧ fs.length < 1000 ∧ ψ ρ (fun y => E.nx (ρ.set i (some (.ins c (putFD f y fs))))) fun x => E.ex x ρ
/-- d[k] = v: v can not be changed -/
def sPutP (i : Nat) (φ : DP) (φk φv : DX) : DS := fun E ρ => (∃ d, ρ[i]? = some (some d)) ∧ φv ρ (fun y => φ ρ (fun d1 ctx => ∃ kvs, d1 = .dic kvs ∧ kvs.length < big ∧ φk ρ (fun z => ∃ k, dKey z = some k ∧ y.flt = true ∧ E.nx (ρ.set i (some (ctx (.dic (putD kvs k y)))))) fun x => E.ex x ρ) fun x => E.ex x ρ) fun x => E.ex x ρ
section
variable {K : PySem.W.Frag} {H : Hp} {ow : Addr → Prop}
theorem OwnF.put {g fn : List Addr} {f : Str} {w : V} {y : D} (o : Own K H ow fn w y) : ∀ {g : List Addr} {vs : List (Str × V)} {ds : List (Str × D)}, OwnF K H ow g vs ds → ∃ g', OwnF K H ow g' (putF f w vs) (putFD f y ds) ∧ ∀ a, g'.count a ≤ (g ++ fn).count a
  | _, _, _, .nil => ⟨fn ++ [], .cons o .nil, fun a => by simp⟩
  | _, _, _, .cons (f := f1) (g := g1) (k := k) (v := v) (vs := vs) (d := d) (ds := ds) r t => by
    unfold putF putFD
    by_cases c : k = f
    · subst c
      refine ⟨fn ++ g1, ?_, fun a => by simp only [List.count_append]; omega⟩
      first
        | (rw [if_pos rfl, if_pos rfl]; exact .cons o t)
        | (simp; exact .cons o t)
    · obtain ⟨g', h1, h2⟩ := OwnF.put (g := g) (f := f) o t
      refine ⟨f1 ++ g', ?_, fun a => by have := h2 a; simp only [List.count_append] at this ⊢; omega⟩
      rw [if_neg c]
      first
        | (rw [if_neg c]; exact .cons r h1)
        | (rw [if_neg (by simpa using c)]; exact .cons r h1)
theorem OwnK.any (k : Key) : ∀ {g : List Addr} {vs : List (Key × V)} {ds : List (Key × D)}, OwnK K H ow g vs ds → (vs.any fun kv => decide (kv.1 = k)) = ds.any fun kv => decide (kv.1 = k)
  | _, _, _, .nil => rfl
  | _, _, _, .cons _ t => by rw [List.any_cons, List.any_cons, OwnK.any k t]
theorem OwnK.append : ∀ {g g' : List Addr} {vs ws : List (Key × V)} {ds es : List (Key × D)}, OwnK K H ow g vs ds → OwnK K H ow g' ws es → OwnK K H ow (g ++ g') (vs ++ ws) (ds ++ es)
  | _, _, _, _, _, _, .nil, h => h
  | _, _, _, _, _, _, .cons r t, h => by
    rw [List.append_assoc]
    exact .cons r (OwnK.append t h)
theorem OwnK.length : ∀ {g : List Addr} {vs : List (Key × V)} {ds : List (Key × D)}, OwnK K H ow g vs ds → vs.length = ds.length
  | _, _, _, .nil => rfl
  | _, _, _, .cons _ t => by rw [List.length_cons, List.length_cons, OwnK.length t]
theorem OwnF.length : ∀ {g : List Addr} {vs : List (Str × V)} {ds : List (Str × D)}, OwnF K H ow g vs ds → vs.length = ds.length
  | _, _, _, .nil => rfl
  | _, _, _, .cons _ t => by rw [List.length_cons, List.length_cons, OwnF.length t]
theorem OwnK.put {k : Key} {w : V} {y : D} (o : Own K H ow [] w y) {g : List Addr} {vs : List (Key × V)} {ds : List (Key × D)} (r : OwnK K H ow g vs ds) : ∃ g', OwnK K H ow g' (putK vs k w) (putD ds k y) ∧ ∀ a, g'.count a ≤ g.count a := by
  have mp : ∀ {g : List Addr} {vs : List (Key × V)} {ds : List (Key × D)}, OwnK K H ow g vs ds → ∃ g', OwnK K H ow g' (vs.map fun kv => if kv.1 = k then (kv.1, w) else kv) (ds.map fun kv => if kv.1 = k then (kv.1, y) else kv) ∧ ∀ a, g'.count a ≤ g.count a := by
    intro g vs ds r
    induction vs generalizing g ds with
    | nil => cases r; exact ⟨[], .nil, fun a => Nat.le_refl _⟩
    | cons p t ih =>
      cases r with
      | @cons f1 g1 k' v' _ d' ds' r1 r2 =>
        obtain ⟨g', h1, h2⟩ := ih r2
        rw [List.map_cons, List.map_cons]
        by_cases c : k' = k
        · refine ⟨[] ++ g', ?_, fun a => by have := h2 a; simp only [List.count_append, List.count_nil]; omega⟩
          show OwnK K H ow _ ((if k' = k then (k', w) else (k', v')) :: _) ((if k' = k then (k', y) else (k', d')) :: _)
          rw [if_pos c, if_pos c]
          exact .cons o h1
        · refine ⟨f1 ++ g', ?_, fun a => by have := h2 a; simp only [List.count_append]; omega⟩
          show OwnK K H ow _ ((if k' = k then (k', w) else (k', v')) :: _) ((if k' = k then (k', y) else (k', d')) :: _)
          rw [if_neg c, if_neg c]
          exact .cons r1 h1
  unfold putK putD
  rw [r.any k]
  by_cases c : (ds.any fun kv => decide (kv.1 = k)) = true
  · rw [if_pos c, if_pos c]; exact mp r
  · rw [if_neg c, if_neg c]
    refine ⟨g ++ ([] ++ []), r.append (.cons o .nil), fun a => by simp⟩
end
section
variable {X : Cx} {T : Th X.K} {W : WX} {fz : Nat} {O Ol : List Nat} {e e2 base : Expr} {φ : DP} {ψ φk φv : DX} {pos pos2 pos3 pos4 : Pos} {i : Nat} {x c f : Str}
theorem s_appP (h1 : O.contains (i + dp) = true) (h2 : O.contains i = false) (h3 : O.contains (i + dq) = false)
    (hp : PE X (.Call (.Attribute base "append" pos2) [e] [] pos3) (tBM X.K "list" rAppend (epOf T W O i φ) (asOf T W O (aCons ψ aNil)))) (hs : swapsWith (.Call (.Attribute base "append" pos2) [e] [] pos3) none pos4.line X.env = pure false := by rfl) :
    PS X (.Expr (.Call (.Attribute base "append" pos2) [e] [] pos3) pos4) (sOf T W fz O O Ol (sAppP i φ ψ)) := by
  refine psI (ps_expr hp hs) fun M σ H ⟨ρ, H0, owi, ow0, fr, E, s, _, k, ⟨d, hd⟩, q⟩ => ?_
  obtain ⟨rg, fp, v, sI⟩ := s.open hd h1 h2 h3
  refine ⟨ρ, H0, owi, ow0, fr, rg, fp, v, d, _, _, sI, q, fun d1 ctx v1 fp1 G ⟨xs, e1, hl, q1⟩ ok g fc => ?_, k.x s⟩
  subst e1
  have sG := sI.go ok g
  have ty : tyV X.K "list" v1 G := by
    obtain ⟨fa, fb, _, o, _⟩ := fc
    obtain ⟨p, vs, g', rfl, _, hp, _⟩ := own_lst o
    exact .inl ⟨rfl, vs, .inl (.inl hp)⟩
  refine ⟨ty, ρ, ow0, fr, on1 _, _, sG.s.ok, sG.s.er, q1, fun ds vs J z ok2 g2 nl => ?_, k.x sG.s⟩
  obtain ⟨y, rfl, qy⟩ := on1_of z
  obtain ⟨fn, on, ndn, nwn⟩ := nl
  cases on with
  | @cons f0 g0 w ws _ _ oy t =>
    cases t
    rw [List.append_nil] at ndn nwn
    obtain ⟨fa, fb, efp, o, kk⟩ := fc.gr T g2
    obtain ⟨p, us, g', rfl, rfl, hp, ol⟩ := own_lst o
    have hpf : p ∈ fp := by rw [efp]; simp
    have npn : p ∉ f0 := fun z => (sG.own.trk p hpf) (nwn p z)
    have nda := sG.nd
    rw [efp] at nda
    have cnp := nd_count.mp nda p
    simp only [List.count_append, List.count_cons_self] at cnp
    have np : ∀ {l : List Addr}, l.count p = 0 → p ∉ l := fun h z => absurd (List.count_pos_iff.mpr z) (by omega)
    obtain ⟨p1, p2⟩ := T.put (o' := .lst (us ++ [w])) (sG.s.go ok2 g2).gr (sG.new0 p hpf) ok2 hp (fun _ z => by cases z) (fun _ z => by cases z) (fun _ z => by cases z) rfl rfl
    have mt : Mv X.K J tt (upd J p (.lst (us ++ [w]))) tt := Mv.put hp (fun _ z => by cases z) (fun _ z => by cases z) (fun _ _ z => by cases z) (fun _ z => by cases z) trivial fun a z => z
    have own' := kk _ _ _ mt (keeps_put (np (by omega))) (keeps_put (np (by omega))) (.lst upd_same ((ol.mv mt (keeps_put (np (by omega)))).snoc (oy.mv mt (keeps_put npn))))
    exact ⟨p, us, w, rfl, rfl, hp, sz_lt (by rw [ol.length]; exact hl), k.nx _ _ _ _ (sG.put ok2 g2 nwn (fun a ha => oy.trk a ha) hpf hp (fun _ z => by cases z) (fun _ z => by cases z) (fun _ _ z => by cases z) (fun _ z => by cases z) p1 p2 own' (fun a => by rw [efp]; simp only [List.count_append, List.count_cons]; omega) ndn) qy⟩
theorem s_clrP (h1 : O.contains (i + dp) = true) (h2 : O.contains i = false) (h3 : O.contains (i + dq) = false)
    (hp : PE X (.Call (.Attribute base "clear" pos2) [] [] pos3) (tBM0 X.K "list" rClear (epOf T W O i φ))) (hs : swapsWith (.Call (.Attribute base "clear" pos2) [] [] pos3) none pos4.line X.env = pure false := by rfl) :
    PS X (.Expr (.Call (.Attribute base "clear" pos2) [] [] pos3) pos4) (sOf T W fz O O Ol (sClrP i φ)) := by
  refine psI (ps_expr hp hs) fun M σ H ⟨ρ, H0, owi, ow0, fr, E, s, _, k, ⟨d, hd⟩, q⟩ => ?_
  obtain ⟨rg, fp, v, sI⟩ := s.open hd h1 h2 h3
  refine ⟨ρ, H0, owi, ow0, fr, rg, fp, v, d, _, _, sI, q, fun d1 ctx v1 fp1 G ⟨xs, e1, q1⟩ ok g fc => ?_, k.x s⟩
  subst e1
  have sG := sI.go ok g
  obtain ⟨fa, fb, efp, o, kk⟩ := fc
  obtain ⟨p, us, g', rfl, rfl, hp, ol⟩ := own_lst o
  have hpf : p ∈ fp := by rw [efp]; simp
  have nda := sG.nd
  rw [efp] at nda
  have cnp := nd_count.mp nda p
  simp only [List.count_append, List.count_cons_self] at cnp
  have np : ∀ {l : List Addr}, l.count p = 0 → p ∉ l := fun h z => absurd (List.count_pos_iff.mpr z) (by omega)
  obtain ⟨p1, p2⟩ := T.put (o' := .lst []) sG.s.gr (sG.new0 p hpf) ok hp (fun _ z => by cases z) (fun _ z => by cases z) (fun _ z => by cases z) rfl rfl
  have mt : Mv X.K G tt (upd G p (.lst [])) tt := Mv.put hp (fun _ z => by cases z) (fun _ z => by cases z) (fun _ _ z => by cases z) (fun _ z => by cases z) trivial fun a z => z
  have own' := kk _ _ _ mt (keeps_put (np (by omega))) (keeps_put (np (by omega))) (.lst upd_same .nil)
  exact ⟨.inl ⟨rfl, us, .inl (.inl hp)⟩, p, us, rfl, rfl, hp, k.nx _ _ _ _ (sG.put (fn := []) ok (T.refl G) (fun a ha => absurd ha List.not_mem_nil) (fun a ha => absurd ha List.not_mem_nil) hpf hp (fun _ z => by cases z) (fun _ z => by cases z) (fun _ _ z => by cases z) (fun _ z => by cases z) p1 p2 own' (fun a => by rw [efp]; simp only [List.count_append, List.count_cons, List.count_nil]; omega) List.nodup_nil) q1⟩
theorem s_fldP (hN : X.N[i]? = some x) (hv : Vis X.env.scope x) (h1 : O.contains (i + dp) = true) (h2 : O.contains i = false) (h3 : O.contains (i + dq) = false) (hc : Cls X.K (He.ga X.K c)) (hn : NoAttr X.K (He.ga X.K c) f) (nf : He.ga X.K c ≠ He.ga X.K "Family") (he : PE X e (esOf T W O ψ)) (hdb : (x == ("__debug__" : Str)) = false := by decide) (hcd : (x == ("__classdict__" : Str)) = false := by decide)
    (hs : swapsWith e (some (.Attribute (.Name x pos) f pos2)) pos3.line X.env = pure false := by rfl) : PS X (.Assign [.Attribute (.Name x pos) f pos2] e pos3) (sOf T W fz O O Ol (sFldP i c f ψ)) := by
  refine psI (ps_fld (pe_var hN hv hdb hcd) he hs) fun M σ H ⟨ρ, H0, owi, ow0, fr, E, s, _, k, fs, hd, hl, q⟩ => ?_
  obtain ⟨rg, fp, v, sI⟩ := s.open hd h1 h2 h3
  refine ⟨ρ, ow0, fr, _, _, s.ok, s.er, q, fun y w G qy ok g ⟨fn, oy, ndn, nwn⟩ => ?_, k.x s⟩
  have sG := sI.go ok g
  obtain ⟨p, dx, us, g', rfl, rfl, hp, ol⟩ := own_ins sG.own
  have hpf : p ∈ p :: g' := List.mem_cons_self
  have cnp := nd_count.mp sG.nd p
  simp only [List.count_cons_self] at cnp
  have np : ∀ {l : List Addr}, l.count p = 0 → p ∉ l := fun h z => absurd (List.count_pos_iff.mpr z) (by omega)
  have npn : p ∉ fn := fun z => (sI.own.trk p hpf) (nwn p z)
  obtain ⟨p1, p2⟩ := T.fput (fs' := putF f w us) sG.s.gr (sG.new0 p hpf) ok hp nf
  have n8 : ∀ C dx' fs, HO.ins (He.ga X.K c) dx (putF f w us) = .ins C dx' fs → C ≠ He.ga X.K "Family" := fun C dx' fs e => by cases e; exact nf
  have mt : Mv X.K G tt (upd G p (.ins (He.ga X.K c) dx (putF f w us))) tt := Mv.put hp (fun _ z => by cases z) (fun _ z => by cases z) (fun _ _ z => by cases z) (fun _ z => by cases z) trivial (fun a z => z) n8
  obtain ⟨g2, o2, cn⟩ := OwnF.put (g := []) (f := f) (oy.mv mt (keeps_put npn)) (ol.mv mt (keeps_put (np (by omega))))
  refine ⟨.ref p, sI.sig, p, _, _, _, rfl, hp, hc, hn, by rw [ol.length]; exact hl, k.nx _ _ _ _ (sI.put ok g nwn (fun a ha => oy.trk a ha) hpf hp (fun _ z => by cases z) (fun _ z => by cases z) (fun _ _ z => by cases z) (fun _ z => by cases z) p1 p2 (.ins upd_same o2) (fun a => ?_) ndn n8) qy⟩
  have := cn a
  simp only [List.count_append, List.count_cons, List.cons_append] at this ⊢
  omega
theorem s_putP (hu : X.A.units + 1 < cLine) (h1 : O.contains (i + dp) = true) (h2 : O.contains i = false) (h3 : O.contains (i + dq) = false) (hb : PE X base (epOf T W O i φ)) (hk : PE X e (eOf T W O φk)) (he : PE X e2 (eOf T W O φv))
    (hs : swapsWith e2 (some (.Subscript base e pos2)) pos3.line X.env = pure false := by rfl) : PS X (.Assign [.Subscript base e pos2] e2 pos3) (sOf T W fz O O Ol (sPutP i φ φk φv)) := by
  refine psI (ps_dput hu hb hk he hs) fun M σ H ⟨ρ, H0, owi, ow0, fr, E, s, _, k, ⟨d, hd⟩, q⟩ => ?_
  obtain ⟨rg, fp, v, sI⟩ := s.open hd h1 h2 h3
  refine ⟨ρ, ow0, fr, _, _, s.ok, s.er, q, fun y w G qy ok g ry => ?_, k.x s⟩
  have sG := sI.go ok g
  refine ⟨ρ, H0, owi, ow0, fr, rg, fp, v, d, _, _, sG, qy, fun d1 ctx v1 fp1 G2 ⟨kvs, e1, hl, q1⟩ ok2 g2 fc => ?_, k.x sG.s⟩
  subst e1
  have sG2 := sG.go ok2 g2
  refine ⟨ρ, ow0, fr, _, _, sG2.s.ok, sG2.s.er, q1, fun z u J ⟨kk, e3, fl, q3⟩ ok3 g3 rz => ?_, k.x sG2.s⟩
  have sJ := sG2.go ok3 g3
  rw [key_rep rz.o e3]
  obtain ⟨fa, fb, efp, o, kc⟩ := fc.gr T g3
  obtain ⟨p, us, g', rfl, rfl, hp, ol⟩ := own_dic o
  have hpf : p ∈ fp := by rw [efp]; simp
  have nda := sG.nd
  rw [efp] at nda
  have cnp := nd_count.mp nda p
  simp only [List.count_append, List.count_cons_self] at cnp
  have np : ∀ {l : List Addr}, l.count p = 0 → p ∉ l := fun h z => absurd (List.count_pos_iff.mpr z) (by omega)
  obtain ⟨p1, p2⟩ := T.put (o' := .dK (putK us kk w)) sJ.s.gr (sG.new0 p hpf) ok3 hp (fun _ z => by cases z) (fun _ z => by cases z) (fun _ z => by cases z) rfl rfl
  have mt : Mv X.K J tt (upd J p (.dK (putK us kk w))) tt := Mv.put hp (fun _ z => by cases z) (fun _ z => by cases z) (fun _ _ z => by cases z) (fun _ z => by cases z) trivial fun a z => z
  have ry' : Rep X.K J tt w y := ((ry.gr T g2).gr T g3).flt fl
  obtain ⟨g4, o4, cn⟩ := OwnK.put (k := kk) (.leaf (ry'.mv mt)) (ol.mv mt (keeps_put (np (by omega))))
  have own' := kc _ _ _ mt (keeps_put (np (by omega))) (keeps_put (np (by omega))) (.dic upd_same o4)
  refine ⟨p, _, rfl, DPut.k hp (sz_lt (by rw [ol.length]; exact hl)), k.nx _ _ _ _ (sJ.put (fn := []) ok3 (T.refl J) (fun a ha => absurd ha List.not_mem_nil) (fun a ha => absurd ha List.not_mem_nil) hpf hp (fun _ z => by cases z) (fun _ z => by cases z) (fun _ _ z => by cases z) (fun _ z => by cases z) p1 p2 own' (fun a => ?_) List.nodup_nil) q3⟩
  have := cn a
  rw [efp]
  simp only [List.count_append, List.count_cons, List.count_nil] at this ⊢
  omega
end
/-! ### an __init__ that writes within its fields: what is made is new through and through -/
def spIniN {K : PySem.W.Frag} (T : Th K) (c : Str) (n : Nat) (F : DF) : Sp := fun vs H Q E => vs.length = n + 1 ∧ ∃ y dy ds ws ow A Ax H1, vs = .ref y :: ws ∧ H = upd (upd H1 dy (.own y)) y (.ins (He.ga K c) dy []) ∧ H1 y = none ∧ H1 dy = none ∧ dy ≠ y ∧
  T.Ok H1 ∧ (∀ a, ow a → H1 a ≠ none) ∧ RepL K H1 ow ws ds ∧ F ds A Ax ∧ (∀ fs G, A (.ins c fs) → T.Ok G → T.Gr H1 G → Rep K G (fun a => ow a ∨ H1 a ≠ none) (.ref y) (.ins c fs) → Q .non G) ∧
  (∀ x d G, Ax x → T.Ok G → T.Gr H1 G → XRep K G ow d x → E (.ref (He.ga K x.cls)) d G)
structure MkN (P : Program) (w : World) {K : PySem.W.Frag} (T : Th K) (mg : Str → Option Value) (base : Heap) (k : Nat) (c : Str) (n : Nat) (F : DF) : Prop where
  g : mg c = some (.ref (He.ga K c))
  ex : ∃ (fi : Addr) (fd : FuncData) (ps : List Str), Mk K (He.ga K c) fi ∧ FnOk P w K mg base (L2.CX P w) k fi fd ps (spIniN T c n F) ∧ Binds K fd ps []
theorem MkN.to {P : Program} {w : World} {K : PySem.W.Frag} {T : Th K} {mg : Str → Option Value} {base : Heap} {k n : Nat} {c : Str} {F F' : DF} (M : MkN P w T mg base k c n F) (h : ∀ ds A Ax, F' ds A Ax → F ds A Ax) : MkN P w T mg base k c n F' := by
  obtain ⟨g, fi, fd, ps, h1, h2, h3⟩ := M
  refine ⟨g, fi, fd, ps, h1, h2.imp fun vs H Q E ⟨l, y, dy, ds, ws, ow, A, Ax, H1, a1, a2, a3, a4, a5, a6, a7, a8, a9, a10⟩ => ⟨l, y, dy, ds, ws, ow, A, Ax, H1, a1, a2, a3, a4, a5, a6, a7, a8, h _ _ _ a9, a10⟩, h3⟩
section
variable {X : Cx} {T : Th X.K} {W : WX} {O : List Nat} {e : Expr} {es : List Expr} {φs : DA} {pos p : Pos} {k n : Nat} {c : Str} {F : DF}
theorem mkn_aux {σ : L2.St} {H : Hp} {Q : VK} (h : eOf T W O (xX (xFn F φs)) σ H Q) (hF : ∀ ds A Ax, F ds A Ax → F ds (fun d => ∃ fs, d = .ins c fs ∧ A d) Ax) : tMkS (He.ga X.K c) (spIniN T c n F) (WE W) (arOf T W O n φs) σ H Q := by
  obtain ⟨ρ, ow0, fr, A, Ax, ok, er, q, k, x⟩ := h
  refine ⟨ρ, ow0, fr, _, _, ok, er, q, fun ds vs G qs hn okG gG rs y dy hy hdy ne => ?_, fun y d G ⟨f, a⟩ o g r => x y d G a o g r⟩
  refine ⟨by rw [List.length_cons, hn], y, dy, ds, vs, nb, _, _, G, rfl, rfl, hy, hdy, ne, okG, nb_trk, rs, hF _ _ _ qs, fun fs J ⟨fs', e1, a⟩ o g r => ⟨rfl, ?_⟩, fun z d J ⟨f, a⟩ o g r => x z d J a o (T.trans gG g) (xrep_flt r f)⟩
  exact k _ _ J a o (T.trans gG g) (r.mv (Mv.less fun a z => .inr ((er.gr T gG).otrk a z)))
/-- C(..), its arguments only read -/
theorem be_mkN (M : MkN X.prog X.w T X.mg X.base k c n F) (hF : ∀ ds A Ax, F ds A Ax → F ds (fun d => ∃ fs, d = .ins c fs ∧ A d) Ax) (hr : Room (k + 1) X.A) (tk : Takes X W) (ha : PA X (e :: es) (arOf T W O n φs)) (hg : Gl X c := by rfl)
    (hdb : (c == ("__debug__" : Str)) = false := by decide) (he : starEach (e :: es) X.env = (false, eval e X.env) :: starEach es X.env := by rfl) (hpl : (backTo pos (starEach es X.env)).any (·.1) = false := by rfl) :
    PE X (.Call (.Name c p) (e :: es) [] pos) (eOf T W O (xX (xFn F φs))) := by
  obtain ⟨fi, fd, ps, h1, h2, h3⟩ := M.ex
  exact peI (pe_mkS h1 h2 hr M.g h3 (fun σ => passAt tk σ) ha hg hdb he hpl) fun _ _ _ h => mkn_aux h hF
end
section
variable {P : Program} {w : World} {K : PySem.W.Frag} {mg : Str → Option Value} {base : Heap} {x q : Str} {st : Stmt} {f : Addr} {fd : FuncData} {N ps : List Str} {k n : Nat} {T : Th K} {c : Str} {φ : DS}
theorem ok_iniN (F : FnS K x q st f fd) (S : FnScope N ps (defScope st)) (hN : 1 ≤ N.length) (hp : ps.length = n + 1)
    (hbody : ∀ (cdv : Value) (A : Around) (outer : List Env) (s : Shared) (H : Hp) (E : XK), Room k (A.deeper (envOfC q (defScope st) s.heap.objs.size f cdv)) →
      Takes (cxOf (L2.CX P w) P w K mg base N q (defScope st) f cdv A outer s H E) (fun cls d _ H => E cls d H) →
      PSs (cxOf (L2.CX P w) P w K mg base N q (defScope st) f cdv A outer s H E) (defBody st) (sOf (K := K) T (fun cls d _ H => E cls d H) 0 [dp] [dq] [] φ)) (hM : N.length ≤ dp := by decide) (hv : ps.length ≤ N.length := by decide) :
    FnOk P w K mg base (L2.CX P w) (k + 1) f fd ps (spIniN T c n (iniD c N.length n φ)) := by
  refine okE F S (fun vs H Q E h => h.1.trans hp.symm) fun cdv A outer s H vs Q E hr h tk => ⟨_, hbody cdv A outer s H E hr tk, ?_⟩
  obtain ⟨hn, y, dy, ds, ws, ow, B, Bx, H1, rfl, rfl, hy, hdy, ne, ok, tr, r, ⟨hd, q⟩, k1, k2⟩ := h
  obtain ⟨m1, m2⟩ := T.make (C := He.ga K c) ok hy hdy ne
  have hws : ws.length + 1 ≤ N.length := by rw [List.length_cons] at hn; omega
  have e1 : (L2.start N (.ref y :: ws)) = some (.ref y) :: (ws.map some ++ List.replicate (N.length - 1 - ws.length) none) := by
    unfold L2.start
    rw [List.map_cons, List.cons_append, List.length_cons, Nat.sub_add_eq, Nat.sub_right_comm]
  have e2 : (N.drop 1).length = N.length - 1 := by rw [List.length_drop]
  have e3 : L2.start (N.drop 1) ws = ws.map some ++ List.replicate (N.length - 1 - ws.length) none := by
    unfold L2.start
    rw [e2]
  have r1 : RepL K H1 (fun a => ow a ∨ a = y) ws ds := r.mv (more_own hy)
  have hyo : (upd (upd H1 dy (.own y)) y (.ins (He.ga K c) dy [])) y ≠ none := by rw [upd_same]; exact fun z => by cases z
  have base := start_er (N := N.drop 1) (iw := fun a => H1 a ≠ none) (ow := fun a => ow a ∨ a = y) (r1.gr T m2) (fun a z => z.elim (fun z => T.forth m2 (tr a z)) fun z => by rw [z]; exact hyo) (by rw [List.length_drop]; omega) (by rw [List.length_drop]; omega)
  have eo2 : owOf (fun a => ow a ∨ a = y) [] (L2.start (N.drop 1) ws) = fun a => ow a ∨ a = y := by
    funext a
    exact propext ⟨fun z => z.elim id fun ⟨i, hi, _⟩ => absurd hi List.not_mem_nil, .inl⟩
  have ls : (L2.start N (.ref y :: ws)).length ≤ dp := by rw [e1, List.length_cons, List.length_append, List.length_map, List.length_replicate]; omega
  have nos : ∀ {i : Nat} {v : V}, i ∈ [dp] → (L2.start N (.ref y :: ws))[i]? = some (some v) → False := fun {i v} hi z => by
    have h1 := (List.getElem?_eq_some_iff.mp z).1
    rw [List.mem_singleton.mp hi] at h1
    omega
  have eo : owOf (fun a => ow a ∨ a = y) [dp] (L2.start N (.ref y :: ws)) = fun a => ow a ∨ a = y := by
    funext a
    exact propext ⟨fun z => z.elim id fun ⟨i, hi, z⟩ => (nos hi z).elim, .inl⟩
  refine ⟨some (.ins c []) :: startD (N.length - 1) ds, H1, ow, fun a => ow a ∨ a = y, { p0 := some (.ref y), iw := fun a => H1 a ≠ none }, { nx := fun ρ => ∃ fs, ρ[0]? = some (some (.ins c fs)) ∧ B (.ins c fs), rt := fun _ => False, bk := fun _ => False, ct := fun _ => False, ex := fun x _ => Bx x },
    ⟨m1, m2, ⟨fun i d hd hi hi2 => ?_, fun i hi l => absurd (List.mem_singleton.mp hi) (by omega), fun p hp => absurd hp List.not_mem_nil, ⟨fun _ => 0, fun i l hi => ?_⟩, fun i hi => absurd (List.mem_singleton.mp hi) (by unfold dp dq; omega), fun a z => z.elim (fun z => T.forth m2 (tr a z)) fun z => by rw [z]; exact hyo, ?_, (fun v z _ => by rw [e1]; cases z; rfl), ls⟩, fun a z => ⟨.inl z, tr a z⟩, fun i hi a z => (nos hi z).elim, rfl⟩, tr, ⟨fun σ G ρ ow0 s ⟨fs, h1, h2⟩ => ?_, fun v d G ok g p a => a.elim, fun _ _ _ _ _ z => z, fun _ _ _ _ _ z => z, fun x d σ G ρ ow0 s xr a => ?_⟩, q⟩
  · rw [eo]
    cases i with
    | zero => exact absurd (by rw [Nat.zero_add]; exact List.mem_cons_self) hi2
    | succ i =>
      rw [List.getElem?_cons_succ] at hd
      obtain ⟨v, h1, h2⟩ := base.val i d (by rw [e2]; exact hd) List.not_mem_nil List.not_mem_nil
      rw [eo2] at h2
      refine ⟨v, ?_, h2⟩
      rw [e1, List.getElem?_cons_succ, ← e3]
      exact h1
  · have : i = 0 := by have := List.mem_singleton.mp hi; omega
    subst this
    refine ⟨.ref y, _, [y], rfl, by rw [e1]; rfl, .ins upd_same .nil, List.nodup_cons.mpr ⟨List.not_mem_nil, List.nodup_nil⟩, fun a ha => ?_⟩
    rw [List.mem_singleton.mp ha]
    exact ⟨.inr rfl, rfl, fun z => z hy⟩
  · rw [e1, ← e3, List.length_cons, List.length_cons, ← base.len, e2]
  · obtain ⟨v, d, g1, g2, g3⟩ := s.er.nwq 0 (by rw [Nat.zero_add]; exact List.mem_cons_self)
    rw [s.er.slt _ rfl (.inr (.inr List.mem_cons_self))] at g2
    cases g2
    rw [h1] at g1
    cases g1
    exact k1 fs G h2 s.ok s.gr (g3.mv (Mv.less fun a z => z.imp (fun z => .inl (s.sub a z).1) id))
  · refine k2 x d G a s.ok s.gr ?_
    cases d with
    | none => exact xr
    | some d =>
      obtain ⟨fvs, h1, h2⟩ := xr
      exact ⟨fvs, h1, h2.mv (Mv.less fun a z => .inl (s.sub a z).1)⟩
end
end Dz
namespace Dz
open PySem PySem.Spec PyProof.Rows L2 Evl Bf
/-! ### a + b, a new list of one's own -/
def dCat : D → D → Option D
  | .lst a, .lst b => if a.length + b.length ≤ big then some (.lst (a ++ b)) else none
  | _, _ => none
section
variable {X : Cx} {T : Th X.K} {W : WX} {O : List Nat} {a b : Expr} {φa φb : DX} {pos : Pos}
theorem bf_cat (ha : PE X a (eoOf T W O φa)) (hb : PE X b (eoOf T W O φb)) : PE X (.BinOp a .Add b pos) (efOf T W O (xOp2 dCat φa φb)) :=
  peI (pe_op op_cat ha hb) fun σ H Q ⟨ρ, ow0, fr, A, Ax, ok, er, q, k, x⟩ => by
    refine ⟨ρ, ow0, fr, _, Ax, ok, er, q, fun d v G qd okG gG rv => ?_, x⟩
    refine ⟨ρ, ow0, fr, _, Ax, okG, er.gr T gG, qd, fun d' v' J ⟨z, ez, qz⟩ okJ gJ rv' => ?_, x.gr gG⟩
    unfold dCat at ez
    split at ez
    · split at ez
      · rename_i hl
        cases ez
        obtain ⟨p, vs, rfl, hp, rp⟩ := o_lst (rv.gr T gJ)
        obtain ⟨q, ws, rfl, hq, rq⟩ := o_lst rv'
        refine ⟨p, q, vs, ws, rfl, rfl, hp, hq, by rw [rp.length, rq.length]; exact big_sz hl, fun l hl => ?_⟩
        obtain ⟨h1, h2, h3⟩ := new_own okJ hl (rp.append rq)
        exact k _ _ _ qz h1 (T.trans gG (T.trans gJ h2)) ⟨l, rfl, T.back gG (T.back gJ hl), h3⟩
      · cases ez
    · cases ez
end
/-! ### {k: v, ..} -/
def pairsD : List (DX × DX) → Ro → (List (Key × D) → Prop) → XQ → Prop
  | [], _, A, _ => A []
  | (k, v) :: r, ρ, A, Ax => k ρ (fun x => v ρ (fun y => pairsD r ρ (fun ps => ∃ kk, dKey x = some kk ∧ A ((kk, y) :: ps)) Ax) Ax) Ax
def mergeD (kvs more : List (Key × D)) : List (Key × D) := more.foldl (fun acc kv => putD acc kv.1 kv.2) kvs
def xDisp (ps : List (DX × DX)) : DX := fun ρ A Ax => pairsD ps ρ (fun kvs => kvs.length ≤ 15 ∧ A (.dic (mergeD [] kvs))) Ax
theorem RepK.merge {K : PySem.W.Frag} {H : Hp} {ow : Addr → Prop} : ∀ {ws : List (Key × V)} {es : List (Key × D)} {vs : List (Key × V)} {ds : List (Key × D)}, RepK K H ow ws es → RepK K H ow vs ds → RepK K H ow (mergeK vs ws) (mergeD ds es)
  | _, _, _, _, .nil, h => h
  | _, _, vs, ds, .cons (k := k) (v := v) (vs := ws) (d := d) (ds := es) r t, h => show RepK K H ow (mergeK (putK vs k v) ws) (mergeD (putD ds k d) es) from RepK.merge t (h.put r)
section
variable {X : Cx} {T : Th X.K} {W : WX} {O : List Nat} {pos : Pos}
theorem pairs_aux {σ : L2.St} {ρ : Ro} {ow0 : Addr → Prop} {fr : Fr} : ∀ (ps : List (DX × DX)) {A : List (Key × D) → Prop} {Ax : XQ} {H : Hp} {Q : List (V × V) → Hp → Prop}, T.Ok H → ER X.K H ow0 fr O σ ρ → pairsD ps ρ A Ax →
    (∀ kvs vs G, A kvs → T.Ok G → T.Gr H G → RepK X.K G (owOf ow0 O σ) vs kvs → Q (vs.map fun kv => (kV kv.1, kv.2)) G) → XOk T W H (owOf ow0 O σ) σ Ax → tPairs (ps.map fun p => (eOf T W O p.1, eOf T W O p.2)) σ H Q
  | [], A, Ax, H, Q, ok, er, q, k, x => k [] [] H q ok (T.refl H) .nil
  | (pk, pv) :: ps, A, Ax, H, Q, ok, er, q, k, x => by
    refine ⟨ρ, ow0, fr, _, Ax, ok, er, q, fun d v G qd okG gG rv => ?_, x⟩
    refine ⟨ρ, ow0, fr, _, Ax, okG, er.gr T gG, qd, fun d2 v2 J q2 okJ gJ rv2 => ?_, x.gr gG⟩
    refine pairs_aux ps okJ ((er.gr T gG).gr T gJ) q2 (fun kvs vs L ⟨kk, e, a⟩ okL gL r => ?_) ((x.gr gG).gr gJ)
    have := k ((kk, d2) :: kvs) ((kk, v2) :: vs) L a okL (T.trans gG (T.trans gJ gL)) (.cons (rv2.gr T gL) r)
    rw [List.map_cons] at this
    rw [key_rep rv.o e]
    exact this
theorem bf_disp {keys : List (Option Expr)} {values : List Expr} (ps : List (DX × DX)) (h : PPs X pos keys values (ps.map fun p => (eOf T W O p.1, eOf T W O p.2))) (hall : keys.all (·.isSome) = true) (hl : keys.length = values.length) (h0 : keys ≠ [])
    (h15 : keys.length ≤ 15) : PE X (.Dict keys values pos) (efOf T W O (xDisp ps)) :=
  peI (pe_disp h hall hl h0 h15) fun σ H Q ⟨ρ, ow0, fr, A, Ax, ok, er, q, k, x⟩ p hp => by
    obtain ⟨n1, n2⟩ := T.new (o := .dK []) ok hp rfl
    have er2 := er.more T hp n2
    have hpp : (upd H p (.dK [])) p = some (.dK []) := upd_same
    refine pairs_aux ps n1 er2 q (fun kvs vs G ⟨hk, a⟩ okG gG r => ?_) (fun y d G a o g r => x y d G a o (T.trans n2 g) ?_)
    · rw [ow_more] at r
      have hp2 : G p = some (.dK []) := T.keep gG hpp (fun _ z => by cases z)
      have g1 := T.trans n2 gG
      obtain ⟨p1, p2⟩ := T.put (o' := .dK (mergeK [] vs)) g1 hp okG hp2 (fun _ z => by cases z) (fun _ z => by cases z) (fun _ z => by cases z) rfl rfl
      have mp : Mv X.K G (fun a => owOf ow0 O σ a ∨ a = p) (upd G p (.dK (mergeK [] vs))) (fun a => owOf ow0 O σ a ∨ a = p) := Mv.put hp2 (fun _ z => by cases z) (fun _ z => by cases z) (fun _ _ z => by cases z) (fun _ z => by cases z) (.inr rfl) fun a z => z
      exact ⟨hp2, vs, rfl, by rw [r.length]; exact hk, k _ _ _ a p1 p2 ⟨p, rfl, hp, .dic upd_same ((RepK.merge r .nil).mv mp)⟩⟩
    · cases d with
      | none => exact r
      | some d =>
        obtain ⟨fvs, h1, h2⟩ := r
        rw [ow_more] at h2
        exact ⟨fvs, h1, h2.mv (Mv.less fun a z => .inl z)⟩
end
theorem cat_lst {a b : List D} (h : a.length + b.length ≤ 1000) : dCat (.lst a) (.lst b) = some (.lst (a ++ b)) := by
  show (if a.length + b.length ≤ big then some (D.lst (a ++ b)) else none) = _
  rw [if_pos (by show a.length + b.length ≤ 100000; omega)]
end Dz
/-! Dz: what is kept of the heap where families are about: the ranks of a family are told by a text that nobody sees; what it has counted is right by it. -/
namespace Dz
open PySem PySem.Spec PyProof.Rows L2 Evl Bf
/-! ### ranks told by a text -/
def encL : List Nat → Nat
  | [] => 0
  | a :: l => 2 ^ a * (2 * encL l + 1)
theorem two_odd : ∀ (a b x y : Nat), 2 ^ a * (2 * x + 1) = 2 ^ b * (2 * y + 1) → a = b ∧ x = y
  | 0, 0, x, y, h => by
    rw [Nat.pow_zero, Nat.one_mul, Nat.one_mul] at h
    exact ⟨rfl, by omega⟩
  | 0, b + 1, x, y, h => by
    rw [Nat.pow_zero, Nat.one_mul, Nat.pow_succ, Nat.mul_comm (2 ^ b) 2, Nat.mul_assoc] at h
    omega
  | a + 1, 0, x, y, h => by
    rw [Nat.pow_zero, Nat.one_mul, Nat.pow_succ, Nat.mul_comm (2 ^ a) 2, Nat.mul_assoc] at h
    omega
  | a + 1, b + 1, x, y, h => by
    rw [Nat.pow_succ, Nat.pow_succ, Nat.mul_comm (2 ^ a) 2, Nat.mul_comm (2 ^ b) 2, Nat.mul_assoc, Nat.mul_assoc] at h
    obtain ⟨h1, h2⟩ := two_odd a b x y (by omega)
    exact ⟨by rw [h1], h2⟩
theorem encL_pos (a : Nat) (l : List Nat) : 0 < encL (a :: l) := Nat.mul_pos (Nat.pow_pos (by decide)) (by omega)
theorem encL_inj : ∀ (l m : List Nat), encL l = encL m → l = m
  | [], [], _ => rfl
  | [], b :: m, h => absurd h (Nat.ne_of_lt (encL_pos b m))
  | a :: l, [], h => absurd h.symm (Nat.ne_of_lt (encL_pos a l))
  | a :: l, b :: m, h => by
    obtain ⟨h1, h2⟩ := two_odd a b _ _ h
    rw [h1, encL_inj l m h2]
def lotN (lot : List Str) : Nat := encL (lot.map fun s => encL s.cps.toList)
theorem map_inj {α β : Type} {f : α → β} (h : ∀ a b, f a = f b → a = b) : ∀ (l m : List α), l.map f = m.map f → l = m
  | [], [], _ => rfl
  | [], b :: m, h => by cases h
  | a :: l, [], h => by cases h
  | a :: l, b :: m, e => by
    rw [List.map_cons, List.map_cons] at e
    injection e with e1 e2
    rw [h _ _ e1, map_inj h l m e2]
theorem str_ext {a b : Str} (h : a.cps.toList = b.cps.toList) : a = b := by
  cases a; cases b
  congr
  exact Array.toList_inj.mp h
theorem lotN_inj {l m : List Str} (h : lotN l = lotN m) : l = m := map_inj (fun a b e => str_ext (encL_inj _ _ e)) l m (encL_inj _ _ h)
def rkG (g : Str) (lot : List Str) : Nat := g.cps.toList.getD (lotN lot) 0
theorem le_sum : ∀ {l : List Nat} {a : Nat}, a ∈ l → a ≤ l.sum
  | b :: l, a, h => by
    rw [List.sum_cons]
    rcases List.mem_cons.mp h with h | h
    · omega
    · have := le_sum h
      omega
theorem rk_ex (Ls : List (List Str)) (r : List Str → Nat) : ∃ g, ∀ lot ∈ Ls, rkG g lot = r lot := by
  refine ⟨⟨((List.range ((Ls.map lotN).sum + 1)).map fun i => ((Ls.find? fun l => lotN l == i).map r).getD 0).toArray⟩, fun lot hl => ?_⟩
  have hb : lotN lot ≤ (Ls.map lotN).sum := le_sum (List.mem_map.mpr ⟨lot, hl, rfl⟩)
  show (((List.range ((Ls.map lotN).sum + 1)).map fun i => ((Ls.find? fun l => lotN l == i).map r).getD 0)).getD (lotN lot) 0 = _
  rw [List.getD_eq_getElem?_getD, List.getElem?_map, List.getElem?_range (by omega)]
  show ((Ls.find? fun l => lotN l == lotN lot).map r).getD 0 = r lot
  cases c : Ls.find? fun l => lotN l == lotN lot with
  | none =>
    have := List.find?_eq_none.mp c lot hl
    simp at this
  | some l =>
    have := List.find?_some c
    simp at this
    rw [lotN_inj this]
    rfl
/-! ### how many lots there are -/
theorem nd_filter {α : Type} (p : α → Bool) {l : List α} (h : l.Nodup) : (l.filter p).Nodup := List.Pairwise.filter p h
theorem sub_count {α : Type} [DecidableEq α] : ∀ (ns : List α) (ls : List (List α)), ls.Nodup → (∀ l ∈ ls, l.Sublist ns) → ls.length ≤ 2 ^ ns.length
  | [], ls, nd, h => by
    match ls, nd, h with
    | [], _, _ => exact Nat.zero_le _
    | [a], _, _ => exact Nat.le_refl _
    | a :: b :: r, nd, h =>
      have h1 := List.sublist_nil.mp (h a List.mem_cons_self)
      have h2 := List.sublist_nil.mp (h b (List.mem_cons_of_mem _ List.mem_cons_self))
      subst h1; subst h2
      simp at nd
  | x :: ns, ls, nd, h => by
    have e := List.length_eq_countP_add_countP (fun l : List α => decide (l.head? = some x)) (l := ls)
    rw [List.countP_eq_length_filter, List.countP_eq_length_filter] at e
    have h1 : (ls.filter fun l => decide (l.head? = some x)).length ≤ 2 ^ ns.length := by
      have nA := nd_filter (fun l : List α => decide (l.head? = some x)) nd
      have hA : ∀ l ∈ ls.filter fun l => decide (l.head? = some x), ∃ t, l = x :: t ∧ t.Sublist ns := fun l hl => by
        obtain ⟨m1, m2⟩ := List.mem_filter.mp hl
        have m3 := of_decide_eq_true m2
        cases l with
        | nil => cases m3
        | cons y t =>
          cases m3
          exact ⟨t, rfl, List.cons_sublist_cons.mp (h _ m1)⟩
      generalize ls.filter (fun l => decide (l.head? = some x)) = A at nA hA ⊢
      rw [← List.length_map (f := List.tail)]
      refine sub_count ns _ ?_ fun l hl => ?_
      · rw [List.nodup_iff_pairwise_ne] at nA ⊢
        rw [List.pairwise_map]
        refine List.Pairwise.imp_of_mem (fun {a b} ha hb n => ?_) nA
        obtain ⟨t, rfl, _⟩ := hA a ha
        obtain ⟨u, rfl, _⟩ := hA b hb
        exact fun z => n (by rw [show t = u from z])
      · obtain ⟨m, hm, rfl⟩ := List.mem_map.mp hl
        obtain ⟨t, rfl, ht⟩ := hA m hm
        exact ht
    have h2 : (ls.filter fun l => !decide (l.head? = some x)).length ≤ 2 ^ ns.length := by
      refine sub_count ns _ (nd_filter _ nd) fun l hl => ?_
      obtain ⟨m1, m2⟩ := List.mem_filter.mp hl
      have m3 : ¬ l.head? = some x := by simpa using m2
      cases h _ m1 with
      | cons _ z => exact z
      | cons_cons _ z => exact absurd rfl m3
    rw [List.length_cons, Nat.pow_succ]
    have e2 : (ls.filter fun l => decide ¬ (decide (l.head? = some x) = true)) = ls.filter fun l => !decide (l.head? = some x) := by
      congr
      funext l
      by_cases c : l.head? = some x <;> simp [c]
    rw [e2] at e
    omega
/-! ### what a family has counted -/
def MemoOk (ns : List Str) (g : Str) (kvs : List (List Key × V)) : Prop := (kvs.map (·.1)).Nodup ∧ ∀ p ∈ kvs, ∃ lot : List Str, lot.Sublist ns ∧ p.1 = lot.map Sum.inr ∧ p.2 = .int (rkG g lot : Nat)
structure FamsOk (K : PySem.W.Frag) (H : Hp) : Prop where
  ok : ∀ a dx t s c g, H a = some (famO K dx t s c g) → ∃ ns kvs, H t = some (.tup (ns.map V.str)) ∧ ns.length ≤ 20 ∧ H c = some (.dT kvs) ∧ MemoOk ns g kvs
  one : ∀ a a' dx dx' t t' s s' c g g', H a = some (famO K dx t s c g) → H a' = some (famO K dx' t' s' c g') → a = a'
structure Grow (K : PySem.W.Frag) (H G : Hp) : Prop where
  k1 : ∀ a o, H a = some o → (∀ kvs, o ≠ .dT kvs) → G a = some o
  k2 : ∀ a kvs, H a = some (.dT kvs) → ∃ kvs', G a = some (.dT kvs')
  k3 : ∀ a kvs, H a = some (.dT kvs) → ¬ isMemo K H a → G a = some (.dT kvs)
  k4 : ∀ c, isMemo K G c → H c ≠ none → isMemo K H c
theorem Grow.there {K : PySem.W.Frag} {H G : Hp} (g : Grow K H G) {a : Addr} (h : H a ≠ none) : G a ≠ none := fun z => by
  cases e : H a with
  | none => exact h e
  | some o =>
    by_cases c : ∃ kvs, o = .dT kvs
    · obtain ⟨kvs, rfl⟩ := c
      obtain ⟨k', q⟩ := g.k2 _ _ e
      rw [q] at z; cases z
    · rw [g.k1 _ _ e fun kvs q => c ⟨kvs, q⟩] at z; cases z
section
variable {K : PySem.W.Frag} {H G : Hp} {p : Addr} {o o' : HO}
/-- an object that is no family's is written -/
theorem memo_iff (n : ∀ dx t s c g, o' ≠ famO K dx t s c g) (m : ∀ dx t s c g, H p ≠ some (famO K dx t s c g)) {c : Addr} : isMemo K (upd H p o') c ↔ isMemo K H c := by
  constructor
  · rintro ⟨a, dx, t, s, g, q⟩
    by_cases z : a = p
    · rw [z, upd_same] at q
      exact absurd (Option.some.inj q) (n _ _ _ _ _)
    · rw [upd_ne z] at q
      exact ⟨a, dx, t, s, g, q⟩
  · rintro ⟨a, dx, t, s, g, q⟩
    refine ⟨a, dx, t, s, g, ?_⟩
    rw [upd_ne fun z => m _ _ _ _ _ (z ▸ q)]
    exact q
theorem fams_put (n : ∀ dx t s c g, o' ≠ famO K dx t s c g) (m : ∀ dx t s c g, H p ≠ some (famO K dx t s c g)) (mt : ∀ xs, H p ≠ some (.tup xs)) (mm : ¬ isMemo K H p) (ok : FamsOk K H) : FamsOk K (upd H p o') := by
  have old : ∀ {a dx t s c g}, (upd H p o') a = some (famO K dx t s c g) → H a = some (famO K dx t s c g) := fun {a dx t s c g} q => by
    by_cases z : a = p
    · rw [z, upd_same] at q
      exact absurd (Option.some.inj q) (n _ _ _ _ _)
    · rw [upd_ne z] at q
      exact q
  refine ⟨fun a dx t s c g q => ?_, fun a a' dx dx' t t' s s' c g g' q q' => ok.one _ _ _ _ _ _ _ _ _ _ _ (old q) (old q')⟩
  obtain ⟨ns, kvs, h1, h2, h3, h4⟩ := ok.ok _ _ _ _ _ _ (old q)
  exact ⟨ns, kvs, by rw [upd_ne fun z => mt _ (z ▸ h1)]; exact h1, h2, by rw [upd_ne fun z : c = p => mm (by rw [← z]; exact ⟨a, dx, t, s, g, old q⟩)]; exact h3, h4⟩
/-- .. at a place that was free at the beginning -/
theorem grow_put (g : Grow K H G) (hp : H p = none) (n : ∀ dx t s c g, o' ≠ famO K dx t s c g) (m : ∀ dx t s c g, G p ≠ some (famO K dx t s c g)) : Grow K H (upd G p o') where
  k1 := fun a o e z => by rw [upd_ne fun q => by rw [q, hp] at e; cases e]; exact g.k1 a o e z
  k2 := fun a kvs e => by rw [upd_ne fun q => by rw [q, hp] at e; cases e]; exact g.k2 a kvs e
  k3 := fun a kvs e z => by rw [upd_ne fun q => by rw [q, hp] at e; cases e]; exact g.k3 a kvs e z
  k4 := fun c z e => g.k4 c ((memo_iff n m).mp z) e
theorem Grow.refl (K : PySem.W.Frag) (H : Hp) : Grow K H H := ⟨fun _ _ e _ => e, fun _ kvs e => ⟨kvs, e⟩, fun _ _ e _ => e, fun _ z _ => z⟩
theorem nofam {o : HO} (h : isIns o = false) : ∀ dx t s c g, o ≠ famO K dx t s c g := fun _ _ _ _ _ e => by rw [e] at h; cases h
theorem nofamC {C dx0 : Addr} {fs : List (Str × V)} (h : C ≠ He.ga K "Family") : ∀ dx t s c g, HO.ins C dx0 fs ≠ famO K dx t s c g := fun _ _ _ _ _ e => by
  injection e with e1
  exact h e1
theorem nofam0 {C dx0 : Addr} : ∀ dx t s c g, HO.ins C dx0 [] ≠ famO K dx t s c g := fun _ _ _ _ _ e => by
  injection e with _ _ e3
  cases e3
end
/-- families grow in what they have counted, all else stays -/
def T1 (K : PySem.W.Frag) : Th K where
  Ok := FamsOk K
  Gr := Grow K
  refl := Grow.refl K
  trans := fun g h => ⟨fun a o e z => h.k1 a o (g.k1 a o e z) z, fun a kvs e => have ⟨k', e'⟩ := g.k2 a kvs e; h.k2 a k' e', fun a kvs e z => h.k3 a kvs (g.k3 a kvs e z) fun q => z (g.k4 a q fun q => by rw [q] at e; cases e),
    fun c z e => g.k4 c (h.k4 c z (g.there e)) e⟩
  keep := fun g e n => g.k1 _ _ e n
  keepT := fun g e => g.k2 _ _ e
  keepD := fun g e n => ⟨g.k3 _ _ e n, fun q => n (g.k4 _ q fun z => by rw [z] at e; cases e)⟩
  noMemo := fun ok hp ⟨a, dx, t, s, g, q⟩ => by
    obtain ⟨_, _, _, _, z, _⟩ := ok.ok _ _ _ _ _ _ q
    rw [hp] at z; cases z
  new := fun {H p o} ok hp ho => ⟨fams_put (nofam ho) (fun _ _ _ _ _ q => by rw [hp] at q; cases q) (fun _ q => by rw [hp] at q; cases q) (fun ⟨a, dx, t, s, g, q⟩ => by
      obtain ⟨_, _, _, _, z, _⟩ := ok.ok _ _ _ _ _ _ q
      rw [hp] at z; cases z) ok, grow_put (Grow.refl K H) hp (nofam ho) fun _ _ _ _ _ q => by rw [hp] at q; cases q⟩
  put := fun {H G p o o'} g hp ok ho n1 n2 n5 i1 i2 => ⟨fams_put (nofam i2) (fun dx t s c g q => nofam i1 dx t s c g (Option.some.inj (ho.symm.trans q))) (fun xs q => n1 xs (Option.some.inj (ho.symm.trans q))) (fun ⟨a, dx, t, s, g, q⟩ => by
      obtain ⟨_, kvs, _, _, z, _⟩ := ok.ok _ _ _ _ _ _ q
      exact n2 kvs (Option.some.inj (ho.symm.trans z))) ok, grow_put g hp (nofam i2) fun dx t s c g q => nofam i1 dx t s c g (Option.some.inj (ho.symm.trans q))⟩
  putD := fun {H G p kvs kvs'} g hp ok ho n => ⟨fams_put (nofam rfl) (fun _ _ _ _ _ q => by rw [ho] at q; cases q) (fun xs q => by rw [ho] at q; cases q) n ok, grow_put g hp (nofam rfl) fun _ _ _ _ _ q => by rw [ho] at q; cases q⟩
  make := fun {H y dy C} ok hy hdy ne => by
    have nm : ∀ {p}, H p = none → ¬ isMemo K H p := fun hp ⟨a, dx, t, s, g, q⟩ => by
      obtain ⟨_, _, _, _, z, _⟩ := ok.ok _ _ _ _ _ _ q
      rw [hp] at z; cases z
    have o1 : FamsOk K (upd H dy (.own y)) := fams_put (nofam rfl) (fun _ _ _ _ _ q => by rw [hdy] at q; cases q) (fun _ q => by rw [hdy] at q; cases q) (nm hdy) ok
    have g1 : Grow K H (upd H dy (.own y)) := grow_put (Grow.refl K H) hdy (nofam rfl) fun _ _ _ _ _ q => by rw [hdy] at q; cases q
    have hy1 : (upd H dy (.own y)) y = none := by rw [upd_ne ne.symm]; exact hy
    refine ⟨fams_put nofam0 (fun _ _ _ _ _ q => by rw [hy1] at q; cases q) (fun _ q => by rw [hy1] at q; cases q) (fun ⟨a, dx, t, s, g, q⟩ => ?_) o1, grow_put g1 hy nofam0 fun _ _ _ _ _ q => by rw [hy1] at q; cases q⟩
    obtain ⟨_, _, _, _, z, _⟩ := o1.ok _ _ _ _ _ _ q
    rw [hy1] at z; cases z
  fput := fun {H G y dy C fs fs'} g hy ok ho nf => ⟨fams_put (nofamC nf) (fun dx t s c g q => nofamC nf dx t s c g (Option.some.inj (ho.symm.trans q))) (fun _ q => by rw [ho] at q; cases q) (fun ⟨a, dx, t, s, g, q⟩ => by
      obtain ⟨_, kvs, _, _, z, _⟩ := ok.ok _ _ _ _ _ _ q
      rw [ho] at z; cases z) ok, grow_put g hy (nofamC nf) fun dx t s c g q => nofamC nf dx t s c g (Option.some.inj (ho.symm.trans q))⟩
end Dz
namespace Dz
open PySem PySem.Spec PyProof.Rows L2 Evl Bf
/-! ### a family's names; its methods -/
def famFs : List Str := ["names", "source", "counted"]
def famNs : D → Option (List Str)
  | .fam ns _ _ => some ns
  | _ => none
def xNames (φ : DX) : DX := fun ρ A Ax => φ ρ (fun x => ∃ ns, famNs x = some ns ∧ A (tupS ns)) Ax
def xMethF (F : DF) (φ : DX) (φs : DA) : DX := fun ρ A Ax => φ ρ (fun x => (famNs x).isSome = true ∧ φs ρ (fun ds => F (x :: ds) A Ax) Ax) Ax
def xMeth0F (F : DF) (φ : DX) : DX := fun ρ A Ax => φ ρ (fun x => (famNs x).isSome = true ∧ F [x] A Ax) Ax
theorem fam_of {d : D} {ns : List Str} (h : famNs d = some ns) : ∃ s g, d = .fam ns s g := by
  cases d with
  | fam ns' s g => cases h; exact ⟨s, g, rfl⟩
  | _ => cases h
theorem rep_fam {K : PySem.W.Frag} {H : Hp} {ow : Addr → Prop} {v : V} {ns : List Str} {d : D} {g : Str} (h : Rep K H ow v (.fam ns d g)) : ∃ a dx t s c, v = .ref a ∧ H a = some (famO K dx t s c g) ∧ ¬ ow a ∧ H t = some (.tup (ns.map V.str)) ∧ Rep K H ow (.ref s) d := by
  cases h with
  | fam a b c d => exact ⟨_, _, _, _, _, rfl, a, b, c, d⟩
section
variable {X : Cx} {T : Th X.K} {W : WX} {O : List Nat} {e o : Expr} {es : List Expr} {φ : DX} {φs : DA} {pos apos : Pos} {k n : Nat} {m : Str} {fz : Nat} {F : DF}
theorem be_famN (hc : Cls X.K (He.ga X.K "Family")) (hn : NoAttr X.K (He.ga X.K "Family") "names") (he : PE X e (eOf T W O φ)) (hb : attributeBase e "names" X.env (eval e X.env) = eval e X.env := by rfl) : PE X (.Attribute e "names" pos) (eOf T W O (xNames φ)) :=
  peI (pe_fld he hb) fun σ H Q ⟨ρ, ow0, fr, A, Ax, ok, er, q, k, x⟩ => ⟨ρ, ow0, fr, _, Ax, ok, er, q, fun d v G ⟨ns, e1, qz⟩ okG gG rv => (by
    obtain ⟨s0, g, rfl⟩ := fam_of e1
    obtain ⟨a, dx, t, s, c, rfl, ha, _, ht, _⟩ := rep_fam rv
    exact ⟨a, _, dx, _, .ref t, rfl, ha, hc, hn, rfl, k _ _ G qz okG gG (.tup ht (strs_repL ns))⟩), x⟩
theorem fam_cases {K : PySem.W.Frag} {H : Hp} {ow : Addr → Prop} {v : V} {d : D} (r : Rep K H ow v d) (h : (famNs d).isSome = true) {m : Str} (hm : m ∉ famFs) : ∃ a dx vs, v = .ref a ∧ H a = some (.ins (He.ga K "Family") dx vs) ∧ vs.lookup m = none := by
  obtain ⟨ns, e⟩ := Option.isSome_iff_exists.mp h
  obtain ⟨s0, g, rfl⟩ := fam_of e
  obtain ⟨a, dx, t, s, c, rfl, ha, _, ht, _⟩ := rep_fam r
  refine ⟨a, dx, _, rfl, ha, ?_⟩
  simp only [famFs, List.mem_cons, List.not_mem_nil, or_false, not_or] at hm
  have b : ∀ {x : Str}, ¬ m = x → (m == x) = false := fun h => by simpa using h
  simp only [List.lookup, b hm.1, b hm.2.1, b hm.2.2]
theorem mtF_aux {σ : L2.St} {H : Hp} {Q : VK} (hm : m ∉ famFs) (h : eOf T W O (xMethF F φ φs) σ H Q) : tMtS (He.ga X.K "Family") m (spOf T fz (n + 1) F) (WE W) (eOf T W O φ) (aOf T W O n φs) σ H Q := by
  obtain ⟨ρ, ow0, fr, A, Ax, ok, er, q, k, x⟩ := h
  refine ⟨ρ, ow0, fr, _, Ax, ok, er, q, fun d v G ⟨e1, qd⟩ okG gG rv => ?_, x⟩
  obtain ⟨a, dx, vs, rfl, ha, hl⟩ := fam_cases rv e1 hm
  refine ⟨a, dx, vs, rfl, ha, hl, ρ, ow0, fr, _, Ax, okG, er.gr T gG, qd, fun ds ws J qs hn okJ gJ rs => ?_, x.gr gG⟩
  refine ⟨by rw [List.length_cons, hn], _, owOf ow0 O σ, A, Ax, okJ, ((er.gr T gG).gr T gJ).otrk, .cons (rv.gr T gJ) rs, qs, fun d v L a o g r => ?_, fun y d L a o g r => x y d L a o (T.trans gG (T.trans gJ g)) r⟩
  exact k d v L a o (T.trans gG (T.trans gJ g)) (r.rep ((er.gr T gG).gr T gJ).otrk)
theorem be_methF (M : MtD X.prog X.w T X.mg X.base k "Family" m (n + 1) fz F) (hr : Room k X.A) (tk : Takes X W) (he : PE X o (eOf T W O φ)) (ha : PA X (e :: es) (aOf T W O n φs)) {pl : Sem Bool} (hm : m ∉ famFs := by decide)
    (h1 : starEach (e :: es) X.env = (false, eval e X.env) :: starEach es X.env := by rfl) (h2 : (backTo pos (starEach es X.env)).any (·.1) = false := by rfl)
    (ht : eval (.Call (.Attribute o m apos) (e :: es) [] pos) X.env = (do
      let ov ← eval o X.env
      standAt apos.atName
      let (g, first) ← holding [ov] (getMethod ov m pl)
      callWith pos g first (backTo pos (starEach (e :: es) X.env)) (backToKw pos (keywordEach [] X.env))) := by rfl) : PE X (.Call (.Attribute o m apos) (e :: es) [] pos) (eOf T W O (xMethF F φ φs)) := by
  obtain ⟨f, fd, ps, a1, a2, a3⟩ := M.ex
  exact peI (pe_mtS he M.cl a1 a2 hr a3 (fun σ => passAt tk σ) ha h1 h2 ht) fun _ _ _ h => mtF_aux hm h
theorem mfF_aux {σ : L2.St} {H : Hp} {Q : VK} (hm : m ∉ famFs) (h : efOf T W O (xMethF F φ φs) σ H Q) : tMtS (He.ga X.K "Family") m (spOf T 1 (n + 1) F) (WE W) (eOf T W O φ) (aOf T W O n φs) σ H Q := by
  obtain ⟨ρ, ow0, fr, A, Ax, ok, er, q, k, x⟩ := h
  refine ⟨ρ, ow0, fr, _, Ax, ok, er, q, fun d v G ⟨e1, qd⟩ okG gG rv => ?_, x⟩
  obtain ⟨a, dx, vs, rfl, ha, hl⟩ := fam_cases rv e1 hm
  refine ⟨a, dx, vs, rfl, ha, hl, ρ, ow0, fr, _, Ax, okG, er.gr T gG, qd, fun ds ws J qs hn okJ gJ rs => ?_, x.gr gG⟩
  exact ⟨by rw [List.length_cons, hn], _, owOf ow0 O σ, A, Ax, okJ, ((er.gr T gG).gr T gJ).otrk, .cons (rv.gr T gJ) rs, qs, fun d v L a o g ⟨p, e1, e2, e3⟩ => k d v L a o (T.trans gG (T.trans gJ g)) ⟨p, e1, T.back gG (T.back gJ e2), e3⟩, fun y d L a o g r => x y d L a o (T.trans gG (T.trans gJ g)) r⟩
theorem bf_methF (M : MtD X.prog X.w T X.mg X.base k "Family" m (n + 1) 1 F) (hr : Room k X.A) (tk : Takes X W) (he : PE X o (eOf T W O φ)) (ha : PA X (e :: es) (aOf T W O n φs)) {pl : Sem Bool} (hm : m ∉ famFs := by decide)
    (h1 : starEach (e :: es) X.env = (false, eval e X.env) :: starEach es X.env := by rfl) (h2 : (backTo pos (starEach es X.env)).any (·.1) = false := by rfl)
    (ht : eval (.Call (.Attribute o m apos) (e :: es) [] pos) X.env = (do
      let ov ← eval o X.env
      standAt apos.atName
      let (g, first) ← holding [ov] (getMethod ov m pl)
      callWith pos g first (backTo pos (starEach (e :: es) X.env)) (backToKw pos (keywordEach [] X.env))) := by rfl) : PE X (.Call (.Attribute o m apos) (e :: es) [] pos) (efOf T W O (xMethF F φ φs)) := by
  obtain ⟨f, fd, ps, a1, a2, a3⟩ := M.ex
  exact peI (pe_mtS he M.cl a1 a2 hr a3 (fun σ => passAt tk σ) ha h1 h2 ht) fun _ _ _ h => mfF_aux hm h
theorem mt0F_aux {σ : L2.St} {H : Hp} {Q : VK} (hm : m ∉ famFs) (h : eOf T W O (xMeth0F F φ) σ H Q) : tMtS0 (He.ga X.K "Family") m (spOf T fz 1 F) (WE W) (eOf T W O φ) σ H Q := by
  obtain ⟨ρ, ow0, fr, A, Ax, ok, er, q, k, x⟩ := h
  refine ⟨ρ, ow0, fr, _, Ax, ok, er, q, fun d v G ⟨e1, qd⟩ okG gG rv => ?_, x⟩
  obtain ⟨a, dx, vs, rfl, ha, hl⟩ := fam_cases rv e1 hm
  exact ⟨a, dx, vs, rfl, ha, hl, rfl, _, owOf ow0 O σ, A, Ax, okG, (er.gr T gG).otrk, .cons rv .nil, qd, fun d v L a o g r => k d v L a o (T.trans gG g) (r.rep (er.gr T gG).otrk), fun y d L a o g r => x y d L a o (T.trans gG g) r⟩
theorem mf0F_aux {σ : L2.St} {H : Hp} {Q : VK} (hm : m ∉ famFs) (h : efOf T W O (xMeth0F F φ) σ H Q) : tMtS0 (He.ga X.K "Family") m (spOf T 1 1 F) (WE W) (eOf T W O φ) σ H Q := by
  obtain ⟨ρ, ow0, fr, A, Ax, ok, er, q, k, x⟩ := h
  refine ⟨ρ, ow0, fr, _, Ax, ok, er, q, fun d v G ⟨e1, qd⟩ okG gG rv => ?_, x⟩
  obtain ⟨a, dx, vs, rfl, ha, hl⟩ := fam_cases rv e1 hm
  exact ⟨a, dx, vs, rfl, ha, hl, rfl, _, owOf ow0 O σ, A, Ax, okG, (er.gr T gG).otrk, .cons rv .nil, qd, fun d v L a o g ⟨p, e1, e2, e3⟩ => k d v L a o (T.trans gG g) ⟨p, e1, T.back gG e2, e3⟩, fun y d L a o g r => x y d L a o (T.trans gG g) r⟩
theorem be_meth0F (M : MtD X.prog X.w T X.mg X.base k "Family" m 1 fz F) (hr : Room k X.A) (tk : Takes X W) (he : PE X o (eOf T W O φ)) {pl : Sem Bool} (hm : m ∉ famFs := by decide)
    (ht : eval (.Call (.Attribute o m apos) [] [] pos) X.env = (do
      let ov ← eval o X.env
      standAt apos.atName
      let (f, first) ← holding [ov] (getMethod ov m pl)
      callWith pos f first (backTo pos (starEach [] X.env)) (backToKw pos (keywordEach [] X.env))) := by rfl) : PE X (.Call (.Attribute o m apos) [] [] pos) (eOf T W O (xMeth0F F φ)) := by
  obtain ⟨f, fd, ps, a1, a2, a3⟩ := M.ex
  exact peI (pe_mtS0 he M.cl a1 a2 hr a3 (fun σ => passAt tk σ) ht) fun _ _ _ h => mt0F_aux hm h
theorem bf_meth0F (M : MtD X.prog X.w T X.mg X.base k "Family" m 1 1 F) (hr : Room k X.A) (tk : Takes X W) (he : PE X o (eOf T W O φ)) {pl : Sem Bool} (hm : m ∉ famFs := by decide)
    (ht : eval (.Call (.Attribute o m apos) [] [] pos) X.env = (do
      let ov ← eval o X.env
      standAt apos.atName
      let (f, first) ← holding [ov] (getMethod ov m pl)
      callWith pos f first (backTo pos (starEach [] X.env)) (backToKw pos (keywordEach [] X.env))) := by rfl) : PE X (.Call (.Attribute o m apos) [] [] pos) (efOf T W O (xMeth0F F φ)) := by
  obtain ⟨f, fd, ps, a1, a2, a3⟩ := M.ex
  exact peI (pe_mtS0 he M.cl a1 a2 hr a3 (fun σ => passAt tk σ) ht) fun _ _ _ h => mf0F_aux hm h
end
/-! ### rank_of -/
theorem key_map (lot : List Str) : (lot.map (Sum.inr : Str → Key)).map kV = lot.map V.str := by
  rw [List.map_map]; rfl
theorem key_inj {a b : List Str} (h : a.map (Sum.inr : Str → Key) = b.map Sum.inr) : a = b := map_inj (fun x y e => Sum.inr.inj e) a b h
theorem memo_val {ns lot : List Str} {g : Str} {kvs : List (List Key × V)} (m : MemoOk ns g kvs) {v : V} (h : valV kvs (lot.map Sum.inr) = some v) : v = .int (rkG g lot : Nat) := by
  unfold valV at h
  cases c : kvs.find? fun p => decide (p.1 = lot.map Sum.inr) with
  | none => rw [c] at h; cases h
  | some p =>
    rw [c] at h
    cases h
    obtain ⟨lot', _, h2, h3⟩ := m.2 p (List.mem_of_find?_eq_some c)
    have := List.find?_some c
    have e := of_decide_eq_true this
    rw [h2] at e
    show p.2 = _
    rw [h3, key_inj e]
theorem val_none {κ : Type} [DecidableEq κ] {kvs : List (κ × V)} {k : κ} (h : valV kvs k = none) : ∀ p ∈ kvs, p.1 ≠ k := fun p hp e => by
  unfold valV at h
  cases c : kvs.find? fun p => decide (p.1 = k) with
  | some q => rw [c] at h; cases h
  | none => exact absurd (decide_eq_true e) (by simpa using List.find?_eq_none.mp c p hp)
theorem put_new {κ : Type} [DecidableEq κ] {kvs : List (κ × V)} {k : κ} {v : V} (h : valV kvs k = none) : putK kvs k v = kvs ++ [(k, v)] := by
  unfold putK
  rw [if_neg]
  intro z
  obtain ⟨p, hp, e⟩ := List.any_eq_true.mp z
  exact val_none h p hp (of_decide_eq_true e)
theorem val_put {κ : Type} [DecidableEq κ] {kvs : List (κ × V)} {k : κ} {v : V} (h : valV kvs k = none) : valV (putK kvs k v) k = some v := by
  rw [put_new h]
  unfold valV at h ⊢
  rw [List.find?_append]
  cases c : kvs.find? fun p => decide (p.1 = k) with
  | some q => rw [c] at h; cases h
  | none => simp
theorem memo_put1 {ns lot : List Str} {g : Str} {kvs : List (List Key × V)} (m : MemoOk ns g kvs) (hs : lot.Sublist ns) (h : valV kvs (lot.map Sum.inr) = none) : MemoOk ns g (putK kvs (lot.map Sum.inr) (.int (rkG g lot : Nat))) := by
  rw [put_new h]
  refine ⟨?_, fun p hp => ?_⟩
  · rw [List.map_append]
    refine List.nodup_append.mpr ⟨m.1, by simp, fun a ha b hb e => ?_⟩
    simp only [List.map_cons, List.map_nil, List.mem_singleton] at hb
    obtain ⟨p, hp, rfl⟩ := List.mem_map.mp ha
    exact val_none h p hp (e.trans hb)
  · rcases List.mem_append.mp hp with hp | hp
    · exact m.2 p hp
    · rw [List.mem_singleton.mp hp]
      exact ⟨lot, hs, rfl, rfl⟩
theorem memo_len {ns lot : List Str} {g : Str} {kvs : List (List Key × V)} (m : MemoOk ns g kvs) (hs : lot.Sublist ns) (h : valV kvs (lot.map Sum.inr) = none) (hn : ns.length ≤ 20) : kvs.length < sizeLine := by
  have m2 := memo_put1 m hs h
  rw [put_new h] at m2
  have e : ∃ ls : List (List Str), (kvs ++ [(lot.map Sum.inr, V.int (rkG g lot : Nat))] : List (List Key × V)).map (fun p => p.1) = ls.map (fun l => l.map (Sum.inr : Str → Key)) ∧ ∀ l ∈ ls, l.Sublist ns := by
    have := m2.2
    generalize kvs ++ [(lot.map Sum.inr, V.int (rkG g lot : Nat))] = q at this ⊢
    induction q with
    | nil => exact ⟨[], rfl, fun _ z => absurd z List.not_mem_nil⟩
    | cons p r ih =>
      obtain ⟨ls, h1, h2⟩ := ih fun p hp => this p (List.mem_cons_of_mem _ hp)
      obtain ⟨l, h3, h4, _⟩ := this p List.mem_cons_self
      exact ⟨l :: ls, by rw [List.map_cons, List.map_cons, h1, h4], fun x hx => (List.mem_cons.mp hx).elim (fun e => e ▸ h3) (h2 x)⟩
  obtain ⟨ls, e1, e2⟩ := e
  have nd := m2.1
  rw [e1] at nd
  have nl : ls.Nodup := by
    rw [List.nodup_iff_pairwise_ne] at nd ⊢
    rw [List.pairwise_map] at nd
    exact List.Pairwise.imp (fun {a b} n z => n (by rw [z])) nd
  have l1 := sub_count ns ls nl e2
  have l2 : ls.length = kvs.length + 1 := by
    have := congrArg List.length e1
    rw [List.length_map, List.length_map, List.length_append] at this
    simpa using this.symm
  have l3 : 2 ^ ns.length ≤ 2 ^ 20 := Nat.pow_le_pow_right (by decide) hn
  show kvs.length < 2 ^ 24
  omega
theorem memo_put2 {ns lot : List Str} {g : Str} {kvs : List (List Key × V)} (m : MemoOk ns g kvs) (hs : lot.Sublist ns) : MemoOk ns g (putK kvs (lot.map Sum.inr) (.int (rkG g lot : Nat))) := by
  cases h : valV kvs (lot.map Sum.inr) with
  | none => exact memo_put1 m hs h
  | some v =>
    have e : putK kvs (lot.map Sum.inr) (.int (rkG g lot : Nat)) = kvs := by
      unfold putK
      split
      · conv => rhs; rw [← List.map_id kvs]
        refine List.map_congr_left fun p hp => ?_
        split
        · rename_i e
          obtain ⟨lot', _, h2, h3⟩ := m.2 p hp
          rw [h2] at e
          have e2 := key_inj e
          subst e2
          obtain ⟨a, b⟩ := p
          cases h2; cases h3
          rfl
        · rfl
      · rename_i n
        exfalso
        apply n
        unfold valV at h
        cases c : kvs.find? fun p => decide (p.1 = lot.map Sum.inr) with
        | none => rw [c] at h; cases h
        | some p => exact List.any_eq_true.mpr ⟨p, List.mem_of_find?_eq_some c, by have z := List.find?_some c; exact z⟩
    rw [e]
    exact m
theorem memo_len2 {ns : List Str} {g : Str} {kvs : List (List Key × V)} (m : MemoOk ns g kvs) (hn : ns.length ≤ 20) : kvs.length < sizeLine := by
  have e : ∃ ls : List (List Str), kvs.map (fun p => p.1) = ls.map (fun l => l.map (Sum.inr : Str → Key)) ∧ ∀ l ∈ ls, l.Sublist ns := by
    have := m.2
    clear m
    induction kvs with
    | nil => exact ⟨[], rfl, fun _ z => absurd z List.not_mem_nil⟩
    | cons p r ih =>
      obtain ⟨ls, h1, h2⟩ := ih fun p hp => this p (List.mem_cons_of_mem _ hp)
      obtain ⟨l, h3, h4, _⟩ := this p List.mem_cons_self
      exact ⟨l :: ls, by rw [List.map_cons, List.map_cons, h1, h4], fun x hx => (List.mem_cons.mp hx).elim (fun e => e ▸ h3) (h2 x)⟩
  obtain ⟨ls, e1, e2⟩ := e
  have nd := m.1
  rw [e1] at nd
  have nl : ls.Nodup := by
    rw [List.nodup_iff_pairwise_ne] at nd ⊢
    rw [List.pairwise_map] at nd
    exact List.Pairwise.imp (fun {a b} n z => n (by rw [z])) nd
  have l1 := sub_count ns ls nl e2
  have l2 : ls.length = kvs.length := by
    have := congrArg List.length e1
    rw [List.length_map, List.length_map] at this
    exact this.symm
  have l3 : 2 ^ ns.length ≤ 2 ^ 20 := Nat.pow_le_pow_right (by decide) hn
  show kvs.length < 2 ^ 24
  omega
theorem val_put2 {κ : Type} [DecidableEq κ] {kvs : List (κ × V)} {k : κ} {v : V} : valV (putK kvs k v) k = some v := by
  cases h : valV kvs k with
  | none => exact val_put h
  | some u =>
    unfold putK
    have hf : (kvs.any fun p => decide (p.1 = k)) = true := by
      unfold valV at h
      cases c : kvs.find? fun p => decide (p.1 = k) with
      | none => rw [c] at h; cases h
      | some p => exact List.any_eq_true.mpr ⟨p, List.mem_of_find?_eq_some c, by have z := List.find?_some c; exact z⟩
    rw [if_pos hf]
    clear h
    unfold valV
    induction kvs with
    | nil => cases hf
    | cons p r ih =>
      rw [List.map_cons, List.find?_cons]
      by_cases c : p.1 = k
      · simp [c]
      · rw [List.any_cons, decide_eq_false c, Bool.false_or] at hf
        simp only [c, if_false, decide_false]
        exact ih hf
/-- the memo of one family is written -/
theorem fams_memo {K : PySem.W.Frag} {H : Hp} {a dx t s c : Addr} {g : Str} {ns : List Str} {kvs kvs' : List (List Key × V)} (ok : FamsOk K H) (ha : H a = some (famO K dx t s c g)) (ht : H t = some (.tup (ns.map V.str))) (hc : H c = some (.dT kvs)) (m : MemoOk ns g kvs') :
    FamsOk K (upd H c (.dT kvs')) ∧ Grow K H (upd H c (.dT kvs')) := by
  have old : ∀ {a dx t s c' g}, (upd H c (.dT kvs')) a = some (famO K dx t s c' g) → H a = some (famO K dx t s c' g) := fun {a dx t s c' g} q => by
    by_cases z : a = c
    · rw [z, upd_same] at q; cases q
    · rw [upd_ne z] at q; exact q
  have hm : ∀ x, isMemo K (upd H c (.dT kvs')) x → isMemo K H x := fun x ⟨b, dx, t, s, g, q⟩ => ⟨b, dx, t, s, g, old q⟩
  refine ⟨⟨fun b dx2 t2 s2 c2 g2 q => ?_, fun a a' dx dx' t t' s s' c g g' q q' => ok.one _ _ _ _ _ _ _ _ _ _ _ (old q) (old q')⟩, ?_⟩
  · obtain ⟨ns2, k2, h1, h2, h3, h4⟩ := ok.ok _ _ _ _ _ _ (old q)
    have ht2 : ∀ {t2 : Addr} {xs : List V}, H t2 = some (.tup xs) → (upd H c (.dT kvs')) t2 = some (.tup xs) := fun {t2 xs} h => by rw [upd_ne fun z => by rw [z, hc] at h; cases h]; exact h
    by_cases z : c2 = c
    · subst z
      have e := ok.one _ _ _ _ _ _ _ _ _ _ _ (old q) ha
      subst e
      have e2 := (old q).symm.trans ha
      injection e2 with e2
      injection e2 with _ _ e3
      injection e3 with e4 e5
      injection e5 with _ e6
      injection e6 with _ e7
      injection e7 with e8
      injection e4 with _ e4
      injection e4 with e4
      injection e8 with _ e8
      injection e8 with e8
      subst e4; subst e8
      rw [h1] at ht
      injection ht with ht
      injection ht with ht
      have e9 : ns2 = ns := map_inj (fun x y e => V.str.inj e) _ _ ht
      subst e9
      exact ⟨ns2, kvs', ht2 h1, h2, upd_same, m⟩
    · exact ⟨ns2, k2, ht2 h1, h2, by rw [upd_ne z]; exact h3, h4⟩
  · refine ⟨fun b o e n => ?_, fun b k e => ?_, fun b k e n => ?_, fun x z _ => hm x z⟩
    · rw [upd_ne fun z => by rw [z, hc] at e; cases e; exact n _ rfl]; exact e
    · by_cases z : b = c
      · subst z; exact ⟨_, upd_same⟩
      · rw [upd_ne z]; exact ⟨_, e⟩
    · by_cases z : b = c
      · subst z; exact absurd ⟨a, dx, t, s, g, ha⟩ n
      · rw [upd_ne z]; exact e
def F_RankOf (c : Str) (F : DF) : DF := fun ds A _ => ∃ ns fs g lot, ds = [.fam ns (.ins c fs) g, tupS lot] ∧ lot.Sublist ns ∧ fs.lookup ("count_free" : Str) = none ∧ F [.ins c fs, tupS lot] (fun d => d = .int (rkG g lot : Nat)) (fun _ => False) ∧ A (.int (rkG g lot : Nat))
theorem rep_strs {K : PySem.W.Frag} {H : Hp} {ow : Addr → Prop} {v : V} {xs : List Str} (h : Rep K H ow v (tupS xs)) : ∃ q, v = .ref q ∧ H q = some (.tup (xs.map V.str)) := by
  cases h with
  | tup a b => rw [repL_strs b] at a; exact ⟨_, rfl, a⟩
/-! ### a family is made: a field that nobody sees -/
theorem hok_ghost {P : Program} {w : World} {H : Hp} {h : Heap} {y C dx : Addr} {fs : List (Str × V)} {f : Str} {gv : V} (ok : HOk P w H h) (e : H y = some (.ins C dx fs)) (l : fs.length < 1000) (hf : (fs.lookup f).isSome = true) : HOk P w (upd H y (.ins C dx (fs ++ [(f, gv)]))) h := by
  have lk : ∀ x, (fs ++ [(f, gv)]).lookup x = fs.lookup x := fun x => by
    cases c : fs.lookup x with
    | some v =>
      have : ∀ (fs : List (Str × V)), fs.lookup x = some v → (fs ++ [(f, gv)]).lookup x = some v := fun fs => by
        induction fs with
        | nil => intro z; cases z
        | cons p r ih =>
          intro z
          obtain ⟨a, b⟩ := p
          rw [List.cons_append, List.lookup_cons] at *
          split
          · rename_i h1; rw [h1] at z; exact z
          · rename_i h1; rw [h1] at z; exact ih z
      exact this fs c
    | none =>
      have hx : x ≠ f := fun z => by rw [z] at c; rw [c] at hf; cases hf
      have : ∀ (fs : List (Str × V)), fs.lookup x = none → (fs ++ [(f, gv)]).lookup x = none := fun fs => by
        induction fs with
        | nil =>
          intro _
          rw [List.nil_append, List.lookup_cons]
          have : (x == f) = false := by simpa using hx
          rw [this]
          rfl
        | cons p r ih =>
          intro z
          obtain ⟨a, b⟩ := p
          rw [List.cons_append, List.lookup_cons] at *
          split
          · rename_i h1; rw [h1] at z; cases z
          · rename_i h1; rw [h1] at z; exact ih z
      exact this fs c
  have ob : ObjOk P w H h y (.ins C dx fs) := ok y _ e
  obtain ⟨h1, h2, h3, h4, mA, h5, h6, h7⟩ := ob
  refine hok_swap ok e (fun _ z => by cases z) (fun _ z => by cases z) ⟨by rw [upd_ne h3]; exact h1, by rw [List.length_append]; exact l, h3, h4, mA, h5, fun x => by rw [lk]; exact h6 x, fun x hx => ?_⟩
  rw [List.map_append]
  exact List.mem_append_left _ (h7 x hx)
def ghostSp (sp0 : Sp) : Sp := fun vs H Q E => sp0 vs H (fun v H' => ∃ (y C dx dx0 : Addr) (fs fs0 : List (Str × V)) (f : Str) (gv : V) (G : Hp), H y = some (.ins C dx0 fs0) ∧ H' = upd G y (.ins C dx fs) ∧ fs.length < 1000 ∧ (fs.lookup f).isSome = true ∧ Q v (upd G y (.ins C dx (fs ++ [(f, gv)])))) E
theorem ghost_fn {P : Program} {w : World} {K : PySem.W.Frag} {mg : Str → Option Value} {base : Heap} {k : Nat} {f : Addr} {fd : FuncData} {ps : List Str} {sp0 : Sp} (len : ∀ vs H Q E, sp0 vs H Q E → vs.length = ps.length) (F : FnOk P w K mg base CX0 k f fd ps sp0) : FnOk P w K mg base CX0 k f fd ps (ghostSp sp0) := by
  refine ⟨fun vs H Q E h => len vs H _ E h, fun A outer s H args us vs Q E hr e0 hb hv hsp => ?_⟩
  refine codeAny_mono (F.run A outer s _ args us _ _ E hr e0 hb hv hsp) fun r s' h => ?_
  cases r with
  | error e => exact h
  | ok fl => cases fl with
    | ret u =>
      obtain ⟨v, H', os, bare, un, hok, rv, y, C, dx, dx0, fs, fs0, f, gv, G, hy, rfl, hl, hf, hq⟩ := h
      have z := hok_ghost (gv := gv) hok upd_same hl hf
      rw [upd_upd] at z
      refine ⟨v, _, os, bare, ⟨un.keep, un.slot, fun b o q n hx => ?_, un.there, fun b xs q => ?_, fun b o u q => ?_, fun b ps q => ?_⟩, z, rv, hq⟩
      · have hb : b ≠ y := fun z => by rw [z, hy] at n; cases n
        have := un.free b o q n hx
        rw [upd_ne hb] at this ⊢
        exact this
      · have hb : b ≠ y := fun z => by rw [z, hy] at q; cases q
        have := un.tups b xs q
        rw [upd_ne hb] at this ⊢
        exact this
      · have hb : b ≠ y := fun z => by rw [z, hy] at q; cases q
        have := un.frzs b o u q
        rw [upd_ne hb] at this ⊢
        exact this
      · have hb : b ≠ y := fun z => by rw [z, hy] at q; cases q
        have := un.tbls b ps q
        rw [upd_ne hb] at this ⊢
        exact this
    | next => exact h
    | brk => exact h
    | cont => exact h
/-- Family's __init__, as it stands -/
def spFam0 (K : PySem.W.Frag) : Sp := fun vs H Q _ => ∃ (y dy p s : Addr) (ns : List V), vs = [.ref y, .ref p, .ref s] ∧ H y = some (.ins (He.ga K "Family") dy []) ∧ p ≠ y ∧
  ((H p = some (.lst ns) ∧ ∀ t c, H t = none → H c = none → t ≠ c → Q .non (upd (upd (upd H t (.tup ns)) c (.dT [])) y (.ins (He.ga K "Family") dy [("names", .ref t), ("source", .ref s), ("counted", .ref c)]))) ∨
   (H p = some (.tup ns) ∧ ∀ c, H c = none → Q .non (upd (upd H c (.dT [])) y (.ins (He.ga K "Family") dy [("names", .ref p), ("source", .ref s), ("counted", .ref c)]))))
theorem upd_shuffle {X : Hp} {y c : Addr} {a b d e : HO} (h : c ≠ y) : upd (upd (upd (upd X y a) y b) c d) y e = upd (upd X c d) y e := by
  funext z
  unfold upd
  by_cases h1 : z = y
  · simp [h1]
  · by_cases h2 : z = c <;> simp [h1, h2]
/-- what a family is made of: the ranks are told by whom it concerns -/
def spFamI (K : PySem.W.Frag) (F : DF) : Sp := fun vs H Q E => vs.length = 3 ∧ ∃ y dy ds ws ow A Ax H1, vs = .ref y :: ws ∧ H = upd (upd H1 dy (.own y)) y (.ins (He.ga K "Family") dy []) ∧ H1 y = none ∧ H1 dy = none ∧ dy ≠ y ∧
  (T1 K).Ok H1 ∧ (∀ a, ow a → H1 a ≠ none) ∧ RepL K H1 ow ws ds ∧ F ds A Ax ∧ (∀ d G, A d → (T1 K).Ok G → (T1 K).Gr H1 G → Rep K G ow (.ref y) d → Q .non G) ∧
  (∀ x d G, Ax x → (T1 K).Ok G → (T1 K).Gr H1 G → XRep K G ow d x → E (.ref (He.ga K x.cls)) d G)
def isObj : D → Bool
  | .ins _ _ => true
  | .fam _ _ _ => true
  | _ => false
def F_FInit : DF := fun ds A _ => ∃ ns d x g, ds = [x, d] ∧ seqS x ns ∧ ns.length ≤ 20 ∧ isObj d = true ∧ A (.fam ns d g)
theorem famO_inj {K : PySem.W.Frag} {dx t s c dx' t' s' c' : Addr} {g g' : Str} (h : famO K dx t s c g = famO K dx' t' s' c' g') : dx = dx' ∧ t = t' ∧ s = s' ∧ c = c' ∧ g = g' := by
  simpa [famO] using h
theorem rep_obj {K : PySem.W.Frag} {H : Hp} {ow : Addr → Prop} {v : V} {d : D} (h : Rep K H ow v d) (hd : isObj d = true) : ∃ s, v = .ref s := by
  cases h with
  | ins _ _ _ => exact ⟨_, rfl⟩
  | fam _ _ _ _ => exact ⟨_, rfl⟩
  | _ => cases hd
/-- the last step: an instance becomes a family -/
theorem fams_new {K : PySem.W.Frag} {H1 X : Hp} {y dy t s c : Addr} {g : Str} {ns : List Str} (hy : H1 y = none) (hl : ns.length ≤ 20) (okX : FamsOk K X) (gX : Grow K H1 X) (ht : X t = some (.tup (ns.map V.str))) (hc : X c = none) (hyX : X y = some (.ins (He.ga K "Family") dy [])) :
    FamsOk K (upd (upd X c (.dT [])) y (famO K dy t s c g)) ∧ Grow K H1 (upd (upd X c (.dT [])) y (famO K dy t s c g)) := by
  have hcy : c ≠ y := fun z => by rw [z, hyX] at hc; cases hc
  have hty : t ≠ y := fun z => by rw [z, hyX] at ht; cases ht
  have htc : t ≠ c := fun z => by rw [z, hc] at ht; cases ht
  obtain ⟨o1, g1⟩ := (T1 K).new (o := .dT []) okX hc rfl
  have g2 : Grow K H1 (upd X c (.dT [])) := (T1 K).trans gX g1
  have hc1 : H1 c = none := (T1 K).back gX hc
  have hy2 : (upd X c (.dT [])) y = some (.ins (He.ga K "Family") dy []) := by rw [upd_ne hcy.symm]; exact hyX
  have nc : ∀ {b dx t s g}, (upd X c (.dT [])) b ≠ some (famO K dx t s c g) := fun {b dx t s g} q => by
    have hb : b ≠ c := fun z => by rw [z, upd_same] at q; cases q
    rw [upd_ne hb] at q
    obtain ⟨_, _, _, _, z, _⟩ := okX.ok _ _ _ _ _ _ q
    rw [hc] at z; cases z
  have sp : ∀ {b dx2 t2 s2 c2 g2}, (upd (upd X c (.dT [])) y (famO K dy t s c g)) b = some (famO K dx2 t2 s2 c2 g2) → (b = y ∧ t = t2 ∧ c = c2 ∧ g = g2) ∨ (b ≠ y ∧ c2 ≠ c ∧ (upd X c (.dT [])) b = some (famO K dx2 t2 s2 c2 g2)) := fun {b dx2 t2 s2 c2 g2} q => by
    by_cases z : b = y
    · rw [z, upd_same] at q
      obtain ⟨_, h1, _, h2, h3⟩ := famO_inj (Option.some.inj q)
      exact .inl ⟨z, h1, h2, h3⟩
    · rw [upd_ne z] at q
      exact .inr ⟨z, fun e => by subst e; exact nc q, q⟩
  refine ⟨⟨fun b dx2 t2 s2 c2 g2 q => ?_, fun b b' dx dx' t t' s s' c2 g g' q q' => ?_⟩, ⟨fun a o e n => ?_, fun a k e => ?_, fun a k e n => ?_, fun c2 ⟨b, dx2, t2, s2, gg, q⟩ e => ?_⟩⟩
  · rcases sp q with ⟨rfl, rfl, rfl, rfl⟩ | ⟨hb, hc2, q⟩
    · exact ⟨ns, [], by rw [upd_ne hty, upd_ne htc]; exact ht, hl, by rw [upd_ne hcy]; exact upd_same, by simp, fun _ z => absurd z List.not_mem_nil⟩
    · obtain ⟨ns2, k2, h1, h2, h3, h4⟩ := o1.ok _ _ _ _ _ _ q
      exact ⟨ns2, k2, by rw [upd_ne fun z => by rw [z, hy2] at h1; cases h1]; exact h1, h2, by rw [upd_ne fun z => by rw [z, hy2] at h3; cases h3]; exact h3, h4⟩
  · rcases sp q with ⟨rfl, _, e1, _⟩ | ⟨hb, hc2, q⟩
    · rcases sp q' with ⟨rfl, _⟩ | ⟨_, hc2, _⟩
      · rfl
      · exact absurd e1.symm hc2
    · rcases sp q' with ⟨rfl, _, e1, _⟩ | ⟨_, _, q'⟩
      · exact absurd e1.symm hc2
      · exact o1.one _ _ _ _ _ _ _ _ _ _ _ q q'
  · rw [upd_ne fun z => by rw [z, hy] at e; cases e]; exact g2.k1 a o e n
  · rw [upd_ne fun z => by rw [z, hy] at e; cases e]; exact g2.k2 a k e
  · rw [upd_ne fun z => by rw [z, hy] at e; cases e]; exact g2.k3 a k e n
  · rcases sp q with ⟨_, _, rfl, _⟩ | ⟨_, _, q⟩
    · exact absurd hc1 e
    · exact g2.k4 c2 ⟨b, dx2, t2, s2, gg, q⟩ e
theorem fam_ini {P : Program} {w : World} {K : PySem.W.Frag} {mg : Str → Option Value} {base : Heap} {k : Nat} {f : Addr} {fd : FuncData} {ps : List Str} (hp : ps.length = 3) (F : FnOk P w K mg base CX0 k f fd ps (spFam0 K)) : FnOk P w K mg base CX0 k f fd ps (spFamI K F_FInit) := by
  have F2 := ghost_fn (fun vs H Q E h => by obtain ⟨y, dy, p, s, ns, rfl, _⟩ := h; exact hp.symm) F
  refine F2.imp fun vs H Q E h => ?_
  obtain ⟨_, y, dy, ds, ws, ow, A, Ax, H1, rfl, rfl, hy, hdy, ne, ok, tr, r, ⟨ns, d, x, g, rfl, hx, hl, hd, qa⟩, k1, k2⟩ := h
  cases r with
  | cons rx r => cases r with
    | cons rd r =>
      cases r
      obtain ⟨s, rfl⟩ := rep_obj rd hd
      have up : ∀ {b : Addr} {o : HO}, H1 b = some o → (upd (upd H1 dy (.own y)) y (.ins (He.ga K "Family") dy [])) b = some o := fun {b o} e => by
        rw [upd_ne (fun z => by rw [z, hy] at e; cases e), upd_ne (fun z => by rw [z, hdy] at e; cases e)]
        exact e
      obtain ⟨okM, gM⟩ := (T1 K).make (C := He.ga K "Family") ok hy hdy ne
      generalize hHI : upd (upd H1 dy (.own y)) y (.ins (He.ga K "Family") dy []) = HI at up okM gM ⊢
      have hyI : HI y = some (.ins (He.ga K "Family") dy []) := by rw [← hHI]; exact upd_same
      have fin : ∀ (X : Hp) (t c : Addr), FamsOk K X → Grow K H1 X → X t = some (.tup (ns.map V.str)) → X c = none → X y = some (.ins (He.ga K "Family") dy []) → Q .non (upd (upd X c (.dT [])) y (famO K dy t s c g)) := fun X t c okX gX ht hc hyX => by
        obtain ⟨o2, g2⟩ := fams_new (s := s) (g := g) hy hl okX gX ht hc hyX
        have hty : t ≠ y := fun z => by rw [z, hyX] at ht; cases ht
        have htc : t ≠ c := fun z => by rw [z, hc] at ht; cases ht
        exact k1 _ _ qa o2 g2 (.fam upd_same (fun z => tr y z hy) (by rw [upd_ne hty, upd_ne htc]; exact ht) (rd.gr (T1 K) g2))
      rcases hx with rfl | rfl
      · obtain ⟨p, vs, rfl, hp1, rp⟩ := o_lst rx.o
        rw [repL_strs rp] at hp1
        refine ⟨y, dy, p, s, ns.map V.str, rfl, hyI, (fun z => by rw [z, hy] at hp1; cases hp1), .inl ⟨up hp1, fun t c ht hc hne => ?_⟩⟩
        obtain ⟨o1, g1⟩ := (T1 K).new (o := .tup (ns.map V.str)) okM ht rfl
        have hcy : c ≠ y := fun z => by rw [z, hyI] at hc; cases hc
        have hty : t ≠ y := fun z => by rw [z, hyI] at ht; cases ht
        exact ⟨y, _, dy, dy, _, _, "names", .str g, _, hyI, rfl, (by show 3 < 1000; decide), rfl, fin _ t c o1 ((T1 K).trans gM g1) upd_same (by rw [upd_ne hne.symm]; exact hc) (by rw [upd_ne hty.symm]; exact hyI)⟩
      · obtain ⟨p, rfl, hp1⟩ := rep_strs rx
        refine ⟨y, dy, p, s, ns.map V.str, rfl, hyI, (fun z => by rw [z, hy] at hp1; cases hp1), .inr ⟨up hp1, fun c hc => ?_⟩⟩
        exact ⟨y, _, dy, dy, _, _, "names", .str g, _, hyI, rfl, (by show 3 < 1000; decide), rfl, fin _ p c okM gM (up hp1) hc hyI⟩
structure MkF (P : Program) (w : World) (K : PySem.W.Frag) (mg : Str → Option Value) (base : Heap) (k : Nat) (F : DF) : Prop where
  g : mg "Family" = some (.ref (He.ga K "Family"))
  ex : ∃ (fi : Addr) (fd : FuncData) (ps : List Str), Mk K (He.ga K "Family") fi ∧ FnOk P w K mg base (L2.CX P w) k fi fd ps (spFamI K F) ∧ Binds K fd ps []
section
variable {X : Cx} {W : WX} {O : List Nat} {e : Expr} {es : List Expr} {φs : DA} {pos p : Pos} {k : Nat} {F : DF}
theorem mkf_aux {σ : L2.St} {H : Hp} {Q : VK} (h : eOf (T1 X.K) W O (xFn F φs) σ H Q) : tMkS (He.ga X.K "Family") (spFamI X.K F) (WE W) (aOf (T1 X.K) W O 2 φs) σ H Q := by
  obtain ⟨ρ, ow0, fr, A, Ax, ok, er, q, k, x⟩ := h
  refine ⟨ρ, ow0, fr, _, Ax, ok, er, q, fun ds vs G qs hn okG gG rs y dy hy hdy ne => ?_, x⟩
  exact ⟨by rw [List.length_cons, hn], y, dy, ds, vs, owOf ow0 O σ, A, Ax, G, rfl, rfl, hy, hdy, ne, okG, (er.gr _ gG).otrk, rs, qs, fun d J a o g r => ⟨rfl, k _ _ J a o ((T1 X.K).trans gG g) r⟩, fun z d J a o g r => x z d J a o ((T1 X.K).trans gG g) r⟩
/-- Family(names, world) -/
theorem be_mkF (M : MkF X.prog X.w X.K X.mg X.base k F) (hr : Room (k + 1) X.A) (tk : Takes X W) (ha : PA X (e :: es) (aOf (T1 X.K) W O 2 φs)) (hg : Gl X "Family" := by rfl)
    (hdb : (("Family" : Str) == ("__debug__" : Str)) = false := by decide) (he : starEach (e :: es) X.env = (false, eval e X.env) :: starEach es X.env := by rfl) (hpl : (backTo pos (starEach es X.env)).any (·.1) = false := by rfl) :
    PE X (.Call (.Name "Family" p) (e :: es) [] pos) (eOf (T1 X.K) W O (xFn F φs)) := by
  obtain ⟨fi, fd, ps, h1, h2, h3⟩ := M.ex
  exact peI (pe_mkS h1 h2 hr M.g h3 (fun σ => passAt tk σ) ha hg hdb he hpl) fun _ _ _ h => mkf_aux h
end
end Dz
/-! Bf: a try whose clauses may have a name or none. -/
namespace Bf
open PySem PySem.Spec PyProof.Rows L2
abbrev ClM := Value × Option Nat × (Addr → Value → Option Addr → TS)
def wMix (K : PySem.W.Frag) (Wo : WX) (D : Ends) : List ClM → WX
  | [] => Wo
  | (c, some i, ts) :: r => fun cl d τ G =>
      ∃ b, PySem.W.exmOne K cl c = some b ∧
        (b = true → ∀ a, G a = none → ts a cl d (offA D i) (τ.set i (some (.ref a))) G) ∧
        (b = false → wMix K Wo D r cl d τ G)
  | (c, none, ts) :: r => fun cl d τ G =>
      ∃ b, PySem.W.exmOne K cl c = some b ∧
        (b = true → ∀ a, G a = none → ts a cl d D τ G) ∧
        (b = false → wMix K Wo D r cl d τ G)
inductive ClsM (X : Cx) : List ExceptHandler → List ClM → Prop
  | nil : ClsM X [] []
  | cons {x n : Str} {c : Value} {i : Nat} {ts : Addr → Value → Option Addr → TS} {b0 : Stmt} {su : List Stmt} {np ps : Pos} {hs : List ExceptHandler} {l : List ClM}
      (hc : Names X x c) (hi : X.N[i]? = some n) (hl : X.env.kindOf n = some .local)
      (hsu : ∀ (a : Addr) (oe : Obj) (cl : Value) (d : Option Addr) (pn : List (Addr × Obj)), Zc cl d oe → (∃ vs, oe.data = .fields vs) →
        PSs (X.suite a ((a, oe) :: pn)) (b0 :: su) (ts a cl d)) (r : ClsM X hs l) :
      ClsM X (.ExceptHandler (some (.Name x np)) (some n) (b0 :: su) ps :: hs) ((c, some i, ts) :: l)
  | bare {x : Str} {c : Value} {ts : Addr → Value → Option Addr → TS} {b0 : Stmt} {su : List Stmt} {np ps : Pos} {hs : List ExceptHandler} {l : List ClM}
      (hc : Names X x c)
      (hsu : ∀ (a : Addr) (oe : Obj) (cl : Value) (d : Option Addr) (pn : List (Addr × Obj)), Zc cl d oe → (∃ vs, oe.data = .fields vs) →
        PSs (X.suite a ((a, oe) :: pn)) (b0 :: su) (ts a cl d)) (r : ClsM X hs l) :
      ClsM X (.ExceptHandler (some (.Name x np)) none (b0 :: su) ps :: hs) ((c, none, ts) :: l)
section
variable {X : Cx} {body : List Stmt} {h0 : ExceptHandler} {hds : List ExceptHandler} {l : List ClM} {pos : Pos} {tb : WX → TS} {Wo : WX}
theorem ps_try_mix (hs : X.stack = X.env :: X.outer) (hf : X.env.frame = some X.env.locals) (hN : X.N.Nodup) (tk : Takes X Wo)
    (hb : ∀ (W : WX) (pn : List (Addr × Obj)) (xe : Value → Shared → Prop), Takes (X.tr pn xe) W → PassesOwn (model X.prog X.w) X.A X.env xe →
      PSs (X.tr pn xe) body (tb W)) (hh : ClsM X (h0 :: hds) l) :
    PS X (.Try body (h0 :: hds) [] [] pos) (fun D τ G => tb (wMix X.K Wo D l) D τ G) := by
  refine ⟨fun pins s τ G D I h => wpAny_Try_except ?_⟩
  have ok := I.ok
  have frs_eq : X.A.frames = some (X.env :: X.outer) := by rw [ok.frames, hs]
  refine wpAny_mono ((hb (wMix X.K Wo D l) (X.pn ++ pins) (fun e t1 => wpAny (model X.prog X.w) X.A (noteFrame e X.env) (fun _ t2 =>
      wpAny (model X.prog X.w) X.A (setFlight e none) (fun _ t3 => wpAny (model X.prog X.w) X.A (handleBy e X.env (h0 :: hds)) (SP X pins D) X.xe t3) X.xe t2) X.xe t1)
    (fun u s' xx => ?_) PassesOwn.looking).run [] s τ G D (I.toTry _) h) (fun f t1 hsp => ?_) (fun _ _ he => he)
  · obtain ⟨a, B, sI, pins', τ', G', cl, d, rfl, J0, nb, up, sky, na, os, ag, w⟩ := xx
    have J : Inv X pins τ' G' sI := J0.ofTry ok
    have sky1 : Sky B (X.env :: X.outer) a (Zc cl d) X.env.locals s'.heap := by rw [← hs]; exact sky
    show wpAny (model X.prog X.w) X.A (noteFrame (.ref a) X.env) _ _ _
    refine Sky.land Zc.steady frs_eq hf sky1 fun g3 fl up3 => ?_
    have J3 : Inv X pins τ' G' { s' with heap := g3 } := J.landed nb fl.1 (up.trans up3) os ag
    obtain ⟨o3, v3, q3, z3, d3⟩ := fl.there
    have out : a ∉ frs (X.env :: X.outer) := fun hm => by
      obtain ⟨_, o', e', hnf⟩ := fl.2.2.1.mem hm
      rw [q3] at e'; cases e'
      exact hnf _ d3
    have nL : a ≠ X.env.locals := fun z => out (List.mem_filterMap.mpr ⟨X.env, List.mem_cons_self, by rw [hf, z]⟩)
    have nF : a ∉ X.fs := fun hm => by
      obtain ⟨e, he, q⟩ := List.mem_filterMap.mp hm
      exact out (List.mem_filterMap.mpr ⟨e, List.mem_cons_of_mem _ he, q⟩)
    have S3 := J3.suite q3 d3 na nL nF
    have all : ∀ {hl : List ExceptHandler} {m : List ClM}, ClsM X hl m → wMix X.K Wo D m cl d τ' G' →
        wpAny (model X.prog X.w) X.A (handleBy (.ref a) X.env hl) (SP X pins D) X.xe { s' with heap := g3 } := by
      intro hl m hk
      induction hk with
      | nil =>
        intro w
        refine wpAny_handleBy_nil ?_
        obtain ⟨_, _, _, oe, vs, T, oT, _, he, _, hd, e1, _⟩ := id fl
        unfold PySem.passOn
        refine wpAny_bind (wpAny_field he hd e1 ?_)
        rw [if_neg (show ¬ ((Value.ref T == Value.none) = true) by simp)]
        have last : wpAny (model X.prog X.w) X.A (setFlight (.ref a) X.env.frame) (fun _ t4 =>
            wpAny (model X.prog X.w) X.A (throw (.ref a) : Sem Flow) (SP X pins D) X.xe t4) X.xe { s' with heap := g3 } := by
          rw [hf]
          refine HandSPX.setFlight_upZ fl fun g4 y4 up4 => wpAny_throw (tk _ _ ?_)
          refine ⟨a, B, sI, pins, τ', G', cl, d, rfl, J, nb, (up.trans up3).trans up4, .inr (.inr ?_), na, os, ag, w⟩
          rw [hs]
          exact y4
        first
          | exact wpAny_bind (wpAny_pure (wpAny_bind last))
          | exact wpAny_bind last
      | @cons x n c i ts b0 su np ps hs2 l2 hc hi hl hsu r ih =>
        intro w
        obtain ⟨b, eb, yes, no⟩ := w
        refine wpAny_handleBy_cons (codeAny_handlers_test ?_) (by intro q; cases q)
        have ty : PySem.W.Looks (model X.prog X.w) g3 (typeOf (.ref a)) cl := fun A Q E s k q =>
          wpAny_typeOf_ref (k _ _ q3) (by rw [z3.1]; exact q)
        have hit := PySem.W.exm_one (M := model X.prog X.w) (J3.kIn) ty eb
        have test : ∀ {Q : Value → Shared → Prop} {E : Value → Shared → Prop}, Q c { s' with heap := g3 } →
            wpAny (model X.prog X.w) (X.A.mark (some (.ref a))) (eval (.Name x np) X.env) Q E { s' with heap := g3 } := fun {Q E} q => by
          obtain ⟨hg, dbg, hm | ⟨hm, hv, hnn⟩⟩ := hc
          · exact ld_glob (X := X.suite a ((a, o3) :: (X.pn ++ pins))) S3 hg hm q dbg
          · exact ld_blt (X := X.suite a ((a, o3) :: (X.pn ++ pins))) S3 hg hm hv q hnn dbg
        refine test (hit.here ?_)
        cases b with
        | false => exact ih (no rfl)
        | true =>
          refine codeAny_handlers_suite_as (HandSPX.lands_againZ fl fun g4 fl4 up4 => ?_)
          have J4 : Inv X pins τ' G' { s' with heap := g4 } := J.landed nb fl4.1 ((up.trans up3).trans up4) os ag
          obtain ⟨o4, v4, q4, z4, d4⟩ := fl4.there
          have S4 := J4.suite q4 d4 na nL nF
          refine store_ok (X := X.suite a ((a, o4) :: (X.pn ++ pins))) (v := .ref a) S4 hN hi (.inl hl) rfl (fun t5 S5 => ?_) (.inr hl)
          refine wpAny_mono ((hsu a o4 cl d (X.pn ++ pins) z4 ⟨_, d4⟩).run [] t5 _ G' _ S5 (yes rfl a na)) (fun f t6 hsp => ?_) (fun _ _ z => z.elim)
          have fin : ∀ {σ6 : L2.St} {H6 : Hp} {Q : Shared → Prop}, Inv (X.suite a ((a, o4) :: (X.pn ++ pins))) [] σ6 H6 t6 →
              (∀ t7, Inv X pins (σ6.set i none) H6 t7 → Q t7) →
              wpAny (model X.prog X.w) X.A (do bindName X.env n .none; unbindBehindTheSuite X.env n ps) (fun _ t7 => Q t7) X.xe t6 :=
            fun S6 hq => gone_ok (S6.unsuite ok) hN hi hl hq
          cases f with
          | next => obtain ⟨_, _, S6, q6⟩ := hsp; exact fin S6 fun _ J7 => ⟨_, _, J7, q6⟩
          | brk => obtain ⟨_, _, S6, q6⟩ := hsp; exact fin S6 fun _ J7 => ⟨_, _, J7, q6⟩
          | cont => obtain ⟨_, _, S6, q6⟩ := hsp; exact fin S6 fun _ J7 => ⟨_, _, J7, q6⟩
          | ret u => obtain ⟨_, _, _, S6, r6, q6⟩ := hsp; exact fin S6 fun _ J7 => ⟨_, _, _, J7, r6, q6⟩
      | @bare x c ts b0 su np ps hs2 l2 hc hsu r ih =>
        intro w
        obtain ⟨b, eb, yes, no⟩ := w
        refine wpAny_handleBy_cons (codeAny_handlers_test ?_) (by intro q; cases q)
        have ty : PySem.W.Looks (model X.prog X.w) g3 (typeOf (.ref a)) cl := fun A Q E s k q =>
          wpAny_typeOf_ref (k _ _ q3) (by rw [z3.1]; exact q)
        have hit := PySem.W.exm_one (M := model X.prog X.w) (J3.kIn) ty eb
        have test : ∀ {Q : Value → Shared → Prop} {E : Value → Shared → Prop}, Q c { s' with heap := g3 } →
            wpAny (model X.prog X.w) (X.A.mark (some (.ref a))) (eval (.Name x np) X.env) Q E { s' with heap := g3 } := fun {Q E} q => by
          obtain ⟨hg, dbg, hm | ⟨hm, hv, hnn⟩⟩ := hc
          · exact ld_glob (X := X.suite a ((a, o3) :: (X.pn ++ pins))) S3 hg hm q dbg
          · exact ld_blt (X := X.suite a ((a, o3) :: (X.pn ++ pins))) S3 hg hm hv q hnn dbg
        refine test (hit.here ?_)
        cases b with
        | false => exact ih (no rfl)
        | true =>
          refine codeAny_handlers_suite (HandSPX.lands_againZ fl fun g4 fl4 up4 => ?_)
          have J4 : Inv X pins τ' G' { s' with heap := g4 } := J.landed nb fl4.1 ((up.trans up3).trans up4) os ag
          obtain ⟨o4, v4, q4, z4, d4⟩ := fl4.there
          have S4 := J4.suite q4 d4 na nL nF
          refine wpAny_mono ((hsu a o4 cl d (X.pn ++ pins) z4 ⟨_, d4⟩).run [] _ _ G' _ S4 (yes rfl a na)) (fun f t6 hsp => ?_) (fun _ _ z => z.elim)
          cases f with
          | next => obtain ⟨_, _, S6, q6⟩ := hsp; exact ⟨_, _, S6.unsuite ok, q6⟩
          | brk => obtain ⟨_, _, S6, q6⟩ := hsp; exact ⟨_, _, S6.unsuite ok, q6⟩
          | cont => obtain ⟨_, _, S6, q6⟩ := hsp; exact ⟨_, _, S6.unsuite ok, q6⟩
          | ret u => obtain ⟨_, _, _, S6, r6, q6⟩ := hsp; exact ⟨_, _, _, S6.unsuite ok, r6, q6⟩
    exact all hh w
  · cases f with
    | next => obtain ⟨_, _, J1, q⟩ := hsp; exact wpAny_execs_nil ⟨_, _, J1.ofTry ok, q⟩
    | brk => obtain ⟨_, _, J1, q⟩ := hsp; exact ⟨_, _, J1.ofTry ok, q⟩
    | cont => obtain ⟨_, _, J1, q⟩ := hsp; exact ⟨_, _, J1.ofTry ok, q⟩
    | ret u => obtain ⟨_, _, _, J1, r, q⟩ := hsp; exact ⟨_, _, _, J1.ofTry ok, r, q⟩
end
end Bf
namespace Dz
open PySem PySem.Spec PyProof.Rows L2 Evl Bf
/-! ### [*a, b] -/
def avOf {K : PySem.W.Frag} (T : Th K) (W : WX) (O : List Nat) (φ : DA) : TA := fun σ H Q => ∃ ρ ow0 fr A Ax, T.Ok H ∧ ER K H ow0 fr O σ ρ ∧ φ ρ A Ax ∧ (∀ ds vs G, A ds → T.Ok G → T.Gr H G → RepL K G (owOf ow0 O σ) vs ds → Q vs G) ∧ XOk T W H (owOf ow0 O σ) σ Ax
def aStar (φ : DX) (φs : DA) : DA := fun ρ A Ax => φ ρ (fun x => ∃ xs, seqOf x = some xs ∧ φs ρ (fun ys => A (xs ++ ys)) Ax) Ax
section
variable {X : Cx} {T : Th X.K} {W : WX} {O : List Nat} {e a b : Expr} {es : List Expr} {φ φa φb : DX} {φs : DA} {pos p : Pos}
theorem av_nil : PA X [] (avOf T W O aNil) := paI pa_nil fun σ H Q ⟨ρ, ow0, fr, A, Ax, ok, er, q, k, x⟩ => k [] [] H q ok (T.refl H) .nil
theorem av_cons (ha : PE X e (eOf T W O φ)) (hr : PA X es (avOf T W O φs)) (hs : starEach (e :: es) X.env = (false, eval e X.env) :: starEach es X.env := by rfl) : PA X (e :: es) (avOf T W O (aCons φ φs)) :=
  paI (pa_cons ha hr hs) fun σ H Q ⟨ρ, ow0, fr, A, Ax, ok, er, q, k, x⟩ => ⟨ρ, ow0, fr, _, Ax, ok, er, q, fun d v G qd okG gG rv =>
    ⟨ρ, ow0, fr, _, Ax, okG, er.gr T gG, qd, fun ds vs J qs okJ gJ rs => k _ _ J qs okJ (T.trans gG gJ) (.cons (rv.gr T gJ) rs), x.gr gG⟩, x⟩
theorem seq_o {K : PySem.W.Frag} {H : Hp} {ow : Addr → Prop} {v : V} {d : D} {ds : List D} (h : RepO K H ow v d) (e : seqOf d = some ds) : ∃ p vs, v = .ref p ∧ (SqT K H p vs ∨ SqL K H p vs) ∧ RepL K H ow vs ds := by
  cases d with
  | lst xs => cases e; obtain ⟨p, vs, h1, h2, h3⟩ := o_lst h; exact ⟨p, vs, h1, .inr (.inl (.inl h2)), h3⟩
  | tup xs => cases e; obtain ⟨p, vs, h1, h2, h3⟩ := o_tup h; exact ⟨p, vs, h1, .inl (SqH h2), h3⟩
  | _ => cases e
theorem av_star (ha : PE X e (eoOf T W O φ)) (hr : PA X es (avOf T W O φs)) (hs : starEach (.Starred e p :: es) X.env = (true, eval e X.env) :: starEach es X.env := by rfl) : PA X (.Starred e p :: es) (avOf T W O (aStar φ φs)) :=
  paI (StX.pa_star ha hr hs) fun σ H Q ⟨ρ, ow0, fr, A, Ax, ok, er, q, k, x⟩ => ⟨ρ, ow0, fr, _, Ax, ok, er, q, fun d v G ⟨xs, e1, qd⟩ okG gG rv => by
    obtain ⟨p, vs, rfl, hv, rl⟩ := seq_o rv e1
    exact ⟨p, vs, rfl, hv, ρ, ow0, fr, _, Ax, okG, er.gr T gG, qd, fun ds ws J qs okJ gJ rs => k _ _ J qs okJ (T.trans gG gJ) ((rl.gr T gJ).append rs), x.gr gG⟩, x⟩
theorem bf_lstV (h : PA X es (avOf T W O φs)) : PE X (.List es pos) (efOf T W O (xLst φs)) :=
  peI (pe_lst h) fun σ H Q ⟨ρ, ow0, fr, A, Ax, ok, er, q, k, x⟩ => ⟨ρ, ow0, fr, _, Ax, ok, er, q, fun ds vs G ⟨hl, qd⟩ okG gG rv => ⟨by rw [rv.length]; exact big_sz hl, fun p hp => by
    obtain ⟨h1, h2, h3⟩ := new_own okG hp rv
    exact k _ _ _ qd h1 (T.trans gG h2) ⟨p, rfl, T.back gG hp, h3⟩⟩, x⟩
/-! ### dicts whose keys are tuples of texts -/
theorem bf_dnewT : PE X (.Dict [] [] pos) (efOf T W O (xC (.dit []))) :=
  peI pe_dnewT fun σ H Q ⟨ρ, ow0, fr, A, Ax, ok, er, q, k, x⟩ => fun p hp => by
    obtain ⟨h1, h2⟩ := T.new (o := .dT []) ok hp rfl
    exact k _ _ _ q h1 h2 ⟨p, rfl, hp, .dit upd_same (memo_put' rfl (T.noMemo ok hp)) rfl⟩
end
def keysL : List D → Option (List Key)
  | [] => some []
  | d :: ds => match dKey d, keysL ds with
    | some k, some ks => some (k :: ks)
    | _, _ => none
def tKey : D → Option (List Key)
  | .tup ds => keysL ds
  | _ => none
def ofV : V → D
  | .bl b => .bl b
  | .int i => .int i
  | .str s => .str s
  | _ => .non
theorem keysL_strs : ∀ xs : List Str, keysL (xs.map D.str) = some (xs.map Sum.inr)
  | [] => rfl
  | x :: xs => by
    rw [List.map_cons, keysL, keysL_strs xs]
    rfl
theorem tKey_strs (xs : List Str) : tKey (.tup (xs.map D.str)) = some (xs.map Sum.inr) := keysL_strs xs
theorem keysL_rep {K : PySem.W.Frag} {H : Hp} {ow : Addr → Prop} : ∀ {vs : List V} {ds : List D} {ks : List Key}, RepL K H ow vs ds → keysL ds = some ks → vs = ks.map kV
  | _, _, _, .nil, e => by cases e; rfl
  | _, d :: ds, ks, .cons r t, e => by
    rw [keysL] at e
    split at e
    · rename_i k1 k2 h1 h2
      cases e
      rw [key_rep r.o h1, keysL_rep t h2]
      rfl
    · cases e
theorem tKey_rep {K : PySem.W.Frag} {H : Hp} {ow : Addr → Prop} {v : V} {d : D} {ks : List Key} (h : Rep K H ow v d) (e : tKey d = some ks) : ∃ q, v = .ref q ∧ H q = some (.tup (ks.map kV)) := by
  cases h with
  | tup a b => rw [keysL_rep b e] at a; exact ⟨_, rfl, a⟩
  | _ => cases e
theorem flat_ofV {K : PySem.W.Frag} {H : Hp} {ow : Addr → Prop} {v : V} (h : flatV v = true) : Rep K H ow v (ofV v) := by
  cases v with
  | non => exact .non
  | bl b => exact .bl b
  | int i => exact .int i
  | str s => exact .str s
  | _ => cases h
theorem o_dit {K : PySem.W.Frag} {H : Hp} {ow : Addr → Prop} {v : V} {kvs : List (List Key × V)} (h : RepO K H ow v (.dit kvs)) : ∃ a, v = .ref a ∧ H a = some (.dT kvs) ∧ (kvs.all fun p => flatV p.2) = true := by
  rcases h with h | ⟨a, rfl, h⟩
  · cases h with
    | dit a b c d => exact ⟨_, rfl, a, d⟩
  · cases h with
    | dit a b c => exact ⟨_, rfl, a, c⟩
theorem val_flat {κ : Type} [DecidableEq κ] {kvs : List (κ × V)} {k : κ} {v : V} (h : valV kvs k = some v) (f : (kvs.all fun p => flatV p.2) = true) : flatV v = true := by
  unfold valV at h
  cases c : kvs.find? fun p => decide (p.1 = k) with
  | none => rw [c] at h; cases h
  | some p =>
    rw [c] at h
    cases h
    exact List.all_eq_true.mp f p (List.mem_of_find?_eq_some c)
theorem put_flat {κ : Type} [DecidableEq κ] {kvs : List (κ × V)} {k : κ} {v : V} (hv : flatV v = true) (f : (kvs.all fun p => flatV p.2) = true) : ((putK kvs k v).all fun p => flatV p.2) = true := by
  have f := List.all_eq_true.mp f
  refine List.all_eq_true.mpr fun p hp => ?_
  unfold putK at hp
  split at hp
  · obtain ⟨q, hq, e⟩ := List.mem_map.mp hp
    split at e
    · rw [← e]; exact hv
    · rw [← e]; exact f q hq
  · rcases List.mem_append.mp hp with hp | hp
    · exact f p hp
    · rw [List.mem_singleton.mp hp]; exact hv
def xTGet (φd φk : DX) : DX := fun ρ A Ax => φd ρ (fun x => φk ρ (fun y => ∃ kvs k v, x = .dit kvs ∧ tKey y = some k ∧ valV kvs k = some v ∧ A (ofV v)) Ax) Ax
def xTIn (neg : Bool) (φk φd : DX) : DX := fun ρ A Ax => φk ρ (fun y => φd ρ (fun x => ∃ kvs k, x = .dit kvs ∧ tKey y = some k ∧ A (.bl (neg != (valV kvs k).isSome))) Ax) Ax
def sPutT (i : Nat) (φk φv : DX) : DS := fun E ρ => ∃ kvs, ρ[i]? = some (some (.dit kvs)) ∧ kvs.length < big ∧ φv ρ (fun d => φk ρ (fun y => ∃ k v, tKey y = some k ∧ d.flat = some v ∧ E.nx (ρ.set i (some (.dit (putK kvs k v))))) (fun x => E.ex x ρ)) fun x => E.ex x ρ
section
variable {X : Cx} {T : Th X.K} {W : WX} {O : List Nat} {o i e e2 : Expr} {φ ψ φa φb : DX} {pos : Pos}
theorem be_tget (hu : X.A.units + 1 < cLine) (ho : PE X o (eoOf T W O φa)) (hi : PE X i (eOf T W O φb)) (hs : NoSl i) : PE X (.Subscript o i pos) (eOf T W O (xTGet φa φb)) := by
  refine peI (pe_dget hu ho hi hs) fun σ H Q ⟨ρ, ow0, fr, A, Ax, ok, er, q, k, x⟩ => ⟨ρ, ow0, fr, _, Ax, ok, er, q, fun d v G qd okG gG rv => ?_, x⟩
  refine ⟨ρ, ow0, fr, _, Ax, okG, er.gr T gG, qd, fun d' v' J ⟨kvs, kk, u, e1, e2, e3, qz⟩ okJ gJ rv' => ?_, x.gr gG⟩
  subst e1
  obtain ⟨p, rfl, hp, fl⟩ := o_dit (rv.gr T gJ)
  obtain ⟨q0, rfl, hq⟩ := tKey_rep rv' e2
  exact ⟨p, u, rfl, .inr ⟨kvs, kk, q0, .inl hp, rfl, hq, e3.symm⟩, k _ _ J qz okJ (T.trans gG gJ) (flat_ofV (val_flat e3 fl))⟩
theorem tin_aux (neg : Bool) {σ : L2.St} {H : Hp} {Q : VK} (h : eOf T W O (xTIn neg φa φb) σ H Q) : eOf T W O φa σ H fun y H1 => eoOf T W O φb σ H1 fun x H2 => ∃ a o, x = .ref a ∧ DGet H2 a y o ∧ Q (.bl (neg != o.isSome)) H2 := by
  obtain ⟨ρ, ow0, fr, A, Ax, ok, er, q, k, x⟩ := h
  refine ⟨ρ, ow0, fr, _, Ax, ok, er, q, fun d v G qd okG gG rv => ?_, x⟩
  refine ⟨ρ, ow0, fr, _, Ax, okG, er.gr T gG, qd, fun d' v' J ⟨kvs, kk, e1, e2, qz⟩ okJ gJ rv' => ?_, x.gr gG⟩
  subst e1
  obtain ⟨p, rfl, hp, fl⟩ := o_dit rv'
  obtain ⟨q0, rfl, hq⟩ := tKey_rep (rv.gr T gJ) e2
  exact ⟨p, _, rfl, .inr ⟨kvs, kk, q0, .inl hp, rfl, hq, rfl⟩, k _ _ J qz okJ (T.trans gG gJ) (.bl _)⟩
theorem bt_tin (hu : X.A.units + 1 < cLine) (hi : PE X i (eOf T W O φa)) (ho : PE X o (eoOf T W O φb)) (h1 : behindInMarks .In o = false := by rfl) : PT X (.Compare i [.In] [o] pos) (tOf T W O (tB' (xTIn false φa φb))) :=
  ptI (L2.pt_cmp (pc_din hu hi ho) h1) fun σ H Q h => by
    have z := tin_aux false (b_aux h)
    simp only [Bool.false_bne] at z
    exact z
theorem bt_tnotin (hu : X.A.units + 1 < cLine) (hi : PE X i (eOf T W O φa)) (ho : PE X o (eoOf T W O φb)) (h1 : behindInMarks .NotIn o = false := by rfl) : PT X (.Compare i [.NotIn] [o] pos) (tOf T W O (tB' (xTIn true φa φb))) :=
  ptI (L2.pt_cmp (pc_dnotin hu hi ho) h1) fun σ H Q h => by
    have z := tin_aux true (b_aux h)
    simp only [Bool.true_bne] at z
    exact z
variable {fz : Nat} {Ol : List Nat} {n : Nat} {x : Str} {pos2 pos3 : Pos}
theorem s_putT (hu : X.A.units + 1 < cLine) (hN : X.N[n]? = some x) (hv : Vis X.env.scope x) (hO : O.contains n = true) (hk : PE X e (eOf T W O φ)) (he : PE X e2 (eOf T W O ψ)) (hd : (x == ("__debug__" : Str)) = false := by decide) (hcd : (x == ("__classdict__" : Str)) = false := by decide)
    (hs : swapsWith e2 (some (.Subscript (.Name x pos) e pos2)) pos3.line X.env = pure false := by rfl) : PS X (.Assign [.Subscript (.Name x pos) e pos2] e2 pos3) (sOf T W fz O O Ol (sPutT n φ ψ)) := by
  refine psI (ps_dput hu (pe_var hN hv hd hcd) hk he hs) fun M σ H ⟨ρ, H0, owi, ow0, fr, E, s, _, k, kvs, hx, hl, q⟩ => ?_
  have hi : n ∈ O := by simpa using hO
  refine ⟨ρ, ow0, fr, _, _, s.ok, s.er, q, fun d v G qd ok g r => ?_, k.x s⟩
  have sG := s.go ok g
  obtain ⟨a, d0, e1, e2, e3, e4, e5⟩ := sG.er.own n hi (sG.er.lt hx)
  refine ⟨.ref a, e2, ρ, ow0, fr, _, _, sG.ok, sG.er, qd, fun y w J ⟨kk, u, h1, h2, qk⟩ ok2 g2 r2 => ?_, k.x sG⟩
  have sJ := sG.go ok2 g2
  obtain ⟨a', d0', e1', e2', e3', e4', e5'⟩ := sJ.er.own n hi (sJ.er.lt hx)
  rw [e2] at e2'
  cases e2'
  rw [hx] at e1'
  cases e1'
  cases e4' with
  | dit ha hm hf =>
    obtain ⟨q0, rfl, hq⟩ := tKey_rep r2 h1
    obtain ⟨rfl, fv⟩ := flat_rep (r.gr T g2).o h2
    obtain ⟨p1, p2⟩ := T.putD (kvs' := putK kvs kk v) sJ.gr (sJ.new n hi a e2) sJ.ok ha hm
    refine ⟨a, _, rfl, .inr ⟨kvs, kk, q0, ha, rfl, hq, big_sz (Nat.succ_le_of_lt hl), rfl⟩, k.nx _ _ _ _ (sJ.putG (d' := .dit (putK kvs kk v)) hi e2 ha (fun _ z => by cases z) (fun _ _ z => by cases z) (fun _ z => by cases z) p1 p2 rfl (.dit upd_same (memo_put' rfl hm) (put_flat fv hf))) qk⟩
end
/-! ### errors without fields -/
structure Ex0T (K : PySem.W.Frag) (mg : Str → Option Value) (x : Str) : Prop where
  g : mg x = some (.ref (He.ga K x))
  q : PySem.W.excIn K (He.ga K x) [.type "ValueError", .type "Exception", .type "BaseException", .type "object"] "ValueError.__new__" = true
  k : PySem.W.keepIn K (.ref (He.ga K x)) = true
  sub : PySem.W.subIn K (.ref (He.ga K x)) (.type "BaseException") = some true
  ty : PySem.W.typeIn K (.ref (He.ga K x)) = some (.type "type")
def exc0B (K : PySem.W.Frag) (x : Str) : Bool := PySem.W.excIn K (He.ga K x) [.type "ValueError", .type "Exception", .type "BaseException", .type "object"] "ValueError.__new__" && (PySem.W.keepIn K (.ref (He.ga K x)) && (decide (PySem.W.subIn K (.ref (He.ga K x)) (.type "BaseException") = some true) && decide (PySem.W.typeIn K (.ref (He.ga K x)) = some (.type "type"))))
theorem exc0B_ok {K : PySem.W.Frag} {mg : Str → Option Value} {x : Str} (h : exc0B K x = true) (g : mg x = some (.ref (He.ga K x))) : Ex0T K mg x := by
  obtain ⟨h1, h⟩ := Bool.and_eq_true_iff.mp h
  obtain ⟨h2, h⟩ := Bool.and_eq_true_iff.mp h
  obtain ⟨h3, h4⟩ := Bool.and_eq_true_iff.mp h
  exact ⟨g, h1, h2, of_decide_eq_true h3, of_decide_eq_true h4⟩
def sRaise0 (c : Str) : DS := fun E ρ => E.ex ⟨c, []⟩ ρ
section
variable {X : Cx} {T : Th X.K} {W : WX} {fz : Nat} {O On Ol : List Nat} {p pos pos2 : Pos} {x : Str}
theorem pmk_own0 (R : Ex0T X.K X.mg x) (hg : Gl X x) (hdb : (x == ("__debug__" : Str)) = false) : PMk X (.Call (.Name x p) [] [] pos) (fun _ H Q => Q (.ref (He.ga X.K x)) none H) := by
  intro pins s σ H Q I h
  refine wpAny_Call_Name_kw (ld_glob I hg R.g ?_ hdb)
  refine PySem.W.callWith_K0 (first := []) I.kIn R.k ?_
  obtain ⟨bm, N, nm, qn, bs, hdct, sn, sub, ab, col, dd, k0, k1, k2, k3, k5, mN, hC, hN, hni, tl⟩ := exc_obj I.kIn R.q
  refine wpAny_call_exc_subT (rest := []) PySem.F.excBase_ValueError tl hC hN hni (fun h' e hm => ?_) (Nat.zero_le _)
  exact mk_of I hm (raises_own R.sub R.ty) h (I.hok.gone hm.new)
theorem s_raise0 (R : Ex0T X.K X.mg x) (hc : X.calm = true) (tk : Takes X W) (hg : Gl X x := by rfl) (hdb : (x == ("__debug__" : Str)) = false := by decide) :
    PS X (.Raise (some (.Call (.Name x p) [] [] pos)) none pos2) (sOf T W fz O On Ol (sRaise0 x)) :=
  psI (ps_raise hc tk (pmk_own0 R hg hdb)) fun M σ H ⟨ρ, H0, owi, ow0, fr, E, s, _, k, q⟩ => k.x s ⟨x, []⟩ none H q s.ok (T.refl H) rfl
end
/-! ### max of a list of ints; bools compared -/
def maxL : List Int → Int
  | [] => 0
  | [a] => a
  | a :: b :: r => max a (maxL (b :: r))
theorem maxL_mem : ∀ {l : List Int}, l ≠ [] → maxL l ∈ l
  | [a], _ => List.mem_cons_self
  | a :: b :: r, _ => by
    have := maxL_mem (l := b :: r) (by simp)
    rw [maxL, Int.max_def]
    split
    · exact List.mem_cons_of_mem _ this
    · exact List.mem_cons_self
theorem maxL_le : ∀ {l : List Int} {x : Int}, x ∈ l → x ≤ maxL l
  | [a], x, h => by rw [List.mem_singleton.mp h]; exact Int.le_refl _
  | a :: b :: r, x, h => by
    rw [maxL]
    rcases List.mem_cons.mp h with rfl | h
    · exact Int.le_max_left _ _
    · exact Int.le_trans (maxL_le h) (Int.le_max_right _ _)
def D.ints : List D → Option (List Int)
  | [] => some []
  | .int s :: ds => match D.ints ds with | some r => some (s :: r) | none => none
  | _ :: _ => none
theorem ints_of : ∀ {ds : List D} {xs : List Int}, D.ints ds = some xs → ds = xs.map D.int
  | [], xs, h => by cases h; rfl
  | .int s :: ds, xs, h => by
    rw [D.ints] at h
    split at h
    · rename_i r hr
      cases h
      rw [ints_of hr]
      rfl
    · cases h
theorem ints_map : ∀ xs : List Int, D.ints (xs.map D.int) = some xs
  | [] => rfl
  | x :: xs => by rw [List.map_cons, D.ints, ints_map xs]
def dMaxL : List D → Option D
  | [.lst xs] => match D.ints xs with
    | some ns => if ns = [] then none else some (.int (maxL ns))
    | none => none
  | _ => none
theorem cd_maxL {X : Cx} {T : Th X.K} : CallD T (rMax X.K) 0 dMaxL := by
  intro H ow vs ds z Q ok tr r hg k
  unfold dMaxL at hg
  split at hg
  · split at hg
    · rename_i xs ns hn
      split at hg
      · cases hg
      · rename_i ne
        cases hg
        obtain ⟨v, rfl, rv⟩ := pair1 r
        rw [ints_of hn] at rv
        obtain ⟨p, ws, rfl, hp, rp⟩ := o_lst rv
        rw [repL_ints rp] at hp
        refine ⟨p, ns, rfl, .inl (.inl hp), List.length_pos_iff.mpr ne, fun m hm hle => ?_⟩
        rw [Int.le_antisymm (maxL_le hm) (hle _ (maxL_mem ne))]
        exact k _ H ok (T.refl H) (.int _)
    · cases hg
  · cases hg
theorem eq_bl (neg a b : Bool) : dEq neg (.bl a) (.bl b) = some (.bl (neg != decide (a = b))) := by
  cases neg <;> cases a <;> cases b <;> rfl
/-! ### try, clauses with a name or without -/
def catchM (nm : List Str) (em : Str → Str → Bool) : List (Str × Option Nat × (Addr → Addr → DS)) → Exc → DE → Ro → Prop
  | [], x, E, ρ => E.ex x ρ
  | (h, some i, ψ) :: r, x, E, ρ => x.cls ∈ nm ∧ if em x.cls h = true then x.fs ≠ [] ∧ ∀ a dd, ψ a dd (offD E i) (ρ.set i (some (.exc a dd x.cls x.fs))) else catchM nm em r x E ρ
  | (h, none, ψ) :: r, x, E, ρ => x.cls ∈ nm ∧ if em x.cls h = true then ψ 0 0 { E with ex := fun _ _ => False } ρ else catchM nm em r x E ρ
def sTryM (nm : List Str) (em : Str → Str → Bool) (b : DS) (hs : List (Str × Option Nat × (Addr → Addr → DS))) : DS := fun E ρ => b { E with ex := fun x ρ' => catchM nm em hs x E ρ' } ρ
def emEq : Str → Str → Bool := fun x h => decide (x = h)
inductive ClsE (X : Cx) (T : Th X.K) (fz : Nat) (nm : List Str) : List ExceptHandler → List ClM → List (Str × Option Nat × (Addr → Addr → DS)) → Prop
  | nil : ClsE X T fz nm [] [] []
  | cons {x n : Str} {i : Nat} {ψ : Addr → Addr → DS} {b0 : Stmt} {su : List Stmt} {np ps : Pos} {hs : List ExceptHandler} {l : List ClM} {ds : List (Str × Option Nat × (Addr → Addr → DS))} (hm : x ∈ nm)
      (hc : Names X x (.ref (He.ga X.K x))) (hi : X.N[i]? = some n) (hl : X.env.kindOf n = some .local)
      (hsu : ∀ (a : Addr) (oe : Obj) (cl : Value) (d : Option Addr) (pn : List (Addr × Obj)), Zc cl d oe → (∃ vs, oe.data = .fields vs) → PSs (X.suite a ((a, oe) :: pn)) (b0 :: su) (uOf (K := X.K) T fz [] x ψ a cl d)) (r : ClsE X T fz nm hs l ds) :
      ClsE X T fz nm (.ExceptHandler (some (.Name x np)) (some n) (b0 :: su) ps :: hs) ((.ref (He.ga X.K x), some i, fun a cl d => uOf (K := X.K) T fz [] x ψ a cl d) :: l) ((x, some i, ψ) :: ds)
  | bare {x : Str} {ψ : DS} {b0 : Stmt} {su : List Stmt} {np ps : Pos} {hs : List ExceptHandler} {l : List ClM} {ds : List (Str × Option Nat × (Addr → Addr → DS))} (hm : x ∈ nm)
      (hc : Names X x (.ref (He.ga X.K x)))
      (hsu : ∀ (a : Addr) (oe : Obj) (cl : Value) (d : Option Addr) (pn : List (Addr × Obj)), Zc cl d oe → (∃ vs, oe.data = .fields vs) → PSs (X.suite a ((a, oe) :: pn)) (b0 :: su) (sOf (K := X.K) T W0 fz [] [] [] ψ)) (r : ClsE X T fz nm hs l ds) :
      ClsE X T fz nm (.ExceptHandler (some (.Name x np)) none (b0 :: su) ps :: hs) ((.ref (He.ga X.K x), none, fun a cl d => sOf (K := X.K) T W0 fz [] [] [] ψ) :: l) ((x, none, fun _ _ => ψ) :: ds)
section
variable {X : Cx} {T : Th X.K} {W : WX} {fz : Nat}
theorem ClsE.cls {nm : List Str} {hs : List ExceptHandler} {l : List ClM} {ds : List (Str × Option Nat × (Addr → Addr → DS))} (h : ClsE X T fz nm hs l ds) : ClsM X hs l := by
  induction h with
  | nil => exact .nil
  | cons hm hc hi hl hsu r ih => exact .cons hc hi hl hsu ih
  | bare hm hc hsu r ih => exact .bare hc hsu ih
theorem s_tryM {nm : List Str} {body : List Stmt} {h0 : ExceptHandler} {hds : List ExceptHandler} {l : List ClM} {ds : List (Str × Option Nat × (Addr → Addr → DS))} {b : DS} {pos : Pos} (hs : X.stack = X.env :: X.outer) (hf : X.env.frame = some X.env.locals) (hN : X.N.Nodup) (tk : Takes X W) (xm : ExmT X.K nm)
    (hb : ∀ (W : WX) (pn : List (Addr × Obj)) (xe : Value → Shared → Prop), Takes (X.tr pn xe) W → PassesOwn (model X.prog X.w) X.A X.env xe → PSs (X.tr pn xe) body (sOf (K := X.K) T W fz [] [] [] b))
    (hh : ClsE X T fz nm (h0 :: hds) l ds) : PS X (.Try body (h0 :: hds) [] [] pos) (sOf T W fz [] [] [] (sTryM nm emEq b ds)) := by
  refine psI (ps_try_mix (tb := fun W => sOf (K := X.K) T W fz [] [] [] b) hs hf hN tk hb hh.cls) fun M σ H ⟨ρ, H0, owi, ow0, fr, E, s, tr, k, q⟩ => ?_
  refine ⟨ρ, H0, owi, ow0, fr, { E with ex := fun x ρ' => catchM nm emEq ds x E ρ' }, s, tr, ⟨k.nx, k.rt, k.bk, k.ct, fun x d σ1 H1 ρ1 ow1 s1 xr qx => ?_⟩, q⟩
  have all : ∀ {hl : List ExceptHandler} {m : List ClM} {es : List (Str × Option Nat × (Addr → Addr → DS))}, ClsE X T fz nm hl m es → catchM nm emEq es x E ρ1 → wMix X.K W M m (.ref (He.ga X.K x.cls)) d σ1 H1 := by
    intro hl m es hk
    induction hk with
    | nil => intro qx; exact k.ex x d σ1 H1 ρ1 ow1 s1 xr qx
    | @cons y n i ψ b0 su np ps hs l ds hm hc hi hl hsu r ih =>
      intro qx
      obtain ⟨q1, q2⟩ := qx
      refine ⟨_, xm x.cls q1 y hm, fun e a ha => ?_, fun e => ?_⟩
      · rw [if_pos (show emEq x.cls y = true from e)] at q2
        have e := of_decide_eq_true e
        obtain ⟨nf, q2⟩ := q2
        cases d with
        | none => exact absurd xr nf
        | some dd =>
          obtain ⟨fvs, g1, g2⟩ := xr
          refine ⟨dd, rfl, by rw [e], _, H0, owi, ow1, fr, offD E i, s1.set rfl (.exc g1 g2), tr, ⟨fun σ2 H2 ρ2 ow2 s2 q3 => k.nx _ H2 _ ow2 s2.unset q3, k.rt, fun σ2 H2 ρ2 ow2 s2 q3 => k.bk _ H2 _ ow2 s2.unset q3, fun σ2 H2 ρ2 ow2 s2 q3 => k.ct _ H2 _ ow2 s2.unset q3, fun _ _ _ _ _ _ _ _ z => z.elim⟩, q2 a dd⟩
      · rw [if_neg (show ¬ emEq x.cls y = true by show ¬ decide _ = true; rw [e]; decide)] at q2
        exact ih q2
    | @bare y ψ b0 su np ps hs l ds hm hc hsu r ih =>
      intro qx
      obtain ⟨q1, q2⟩ := qx
      refine ⟨_, xm x.cls q1 y hm, fun e a ha => ?_, fun e => ?_⟩
      · rw [if_pos (show emEq x.cls y = true from e)] at q2
        exact ⟨_, H0, owi, ow1, fr, { E with ex := fun _ _ => False }, s1, tr, ⟨k.nx, k.rt, k.bk, k.ct, fun _ _ _ _ _ _ _ _ z => z.elim⟩, q2⟩
      · rw [if_neg (show ¬ emEq x.cls y = true by show ¬ decide _ = true; rw [e]; decide)] at q2
        exact ih q2
  exact all hh qx
end
end Dz
namespace Dz
open PySem PySem.Spec PyProof.Rows L2 Evl Bf
/-! ### a name that is a list or a tuple, walked -/
def iSqV (i : Nat) : DI := fun ρ A _ => ∃ d xs, ρ[i]? = some (some d) ∧ seqOf d = some xs ∧ A xs
section
variable {X : Cx} {T : Th X.K} {W : WX} {O : List Nat} {tg : Expr} {pos : Pos} {i : Nat} {x : Str}
theorem i_seqV (hN : X.N[i]? = some x) (hv : Vis X.env.scope x) (hO : vis O i = true) (hd : (x == ("__debug__" : Str)) = false := by decide) (hcd : (x == ("__classdict__" : Str)) = false := by decide) : PI X tg (.Name x pos) (iOf T W O (iSqV i)) :=
  ⟨fun pins s σ H R I ⟨ρ, ow0, fr, A, Ax, ok, er, ⟨d, xs, h1, h2, q⟩, k, xx⟩ => by
    cases d with
    | lst ys => cases h2; exact (i_list (tg := tg) (T := T) (W := W) (be_var (pos := pos) hN hv hO hd hcd)).run pins s σ H R I ⟨ρ, ow0, fr, A, Ax, ok, er, ⟨_, h1, xs, rfl, q⟩, k, xx⟩
    | tup ys => cases h2; exact (i_tup (tg := tg) (T := T) (W := W) (be_var (pos := pos) hN hv hO hd hcd)).run pins s σ H R I ⟨ρ, ow0, fr, A, Ax, ok, er, ⟨_, h1, xs, rfl, q⟩, k, xx⟩
    | _ => cases h2⟩
end
theorem seq_strs {d : D} {xs : List Str} (h : seqS d xs) : seqOf d = some (xs.map D.str) := by
  rcases h with rfl | rfl <;> rfl
end Dz
namespace Dz
open PySem PySem.Spec PyProof.Rows L2 Evl Bf
/-- what the written part says of Family -/
structure ClsF (K : PySem.W.Frag) (c : Str) (fl : List Str) : Prop where
  cl : Cls K (He.ga K c)
  nF : ∀ f ∈ fl, NoAttr K (He.ga K c) f
def clsFB (K : PySem.W.Frag) (c : Str) (fl : List Str) : Bool := (He.Fa.cls c).ok K && fl.all (fun f => (He.Fa.noat c f).ok K)
theorem clsFB_ok {K : PySem.W.Frag} {c : Str} {fl : List Str} (h : clsFB K c fl = true) : ClsF K c fl := by
  obtain ⟨h1, h2⟩ := Bool.and_eq_true_iff.mp h
  exact ⟨He.cls_ok h1, fun f hf => He.noat_ok (List.all_eq_true.mp h2 f hf)⟩
end Dz
namespace L48
open PySem PySem.Spec PyProof.Rows L2 Evl Bf Dz
def top (i : Nat) : Stmt := PySem.Challenge.pw_bothfree_k48_whole_counts_by_all_lots.main.body.getD i (.Pass ⟨0, 0, 0, 0⟩)
abbrev sIsInt : Stmt := (top 12)
abbrev nIsInt : List Str := ["thing"]
theorem scIsInt : FnScope nIsInt ["thing"] (defScope sIsInt) := ⟨rfl, rfl, rfl, by decide +kernel, rfl, by decide +kernel, by decide +kernel⟩
abbrev sIsName : Stmt := (top 13)
abbrev nIsName : List Str := ["thing", "letter"]
theorem scIsName : FnScope nIsName ["thing"] (defScope sIsName) := ⟨rfl, rfl, rfl, by decide +kernel, rfl, by decide +kernel, by decide +kernel⟩
abbrev sFirstW : Stmt := (top 14)
abbrev nFirstW : List Str := ["items", "known", "seen", "index", "item"]
theorem scFirstW : FnScope nFirstW ["items", "known"] (defScope sFirstW) := ⟨rfl, rfl, rfl, by decide +kernel, rfl, by decide +kernel, by decide +kernel⟩
abbrev sNeed : Stmt := (top 15)
abbrev nNeed : List Str := ["things", "most", "seen", "index", "name"]
theorem scNeed : FnScope nNeed ["things", "most"] (defScope sNeed) := ⟨rfl, rfl, rfl, by decide +kernel, rfl, by decide +kernel, by decide +kernel⟩
abbrev sIsLot : Stmt := (top 17)
abbrev nIsLot : List Str := ["known", "thing", "item"]
theorem scIsLot : FnScope nIsLot ["known", "thing"] (defScope sIsLot) := ⟨rfl, rfl, rfl, by decide +kernel, rfl, by decide +kernel, by decide +kernel⟩
abbrev sIsRoom : Stmt := (top 24)
abbrev nIsRoom : List Str := ["names", "room"]
theorem scIsRoom : FnScope nIsRoom ["names", "room"] (defScope sIsRoom) := ⟨rfl, rfl, rfl, by decide +kernel, rfl, by decide +kernel, by decide +kernel⟩
abbrev sShared : Stmt := (top 25)
abbrev nShared : List Str := ["one", "other", "thing"]
theorem scShared : FnScope nShared ["one", "other"] (defScope sShared) := ⟨rfl, rfl, rfl, by decide +kernel, rfl, by decide +kernel, by decide +kernel⟩
abbrev sAreX : Stmt := (top 26)
abbrev nAreX : List Str := ["one", "other", "many"]
theorem scAreX : FnScope nAreX ["one", "other"] (defScope sAreX) := ⟨rfl, rfl, rfl, by decide +kernel, rfl, by decide +kernel, by decide +kernel⟩
abbrev sState : Stmt := (top 35)
abbrev nState : List Str := ["_law_script"]
theorem scState : FnScope nState ["_law_script"] (defScope sState) := ⟨rfl, rfl, rfl, by decide +kernel, rfl, by decide +kernel, by decide +kernel⟩
abbrev sDraw : Stmt := (top 36)
abbrev nDraw : List Str := ["_law_state_here", "_law_many", "_law_digit", "_law_cell", "_law_number"]
theorem scDraw : FnScope nDraw ["_law_state_here", "_law_many"] (defScope sDraw) := ⟨rfl, rfl, rfl, by decide +kernel, rfl, by decide +kernel, by decide +kernel⟩
abbrev sNames : Stmt := (top 37)
abbrev nNames : List Str := ["_law_state_here", "_law_many", "_law_found", "_law_k", "_law_name"]
theorem scNames : FnScope nNames ["_law_state_here", "_law_many"] (defScope sNames) := ⟨rfl, rfl, rfl, by decide +kernel, rfl, by decide +kernel, by decide +kernel⟩
abbrev sMixed : Stmt := (top 38)
abbrev nMixed : List Str := ["_law_state_here", "_law_items", "_law_rest", "_law_found", "_law_k"]
theorem scMixed : FnScope nMixed ["_law_state_here", "_law_items"] (defScope sMixed) := ⟨rfl, rfl, rfl, by decide +kernel, rfl, by decide +kernel, by decide +kernel⟩
abbrev sLRooms : Stmt := (top 39)
abbrev nLRooms : List Str := ["_law_state_here", "_law_things", "_law_deep", "_law_found", "_law_rest", "_law_size", "_law_lot"]
theorem scLRooms : FnScope nLRooms ["_law_state_here", "_law_things", "_law_deep"] (defScope sLRooms) := ⟨rfl, rfl, rfl, by decide +kernel, rfl, by decide +kernel, by decide +kernel⟩
abbrev sRefused : Stmt := (top 45)
abbrev nRefused : List Str := ["_law_which", "_law_counts", "_law_lot", "_law_found", "e"]
theorem scRefused : FnScope nRefused ["_law_which", "_law_counts", "_law_lot"] (defScope sRefused) := ⟨rfl, rfl, rfl, by decide +kernel, rfl, by decide +kernel, by decide +kernel⟩
abbrev sLaw : Stmt := (top 46)
abbrev nLaw : List Str := ["_law_script", "_law_state_here", "_law_things", "_law_rooms_here", "_law_counts", "_law_family", "_law_ranks", "_law_lot", "_law_many", "_law_over", "_law_full", "_law_mixed_here", "_law_wrong", "_law_room", "_law_number", "_law_thing", "_law_k"]
theorem scLaw : FnScope nLaw ["_law_script"] (defScope sLaw) := ⟨rfl, rfl, rfl, by decide +kernel, rfl, by decide +kernel, by decide +kernel⟩
abbrev sCInit : Stmt := (inClass (top 27) 0)
abbrev nCInit : List Str := ["self", "things", "rooms", "index", "room", "at", "lot", "_", "more", "other"]
theorem scCInit : FnScope nCInit ["self", "things", "rooms"] (defScope sCInit) := ⟨rfl, rfl, rfl, by decide +kernel, rfl, by decide +kernel, by decide +kernel⟩
abbrev sCThings : Stmt := (inClass (top 27) 1)
abbrev nCThings : List Str := ["self"]
theorem scCThings : FnScope nCThings ["self"] (defScope sCThings) := ⟨rfl, rfl, rfl, by decide +kernel, rfl, by decide +kernel, by decide +kernel⟩
abbrev sCRooms : Stmt := (inClass (top 27) 2)
abbrev nCRooms : List Str := ["self", "lot", "number"]
theorem scCRooms : FnScope nCRooms ["self"] (defScope sCRooms) := ⟨rfl, rfl, rfl, by decide +kernel, rfl, by decide +kernel, by decide +kernel⟩
abbrev sCEq : Stmt := (inClass (top 27) 3)
abbrev nCEq : List Str := ["self", "other"]
theorem scCEq : FnScope nCEq ["self", "other"] (defScope sCEq) := ⟨rfl, rfl, rfl, by decide +kernel, rfl, by decide +kernel, by decide +kernel⟩
abbrev sNLot : Stmt := (top 16)
abbrev nNLot : List Str := ["known", "lot", "index"]
theorem scNLot : FnScope nNLot ["known", "lot"] (defScope sNLot) := ⟨rfl, rfl, rfl, by decide +kernel, rfl, by decide +kernel, by decide +kernel⟩
abbrev sFInit : Stmt := (inClass (top 20) 0)
abbrev nFInit : List Str := ["self", "names", "world"]
theorem scFInit : FnScope nFInit ["self", "names", "world"] (defScope sFInit) := ⟨rfl, rfl, rfl, by decide +kernel, rfl, by decide +kernel, by decide +kernel⟩
abbrev sRank1 : Stmt := (inClass (top 20) 1)
abbrev nRank1 : List Str := ["self", "lot"]
theorem scRank1 : FnScope nRank1 ["self", "lot"] (defScope sRank1) := ⟨rfl, rfl, rfl, by decide +kernel, rfl, by decide +kernel, by decide +kernel⟩
abbrev sFThings : Stmt := (inClass (top 20) 2)
abbrev nFThings : List Str := ["self"]
theorem scFThings : FnScope nFThings ["self"] (defScope sFThings) := ⟨rfl, rfl, rfl, by decide +kernel, rfl, by decide +kernel, by decide +kernel⟩
abbrev sFRank : Stmt := (inClass (top 20) 5)
abbrev nFRank : List Str := ["self", "lot"]
theorem scFRank : FnScope nFRank ["self", "lot"] (defScope sFRank) := ⟨rfl, rfl, rfl, by decide +kernel, rfl, by decide +kernel, by decide +kernel⟩
abbrev sFFree : Stmt := (inClass (top 20) 6)
abbrev nFFree : List Str := ["self", "lot"]
theorem scFFree : FnScope nFFree ["self", "lot"] (defScope sFFree) := ⟨rfl, rfl, rfl, by decide +kernel, rfl, by decide +kernel, by decide +kernel⟩
abbrev sCWInit : Stmt := (inClass (top 28) 0)
abbrev nCWInit : List Str := ["self", "counts"]
theorem scCWInit : FnScope nCWInit ["self", "counts"] (defScope sCWInit) := ⟨rfl, rfl, rfl, by decide +kernel, rfl, by decide +kernel, by decide +kernel⟩
abbrev sCWFree : Stmt := (inClass (top 28) 1)
abbrev nCWFree : List Str := ["self", "lot", "found", "thing"]
theorem scCWFree : FnScope nCWFree ["self", "lot"] (defScope sCWFree) := ⟨rfl, rfl, rfl, by decide +kernel, rfl, by decide +kernel, by decide +kernel⟩
abbrev sFOver : Stmt := (top 29)
abbrev nFOver : List Str := ["counts", "lot", "index", "room", "number"]
theorem scFOver : FnScope nFOver ["counts", "lot"] (defScope sFOver) := ⟨rfl, rfl, rfl, by decide +kernel, rfl, by decide +kernel, by decide +kernel⟩
abbrev sCFam : Stmt := (top 30)
abbrev nCFam : List Str := ["counts"]
theorem scCFam : FnScope nCFam ["counts"] (defScope sCFam) := ⟨rfl, rfl, rfl, by decide +kernel, rfl, by decide +kernel, by decide +kernel⟩
abbrev sOvFull : Stmt := (top 31)
abbrev nOvFull : List Str := ["counts", "lot"]
theorem scOvFull : FnScope nOvFull ["counts", "lot"] (defScope sOvFull) := ⟨rfl, rfl, rfl, by decide +kernel, rfl, by decide +kernel, by decide +kernel⟩
abbrev sTRooms : Stmt := (top 32)
abbrev nTRooms : List Str := ["counts", "lot", "held", "index"]
theorem scTRooms : FnScope nTRooms ["counts", "lot"] (defScope sTRooms) := ⟨rfl, rfl, rfl, by decide +kernel, rfl, by decide +kernel, by decide +kernel⟩
abbrev sTight : Stmt := (top 33)
abbrev nTight : List Str := ["counts", "lot", "found"]
theorem scTight : FnScope nTight ["counts", "lot"] (defScope sTight) := ⟨rfl, rfl, rfl, by decide +kernel, rfl, by decide +kernel, by decide +kernel⟩
abbrev sLots : Stmt := (top 44)
abbrev nLots : List Str := ["_law_things", "_law_found", "_law_thing", "_law_lot"]
theorem scLots : FnScope nLots ["_law_things"] (defScope sLots) := ⟨rfl, rfl, rfl, by decide +kernel, rfl, by decide +kernel, by decide +kernel⟩
end L48
namespace L48
open PySem PySem.Spec PyProof.Rows L2 Evl Bf Dz
section
variable {P : Program} {w : World} {K : PySem.W.Frag} {mg : Str → Option Value} {base : Heap} {f : Addr} {fd : FuncData} {k : Nat} {c : Str} {F : DF}
theorem ok_fam0 (FS : FnS K "__init__" "Family.__init__" sFInit f fd) (B : Bl mg) (TF : ClsF K "Family" ["names", "source", "counted"]) : FnOk P w K mg base CX0 1 f fd ["self", "names", "world"] (spFam0 K) := by
  refine okD FS scFInit (fun vs H Q E h => ?_) (fun cdv A outer s H vs Q E hr h => ?_)
  · obtain ⟨y, dy, p, s, ns, rfl, _⟩ := h
    rfl
  · obtain ⟨y, dy, p, s, ns, rfl, hy, py, h⟩ := h
    refine ⟨_, pss_cons (ps_fld (pv 0) (pe_callTy call_tuple_of (by rfl) B.tuple (by decide +kernel) (pa_cons (pv 1) pa_nil)) rfl) (pss_cons (ps_fld (pv 0) (pv 2) rfl) (pss_one (ps_fld (pv 0) pe_dnewT rfl))), ?_⟩
    have nF : ∀ x ∈ (["names", "source", "counted"] : List Str), NoAttr K (He.ga K "Family") x := fun x hx => TF.nF x hx
    rcases h with ⟨hp, q⟩ | ⟨hp, q⟩
    · refine ⟨_, rfl, p, ns, rfl, .inl ⟨.inl (.inl hp), fun t ht => ⟨_, rfl, y, _, dy, [], rfl, ?_, TF.cl, nF _ (by decide), (by decide : 0 < 1000), _, rfl, _, rfl, y, _, dy, _, rfl, upd_same, TF.cl, nF _ (by decide), (by decide : 1 < 1000), fun c hc => ⟨_, rfl, y, _, dy, [("names", .ref t), ("source", .ref s)], rfl, ?_, TF.cl, nF _ (by decide), (by decide : 2 < 1000), ?_⟩⟩⟩⟩
      · rw [upd_ne fun z => by rw [← z, hy] at ht; cases ht]
        exact hy
      · have cy : c ≠ y := fun z => by rw [z, upd_same] at hc; cases hc
        rw [upd_ne cy.symm]
        exact upd_same
      · have cy : c ≠ y := fun z => by rw [z, upd_same] at hc; cases hc
        rw [upd_ne cy, upd_ne cy] at hc
        have ct : c ≠ t := fun z => by rw [z, upd_same] at hc; cases hc
        rw [upd_ne ct] at hc
        rw [upd_shuffle cy]
        exact q t c ht hc ct.symm
    · refine ⟨_, rfl, p, ns, rfl, .inr ⟨.inl (.inl hp), _, rfl, y, _, dy, _, rfl, hy, TF.cl, nF _ (by decide), (by decide : 0 < 1000), _, rfl, _, rfl, y, _, dy, _, rfl, upd_same, TF.cl, nF _ (by decide), (by decide : 1 < 1000), fun c hc => ⟨_, rfl, y, _, dy, [("names", .ref p), ("source", .ref s)], rfl, ?_, TF.cl, nF _ (by decide), (by decide : 2 < 1000), ?_⟩⟩⟩
      · have cy : c ≠ y := fun z => by rw [z, upd_same] at hc; cases hc
        rw [upd_ne cy.symm]
        exact upd_same
      · have cy : c ≠ y := fun z => by rw [z, upd_same] at hc; cases hc
        rw [upd_ne cy, upd_ne cy] at hc
        rw [upd_shuffle cy]
        exact q c hc
theorem okr_RankOf (FS : FnS K "rank_of" "Family.rank_of" sRank1 f fd) (TF : ClsF K "Family" ["names", "source", "counted"]) (M : MtD P w (T1 K) mg base k c "count_free" 2 0 F) :
    FnOk P w K mg base (L2.CX P w) (k + 1) f fd ["self", "lot"] (spOf (T1 K) 0 2 (F_RankOf c F)) := by
  refine okE FS scRank1 (fun vs H Q E h => h.1) fun cdv A outer s H vs Q E hr h tk => ?_
  obtain ⟨hn, ds, ow, A1, Ax, ok, tr, r, ⟨ns, fs, g, lot, rfl, hs, hf, q, qa⟩, k1, k2⟩ := h
  cases r with
  | cons r1 r2 => cases r2 with
    | cons r2 r3 =>
      cases r3
      obtain ⟨a, dx, t, s0, c0, rfl, ha, na, ht, rs⟩ := rep_fam r1
      obtain ⟨q0, rfl, hq⟩ := rep_strs r2
      obtain ⟨fm, fdm, ps, a1, a2, a3⟩ := M.ex
      have hu := hu_of hr
      refine ⟨_, pss_cons (ps_if (L2.pt_cmp (pc_dnotin hu (pv 1) (pe_fld (pv 0) rfl)) rfl)
        (pss_one (ps_dput hu (pe_fld (pv 0) rfl) (pv 1) (pe_mtS (pe_fld (pv 0) rfl) M.cl a1 a2 hr a3 (fun σ => passAt tk σ) (pa_cons (pv 1) pa_nil)) rfl)) pss_nil)
        (pss_one (ps_ret (pe_dget hu (pe_fld (pv 0) rfl) (pv 1) (fun _ _ => rfl)))), ?_⟩
      have nF : ∀ x ∈ (["names", "source", "counted"] : List Str), NoAttr K (He.ga K "Family") x := fun x hx => TF.nF x hx
      obtain ⟨ns', kvs, t1, hl, hc, mm⟩ := ok.ok _ _ _ _ _ _ ha
      rw [ht] at t1
      have e := map_inj (fun x y e => V.str.inj e) _ _ (HO.tup.inj (Option.some.inj t1))
      subst e
      have hqk : H q0 = some (.tup ((lot.map Sum.inr).map kV)) := by rw [key_map]; exact hq
      refine ⟨_, rfl, _, rfl, a, _, dx, _, .ref c0, rfl, ha, TF.cl, nF _ (by decide), rfl, c0, _, rfl, .inr ⟨kvs, lot.map Sum.inr, q0, .inl hc, rfl, hqk, rfl⟩, _, rfl, ?_⟩
      cases cv : valV kvs (lot.map Sum.inr) with
      | some v =>
        have e := memo_val mm cv
        subst e
        exact ⟨_, rfl, a, _, dx, _, .ref c0, rfl, ha, TF.cl, nF _ (by decide), rfl, _, rfl, c0, _, rfl, .inr ⟨kvs, lot.map Sum.inr, q0, .inl hc, rfl, hqk, cv.symm⟩, k1 _ _ H qa ok ((T1 K).refl H) (.int _)⟩
      | none =>
        obtain ⟨sa, sdx, svs, e1, hsa, sl⟩ := ins_cases rs hf
        cases e1
        refine ⟨_, rfl, a, _, dx, _, .ref s0, rfl, ha, TF.cl, nF _ (by decide), rfl, s0, sdx, svs, rfl, hsa, sl, _, rfl, ?_⟩
        refine ⟨rfl, _, ow, _, _, ok, tr, .cons rs (.cons r2 .nil), q, fun d v G e okG gG rv => ?_, fun x d G z => z.elim⟩
        subst e
        rw [rep_int rv]
        have haG := gG.k1 _ _ ha (fun _ z => by cases z)
        have hqG := gG.k1 _ _ hqk (fun _ z => by cases z)
        obtain ⟨ns2, kvs2, t2, hl2, hc2, mm2⟩ := okG.ok _ _ _ _ _ _ haG
        have htG := gG.k1 _ _ ht (fun _ z => by cases z)
        rw [htG] at t2
        have e := map_inj (fun x y e => V.str.inj e) _ _ (HO.tup.inj (Option.some.inj t2))
        subst e
        obtain ⟨o3, g3⟩ := fams_memo okG haG htG hc2 (memo_put2 mm2 hs)
        have ca : c0 ≠ a := fun z => by rw [z, haG] at hc2; cases hc2
        have cq : c0 ≠ q0 := fun z => by rw [z, hqG] at hc2; cases hc2
        refine ⟨_, rfl, a, _, dx, _, .ref c0, rfl, haG, TF.cl, nF _ (by decide), rfl, _, rfl, c0, _, rfl, .inr ⟨kvs2, lot.map Sum.inr, q0, hc2, rfl, hqG, memo_len2 mm2 hl, rfl⟩, ?_⟩
        refine ⟨_, rfl, a, _, dx, _, .ref c0, rfl, by rw [upd_ne ca.symm]; exact haG, TF.cl, nF _ (by decide), rfl, _, rfl, c0, _, rfl, .inr ⟨_, lot.map Sum.inr, q0, .inl upd_same, rfl, by rw [upd_ne cq.symm]; exact hqG, val_put2.symm⟩, ?_⟩
        exact k1 _ _ _ qa o3 ((T1 K).trans gG g3) (.int _)
theorem okr_FInit (FS : FnS K "__init__" "Family.__init__" sFInit f fd) (B : Bl mg) (TF : ClsF K "Family" ["names", "source", "counted"]) : FnOk P w K mg base (L2.CX P w) 1 f fd ["self", "names", "world"] (spFamI K F_FInit) := fn_up (fam_ini rfl (ok_fam0 FS B TF))
end
end L48
/-! Dz: the program's own defs over plain data. -/
namespace Dz
open PySem PySem.Spec PyProof.Rows L2 Evl Bf
/-! ### isinstance, plainly -/
def isTy (n : String) (d : D) : Bool := match tyN d with
  | some t => decide (t = n) || decide (t = "bool" ∧ n = "int")
  | none => false
/-- a value of the built-in kinds -/
def anyD (d : D) : Prop := (tyN d).isSome = true
theorem tyN_mem {d : D} {t : String} (h : tyN d = some t) : t ∈ ["NoneType", "bool", "int", "str", "list", "tuple", "dict"] := by
  cases d <;> cases h <;> decide
theorem isi_of {n : String} {d : D} (h : anyD d) (hn : n ∈ ["int", "bool", "str", "list", "tuple", "dict"]) : dIsi [d, .ty n] = some (.bl (isTy n d)) := by
  have all : ∀ t ∈ ["NoneType", "bool", "int", "str", "list", "tuple", "dict"], ∀ n ∈ ["int", "bool", "str", "list", "tuple", "dict"], kitB t n = some (decide (t = n) || decide (t = "bool" ∧ n = "int")) := by decide +kernel
  unfold anyD at h
  cases e : tyN d with
  | none => rw [e] at h; cases h
  | some t =>
    simp only [dIsi, isTy, e]
    rw [all t (tyN_mem e) n hn]
    rfl
def r_IsInt : DS :=
  (sRet (xAnd (xB dIsi (aCons (xVar 0) (aCons (xC (.ty "int")) aNil))) (xNot (xB dIsi (aCons (xVar 0) (aCons (xC (.ty "bool")) aNil))))))
def isIntD : D → Bool
  | .int _ => true
  | _ => false
def F_IsInt : DF := fun ds A _ => ∃ d, ds = [d] ∧ anyD d ∧ A (.bl (isIntD d))
theorem n_IsInt (ds : List D) (A : D → Prop) (Ax : XQ) (h : F_IsInt ds A Ax) : fnD 0 1 1 r_IsInt ds A Ax := by
  obtain ⟨d, rfl, h, q⟩ := h
  simp only [r_IsInt, fnD, iniD, startD, sNil, sSeq, sIf, sRet, sSet, sSetO, sExpr, sApp, sPut, sClr, sExt, sIns, sRaise, sRaise2, sAsg, sFor, sSetM, sAppM, sFld', xPopAt, xPop, xVar, xC, xOp1, xOp2, xNeg, xAnd, xOr, xNot, xIf, xB, xFn, xTup, xLst, xFld, xDGet, xDIn, xSl, xChain, oNone, oSome, aNil, aCons, tB', tAnd', tOr', tNot', tYesD, gN, gT, gsN, gsC, iLst, iTupD, iRg1, iRg2, iEnm, iTxt, List.map_cons, List.map_nil, List.length_cons, List.length_nil, List.replicate, List.replicate_succ, List.replicate_zero, List.cons_append, List.nil_append, List.set_cons_zero, List.set_cons_succ, List.getElem?_cons_zero, List.getElem?_cons_succ, Option.some.injEq, D.int.injEq, D.str.injEq, D.bl.injEq, D.lst.injEq, D.tup.injEq, D.dic.injEq, D.ins.injEq, exists_eq_left, exists_eq_left', exists_eq_right, exists_eq_right', exists_and_left, and_true, true_and, Nat.reduceAdd, Nat.reduceSub, Nat.reduceLT, Nat.reduceEqDiff, Nat.add_one_sub_one, Nat.sub_zero, if_true, if_false, Bool.false_eq_true, reduceIte, wipeR, List.cons.injEq, Nat.zero_add, reduceCtorEq, false_and, exists_false, Bool.false_bne, Bool.true_bne, len_lst, len_tup, len_scr, in_lst, in_tup, dKey_str, dKey_int, and_assoc, eq_int, dSub, dLt, dLe, dGt, dGe, isNonD, dIs, dMin, dMax, xMeth, xMeth0, xEqO, xXf, sTry, catchD, offD, add_int, dList, dTuple, xFlt, xFltC, xFltX, xFltCX, xX, sAppP, sClrP, sFldP, sPutP, pVar, pIx, pFld, id, xDisp, pairsD, xNames, xMethF, xMeth0F, aStar, xTGet, xTIn, sPutT, sRaise0, sTryM, catchM, emEq, tKey_strs, famNs, Option.isSome_some, iSqV, isi_of h (show "int" ∈ _ by decide), isi_of h (show "bool" ∈ _ by decide)]
  cases d <;> first | exact q | cases h
def r_IsName : DS :=
  (sSeq (sIf (tOr' (tNot' (tB' (xB dIsi (aCons (xVar 0) (aCons (xC (.ty "str")) aNil))))) (tNot' (tB' (xChain dLe dLe (xC (.int 1)) (xB dLen (aCons (xVar 0) aNil)) (xC (.int 8))))))
    (sRet (xC (.bl false)))
    sNil)
    (sRet (xB dAll (aCons (xLc (iTxt (xVar 0)) [1] (gN 1) tYesD (xOp2 (dIn false) (xVar 1) (xC (.str "abcdefghijklmnopqrstuvwxyz")))) aNil))))
def isNmD : D → Bool
  | .str z => isNm z
  | _ => false
/-- a value that may be asked whether it is a name -/
def NmA (d : D) : Prop := anyD d ∧ ∀ z, d = .str z → z.length ≤ 1000
def F_IsName : DF := fun ds A _ => ∃ d, ds = [d] ∧ NmA d ∧ A (.bl (isNmD d))
theorem isTy_str {d : D} (h : ∀ z, d ≠ .str z) (a : anyD d) : isTy "str" d = false := by
  cases d with
  | str z => exact absurd rfl (h z)
  | _ => first | rfl | cases a
theorem bls_of_map {α : Type} (p : α → Bool) (xs : List α) : dAll [.lst (xs.map fun x => D.bl (p x))] = some (.bl (xs.all p)) := by
  have e : (xs.map fun x => D.bl (p x)) = (xs.map p).map D.bl := by rw [List.map_map]; rfl
  unfold dAll
  rw [e]
  simp only [bls_map]
  rw [List.all_map]
  rfl
theorem n_IsName (ds : List D) (A : D → Prop) (Ax : XQ) (h : F_IsName ds A Ax) : fnD 0 2 1 r_IsName ds A Ax := by
  obtain ⟨d, rfl, ⟨h, hl⟩, q⟩ := h
  simp only [r_IsName, fnD, iniD, startD, sNil, sSeq, sIf, sRet, sSet, sSetO, sExpr, sApp, sPut, sClr, sExt, sIns, sRaise, sRaise2, sAsg, sFor, sSetM, sAppM, sFld', xPopAt, xPop, xVar, xC, xOp1, xOp2, xNeg, xAnd, xOr, xNot, xIf, xB, xFn, xTup, xLst, xFld, xDGet, xDIn, xSl, xChain, oNone, oSome, aNil, aCons, tB', tAnd', tOr', tNot', tYesD, gN, gT, gsN, gsC, iLst, iTupD, iRg1, iRg2, iEnm, iTxt, List.map_cons, List.map_nil, List.length_cons, List.length_nil, List.replicate, List.replicate_succ, List.replicate_zero, List.cons_append, List.nil_append, List.set_cons_zero, List.set_cons_succ, List.getElem?_cons_zero, List.getElem?_cons_succ, Option.some.injEq, D.int.injEq, D.str.injEq, D.bl.injEq, D.lst.injEq, D.tup.injEq, D.dic.injEq, D.ins.injEq, exists_eq_left, exists_eq_left', exists_eq_right, exists_eq_right', exists_and_left, and_true, true_and, Nat.reduceAdd, Nat.reduceSub, Nat.reduceLT, Nat.reduceEqDiff, Nat.add_one_sub_one, Nat.sub_zero, if_true, if_false, Bool.false_eq_true, reduceIte, wipeR, List.cons.injEq, Nat.zero_add, reduceCtorEq, false_and, exists_false, Bool.false_bne, Bool.true_bne, len_lst, len_tup, len_scr, in_lst, in_tup, dKey_str, dKey_int, and_assoc, eq_int, dSub, dLt, dLe, dGt, dGe, isNonD, dIs, dMin, dMax, xMeth, xMeth0, xEqO, xXf, sTry, catchD, offD, add_int, dList, dTuple, xFlt, xFltC, xFltX, xFltCX, xX, sAppP, sClrP, sFldP, sPutP, pVar, pIx, pFld, id, xDisp, pairsD, xNames, xMethF, xMeth0F, aStar, xTGet, xTIn, sPutT, sRaise0, sTryM, catchM, emEq, tKey_strs, famNs, Option.isSome_some, iSqV, isi_of h (show "str" ∈ _ by decide)]
  by_cases c : ∃ z, d = .str z
  · obtain ⟨z, rfl⟩ := c
    have hz := hl z rfl
    rw [if_neg (by exact Bool.false_ne_true)]
    refine ⟨.int z.length, len_str hz, _, rfl, ?_⟩
    by_cases c1 : (1 : Int) ≤ z.length
    · rw [if_pos (decide_eq_true c1)]
      refine ⟨_, rfl, _, rfl, ?_⟩
      by_cases c2 : (z.length : Int) ≤ 8
      · rw [if_neg (by rw [decide_eq_true c2]; decide)]
        simp only [xLc, fnD, iniD, startD, sNil, sSeq, sIf, sRet, sSet, sSetO, sExpr, sApp, sPut, sClr, sExt, sIns, sRaise, sRaise2, sAsg, sFor, sSetM, sAppM, sFld', xPopAt, xPop, xVar, xC, xOp1, xOp2, xNeg, xAnd, xOr, xNot, xIf, xB, xFn, xTup, xLst, xFld, xDGet, xDIn, xSl, xChain, oNone, oSome, aNil, aCons, tB', tAnd', tOr', tNot', tYesD, gN, gT, gsN, gsC, iLst, iTupD, iRg1, iRg2, iEnm, iTxt, List.map_cons, List.map_nil, List.length_cons, List.length_nil, List.replicate, List.replicate_succ, List.replicate_zero, List.cons_append, List.nil_append, List.set_cons_zero, List.set_cons_succ, List.getElem?_cons_zero, List.getElem?_cons_succ, Option.some.injEq, D.int.injEq, D.str.injEq, D.bl.injEq, D.lst.injEq, D.tup.injEq, D.dic.injEq, D.ins.injEq, exists_eq_left, exists_eq_left', exists_eq_right, exists_eq_right', exists_and_left, and_true, true_and, Nat.reduceAdd, Nat.reduceSub, Nat.reduceLT, Nat.reduceEqDiff, Nat.add_one_sub_one, Nat.sub_zero, if_true, if_false, Bool.false_eq_true, reduceIte, wipeR, List.cons.injEq, Nat.zero_add, reduceCtorEq, false_and, exists_false, Bool.false_bne, Bool.true_bne, len_lst, len_tup, len_scr, in_lst, in_tup, dKey_str, dKey_int, and_assoc, eq_int, dSub, dLt, dLe, dGt, dGe, isNonD, dIs, dMin, dMax, xMeth, xMeth0, xEqO, xXf, sTry, catchD, offD, add_int, dList, dTuple, xFlt, xFltC, xFltX, xFltCX, xX, sAppP, sClrP, sFldP, sPutP, pVar, pIx, pFld, id, xDisp, pairsD, xNames, xMethF, xMeth0F, aStar, xTGet, xTIn, sPutT, sRaise0, sTryM, catchM, emEq, tKey_strs, famNs, Option.isSome_some, iSqV]
        refine ⟨by rw [List.length_map, Array.length_toList]; show z.length ≤ 100000; omega, ?_⟩
        refine lc_mapT (fun c => D.str ⟨#[c]⟩) (fun c => D.bl (decide (c ∈ abc.cps.toList))) _ (fun c _ K k => ?_) ⟨_, bls_of_map _ _, ?_⟩
        · simp only [fnD, iniD, startD, sNil, sSeq, sIf, sRet, sSet, sSetO, sExpr, sApp, sPut, sClr, sExt, sIns, sRaise, sRaise2, sAsg, sFor, sSetM, sAppM, sFld', xPopAt, xPop, xVar, xC, xOp1, xOp2, xNeg, xAnd, xOr, xNot, xIf, xB, xFn, xTup, xLst, xFld, xDGet, xDIn, xSl, xChain, oNone, oSome, aNil, aCons, tB', tAnd', tOr', tNot', tYesD, gN, gT, gsN, gsC, iLst, iTupD, iRg1, iRg2, iEnm, iTxt, List.map_cons, List.map_nil, List.length_cons, List.length_nil, List.replicate, List.replicate_succ, List.replicate_zero, List.cons_append, List.nil_append, List.set_cons_zero, List.set_cons_succ, List.getElem?_cons_zero, List.getElem?_cons_succ, Option.some.injEq, D.int.injEq, D.str.injEq, D.bl.injEq, D.lst.injEq, D.tup.injEq, D.dic.injEq, D.ins.injEq, exists_eq_left, exists_eq_left', exists_eq_right, exists_eq_right', exists_and_left, and_true, true_and, Nat.reduceAdd, Nat.reduceSub, Nat.reduceLT, Nat.reduceEqDiff, Nat.add_one_sub_one, Nat.sub_zero, if_true, if_false, Bool.false_eq_true, reduceIte, wipeR, List.cons.injEq, Nat.zero_add, reduceCtorEq, false_and, exists_false, Bool.false_bne, Bool.true_bne, len_lst, len_tup, len_scr, in_lst, in_tup, dKey_str, dKey_int, and_assoc, eq_int, dSub, dLt, dLe, dGt, dGe, isNonD, dIs, dMin, dMax, xMeth, xMeth0, xEqO, xXf, sTry, catchD, offD, add_int, dList, dTuple, xFlt, xFltC, xFltX, xFltCX, xX, sAppP, sClrP, sFldP, sPutP, pVar, pIx, pFld, id, xDisp, pairsD, xNames, xMethF, xMeth0F, aStar, xTGet, xTIn, sPutT, sRaise0, sTryM, catchM, emEq, tKey_strs, famNs, Option.isSome_some, iSqV, in_sign]
          exact k
        · have e : isNmD (.str z) = z.cps.toList.all fun c => decide (c ∈ abc.cps.toList) := nm_okV (by omega) (by omega)
          rw [e] at q
          exact q
      · rw [if_pos (by rw [decide_eq_false c2]; decide)]
        have e : isNmD (.str z) = false := nm_long (by omega)
        rw [e] at q
        exact q
    · rw [if_neg (by rw [decide_eq_false c1]; decide), if_pos (by decide)]
      have e : isNmD (.str z) = false := nm_short (by omega)
      rw [e] at q
      exact q
  · have ns : ∀ z, d ≠ .str z := fun z e => c ⟨z, e⟩
    rw [isTy_str ns h, if_pos (by decide)]
    have e : isNmD d = false := by
      cases d with
      | str z => exact absurd rfl (ns z)
      | _ => rfl
    rw [e] at q
    exact q
def r_FirstW : DS :=
  (sSeq (sSetO 2 (xC (.dic [])))
    (sSeq (sFor (iEnm (xVar 0)) (gT 2 (gsC (gN 3) (gsC (gN 4) gsN)))
    (sSeq (sIf (tOr' (tB' (xOp2 (dIn true) (xVar 4) (xVar 1))) (tB' (xDIn false (xVar 4) (xVar 2))))
    (sRet (xVar 3))
    sNil)
    (sPut 2 (xVar 4) (xC (.bl true)))))
    (sRet (xC .non))))
def optI : Option Nat → D
  | none => .non
  | some i => .int i
def F_FirstW : DF := fun ds A _ => ∃ xs kn k, ds = [lstS xs, k] ∧ seqS k kn ∧ xs.length ≤ 1000 ∧ A (optI (fwOf kn xs))
theorem n_FirstW (ds : List D) (A : D → Prop) (Ax : XQ) (h : F_FirstW ds A Ax) : fnD 0 5 2 r_FirstW ds A Ax := by
  obtain ⟨xs, kn, k, rfl, hk, hl, q⟩ := h
  simp only [r_FirstW, fnD, iniD, startD, sNil, sSeq, sIf, sRet, sSet, sSetO, sExpr, sApp, sPut, sClr, sExt, sIns, sRaise, sRaise2, sAsg, sFor, sSetM, sAppM, sFld', xPopAt, xPop, xVar, xC, xOp1, xOp2, xNeg, xAnd, xOr, xNot, xIf, xB, xFn, xTup, xLst, xFld, xDGet, xDIn, xSl, xChain, oNone, oSome, aNil, aCons, tB', tAnd', tOr', tNot', tYesD, gN, gT, gsN, gsC, iLst, iTupD, iRg1, iRg2, iEnm, iTxt, List.map_cons, List.map_nil, List.length_cons, List.length_nil, List.replicate, List.replicate_succ, List.replicate_zero, List.cons_append, List.nil_append, List.set_cons_zero, List.set_cons_succ, List.getElem?_cons_zero, List.getElem?_cons_succ, Option.some.injEq, D.int.injEq, D.str.injEq, D.bl.injEq, D.lst.injEq, D.tup.injEq, D.dic.injEq, D.ins.injEq, exists_eq_left, exists_eq_left', exists_eq_right, exists_eq_right', exists_and_left, and_true, true_and, Nat.reduceAdd, Nat.reduceSub, Nat.reduceLT, Nat.reduceEqDiff, Nat.add_one_sub_one, Nat.sub_zero, if_true, if_false, Bool.false_eq_true, reduceIte, wipeR, List.cons.injEq, Nat.zero_add, reduceCtorEq, false_and, exists_false, Bool.false_bne, Bool.true_bne, len_lst, len_tup, len_scr, in_lst, in_tup, dKey_str, dKey_int, and_assoc, eq_int, dSub, dLt, dLe, dGt, dGe, isNonD, dIs, dMin, dMax, xMeth, xMeth0, xEqO, xXf, sTry, catchD, offD, add_int, dList, dTuple, xFlt, xFltC, xFltX, xFltCX, xX, sAppP, sClrP, sFldP, sPutP, pVar, pIx, pFld, id, xDisp, pairsD, xNames, xMethF, xMeth0F, aStar, xTGet, xTIn, sPutT, sRaise0, sTryM, catchM, emEq, tKey_strs, famNs, Option.isSome_some, iSqV]
  refine for_enum D.str xs (fun i ρ => ∃ a b, ρ = [some (lstS xs), some k, some (.dic (seenD (xs.take i))), a, b] ∧ ∀ j, j < i → badIt kn xs j = false) ⟨_, _, rfl, fun j h => by omega⟩ (fun i x ρ N hx p n => ?_) (fun ρ p => ?_)
  · obtain ⟨a, b, rfl, hb⟩ := p
    have hi : i < xs.length := (List.getElem?_eq_some_iff.mp hx).1
    simp only [fnD, iniD, startD, sNil, sSeq, sIf, sRet, sSet, sSetO, sExpr, sApp, sPut, sClr, sExt, sIns, sRaise, sRaise2, sAsg, sFor, sSetM, sAppM, sFld', xPopAt, xPop, xVar, xC, xOp1, xOp2, xNeg, xAnd, xOr, xNot, xIf, xB, xFn, xTup, xLst, xFld, xDGet, xDIn, xSl, xChain, oNone, oSome, aNil, aCons, tB', tAnd', tOr', tNot', tYesD, gN, gT, gsN, gsC, iLst, iTupD, iRg1, iRg2, iEnm, iTxt, List.map_cons, List.map_nil, List.length_cons, List.length_nil, List.replicate, List.replicate_succ, List.replicate_zero, List.cons_append, List.nil_append, List.set_cons_zero, List.set_cons_succ, List.getElem?_cons_zero, List.getElem?_cons_succ, Option.some.injEq, D.int.injEq, D.str.injEq, D.bl.injEq, D.lst.injEq, D.tup.injEq, D.dic.injEq, D.ins.injEq, exists_eq_left, exists_eq_left', exists_eq_right, exists_eq_right', exists_and_left, and_true, true_and, Nat.reduceAdd, Nat.reduceSub, Nat.reduceLT, Nat.reduceEqDiff, Nat.add_one_sub_one, Nat.sub_zero, if_true, if_false, Bool.false_eq_true, reduceIte, wipeR, List.cons.injEq, Nat.zero_add, reduceCtorEq, false_and, exists_false, Bool.false_bne, Bool.true_bne, len_lst, len_tup, len_scr, in_lst, in_tup, dKey_str, dKey_int, and_assoc, eq_int, dSub, dLt, dLe, dGt, dGe, isNonD, dIs, dMin, dMax, xMeth, xMeth0, xEqO, xXf, sTry, catchD, offD, add_int, dList, dTuple, xFlt, xFltC, xFltX, xFltCX, xX, sAppP, sClrP, sFldP, sPutP, pVar, pIx, pFld, id, xDisp, pairsD, xNames, xMethF, xMeth0F, aStar, xTGet, xTIn, sPutT, sRaise0, sTryM, catchM, emEq, tKey_strs, famNs, Option.isSome_some, iSqV, in_seq hk, seen_get, seen_len]
    have g := getD_of (d := ("" : Str)) hx
    by_cases c1 : x ∈ kn
    · by_cases c2 : x ∈ xs.take i
      · rw [if_neg (by simp [c1]), if_pos (by simp [c2])]
        have e : fwOf kn xs = some i := first_some hi (by unfold badIt; rw [g]; simp [c1, c2]) hb
        rw [e] at q
        exact q
      · rw [if_neg (by simp [c1]), if_neg (by simp [c2])]
        refine ⟨by rw [List.length_take]; show _ < 100000; omega, n _ ⟨_, _, by rw [seen_put c2, take_next hx], fun j hj => ?_⟩⟩
        by_cases cj : j = i
        · subst cj; unfold badIt; rw [g]; simp [c1, c2]
        · exact hb j (by omega)
    · rw [if_pos (by simp [c1])]
      have e : fwOf kn xs = some i := first_some hi (by unfold badIt; rw [g]; simp [c1]) hb
      rw [e] at q
      exact q
  · obtain ⟨a, b, rfl, hb⟩ := p
    simp only [fnD, iniD, startD, sNil, sSeq, sIf, sRet, sSet, sSetO, sExpr, sApp, sPut, sClr, sExt, sIns, sRaise, sRaise2, sAsg, sFor, sSetM, sAppM, sFld', xPopAt, xPop, xVar, xC, xOp1, xOp2, xNeg, xAnd, xOr, xNot, xIf, xB, xFn, xTup, xLst, xFld, xDGet, xDIn, xSl, xChain, oNone, oSome, aNil, aCons, tB', tAnd', tOr', tNot', tYesD, gN, gT, gsN, gsC, iLst, iTupD, iRg1, iRg2, iEnm, iTxt, List.map_cons, List.map_nil, List.length_cons, List.length_nil, List.replicate, List.replicate_succ, List.replicate_zero, List.cons_append, List.nil_append, List.set_cons_zero, List.set_cons_succ, List.getElem?_cons_zero, List.getElem?_cons_succ, Option.some.injEq, D.int.injEq, D.str.injEq, D.bl.injEq, D.lst.injEq, D.tup.injEq, D.dic.injEq, D.ins.injEq, exists_eq_left, exists_eq_left', exists_eq_right, exists_eq_right', exists_and_left, and_true, true_and, Nat.reduceAdd, Nat.reduceSub, Nat.reduceLT, Nat.reduceEqDiff, Nat.add_one_sub_one, Nat.sub_zero, if_true, if_false, Bool.false_eq_true, reduceIte, wipeR, List.cons.injEq, Nat.zero_add, reduceCtorEq, false_and, exists_false, Bool.false_bne, Bool.true_bne, len_lst, len_tup, len_scr, in_lst, in_tup, dKey_str, dKey_int, and_assoc, eq_int, dSub, dLt, dLe, dGt, dGe, isNonD, dIs, dMin, dMax, xMeth, xMeth0, xEqO, xXf, sTry, catchD, offD, add_int, dList, dTuple, xFlt, xFltC, xFltX, xFltCX, xX, sAppP, sClrP, sFldP, sPutP, pVar, pIx, pFld, id, xDisp, pairsD, xNames, xMethF, xMeth0F, aStar, xTGet, xTIn, sPutT, sRaise0, sTryM, catchM, emEq, tKey_strs, famNs, Option.isSome_some, iSqV]
    rw [show fwOf kn xs = none from first_none hb] at q
    exact q
end Dz
/-! Dz: things and rooms over plain data. -/
namespace Dz
open PySem PySem.Spec PyProof.Rows L2 Evl Bf
def r_Need : DS :=
  (sSeq (sIf (tB' (xOp2 dGt (xB dLen (aCons (xVar 0) aNil)) (xVar 1)))
    (sRaise "BadThings" "index" (xNeg (xC (.int 1))))
    sNil)
    (sSeq (sSetO 2 (xC (.dic [])))
    (sSeq (sFor (iEnm (xVar 0)) (gT 2 (gsC (gN 3) (gsC (gN 4) gsN)))
    (sSeq (sIf (tOr' (tNot' (tB' (xFn F_IsName (aCons (xVar 4) aNil)))) (tB' (xDIn false (xVar 4) (xVar 2))))
    (sRaise "BadThings" "index" (xVar 3))
    sNil)
    (sPut 2 (xVar 4) (xC (.bl true)))))
    (sRet (xB dSorted (aCons (xVar 0) aNil))))))
def toS : D → Option Str
  | .str z => some z
  | _ => none
def thErrM (most : Int) (es : List (Option Str)) : Option Int := if (es.length : Int) ≤ most then (firstOf (badTh es) es.length).map (fun i => (i : Int)) else some (-1)
def F_Need : DF := fun ds A Ax => ∃ xs most, ds = [.lst xs, .int most] ∧ (∀ x ∈ xs, NmA x) ∧ xs.length ≤ 60 ∧ match thErrM most (xs.map toS) with
  | some i => Ax ⟨"BadThings", [("index", .int i)]⟩
  | none => A (lstS (srt (txt (xs.map toS))))
theorem isNm_toS {x : D} : isNmD x = nmO (toS x) := by cases x <;> rfl
theorem txt_of : ∀ {xs : List D}, (∀ x ∈ xs, (toS x).isSome = true) → xs = (txt (xs.map toS)).map D.str
  | [], _ => rfl
  | x :: xs, h => by
    have h1 := h x List.mem_cons_self
    have ih := txt_of fun y hy => h y (List.mem_cons_of_mem _ hy)
    cases x with
    | str z =>
      show D.str z :: xs = D.str z :: (txt (xs.map toS)).map D.str
      rw [← ih]
    | _ => cases h1
theorem n_Need (ds : List D) (A : D → Prop) (Ax : XQ) (h : F_Need ds A Ax) : fnD 1 5 2 r_Need ds A Ax := by
  obtain ⟨xs, most, rfl, hx, hl, q⟩ := h
  simp only [r_Need, fnD, iniD, startD, sNil, sSeq, sIf, sRet, sSet, sSetO, sExpr, sApp, sPut, sClr, sExt, sIns, sRaise, sRaise2, sAsg, sFor, sSetM, sAppM, sFld', xPopAt, xPop, xVar, xC, xOp1, xOp2, xNeg, xAnd, xOr, xNot, xIf, xB, xFn, xTup, xLst, xFld, xDGet, xDIn, xSl, xChain, oNone, oSome, aNil, aCons, tB', tAnd', tOr', tNot', tYesD, gN, gT, gsN, gsC, iLst, iTupD, iRg1, iRg2, iEnm, iTxt, List.map_cons, List.map_nil, List.length_cons, List.length_nil, List.replicate, List.replicate_succ, List.replicate_zero, List.cons_append, List.nil_append, List.set_cons_zero, List.set_cons_succ, List.getElem?_cons_zero, List.getElem?_cons_succ, Option.some.injEq, D.int.injEq, D.str.injEq, D.bl.injEq, D.lst.injEq, D.tup.injEq, D.dic.injEq, D.ins.injEq, exists_eq_left, exists_eq_left', exists_eq_right, exists_eq_right', exists_and_left, and_true, true_and, Nat.reduceAdd, Nat.reduceSub, Nat.reduceLT, Nat.reduceEqDiff, Nat.add_one_sub_one, Nat.sub_zero, if_true, if_false, Bool.false_eq_true, reduceIte, wipeR, List.cons.injEq, Nat.zero_add, reduceCtorEq, false_and, exists_false, Bool.false_bne, Bool.true_bne, len_lst, len_tup, len_scr, in_lst, in_tup, dKey_str, dKey_int, and_assoc, eq_int, dSub, dLt, dLe, dGt, dGe, isNonD, dIs, dMin, dMax, xMeth, xMeth0, xEqO, xXf, sTry, catchD, offD, add_int, dList, dTuple, xFlt, xFltC, xFltX, xFltCX, xX, sAppP, sClrP, sFldP, sPutP, pVar, pIx, pFld, id, xDisp, pairsD, xNames, xMethF, xMeth0F, aStar, xTGet, xTIn, sPutT, sRaise0, sTryM, catchM, emEq, tKey_strs, famNs, Option.isSome_some, iSqV]
  have el : (xs.map toS).length = xs.length := List.length_map _
  by_cases c : most < (xs.length : Int)
  · rw [if_pos (decide_eq_true c)]
    have e : thErrM most (xs.map toS) = some (-1) := if_neg (by rw [el]; omega)
    rw [e] at q
    exact q
  · rw [if_neg (by rw [decide_eq_false c]; decide)]
    have e : thErrM most (xs.map toS) = (firstOf (badTh (xs.map toS)) xs.length).map (fun i => (i : Int)) := by
      unfold thErrM
      rw [if_pos (by rw [el]; omega), el]
    rw [e] at q
    have id : xs.map (fun x => x) = xs := List.map_id _
    rw [← id]
    refine for_enum (fun x : D => x) xs (fun i ρ => ∃ a b, ρ = [some (.lst xs), some (.int most), some (.dic (seenD (txt ((xs.map toS).take i)))), a, b] ∧ ∀ j, j < i → badTh (xs.map toS) j = false) ⟨_, _, by rw [id]; rfl, fun j h => by omega⟩ (fun i x ρ N hxi p n => ?_) (fun ρ p => ?_)
    · obtain ⟨a, b, rfl, hb⟩ := p
      have hi : i < xs.length := (List.getElem?_eq_some_iff.mp hxi).1
      have hm : x ∈ xs := List.mem_of_getElem? hxi
      have hS : (xs.map toS)[i]? = some (toS x) := by rw [List.getElem?_map, hxi]; rfl
      have g : (xs.map toS).getD i none = toS x := getD_of hS
      simp only [fnD, iniD, startD, sNil, sSeq, sIf, sRet, sSet, sSetO, sExpr, sApp, sPut, sClr, sExt, sIns, sRaise, sRaise2, sAsg, sFor, sSetM, sAppM, sFld', xPopAt, xPop, xVar, xC, xOp1, xOp2, xNeg, xAnd, xOr, xNot, xIf, xB, xFn, xTup, xLst, xFld, xDGet, xDIn, xSl, xChain, oNone, oSome, aNil, aCons, tB', tAnd', tOr', tNot', tYesD, gN, gT, gsN, gsC, iLst, iTupD, iRg1, iRg2, iEnm, iTxt, List.map_cons, List.map_nil, List.length_cons, List.length_nil, List.replicate, List.replicate_succ, List.replicate_zero, List.cons_append, List.nil_append, List.set_cons_zero, List.set_cons_succ, List.getElem?_cons_zero, List.getElem?_cons_succ, Option.some.injEq, D.int.injEq, D.str.injEq, D.bl.injEq, D.lst.injEq, D.tup.injEq, D.dic.injEq, D.ins.injEq, exists_eq_left, exists_eq_left', exists_eq_right, exists_eq_right', exists_and_left, and_true, true_and, Nat.reduceAdd, Nat.reduceSub, Nat.reduceLT, Nat.reduceEqDiff, Nat.add_one_sub_one, Nat.sub_zero, if_true, if_false, Bool.false_eq_true, reduceIte, wipeR, List.cons.injEq, Nat.zero_add, reduceCtorEq, false_and, exists_false, Bool.false_bne, Bool.true_bne, len_lst, len_tup, len_scr, in_lst, in_tup, dKey_str, dKey_int, and_assoc, eq_int, dSub, dLt, dLe, dGt, dGe, isNonD, dIs, dMin, dMax, xMeth, xMeth0, xEqO, xXf, sTry, catchD, offD, add_int, dList, dTuple, xFlt, xFltC, xFltX, xFltCX, xX, sAppP, sClrP, sFldP, sPutP, pVar, pIx, pFld, id, xDisp, pairsD, xNames, xMethF, xMeth0F, aStar, xTGet, xTIn, sPutT, sRaise0, sTryM, catchM, emEq, tKey_strs, famNs, Option.isSome_some, iSqV, F_IsName, isNm_toS]
      refine ⟨hx x hm, ?_⟩
      have bad : badTh (xs.map toS) i = true → Ax ⟨"BadThings", [("index", .int (i : Nat))]⟩ := fun hbad => by
        have e : firstOf (badTh (xs.map toS)) xs.length = some i := first_some hi hbad hb
        rw [e] at q
        exact q
      cases ex : toS x with
      | none =>
        rw [if_pos (by rfl)]
        exact bad (by unfold badTh; rw [g, ex]; rfl)
      | some z =>
        have xz : x = .str z := by cases x <;> cases ex; rfl
        subst xz
        by_cases c1 : isNm z = true
        · rw [if_neg (by show ¬ (!isNm z) = true; rw [c1]; decide)]
          refine ⟨_, rfl, ?_⟩
          rw [seen_get]
          by_cases c2 : z ∈ txt ((xs.map toS).take i)
          · rw [if_pos (decide_eq_true c2)]
            exact bad (by unfold badTh; rw [g]; show (!isNm z || decide (z ∈ _)) = true; rw [decide_eq_true c2, Bool.or_true])
          · rw [if_neg (by rw [decide_eq_false c2]; decide)]
            refine ⟨by rw [seen_len, txt_len, List.length_take]; show _ < 100000; omega, _, rfl, n _ ⟨_, _, by rw [seen_put c2, take_next hS]; unfold txt; rw [List.map_append]; rfl, fun j hj => ?_⟩⟩
            by_cases cj : j = i
            · subst cj; unfold badTh; rw [g]; show (!isNm z || decide (z ∈ _)) = false; rw [c1, decide_eq_false c2]; rfl
            · exact hb j (by omega)
        · rw [if_pos (by show (!isNm z) = true; simpa using c1)]
          exact bad (by unfold badTh; rw [g]; show (!isNm z || decide (z ∈ _)) = true; simp [c1])
    · obtain ⟨a, b, rfl, hb⟩ := p
      have e2 : firstOf (badTh (xs.map toS)) xs.length = none := first_none hb
      rw [e2] at q
      have al : ∀ x ∈ xs, (toS x).isSome = true := fun x hx => by
        obtain ⟨i, hi, rfl⟩ := List.mem_iff_getElem.mp hx
        have := hb i hi
        unfold badTh at this
        rw [getD_of (show (xs.map toS)[i]? = some (toS xs[i]) by rw [List.getElem?_map, List.getElem?_eq_getElem hi]; rfl)] at this
        cases e3 : toS xs[i] with
        | none => rw [e3] at this; cases this
        | some z => rfl
      simp only [fnD, iniD, startD, sNil, sSeq, sIf, sRet, sSet, sSetO, sExpr, sApp, sPut, sClr, sExt, sIns, sRaise, sRaise2, sAsg, sFor, sSetM, sAppM, sFld', xPopAt, xPop, xVar, xC, xOp1, xOp2, xNeg, xAnd, xOr, xNot, xIf, xB, xFn, xTup, xLst, xFld, xDGet, xDIn, xSl, xChain, oNone, oSome, aNil, aCons, tB', tAnd', tOr', tNot', tYesD, gN, gT, gsN, gsC, iLst, iTupD, iRg1, iRg2, iEnm, iTxt, List.map_cons, List.map_nil, List.length_cons, List.length_nil, List.replicate, List.replicate_succ, List.replicate_zero, List.cons_append, List.nil_append, List.set_cons_zero, List.set_cons_succ, List.getElem?_cons_zero, List.getElem?_cons_succ, Option.some.injEq, D.int.injEq, D.str.injEq, D.bl.injEq, D.lst.injEq, D.tup.injEq, D.dic.injEq, D.ins.injEq, exists_eq_left, exists_eq_left', exists_eq_right, exists_eq_right', exists_and_left, and_true, true_and, Nat.reduceAdd, Nat.reduceSub, Nat.reduceLT, Nat.reduceEqDiff, Nat.add_one_sub_one, Nat.sub_zero, if_true, if_false, Bool.false_eq_true, reduceIte, wipeR, List.cons.injEq, Nat.zero_add, reduceCtorEq, false_and, exists_false, Bool.false_bne, Bool.true_bne, len_lst, len_tup, len_scr, in_lst, in_tup, dKey_str, dKey_int, and_assoc, eq_int, dSub, dLt, dLe, dGt, dGe, isNonD, dIs, dMin, dMax, xMeth, xMeth0, xEqO, xXf, sTry, catchD, offD, add_int, dList, dTuple, xFlt, xFltC, xFltX, xFltCX, xX, sAppP, sClrP, sFldP, sPutP, pVar, pIx, pFld, id, xDisp, pairsD, xNames, xMethF, xMeth0F, aStar, xTGet, xTIn, sPutT, sRaise0, sTryM, catchM, emEq, tKey_strs, famNs, Option.isSome_some, iSqV]
      refine ⟨_, ?_, q⟩
      have e4 := txt_of al
      rw [e4, sorted_lst (by rw [txt_len, List.length_map]; omega), ← e4]
def r_IsLot : DS :=
  (sSeq (sIf (tOr' (tNot' (tB' (xB dIsi (aCons (xVar 1) (aCons (xC (.ty "list")) aNil))))) (tNot' (tB' (xB dAll (aCons (xLc (iLst (xVar 1)) [2] (gN 2) tYesD (xB dIsi (aCons (xVar 2) (aCons (xC (.ty "str")) aNil)))) aNil)))))
    (sRet (xC (.bl false)))
    sNil)
    (sRet (xOp2 (dIs false) (xFn F_FirstW (aCons (xVar 1) (aCons (xVar 0) aNil))) (xC .non))))
def LotA (d : D) : Prop := anyD d ∧ ∀ xs, d = .lst xs → xs.length ≤ 1000 ∧ ∀ x ∈ xs, anyD x
def lotOkD (kn : List Str) : D → Bool
  | .lst ds => ds.all (fun x => (toS x).isSome) && (fwOf kn (txt (ds.map toS))).isNone
  | _ => false
def F_IsLot : DF := fun ds A _ => ∃ k kn d, ds = [k, d] ∧ seqS k kn ∧ LotA d ∧ A (.bl (lotOkD kn d))
theorem isTy_toS {x : D} (h : anyD x) : isTy "str" x = (toS x).isSome := by
  cases x <;> first | rfl | cases h
theorem n_IsLot (ds : List D) (A : D → Prop) (Ax : XQ) (h : F_IsLot ds A Ax) : fnD 0 3 2 r_IsLot ds A Ax := by
  obtain ⟨k, kn, d, rfl, hk, ⟨h, hl⟩, q⟩ := h
  simp only [r_IsLot, fnD, iniD, startD, sNil, sSeq, sIf, sRet, sSet, sSetO, sExpr, sApp, sPut, sClr, sExt, sIns, sRaise, sRaise2, sAsg, sFor, sSetM, sAppM, sFld', xPopAt, xPop, xVar, xC, xOp1, xOp2, xNeg, xAnd, xOr, xNot, xIf, xB, xFn, xTup, xLst, xFld, xDGet, xDIn, xSl, xChain, oNone, oSome, aNil, aCons, tB', tAnd', tOr', tNot', tYesD, gN, gT, gsN, gsC, iLst, iTupD, iRg1, iRg2, iEnm, iTxt, List.map_cons, List.map_nil, List.length_cons, List.length_nil, List.replicate, List.replicate_succ, List.replicate_zero, List.cons_append, List.nil_append, List.set_cons_zero, List.set_cons_succ, List.getElem?_cons_zero, List.getElem?_cons_succ, Option.some.injEq, D.int.injEq, D.str.injEq, D.bl.injEq, D.lst.injEq, D.tup.injEq, D.dic.injEq, D.ins.injEq, exists_eq_left, exists_eq_left', exists_eq_right, exists_eq_right', exists_and_left, and_true, true_and, Nat.reduceAdd, Nat.reduceSub, Nat.reduceLT, Nat.reduceEqDiff, Nat.add_one_sub_one, Nat.sub_zero, if_true, if_false, Bool.false_eq_true, reduceIte, wipeR, List.cons.injEq, Nat.zero_add, reduceCtorEq, false_and, exists_false, Bool.false_bne, Bool.true_bne, len_lst, len_tup, len_scr, in_lst, in_tup, dKey_str, dKey_int, and_assoc, eq_int, dSub, dLt, dLe, dGt, dGe, isNonD, dIs, dMin, dMax, xMeth, xMeth0, xEqO, xXf, sTry, catchD, offD, add_int, dList, dTuple, xFlt, xFltC, xFltX, xFltCX, xX, sAppP, sClrP, sFldP, sPutP, pVar, pIx, pFld, id, xDisp, pairsD, xNames, xMethF, xMeth0F, aStar, xTGet, xTIn, sPutT, sRaise0, sTryM, catchM, emEq, tKey_strs, famNs, Option.isSome_some, iSqV, isi_of h (show "list" ∈ _ by decide)]
  by_cases c : ∃ xs, d = .lst xs
  · obtain ⟨xs, rfl⟩ := c
    obtain ⟨l1, l2⟩ := hl xs rfl
    rw [if_neg (by exact Bool.false_ne_true)]
    simp only [xLc, fnD, iniD, startD, sNil, sSeq, sIf, sRet, sSet, sSetO, sExpr, sApp, sPut, sClr, sExt, sIns, sRaise, sRaise2, sAsg, sFor, sSetM, sAppM, sFld', xPopAt, xPop, xVar, xC, xOp1, xOp2, xNeg, xAnd, xOr, xNot, xIf, xB, xFn, xTup, xLst, xFld, xDGet, xDIn, xSl, xChain, oNone, oSome, aNil, aCons, tB', tAnd', tOr', tNot', tYesD, gN, gT, gsN, gsC, iLst, iTupD, iRg1, iRg2, iEnm, iTxt, List.map_cons, List.map_nil, List.length_cons, List.length_nil, List.replicate, List.replicate_succ, List.replicate_zero, List.cons_append, List.nil_append, List.set_cons_zero, List.set_cons_succ, List.getElem?_cons_zero, List.getElem?_cons_succ, Option.some.injEq, D.int.injEq, D.str.injEq, D.bl.injEq, D.lst.injEq, D.tup.injEq, D.dic.injEq, D.ins.injEq, exists_eq_left, exists_eq_left', exists_eq_right, exists_eq_right', exists_and_left, and_true, true_and, Nat.reduceAdd, Nat.reduceSub, Nat.reduceLT, Nat.reduceEqDiff, Nat.add_one_sub_one, Nat.sub_zero, if_true, if_false, Bool.false_eq_true, reduceIte, wipeR, List.cons.injEq, Nat.zero_add, reduceCtorEq, false_and, exists_false, Bool.false_bne, Bool.true_bne, len_lst, len_tup, len_scr, in_lst, in_tup, dKey_str, dKey_int, and_assoc, eq_int, dSub, dLt, dLe, dGt, dGe, isNonD, dIs, dMin, dMax, xMeth, xMeth0, xEqO, xXf, sTry, catchD, offD, add_int, dList, dTuple, xFlt, xFltC, xFltX, xFltCX, xX, sAppP, sClrP, sFldP, sPutP, pVar, pIx, pFld, id, xDisp, pairsD, xNames, xMethF, xMeth0F, aStar, xTGet, xTIn, sPutT, sRaise0, sTryM, catchM, emEq, tKey_strs, famNs, Option.isSome_some, iSqV]
    refine ⟨by show xs.length ≤ 100000; omega, ?_⟩
    refine lc_map (fun x => D.bl (toS x).isSome) xs (fun x hx K k => ?_) ⟨_, bls_of_map _ _, ?_⟩
    · simp only [fnD, iniD, startD, sNil, sSeq, sIf, sRet, sSet, sSetO, sExpr, sApp, sPut, sClr, sExt, sIns, sRaise, sRaise2, sAsg, sFor, sSetM, sAppM, sFld', xPopAt, xPop, xVar, xC, xOp1, xOp2, xNeg, xAnd, xOr, xNot, xIf, xB, xFn, xTup, xLst, xFld, xDGet, xDIn, xSl, xChain, oNone, oSome, aNil, aCons, tB', tAnd', tOr', tNot', tYesD, gN, gT, gsN, gsC, iLst, iTupD, iRg1, iRg2, iEnm, iTxt, List.map_cons, List.map_nil, List.length_cons, List.length_nil, List.replicate, List.replicate_succ, List.replicate_zero, List.cons_append, List.nil_append, List.set_cons_zero, List.set_cons_succ, List.getElem?_cons_zero, List.getElem?_cons_succ, Option.some.injEq, D.int.injEq, D.str.injEq, D.bl.injEq, D.lst.injEq, D.tup.injEq, D.dic.injEq, D.ins.injEq, exists_eq_left, exists_eq_left', exists_eq_right, exists_eq_right', exists_and_left, and_true, true_and, Nat.reduceAdd, Nat.reduceSub, Nat.reduceLT, Nat.reduceEqDiff, Nat.add_one_sub_one, Nat.sub_zero, if_true, if_false, Bool.false_eq_true, reduceIte, wipeR, List.cons.injEq, Nat.zero_add, reduceCtorEq, false_and, exists_false, Bool.false_bne, Bool.true_bne, len_lst, len_tup, len_scr, in_lst, in_tup, dKey_str, dKey_int, and_assoc, eq_int, dSub, dLt, dLe, dGt, dGe, isNonD, dIs, dMin, dMax, xMeth, xMeth0, xEqO, xXf, sTry, catchD, offD, add_int, dList, dTuple, xFlt, xFltC, xFltX, xFltCX, xX, sAppP, sClrP, sFldP, sPutP, pVar, pIx, pFld, id, xDisp, pairsD, xNames, xMethF, xMeth0F, aStar, xTGet, xTIn, sPutT, sRaise0, sTryM, catchM, emEq, tKey_strs, famNs, Option.isSome_some, iSqV, isi_of (l2 x hx) (show "str" ∈ _ by decide), isTy_toS (l2 x hx)]
      exact k
    · refine ⟨_, rfl, ?_⟩
      by_cases c2 : xs.all (fun x => (toS x).isSome) = true
      · have e0 : xs = (txt (xs.map toS)).map D.str := txt_of fun x hx => List.all_eq_true.mp c2 x hx
        rw [if_neg (by rw [c2]; decide)]
        refine ⟨txt (xs.map toS), kn, k, by show _ = [D.lst ((txt (xs.map toS)).map D.str), k]; rw [← e0], hk, by rw [txt_len, List.length_map]; omega, ?_⟩
        have e : lotOkD kn (.lst xs) = isNonD (optI (fwOf kn (txt (xs.map toS)))) := by
          show (xs.all (fun x => (toS x).isSome) && _) = _
          rw [c2]
          cases fwOf kn (txt (xs.map toS)) <;> rfl
        rw [e] at q
        exact q
      · rw [if_pos (by simpa using c2)]
        have e : lotOkD kn (.lst xs) = false := by
          show (xs.all (fun x => (toS x).isSome) && _) = _
          rw [show xs.all (fun x => (toS x).isSome) = false by simpa using c2]
          rfl
        rw [e] at q
        exact q
  · have e1 : isTy "list" d = false := by
      cases d with
      | lst xs => exact absurd ⟨xs, rfl⟩ c
      | _ => first | rfl | cases h
    rw [e1, if_pos (by rfl)]
    have e : lotOkD kn d = false := by
      cases d with
      | lst xs => exact absurd ⟨xs, rfl⟩ c
      | _ => rfl
    rw [e] at q
    exact q
def r_IsRoom : DS :=
  (sSeq (sIf (tOr' (tNot' (tB' (xB dIsi (aCons (xVar 1) (aCons (xC (.ty "tuple")) aNil))))) (tOr' (tB' (xOp2 (dEq true) (xB dLen (aCons (xVar 1) aNil)) (xC (.int 2)))) (tNot' (tB' (xFn F_IsLot (aCons (xVar 0) (aCons (xOp2 dIx (xVar 1) (xC (.int 0))) aNil)))))))
    (sRet (xC (.bl false)))
    sNil)
    (sRet (xAnd (xFn F_IsInt (aCons (xOp2 dIx (xVar 1) (xC (.int 1))) aNil)) (xOp2 dGe (xOp2 dIx (xVar 1) (xC (.int 1))) (xC (.int 0))))))
def RoomA (d : D) : Prop := anyD d ∧ ∀ l n, d = .tup [l, n] → LotA l ∧ anyD n
def roomOkD (kn : List Str) : D → Bool
  | .tup [l, .int n] => lotOkD kn l && decide (0 ≤ n)
  | _ => false
def F_IsRoom : DF := fun ds A _ => ∃ k kn d, ds = [k, d] ∧ seqS k kn ∧ RoomA d ∧ A (.bl (roomOkD kn d))
theorem n_IsRoom (ds : List D) (A : D → Prop) (Ax : XQ) (h : F_IsRoom ds A Ax) : fnD 0 2 2 r_IsRoom ds A Ax := by
  obtain ⟨k, kn, d, rfl, hk, ⟨h, hl⟩, q⟩ := h
  simp only [r_IsRoom, fnD, iniD, startD, sNil, sSeq, sIf, sRet, sSet, sSetO, sExpr, sApp, sPut, sClr, sExt, sIns, sRaise, sRaise2, sAsg, sFor, sSetM, sAppM, sFld', xPopAt, xPop, xVar, xC, xOp1, xOp2, xNeg, xAnd, xOr, xNot, xIf, xB, xFn, xTup, xLst, xFld, xDGet, xDIn, xSl, xChain, oNone, oSome, aNil, aCons, tB', tAnd', tOr', tNot', tYesD, gN, gT, gsN, gsC, iLst, iTupD, iRg1, iRg2, iEnm, iTxt, List.map_cons, List.map_nil, List.length_cons, List.length_nil, List.replicate, List.replicate_succ, List.replicate_zero, List.cons_append, List.nil_append, List.set_cons_zero, List.set_cons_succ, List.getElem?_cons_zero, List.getElem?_cons_succ, Option.some.injEq, D.int.injEq, D.str.injEq, D.bl.injEq, D.lst.injEq, D.tup.injEq, D.dic.injEq, D.ins.injEq, exists_eq_left, exists_eq_left', exists_eq_right, exists_eq_right', exists_and_left, and_true, true_and, Nat.reduceAdd, Nat.reduceSub, Nat.reduceLT, Nat.reduceEqDiff, Nat.add_one_sub_one, Nat.sub_zero, if_true, if_false, Bool.false_eq_true, reduceIte, wipeR, List.cons.injEq, Nat.zero_add, reduceCtorEq, false_and, exists_false, Bool.false_bne, Bool.true_bne, len_lst, len_tup, len_scr, in_lst, in_tup, dKey_str, dKey_int, and_assoc, eq_int, dSub, dLt, dLe, dGt, dGe, isNonD, dIs, dMin, dMax, xMeth, xMeth0, xEqO, xXf, sTry, catchD, offD, add_int, dList, dTuple, xFlt, xFltC, xFltX, xFltCX, xX, sAppP, sClrP, sFldP, sPutP, pVar, pIx, pFld, id, xDisp, pairsD, xNames, xMethF, xMeth0F, aStar, xTGet, xTIn, sPutT, sRaise0, sTryM, catchM, emEq, tKey_strs, famNs, Option.isSome_some, iSqV, isi_of h (show "tuple" ∈ _ by decide)]
  by_cases c : ∃ xs, d = .tup xs
  · obtain ⟨xs, rfl⟩ := c
    rw [if_neg (by exact Bool.false_ne_true)]
    simp only [fnD, iniD, startD, sNil, sSeq, sIf, sRet, sSet, sSetO, sExpr, sApp, sPut, sClr, sExt, sIns, sRaise, sRaise2, sAsg, sFor, sSetM, sAppM, sFld', xPopAt, xPop, xVar, xC, xOp1, xOp2, xNeg, xAnd, xOr, xNot, xIf, xB, xFn, xTup, xLst, xFld, xDGet, xDIn, xSl, xChain, oNone, oSome, aNil, aCons, tB', tAnd', tOr', tNot', tYesD, gN, gT, gsN, gsC, iLst, iTupD, iRg1, iRg2, iEnm, iTxt, List.map_cons, List.map_nil, List.length_cons, List.length_nil, List.replicate, List.replicate_succ, List.replicate_zero, List.cons_append, List.nil_append, List.set_cons_zero, List.set_cons_succ, List.getElem?_cons_zero, List.getElem?_cons_succ, Option.some.injEq, D.int.injEq, D.str.injEq, D.bl.injEq, D.lst.injEq, D.tup.injEq, D.dic.injEq, D.ins.injEq, exists_eq_left, exists_eq_left', exists_eq_right, exists_eq_right', exists_and_left, and_true, true_and, Nat.reduceAdd, Nat.reduceSub, Nat.reduceLT, Nat.reduceEqDiff, Nat.add_one_sub_one, Nat.sub_zero, if_true, if_false, Bool.false_eq_true, reduceIte, wipeR, List.cons.injEq, Nat.zero_add, reduceCtorEq, false_and, exists_false, Bool.false_bne, Bool.true_bne, len_lst, len_tup, len_scr, in_lst, in_tup, dKey_str, dKey_int, and_assoc, eq_int, dSub, dLt, dLe, dGt, dGe, isNonD, dIs, dMin, dMax, xMeth, xMeth0, xEqO, xXf, sTry, catchD, offD, add_int, dList, dTuple, xFlt, xFltC, xFltX, xFltCX, xX, sAppP, sClrP, sFldP, sPutP, pVar, pIx, pFld, id, xDisp, pairsD, xNames, xMethF, xMeth0F, aStar, xTGet, xTIn, sPutT, sRaise0, sTryM, catchM, emEq, tKey_strs, famNs, Option.isSome_some, iSqV]
    by_cases c2 : xs.length = 2
    · obtain ⟨l, n, rfl⟩ : ∃ l n, xs = [l, n] := by
        match xs, c2 with
        | [l, n], _ => exact ⟨l, n, rfl⟩
      obtain ⟨a1, a2⟩ := hl l n rfl
      rw [if_neg (by rw [c2]; decide)]
      refine ⟨l, rfl, k, kn, l, rfl, hk, a1, ?_⟩
      refine ⟨_, rfl, ?_⟩
      by_cases c3 : lotOkD kn l = true
      · rw [if_neg (by rw [c3]; decide)]
        refine ⟨n, rfl, n, rfl, a2, _, rfl, ?_⟩
        cases n with
        | int i =>
          rw [if_pos (show isIntD (D.int i) = true from rfl)]
          refine ⟨_, rfl, _, rfl, ?_⟩
          have e : roomOkD kn (.tup [l, .int i]) = decide (0 ≤ i) := by
            show (lotOkD kn l && decide (0 ≤ i)) = _
            rw [c3]; rfl
          rw [e] at q
          exact q
        | _ => rw [if_neg (by exact Bool.false_ne_true)]; exact q
      · rw [if_pos (by simpa using c3)]
        have e : roomOkD kn (.tup [l, n]) = false := by
          cases n with
          | int i =>
            show (lotOkD kn l && decide (0 ≤ i)) = _
            rw [show lotOkD kn l = false by simpa using c3]; rfl
          | _ => rfl
        rw [e] at q
        exact q
    · rw [if_pos (by rw [decide_eq_false (fun z => c2 (by omega))]; rfl)]
      have e : roomOkD kn (.tup xs) = false := by
        match xs, c2 with
        | [], _ => rfl
        | [_], _ => rfl
        | [_, _], h => exact absurd rfl h
        | _ :: b :: _ :: _, _ => cases b <;> rfl
      rw [e] at q
      exact q
  · have e1 : isTy "tuple" d = false := by
      cases d with
      | tup xs => exact absurd ⟨xs, rfl⟩ c
      | _ => first | rfl | cases h
    rw [e1, if_pos (by rfl)]
    have e : roomOkD kn d = false := by
      cases d with
      | tup xs => exact absurd ⟨xs, rfl⟩ c
      | _ => rfl
    rw [e] at q
    exact q
def r_Shared : DS :=
  (sRet (xLc (iSqV 0) [2] (gN 2) (tB' (xOp2 (dIn false) (xVar 2) (xVar 1))) (xVar 2)))
def F_Shared : DF := fun ds A _ => ∃ x xs k ys, ds = [x, k] ∧ seqS x xs ∧ seqS k ys ∧ xs.length ≤ 1000 ∧ A (lstS (shareL xs ys))
theorem n_Shared (ds : List D) (A : D → Prop) (Ax : XQ) (h : F_Shared ds A Ax) : fnD 1 3 2 r_Shared ds A Ax := by
  obtain ⟨x, xs, k, ys, rfl, hx, hk, hl, q⟩ := h
  simp only [r_Shared, xLc, fnD, iniD, startD, sNil, sSeq, sIf, sRet, sSet, sSetO, sExpr, sApp, sPut, sClr, sExt, sIns, sRaise, sRaise2, sAsg, sFor, sSetM, sAppM, sFld', xPopAt, xPop, xVar, xC, xOp1, xOp2, xNeg, xAnd, xOr, xNot, xIf, xB, xFn, xTup, xLst, xFld, xDGet, xDIn, xSl, xChain, oNone, oSome, aNil, aCons, tB', tAnd', tOr', tNot', tYesD, gN, gT, gsN, gsC, iLst, iTupD, iRg1, iRg2, iEnm, iTxt, List.map_cons, List.map_nil, List.length_cons, List.length_nil, List.replicate, List.replicate_succ, List.replicate_zero, List.cons_append, List.nil_append, List.set_cons_zero, List.set_cons_succ, List.getElem?_cons_zero, List.getElem?_cons_succ, Option.some.injEq, D.int.injEq, D.str.injEq, D.bl.injEq, D.lst.injEq, D.tup.injEq, D.dic.injEq, D.ins.injEq, exists_eq_left, exists_eq_left', exists_eq_right, exists_eq_right', exists_and_left, and_true, true_and, Nat.reduceAdd, Nat.reduceSub, Nat.reduceLT, Nat.reduceEqDiff, Nat.add_one_sub_one, Nat.sub_zero, if_true, if_false, Bool.false_eq_true, reduceIte, wipeR, List.cons.injEq, Nat.zero_add, reduceCtorEq, false_and, exists_false, Bool.false_bne, Bool.true_bne, len_lst, len_tup, len_scr, in_lst, in_tup, dKey_str, dKey_int, and_assoc, eq_int, dSub, dLt, dLe, dGt, dGe, isNonD, dIs, dMin, dMax, xMeth, xMeth0, xEqO, xXf, sTry, catchD, offD, add_int, dList, dTuple, xFlt, xFltC, xFltX, xFltCX, xX, sAppP, sClrP, sFldP, sPutP, pVar, pIx, pFld, id, xDisp, pairsD, xNames, xMethF, xMeth0F, aStar, xTGet, xTIn, sPutT, sRaise0, sTryM, catchM, emEq, tKey_strs, famNs, Option.isSome_some, iSqV]
  refine ⟨_, seq_strs hx, by rw [List.length_map]; show xs.length ≤ 100000; omega, ?_⟩
  refine lc_filT D.str (fun x => decide (x ∈ ys)) D.str xs (fun x _ K kk => ?_) q
  simp only [fnD, iniD, startD, sNil, sSeq, sIf, sRet, sSet, sSetO, sExpr, sApp, sPut, sClr, sExt, sIns, sRaise, sRaise2, sAsg, sFor, sSetM, sAppM, sFld', xPopAt, xPop, xVar, xC, xOp1, xOp2, xNeg, xAnd, xOr, xNot, xIf, xB, xFn, xTup, xLst, xFld, xDGet, xDIn, xSl, xChain, oNone, oSome, aNil, aCons, tB', tAnd', tOr', tNot', tYesD, gN, gT, gsN, gsC, iLst, iTupD, iRg1, iRg2, iEnm, iTxt, List.map_cons, List.map_nil, List.length_cons, List.length_nil, List.replicate, List.replicate_succ, List.replicate_zero, List.cons_append, List.nil_append, List.set_cons_zero, List.set_cons_succ, List.getElem?_cons_zero, List.getElem?_cons_succ, Option.some.injEq, D.int.injEq, D.str.injEq, D.bl.injEq, D.lst.injEq, D.tup.injEq, D.dic.injEq, D.ins.injEq, exists_eq_left, exists_eq_left', exists_eq_right, exists_eq_right', exists_and_left, and_true, true_and, Nat.reduceAdd, Nat.reduceSub, Nat.reduceLT, Nat.reduceEqDiff, Nat.add_one_sub_one, Nat.sub_zero, if_true, if_false, Bool.false_eq_true, reduceIte, wipeR, List.cons.injEq, Nat.zero_add, reduceCtorEq, false_and, exists_false, Bool.false_bne, Bool.true_bne, len_lst, len_tup, len_scr, in_lst, in_tup, dKey_str, dKey_int, and_assoc, eq_int, dSub, dLt, dLe, dGt, dGe, isNonD, dIs, dMin, dMax, xMeth, xMeth0, xEqO, xXf, sTry, catchD, offD, add_int, dList, dTuple, xFlt, xFltC, xFltX, xFltCX, xX, sAppP, sClrP, sFldP, sPutP, pVar, pIx, pFld, id, xDisp, pairsD, xNames, xMethF, xMeth0F, aStar, xTGet, xTIn, sPutT, sRaise0, sTryM, catchM, emEq, tKey_strs, famNs, Option.isSome_some, iSqV, in_seq hk]
  by_cases c : x ∈ ys
  · rw [if_pos (decide_eq_true c)] at kk ⊢
    exact kk
  · rw [if_neg (by rw [decide_eq_false c]; decide)] at kk ⊢
    exact kk
def r_AreX : DS :=
  (sSeq (sSet 2 (xB dLen (aCons (xFn F_Shared (aCons (xVar 0) (aCons (xVar 1) aNil))) aNil)))
    (sRet (xChain dLt dLt (xC (.int 0)) (xVar 2) (xB dMin (aCons (xB dLen (aCons (xVar 0) aNil)) (aCons (xB dLen (aCons (xVar 1) aNil)) aNil))))))
def F_AreX : DF := fun ds A _ => ∃ xs ys, ds = [tupS xs, tupS ys] ∧ xs.length ≤ 1000 ∧ ys.length ≤ 1000 ∧ A (.bl (crossB xs ys))
theorem n_AreX (ds : List D) (A : D → Prop) (Ax : XQ) (h : F_AreX ds A Ax) : fnD 0 3 2 r_AreX ds A Ax := by
  obtain ⟨xs, ys, rfl, h1, h2, q⟩ := h
  simp only [r_AreX, fnD, iniD, startD, sNil, sSeq, sIf, sRet, sSet, sSetO, sExpr, sApp, sPut, sClr, sExt, sIns, sRaise, sRaise2, sAsg, sFor, sSetM, sAppM, sFld', xPopAt, xPop, xVar, xC, xOp1, xOp2, xNeg, xAnd, xOr, xNot, xIf, xB, xFn, xTup, xLst, xFld, xDGet, xDIn, xSl, xChain, oNone, oSome, aNil, aCons, tB', tAnd', tOr', tNot', tYesD, gN, gT, gsN, gsC, iLst, iTupD, iRg1, iRg2, iEnm, iTxt, List.map_cons, List.map_nil, List.length_cons, List.length_nil, List.replicate, List.replicate_succ, List.replicate_zero, List.cons_append, List.nil_append, List.set_cons_zero, List.set_cons_succ, List.getElem?_cons_zero, List.getElem?_cons_succ, Option.some.injEq, D.int.injEq, D.str.injEq, D.bl.injEq, D.lst.injEq, D.tup.injEq, D.dic.injEq, D.ins.injEq, exists_eq_left, exists_eq_left', exists_eq_right, exists_eq_right', exists_and_left, and_true, true_and, Nat.reduceAdd, Nat.reduceSub, Nat.reduceLT, Nat.reduceEqDiff, Nat.add_one_sub_one, Nat.sub_zero, if_true, if_false, Bool.false_eq_true, reduceIte, wipeR, List.cons.injEq, Nat.zero_add, reduceCtorEq, false_and, exists_false, Bool.false_bne, Bool.true_bne, len_lst, len_tup, len_scr, in_lst, in_tup, dKey_str, dKey_int, and_assoc, eq_int, dSub, dLt, dLe, dGt, dGe, isNonD, dIs, dMin, dMax, xMeth, xMeth0, xEqO, xXf, sTry, catchD, offD, add_int, dList, dTuple, xFlt, xFltC, xFltX, xFltCX, xX, sAppP, sClrP, sFldP, sPutP, pVar, pIx, pFld, id, xDisp, pairsD, xNames, xMethF, xMeth0F, aStar, xTGet, xTIn, sPutT, sRaise0, sTryM, catchM, emEq, tKey_strs, famNs, Option.isSome_some, iSqV]
  refine ⟨tupS xs, xs, tupS ys, ys, rfl, .inr rfl, .inr rfl, h1, ?_⟩
  simp only [fnD, iniD, startD, sNil, sSeq, sIf, sRet, sSet, sSetO, sExpr, sApp, sPut, sClr, sExt, sIns, sRaise, sRaise2, sAsg, sFor, sSetM, sAppM, sFld', xPopAt, xPop, xVar, xC, xOp1, xOp2, xNeg, xAnd, xOr, xNot, xIf, xB, xFn, xTup, xLst, xFld, xDGet, xDIn, xSl, xChain, oNone, oSome, aNil, aCons, tB', tAnd', tOr', tNot', tYesD, gN, gT, gsN, gsC, iLst, iTupD, iRg1, iRg2, iEnm, iTxt, List.map_cons, List.map_nil, List.length_cons, List.length_nil, List.replicate, List.replicate_succ, List.replicate_zero, List.cons_append, List.nil_append, List.set_cons_zero, List.set_cons_succ, List.getElem?_cons_zero, List.getElem?_cons_succ, Option.some.injEq, D.int.injEq, D.str.injEq, D.bl.injEq, D.lst.injEq, D.tup.injEq, D.dic.injEq, D.ins.injEq, exists_eq_left, exists_eq_left', exists_eq_right, exists_eq_right', exists_and_left, and_true, true_and, Nat.reduceAdd, Nat.reduceSub, Nat.reduceLT, Nat.reduceEqDiff, Nat.add_one_sub_one, Nat.sub_zero, if_true, if_false, Bool.false_eq_true, reduceIte, wipeR, List.cons.injEq, Nat.zero_add, reduceCtorEq, false_and, exists_false, Bool.false_bne, Bool.true_bne, len_lst, len_tup, len_scr, in_lst, in_tup, dKey_str, dKey_int, and_assoc, eq_int, dSub, dLt, dLe, dGt, dGe, isNonD, dIs, dMin, dMax, xMeth, xMeth0, xEqO, xXf, sTry, catchD, offD, add_int, dList, dTuple, xFlt, xFltC, xFltX, xFltCX, xX, sAppP, sClrP, sFldP, sPutP, pVar, pIx, pFld, id, xDisp, pairsD, xNames, xMethF, xMeth0F, aStar, xTGet, xTIn, sPutT, sRaise0, sTryM, catchM, emEq, tKey_strs, famNs, Option.isSome_some, iSqV, List.length_map]
  unfold crossB at q
  by_cases c1 : 0 < (shareL xs ys).length
  · rw [if_pos (decide_eq_true (by omega))]
    rw [decide_eq_true c1, Bool.true_and] at q
    have d2 : decide (((shareL xs ys).length : Int) < if (ys.length : Int) < xs.length then (ys.length : Int) else xs.length) = decide ((shareL xs ys).length < min xs.length ys.length) := by
      refine decide_eq_decide.mpr ?_
      by_cases c2 : (ys.length : Int) < xs.length
      · rw [if_pos c2]; omega
      · rw [if_neg c2]; omega
    rw [← d2] at q
    exact q
  · rw [if_neg (by rw [decide_eq_false (fun z => c1 (by omega))]; decide)]
    rw [decide_eq_false c1, Bool.false_and] at q
    exact q
end Dz
namespace Dz
open PySem PySem.Spec PyProof.Rows L2 Evl Bf
theorem fltL_str : ∀ xs : List Str, fltL (xs.map D.str) = true
  | [] => rfl
  | x :: xs => by
    rw [List.map_cons, fltL, fltL_str xs]
    rfl
theorem flt_tupS (xs : List Str) : (tupS xs).flt = true := by rw [D.flt]; exact fltL_str xs
theorem fltC_lstS (xs : List Str) : (lstS xs).fltC = true := fltL_str xs
theorem fltC_nil : (D.lst []).fltC = true := rfl
def roomD (r : List Str × Int) : D := .tup [tupS r.1, .int r.2]
def countsD (th : List Str) (rs : List (List Str × Int)) : D := .ins "Counts" [("known", tupS th), ("held", .lst (rs.map roomD))]
def roomOf : D → List Str × Int
  | .tup [.lst l, .int n] => (srt (txt (l.map toS)), n)
  | _ => ([], 0)
theorem flt_room (r : List Str × Int) : (roomD r).flt = true := by
  show (D.tup [tupS r.1, .int r.2]).flt = true
  rw [D.flt, fltL, flt_tupS]
  rfl
def RoomB (d : D) : Prop := RoomA d ∧ ∀ l n, d = .tup [.lst l, n] → l.length < 64
def crossAt (rs : List (List Str × Int)) (i j : Nat) : Bool := decide (i < j) && crossB (rs.getD i ([], 0)).1 (rs.getD j ([], 0)).1
def firstCross (rs : List (List Str × Int)) : Option (Nat × Nat) := (firstOf (fun i => (firstOf (crossAt rs i) rs.length).isSome) rs.length).bind fun i => (firstOf (crossAt rs i) rs.length).map fun j => (i, j)
inductive CR where
  | things (i : Int)
  | rooms (i : Int)
  | crossed (i j : Nat)
  | made (th : List Str) (rs : List (List Str × Int))
def CR.run : CR → (D → Prop) → XQ → Prop
  | .things i, _, Ax => Ax ⟨"BadThings", [("index", .int i)]⟩
  | .rooms i, _, Ax => Ax ⟨"BadRooms", [("index", .int i)]⟩
  | .crossed i j, _, Ax => Ax ⟨"CrossedRooms", [("other", .int (j : Nat)), ("one", .int (i : Nat))]⟩
  | .made th rs, A, _ => A (countsD th rs)
def cinitR (xs rs : List D) : CR := match thErrM 24 (xs.map toS) with
  | some i => .things i
  | none => if 60 < rs.length then .rooms (-1) else
    match firstOf (fun i => !roomOkD (srt (txt (xs.map toS))) (rs.getD i .non)) rs.length with
    | some i => .rooms (i : Nat)
    | none => match firstCross (rs.map roomOf) with
      | some (i, j) => .crossed i j
      | none => .made (srt (txt (xs.map toS))) (rs.map roomOf)
def InitA (xs rs : List D) : Prop := (∀ x ∈ xs, NmA x) ∧ xs.length ≤ 60 ∧ (∀ r ∈ rs, RoomB r) ∧ rs.length ≤ 1000
def F_CInit : DF := fun ds A Ax => ∃ xs rs, ds = [.lst xs, .lst rs] ∧ InitA xs rs ∧ (cinitR xs rs).run A Ax
theorem i_CInit (ds : List D) (A : D → Prop) (Ax : XQ) (h : F_CInit ds A Ax) : F_CInit ds (fun d => ∃ fs, d = .ins "Counts" fs ∧ A d) Ax := by
  obtain ⟨xs, rs, e, h1, q⟩ := h
  refine ⟨xs, rs, e, h1, ?_⟩
  cases c : cinitR xs rs with
  | made th rr => rw [c] at q; exact ⟨_, rfl, q⟩
  | _ => rw [c] at q; exact q
theorem for_enumD {g : DG} {b : DS} {E : DE} (xs : List D) (P : Nat → Ro → Prop) {ρ : Ro} (h0 : P 0 ρ) (hs : ∀ i x ρ N, xs[i]? = some x → P i ρ → (∀ ρ', P (i + 1) ρ' → N ρ') → g (.tup [.int (i : Nat), x]) ρ fun ρ' => b { E with nx := N, ct := N, bk := E.nx } ρ') (hd : ∀ ρ, P xs.length ρ → E.nx ρ) :
    forL g b (enumD xs) E ρ := by
  have := for_enum (fun x : D => x) xs P h0 hs hd
  rwa [List.map_id'] at this
theorem room_inv {kn : List Str} {x : D} (h : roomOkD kn x = true) : ∃ l m, x = .tup [.lst l, .int m] ∧ l = (txt (l.map toS)).map D.str := by
  unfold roomOkD at h
  split at h
  · rename_i l m
    obtain ⟨h1, _⟩ := Bool.and_eq_true_iff.mp h
    unfold lotOkD at h1
    split at h1
    · rename_i ds
      obtain ⟨h2, _⟩ := Bool.and_eq_true_iff.mp h1
      exact ⟨ds, m, rfl, txt_of fun x hx => List.all_eq_true.mp h2 x hx⟩
    · cases h1
  · cases h
theorem room_len {d : D} (h : RoomB d) : (roomOf d).1.length ≤ 1000 := by
  unfold roomOf
  split
  · rename_i l n
    rw [srt_len, txt_len, List.length_map]
    have := h.2 l _ rfl
    omega
  · exact Nat.zero_le _
def r_CInit : DS :=
  (sSeq (sFldP 0 "Counts" "known" (xFlt (xB dTuple (aCons (xFn F_Need (aCons (xVar 1) (aCons (xC (.int 24)) aNil))) aNil))))
    (sSeq (sIf (tB' (xOp2 dGt (xB dLen (aCons (xVar 2) aNil)) (xC (.int 60))))
    (sRaise "BadRooms" "index" (xNeg (xC (.int 1))))
    sNil)
    (sSeq (sFldP 0 "Counts" "held" (xFltC (xLst aNil)))
    (sSeq (sFor (iEnm (xVar 2)) (gT 2 (gsC (gN 3) (gsC (gN 4) gsN)))
    (sSeq (sIf (tNot' (tB' (xFn F_IsRoom (aCons (xFlt (xFld "Counts" "known" (xVar 0))) (aCons (xVar 4) aNil)))))
    (sRaise "BadRooms" "index" (xVar 3))
    sNil)
    (sAppP 0 (pFld "Counts" "held" (pVar 0)) (xFlt (xTup (aCons (xB dTuple (aCons (xB dSorted (aCons (xOp2 dIx (xVar 4) (xC (.int 0))) aNil)) aNil)) (aCons (xOp2 dIx (xVar 4) (xC (.int 1))) aNil)))))))
    (sFor (iEnm (xFld "Counts" "held" (xVar 0))) (gT 2 (gsC (gN 5) (gsC (gT 2 (gsC (gN 6) (gsC (gN 7) gsN))) gsN)))
    (sFor (iEnm (xFld "Counts" "held" (xVar 0))) (gT 2 (gsC (gN 8) (gsC (gT 2 (gsC (gN 9) (gsC (gN 7) gsN))) gsN)))
    (sIf (tAnd' (tB' (xOp2 dLt (xVar 5) (xVar 8))) (tB' (xFn F_AreX (aCons (xVar 6) (aCons (xVar 9) aNil)))))
    (sRaise2 "CrossedRooms" "one" "other" (xVar 5) (xVar 8))
    sNil)))))))
theorem n_CInit (ds : List D) (A : D → Prop) (Ax : XQ) (h : F_CInit ds A Ax) : iniD "Counts" 10 2 r_CInit ds A Ax := by
  obtain ⟨xs, rs, rfl, ⟨h1, h2, h3, h4⟩, q⟩ := h
  simp only [r_CInit, fnD, iniD, startD, sNil, sSeq, sIf, sRet, sSet, sSetO, sExpr, sApp, sPut, sClr, sExt, sIns, sRaise, sRaise2, sAsg, sFor, sSetM, sAppM, sFld', xPopAt, xPop, xVar, xC, xOp1, xOp2, xNeg, xAnd, xOr, xNot, xIf, xB, xFn, xTup, xLst, xFld, xDGet, xDIn, xSl, xChain, oNone, oSome, aNil, aCons, tB', tAnd', tOr', tNot', tYesD, gN, gT, gsN, gsC, iLst, iTupD, iRg1, iRg2, iEnm, iTxt, List.map_cons, List.map_nil, List.length_cons, List.length_nil, List.replicate, List.replicate_succ, List.replicate_zero, List.cons_append, List.nil_append, List.set_cons_zero, List.set_cons_succ, List.getElem?_cons_zero, List.getElem?_cons_succ, Option.some.injEq, D.int.injEq, D.str.injEq, D.bl.injEq, D.lst.injEq, D.tup.injEq, D.dic.injEq, D.ins.injEq, exists_eq_left, exists_eq_left', exists_eq_right, exists_eq_right', exists_and_left, and_true, true_and, Nat.reduceAdd, Nat.reduceSub, Nat.reduceLT, Nat.reduceEqDiff, Nat.add_one_sub_one, Nat.sub_zero, if_true, if_false, Bool.false_eq_true, reduceIte, wipeR, List.cons.injEq, Nat.zero_add, reduceCtorEq, false_and, exists_false, Bool.false_bne, Bool.true_bne, len_lst, len_tup, len_scr, in_lst, in_tup, dKey_str, dKey_int, and_assoc, eq_int, dSub, dLt, dLe, dGt, dGe, isNonD, dIs, dMin, dMax, xMeth, xMeth0, xEqO, xXf, sTry, catchD, offD, add_int, dList, dTuple, xFlt, xFltC, xFltX, xFltCX, xX, sAppP, sClrP, sFldP, sPutP, pVar, pIx, pFld, id, xDisp, pairsD, xNames, xMethF, xMeth0F, aStar, xTGet, xTIn, sPutT, sRaise0, sTryM, catchM, emEq, tKey_strs, famNs, Option.isSome_some, iSqV]
  refine ⟨xs, 24, rfl, h1, h2, ?_⟩
  unfold cinitR at q
  cases c1 : thErrM 24 (xs.map toS) with
  | some i => rw [c1] at q; exact q
  | none =>
    rw [c1] at q
    simp only [] at q
    generalize srt (txt (xs.map toS)) = kn at q ⊢
    refine ⟨_, rfl, flt_tupS kn, ?_⟩
    by_cases c2 : 60 < rs.length
    · rw [if_pos (decide_eq_true (by omega))]
      rw [if_pos c2] at q
      exact q
    · rw [if_neg (by rw [decide_eq_false (by omega)]; decide)]
      rw [if_neg c2] at q
      refine ⟨(by decide : 1 < 1000), (by decide : 0 ≤ 100000), rfl, ?_⟩
      refine for_enumD rs (fun i ρ => ∃ a b, ρ = [some (.ins "Counts" [("known", tupS kn), ("held", .lst ((rs.take i).map fun r => roomD (roomOf r)))]), some (.lst xs), some (.lst rs), a, b, none, none, none, none, none] ∧ ∀ j, j < i → (!roomOkD kn (rs.getD j .non)) = false) ⟨_, _, rfl, fun j h => by omega⟩ (fun i x ρ N hxi p n => ?_) (fun ρ p => ?_)
      · obtain ⟨a, b, rfl, hb⟩ := p
        have hi : i < rs.length := (List.getElem?_eq_some_iff.mp hxi).1
        have hm : x ∈ rs := List.mem_of_getElem? hxi
        have g : rs.getD i .non = x := getD_of hxi
        simp only [fnD, iniD, startD, sNil, sSeq, sIf, sRet, sSet, sSetO, sExpr, sApp, sPut, sClr, sExt, sIns, sRaise, sRaise2, sAsg, sFor, sSetM, sAppM, sFld', xPopAt, xPop, xVar, xC, xOp1, xOp2, xNeg, xAnd, xOr, xNot, xIf, xB, xFn, xTup, xLst, xFld, xDGet, xDIn, xSl, xChain, oNone, oSome, aNil, aCons, tB', tAnd', tOr', tNot', tYesD, gN, gT, gsN, gsC, iLst, iTupD, iRg1, iRg2, iEnm, iTxt, List.map_cons, List.map_nil, List.length_cons, List.length_nil, List.replicate, List.replicate_succ, List.replicate_zero, List.cons_append, List.nil_append, List.set_cons_zero, List.set_cons_succ, List.getElem?_cons_zero, List.getElem?_cons_succ, Option.some.injEq, D.int.injEq, D.str.injEq, D.bl.injEq, D.lst.injEq, D.tup.injEq, D.dic.injEq, D.ins.injEq, exists_eq_left, exists_eq_left', exists_eq_right, exists_eq_right', exists_and_left, and_true, true_and, Nat.reduceAdd, Nat.reduceSub, Nat.reduceLT, Nat.reduceEqDiff, Nat.add_one_sub_one, Nat.sub_zero, if_true, if_false, Bool.false_eq_true, reduceIte, wipeR, List.cons.injEq, Nat.zero_add, reduceCtorEq, false_and, exists_false, Bool.false_bne, Bool.true_bne, len_lst, len_tup, len_scr, in_lst, in_tup, dKey_str, dKey_int, and_assoc, eq_int, dSub, dLt, dLe, dGt, dGe, isNonD, dIs, dMin, dMax, xMeth, xMeth0, xEqO, xXf, sTry, catchD, offD, add_int, dList, dTuple, xFlt, xFltC, xFltX, xFltCX, xX, sAppP, sClrP, sFldP, sPutP, pVar, pIx, pFld, id, xDisp, pairsD, xNames, xMethF, xMeth0F, aStar, xTGet, xTIn, sPutT, sRaise0, sTryM, catchM, emEq, tKey_strs, famNs, Option.isSome_some, iSqV]
        refine ⟨tupS kn, rfl, flt_tupS kn, tupS kn, kn, x, rfl, .inr rfl, (h3 x hm).1, _, rfl, ?_⟩
        by_cases c3 : roomOkD kn x = true
        · rw [if_neg (by rw [c3]; decide)]
          obtain ⟨l, m, rfl, hl⟩ := room_inv c3
          have l64 := (h3 _ hm).2 l _ rfl
          have hs : dSorted [.lst l] = some (.lst ((srt (txt (l.map toS))).map D.str)) := by
            conv => lhs; rw [hl]
            exact sorted_lst (by rw [txt_len, List.length_map]; exact l64)
          refine ⟨⟨_, rfl⟩, _, rfl, _, rfl, ?_, .lst l, rfl, _, hs, _, rfl, .int m, rfl, (by decide : 2 ≤ 100000), flt_room (srt (txt (l.map toS)), m), n _ ⟨some (.int (i : Nat)), some (.tup [.lst l, .int m]), ?_, fun j hj => ?_⟩⟩
          · rw [List.length_map, List.length_take]
            show _ < 100000
            omega
          · rw [take_next hxi, List.map_append]
            rfl
          · by_cases cj : j = i
            · subst cj
              rw [g, c3]; rfl
            · exact hb j (by omega)
        · rw [if_pos (by simpa using c3)]
          rw [first_some (b := fun i => !roomOkD kn (rs.getD i .non)) hi (by show (!roomOkD kn (rs.getD i .non)) = true; rw [g]; simpa using c3) hb] at q
          exact q
      · obtain ⟨a, b, rfl, hb⟩ := p
        rw [first_none hb] at q
        simp only [] at q
        simp only [fnD, iniD, startD, sNil, sSeq, sIf, sRet, sSet, sSetO, sExpr, sApp, sPut, sClr, sExt, sIns, sRaise, sRaise2, sAsg, sFor, sSetM, sAppM, sFld', xPopAt, xPop, xVar, xC, xOp1, xOp2, xNeg, xAnd, xOr, xNot, xIf, xB, xFn, xTup, xLst, xFld, xDGet, xDIn, xSl, xChain, oNone, oSome, aNil, aCons, tB', tAnd', tOr', tNot', tYesD, gN, gT, gsN, gsC, iLst, iTupD, iRg1, iRg2, iEnm, iTxt, List.map_cons, List.map_nil, List.length_cons, List.length_nil, List.replicate, List.replicate_succ, List.replicate_zero, List.cons_append, List.nil_append, List.set_cons_zero, List.set_cons_succ, List.getElem?_cons_zero, List.getElem?_cons_succ, Option.some.injEq, D.int.injEq, D.str.injEq, D.bl.injEq, D.lst.injEq, D.tup.injEq, D.dic.injEq, D.ins.injEq, exists_eq_left, exists_eq_left', exists_eq_right, exists_eq_right', exists_and_left, and_true, true_and, Nat.reduceAdd, Nat.reduceSub, Nat.reduceLT, Nat.reduceEqDiff, Nat.add_one_sub_one, Nat.sub_zero, if_true, if_false, Bool.false_eq_true, reduceIte, wipeR, List.cons.injEq, Nat.zero_add, reduceCtorEq, false_and, exists_false, Bool.false_bne, Bool.true_bne, len_lst, len_tup, len_scr, in_lst, in_tup, dKey_str, dKey_int, and_assoc, eq_int, dSub, dLt, dLe, dGt, dGe, isNonD, dIs, dMin, dMax, xMeth, xMeth0, xEqO, xXf, sTry, catchD, offD, add_int, dList, dTuple, xFlt, xFltC, xFltX, xFltCX, xX, sAppP, sClrP, sFldP, sPutP, pVar, pIx, pFld, id, xDisp, pairsD, xNames, xMethF, xMeth0F, aStar, xTGet, xTIn, sPutT, sRaise0, sTryM, catchM, emEq, tKey_strs, famNs, Option.isSome_some, iSqV]
        refine ⟨_, rfl, _, rfl, ?_⟩
        rw [List.take_length, show rs.map (fun r => roomD (roomOf r)) = (rs.map roomOf).map roomD by rw [List.map_map]; rfl]
        have hw : ∀ r ∈ rs.map roomOf, r.1.length ≤ 1000 := fun r hr => by
          obtain ⟨d, hd, rfl⟩ := List.mem_map.mp hr
          exact room_len (h3 d hd)
        generalize rs.map roomOf = ws at q hw ⊢
        have bad : ∀ i j, i < ws.length → j < ws.length → crossAt ws i j = true → (∀ j', j' < j → crossAt ws i j' = false) → (∀ i', i' < i → firstOf (crossAt ws i') ws.length = none) → Ax ⟨"CrossedRooms", [("other", .int (j : Nat)), ("one", .int (i : Nat))]⟩ := fun i j hi hj hc h1 h2 => by
          have e1 : firstOf (crossAt ws i) ws.length = some j := first_some hj hc h1
          have e2 : firstOf (fun i => (firstOf (crossAt ws i) ws.length).isSome) ws.length = some i := first_some hi (by rw [e1]; rfl) fun i' hi' => by rw [h2 i' hi']; rfl
          have e3 : firstCross ws = some (i, j) := by
            unfold firstCross
            rw [e2]
            show (firstOf (crossAt ws i) ws.length).map _ = _
            rw [e1]
            rfl
          rw [e3] at q
          exact q
        refine for_enum roomD ws (fun i ρ => ∃ c5 c6 c7 c8 c9, ρ = [some (countsD kn ws), some (.lst xs), some (.lst rs), a, b, c5, c6, c7, c8, c9] ∧ ∀ i', i' < i → firstOf (crossAt ws i') ws.length = none) ⟨_, _, _, _, _, rfl, fun j h => by omega⟩ (fun i x ρ N hxi p n => ?_) (fun ρ p => ?_)
        · obtain ⟨c5, c6, c7, c8, c9, rfl, hb⟩ := p
          have hi : i < ws.length := (List.getElem?_eq_some_iff.mp hxi).1
          have hm : x ∈ ws := List.mem_of_getElem? hxi
          have gi : ws.getD i ([], 0) = x := getD_of hxi
          simp only [fnD, iniD, startD, sNil, sSeq, sIf, sRet, sSet, sSetO, sExpr, sApp, sPut, sClr, sExt, sIns, sRaise, sRaise2, sAsg, sFor, sSetM, sAppM, sFld', xPopAt, xPop, xVar, xC, xOp1, xOp2, xNeg, xAnd, xOr, xNot, xIf, xB, xFn, xTup, xLst, xFld, xDGet, xDIn, xSl, xChain, oNone, oSome, aNil, aCons, tB', tAnd', tOr', tNot', tYesD, gN, gT, gsN, gsC, iLst, iTupD, iRg1, iRg2, iEnm, iTxt, List.map_cons, List.map_nil, List.length_cons, List.length_nil, List.replicate, List.replicate_succ, List.replicate_zero, List.cons_append, List.nil_append, List.set_cons_zero, List.set_cons_succ, List.getElem?_cons_zero, List.getElem?_cons_succ, Option.some.injEq, D.int.injEq, D.str.injEq, D.bl.injEq, D.lst.injEq, D.tup.injEq, D.dic.injEq, D.ins.injEq, exists_eq_left, exists_eq_left', exists_eq_right, exists_eq_right', exists_and_left, and_true, true_and, Nat.reduceAdd, Nat.reduceSub, Nat.reduceLT, Nat.reduceEqDiff, Nat.add_one_sub_one, Nat.sub_zero, if_true, if_false, Bool.false_eq_true, reduceIte, wipeR, List.cons.injEq, Nat.zero_add, reduceCtorEq, false_and, exists_false, Bool.false_bne, Bool.true_bne, len_lst, len_tup, len_scr, in_lst, in_tup, dKey_str, dKey_int, and_assoc, eq_int, dSub, dLt, dLe, dGt, dGe, isNonD, dIs, dMin, dMax, xMeth, xMeth0, xEqO, xXf, sTry, catchD, offD, add_int, dList, dTuple, xFlt, xFltC, xFltX, xFltCX, xX, sAppP, sClrP, sFldP, sPutP, pVar, pIx, pFld, id, xDisp, pairsD, xNames, xMethF, xMeth0F, aStar, xTGet, xTIn, sPutT, sRaise0, sTryM, catchM, emEq, tKey_strs, famNs, Option.isSome_some, iSqV, roomD, countsD]
          refine ⟨_, rfl, _, rfl, ?_⟩
          refine for_enum roomD ws (fun j ρ => ∃ c7 c8 c9, ρ = [some (countsD kn ws), some (.lst xs), some (.lst rs), a, b, some (.int (i : Nat)), some (tupS x.1), c7, c8, c9] ∧ ∀ j', j' < j → crossAt ws i j' = false) ⟨_, _, _, rfl, fun j h => by omega⟩ (fun j y ρ N2 hyj p2 n2 => ?_) (fun ρ p => ?_)
          · obtain ⟨c7, c8, c9, rfl, hb2⟩ := p2
            have hj : j < ws.length := (List.getElem?_eq_some_iff.mp hyj).1
            have gj : ws.getD j ([], 0) = y := getD_of hyj
            have hmy : y ∈ ws := List.mem_of_getElem? hyj
            simp only [fnD, iniD, startD, sNil, sSeq, sIf, sRet, sSet, sSetO, sExpr, sApp, sPut, sClr, sExt, sIns, sRaise, sRaise2, sAsg, sFor, sSetM, sAppM, sFld', xPopAt, xPop, xVar, xC, xOp1, xOp2, xNeg, xAnd, xOr, xNot, xIf, xB, xFn, xTup, xLst, xFld, xDGet, xDIn, xSl, xChain, oNone, oSome, aNil, aCons, tB', tAnd', tOr', tNot', tYesD, gN, gT, gsN, gsC, iLst, iTupD, iRg1, iRg2, iEnm, iTxt, List.map_cons, List.map_nil, List.length_cons, List.length_nil, List.replicate, List.replicate_succ, List.replicate_zero, List.cons_append, List.nil_append, List.set_cons_zero, List.set_cons_succ, List.getElem?_cons_zero, List.getElem?_cons_succ, Option.some.injEq, D.int.injEq, D.str.injEq, D.bl.injEq, D.lst.injEq, D.tup.injEq, D.dic.injEq, D.ins.injEq, exists_eq_left, exists_eq_left', exists_eq_right, exists_eq_right', exists_and_left, and_true, true_and, Nat.reduceAdd, Nat.reduceSub, Nat.reduceLT, Nat.reduceEqDiff, Nat.add_one_sub_one, Nat.sub_zero, if_true, if_false, Bool.false_eq_true, reduceIte, wipeR, List.cons.injEq, Nat.zero_add, reduceCtorEq, false_and, exists_false, Bool.false_bne, Bool.true_bne, len_lst, len_tup, len_scr, in_lst, in_tup, dKey_str, dKey_int, and_assoc, eq_int, dSub, dLt, dLe, dGt, dGe, isNonD, dIs, dMin, dMax, xMeth, xMeth0, xEqO, xXf, sTry, catchD, offD, add_int, dList, dTuple, xFlt, xFltC, xFltX, xFltCX, xX, sAppP, sClrP, sFldP, sPutP, pVar, pIx, pFld, id, xDisp, pairsD, xNames, xMethF, xMeth0F, aStar, xTGet, xTIn, sPutT, sRaise0, sTryM, catchM, emEq, tKey_strs, famNs, Option.isSome_some, iSqV, roomD]
            have ec : crossAt ws i j = (decide (i < j) && crossB x.1 y.1) := by unfold crossAt; rw [gi, gj]
            by_cases c4 : (i : Int) < (j : Int)
            · rw [if_pos (decide_eq_true c4)]
              refine ⟨_, _, rfl, hw x hm, hw y hmy, _, rfl, ?_⟩
              rw [decide_eq_true (by omega), Bool.true_and] at ec
              by_cases c5 : crossB x.1 y.1 = true
              · rw [if_pos c5]
                exact bad i j hi hj (ec.trans c5) hb2 hb
              · rw [if_neg c5]
                refine n2 _ ⟨_, _, _, rfl, fun j' h' => ?_⟩
                by_cases cj : j' = j
                · subst cj
                  rw [ec]; simpa using c5
                · exact hb2 j' (by omega)
            · rw [if_neg (by rw [decide_eq_false c4]; decide)]
              rw [decide_eq_false (by omega), Bool.false_and] at ec
              refine n2 _ ⟨_, _, _, rfl, fun j' h' => ?_⟩
              by_cases cj : j' = j
              · subst cj
                exact ec
              · exact hb2 j' (by omega)
          · obtain ⟨c7, c8, c9, rfl, hb2⟩ := p
            refine n _ ⟨_, _, _, _, _, rfl, fun i' h' => ?_⟩
            by_cases ci : i' = i
            · subst ci
              exact first_none hb2
            · exact hb i' (by omega)
        · obtain ⟨c5, c6, c7, c8, c9, rfl, hb⟩ := p
          have e3 : firstCross ws = none := by
            unfold firstCross
            rw [first_none (b := fun i => (firstOf (crossAt ws i) ws.length).isSome) fun i hi => by rw [hb i hi]; rfl]
            rfl
          rw [e3] at q
          exact ⟨_, rfl, q⟩
def r_CThings : DS :=
  (sRet (xB dList (aCons (xFld "Counts" "known" (xVar 0)) aNil)))
/-- texts that may be laid out -/
def okS (xs : List Str) : Prop := xs.length ≤ 1000 ∧ ∀ x ∈ xs, PyData.strOk x = true
def okR (rs : List (List Str × Int)) : Prop := rs.length ≤ 1000 ∧ ∀ r ∈ rs, okS r.1
def F_CThings : DF := fun ds A _ => ∃ th rs, ds = [countsD th rs] ∧ okS th ∧ A (lstS th)
theorem n_CThings (ds : List D) (A : D → Prop) (Ax : XQ) (h : F_CThings ds A Ax) : fnD 1 1 1 r_CThings ds A Ax := by
  obtain ⟨th, rs, rfl, h1, q⟩ := h
  simp only [r_CThings, fnD, iniD, startD, sNil, sSeq, sIf, sRet, sSet, sSetO, sExpr, sApp, sPut, sClr, sExt, sIns, sRaise, sRaise2, sAsg, sFor, sSetM, sAppM, sFld', xPopAt, xPop, xVar, xC, xOp1, xOp2, xNeg, xAnd, xOr, xNot, xIf, xB, xFn, xTup, xLst, xFld, xDGet, xDIn, xSl, xChain, oNone, oSome, aNil, aCons, tB', tAnd', tOr', tNot', tYesD, gN, gT, gsN, gsC, iLst, iTupD, iRg1, iRg2, iEnm, iTxt, List.map_cons, List.map_nil, List.length_cons, List.length_nil, List.replicate, List.replicate_succ, List.replicate_zero, List.cons_append, List.nil_append, List.set_cons_zero, List.set_cons_succ, List.getElem?_cons_zero, List.getElem?_cons_succ, Option.some.injEq, D.int.injEq, D.str.injEq, D.bl.injEq, D.lst.injEq, D.tup.injEq, D.dic.injEq, D.ins.injEq, exists_eq_left, exists_eq_left', exists_eq_right, exists_eq_right', exists_and_left, and_true, true_and, Nat.reduceAdd, Nat.reduceSub, Nat.reduceLT, Nat.reduceEqDiff, Nat.add_one_sub_one, Nat.sub_zero, if_true, if_false, Bool.false_eq_true, reduceIte, wipeR, List.cons.injEq, Nat.zero_add, reduceCtorEq, false_and, exists_false, Bool.false_bne, Bool.true_bne, len_lst, len_tup, len_scr, in_lst, in_tup, dKey_str, dKey_int, and_assoc, eq_int, dSub, dLt, dLe, dGt, dGe, isNonD, dIs, dMin, dMax, xMeth, xMeth0, xEqO, xXf, sTry, catchD, offD, add_int, dList, dTuple, xFlt, xFltC, xFltX, xFltCX, xX, sAppP, sClrP, sFldP, sPutP, pVar, pIx, pFld, id, xDisp, pairsD, xNames, xMethF, xMeth0F, aStar, xTGet, xTIn, sPutT, sRaise0, sTryM, catchM, emEq, tKey_strs, famNs, Option.isSome_some, iSqV, countsD]
  exact ⟨_, rfl, _, rfl, q⟩
def r_CRooms : DS :=
  (sRet (xLc (iLst (xFld "Counts" "held" (xVar 0))) [1, 2] (gT 2 (gsC (gN 1) (gsC (gN 2) gsN))) tYesD (xTup (aCons (xFltC (xB dList (aCons (xVar 1) aNil))) (aCons (xFlt (xVar 2)) aNil)))))
def roomL (r : List Str × Int) : D := .tup [lstS r.1, .int r.2]
def F_CRooms : DF := fun ds A _ => ∃ th rs, ds = [countsD th rs] ∧ okR rs ∧ A (.lst (rs.map roomL))
theorem n_CRooms (ds : List D) (A : D → Prop) (Ax : XQ) (h : F_CRooms ds A Ax) : fnD 2 3 1 r_CRooms ds A Ax := by
  obtain ⟨th, rs, rfl, ⟨h1, h2⟩, q⟩ := h
  simp only [r_CRooms, xLc, fnD, iniD, startD, sNil, sSeq, sIf, sRet, sSet, sSetO, sExpr, sApp, sPut, sClr, sExt, sIns, sRaise, sRaise2, sAsg, sFor, sSetM, sAppM, sFld', xPopAt, xPop, xVar, xC, xOp1, xOp2, xNeg, xAnd, xOr, xNot, xIf, xB, xFn, xTup, xLst, xFld, xDGet, xDIn, xSl, xChain, oNone, oSome, aNil, aCons, tB', tAnd', tOr', tNot', tYesD, gN, gT, gsN, gsC, iLst, iTupD, iRg1, iRg2, iEnm, iTxt, List.map_cons, List.map_nil, List.length_cons, List.length_nil, List.replicate, List.replicate_succ, List.replicate_zero, List.cons_append, List.nil_append, List.set_cons_zero, List.set_cons_succ, List.getElem?_cons_zero, List.getElem?_cons_succ, Option.some.injEq, D.int.injEq, D.str.injEq, D.bl.injEq, D.lst.injEq, D.tup.injEq, D.dic.injEq, D.ins.injEq, exists_eq_left, exists_eq_left', exists_eq_right, exists_eq_right', exists_and_left, and_true, true_and, Nat.reduceAdd, Nat.reduceSub, Nat.reduceLT, Nat.reduceEqDiff, Nat.add_one_sub_one, Nat.sub_zero, if_true, if_false, Bool.false_eq_true, reduceIte, wipeR, List.cons.injEq, Nat.zero_add, reduceCtorEq, false_and, exists_false, Bool.false_bne, Bool.true_bne, len_lst, len_tup, len_scr, in_lst, in_tup, dKey_str, dKey_int, and_assoc, eq_int, dSub, dLt, dLe, dGt, dGe, isNonD, dIs, dMin, dMax, xMeth, xMeth0, xEqO, xXf, sTry, catchD, offD, add_int, dList, dTuple, xFlt, xFltC, xFltX, xFltCX, xX, sAppP, sClrP, sFldP, sPutP, pVar, pIx, pFld, id, xDisp, pairsD, xNames, xMethF, xMeth0F, aStar, xTGet, xTIn, sPutT, sRaise0, sTryM, catchM, emEq, tKey_strs, famNs, Option.isSome_some, iSqV, countsD]
  refine ⟨_, rfl, _, rfl, by rw [List.length_map]; show _ ≤ 100000; omega, ?_⟩
  refine lc_mapT roomD roomL rs (fun r hr K k => ?_) q
  simp only [fnD, iniD, startD, sNil, sSeq, sIf, sRet, sSet, sSetO, sExpr, sApp, sPut, sClr, sExt, sIns, sRaise, sRaise2, sAsg, sFor, sSetM, sAppM, sFld', xPopAt, xPop, xVar, xC, xOp1, xOp2, xNeg, xAnd, xOr, xNot, xIf, xB, xFn, xTup, xLst, xFld, xDGet, xDIn, xSl, xChain, oNone, oSome, aNil, aCons, tB', tAnd', tOr', tNot', tYesD, gN, gT, gsN, gsC, iLst, iTupD, iRg1, iRg2, iEnm, iTxt, List.map_cons, List.map_nil, List.length_cons, List.length_nil, List.replicate, List.replicate_succ, List.replicate_zero, List.cons_append, List.nil_append, List.set_cons_zero, List.set_cons_succ, List.getElem?_cons_zero, List.getElem?_cons_succ, Option.some.injEq, D.int.injEq, D.str.injEq, D.bl.injEq, D.lst.injEq, D.tup.injEq, D.dic.injEq, D.ins.injEq, exists_eq_left, exists_eq_left', exists_eq_right, exists_eq_right', exists_and_left, and_true, true_and, Nat.reduceAdd, Nat.reduceSub, Nat.reduceLT, Nat.reduceEqDiff, Nat.add_one_sub_one, Nat.sub_zero, if_true, if_false, Bool.false_eq_true, reduceIte, wipeR, List.cons.injEq, Nat.zero_add, reduceCtorEq, false_and, exists_false, Bool.false_bne, Bool.true_bne, len_lst, len_tup, len_scr, in_lst, in_tup, dKey_str, dKey_int, and_assoc, eq_int, dSub, dLt, dLe, dGt, dGe, isNonD, dIs, dMin, dMax, xMeth, xMeth0, xEqO, xXf, sTry, catchD, offD, add_int, dList, dTuple, xFlt, xFltC, xFltX, xFltCX, xX, sAppP, sClrP, sFldP, sPutP, pVar, pIx, pFld, id, xDisp, pairsD, xNames, xMethF, xMeth0F, aStar, xTGet, xTIn, sPutT, sRaise0, sTryM, catchM, emEq, tKey_strs, famNs, Option.isSome_some, iSqV, roomD]
  exact ⟨fltC_lstS r.1, rfl, (by decide : 2 ≤ 100000), k⟩
def r_CEq : DS :=
  (sRet (xAnd (xB (dIsC "Counts") (aCons (xVar 1) (aCons (xC (.cls "Counts")) aNil))) (xAnd (xOp2 (dEq false) (xFld "Counts" "known" (xVar 0)) (xFld "Counts" "known" (xVar 1))) (xOp2 (dEq false) (xFld "Counts" "held" (xVar 0)) (xFld "Counts" "held" (xVar 1))))))
def F_CEq : DF := fun ds A _ => ∃ th rs y, ds = [countsD th rs, y] ∧ okS th ∧ okR rs ∧ ((∃ th' rs', y = countsD th' rs' ∧ okS th' ∧ okR rs' ∧ A (.bl (decide (th = th' ∧ rs = rs')))) ∨ ((∃ t, tyN y = some t) ∧ A (.bl false)))
theorem ok_tupS {xs : List Str} (h : okS xs) : (tupS xs).okE 1 = true := ok_tup (ok_strs h.2)
theorem ok_lstS {xs : List Str} (h : okS xs) : (lstS xs).okE 1 = true := ok_lst (ok_strs h.2)
theorem ok_rooms {rs : List (List Str × Int)} (h : okR rs) : (D.lst (rs.map roomD)).okE 3 = true := ok_lst fun d hd => by
  obtain ⟨r, hr, rfl⟩ := List.mem_map.mp hd
  refine ok_tup fun x hx => ?_
  rcases List.mem_cons.mp hx with rfl | hx
  · exact ok_tupS (h.2 r hr)
  · rw [List.mem_singleton.mp hx]; rfl
theorem room_inj {r s : List Str × Int} : roomD r = roomD s ↔ r = s := by
  constructor
  · intro h
    obtain ⟨h1, h2⟩ : r.1.map D.str = s.1.map D.str ∧ r.2 = s.2 := by
      unfold roomD at h
      simpa using h
    exact Prod.ext (strs_inj.mp h1) h2
  · intro h; rw [h]
theorem rooms_inj {rs ss : List (List Str × Int)} : D.lst (rs.map roomD) = D.lst (ss.map roomD) ↔ rs = ss := by
  constructor
  · intro h
    exact (List.map_inj_right fun a b z => room_inj.mp z).mp (D.lst.inj h)
  · intro h; rw [h]
theorem n_CEq (ds : List D) (A : D → Prop) (Ax : XQ) (h : F_CEq ds A Ax) : fnD 0 2 2 r_CEq ds A Ax := by
  obtain ⟨th, rs, y, rfl, o1, o2, q⟩ := h
  simp only [r_CEq, fnD, iniD, startD, sNil, sSeq, sIf, sRet, sSet, sSetO, sExpr, sApp, sPut, sClr, sExt, sIns, sRaise, sRaise2, sAsg, sFor, sSetM, sAppM, sFld', xPopAt, xPop, xVar, xC, xOp1, xOp2, xNeg, xAnd, xOr, xNot, xIf, xB, xFn, xTup, xLst, xFld, xDGet, xDIn, xSl, xChain, oNone, oSome, aNil, aCons, tB', tAnd', tOr', tNot', tYesD, gN, gT, gsN, gsC, iLst, iTupD, iRg1, iRg2, iEnm, iTxt, List.map_cons, List.map_nil, List.length_cons, List.length_nil, List.replicate, List.replicate_succ, List.replicate_zero, List.cons_append, List.nil_append, List.set_cons_zero, List.set_cons_succ, List.getElem?_cons_zero, List.getElem?_cons_succ, Option.some.injEq, D.int.injEq, D.str.injEq, D.bl.injEq, D.lst.injEq, D.tup.injEq, D.dic.injEq, D.ins.injEq, exists_eq_left, exists_eq_left', exists_eq_right, exists_eq_right', exists_and_left, and_true, true_and, Nat.reduceAdd, Nat.reduceSub, Nat.reduceLT, Nat.reduceEqDiff, Nat.add_one_sub_one, Nat.sub_zero, if_true, if_false, Bool.false_eq_true, reduceIte, wipeR, List.cons.injEq, Nat.zero_add, reduceCtorEq, false_and, exists_false, Bool.false_bne, Bool.true_bne, len_lst, len_tup, len_scr, in_lst, in_tup, dKey_str, dKey_int, and_assoc, eq_int, dSub, dLt, dLe, dGt, dGe, isNonD, dIs, dMin, dMax, xMeth, xMeth0, xEqO, xXf, sTry, catchD, offD, add_int, dList, dTuple, xFlt, xFltC, xFltX, xFltCX, xX, sAppP, sClrP, sFldP, sPutP, pVar, pIx, pFld, id, xDisp, pairsD, xNames, xMethF, xMeth0F, aStar, xTGet, xTIn, sPutT, sRaise0, sTryM, catchM, emEq, tKey_strs, famNs, Option.isSome_some, iSqV, countsD]
  rcases q with ⟨th', rs', rfl, o3, o4, q⟩ | ⟨⟨t, ht⟩, q⟩
  · refine ⟨_, rfl, true, rfl, ?_⟩
    rw [if_pos rfl]
    have e1 : dEq false (tupS th) (tupS th') = some (.bl (decide (th = th'))) := by
      rw [eq_of (neg := false) (okE_up (by decide) _ (ok_tupS o1)) (okE_up (by decide) _ (ok_tupS o3)) (b := decide (th = th')) ⟨fun z => by rw [of_decide_eq_true z], fun z => decide_eq_true (strs_inj.mp (D.tup.inj z))⟩, Bool.false_bne]
    refine ⟨_, rfl, _, rfl, _, rfl, _, e1, _, rfl, ?_⟩
    by_cases c : th = th'
    · rw [decide_eq_true c, if_pos rfl]
      have e2 : dEq false (.lst (rs.map roomD)) (.lst (rs'.map roomD)) = some (.bl (decide (rs = rs'))) := by
        rw [eq_of (neg := false) (okE_up (by decide) _ (ok_rooms o2)) (okE_up (by decide) _ (ok_rooms o4)) (b := decide (rs = rs')) ⟨fun z => by rw [of_decide_eq_true z], fun z => decide_eq_true (rooms_inj.mp z)⟩, Bool.false_bne]
      have e3 : decide (th = th' ∧ rs = rs') = decide (rs = rs') := decide_eq_decide.mpr ⟨fun z => z.2, fun z => ⟨c, z⟩⟩
      rw [e3] at q
      exact ⟨_, rfl, _, rfl, _, rfl, _, e2, q⟩
    · rw [decide_eq_false c, if_neg (by decide)]
      rw [decide_eq_false (fun z => c z.1)] at q
      exact q
  · have e : dIsC "Counts" [y, .cls "Counts"] = some (.bl false) := by
      show (if ("Counts" : Str) = "Counts" then (isC "Counts" y).map D.bl else none) = _
      rw [if_pos rfl]
      unfold isC
      cases y <;> first | rfl | cases ht
    refine ⟨_, e, false, rfl, ?_⟩
    rw [if_neg (by decide)]
    exact q
end Dz
namespace Dz
open PySem PySem.Spec PyProof.Rows L2 Evl Bf
/-! ### the well of six -/
def F_Draw : DF := fun ds A _ => ∃ m : Int, ds = [.well 2, .int m] ∧ 0 < m ∧ m < 1073741824 ∧ ∀ k : Nat, (k : Int) < m → A (.int k)
def F_State : DF := fun ds A _ => ∃ ns, ds = [.scr ns] ∧ A (.well 2)
theorem viaT {p : Prop} {C R : Str → Prop} (h1 : (∀ z, R z → C z) → p) (h2 : ∀ z, R z → C z) : p := h1 h2
/-! ### names, plainly -/
def low : List Nat := ("abcdefghijklm" : Str).cps.toList
def hi9 : List Nat := ("qrstuvwxy" : Str).cps.toList
def HeadOk (i : Nat) (z : Str) : Prop := ∃ h t, z.cps.toList = h :: t ∧ (h ∈ low ∨ ∃ j, j < i ∧ hi9[j]? = some h)
theorem isNm_of {z : Str} (h1 : 1 ≤ z.cps.toList.length) (h8 : z.cps.toList.length ≤ 8) (ha : ∀ c ∈ z.cps.toList, c ∈ abc.cps.toList) : isNm z = true := by
  unfold isNm
  rw [len_toList] at h1 h8
  rw [decide_eq_true h1, decide_eq_true h8]
  exact List.all_eq_true.mpr fun c hc => decide_eq_true (ha c hc)
theorem app_list (a b : Str) : (a ++ b).cps.toList = a.cps.toList ++ b.cps.toList := Array.toList_append
theorem cut6 (z : Str) : (cutS z none (some 6)).cps.toList = z.cps.toList.take 6 := by
  unfold cutS
  show ((z.cps.toList.drop (HT.sIx z.length 0 none)).take (HT.sIx z.length z.length (some ((6 : Nat) : Int)) - HT.sIx z.length 0 none)) = z.cps.toList.take 6
  rw [HT.sIx_none, HT.sIx_nat, List.drop_zero, Nat.sub_zero, List.take_eq_take_iff, len_toList]
  omega
theorem low_abc : ∀ c ∈ low, c ∈ abc.cps.toList := by decide +kernel
theorem hi_abc : ∀ c ∈ hi9, c ∈ abc.cps.toList := by decide +kernel
theorem nopz_abc : ∀ c ∈ ("nopz" : Str).cps.toList, c ∈ abc.cps.toList := by decide +kernel
theorem hi_low : ∀ c ∈ hi9, c ∉ low := by decide +kernel
theorem hi_nodup : hi9.Nodup := by decide +kernel
theorem hi_len : hi9.length = 9 := by decide +kernel
structure Nm1 (i : Nat) (z : Str) : Prop where
  nm : isNm z = true
  hd : HeadOk i z
theorem nm1_mono {i j : Nat} {z : Str} (h : i ≤ j) (n : Nm1 i z) : Nm1 j z := by
  obtain ⟨a, b, t, e, c⟩ := n
  refine ⟨a, b, t, e, ?_⟩
  rcases c with c | ⟨k, hk, c⟩
  · exact .inl c
  · exact .inr ⟨k, by omega, c⟩
theorem nm_one {c : Nat} (hc : c ∈ low) : Nm1 0 (sign c) :=
  ⟨isNm_of (by show 1 ≤ 1; decide) (by show 1 ≤ 8; decide) (fun d hd => by rw [List.mem_singleton.mp (show d ∈ [c] from hd)]; exact low_abc c hc), c, [], rfl, .inl hc⟩
theorem nm_more {c d : Nat} {n : Nat} (hc : c ∈ low) (hd : d ∈ ("nopz" : Str).cps.toList) (hn : n ≤ 7) : Nm1 0 (sign c ++ repS (sign d) n) := by
  have e : (sign c ++ repS (sign d) n).cps.toList = c :: List.replicate n d := by
    rw [app_list, rep_list]
    show [c] ++ (List.replicate n [d]).flatten = _
    rw [List.flatten_replicate_singleton]
    rfl
  refine ⟨isNm_of ?_ ?_ fun x hx => ?_, c, _, e, .inl hc⟩
  · rw [e, List.length_cons]; omega
  · rw [e, List.length_cons, List.length_replicate]; omega
  · rw [e] at hx
    rcases List.mem_cons.mp hx with rfl | hx
    · exact low_abc _ hc
    · rw [List.eq_of_mem_replicate hx]; exact nopz_abc d hd
theorem nm_moved {z : Str} {i h : Nat} (n : isNm z = true) (hh : hi9[i]? = some h) : Nm1 (i + 1) (sign h ++ cutS z none (some 6)) ∧ ∀ y, Nm1 i y → y ≠ sign h ++ cutS z none (some 6) := by
  have e : (sign h ++ cutS z none (some 6)).cps.toList = h :: z.cps.toList.take 6 := by
    rw [app_list, cut6]
    rfl
  have hm := List.mem_of_getElem? hh
  refine ⟨⟨isNm_of ?_ ?_ fun x hx => ?_, h, _, e, .inr ⟨i, Nat.lt_succ_self i, hh⟩⟩, fun y hy z' => ?_⟩
  · rw [e, List.length_cons]; omega
  · rw [e, List.length_cons, List.length_take]; omega
  · rw [e] at hx
    rcases List.mem_cons.mp hx with rfl | hx
    · exact hi_abc _ hm
    · have := List.all_eq_true.mp (Bool.and_eq_true_iff.mp (Bool.and_eq_true_iff.mp n).2).2 x (List.mem_of_mem_take hx)
      exact of_decide_eq_true this
  · obtain ⟨g, t, e2, c⟩ := hy.hd
    rw [z', e] at e2
    have eh : h = g := (List.cons.inj e2).1
    subst eh
    rcases c with c | ⟨j, hj, c⟩
    · exact hi_low _ hm c
    · have := (List.getElem?_inj (by have := (List.getElem?_eq_some_iff.mp c).1; exact this) hi_nodup).mp (c.trans hh.symm)
      omega

theorem perm_erase {α : Type} : ∀ {l : List α} {k : Nat} (h : k < l.length), l.Perm (l[k] :: l.eraseIdx k)
  | x :: l, 0, _ => .refl _
  | x :: l, k + 1, h => by
    rw [List.eraseIdx_cons_succ, List.getElem_cons_succ]
    exact .trans (.cons x (perm_erase (by simpa using h))) (.swap _ _ _)
def r_Mixed : DS :=
  (sSeq (sSetO 2 (xB dList (aCons (xVar 1) aNil)))
    (sSeq (sSetO 3 (xLst aNil))
    (sSeq (sFor (iRg1 (xB dLen (aCons (xVar 1) aNil))) (gN 4)
    (sAppM 3 (xPopAt 2 (xFn F_Draw (aCons (xVar 0) (aCons (xB dLen (aCons (xVar 2) aNil)) aNil))))))
    (sRet (xVar 3)))))
def F_Mixed : DF := fun ds A _ => ∃ d xs, ds = [.well 2, d] ∧ seqOf d = some xs ∧ xs.length ≤ 1000 ∧ ∀ ys : List D, ys.Perm xs → A (.lst ys)
theorem n_Mixed (ds : List D) (A : D → Prop) (Ax : XQ) (h : F_Mixed ds A Ax) : fnD 1 5 2 r_Mixed ds A Ax := by
  obtain ⟨dd, xs, rfl, hd, hl, q⟩ := h
  have e1 : dList [dd] = some (.lst xs) := by cases dd <;> cases hd <;> rfl
  have e2 : dLen [dd] = some (.int xs.length) := by cases dd <;> cases hd <;> rfl
  simp only [r_Mixed, fnD, iniD, startD, sNil, sSeq, sIf, sRet, sSet, sSetO, sExpr, sApp, sPut, sClr, sExt, sIns, sRaise, sRaise2, sAsg, sFor, sSetM, sAppM, sFld', xPopAt, xPop, xVar, xC, xOp1, xOp2, xNeg, xAnd, xOr, xNot, xIf, xB, xFn, xTup, xLst, xFld, xDGet, xDIn, xSl, xChain, oNone, oSome, aNil, aCons, tB', tAnd', tOr', tNot', tYesD, gN, gT, gsN, gsC, iLst, iTupD, iRg1, iRg2, iEnm, iTxt, List.map_cons, List.map_nil, List.length_cons, List.length_nil, List.replicate, List.replicate_succ, List.replicate_zero, List.cons_append, List.nil_append, List.set_cons_zero, List.set_cons_succ, List.getElem?_cons_zero, List.getElem?_cons_succ, Option.some.injEq, D.int.injEq, D.str.injEq, D.bl.injEq, D.lst.injEq, D.tup.injEq, D.dic.injEq, D.ins.injEq, exists_eq_left, exists_eq_left', exists_eq_right, exists_eq_right', exists_and_left, and_true, true_and, Nat.reduceAdd, Nat.reduceSub, Nat.reduceLT, Nat.reduceEqDiff, Nat.add_one_sub_one, Nat.sub_zero, if_true, if_false, Bool.false_eq_true, reduceIte, wipeR, List.cons.injEq, Nat.zero_add, reduceCtorEq, false_and, exists_false, Bool.false_bne, Bool.true_bne, len_lst, len_tup, len_scr, in_lst, in_tup, dKey_str, dKey_int, and_assoc, eq_int, dSub, dLt, dLe, dGt, dGe, isNonD, dIs, dMin, dMax, xMeth, xMeth0, xEqO, xXf, sTry, catchD, offD, add_int, dList, dTuple, xFlt, xFltC, xFltX, xFltCX, xX, sAppP, sClrP, sFldP, sPutP, pVar, pIx, pFld, id, xDisp, pairsD, xNames, xMethF, xMeth0F, aStar, xTGet, xTIn, sPutT, sRaise0, sTryM, catchM, emEq, tKey_strs, famNs, Option.isSome_some, iSqV]
  refine ⟨_, e1, (by decide : 0 ≤ 100000), _, e2, _, rfl, by omega, by omega, ?_⟩
  refine for_range 0 xs.length (fun i ρ => ∃ rest found a, ρ = [some (.well 2), some dd, some (.lst rest), some (.lst found), a] ∧ (rest ++ found).Perm xs ∧ rest.length + i = xs.length) ⟨xs, [], _, rfl, by rw [List.append_nil], rfl⟩ (fun i ρ N hi p n => ?_) (fun ρ p => ?_)
  · obtain ⟨rest, found, a, rfl, hp, hr⟩ := p
    simp only [fnD, iniD, startD, sNil, sSeq, sIf, sRet, sSet, sSetO, sExpr, sApp, sPut, sClr, sExt, sIns, sRaise, sRaise2, sAsg, sFor, sSetM, sAppM, sFld', xPopAt, xPop, xVar, xC, xOp1, xOp2, xNeg, xAnd, xOr, xNot, xIf, xB, xFn, xTup, xLst, xFld, xDGet, xDIn, xSl, xChain, oNone, oSome, aNil, aCons, tB', tAnd', tOr', tNot', tYesD, gN, gT, gsN, gsC, iLst, iTupD, iRg1, iRg2, iEnm, iTxt, List.map_cons, List.map_nil, List.length_cons, List.length_nil, List.replicate, List.replicate_succ, List.replicate_zero, List.cons_append, List.nil_append, List.set_cons_zero, List.set_cons_succ, List.getElem?_cons_zero, List.getElem?_cons_succ, Option.some.injEq, D.int.injEq, D.str.injEq, D.bl.injEq, D.lst.injEq, D.tup.injEq, D.dic.injEq, D.ins.injEq, exists_eq_left, exists_eq_left', exists_eq_right, exists_eq_right', exists_and_left, and_true, true_and, Nat.reduceAdd, Nat.reduceSub, Nat.reduceLT, Nat.reduceEqDiff, Nat.add_one_sub_one, Nat.sub_zero, if_true, if_false, Bool.false_eq_true, reduceIte, wipeR, List.cons.injEq, Nat.zero_add, reduceCtorEq, false_and, exists_false, Bool.false_bne, Bool.true_bne, len_lst, len_tup, len_scr, in_lst, in_tup, dKey_str, dKey_int, and_assoc, eq_int, dSub, dLt, dLe, dGt, dGe, isNonD, dIs, dMin, dMax, xMeth, xMeth0, xEqO, xXf, sTry, catchD, offD, add_int, dList, dTuple, xFlt, xFltC, xFltX, xFltCX, xX, sAppP, sClrP, sFldP, sPutP, pVar, pIx, pFld, id, xDisp, pairsD, xNames, xMethF, xMeth0F, aStar, xTGet, xTIn, sPutT, sRaise0, sTryM, catchM, emEq, tKey_strs, famNs, Option.isSome_some, iSqV]
    have h0 : 0 < rest.length := by omega
    have hf : found.length < 100000 := by
      have := hp.length_eq
      rw [List.length_append] at this
      omega
    refine ⟨⟨_, rfl⟩, (rest.length : Int), rfl, by omega, by omega, fun k hk => ?_⟩
    have hk' : k < rest.length := by omega
    refine ⟨k, rfl, rest[k], List.getElem?_eq_getElem hk', by show k < 100000; omega, hf, n _ ⟨_, _, _, rfl, ?_, ?_⟩⟩
    · refine .trans ?_ hp
      have e : rest.Perm (rest[k] :: rest.eraseIdx k) := perm_erase hk'
      refine .trans ?_ (e.append_right found).symm
      rw [← List.append_assoc]
      exact List.perm_append_comm
    · rw [List.length_eraseIdx_of_lt hk']
      omega
  · obtain ⟨rest, found, a, rfl, hp, hr⟩ := p
    have e0 : rest = [] := List.eq_nil_of_length_eq_zero (by omega)
    subst e0
    exact ⟨_, rfl, q found hp⟩
theorem mul_str {z : Str} {k : Nat} (h1 : z.length ≤ 1000) (h2 : k + 1 ≤ 1000) : dMul (.str z) (.int (1 + (k : Int))) = some (.str (repS z (k + 1))) := by
  show (if 0 ≤ 1 + (k : Int) ∧ 1 + (k : Int) ≤ 1000 ∧ z.length ≤ 1000 then some (D.str (repS z (1 + (k : Int)).toNat)) else none) = _
  rw [if_pos ⟨by omega, by omega, h1⟩, show (1 + (k : Int)).toNat = k + 1 by omega]
theorem app_len (a b : Str) : (a ++ b).length = a.length + b.length := by
  rw [← len_toList, ← len_toList, ← len_toList, app_list, List.length_append]
def r_Names : DS :=
  (sSeq (sSetO 2 (xLst aNil))
    (sSeq (sFor (iRg1 (xVar 1)) (gN 3)
    (sSeq (sSet 4 (xOp2 dIx (xC (.str "abcdefghijklm")) (xFn F_Draw (aCons (xVar 0) (aCons (xC (.int 13)) aNil)))))
    (sSeq (sIf (tB' (xOp2 (dEq false) (xFn F_Draw (aCons (xVar 0) (aCons (xC (.int 3)) aNil))) (xC (.int 0))))
    (sSet 4 (xOp2 dAdd (xVar 4) (xOp2 dMul (xOp2 dIx (xC (.str "nopz")) (xFn F_Draw (aCons (xVar 0) (aCons (xC (.int 4)) aNil)))) (xOp2 dAdd (xC (.int 1)) (xFn F_Draw (aCons (xVar 0) (aCons (xC (.int 7)) aNil)))))))
    sNil)
    (sSeq (sIf (tB' (xOp2 (dIn false) (xVar 4) (xVar 2)))
    (sSet 4 (xOp2 dAdd (xOp2 dIx (xC (.str "qrstuvwxy")) (xVar 3)) (xSl (xVar 4) oNone (oSome (xC (.int 6))))))
    sNil)
    (sApp 2 (xVar 4))))))
    (sRet (xB dSorted (aCons (xVar 2) aNil)))))
def F_Names : DF := fun ds A _ => ∃ m : Nat, ds = [.well 2, .int m] ∧ m ≤ 9 ∧ ∀ xs : List Str, xs.length = m → xs.Nodup → (∀ x ∈ xs, Nm1 9 x) → srt xs = xs → A (lstS xs)
theorem srt_srt (l : List Str) : srt (srt l) = srt l := srt_congr (srt_perm l)
theorem n_Names (ds : List D) (A : D → Prop) (Ax : XQ) (h : F_Names ds A Ax) : fnD 1 5 2 r_Names ds A Ax := by
  obtain ⟨m, rfl, hm, q⟩ := h
  simp only [r_Names, fnD, iniD, startD, sNil, sSeq, sIf, sRet, sSet, sSetO, sExpr, sApp, sPut, sClr, sExt, sIns, sRaise, sRaise2, sAsg, sFor, sSetM, sAppM, sFld', xPopAt, xPop, xVar, xC, xOp1, xOp2, xNeg, xAnd, xOr, xNot, xIf, xB, xFn, xTup, xLst, xFld, xDGet, xDIn, xSl, xChain, oNone, oSome, aNil, aCons, tB', tAnd', tOr', tNot', tYesD, gN, gT, gsN, gsC, iLst, iTupD, iRg1, iRg2, iEnm, iTxt, List.map_cons, List.map_nil, List.length_cons, List.length_nil, List.replicate, List.replicate_succ, List.replicate_zero, List.cons_append, List.nil_append, List.set_cons_zero, List.set_cons_succ, List.getElem?_cons_zero, List.getElem?_cons_succ, Option.some.injEq, D.int.injEq, D.str.injEq, D.bl.injEq, D.lst.injEq, D.tup.injEq, D.dic.injEq, D.ins.injEq, exists_eq_left, exists_eq_left', exists_eq_right, exists_eq_right', exists_and_left, and_true, true_and, Nat.reduceAdd, Nat.reduceSub, Nat.reduceLT, Nat.reduceEqDiff, Nat.add_one_sub_one, Nat.sub_zero, if_true, if_false, Bool.false_eq_true, reduceIte, wipeR, List.cons.injEq, Nat.zero_add, reduceCtorEq, false_and, exists_false, Bool.false_bne, Bool.true_bne, len_lst, len_tup, len_scr, in_lst, in_tup, dKey_str, dKey_int, and_assoc, eq_int, dSub, dLt, dLe, dGt, dGe, isNonD, dIs, dMin, dMax, xMeth, xMeth0, xEqO, xXf, sTry, catchD, offD, add_int, dList, dTuple, xFlt, xFltC, xFltX, xFltCX, xX, sAppP, sClrP, sFldP, sPutP, pVar, pIx, pFld, id, xDisp, pairsD, xNames, xMethF, xMeth0F, aStar, xTGet, xTIn, sPutT, sRaise0, sTryM, catchM, emEq, tKey_strs, famNs, Option.isSome_some, iSqV]
  refine ⟨(by decide : 0 ≤ 100000), by omega, by omega, ?_⟩
  refine for_range 0 m (fun i ρ => ∃ xs a b, ρ = [some (.well 2), some (.int m), some (lstS xs), a, b] ∧ xs.length = i ∧ xs.Nodup ∧ ∀ x ∈ xs, Nm1 i x) ⟨[], none, none, rfl, rfl, List.nodup_nil, fun x hx => by cases hx⟩ (fun i ρ N hi p n => ?_) (fun ρ p => ?_)
  · obtain ⟨xs, a, b, rfl, hl, nd, hN⟩ := p
    simp only [fnD, iniD, startD, sNil, sSeq, sIf, sRet, sSet, sSetO, sExpr, sApp, sPut, sClr, sExt, sIns, sRaise, sRaise2, sAsg, sFor, sSetM, sAppM, sFld', xPopAt, xPop, xVar, xC, xOp1, xOp2, xNeg, xAnd, xOr, xNot, xIf, xB, xFn, xTup, xLst, xFld, xDGet, xDIn, xSl, xChain, oNone, oSome, aNil, aCons, tB', tAnd', tOr', tNot', tYesD, gN, gT, gsN, gsC, iLst, iTupD, iRg1, iRg2, iEnm, iTxt, List.map_cons, List.map_nil, List.length_cons, List.length_nil, List.replicate, List.replicate_succ, List.replicate_zero, List.cons_append, List.nil_append, List.set_cons_zero, List.set_cons_succ, List.getElem?_cons_zero, List.getElem?_cons_succ, Option.some.injEq, D.int.injEq, D.str.injEq, D.bl.injEq, D.lst.injEq, D.tup.injEq, D.dic.injEq, D.ins.injEq, exists_eq_left, exists_eq_left', exists_eq_right, exists_eq_right', exists_and_left, and_true, true_and, Nat.reduceAdd, Nat.reduceSub, Nat.reduceLT, Nat.reduceEqDiff, Nat.add_one_sub_one, Nat.sub_zero, if_true, if_false, Bool.false_eq_true, reduceIte, wipeR, List.cons.injEq, Nat.zero_add, reduceCtorEq, false_and, exists_false, Bool.false_bne, Bool.true_bne, len_lst, len_tup, len_scr, in_lst, in_tup, dKey_str, dKey_int, and_assoc, eq_int, dSub, dLt, dLe, dGt, dGe, isNonD, dIs, dMin, dMax, xMeth, xMeth0, xEqO, xXf, sTry, catchD, offD, add_int, dList, dTuple, xFlt, xFltC, xFltX, xFltCX, xX, sAppP, sClrP, sFldP, sPutP, pVar, pIx, pFld, id, xDisp, pairsD, xNames, xMethF, xMeth0F, aStar, xTGet, xTIn, sPutT, sRaise0, sTryM, catchM, emEq, tKey_strs, famNs, Option.isSome_some, iSqV]
    refine ⟨13, rfl, by decide, by decide, fun d hd => ?_⟩
    have hd' : d < low.length := by
      have : low.length = 13 := by decide +kernel
      omega
    refine ⟨_, ix_str' (List.getElem?_eq_getElem (l := low) hd') (by decide +kernel), ?_⟩
    have hc : low[d] ∈ low := List.getElem_mem hd'
    generalize low[d] = c at hc ⊢
    apply viaT (R := fun z => Nm1 0 z)
    · intro key
      refine ⟨3, rfl, by decide, by decide, fun e he => ?_⟩
      refine ⟨_, eq_int false e 0, _, rfl, ?_⟩
      by_cases c1 : ¬ (e : Int) = 0
      · rw [Bool.false_bne, if_neg (by rw [decide_eq_false c1]; decide)]
        have hz : Nm1 0 (sign c) := nm_one hc
        have e0 : D.str { cps := #[c] } = D.str (sign c) := rfl
        rw [e0]
        generalize sign c = z at hz ⊢
        exact key z hz
      · have c1 := Decidable.not_not.mp c1
        rw [Bool.false_bne, if_pos (decide_eq_true c1)]
        refine ⟨4, rfl, by decide, by decide, fun d2 hd2 => ?_⟩
        have hd2' : d2 < ("nopz" : Str).cps.toList.length := by
          have : ("nopz" : Str).cps.toList.length = 4 := by decide +kernel
          omega
        refine ⟨_, ix_str' (List.getElem?_eq_getElem hd2') (by decide +kernel), 7, rfl, by decide, by decide, fun k hk => ?_⟩
        have hc2 : ("nopz" : Str).cps.toList[d2] ∈ ("nopz" : Str).cps.toList := List.getElem_mem hd2'
        generalize ("nopz" : Str).cps.toList[d2] = c2 at hc2 ⊢
        have em : dMul (.str (sign c2)) (.int (1 + (k : Int))) = some (.str (repS (sign c2) (k + 1))) := mul_str (by show 1 ≤ 1000; decide) (by omega)
        have ea : dAdd (.str (sign c)) (.str (repS (sign c2) (k + 1))) = some (.str (sign c ++ repS (sign c2) (k + 1))) := add_str (by rw [rep_len]; show 1 + (k + 1) * 1 ≤ 1000; omega)
        exact ⟨_, rfl, _, em, _, ea, key (sign c ++ repS (sign c2) (k + 1)) (nm_more (n := k + 1) hc hc2 (by omega))⟩
    · intro z hz
      have z0 : (0 : Int) + (i : Int) = (i : Int) := Int.zero_add _
      have hl2 : (xs.map D.str).length < 100000 := by rw [List.length_map]; omega
      refine ⟨_, in_lst false z xs, _, rfl, ?_⟩
      rw [Bool.false_bne]
      have done : ∀ z, Nm1 (i + 1) z → z ∉ xs → N [some (D.well 2), some (D.int ↑m), some (D.lst (List.map D.str xs ++ [D.str z])), some (D.int (0 + ↑i)), some (D.str z)] := fun z h1 h2 => n _ ⟨xs ++ [z], _, _, by rw [lstS, List.map_append]; rfl, by rw [List.length_append]; show xs.length + 1 = i + 1; omega, List.nodup_append.mpr ⟨nd, List.nodup_cons.mpr ⟨List.not_mem_nil, List.nodup_nil⟩, fun a ha b hb e => h2 (by rw [← List.mem_singleton.mp hb, ← e]; exact ha)⟩, fun x hx => ?_⟩
      · by_cases c3 : z ∈ xs
        · rw [if_pos (decide_eq_true c3)]
          have hh : hi9[i]? = some (hi9[i]'(by rw [hi_len]; omega)) := List.getElem?_eq_getElem _
          obtain ⟨n1, n2⟩ := nm_moved hz.nm hh
          have hlen : (sign (hi9[i]'(by rw [hi_len]; omega)) ++ cutS z none (some 6)).length ≤ 8 := by
            have := (Bool.and_eq_true_iff.mp n1.nm).2
            exact of_decide_eq_true (Bool.and_eq_true_iff.mp this).1
          rw [z0]
          refine ⟨_, ix_str' hh (by decide +kernel), .str (cutS z none (some 6)), ?_, .str (sign (hi9[i]'(by rw [hi_len]; omega)) ++ cutS z none (some 6)), ?_, hl2, ?_⟩
          · show (if z.length ≤ big then some (D.str (cutS z none (some 6))) else none) = _
            rw [if_pos ?_]
            have := (Bool.and_eq_true_iff.mp hz.nm).2
            have := of_decide_eq_true (Bool.and_eq_true_iff.mp this).1
            show _ ≤ 100000
            omega
          · refine add_str ?_
            have e := app_len (sign (hi9[i]'(by rw [hi_len]; omega))) (cutS z none (some 6))
            show (sign (hi9[i]'(by rw [hi_len]; omega))).length + _ ≤ 1000
            omega
          · have := done _ n1 fun hx => n2 _ (hN _ hx) rfl
            rw [z0] at this
            exact this
        · rw [if_neg (by rw [decide_eq_false c3]; decide)]
          exact ⟨hl2, done z (nm1_mono (Nat.zero_le _) hz) c3⟩
      · rcases List.mem_append.mp hx with hx | hx
        · exact nm1_mono (Nat.le_succ i) (hN x hx)
        · rw [List.mem_singleton.mp hx]; exact h1
  · obtain ⟨xs, a, b, rfl, hl, nd, hN⟩ := p
    have hl' : xs.length = m := by omega
    simp only [fnD, iniD, startD, sNil, sSeq, sIf, sRet, sSet, sSetO, sExpr, sApp, sPut, sClr, sExt, sIns, sRaise, sRaise2, sAsg, sFor, sSetM, sAppM, sFld', xPopAt, xPop, xVar, xC, xOp1, xOp2, xNeg, xAnd, xOr, xNot, xIf, xB, xFn, xTup, xLst, xFld, xDGet, xDIn, xSl, xChain, oNone, oSome, aNil, aCons, tB', tAnd', tOr', tNot', tYesD, gN, gT, gsN, gsC, iLst, iTupD, iRg1, iRg2, iEnm, iTxt, List.map_cons, List.map_nil, List.length_cons, List.length_nil, List.replicate, List.replicate_succ, List.replicate_zero, List.cons_append, List.nil_append, List.set_cons_zero, List.set_cons_succ, List.getElem?_cons_zero, List.getElem?_cons_succ, Option.some.injEq, D.int.injEq, D.str.injEq, D.bl.injEq, D.lst.injEq, D.tup.injEq, D.dic.injEq, D.ins.injEq, exists_eq_left, exists_eq_left', exists_eq_right, exists_eq_right', exists_and_left, and_true, true_and, Nat.reduceAdd, Nat.reduceSub, Nat.reduceLT, Nat.reduceEqDiff, Nat.add_one_sub_one, Nat.sub_zero, if_true, if_false, Bool.false_eq_true, reduceIte, wipeR, List.cons.injEq, Nat.zero_add, reduceCtorEq, false_and, exists_false, Bool.false_bne, Bool.true_bne, len_lst, len_tup, len_scr, in_lst, in_tup, dKey_str, dKey_int, and_assoc, eq_int, dSub, dLt, dLe, dGt, dGe, isNonD, dIs, dMin, dMax, xMeth, xMeth0, xEqO, xXf, sTry, catchD, offD, add_int, dList, dTuple, xFlt, xFltC, xFltX, xFltCX, xX, sAppP, sClrP, sFldP, sPutP, pVar, pIx, pFld, id, xDisp, pairsD, xNames, xMethF, xMeth0F, aStar, xTGet, xTIn, sPutT, sRaise0, sTryM, catchM, emEq, tKey_strs, famNs, Option.isSome_some, iSqV]
    refine ⟨_, sorted_lst (by omega), q (srt xs) (by rw [srt_len]; exact hl') ((srt_perm xs).nodup_iff.mpr nd) (fun x hx => nm1_mono (by omega) (hN x ((srt_perm xs).mem_iff.mp hx))) (srt_srt xs)⟩
end Dz
namespace Dz
open PySem PySem.Spec PyProof.Rows L2 Evl Bf
/-! ### plainly: what does not cross -/
theorem cut_take {α : Type} (xs : List α) (k : Nat) : cut xs none (some (k : Int)) = xs.take k := by
  unfold cut
  rw [HT.sIx_none, HT.sIx_nat, List.drop_zero, Nat.sub_zero, List.take_eq_take_iff]
  omega
theorem cut_drop {α : Type} (xs : List α) (k : Nat) : cut xs (some (k : Int)) none = xs.drop k := by
  unfold cut
  rw [HT.sIx_none, HT.sIx_nat]
  have e : xs.drop (min k xs.length) = xs.drop k := by
    by_cases h : k ≤ xs.length
    · rw [Nat.min_eq_left h]
    · rw [Nat.min_eq_right (by omega), List.drop_of_length_le (by omega : xs.length ≤ xs.length), List.drop_of_length_le (by omega)]
  rw [e]
  refine List.take_of_length_le ?_
  rw [List.length_drop]
  omega
theorem nodup_len : ∀ {b c : List Str}, b.Nodup → (∀ x ∈ b, x ∈ c) → b.length ≤ c.length
  | [], _, _, _ => Nat.zero_le _
  | x :: b, c, h, s => by
    obtain ⟨h1, h2⟩ := List.nodup_cons.mp h
    have hx := s x List.mem_cons_self
    have e := (List.perm_cons_erase hx).length_eq
    rw [List.length_cons] at e
    have := nodup_len (c := c.erase x) h2 fun y hy => (List.mem_erase_of_ne (fun z : y = x => h1 (z ▸ hy))).mpr (s y (List.mem_cons_of_mem _ hy))
    rw [List.length_cons]
    omega
theorem nc_disj {a b : List Str} (h : ∀ x ∈ a, x ∉ b) : crossB a b = false := by
  unfold crossB
  have e : shareL a b = [] := List.filter_eq_nil_iff.mpr fun x hx => by simpa using h x hx
  rw [e]
  rfl
theorem nc_sub {a b : List Str} (h : ∀ x ∈ a, x ∈ b) : crossB a b = false := by
  unfold crossB
  have e : shareL a b = a := List.filter_eq_self.mpr fun x hx => by simpa using h x hx
  rw [e, decide_eq_false (p := a.length < min a.length b.length) (by omega), Bool.and_false]
theorem nc_sup {a b : List Str} (nb : b.Nodup) (h : ∀ x ∈ b, x ∈ a) : crossB a b = false := by
  unfold crossB
  have e : b.length ≤ (shareL a b).length := nodup_len nb fun x hx => List.mem_filter.mpr ⟨h x hx, by simpa using hx⟩
  rw [decide_eq_false (p := (shareL a b).length < min a.length b.length) (by omega), Bool.and_false]
theorem perm_inv {α : Type} {f : α → D} (g : D → α) (hg : ∀ a, g (f a) = a) {ys : List D} {xs : List α} (h : ys.Perm (xs.map f)) : ∃ zs : List α, ys = zs.map f ∧ zs.Perm xs := by
  refine ⟨ys.map g, ?_, ?_⟩
  · rw [List.map_map]
    have : ∀ y ∈ ys, (f ∘ g) y = y := fun y hy => by
      obtain ⟨a, _, rfl⟩ := List.mem_map.mp (h.mem_iff.mp hy)
      show f (g (f a)) = f a
      rw [hg]
    exact (List.map_congr_left this).symm ▸ (List.map_id ys).symm
  · have := h.map g
    rw [List.map_map, show g ∘ f = id from funext hg, List.map_id] at this
    exact this
structure LR (xs : List Str) (rs : List (List Str × Int)) : Prop where
  sub : ∀ r ∈ rs, ∀ x ∈ r.1, x ∈ xs
  nd : ∀ r ∈ rs, r.1.Nodup
  nn : ∀ r ∈ rs, 0 ≤ r.2
  nc : ∀ r ∈ rs, ∀ s ∈ rs, crossB r.1 s.1 = false
theorem LR.nil (xs : List Str) : LR xs [] := ⟨fun r hr => absurd hr List.not_mem_nil, fun r hr => absurd hr List.not_mem_nil, fun r hr => absurd hr List.not_mem_nil, fun r hr => absurd hr List.not_mem_nil⟩
theorem LR.mono {xs ys : List Str} {rs : List (List Str × Int)} (h : LR xs rs) (s : ∀ x ∈ xs, x ∈ ys) : LR ys rs := ⟨fun r hr x hx => s x (h.sub r hr x hx), h.nd, h.nn, h.nc⟩
theorem LR.app {xs : List Str} {rs ss : List (List Str × Int)} (h : LR xs rs) (g : LR xs ss) (c1 : ∀ r ∈ rs, ∀ s ∈ ss, crossB r.1 s.1 = false) (c2 : ∀ r ∈ rs, ∀ s ∈ ss, crossB s.1 r.1 = false) : LR xs (rs ++ ss) where
  sub := fun r hr => (List.mem_append.mp hr).elim (h.sub r) (g.sub r)
  nd := fun r hr => (List.mem_append.mp hr).elim (h.nd r) (g.nd r)
  nn := fun r hr => (List.mem_append.mp hr).elim (h.nn r) (g.nn r)
  nc := fun r hr s hs => by
    rcases List.mem_append.mp hr with hr | hr <;> rcases List.mem_append.mp hs with hs | hs
    · exact h.nc r hr s hs
    · exact c1 r hr s hs
    · exact c2 s hs r hr
    · exact g.nc r hr s hs
def F_LR (n : Nat) : DF := fun ds A _ => ∃ (xs : List Str) (d : Nat), ds = [.well 2, lstS xs, .int d] ∧ d < n ∧ xs.Nodup ∧ xs.length ≤ 9 ∧ n ≤ 9 ∧ (∀ x ∈ xs, PyData.strOk x = true) ∧ ∀ rs, LR xs rs → rs.length ≤ (d + 1) * xs.length → A (.lst (rs.map roomL))
theorem viaF {α : Type} {p : Prop} {C R : α → Prop} (h1 : (∀ z, R z → C z) → p) (h2 : ∀ z, R z → C z) : p := h1 h2
def r_LRooms (F_LRooms : DF) : DS :=
  (sSeq (sSetO 3 (xLst aNil))
    (sSeq (sSet 4 (xFn F_Mixed (aCons (xVar 0) (aCons (xVar 1) aNil))))
    (sSeq (sWhile (tB' (xOp2 (dEq true) (xVar 4) (xLst aNil)))
    (sSeq (sSet 5 (xOp2 dAdd (xC (.int 1)) (xFn F_Draw (aCons (xVar 0) (aCons (xB dLen (aCons (xVar 4) aNil)) aNil)))))
    (sSeq (sSet 6 (xSl (xVar 4) oNone (oSome (xVar 5))))
    (sSeq (sSet 4 (xSl (xVar 4) (oSome (xVar 5)) oNone))
    (sSeq (sIf (tB' (xOp2 dGt (xFn F_Draw (aCons (xVar 0) (aCons (xC (.int 3)) aNil))) (xC (.int 0))))
    (sApp 3 (xTup (aCons (xVar 6) (aCons (xFn F_Draw (aCons (xVar 0) (aCons (xOp2 dAdd (xB dMin (aCons (xB dLen (aCons (xVar 6) aNil)) (aCons (xC (.int 3)) aNil))) (xC (.int 1))) aNil))) aNil))))
    sNil)
    (sIf (tAnd' (tB' (xOp2 dGt (xVar 2) (xC (.int 0)))) (tB' (xOp2 dGt (xB dLen (aCons (xVar 6) aNil)) (xC (.int 1)))))
    (sSetO 3 (xOp2 dCat (xVar 3) (xFn F_LRooms (aCons (xVar 0) (aCons (xVar 6) (aCons (xOp2 dSub (xVar 2) (xC (.int 1))) aNil))))))
    sNil))))))
    (sRet (xVar 3)))))
theorem eq_nil {neg : Bool} {xs : List Str} (h : okS xs) : dEq neg (lstS xs) (.lst []) = some (.bl (neg != decide (xs = []))) :=
  eq_of (okE_up (by decide) _ (ok_lstS h)) rfl ⟨fun z => by rw [of_decide_eq_true z]; rfl, fun z => decide_eq_true (List.map_eq_nil_iff.mp (D.lst.inj z))⟩
theorem n_LRooms (n : Nat) (ds : List D) (A : D → Prop) (Ax : XQ) (h : F_LR (n + 1) ds A Ax) : fnD 1 7 3 (r_LRooms (F_LR n)) ds A Ax := by
  obtain ⟨xs, d, rfl, hd, nd, hl, n9, ok, q⟩ := h
  simp only [r_LRooms, fnD, iniD, startD, sNil, sSeq, sIf, sRet, sSet, sSetO, sExpr, sApp, sPut, sClr, sExt, sIns, sRaise, sRaise2, sAsg, sFor, sSetM, sAppM, sFld', xPopAt, xPop, xVar, xC, xOp1, xOp2, xNeg, xAnd, xOr, xNot, xIf, xB, xFn, xTup, xLst, xFld, xDGet, xDIn, xSl, xChain, oNone, oSome, aNil, aCons, tB', tAnd', tOr', tNot', tYesD, gN, gT, gsN, gsC, iLst, iTupD, iRg1, iRg2, iEnm, iTxt, List.map_cons, List.map_nil, List.length_cons, List.length_nil, List.replicate, List.replicate_succ, List.replicate_zero, List.cons_append, List.nil_append, List.set_cons_zero, List.set_cons_succ, List.getElem?_cons_zero, List.getElem?_cons_succ, Option.some.injEq, D.int.injEq, D.str.injEq, D.bl.injEq, D.lst.injEq, D.tup.injEq, D.dic.injEq, D.ins.injEq, exists_eq_left, exists_eq_left', exists_eq_right, exists_eq_right', exists_and_left, and_true, true_and, Nat.reduceAdd, Nat.reduceSub, Nat.reduceLT, Nat.reduceEqDiff, Nat.add_one_sub_one, Nat.sub_zero, if_true, if_false, Bool.false_eq_true, reduceIte, wipeR, List.cons.injEq, Nat.zero_add, reduceCtorEq, false_and, exists_false, Bool.false_bne, Bool.true_bne, len_lst, len_tup, len_scr, in_lst, in_tup, dKey_str, dKey_int, and_assoc, eq_int, dSub, dLt, dLe, dGt, dGe, isNonD, dIs, dMin, dMax, xMeth, xMeth0, xEqO, xXf, sTry, catchD, offD, add_int, dList, dTuple, xFlt, xFltC, xFltX, xFltCX, xX, sAppP, sClrP, sFldP, sPutP, pVar, pIx, pFld, id, xDisp, pairsD, xNames, xMethF, xMeth0F, aStar, xTGet, xTIn, sPutT, sRaise0, sTryM, catchM, emEq, tKey_strs, famNs, Option.isSome_some, iSqV]
  refine ⟨(by decide : 0 ≤ 100000), lstS xs, xs.map D.str, rfl, rfl, by rw [List.length_map]; omega, fun ys hp => ?_⟩
  obtain ⟨zs, rfl, hz⟩ : ∃ zs : List Str, ys = zs.map D.str ∧ zs.Perm xs := perm_inv (fun d => (toS d).getD "") (fun _ => rfl) hp
  refine ⟨fun m ρ => ∃ done rest found a b, ρ = [some (.well 2), some (lstS xs), some (.int d), some (.lst (found.map roomL)), some (lstS rest), a, b] ∧ m = rest.length ∧ (done ++ rest).Perm xs ∧ LR done found ∧ found.length ≤ (d + 1) * done.length, ⟨_, [], zs, [], none, none, rfl, rfl, hz, LR.nil [], by simp⟩, ?_⟩
  rintro m ρ ⟨done, rest, found, a, b, rfl, rfl, hp, hL, hc⟩
  have hlen := hp.length_eq
  rw [List.length_append] at hlen
  have ndp : (done ++ rest).Nodup := hp.nodup_iff.mpr nd
  obtain ⟨nd1, nd2, dj⟩ := List.nodup_append.mp ndp
  have okr : okS rest := ⟨by omega, fun x hx => ok x (hp.mem_iff.mp (List.mem_append_right _ hx))⟩
  simp only [fnD, iniD, startD, sNil, sSeq, sIf, sRet, sSet, sSetO, sExpr, sApp, sPut, sClr, sExt, sIns, sRaise, sRaise2, sAsg, sFor, sSetM, sAppM, sFld', xPopAt, xPop, xVar, xC, xOp1, xOp2, xNeg, xAnd, xOr, xNot, xIf, xB, xFn, xTup, xLst, xFld, xDGet, xDIn, xSl, xChain, oNone, oSome, aNil, aCons, tB', tAnd', tOr', tNot', tYesD, gN, gT, gsN, gsC, iLst, iTupD, iRg1, iRg2, iEnm, iTxt, List.map_cons, List.map_nil, List.length_cons, List.length_nil, List.replicate, List.replicate_succ, List.replicate_zero, List.cons_append, List.nil_append, List.set_cons_zero, List.set_cons_succ, List.getElem?_cons_zero, List.getElem?_cons_succ, Option.some.injEq, D.int.injEq, D.str.injEq, D.bl.injEq, D.lst.injEq, D.tup.injEq, D.dic.injEq, D.ins.injEq, exists_eq_left, exists_eq_left', exists_eq_right, exists_eq_right', exists_and_left, and_true, true_and, Nat.reduceAdd, Nat.reduceSub, Nat.reduceLT, Nat.reduceEqDiff, Nat.add_one_sub_one, Nat.sub_zero, if_true, if_false, Bool.false_eq_true, reduceIte, wipeR, List.cons.injEq, Nat.zero_add, reduceCtorEq, false_and, exists_false, Bool.false_bne, Bool.true_bne, len_lst, len_tup, len_scr, in_lst, in_tup, dKey_str, dKey_int, and_assoc, eq_int, dSub, dLt, dLe, dGt, dGe, isNonD, dIs, dMin, dMax, xMeth, xMeth0, xEqO, xXf, sTry, catchD, offD, add_int, dList, dTuple, xFlt, xFltC, xFltX, xFltCX, xX, sAppP, sClrP, sFldP, sPutP, pVar, pIx, pFld, id, xDisp, pairsD, xNames, xMethF, xMeth0F, aStar, xTGet, xTIn, sPutT, sRaise0, sTryM, catchM, emEq, tKey_strs, famNs, Option.isSome_some, iSqV]
  refine ⟨(by decide : 0 ≤ 100000), _, eq_nil okr, _, rfl, ?_⟩
  by_cases c0 : rest = []
  · rw [if_neg (by rw [decide_eq_true c0]; decide)]
    subst c0
    rw [List.append_nil] at hp
    refine q found (hL.mono fun x hx => hp.mem_iff.mp hx) ?_
    rw [← hp.length_eq]
    exact hc
  · rw [if_pos (by rw [decide_eq_false c0]; rfl)]
    have hr0 : 0 < rest.length := List.length_pos_iff.mpr c0
    refine ⟨fun ρ' => ∃ m', m' < rest.length ∧ ∃ done rest found a b, ρ' = [some (.well 2), some (lstS xs), some (.int d), some (.lst (found.map roomL)), some (lstS rest), a, b] ∧ m' = rest.length ∧ (done ++ rest).Perm xs ∧ LR done found ∧ found.length ≤ (d + 1) * done.length, fun ρ' h => h, _, rfl, by rw [List.length_map]; omega, by rw [List.length_map]; omega, fun k hk => ?_⟩
    rw [List.length_map] at hk
    have hk' : k + 1 ≤ rest.length := by omega
    have e1 : (1 + (k : Int)) = ((k + 1 : Nat) : Int) := by omega
    refine ⟨_, rfl, _, rfl, .lst (cut (rest.map D.str) none (some (1 + (k : Int)))), rfl, _, rfl, .lst (cut (rest.map D.str) (some (1 + (k : Int))) none), rfl, ?_⟩
    rw [e1, cut_take, cut_drop, ← List.map_take, ← List.map_drop]
    have hlot : (rest.take (k + 1)).length = k + 1 := by rw [List.length_take]; omega
    have hrl : (rest.drop (k + 1)).length < rest.length := by rw [List.length_drop]; omega
    have hsp : rest = rest.take (k + 1) ++ rest.drop (k + 1) := (List.take_append_drop _ _).symm
    generalize rest.take (k + 1) = lot at hlot hsp ⊢
    generalize rest.drop (k + 1) = more at hrl hsp ⊢
    have hlr : rest.length = lot.length + more.length := by rw [hsp, List.length_append]
    have ndl : lot.Nodup := by rw [hsp] at nd2; exact (List.nodup_append.mp nd2).1
    have dl : ∀ x ∈ done, x ∉ lot := fun x hx hl => dj x hx x (by rw [hsp]; exact List.mem_append_left _ hl) rfl
    have okl : ∀ x ∈ lot, PyData.strOk x = true := fun x hx => okr.2 x (by rw [hsp]; exact List.mem_append_left _ hx)
    have hp' : (done ++ lot ++ more).Perm xs := by rw [List.append_assoc, ← hsp]; exact hp
    have fl : found.length ≤ 81 := by
      have h1 : (d + 1) * done.length ≤ 9 * 9 := Nat.mul_le_mul (by omega) (by omega)
      omega
    apply viaF (R := fun fs : List (List Str × Int) => LR (done ++ lot) fs ∧ (∀ r ∈ fs, (∀ x ∈ r.1, x ∈ done) ∨ r.1 = lot) ∧ fs.length ≤ found.length + 1)
    · intro key
      refine ⟨3, rfl, by decide, by decide, fun e he => ⟨_, rfl, _, rfl, ?_⟩⟩
      by_cases c1 : ¬ (0 : Int) < (e : Int)
      · rw [if_neg (by rw [decide_eq_false c1]; decide)]
        have hf : LR (done ++ lot) found ∧ (∀ r ∈ found, (∀ x ∈ r.1, x ∈ done) ∨ r.1 = lot) ∧ found.length ≤ found.length + 1 := ⟨hL.mono fun x hx => List.mem_append_left _ hx, fun r hr => .inl (hL.sub r hr), Nat.le_succ _⟩
        generalize hfs : found = fs at hf
        exact key fs (by rw [hfs]; exact hf)
      · have c1 := Decidable.not_not.mp c1
        rw [if_pos (decide_eq_true c1)]
        refine ⟨by rw [List.length_map]; show _ < 100000; omega, _, rfl, _, rfl, _, rfl, _, rfl, ?_, ?_, fun c hc2 => ?_⟩
        · split <;> omega
        · split <;> omega
        refine ⟨(by decide : 2 ≤ 100000), ?_⟩
        have e2 : found.map roomL ++ [D.tup [D.lst (lot.map D.str), D.int (c : Nat)]] = (found ++ [(lot, (c : Int))]).map roomL := by rw [List.map_append]; rfl
        rw [e2]
        refine key _ ⟨LR.app (hL.mono fun x hx => List.mem_append_left _ hx) ⟨fun r hr x hx => ?_, fun r hr => ?_, fun r hr => ?_, fun r hr s hs => ?_⟩ (fun r hr s hs => ?_) (fun r hr s hs => ?_), fun r hr => ?_, by rw [List.length_append]; exact Nat.le_refl _⟩
        · rw [List.mem_singleton.mp hr] at hx; exact List.mem_append_right _ hx
        · rw [List.mem_singleton.mp hr]; exact ndl
        · rw [List.mem_singleton.mp hr]; exact Int.natCast_nonneg c
        · rw [List.mem_singleton.mp hr, List.mem_singleton.mp hs]; exact nc_sub fun x hx => hx
        · rw [List.mem_singleton.mp hs]; exact nc_disj fun x hx => dl x (hL.sub r hr x hx)
        · rw [List.mem_singleton.mp hs]; exact nc_disj fun x hx hx2 => dl x (hL.sub r hr x hx2) hx
        · rcases List.mem_append.mp hr with hr | hr
          · exact .inl (hL.sub r hr)
          · rw [List.mem_singleton.mp hr]; exact .inr rfl
    · rintro fs ⟨h1, h2, h3⟩
      have done1 : ∀ gs : List (List Str × Int), LR (done ++ lot) gs → gs.length ≤ found.length + 1 + d * lot.length → ∃ m', m' < rest.length ∧ ∃ done rest found a b, [some (D.well 2), some (lstS xs), some (D.int ↑d), some (D.lst (List.map roomL gs)), some (D.lst (List.map D.str more)), some (D.int ↑(k + 1)), some (D.lst (List.map D.str lot))] = [some (.well 2), some (lstS xs), some (.int d), some (.lst (found.map roomL)), some (lstS rest), a, b] ∧ m' = rest.length ∧ (done ++ rest).Perm xs ∧ LR done found ∧ found.length ≤ (d + 1) * done.length := fun gs g1 g2 =>
        ⟨more.length, hrl, done ++ lot, more, gs, _, _, rfl, rfl, hp', g1, by rw [List.length_append, Nat.mul_add]; have := Nat.succ_mul d lot.length; have e3 : (d + 1) * lot.length = d * lot.length + lot.length := this; omega⟩
      by_cases c2 : (0 : Int) < (d : Int)
      · rw [if_pos (decide_eq_true c2)]
        refine ⟨_, rfl, _, rfl, _, rfl, ?_⟩
        by_cases c3 : (1 : Int) < (lot.map D.str).length
        · rw [if_pos (decide_eq_true c3)]
          have ed : ((d : Int) - 1) = ((d - 1 : Nat) : Int) := by omega
          rw [ed]
          refine ⟨lot, d - 1, rfl, by omega, ndl, by omega, by omega, okl, fun rs g1 g2 => ?_⟩
          have ed2 : d - 1 + 1 = d := by omega
          rw [ed2] at g2
          have b1 : d * lot.length ≤ 9 * 9 := Nat.mul_le_mul (by omega) (by omega)
          refine ⟨_, cat_lst (by rw [List.length_map, List.length_map]; omega), ?_⟩
          rw [← List.map_append]
          refine done1 _ (h1.app (g1.mono fun x hx => List.mem_append_right _ hx) (fun r hr s hs => ?_) fun r hr s hs => ?_) (by rw [List.length_append]; omega)
          · rcases h2 r hr with z | z
            · exact nc_disj fun x hx hx2 => dl x (z x hx) (g1.sub s hs x hx2)
            · rw [z]; exact nc_sup (g1.nd s hs) (g1.sub s hs)
          · rcases h2 r hr with z | z
            · exact nc_disj fun x hx hx2 => dl x (z x hx2) (g1.sub s hs x hx)
            · rw [z]; exact nc_sub (g1.sub s hs)
        · rw [if_neg (by rw [decide_eq_false c3]; decide)]
          exact done1 fs h1 (by omega)
      · rw [if_neg (by rw [decide_eq_false c2]; decide)]
        exact done1 fs h1 (by omega)
end Dz
namespace Dz
open PySem PySem.Spec PyProof.Rows L2 Evl Bf
/-! ### things and rooms that are as they should be -/
theorem roomB_of {d : D} (a : anyD d) (h : ∀ l n, d = .tup [l, n] → anyD l ∧ anyD n ∧ ∀ xs, l = .lst xs → xs.length < 64 ∧ ∀ x ∈ xs, anyD x) : RoomB d :=
  ⟨⟨a, fun l n e => ⟨⟨(h l n e).1, fun xs ex => ⟨by have := ((h l n e).2.2 xs ex).1; omega, ((h l n e).2.2 xs ex).2⟩⟩, (h l n e).2.1⟩⟩, fun l n e => ((h _ _ e).2.2 l rfl).1⟩
structure Good (th : List Str) : Prop where
  nd : th.Nodup
  nm : ∀ x ∈ th, Nm1 9 x
  so : srt th = th
  l0 : 1 ≤ th.length
  l9 : th.length ≤ 9
theorem toS_str (xs : List Str) : (xs.map D.str).map toS = xs.map some := by rw [List.map_map]; rfl
theorem txt_some (xs : List Str) : txt (xs.map some) = xs := by unfold txt; rw [List.map_map]; exact List.map_id _
theorem nm_nma {x : Str} (h : isNm x = true) : NmA (.str x) := ⟨rfl, fun z e => by cases e; exact (Bf.nm_ok h).1⟩
theorem nd_take {xs : List Str} (h : xs.Nodup) {i : Nat} (hi : i < xs.length) : xs[i] ∉ xs.take i := fun z => by
  obtain ⟨j, hj, e⟩ := List.mem_iff_getElem.mp z
  rw [List.length_take] at hj
  rw [List.getElem_take] at e
  have := (List.getElem_inj h).mp e
  omega
theorem thErr_ok {ys : List Str} (nd : ys.Nodup) (nm : ∀ x ∈ ys, isNm x = true) (l : ys.length ≤ 24) : thErrM 24 ((ys.map D.str).map toS) = none := by
  rw [toS_str]
  unfold thErrM
  rw [List.length_map, if_pos (by omega), first_none fun i hi => ?_]
  · rfl
  · unfold badTh
    rw [getD_of (show (ys.map some)[i]? = some (some ys[i]) by rw [List.getElem?_map, List.getElem?_eq_getElem hi]; rfl), ← List.map_take, txt_some]
    show (!isNm ys[i] || decide (ys[i] ∈ ys.take i)) = false
    rw [nm _ (List.getElem_mem hi), decide_eq_false (nd_take nd hi)]
    rfl
/-- rooms of things that are as they should be -/
structure RmOk (th : List Str) (r : List Str × Int) : Prop where
  nd : r.1.Nodup
  sub : ∀ x ∈ r.1, x ∈ th
  nn : 0 ≤ r.2
theorem room_ok {th : List Str} {r : List Str × Int} (h : RmOk th r) : roomOkD th (roomL r) = true := by
  show (lotOkD th (lstS r.1) && decide (0 ≤ r.2)) = true
  rw [decide_eq_true h.nn, Bool.and_true]
  show ((r.1.map D.str).all (fun x => (toS x).isSome) && (fwOf th (txt ((r.1.map D.str).map toS))).isNone) = true
  rw [toS_str, txt_some]
  have e1 : (r.1.map D.str).all (fun x => (toS x).isSome) = true := by
    rw [List.all_map]
    exact List.all_eq_true.mpr fun x _ => rfl
  have e2 : fwOf th r.1 = none := first_none fun i hi => by
    unfold badIt
    rw [getD_of (List.getElem?_eq_getElem hi), decide_eq_true (h.sub _ (List.getElem_mem hi)), decide_eq_false (nd_take h.nd hi)]
    rfl
  rw [e1, e2]
  rfl
theorem rm_len {th : List Str} {r : List Str × Int} (h : RmOk th r) : r.1.length ≤ th.length := nodup_len h.nd h.sub
theorem room_B {th : List Str} {r : List Str × Int} (h : RmOk th r) (l : th.length ≤ 9) : RoomB (roomL r) := roomB_of rfl fun l' n e => by
  cases e
  refine ⟨rfl, rfl, fun xs e => ?_⟩
  cases e
  refine ⟨by rw [List.length_map]; have := rm_len h; omega, fun x hx => ?_⟩
  obtain ⟨y, _, rfl⟩ := List.mem_map.mp hx
  rfl
def srtR (r : List Str × Int) : List Str × Int := (srt r.1, r.2)
theorem roomOf_L (r : List Str × Int) : roomOf (roomL r) = srtR r := by
  show (srt (txt ((r.1.map D.str).map toS)), r.2) = _
  rw [toS_str, txt_some]
  rfl
theorem cross_srt (a b : List Str) : crossB (srt a) (srt b) = crossB a b := by
  unfold crossB
  have e : (shareL (srt a) (srt b)).length = (shareL a b).length := by
    have e1 : shareL (srt a) (srt b) = (srt a).filter fun x => decide (x ∈ b) := by
      unfold shareL
      congr 1
      funext x
      exact decide_eq_decide.mpr (srt_perm b).mem_iff
    rw [e1]
    exact ((srt_perm a).filter _).length_eq
  rw [e, srt_len, srt_len]
theorem cross_at (rs : List (List Str × Int)) (i j : Nat) : crossAt (rs.map srtR) i j = crossAt rs i j := by
  unfold crossAt
  have g : ∀ k, ((rs.map srtR).getD k ([], 0)).1 = srt (rs.getD k ([], 0)).1 := fun k => by
    simp only [List.getD, List.getElem?_map]
    cases rs[k]? with
    | none => exact (List.eq_nil_of_length_eq_zero (srt_len [])).symm
    | some r => rfl
  rw [g, g, cross_srt]
theorem first_srt (rs : List (List Str × Int)) : firstCross (rs.map srtR) = firstCross rs := by
  unfold firstCross
  have e : crossAt (rs.map srtR) = crossAt rs := by
    funext i j
    exact cross_at rs i j
  rw [e, List.length_map]
/-- what Counts says of such things and rooms -/
theorem cinit_ok {th ys : List Str} {rs : List (List Str × Int)} (g : Good th) (hp : ys.Perm th) (hr : ∀ r ∈ rs, RmOk th r) (l : rs.length ≤ 60) :
    cinitR (ys.map D.str) (rs.map roomL) = match firstCross rs with
      | some (i, j) => .crossed i j
      | none => .made th (rs.map srtR) := by
  unfold cinitR
  have nm : ∀ x ∈ ys, isNm x = true := fun x hx => (g.nm x (hp.mem_iff.mp hx)).nm
  have e0 : srt (txt ((ys.map D.str).map toS)) = th := by
    rw [toS_str, txt_some, srt_congr hp, g.so]
  rw [thErr_ok (hp.nodup_iff.mpr g.nd) nm (by rw [hp.length_eq]; have := g.l9; omega), e0]
  simp only []
  rw [if_neg (by rw [List.length_map]; omega), first_none fun i hi => ?_]
  · have e1 : (rs.map roomL).map roomOf = rs.map srtR := by
      rw [List.map_map]
      exact List.map_congr_left fun r _ => roomOf_L r
    simp only []
    rw [e1, first_srt] <;> (cases firstCross rs <;> rfl)
  · rw [List.length_map] at hi
    rw [getD_of (show (rs.map roomL)[i]? = some (roomL rs[i]) by rw [List.getElem?_map, List.getElem?_eq_getElem hi]; rfl), room_ok (hr _ (List.getElem_mem hi))]
    rfl
theorem initA_ok {th ys : List Str} {rs : List (List Str × Int)} (g : Good th) (hp : ys.Perm th) (hr : ∀ r ∈ rs, RmOk th r) (l : rs.length ≤ 1000) : InitA (ys.map D.str) (rs.map roomL) := by
  refine ⟨fun x hx => ?_, by rw [List.length_map, hp.length_eq]; have := g.l9; omega, fun r hr' => ?_, by rw [List.length_map]; exact l⟩
  · obtain ⟨y, hy, rfl⟩ := List.mem_map.mp hx
    exact nm_nma (g.nm y (hp.mem_iff.mp hy)).nm
  · obtain ⟨r', hr2, rfl⟩ := List.mem_map.mp hr'
    exact room_B (hr r' hr2) g.l9
theorem no_zzz {th : List Str} (g : Good th) : ("zzzzzzzz" : Str) ∉ th := fun h => by
  obtain ⟨c, t, e, hc⟩ := (g.nm _ h).hd
  have e0 : ("zzzzzzzz" : Str).cps.toList = [122, 122, 122, 122, 122, 122, 122, 122] := by decide +kernel
  rw [e0] at e
  have ec : c = 122 := (List.cons.inj e).1.symm
  subst ec
  have h1 : (122 : Nat) ∉ low := by decide +kernel
  have h2 : (122 : Nat) ∉ hi9 := by decide +kernel
  rcases hc with hc | ⟨j, _, hc⟩
  · exact h1 hc
  · exact h2 (List.mem_of_getElem? hc)
theorem ok_tag {s : Str} (h : PyData.strOk s = true) (i : Int) : (D.tup [.str s, .int i]).okE 64 = true := okE_up (by decide : 1 ≤ 64) _ (ok_tup fun d hd => by
  rcases List.mem_cons.mp hd with rfl | hd
  · exact h
  · rw [List.mem_singleton.mp hd]; rfl)
theorem eq_same {neg : Bool} {d : D} (h : d.okE 64 = true) : dEq neg d d = some (.bl (neg != true)) := eq_of h h ⟨fun _ => rfl, fun _ => rfl⟩
end Dz
/-! Dz: lots of things in rooms, over plain data. -/
namespace Dz
open PySem PySem.Spec PyProof.Rows L2 Evl Bf
def r_NLot : DS :=
  (sSeq (sSet 2 (xFn F_FirstW (aCons (xVar 1) (aCons (xVar 0) aNil))))
    (sSeq (sIf (tB' (xOp2 (dIs true) (xVar 2) (xC .non)))
    (sRaise "BadLot" "index" (xVar 2))
    sNil)
    (sRet (xB dTuple (aCons (xB dSorted (aCons (xVar 1) aNil)) aNil)))))
def F_NLot : DF := fun ds A Ax => ∃ k kn xs, ds = [k, lstS xs] ∧ seqS k kn ∧ xs.length < 64 ∧ match fwOf kn xs with
  | some i => Ax ⟨"BadLot", [("index", .int (i : Nat))]⟩
  | none => A (tupS (srt xs))
theorem n_NLot (ds : List D) (A : D → Prop) (Ax : XQ) (h : F_NLot ds A Ax) : fnD 0 3 2 r_NLot ds A Ax := by
  obtain ⟨k, kn, xs, rfl, hk, hl, q⟩ := h
  simp only [r_NLot, fnD, iniD, startD, sNil, sSeq, sIf, sRet, sSet, sSetO, sExpr, sApp, sPut, sClr, sExt, sIns, sRaise, sRaise2, sAsg, sFor, sSetM, sAppM, sFld', xPopAt, xPop, xVar, xC, xOp1, xOp2, xNeg, xAnd, xOr, xNot, xIf, xB, xFn, xTup, xLst, xFld, xDGet, xDIn, xSl, xChain, oNone, oSome, aNil, aCons, tB', tAnd', tOr', tNot', tYesD, gN, gT, gsN, gsC, iLst, iTupD, iRg1, iRg2, iEnm, iTxt, List.map_cons, List.map_nil, List.length_cons, List.length_nil, List.replicate, List.replicate_succ, List.replicate_zero, List.cons_append, List.nil_append, List.set_cons_zero, List.set_cons_succ, List.getElem?_cons_zero, List.getElem?_cons_succ, Option.some.injEq, D.int.injEq, D.str.injEq, D.bl.injEq, D.lst.injEq, D.tup.injEq, D.dic.injEq, D.ins.injEq, exists_eq_left, exists_eq_left', exists_eq_right, exists_eq_right', exists_and_left, and_true, true_and, Nat.reduceAdd, Nat.reduceSub, Nat.reduceLT, Nat.reduceEqDiff, Nat.add_one_sub_one, Nat.sub_zero, if_true, if_false, Bool.false_eq_true, reduceIte, wipeR, List.cons.injEq, Nat.zero_add, reduceCtorEq, false_and, exists_false, Bool.false_bne, Bool.true_bne, len_lst, len_tup, len_scr, in_lst, in_tup, dKey_str, dKey_int, and_assoc, eq_int, dSub, dLt, dLe, dGt, dGe, isNonD, dIs, dMin, dMax, xMeth, xMeth0, xEqO, xXf, sTry, catchD, offD, add_int, dList, dTuple, xFlt, xFltC, xFltX, xFltCX, xX, sAppP, sClrP, sFldP, sPutP, pVar, pIx, pFld, id, xDisp, pairsD, xNames, xMethF, xMeth0F, aStar, xTGet, xTIn, sPutT, sRaise0, sTryM, catchM, emEq, tKey_strs, famNs, Option.isSome_some, iSqV]
  refine ⟨xs, kn, k, rfl, hk, by omega, ?_⟩
  cases c : fwOf kn xs with
  | some i =>
    rw [c] at q
    exact q
  | none =>
    rw [c] at q
    exact ⟨_, sorted_lst hl, _, rfl, q⟩
/-! ### rooms that have too many -/
def overAt (rs : List (List Str × Int)) (xs : List Str) (i : Nat) : Bool := decide ((rs.getD i ([], 0)).2 < ((shareL xs (rs.getD i ([], 0)).1).length : Int))
def overOf (rs : List (List Str × Int)) (xs : List Str) : Option Nat := firstOf (overAt rs xs) rs.length
def r_FOver : DS :=
  (sSeq (sFor (iEnm (xFld "Counts" "held" (xVar 0))) (gT 2 (gsC (gN 2) (gsC (gT 2 (gsC (gN 3) (gsC (gN 4) gsN))) gsN)))
    (sIf (tB' (xOp2 dGt (xB dLen (aCons (xFn F_Shared (aCons (xVar 1) (aCons (xVar 3) aNil))) aNil)) (xVar 4)))
    (sRet (xVar 2))
    sNil))
    (sRet (xC .non)))
def F_FOver : DF := fun ds A _ => ∃ th rs x xs, ds = [countsD th rs, x] ∧ seqS x xs ∧ xs.length ≤ 1000 ∧ A (optI (overOf rs xs))
theorem n_FOver (ds : List D) (A : D → Prop) (Ax : XQ) (h : F_FOver ds A Ax) : fnD 0 5 2 r_FOver ds A Ax := by
  obtain ⟨th, rs, x, xs, rfl, hx, hl, q⟩ := h
  simp only [r_FOver, fnD, iniD, startD, sNil, sSeq, sIf, sRet, sSet, sSetO, sExpr, sApp, sPut, sClr, sExt, sIns, sRaise, sRaise2, sAsg, sFor, sSetM, sAppM, sFld', xPopAt, xPop, xVar, xC, xOp1, xOp2, xNeg, xAnd, xOr, xNot, xIf, xB, xFn, xTup, xLst, xFld, xDGet, xDIn, xSl, xChain, oNone, oSome, aNil, aCons, tB', tAnd', tOr', tNot', tYesD, gN, gT, gsN, gsC, iLst, iTupD, iRg1, iRg2, iEnm, iTxt, List.map_cons, List.map_nil, List.length_cons, List.length_nil, List.replicate, List.replicate_succ, List.replicate_zero, List.cons_append, List.nil_append, List.set_cons_zero, List.set_cons_succ, List.getElem?_cons_zero, List.getElem?_cons_succ, Option.some.injEq, D.int.injEq, D.str.injEq, D.bl.injEq, D.lst.injEq, D.tup.injEq, D.dic.injEq, D.ins.injEq, exists_eq_left, exists_eq_left', exists_eq_right, exists_eq_right', exists_and_left, and_true, true_and, Nat.reduceAdd, Nat.reduceSub, Nat.reduceLT, Nat.reduceEqDiff, Nat.add_one_sub_one, Nat.sub_zero, if_true, if_false, Bool.false_eq_true, reduceIte, wipeR, List.cons.injEq, Nat.zero_add, reduceCtorEq, false_and, exists_false, Bool.false_bne, Bool.true_bne, len_lst, len_tup, len_scr, in_lst, in_tup, dKey_str, dKey_int, and_assoc, eq_int, dSub, dLt, dLe, dGt, dGe, isNonD, dIs, dMin, dMax, xMeth, xMeth0, xEqO, xXf, sTry, catchD, offD, add_int, dList, dTuple, xFlt, xFltC, xFltX, xFltCX, xX, sAppP, sClrP, sFldP, sPutP, pVar, pIx, pFld, id, xDisp, pairsD, xNames, xMethF, xMeth0F, aStar, xTGet, xTIn, sPutT, sRaise0, sTryM, catchM, emEq, tKey_strs, famNs, Option.isSome_some, iSqV, countsD]
  refine ⟨_, rfl, _, rfl, ?_⟩
  refine for_enum roomD rs (fun i ρ => ∃ a b c, ρ = [some (countsD th rs), some x, a, b, c] ∧ ∀ j, j < i → overAt rs xs j = false) ⟨_, _, _, rfl, fun j h => by omega⟩ (fun i r ρ N hr p n => ?_) (fun ρ p => ?_)
  · obtain ⟨a, b, c, rfl, hb⟩ := p
    have hi : i < rs.length := (List.getElem?_eq_some_iff.mp hr).1
    have g : rs.getD i ([], 0) = r := getD_of hr
    simp only [fnD, iniD, startD, sNil, sSeq, sIf, sRet, sSet, sSetO, sExpr, sApp, sPut, sClr, sExt, sIns, sRaise, sRaise2, sAsg, sFor, sSetM, sAppM, sFld', xPopAt, xPop, xVar, xC, xOp1, xOp2, xNeg, xAnd, xOr, xNot, xIf, xB, xFn, xTup, xLst, xFld, xDGet, xDIn, xSl, xChain, oNone, oSome, aNil, aCons, tB', tAnd', tOr', tNot', tYesD, gN, gT, gsN, gsC, iLst, iTupD, iRg1, iRg2, iEnm, iTxt, List.map_cons, List.map_nil, List.length_cons, List.length_nil, List.replicate, List.replicate_succ, List.replicate_zero, List.cons_append, List.nil_append, List.set_cons_zero, List.set_cons_succ, List.getElem?_cons_zero, List.getElem?_cons_succ, Option.some.injEq, D.int.injEq, D.str.injEq, D.bl.injEq, D.lst.injEq, D.tup.injEq, D.dic.injEq, D.ins.injEq, exists_eq_left, exists_eq_left', exists_eq_right, exists_eq_right', exists_and_left, and_true, true_and, Nat.reduceAdd, Nat.reduceSub, Nat.reduceLT, Nat.reduceEqDiff, Nat.add_one_sub_one, Nat.sub_zero, if_true, if_false, Bool.false_eq_true, reduceIte, wipeR, List.cons.injEq, Nat.zero_add, reduceCtorEq, false_and, exists_false, Bool.false_bne, Bool.true_bne, len_lst, len_tup, len_scr, in_lst, in_tup, dKey_str, dKey_int, and_assoc, eq_int, dSub, dLt, dLe, dGt, dGe, isNonD, dIs, dMin, dMax, xMeth, xMeth0, xEqO, xXf, sTry, catchD, offD, add_int, dList, dTuple, xFlt, xFltC, xFltX, xFltCX, xX, sAppP, sClrP, sFldP, sPutP, pVar, pIx, pFld, id, xDisp, pairsD, xNames, xMethF, xMeth0F, aStar, xTGet, xTIn, sPutT, sRaise0, sTryM, catchM, emEq, tKey_strs, famNs, Option.isSome_some, iSqV, roomD]
    refine ⟨x, xs, tupS r.1, r.1, rfl, hx, .inr rfl, hl, _, rfl, _, rfl, _, rfl, ?_⟩
    have e : overAt rs xs i = decide (r.2 < (((shareL xs r.1).map D.str).length : Int)) := by unfold overAt; rw [g, List.length_map]
    by_cases c1 : r.2 < (((shareL xs r.1).map D.str).length : Int)
    · rw [if_pos (decide_eq_true c1)]
      rw [show overOf rs xs = some i from first_some hi (by rw [e]; exact decide_eq_true c1) hb] at q
      exact q
    · rw [if_neg (by rw [decide_eq_false c1]; decide)]
      refine n _ ⟨_, _, _, rfl, fun j hj => ?_⟩
      by_cases cj : j = i
      · subst cj; rw [e]; exact decide_eq_false c1
      · exact hb j (by omega)
  · obtain ⟨a, b, c, rfl, hb⟩ := p
    simp only [fnD, iniD, startD, sNil, sSeq, sIf, sRet, sSet, sSetO, sExpr, sApp, sPut, sClr, sExt, sIns, sRaise, sRaise2, sAsg, sFor, sSetM, sAppM, sFld', xPopAt, xPop, xVar, xC, xOp1, xOp2, xNeg, xAnd, xOr, xNot, xIf, xB, xFn, xTup, xLst, xFld, xDGet, xDIn, xSl, xChain, oNone, oSome, aNil, aCons, tB', tAnd', tOr', tNot', tYesD, gN, gT, gsN, gsC, iLst, iTupD, iRg1, iRg2, iEnm, iTxt, List.map_cons, List.map_nil, List.length_cons, List.length_nil, List.replicate, List.replicate_succ, List.replicate_zero, List.cons_append, List.nil_append, List.set_cons_zero, List.set_cons_succ, List.getElem?_cons_zero, List.getElem?_cons_succ, Option.some.injEq, D.int.injEq, D.str.injEq, D.bl.injEq, D.lst.injEq, D.tup.injEq, D.dic.injEq, D.ins.injEq, exists_eq_left, exists_eq_left', exists_eq_right, exists_eq_right', exists_and_left, and_true, true_and, Nat.reduceAdd, Nat.reduceSub, Nat.reduceLT, Nat.reduceEqDiff, Nat.add_one_sub_one, Nat.sub_zero, if_true, if_false, Bool.false_eq_true, reduceIte, wipeR, List.cons.injEq, Nat.zero_add, reduceCtorEq, false_and, exists_false, Bool.false_bne, Bool.true_bne, len_lst, len_tup, len_scr, in_lst, in_tup, dKey_str, dKey_int, and_assoc, eq_int, dSub, dLt, dLe, dGt, dGe, isNonD, dIs, dMin, dMax, xMeth, xMeth0, xEqO, xXf, sTry, catchD, offD, add_int, dList, dTuple, xFlt, xFltC, xFltX, xFltCX, xX, sAppP, sClrP, sFldP, sPutP, pVar, pIx, pFld, id, xDisp, pairsD, xNames, xMethF, xMeth0F, aStar, xTGet, xTIn, sPutT, sRaise0, sTryM, catchM, emEq, tKey_strs, famNs, Option.isSome_some, iSqV]
    rw [show overOf rs xs = none from first_none hb] at q
    exact q
/-! ### things taken as long as it goes -/
def grdS (rs : List (List Str × Int)) (found : List Str) (x : Str) : List Str := if (overOf rs (found ++ [x])).isNone = true then found ++ [x] else found
def grd (rs : List (List Str × Int)) (lot : List Str) : List Str := lot.foldl (grdS rs) []
def cwD (th : List Str) (rs : List (List Str × Int)) : D := .ins "CountsWorld" [("table", countsD th rs)]
def r_CWInit : DS :=
  (sFld' 0 "CountsWorld" "table" (xVar 1))
def F_CWInit : DF := fun ds A _ => ∃ th rs, ds = [countsD th rs] ∧ A (cwD th rs)
theorem i_CWInit (ds : List D) (A : D → Prop) (Ax : XQ) (h : F_CWInit ds A Ax) : F_CWInit ds (fun d => ∃ fs, d = .ins "CountsWorld" fs ∧ A d) Ax := by
  obtain ⟨th, rs, e, q⟩ := h
  exact ⟨th, rs, e, _, rfl, q⟩
theorem n_CWInit (ds : List D) (A : D → Prop) (Ax : XQ) (h : F_CWInit ds A Ax) : iniD "CountsWorld" 2 1 r_CWInit ds A Ax := by
  obtain ⟨th, rs, rfl, q⟩ := h
  simp only [r_CWInit, fnD, iniD, startD, sNil, sSeq, sIf, sRet, sSet, sSetO, sExpr, sApp, sPut, sClr, sExt, sIns, sRaise, sRaise2, sAsg, sFor, sSetM, sAppM, sFld', xPopAt, xPop, xVar, xC, xOp1, xOp2, xNeg, xAnd, xOr, xNot, xIf, xB, xFn, xTup, xLst, xFld, xDGet, xDIn, xSl, xChain, oNone, oSome, aNil, aCons, tB', tAnd', tOr', tNot', tYesD, gN, gT, gsN, gsC, iLst, iTupD, iRg1, iRg2, iEnm, iTxt, List.map_cons, List.map_nil, List.length_cons, List.length_nil, List.replicate, List.replicate_succ, List.replicate_zero, List.cons_append, List.nil_append, List.set_cons_zero, List.set_cons_succ, List.getElem?_cons_zero, List.getElem?_cons_succ, Option.some.injEq, D.int.injEq, D.str.injEq, D.bl.injEq, D.lst.injEq, D.tup.injEq, D.dic.injEq, D.ins.injEq, exists_eq_left, exists_eq_left', exists_eq_right, exists_eq_right', exists_and_left, and_true, true_and, Nat.reduceAdd, Nat.reduceSub, Nat.reduceLT, Nat.reduceEqDiff, Nat.add_one_sub_one, Nat.sub_zero, if_true, if_false, Bool.false_eq_true, reduceIte, wipeR, List.cons.injEq, Nat.zero_add, reduceCtorEq, false_and, exists_false, Bool.false_bne, Bool.true_bne, len_lst, len_tup, len_scr, in_lst, in_tup, dKey_str, dKey_int, and_assoc, eq_int, dSub, dLt, dLe, dGt, dGe, isNonD, dIs, dMin, dMax, xMeth, xMeth0, xEqO, xXf, sTry, catchD, offD, add_int, dList, dTuple, xFlt, xFltC, xFltX, xFltCX, xX, sAppP, sClrP, sFldP, sPutP, pVar, pIx, pFld, id, xDisp, pairsD, xNames, xMethF, xMeth0F, aStar, xTGet, xTIn, sPutT, sRaise0, sTryM, catchM, emEq, tKey_strs, famNs, Option.isSome_some, iSqV, putFD]
  exact q
theorem lstS_snoc (xs : List Str) (x : Str) : lstS (xs ++ [x]) = .lst (xs.map D.str ++ [.str x]) := by
  show D.lst ((xs ++ [x]).map D.str) = _
  rw [List.map_append]
  rfl
theorem grd_len (rs : List (List Str × Int)) : ∀ (lot f : List Str), (lot.foldl (grdS rs) f).length ≤ f.length + lot.length
  | [], f => Nat.le_refl _
  | x :: lot, f => by
    rw [List.foldl_cons]
    have := grd_len rs lot (grdS rs f x)
    have h : (grdS rs f x).length ≤ f.length + 1 := by
      unfold grdS
      split
      · rw [List.length_append]; exact Nat.le_refl _
      · exact Nat.le_succ _
    rw [List.length_cons]
    omega
def r_CWFree : DS :=
  (sSeq (sSetO 2 (xLst aNil))
    (sSeq (sFor (iTupD (xVar 1)) (gN 3)
    (sIf (tB' (xOp2 (dIs false) (xFn F_FOver (aCons (xFld "CountsWorld" "table" (xVar 0)) (aCons (xLst (aStar (xVar 2) (aCons (xVar 3) aNil))) aNil))) (xC .non)))
    (sApp 2 (xVar 3))
    sNil))
    (sRet (xB dLen (aCons (xVar 2) aNil)))))
def F_CWFree : DF := fun ds A _ => ∃ th rs lot, ds = [cwD th rs, tupS lot] ∧ lot.length ≤ 60 ∧ A (.int ((grd rs lot).length : Nat))
theorem n_CWFree (ds : List D) (A : D → Prop) (Ax : XQ) (h : F_CWFree ds A Ax) : fnD 0 4 2 r_CWFree ds A Ax := by
  obtain ⟨th, rs, lot, rfl, hl, q⟩ := h
  simp only [r_CWFree, fnD, iniD, startD, sNil, sSeq, sIf, sRet, sSet, sSetO, sExpr, sApp, sPut, sClr, sExt, sIns, sRaise, sRaise2, sAsg, sFor, sSetM, sAppM, sFld', xPopAt, xPop, xVar, xC, xOp1, xOp2, xNeg, xAnd, xOr, xNot, xIf, xB, xFn, xTup, xLst, xFld, xDGet, xDIn, xSl, xChain, oNone, oSome, aNil, aCons, tB', tAnd', tOr', tNot', tYesD, gN, gT, gsN, gsC, iLst, iTupD, iRg1, iRg2, iEnm, iTxt, List.map_cons, List.map_nil, List.length_cons, List.length_nil, List.replicate, List.replicate_succ, List.replicate_zero, List.cons_append, List.nil_append, List.set_cons_zero, List.set_cons_succ, List.getElem?_cons_zero, List.getElem?_cons_succ, Option.some.injEq, D.int.injEq, D.str.injEq, D.bl.injEq, D.lst.injEq, D.tup.injEq, D.dic.injEq, D.ins.injEq, exists_eq_left, exists_eq_left', exists_eq_right, exists_eq_right', exists_and_left, and_true, true_and, Nat.reduceAdd, Nat.reduceSub, Nat.reduceLT, Nat.reduceEqDiff, Nat.add_one_sub_one, Nat.sub_zero, if_true, if_false, Bool.false_eq_true, reduceIte, wipeR, List.cons.injEq, Nat.zero_add, reduceCtorEq, false_and, exists_false, Bool.false_bne, Bool.true_bne, len_lst, len_tup, len_scr, in_lst, in_tup, dKey_str, dKey_int, and_assoc, eq_int, dSub, dLt, dLe, dGt, dGe, isNonD, dIs, dMin, dMax, xMeth, xMeth0, xEqO, xXf, sTry, catchD, offD, add_int, dList, dTuple, xFlt, xFltC, xFltX, xFltCX, xX, sAppP, sClrP, sFldP, sPutP, pVar, pIx, pFld, id, xDisp, pairsD, xNames, xMethF, xMeth0F, aStar, xTGet, xTIn, sPutT, sRaise0, sTryM, catchM, emEq, tKey_strs, famNs, Option.isSome_some, iSqV, cwD]
  refine ⟨(by decide : 0 ≤ 100000), ?_⟩
  refine for_invT D.str lot (fun i ρ => ∃ a, ρ = [some (cwD th rs), some (tupS lot), some (lstS ((lot.take i).foldl (grdS rs) [])), a]) ⟨_, rfl⟩ (fun i x ρ N hx p n => ?_) (fun ρ p => ?_)
  · obtain ⟨a, rfl⟩ := p
    have hf := grd_len rs (lot.take i) []
    rw [List.length_take, List.length_nil] at hf
    have tn : (lot.take (i + 1)).foldl (grdS rs) [] = grdS rs ((lot.take i).foldl (grdS rs) []) x := by rw [take_next hx, List.foldl_append]; rfl
    generalize (lot.take i).foldl (grdS rs) [] = found at hf tn ⊢
    simp only [fnD, iniD, startD, sNil, sSeq, sIf, sRet, sSet, sSetO, sExpr, sApp, sPut, sClr, sExt, sIns, sRaise, sRaise2, sAsg, sFor, sSetM, sAppM, sFld', xPopAt, xPop, xVar, xC, xOp1, xOp2, xNeg, xAnd, xOr, xNot, xIf, xB, xFn, xTup, xLst, xFld, xDGet, xDIn, xSl, xChain, oNone, oSome, aNil, aCons, tB', tAnd', tOr', tNot', tYesD, gN, gT, gsN, gsC, iLst, iTupD, iRg1, iRg2, iEnm, iTxt, List.map_cons, List.map_nil, List.length_cons, List.length_nil, List.replicate, List.replicate_succ, List.replicate_zero, List.cons_append, List.nil_append, List.set_cons_zero, List.set_cons_succ, List.getElem?_cons_zero, List.getElem?_cons_succ, Option.some.injEq, D.int.injEq, D.str.injEq, D.bl.injEq, D.lst.injEq, D.tup.injEq, D.dic.injEq, D.ins.injEq, exists_eq_left, exists_eq_left', exists_eq_right, exists_eq_right', exists_and_left, and_true, true_and, Nat.reduceAdd, Nat.reduceSub, Nat.reduceLT, Nat.reduceEqDiff, Nat.add_one_sub_one, Nat.sub_zero, if_true, if_false, Bool.false_eq_true, reduceIte, wipeR, List.cons.injEq, Nat.zero_add, reduceCtorEq, false_and, exists_false, Bool.false_bne, Bool.true_bne, len_lst, len_tup, len_scr, in_lst, in_tup, dKey_str, dKey_int, and_assoc, eq_int, dSub, dLt, dLe, dGt, dGe, isNonD, dIs, dMin, dMax, xMeth, xMeth0, xEqO, xXf, sTry, catchD, offD, add_int, dList, dTuple, xFlt, xFltC, xFltX, xFltCX, xX, sAppP, sClrP, sFldP, sPutP, pVar, pIx, pFld, id, xDisp, pairsD, xNames, xMethF, xMeth0F, aStar, xTGet, xTIn, sPutT, sRaise0, sTryM, catchM, emEq, tKey_strs, famNs, Option.isSome_some, iSqV, cwD]
    refine ⟨_, rfl, _, rfl, by rw [List.length_append, List.length_map]; show found.length + 1 ≤ 100000; omega, th, rs, lstS (found ++ [x]), found ++ [x], by show _ = [countsD th rs, D.lst ((found ++ [x]).map D.str)]; rw [List.map_append]; rfl, .inl rfl, by rw [List.length_append]; show found.length + 1 ≤ 1000; omega, ?_⟩
    cases c : overOf rs (found ++ [x]) with
    | none =>
      refine ⟨by rw [List.length_map]; show found.length < 100000; omega, n _ ⟨some (.str x), ?_⟩⟩
      rw [tn]
      unfold grdS
      rw [c, if_pos (by rfl), lstS_snoc]
      rfl
    | some j =>
      refine n _ ⟨some (.str x), ?_⟩
      rw [tn]
      unfold grdS
      rw [c, if_neg (by exact Bool.false_ne_true)]
      rfl
  · obtain ⟨a, rfl⟩ := p
    simp only [fnD, iniD, startD, sNil, sSeq, sIf, sRet, sSet, sSetO, sExpr, sApp, sPut, sClr, sExt, sIns, sRaise, sRaise2, sAsg, sFor, sSetM, sAppM, sFld', xPopAt, xPop, xVar, xC, xOp1, xOp2, xNeg, xAnd, xOr, xNot, xIf, xB, xFn, xTup, xLst, xFld, xDGet, xDIn, xSl, xChain, oNone, oSome, aNil, aCons, tB', tAnd', tOr', tNot', tYesD, gN, gT, gsN, gsC, iLst, iTupD, iRg1, iRg2, iEnm, iTxt, List.map_cons, List.map_nil, List.length_cons, List.length_nil, List.replicate, List.replicate_succ, List.replicate_zero, List.cons_append, List.nil_append, List.set_cons_zero, List.set_cons_succ, List.getElem?_cons_zero, List.getElem?_cons_succ, Option.some.injEq, D.int.injEq, D.str.injEq, D.bl.injEq, D.lst.injEq, D.tup.injEq, D.dic.injEq, D.ins.injEq, exists_eq_left, exists_eq_left', exists_eq_right, exists_eq_right', exists_and_left, and_true, true_and, Nat.reduceAdd, Nat.reduceSub, Nat.reduceLT, Nat.reduceEqDiff, Nat.add_one_sub_one, Nat.sub_zero, if_true, if_false, Bool.false_eq_true, reduceIte, wipeR, List.cons.injEq, Nat.zero_add, reduceCtorEq, false_and, exists_false, Bool.false_bne, Bool.true_bne, len_lst, len_tup, len_scr, in_lst, in_tup, dKey_str, dKey_int, and_assoc, eq_int, dSub, dLt, dLe, dGt, dGe, isNonD, dIs, dMin, dMax, xMeth, xMeth0, xEqO, xXf, sTry, catchD, offD, add_int, dList, dTuple, xFlt, xFltC, xFltX, xFltCX, xX, sAppP, sClrP, sFldP, sPutP, pVar, pIx, pFld, id, xDisp, pairsD, xNames, xMethF, xMeth0F, aStar, xTGet, xTIn, sPutT, sRaise0, sTryM, catchM, emEq, tKey_strs, famNs, Option.isSome_some, iSqV]
    rw [List.take_length, List.length_map]
    exact q
/-! ### the family -/
def famC (th : List Str) (rs : List (List Str × Int)) (g : Str) : D := .fam th (cwD th rs) g
def RkC (th : List Str) (rs : List (List Str × Int)) (g : Str) : Prop := th.length ≤ 20 ∧ ∀ lot : List Str, lot.Sublist th → rkG g lot = (grd rs lot).length
def subs : List Str → List (List Str)
  | [] => [[]]
  | x :: xs => subs xs ++ (subs xs).map (x :: ·)
theorem mem_subs : ∀ {xs lot : List Str}, lot.Sublist xs → lot ∈ subs xs
  | [], lot, h => by rw [List.sublist_nil.mp h]; exact List.mem_cons_self
  | x :: xs, lot, h => by
    cases h with
    | cons _ h => exact List.mem_append_left _ (mem_subs h)
    | cons_cons _ h => exact List.mem_append_right _ (List.mem_map.mpr ⟨_, mem_subs h, rfl⟩)
def r_CFam : DS :=
  (sRet (xFn F_FInit (aCons (xMeth0 "Counts" "things" F_CThings (xVar 0)) (aCons (xFn F_CWInit (aCons (xVar 0) aNil)) aNil))))
def F_CFam : DF := fun ds A _ => ∃ th rs, ds = [countsD th rs] ∧ okS th ∧ th.length ≤ 20 ∧ ∀ g, RkC th rs g → A (famC th rs g)
theorem n_CFam (ds : List D) (A : D → Prop) (Ax : XQ) (h : F_CFam ds A Ax) : fnD 0 1 1 r_CFam ds A Ax := by
  obtain ⟨th, rs, rfl, ok, hl, q⟩ := h
  obtain ⟨g, hg⟩ := rk_ex (subs th) fun lot => (grd rs lot).length
  simp only [r_CFam, fnD, iniD, startD, sNil, sSeq, sIf, sRet, sSet, sSetO, sExpr, sApp, sPut, sClr, sExt, sIns, sRaise, sRaise2, sAsg, sFor, sSetM, sAppM, sFld', xPopAt, xPop, xVar, xC, xOp1, xOp2, xNeg, xAnd, xOr, xNot, xIf, xB, xFn, xTup, xLst, xFld, xDGet, xDIn, xSl, xChain, oNone, oSome, aNil, aCons, tB', tAnd', tOr', tNot', tYesD, gN, gT, gsN, gsC, iLst, iTupD, iRg1, iRg2, iEnm, iTxt, List.map_cons, List.map_nil, List.length_cons, List.length_nil, List.replicate, List.replicate_succ, List.replicate_zero, List.cons_append, List.nil_append, List.set_cons_zero, List.set_cons_succ, List.getElem?_cons_zero, List.getElem?_cons_succ, Option.some.injEq, D.int.injEq, D.str.injEq, D.bl.injEq, D.lst.injEq, D.tup.injEq, D.dic.injEq, D.ins.injEq, exists_eq_left, exists_eq_left', exists_eq_right, exists_eq_right', exists_and_left, and_true, true_and, Nat.reduceAdd, Nat.reduceSub, Nat.reduceLT, Nat.reduceEqDiff, Nat.add_one_sub_one, Nat.sub_zero, if_true, if_false, Bool.false_eq_true, reduceIte, wipeR, List.cons.injEq, Nat.zero_add, reduceCtorEq, false_and, exists_false, Bool.false_bne, Bool.true_bne, len_lst, len_tup, len_scr, in_lst, in_tup, dKey_str, dKey_int, and_assoc, eq_int, dSub, dLt, dLe, dGt, dGe, isNonD, dIs, dMin, dMax, xMeth, xMeth0, xEqO, xXf, sTry, catchD, offD, add_int, dList, dTuple, xFlt, xFltC, xFltX, xFltCX, xX, sAppP, sClrP, sFldP, sPutP, pVar, pIx, pFld, id, xDisp, pairsD, xNames, xMethF, xMeth0F, aStar, xTGet, xTIn, sPutT, sRaise0, sTryM, catchM, emEq, tKey_strs, famNs, Option.isSome_some, iSqV]
  exact ⟨_, rfl, rfl, th, rs, rfl, ok, th, rs, rfl, th, _, _, g, rfl, .inl rfl, hl, rfl, q g ⟨hl, fun lot h => hg lot (mem_subs h)⟩⟩
def F_Rank1 : DF := fun ds A _ => ∃ th rs g lot, ds = [famC th rs g, tupS lot] ∧ RkC th rs g ∧ lot.Sublist th ∧ A (.int ((grd rs lot).length : Nat))
theorem n_Rank1 (ds : List D) (A : D → Prop) (Ax : XQ) (h : F_Rank1 ds A Ax) : F_RankOf "CountsWorld" F_CWFree ds A Ax := by
  obtain ⟨th, rs, g, lot, rfl, hg, hs, q⟩ := h
  have e := hg.2 lot hs
  have := hs.length_le
  exact ⟨th, _, g, lot, rfl, hs, rfl, ⟨th, rs, lot, rfl, by have := hg.1; omega, by rw [e]⟩, by rw [e]; exact q⟩
def r_FThings : DS :=
  (sRet (xB dList (aCons (xNames (xVar 0)) aNil)))
def F_FThings : DF := fun ds A _ => ∃ th rs g, ds = [famC th rs g] ∧ A (lstS th)
theorem n_FThings (ds : List D) (A : D → Prop) (Ax : XQ) (h : F_FThings ds A Ax) : fnD 1 1 1 r_FThings ds A Ax := by
  obtain ⟨th, rs, g, rfl, q⟩ := h
  simp only [r_FThings, fnD, iniD, startD, sNil, sSeq, sIf, sRet, sSet, sSetO, sExpr, sApp, sPut, sClr, sExt, sIns, sRaise, sRaise2, sAsg, sFor, sSetM, sAppM, sFld', xPopAt, xPop, xVar, xC, xOp1, xOp2, xNeg, xAnd, xOr, xNot, xIf, xB, xFn, xTup, xLst, xFld, xDGet, xDIn, xSl, xChain, oNone, oSome, aNil, aCons, tB', tAnd', tOr', tNot', tYesD, gN, gT, gsN, gsC, iLst, iTupD, iRg1, iRg2, iEnm, iTxt, List.map_cons, List.map_nil, List.length_cons, List.length_nil, List.replicate, List.replicate_succ, List.replicate_zero, List.cons_append, List.nil_append, List.set_cons_zero, List.set_cons_succ, List.getElem?_cons_zero, List.getElem?_cons_succ, Option.some.injEq, D.int.injEq, D.str.injEq, D.bl.injEq, D.lst.injEq, D.tup.injEq, D.dic.injEq, D.ins.injEq, exists_eq_left, exists_eq_left', exists_eq_right, exists_eq_right', exists_and_left, and_true, true_and, Nat.reduceAdd, Nat.reduceSub, Nat.reduceLT, Nat.reduceEqDiff, Nat.add_one_sub_one, Nat.sub_zero, if_true, if_false, Bool.false_eq_true, reduceIte, wipeR, List.cons.injEq, Nat.zero_add, reduceCtorEq, false_and, exists_false, Bool.false_bne, Bool.true_bne, len_lst, len_tup, len_scr, in_lst, in_tup, dKey_str, dKey_int, and_assoc, eq_int, dSub, dLt, dLe, dGt, dGe, isNonD, dIs, dMin, dMax, xMeth, xMeth0, xEqO, xXf, sTry, catchD, offD, add_int, dList, dTuple, xFlt, xFltC, xFltX, xFltCX, xX, sAppP, sClrP, sFldP, sPutP, pVar, pIx, pFld, id, xDisp, pairsD, xNames, xMethF, xMeth0F, aStar, xTGet, xTIn, sPutT, sRaise0, sTryM, catchM, emEq, tKey_strs, famNs, Option.isSome_some, iSqV, famC]
  exact q
def r_FRank : DS :=
  (sRet (xMethF F_Rank1 (xVar 0) (aCons (xFn F_NLot (aCons (xNames (xVar 0)) (aCons (xVar 1) aNil))) aNil)))
/-- a lot of the things, sorted, lies within them -/
theorem srt_sub {th xs : List Str} (so : srt th = th) (nd : xs.Nodup) (nt : th.Nodup) (h : ∀ x ∈ xs, x ∈ th) : (srt xs).Sublist th := by
  have e : srt xs = th.filter fun x => decide (x ∈ xs) := by
    have pw : (th.filter fun x => decide (x ∈ xs)).Pairwise (fun a b => leS a b = true) := by
      have := srt_pw th
      rw [so] at this
      exact List.Pairwise.filter _ this
    have pm : (srt xs).Perm (th.filter fun x => decide (x ∈ xs)) := by
      refine (srt_perm xs).trans ?_
      refine (List.perm_ext_iff_of_nodup nd (nd_filter _ nt)).mpr fun x => ?_
      rw [List.mem_filter]
      exact ⟨fun hx => ⟨h x hx, decide_eq_true hx⟩, fun hx => of_decide_eq_true hx.2⟩
    exact pm.eq_of_pairwise (fun a b _ _ h1 h2 => leS_antisymm h1 h2) (srt_pw xs) pw
  rw [e]
  exact List.filter_sublist
/-- no entry of a lot is wrong -/
theorem fw_none {kn xs : List Str} : fwOf kn xs = none ↔ xs.Nodup ∧ ∀ x ∈ xs, x ∈ kn := by
  constructor
  · intro h
    have hb : ∀ i, i < xs.length → badIt kn xs i = false := fun i hi => by
      unfold fwOf firstOf at h
      have := List.find?_eq_none.mp h i (List.mem_range.mpr hi)
      simpa using this
    have hb2 : ∀ i (hi : i < xs.length), xs[i] ∈ kn ∧ xs[i] ∉ xs.take i := fun i hi => by
      have := hb i hi
      unfold badIt at this
      rw [getD_of (List.getElem?_eq_getElem hi)] at this
      simpa using this
    refine ⟨?_, fun x hx => ?_⟩
    · rw [List.nodup_iff_pairwise_ne, List.pairwise_iff_getElem]
      intro i j hi hj hij e
      refine (hb2 j hj).2 ?_
      rw [← e]
      exact List.mem_iff_getElem.mpr ⟨i, by rw [List.length_take]; omega, List.getElem_take⟩
    · obtain ⟨i, hi, rfl⟩ := List.mem_iff_getElem.mp hx
      exact (hb2 i hi).1
  · rintro ⟨nd, h⟩
    refine first_none fun i hi => ?_
    unfold badIt
    rw [getD_of (List.getElem?_eq_getElem hi), decide_eq_true (h _ (List.getElem_mem hi)), decide_eq_false (nd_take nd hi)]
    rfl
structure LotOk (th xs : List Str) : Prop where
  nd : xs.Nodup
  sub : ∀ x ∈ xs, x ∈ th
theorem lot_len {th xs : List Str} (h : LotOk th xs) : xs.length ≤ th.length := nodup_len h.nd h.sub
structure ThOk (th : List Str) : Prop where
  nd : th.Nodup
  so : srt th = th
def F_FRank : DF := fun ds A _ => ∃ th rs g xs, ds = [famC th rs g, lstS xs] ∧ RkC th rs g ∧ ThOk th ∧ LotOk th xs ∧ A (.int ((grd rs (srt xs)).length : Nat))
theorem n_FRank (ds : List D) (A : D → Prop) (Ax : XQ) (h : F_FRank ds A Ax) : fnD 0 2 2 r_FRank ds A Ax := by
  obtain ⟨th, rs, g, xs, rfl, hg, ht, hx, q⟩ := h
  simp only [r_FRank, fnD, iniD, startD, sNil, sSeq, sIf, sRet, sSet, sSetO, sExpr, sApp, sPut, sClr, sExt, sIns, sRaise, sRaise2, sAsg, sFor, sSetM, sAppM, sFld', xPopAt, xPop, xVar, xC, xOp1, xOp2, xNeg, xAnd, xOr, xNot, xIf, xB, xFn, xTup, xLst, xFld, xDGet, xDIn, xSl, xChain, oNone, oSome, aNil, aCons, tB', tAnd', tOr', tNot', tYesD, gN, gT, gsN, gsC, iLst, iTupD, iRg1, iRg2, iEnm, iTxt, List.map_cons, List.map_nil, List.length_cons, List.length_nil, List.replicate, List.replicate_succ, List.replicate_zero, List.cons_append, List.nil_append, List.set_cons_zero, List.set_cons_succ, List.getElem?_cons_zero, List.getElem?_cons_succ, Option.some.injEq, D.int.injEq, D.str.injEq, D.bl.injEq, D.lst.injEq, D.tup.injEq, D.dic.injEq, D.ins.injEq, exists_eq_left, exists_eq_left', exists_eq_right, exists_eq_right', exists_and_left, and_true, true_and, Nat.reduceAdd, Nat.reduceSub, Nat.reduceLT, Nat.reduceEqDiff, Nat.add_one_sub_one, Nat.sub_zero, if_true, if_false, Bool.false_eq_true, reduceIte, wipeR, List.cons.injEq, Nat.zero_add, reduceCtorEq, false_and, exists_false, Bool.false_bne, Bool.true_bne, len_lst, len_tup, len_scr, in_lst, in_tup, dKey_str, dKey_int, and_assoc, eq_int, dSub, dLt, dLe, dGt, dGe, isNonD, dIs, dMin, dMax, xMeth, xMeth0, xEqO, xXf, sTry, catchD, offD, add_int, dList, dTuple, xFlt, xFltC, xFltX, xFltCX, xX, sAppP, sClrP, sFldP, sPutP, pVar, pIx, pFld, id, xDisp, pairsD, xNames, xMethF, xMeth0F, aStar, xTGet, xTIn, sPutT, sRaise0, sTryM, catchM, emEq, tKey_strs, famNs, Option.isSome_some, iSqV, famC]
  have := lot_len hx
  have := hg.1
  refine ⟨tupS th, th, xs, rfl, .inr rfl, by omega, ?_⟩
  rw [fw_none.mpr ⟨hx.nd, hx.sub⟩]
  exact ⟨th, rs, g, srt xs, rfl, hg, srt_sub ht.so hx.nd ht.nd hx.sub, q⟩
def r_FFree : DS :=
  (sRet (xOp2 (dEq false) (xMethF F_FRank (xVar 0) (aCons (xVar 1) aNil)) (xB dLen (aCons (xVar 1) aNil))))
def F_FFree : DF := fun ds A _ => ∃ th rs g xs, ds = [famC th rs g, lstS xs] ∧ RkC th rs g ∧ ThOk th ∧ LotOk th xs ∧ A (.bl (decide (((grd rs (srt xs)).length : Int) = xs.length)))
theorem n_FFree (ds : List D) (A : D → Prop) (Ax : XQ) (h : F_FFree ds A Ax) : fnD 0 2 2 r_FFree ds A Ax := by
  obtain ⟨th, rs, g, xs, rfl, hg, ht, hx, q⟩ := h
  simp only [r_FFree, fnD, iniD, startD, sNil, sSeq, sIf, sRet, sSet, sSetO, sExpr, sApp, sPut, sClr, sExt, sIns, sRaise, sRaise2, sAsg, sFor, sSetM, sAppM, sFld', xPopAt, xPop, xVar, xC, xOp1, xOp2, xNeg, xAnd, xOr, xNot, xIf, xB, xFn, xTup, xLst, xFld, xDGet, xDIn, xSl, xChain, oNone, oSome, aNil, aCons, tB', tAnd', tOr', tNot', tYesD, gN, gT, gsN, gsC, iLst, iTupD, iRg1, iRg2, iEnm, iTxt, List.map_cons, List.map_nil, List.length_cons, List.length_nil, List.replicate, List.replicate_succ, List.replicate_zero, List.cons_append, List.nil_append, List.set_cons_zero, List.set_cons_succ, List.getElem?_cons_zero, List.getElem?_cons_succ, Option.some.injEq, D.int.injEq, D.str.injEq, D.bl.injEq, D.lst.injEq, D.tup.injEq, D.dic.injEq, D.ins.injEq, exists_eq_left, exists_eq_left', exists_eq_right, exists_eq_right', exists_and_left, and_true, true_and, Nat.reduceAdd, Nat.reduceSub, Nat.reduceLT, Nat.reduceEqDiff, Nat.add_one_sub_one, Nat.sub_zero, if_true, if_false, Bool.false_eq_true, reduceIte, wipeR, List.cons.injEq, Nat.zero_add, reduceCtorEq, false_and, exists_false, Bool.false_bne, Bool.true_bne, len_lst, len_tup, len_scr, in_lst, in_tup, dKey_str, dKey_int, and_assoc, eq_int, dSub, dLt, dLe, dGt, dGe, isNonD, dIs, dMin, dMax, xMeth, xMeth0, xEqO, xXf, sTry, catchD, offD, add_int, dList, dTuple, xFlt, xFltC, xFltX, xFltCX, xX, sAppP, sClrP, sFldP, sPutP, pVar, pIx, pFld, id, xDisp, pairsD, xNames, xMethF, xMeth0F, aStar, xTGet, xTIn, sPutT, sRaise0, sTryM, catchM, emEq, tKey_strs, famNs, Option.isSome_some, iSqV, famC]
  refine ⟨th, rs, g, xs, rfl, hg, ht, hx, ?_⟩
  rw [List.length_map]
  exact ⟨_, eq_int false _ _, by rw [Bool.false_bne]; exact q⟩
def r_OvFull : DS :=
  (sRet (xFn F_FOver (aCons (xVar 0) (aCons (xFn F_NLot (aCons (xFld "Counts" "known" (xVar 0)) (aCons (xVar 1) aNil))) aNil))))
def F_OvFull : DF := fun ds A Ax => ∃ th rs xs, ds = [countsD th rs, lstS xs] ∧ xs.length < 64 ∧ match fwOf th xs with
  | some i => Ax ⟨"BadLot", [("index", .int (i : Nat))]⟩
  | none => A (optI (overOf rs (srt xs)))
theorem n_OvFull (ds : List D) (A : D → Prop) (Ax : XQ) (h : F_OvFull ds A Ax) : fnD 0 2 2 r_OvFull ds A Ax := by
  obtain ⟨th, rs, xs, rfl, hl, q⟩ := h
  simp only [r_OvFull, fnD, iniD, startD, sNil, sSeq, sIf, sRet, sSet, sSetO, sExpr, sApp, sPut, sClr, sExt, sIns, sRaise, sRaise2, sAsg, sFor, sSetM, sAppM, sFld', xPopAt, xPop, xVar, xC, xOp1, xOp2, xNeg, xAnd, xOr, xNot, xIf, xB, xFn, xTup, xLst, xFld, xDGet, xDIn, xSl, xChain, oNone, oSome, aNil, aCons, tB', tAnd', tOr', tNot', tYesD, gN, gT, gsN, gsC, iLst, iTupD, iRg1, iRg2, iEnm, iTxt, List.map_cons, List.map_nil, List.length_cons, List.length_nil, List.replicate, List.replicate_succ, List.replicate_zero, List.cons_append, List.nil_append, List.set_cons_zero, List.set_cons_succ, List.getElem?_cons_zero, List.getElem?_cons_succ, Option.some.injEq, D.int.injEq, D.str.injEq, D.bl.injEq, D.lst.injEq, D.tup.injEq, D.dic.injEq, D.ins.injEq, exists_eq_left, exists_eq_left', exists_eq_right, exists_eq_right', exists_and_left, and_true, true_and, Nat.reduceAdd, Nat.reduceSub, Nat.reduceLT, Nat.reduceEqDiff, Nat.add_one_sub_one, Nat.sub_zero, if_true, if_false, Bool.false_eq_true, reduceIte, wipeR, List.cons.injEq, Nat.zero_add, reduceCtorEq, false_and, exists_false, Bool.false_bne, Bool.true_bne, len_lst, len_tup, len_scr, in_lst, in_tup, dKey_str, dKey_int, and_assoc, eq_int, dSub, dLt, dLe, dGt, dGe, isNonD, dIs, dMin, dMax, xMeth, xMeth0, xEqO, xXf, sTry, catchD, offD, add_int, dList, dTuple, xFlt, xFltC, xFltX, xFltCX, xX, sAppP, sClrP, sFldP, sPutP, pVar, pIx, pFld, id, xDisp, pairsD, xNames, xMethF, xMeth0F, aStar, xTGet, xTIn, sPutT, sRaise0, sTryM, catchM, emEq, tKey_strs, famNs, Option.isSome_some, iSqV, countsD]
  refine ⟨_, rfl, tupS th, th, xs, rfl, .inr rfl, hl, ?_⟩
  cases c : fwOf th xs with
  | some i => rw [c] at q; exact q
  | none =>
    rw [c] at q
    exact ⟨th, rs, _, srt xs, rfl, .inr rfl, by rw [srt_len]; omega, q⟩
theorem lc_rngF {ρ : Ro} {vs : List Nat} {g : DG} {t : DT} {e : DX} {Q : List D → Prop} {n : Nat} (p : Nat → Bool) (f : Nat → D) (h : ∀ i, i < n → ∀ K : Option D → Prop, K (if p i = true then some (f i) else none) → g (.int (i : Nat)) (wipeR ρ vs) fun ρ' => t ρ' (fun b => if b = true then e ρ' (fun y => K (some y)) (fun _ => False) else K none) fun _ => False) (q : Q (((List.range n).filter p).map f)) : lcL ρ vs g t e (rng 0 (n : Int)) [] Q := by
  have e : rng 0 (n : Int) = (List.range n).map fun i => D.int (i : Nat) := by
    unfold rng
    rw [show ((n : Int) - 0).toNat = n by omega]
    refine List.map_congr_left fun i _ => ?_
    rw [Int.zero_add]
  rw [e]
  exact lc_filT (fun i => D.int (i : Nat)) p f _ (fun i hi K k => h i (List.mem_range.mp hi) K k) q
def tightL (rs : List (List Str × Int)) (xs : List Str) : List Nat := (List.range rs.length).filter fun i => decide (((shareL xs (rs.getD i ([], 0)).1).length : Int) = (rs.getD i ([], 0)).2)
def r_TRooms : DS :=
  (sSeq (sSet 2 (xFld "Counts" "held" (xVar 0)))
    (sRet (xLc (iRg1 (xB dLen (aCons (xVar 2) aNil))) [3] (gN 3) (tB' (xOp2 (dEq false) (xB dLen (aCons (xFn F_Shared (aCons (xVar 1) (aCons (xOp2 dIx (xOp2 dIx (xVar 2) (xVar 3)) (xC (.int 0))) aNil))) aNil)) (xOp2 dIx (xOp2 dIx (xVar 2) (xVar 3)) (xC (.int 1))))) (xVar 3))))
def F_TRooms : DF := fun ds A _ => ∃ th rs x xs, ds = [countsD th rs, x] ∧ seqS x xs ∧ xs.length ≤ 1000 ∧ rs.length ≤ 1000 ∧ A (.lst ((tightL rs xs).map fun i => .int (i : Nat)))
theorem n_TRooms (ds : List D) (A : D → Prop) (Ax : XQ) (h : F_TRooms ds A Ax) : fnD 1 4 2 r_TRooms ds A Ax := by
  obtain ⟨th, rs, x, xs, rfl, hx, hl, hr, q⟩ := h
  simp only [r_TRooms, xLc, fnD, iniD, startD, sNil, sSeq, sIf, sRet, sSet, sSetO, sExpr, sApp, sPut, sClr, sExt, sIns, sRaise, sRaise2, sAsg, sFor, sSetM, sAppM, sFld', xPopAt, xPop, xVar, xC, xOp1, xOp2, xNeg, xAnd, xOr, xNot, xIf, xB, xFn, xTup, xLst, xFld, xDGet, xDIn, xSl, xChain, oNone, oSome, aNil, aCons, tB', tAnd', tOr', tNot', tYesD, gN, gT, gsN, gsC, iLst, iTupD, iRg1, iRg2, iEnm, iTxt, List.map_cons, List.map_nil, List.length_cons, List.length_nil, List.replicate, List.replicate_succ, List.replicate_zero, List.cons_append, List.nil_append, List.set_cons_zero, List.set_cons_succ, List.getElem?_cons_zero, List.getElem?_cons_succ, Option.some.injEq, D.int.injEq, D.str.injEq, D.bl.injEq, D.lst.injEq, D.tup.injEq, D.dic.injEq, D.ins.injEq, exists_eq_left, exists_eq_left', exists_eq_right, exists_eq_right', exists_and_left, and_true, true_and, Nat.reduceAdd, Nat.reduceSub, Nat.reduceLT, Nat.reduceEqDiff, Nat.add_one_sub_one, Nat.sub_zero, if_true, if_false, Bool.false_eq_true, reduceIte, wipeR, List.cons.injEq, Nat.zero_add, reduceCtorEq, false_and, exists_false, Bool.false_bne, Bool.true_bne, len_lst, len_tup, len_scr, in_lst, in_tup, dKey_str, dKey_int, and_assoc, eq_int, dSub, dLt, dLe, dGt, dGe, isNonD, dIs, dMin, dMax, xMeth, xMeth0, xEqO, xXf, sTry, catchD, offD, add_int, dList, dTuple, xFlt, xFltC, xFltX, xFltCX, xX, sAppP, sClrP, sFldP, sPutP, pVar, pIx, pFld, id, xDisp, pairsD, xNames, xMethF, xMeth0F, aStar, xTGet, xTIn, sPutT, sRaise0, sTryM, catchM, emEq, tKey_strs, famNs, Option.isSome_some, iSqV, countsD]
  refine ⟨_, rfl, _, rfl, _, rfl, by rw [List.length_map]; omega, by rw [List.length_map]; omega, ?_⟩
  rw [List.length_map]
  refine ⟨by rw [rng_len]; show _ ≤ 100000; omega, ?_⟩
  refine lc_rngF (fun i => decide (((shareL xs (rs.getD i ([], 0)).1).length : Int) = (rs.getD i ([], 0)).2)) (fun i => .int (i : Nat)) (fun i hi K kk => ?_) q
  have hg : (rs.map roomD)[i]? = some (roomD rs[i]) := by rw [List.getElem?_map, List.getElem?_eq_getElem hi]; rfl
  rw [getD_of (List.getElem?_eq_getElem hi)] at kk
  simp only [fnD, iniD, startD, sNil, sSeq, sIf, sRet, sSet, sSetO, sExpr, sApp, sPut, sClr, sExt, sIns, sRaise, sRaise2, sAsg, sFor, sSetM, sAppM, sFld', xPopAt, xPop, xVar, xC, xOp1, xOp2, xNeg, xAnd, xOr, xNot, xIf, xB, xFn, xTup, xLst, xFld, xDGet, xDIn, xSl, xChain, oNone, oSome, aNil, aCons, tB', tAnd', tOr', tNot', tYesD, gN, gT, gsN, gsC, iLst, iTupD, iRg1, iRg2, iEnm, iTxt, List.map_cons, List.map_nil, List.length_cons, List.length_nil, List.replicate, List.replicate_succ, List.replicate_zero, List.cons_append, List.nil_append, List.set_cons_zero, List.set_cons_succ, List.getElem?_cons_zero, List.getElem?_cons_succ, Option.some.injEq, D.int.injEq, D.str.injEq, D.bl.injEq, D.lst.injEq, D.tup.injEq, D.dic.injEq, D.ins.injEq, exists_eq_left, exists_eq_left', exists_eq_right, exists_eq_right', exists_and_left, and_true, true_and, Nat.reduceAdd, Nat.reduceSub, Nat.reduceLT, Nat.reduceEqDiff, Nat.add_one_sub_one, Nat.sub_zero, if_true, if_false, Bool.false_eq_true, reduceIte, wipeR, List.cons.injEq, Nat.zero_add, reduceCtorEq, false_and, exists_false, Bool.false_bne, Bool.true_bne, len_lst, len_tup, len_scr, in_lst, in_tup, dKey_str, dKey_int, and_assoc, eq_int, dSub, dLt, dLe, dGt, dGe, isNonD, dIs, dMin, dMax, xMeth, xMeth0, xEqO, xXf, sTry, catchD, offD, add_int, dList, dTuple, xFlt, xFltC, xFltX, xFltCX, xX, sAppP, sClrP, sFldP, sPutP, pVar, pIx, pFld, id, xDisp, pairsD, xNames, xMethF, xMeth0F, aStar, xTGet, xTIn, sPutT, sRaise0, sTryM, catchM, emEq, tKey_strs, famNs, Option.isSome_some, iSqV]
  refine ⟨_, ix_lst hg, _, ix_tup' (i := 0) rfl, x, xs, _, rs[i].1, rfl, hx, .inr rfl, hl, _, rfl, _, ix_lst hg, _, ix_tup' (i := 1) rfl, _, eq_int false _ _, _, rfl, ?_⟩
  rw [List.length_map, Bool.false_bne]
  by_cases c : ((shareL xs rs[i].1).length : Int) = rs[i].2
  · rw [if_pos (decide_eq_true c)] at kk ⊢
    exact kk
  · rw [if_neg (by rw [decide_eq_false c]; decide)] at kk ⊢
    exact kk
def r_Tight : DS :=
  (sSeq (sSet 2 (xFn F_NLot (aCons (xFld "Counts" "known" (xVar 0)) (aCons (xVar 1) aNil))))
    (sSeq (sIf (tB' (xOp2 (dIs true) (xFn F_FOver (aCons (xVar 0) (aCons (xVar 2) aNil))) (xC .non)))
    (sRaise0 "NotFree")
    sNil)
    (sRet (xFn F_TRooms (aCons (xVar 0) (aCons (xVar 2) aNil))))))
def F_Tight : DF := fun ds A Ax => ∃ th rs xs, ds = [countsD th rs, lstS xs] ∧ xs.length < 64 ∧ rs.length ≤ 1000 ∧ match fwOf th xs with
  | some i => Ax ⟨"BadLot", [("index", .int (i : Nat))]⟩
  | none => if (overOf rs (srt xs)).isSome = true then Ax ⟨"NotFree", []⟩ else A (.lst ((tightL rs (srt xs)).map fun i => .int (i : Nat)))
theorem n_Tight (ds : List D) (A : D → Prop) (Ax : XQ) (h : F_Tight ds A Ax) : fnD 0 3 2 r_Tight ds A Ax := by
  obtain ⟨th, rs, xs, rfl, hl, hr, q⟩ := h
  simp only [r_Tight, fnD, iniD, startD, sNil, sSeq, sIf, sRet, sSet, sSetO, sExpr, sApp, sPut, sClr, sExt, sIns, sRaise, sRaise2, sAsg, sFor, sSetM, sAppM, sFld', xPopAt, xPop, xVar, xC, xOp1, xOp2, xNeg, xAnd, xOr, xNot, xIf, xB, xFn, xTup, xLst, xFld, xDGet, xDIn, xSl, xChain, oNone, oSome, aNil, aCons, tB', tAnd', tOr', tNot', tYesD, gN, gT, gsN, gsC, iLst, iTupD, iRg1, iRg2, iEnm, iTxt, List.map_cons, List.map_nil, List.length_cons, List.length_nil, List.replicate, List.replicate_succ, List.replicate_zero, List.cons_append, List.nil_append, List.set_cons_zero, List.set_cons_succ, List.getElem?_cons_zero, List.getElem?_cons_succ, Option.some.injEq, D.int.injEq, D.str.injEq, D.bl.injEq, D.lst.injEq, D.tup.injEq, D.dic.injEq, D.ins.injEq, exists_eq_left, exists_eq_left', exists_eq_right, exists_eq_right', exists_and_left, and_true, true_and, Nat.reduceAdd, Nat.reduceSub, Nat.reduceLT, Nat.reduceEqDiff, Nat.add_one_sub_one, Nat.sub_zero, if_true, if_false, Bool.false_eq_true, reduceIte, wipeR, List.cons.injEq, Nat.zero_add, reduceCtorEq, false_and, exists_false, Bool.false_bne, Bool.true_bne, len_lst, len_tup, len_scr, in_lst, in_tup, dKey_str, dKey_int, and_assoc, eq_int, dSub, dLt, dLe, dGt, dGe, isNonD, dIs, dMin, dMax, xMeth, xMeth0, xEqO, xXf, sTry, catchD, offD, add_int, dList, dTuple, xFlt, xFltC, xFltX, xFltCX, xX, sAppP, sClrP, sFldP, sPutP, pVar, pIx, pFld, id, xDisp, pairsD, xNames, xMethF, xMeth0F, aStar, xTGet, xTIn, sPutT, sRaise0, sTryM, catchM, emEq, tKey_strs, famNs, Option.isSome_some, iSqV]
  refine ⟨_, rfl, _, rfl, tupS th, th, xs, rfl, .inr rfl, hl, ?_⟩
  cases c : fwOf th xs with
  | some i => rw [c] at q; exact q
  | none =>
    rw [c] at q
    refine ⟨th, rs, _, srt xs, rfl, .inr rfl, by rw [srt_len]; omega, ?_⟩
    cases c2 : overOf rs (srt xs) with
    | some j => rw [c2] at q; exact q
    | none => rw [c2] at q; exact ⟨th, rs, _, srt xs, rfl, .inr rfl, by rw [srt_len]; omega, hr, q⟩
end Dz
namespace L48
open PySem PySem.Spec PyProof.Rows L2 Evl Bf Dz
section
variable {P : Program} {w : World} {K : PySem.W.Frag} {mg : Str → Option Value} {base : Heap} {f : Addr} {fd : FuncData} {T : Th K}
theorem okr_IsInt (F : FnS K "is_integer" "is_integer" sIsInt f fd) (B : Bl mg) : FnOk P w K mg base (L2.CX P w) 1 f fd ["thing"] (spOf (T1 K) 0 1 (fnD 0 nIsInt.length 1 r_IsInt)) := by
  refine ok_fn (On := []) F scIsInt fun cdv A outer s H E hr tk => ?_
  exact (ss_one (s_ret (be_and (be_bf call_isi cd_isi (by rfl) B.isinstance (by decide +kernel) (bo_cons (be_o (be_var (i := 0) rfl (by first | exact .inl rfl | exact .inr (.inl rfl) | exact .inr (.inr rfl)) rfl)) (bo_cons (be_o (be_ty (by rfl) B.int (by decide +kernel))) bo_nil))) (be_one (be_not (be_bf call_isi cd_isi (by rfl) B.isinstance (by decide +kernel) (bo_cons (be_o (be_var (i := 0) rfl (by first | exact .inl rfl | exact .inr (.inl rfl) | exact .inr (.inr rfl)) rfl)) (bo_cons (be_o (be_ty (by rfl) B.bool (by decide +kernel))) bo_nil))))))))
theorem okr_IsName (F : FnS K "is_name" "is_name" sIsName f fd) (B : Bl mg) (c_LETTERS : ∃ t, mg "LETTERS" = some (.str "abcdefghijklmnopqrstuvwxyz" t)) (c_MOST_LETTERS : ∃ t, mg "MOST_LETTERS" = some (.int 8 t)) : FnOk P w K mg base (L2.CX P w) 1 f fd ["thing"] (spOf (T1 K) 0 1 (fnD 0 nIsName.length 1 r_IsName)) := by
  refine ok_fn (On := []) F scIsName fun cdv A outer s H E hr tk => ?_
  exact (ss_cons (s_if (PW.pt (bw_or (bt_not (bt_val (be_bf call_isi cd_isi (by rfl) B.isinstance (by decide +kernel) (bo_cons (be_o (be_var (i := 0) rfl (by first | exact .inl rfl | exact .inr (.inl rfl) | exact .inr (.inr rfl)) rfl)) (bo_cons (be_o (be_ty (by rfl) B.str (by decide +kernel))) bo_nil))))) (bw_or1 (bt_not (bt_chain or_le od_le or_le od_le (be_o be_int) (be_o (be_bf call_len cd_len (by rfl) B.len (by decide +kernel) (bo_cons (be_o (be_var (i := 0) rfl (by first | exact .inl rfl | exact .inr (.inl rfl) | exact .inr (.inr rfl)) rfl)) bo_nil))) (be_o (be_gi c_MOST_LETTERS)))))))
    (ss_one (s_ret be_bl))
    ss_nil)
    (ss_one (s_ret (be_bf (cr_all rfl) cd_all (by rfl) B.all (by decide +kernel) (bo_cons (be_o (be_f (bf_lc (own := [("letter", 1)]) (is := [1]) (by rfl) scIsName.nd (i_io (i_str (be_var (i := 0) rfl (by first | exact .inl rfl | exact .inr (.inl rfl) | exact .inr (.inr rfl)) rfl))) (blkOk_by (own := [("letter", 1)]) (N := nIsName) (sc := defScope sIsName) (by decide +kernel)) (fun _ _ _ _ _ => (g_name (i := 1) scIsName.nd rfl (by first | exact .inl rfl | exact .inr rfl) rfl)) (fun _ _ _ _ _ => pts0) (fun _ _ _ _ _ => (be_cmp or_in od_in (be_o (be_var (i := 1) rfl (by first | exact .inl rfl | exact .inr (.inl rfl) | exact .inr (.inr rfl)) rfl)) (be_o (be_gs c_LETTERS)) (by rfl))) rfl rfl))) bo_nil)))))
theorem okr_FirstW (F : FnS K "first_wrong" "first_wrong" sFirstW f fd) (B : Bl mg) : FnOk P w K mg base (L2.CX P w) 1 f fd ["items", "known"] (spOf (T1 K) 0 2 (fnD 0 nFirstW.length 2 r_FirstW)) := by
  refine ok_fn (On := []) F scFirstW fun cdv A outer s H E hr tk => ?_
  have hu := hu_of hr
  exact (ss_cons (s_setO (i := 2) scFirstW.nd rfl (by first | exact .inl rfl | exact .inr rfl) rfl bf_dnew)
    (ss_cons (s_for (passes_of rfl) (by rfl) (i_enum (by rfl) B.enumerate (be_var (i := 0) rfl (by first | exact .inl rfl | exact .inr (.inl rfl) | exact .inr (.inr rfl)) rfl)) (g_tup (is := ([3] ++ ([4] ++ []))) (n := 2) (by rfl) (g_cons (is := [3]) (g_name (i := 3) scFirstW.nd rfl (by first | exact .inl rfl | exact .inr rfl) rfl) (g_cons (is := [4]) (g_name (i := 4) scFirstW.nd rfl (by first | exact .inl rfl | exact .inr rfl) rfl) g_nil rfl) rfl)) rfl
    (ss_cons (s_if (PW.pt (bw_or (bt_cmp or_notin od_notin (be_o (be_var (i := 4) rfl (by first | exact .inl rfl | exact .inr (.inl rfl) | exact .inr (.inr rfl)) rfl)) (be_o (be_var (i := 1) rfl (by first | exact .inl rfl | exact .inr (.inl rfl) | exact .inr (.inr rfl)) rfl)) (by rfl)) (bw_or1 (bt_din hu (be_var (i := 4) rfl (by first | exact .inl rfl | exact .inr (.inl rfl) | exact .inr (.inr rfl)) rfl) (bo_var (i := 2) rfl (by first | exact .inl rfl | exact .inr (.inl rfl) | exact .inr (.inr rfl)) rfl)))))
    (ss_one (s_ret (be_var (i := 3) rfl (by first | exact .inl rfl | exact .inr (.inl rfl) | exact .inr (.inr rfl)) rfl)))
    ss_nil)
    (ss_one (s_put hu (i := 2) rfl (by first | exact .inl rfl | exact .inr (.inl rfl) | exact .inr (.inr rfl)) rfl (be_var (i := 4) rfl (by first | exact .inl rfl | exact .inr (.inl rfl) | exact .inr (.inr rfl)) rfl) be_bl))))
    (ss_one (s_ret be_non))))
theorem okr_Need (F : FnS K "need_things" "need_things" sNeed f fd) (B : Bl mg) (f_is_name : Fn P w (T1 K) mg base 1 "is_name" ["thing"] 0 F_IsName) (x_BadThings : ExT P w K mg base "BadThings" "index" (He.ga K "BadThings")) : FnOk P w K mg base (L2.CX P w) 3 f fd ["things", "most"] (spOf (T1 K) 1 2 (fnD 1 nNeed.length 2 r_Need)) := by
  refine ok_fn (On := []) F scNeed fun cdv A outer s H E hr tk => ?_
  have hu := hu_of hr
  exact (ss_cons (s_if (bt_cmp or_gt od_gt (be_o (be_bf call_len cd_len (by rfl) B.len (by decide +kernel) (bo_cons (be_o (be_var (i := 0) rfl (by first | exact .inl rfl | exact .inr (.inl rfl) | exact .inr (.inr rfl)) rfl)) bo_nil))) (be_o (be_var (i := 1) rfl (by first | exact .inl rfl | exact .inr (.inl rfl) | exact .inr (.inr rfl)) rfl)) (nomark _))
    (ss_one (s_raise x_BadThings (by rfl) tk (hr.mono (by decide)) (be_neg be_int)))
    ss_nil)
    (ss_cons (s_setO (i := 2) scNeed.nd rfl (by first | exact .inl rfl | exact .inr rfl) rfl bf_dnew)
    (ss_cons (s_for (passes_of rfl) (by rfl) (i_enum (by rfl) B.enumerate (be_var (i := 0) rfl (by first | exact .inl rfl | exact .inr (.inl rfl) | exact .inr (.inr rfl)) rfl)) (g_tup (is := ([3] ++ ([4] ++ []))) (n := 2) (by rfl) (g_cons (is := [3]) (g_name (i := 3) scNeed.nd rfl (by first | exact .inl rfl | exact .inr rfl) rfl) (g_cons (is := [4]) (g_name (i := 4) scNeed.nd rfl (by first | exact .inl rfl | exact .inr rfl) rfl) g_nil rfl) rfl)) rfl
    (ss_cons (s_if (PW.pt (bw_or (bt_not (bt_val (be_fn f_is_name (hr.mono (by decide)) tk (ba_cons (be_var (i := 4) rfl (by first | exact .inl rfl | exact .inr (.inl rfl) | exact .inr (.inr rfl)) rfl) ba_nil)))) (bw_or1 (bt_din hu (be_var (i := 4) rfl (by first | exact .inl rfl | exact .inr (.inl rfl) | exact .inr (.inr rfl)) rfl) (bo_var (i := 2) rfl (by first | exact .inl rfl | exact .inr (.inl rfl) | exact .inr (.inr rfl)) rfl)))))
    (ss_one (s_raise x_BadThings (by rfl) tk (hr.mono (by decide)) (be_var (i := 3) rfl (by first | exact .inl rfl | exact .inr (.inl rfl) | exact .inr (.inr rfl)) rfl)))
    ss_nil)
    (ss_one (s_put hu (i := 2) rfl (by first | exact .inl rfl | exact .inr (.inl rfl) | exact .inr (.inr rfl)) rfl (be_var (i := 4) rfl (by first | exact .inl rfl | exact .inr (.inl rfl) | exact .inr (.inr rfl)) rfl) be_bl))))
    (ss_one (s_retF (bf_bf cr_sortedD cd_sorted (by rfl) B.sorted (by decide +kernel) (bo_cons (be_o (be_var (i := 0) rfl (by first | exact .inl rfl | exact .inr (.inl rfl) | exact .inr (.inr rfl)) rfl)) bo_nil)))))))
theorem okr_IsLot (F : FnS K "is_lot" "is_lot" sIsLot f fd) (B : Bl mg) (f_first_wrong : Fn P w (T1 K) mg base 1 "first_wrong" ["items", "known"] 0 F_FirstW) : FnOk P w K mg base (L2.CX P w) 2 f fd ["known", "thing"] (spOf (T1 K) 0 2 (fnD 0 nIsLot.length 2 r_IsLot)) := by
  refine ok_fn (On := []) F scIsLot fun cdv A outer s H E hr tk => ?_
  exact (ss_cons (s_if (PW.pt (bw_or (bt_not (bt_val (be_bf call_isi cd_isi (by rfl) B.isinstance (by decide +kernel) (bo_cons (be_o (be_var (i := 1) rfl (by first | exact .inl rfl | exact .inr (.inl rfl) | exact .inr (.inr rfl)) rfl)) (bo_cons (be_o (be_ty (by rfl) B.list (by decide +kernel))) bo_nil))))) (bw_or1 (bt_not (bt_val (be_bf (cr_all rfl) cd_all (by rfl) B.all (by decide +kernel) (bo_cons (be_o (be_f (bf_lc (own := [("item", 2)]) (is := [2]) (by rfl) scIsLot.nd (i_io (i_list (be_var (i := 1) rfl (by first | exact .inl rfl | exact .inr (.inl rfl) | exact .inr (.inr rfl)) rfl))) (blkOk_by (own := [("item", 2)]) (N := nIsLot) (sc := defScope sIsLot) (by decide +kernel)) (fun _ _ _ _ _ => (g_name (i := 2) scIsLot.nd rfl (by first | exact .inl rfl | exact .inr rfl) rfl)) (fun _ _ _ _ _ => pts0) (fun _ _ _ _ _ => (be_bf call_isi cd_isi (by rfl) B.isinstance (by decide +kernel) (bo_cons (be_o (be_var (i := 2) rfl (by first | exact .inl rfl | exact .inr (.inl rfl) | exact .inr (.inr rfl)) rfl)) (bo_cons (be_o (be_ty (by rfl) B.str (by decide +kernel))) bo_nil)))) rfl rfl))) bo_nil)))))))
    (ss_one (s_ret be_bl))
    ss_nil)
    (ss_one (s_ret (be_cmp op_isN od_is (be_o (be_fn f_first_wrong (hr.mono (by decide)) tk (ba_cons (be_var (i := 1) rfl (by first | exact .inl rfl | exact .inr (.inl rfl) | exact .inr (.inr rfl)) rfl) (ba_cons (be_var (i := 0) rfl (by first | exact .inl rfl | exact .inr (.inl rfl) | exact .inr (.inr rfl)) rfl) ba_nil)))) (be_o be_non) (nomark _)))))
theorem okr_IsRoom (F : FnS K "is_room" "is_room" sIsRoom f fd) (B : Bl mg) (f_is_integer : Fn P w (T1 K) mg base 1 "is_integer" ["thing"] 0 F_IsInt) (f_is_lot : Fn P w (T1 K) mg base 2 "is_lot" ["known", "thing"] 0 F_IsLot) : FnOk P w K mg base (L2.CX P w) 3 f fd ["names", "room"] (spOf (T1 K) 0 2 (fnD 0 nIsRoom.length 2 r_IsRoom)) := by
  refine ok_fn (On := []) F scIsRoom fun cdv A outer s H E hr tk => ?_
  exact (ss_cons (s_if (PW.pt (bw_or (bt_not (bt_val (be_bf call_isi cd_isi (by rfl) B.isinstance (by decide +kernel) (bo_cons (be_o (be_var (i := 1) rfl (by first | exact .inl rfl | exact .inr (.inl rfl) | exact .inr (.inr rfl)) rfl)) (bo_cons (be_o (be_ty (by rfl) B.tuple (by decide +kernel))) bo_nil))))) (bw_or (bt_cmp (op_neD hr.units) od_ne (be_o (be_bf call_len cd_len (by rfl) B.len (by decide +kernel) (bo_cons (be_o (be_var (i := 1) rfl (by first | exact .inl rfl | exact .inr (.inl rfl) | exact .inr (.inr rfl)) rfl)) bo_nil))) (be_o be_int) (nomark _)) (bw_or1 (bt_not (bt_val (be_fn f_is_lot (hr.mono (by decide)) tk (ba_cons (be_var (i := 0) rfl (by first | exact .inl rfl | exact .inr (.inl rfl) | exact .inr (.inr rfl)) rfl) (ba_cons (be_ix ix_seq od_ix (be_o (be_var (i := 1) rfl (by first | exact .inl rfl | exact .inr (.inl rfl) | exact .inr (.inr rfl)) rfl)) (be_o be_int) (fun _ _ => rfl)) ba_nil)))))))))
    (ss_one (s_ret be_bl))
    ss_nil)
    (ss_one (s_ret (be_and (be_fn f_is_integer (hr.mono (by decide)) tk (ba_cons (be_ix ix_seq od_ix (be_o (be_var (i := 1) rfl (by first | exact .inl rfl | exact .inr (.inl rfl) | exact .inr (.inr rfl)) rfl)) (be_o be_int) (fun _ _ => rfl)) ba_nil)) (be_one (be_cmp op_ge od_ge (be_o (be_ix ix_seq od_ix (be_o (be_var (i := 1) rfl (by first | exact .inl rfl | exact .inr (.inl rfl) | exact .inr (.inr rfl)) rfl)) (be_o be_int) (fun _ _ => rfl))) (be_o be_int) (nomark _)))))))
theorem okr_Shared (F : FnS K "shared" "shared" sShared f fd)  : FnOk P w K mg base (L2.CX P w) 1 f fd ["one", "other"] (spOf (T1 K) 1 2 (fnD 1 nShared.length 2 r_Shared)) := by
  refine ok_fn (On := []) F scShared fun cdv A outer s H E hr tk => ?_
  exact (ss_one (s_retF (bf_lc (own := [("thing", 2)]) (is := [2]) (by rfl) scShared.nd (i_io (i_seqV (i := 0) rfl (by first | exact .inl rfl | exact .inr (.inl rfl) | exact .inr (.inr rfl)) rfl)) (blkOk_by (own := [("thing", 2)]) (N := nShared) (sc := defScope sShared) (by decide +kernel)) (fun _ _ _ _ _ => (g_name (i := 2) scShared.nd rfl (by first | exact .inl rfl | exact .inr rfl) rfl)) (fun _ _ _ _ _ => (pts_one (bt_cmp or_in od_in (be_o (be_var (i := 2) rfl (by first | exact .inl rfl | exact .inr (.inl rfl) | exact .inr (.inr rfl)) rfl)) (be_o (be_var (i := 1) rfl (by first | exact .inl rfl | exact .inr (.inl rfl) | exact .inr (.inr rfl)) rfl)) (by rfl)))) (fun _ _ _ _ _ => (be_var (i := 2) rfl (by first | exact .inl rfl | exact .inr (.inl rfl) | exact .inr (.inr rfl)) rfl)) rfl rfl)))
theorem okr_AreX (F : FnS K "are_crossed" "are_crossed" sAreX f fd) (B : Bl mg) (f_shared : Fn P w (T1 K) mg base 1 "shared" ["one", "other"] 1 F_Shared) : FnOk P w K mg base (L2.CX P w) 2 f fd ["one", "other"] (spOf (T1 K) 0 2 (fnD 0 nAreX.length 2 r_AreX)) := by
  refine ok_fn (On := []) F scAreX fun cdv A outer s H E hr tk => ?_
  exact (ss_cons (s_set (i := 2) scAreX.nd rfl (by first | exact .inl rfl | exact .inr rfl) rfl (be_bf call_len cd_len (by rfl) B.len (by decide +kernel) (bo_cons (be_o (be_f (bf_fn f_shared (hr.mono (by decide)) tk (ba_cons (be_var (i := 0) rfl (by first | exact .inl rfl | exact .inr (.inl rfl) | exact .inr (.inr rfl)) rfl) (ba_cons (be_var (i := 1) rfl (by first | exact .inl rfl | exact .inr (.inl rfl) | exact .inr (.inr rfl)) rfl) ba_nil))))) bo_nil)))
    (ss_one (s_ret (be_chain or_lt od_lt or_lt od_lt (be_o be_int) (be_o (be_var (i := 2) rfl (by first | exact .inl rfl | exact .inr (.inl rfl) | exact .inr (.inr rfl)) rfl)) (be_o (be_bf (call_min2 rfl) cd_min (by rfl) B.min (by decide +kernel) (bo_cons (be_o (be_bf call_len cd_len (by rfl) B.len (by decide +kernel) (bo_cons (be_o (be_var (i := 0) rfl (by first | exact .inl rfl | exact .inr (.inl rfl) | exact .inr (.inr rfl)) rfl)) bo_nil))) (bo_cons (be_o (be_bf call_len cd_len (by rfl) B.len (by decide +kernel) (bo_cons (be_o (be_var (i := 1) rfl (by first | exact .inl rfl | exact .inr (.inl rfl) | exact .inr (.inr rfl)) rfl)) bo_nil))) bo_nil))))))))
theorem okr_CInit (F : FnS K "__init__" "Counts.__init__" sCInit f fd) (B : Bl mg) (c_MOST_ROOMS : ∃ t, mg "MOST_ROOMS" = some (.int 60 t)) (c_MOST_THINGS : ∃ t, mg "MOST_THINGS" = some (.int 24 t)) (f_are_crossed : Fn P w (T1 K) mg base 2 "are_crossed" ["one", "other"] 0 F_AreX) (f_is_room : Fn P w (T1 K) mg base 3 "is_room" ["names", "room"] 0 F_IsRoom) (f_need_things : Fn P w (T1 K) mg base 3 "need_things" ["things", "most"] 1 F_Need) (x_BadRooms : ExT P w K mg base "BadRooms" "index" (He.ga K "BadRooms")) (x_CrossedRooms : ExT2 P w K mg base "CrossedRooms" "one" "other" (He.ga K "CrossedRooms")) (T_Counts : ClsT K "Counts" ["known", "held"]) : FnOk P w K mg base (L2.CX P w) 4 f fd ["self", "things", "rooms"] (spIniN (T1 K) "Counts" 2 (iniD "Counts" nCInit.length 2 r_CInit)) := by
  refine ok_iniN F scCInit (by decide) rfl fun cdv A outer s H E hr tk => ?_
  exact (ss_cons (s_fldP (i := 0) (c := "Counts") rfl (by first | exact .inl rfl | exact .inr (.inl rfl) | exact .inr (.inr rfl)) rfl rfl rfl T_Counts.cl (T_Counts.nF "known" (by decide)) T_Counts.nfam (es_e (be_bt call_tuple_of cd_tuple (by rfl) B.tuple (by decide +kernel) (bo_cons (be_o (be_f (bf_fn f_need_things (hr.mono (by decide)) tk (ba_cons (be_var (i := 1) rfl (by first | exact .inl rfl | exact .inr (.inl rfl) | exact .inr (.inr rfl)) rfl) (ba_cons (be_gi c_MOST_THINGS) ba_nil))))) bo_nil))))
    (ss_cons (s_if (bt_cmp or_gt od_gt (be_o (be_bf call_len cd_len (by rfl) B.len (by decide +kernel) (bo_cons (be_o (be_var (i := 2) rfl (by first | exact .inl rfl | exact .inr (.inl rfl) | exact .inr (.inr rfl)) rfl)) bo_nil))) (be_o (be_gi c_MOST_ROOMS)) (nomark _))
    (ss_one (s_raise x_BadRooms (by rfl) tk (hr.mono (by decide)) (be_neg be_int)))
    ss_nil)
    (ss_cons (s_fldP (i := 0) (c := "Counts") rfl (by first | exact .inl rfl | exact .inr (.inl rfl) | exact .inr (.inr rfl)) rfl rfl rfl T_Counts.cl (T_Counts.nF "held" (by decide)) T_Counts.nfam (es_f (bf_lst ba_nil)))
    (ss_cons (s_for (passes_of rfl) (by rfl) (i_enum (by rfl) B.enumerate (be_var (i := 2) rfl (by first | exact .inl rfl | exact .inr (.inl rfl) | exact .inr (.inr rfl)) rfl)) (g_tup (is := ([3] ++ ([4] ++ []))) (n := 2) (by rfl) (g_cons (is := [3]) (g_name (i := 3) scCInit.nd rfl (by first | exact .inl rfl | exact .inr rfl) rfl) (g_cons (is := [4]) (g_name (i := 4) scCInit.nd rfl (by first | exact .inl rfl | exact .inr rfl) rfl) g_nil rfl) rfl)) rfl
    (ss_cons (s_if (bt_not (bt_val (be_fn f_is_room (hr.mono (by decide)) tk (ba_cons (be_r (er_fld (c := "Counts") T_Counts.cl (T_Counts.nF "known" (by decide)) (er_var (i := 0) rfl (by first | exact .inl rfl | exact .inr (.inl rfl) | exact .inr (.inr rfl)) rfl) rfl)) (ba_cons (be_var (i := 4) rfl (by first | exact .inl rfl | exact .inr (.inl rfl) | exact .inr (.inr rfl)) rfl) ba_nil)))))
    (ss_one (s_raise x_BadRooms (by rfl) tk (hr.mono (by decide)) (be_var (i := 3) rfl (by first | exact .inl rfl | exact .inr (.inl rfl) | exact .inr (.inr rfl)) rfl)))
    ss_nil)
    (ss_one (s_appP (i := 0) rfl rfl rfl (L2.pe_bm PySem.F.plainAttrs_list PySem.F.slot_list_append PySem.F.type_list_append mt_append (ep_fld (c := "Counts") T_Counts.cl (T_Counts.nF "held" (by decide)) (ep_var rfl (by first | exact .inl rfl | exact .inr (.inl rfl) | exact .inr (.inr rfl))) rfl) (as_cons (es_e (be_tup (ba_cons (be_bt call_tuple_of cd_tuple (by rfl) B.tuple (by decide +kernel) (bo_cons (be_o (be_f (bf_bf cr_sortedD cd_sorted (by rfl) B.sorted (by decide +kernel) (bo_cons (be_o (be_ix ix_seq od_ix (be_o (be_var (i := 4) rfl (by first | exact .inl rfl | exact .inr (.inl rfl) | exact .inr (.inr rfl)) rfl)) (be_o be_int) (fun _ _ => rfl))) bo_nil)))) bo_nil)) (ba_cons (be_ix ix_seq od_ix (be_o (be_var (i := 4) rfl (by first | exact .inl rfl | exact .inr (.inl rfl) | exact .inr (.inr rfl)) rfl)) (be_o be_int) (fun _ _ => rfl)) ba_nil)))) as_nil))))))
    (ss_pre (O2 := [2000]) (ss_one (s_for (passes_of rfl) (by rfl) (i_enum (by rfl) B.enumerate (be_fld (c := "Counts") T_Counts.cl (T_Counts.nF "held" (by decide)) (be_o (be_var (i := 0) rfl (by first | exact .inl rfl | exact .inr (.inl rfl) | exact .inr (.inr rfl)) rfl)) rfl)) (g_tup (is := ([5] ++ ([6, 7] ++ []))) (n := 2) (by rfl) (g_cons (is := [5]) (g_name (i := 5) scCInit.nd rfl (by first | exact .inl rfl | exact .inr rfl) rfl) (g_cons (is := [6, 7]) (g_tup (is := ([6] ++ ([7] ++ []))) (n := 2) (by rfl) (g_cons (is := [6]) (g_name (i := 6) scCInit.nd rfl (by first | exact .inl rfl | exact .inr rfl) rfl) (g_cons (is := [7]) (g_name (i := 7) scCInit.nd rfl (by first | exact .inl rfl | exact .inr rfl) rfl) g_nil rfl) rfl)) g_nil rfl) rfl)) rfl
    (ss_one (s_for (passes_of rfl) (by rfl) (i_enum (by rfl) B.enumerate (be_fld (c := "Counts") T_Counts.cl (T_Counts.nF "held" (by decide)) (be_o (be_var (i := 0) rfl (by first | exact .inl rfl | exact .inr (.inl rfl) | exact .inr (.inr rfl)) rfl)) rfl)) (g_tup (is := ([8] ++ ([9, 7] ++ []))) (n := 2) (by rfl) (g_cons (is := [8]) (g_name (i := 8) scCInit.nd rfl (by first | exact .inl rfl | exact .inr rfl) rfl) (g_cons (is := [9, 7]) (g_tup (is := ([9] ++ ([7] ++ []))) (n := 2) (by rfl) (g_cons (is := [9]) (g_name (i := 9) scCInit.nd rfl (by first | exact .inl rfl | exact .inr rfl) rfl) (g_cons (is := [7]) (g_name (i := 7) scCInit.nd rfl (by first | exact .inl rfl | exact .inr rfl) rfl) g_nil rfl) rfl)) g_nil rfl) rfl)) rfl
    (ss_one (s_if (PW.pt (bw_and (bt_cmp or_lt od_lt (be_o (be_var (i := 5) rfl (by first | exact .inl rfl | exact .inr (.inl rfl) | exact .inr (.inr rfl)) rfl)) (be_o (be_var (i := 8) rfl (by first | exact .inl rfl | exact .inr (.inl rfl) | exact .inr (.inr rfl)) rfl)) (nomark _)) (bw_and1 (bt_val (be_fn f_are_crossed (hr.mono (by decide)) tk (ba_cons (be_var (i := 6) rfl (by first | exact .inl rfl | exact .inr (.inl rfl) | exact .inr (.inr rfl)) rfl) (ba_cons (be_var (i := 9) rfl (by first | exact .inl rfl | exact .inr (.inl rfl) | exact .inr (.inr rfl)) rfl) ba_nil)))))))
    (ss_one (s_raise2 x_CrossedRooms (by rfl) tk (hr.mono (by decide)) (be_var (i := 5) rfl (by first | exact .inl rfl | exact .inr (.inl rfl) | exact .inr (.inr rfl)) rfl) (be_var (i := 8) rfl (by first | exact .inl rfl | exact .inr (.inl rfl) | exact .inr (.inr rfl)) rfl)))
    ss_nil)))))) rfl)))))
theorem okr_CThings (F : FnS K "things" "Counts.things" sCThings f fd) (B : Bl mg) (T_Counts : ClsT K "Counts" ["known", "held"]) : FnOk P w K mg base (L2.CX P w) 1 f fd ["self"] (spOf (T1 K) 1 1 (fnD 1 nCThings.length 1 r_CThings)) := by
  refine ok_fn (On := []) F scCThings fun cdv A outer s H E hr tk => ?_
  exact (ss_one (s_retF (bf_bt call_list_of cd_list (by rfl) B.list (by decide +kernel) (bo_cons (be_o (be_fld (c := "Counts") T_Counts.cl (T_Counts.nF "known" (by decide)) (be_o (be_var (i := 0) rfl (by first | exact .inl rfl | exact .inr (.inl rfl) | exact .inr (.inr rfl)) rfl)) rfl)) bo_nil))))
theorem okr_CRooms (F : FnS K "rooms" "Counts.rooms" sCRooms f fd) (B : Bl mg) (T_Counts : ClsT K "Counts" ["known", "held"]) : FnOk P w K mg base (L2.CX P w) 1 f fd ["self"] (spOf (T1 K) 2 1 (fnD 2 nCRooms.length 1 r_CRooms)) := by
  refine ok_fn (On := []) F scCRooms fun cdv A outer s H E hr tk => ?_
  exact (ss_one (s_retS (es_lc (own := [("lot", 1), ("number", 2)]) (is := ([1] ++ ([2] ++ []))) (by rfl) scCRooms.nd (i_io (i_list (be_fld (c := "Counts") T_Counts.cl (T_Counts.nF "held" (by decide)) (be_o (be_var (i := 0) rfl (by first | exact .inl rfl | exact .inr (.inl rfl) | exact .inr (.inr rfl)) rfl)) rfl))) (blkOk_by (own := [("lot", 1), ("number", 2)]) (N := nCRooms) (sc := defScope sCRooms) (by decide +kernel)) (fun _ _ _ _ _ => (g_tup (is := ([1] ++ ([2] ++ []))) (n := 2) (by rfl) (g_cons (is := [1]) (g_name (i := 1) scCRooms.nd rfl (by first | exact .inl rfl | exact .inr rfl) rfl) (g_cons (is := [2]) (g_name (i := 2) scCRooms.nd rfl (by first | exact .inl rfl | exact .inr rfl) rfl) g_nil rfl) rfl))) (fun _ _ _ _ _ => pts0) (fun _ _ _ _ _ => (es_tup (as_cons (es_f (bf_bt call_list_of cd_list (by rfl) B.list (by decide +kernel) (bo_cons (be_o (be_var (i := 1) rfl (by first | exact .inl rfl | exact .inr (.inl rfl) | exact .inr (.inr rfl)) rfl)) bo_nil))) (as_cons (es_e (be_var (i := 2) rfl (by first | exact .inl rfl | exact .inr (.inl rfl) | exact .inr (.inr rfl)) rfl)) as_nil)))) rfl rfl)))
theorem okr_NLot (F : FnS K "need_lot" "need_lot" sNLot f fd) (B : Bl mg) (f_first_wrong : Fn P w (T1 K) mg base 1 "first_wrong" ["items", "known"] 0 F_FirstW) (x_BadLot : ExT P w K mg base "BadLot" "index" (He.ga K "BadLot")) : FnOk P w K mg base (L2.CX P w) 3 f fd ["known", "lot"] (spOf (T1 K) 0 2 (fnD 0 nNLot.length 2 r_NLot)) := by
  refine ok_fn (On := []) F scNLot fun cdv A outer s H E hr tk => ?_
  exact (ss_cons (s_set (i := 2) scNLot.nd rfl (by first | exact .inl rfl | exact .inr rfl) rfl (be_fn f_first_wrong (hr.mono (by decide)) tk (ba_cons (be_var (i := 1) rfl (by first | exact .inl rfl | exact .inr (.inl rfl) | exact .inr (.inr rfl)) rfl) (ba_cons (be_var (i := 0) rfl (by first | exact .inl rfl | exact .inr (.inl rfl) | exact .inr (.inr rfl)) rfl) ba_nil))))
    (ss_cons (s_if (bt_cmp op_notN od_isnot (be_o (be_var (i := 2) rfl (by first | exact .inl rfl | exact .inr (.inl rfl) | exact .inr (.inr rfl)) rfl)) (be_o be_non) (nomark _))
    (ss_one (s_raise x_BadLot (by rfl) tk (hr.mono (by decide)) (be_var (i := 2) rfl (by first | exact .inl rfl | exact .inr (.inl rfl) | exact .inr (.inr rfl)) rfl)))
    ss_nil)
    (ss_one (s_ret (be_bt call_tuple_of cd_tuple (by rfl) B.tuple (by decide +kernel) (bo_cons (be_o (be_f (bf_bf cr_sortedD cd_sorted (by rfl) B.sorted (by decide +kernel) (bo_cons (be_o (be_var (i := 1) rfl (by first | exact .inl rfl | exact .inr (.inl rfl) | exact .inr (.inr rfl)) rfl)) bo_nil)))) bo_nil))))))
end
end L48
namespace L48
open PySem PySem.Spec PyProof.Rows L2 Evl Bf Dz
section
variable {P : Program} {w : World} {K : PySem.W.Frag} {mg : Str → Option Value} {base : Heap} {f : Addr} {fd : FuncData} {T : Th K}
theorem okr_FOver (F : FnS K "first_over" "first_over" sFOver f fd) (B : Bl mg) (f_shared : Fn P w (T1 K) mg base 1 "shared" ["one", "other"] 1 F_Shared) (T_Counts : ClsT K "Counts" ["known", "held"]) : FnOk P w K mg base (L2.CX P w) 2 f fd ["counts", "lot"] (spOf (T1 K) 0 2 (fnD 0 nFOver.length 2 r_FOver)) := by
  refine ok_fn (On := []) F scFOver fun cdv A outer s H E hr tk => ?_
  exact (ss_cons (s_for (passes_of rfl) (by rfl) (i_enum (by rfl) B.enumerate (be_fld (c := "Counts") T_Counts.cl (T_Counts.nF "held" (by decide)) (be_o (be_var (i := 0) rfl (by first | exact .inl rfl | exact .inr (.inl rfl) | exact .inr (.inr rfl)) rfl)) rfl)) (g_tup (is := ([2] ++ ([3, 4] ++ []))) (n := 2) (by rfl) (g_cons (is := [2]) (g_name (i := 2) scFOver.nd rfl (by first | exact .inl rfl | exact .inr rfl) rfl) (g_cons (is := [3, 4]) (g_tup (is := ([3] ++ ([4] ++ []))) (n := 2) (by rfl) (g_cons (is := [3]) (g_name (i := 3) scFOver.nd rfl (by first | exact .inl rfl | exact .inr rfl) rfl) (g_cons (is := [4]) (g_name (i := 4) scFOver.nd rfl (by first | exact .inl rfl | exact .inr rfl) rfl) g_nil rfl) rfl)) g_nil rfl) rfl)) rfl
    (ss_one (s_if (bt_cmp or_gt od_gt (be_o (be_bf call_len cd_len (by rfl) B.len (by decide +kernel) (bo_cons (be_o (be_f (bf_fn f_shared (hr.mono (by decide)) tk (ba_cons (be_var (i := 1) rfl (by first | exact .inl rfl | exact .inr (.inl rfl) | exact .inr (.inr rfl)) rfl) (ba_cons (be_var (i := 3) rfl (by first | exact .inl rfl | exact .inr (.inl rfl) | exact .inr (.inr rfl)) rfl) ba_nil))))) bo_nil))) (be_o (be_var (i := 4) rfl (by first | exact .inl rfl | exact .inr (.inl rfl) | exact .inr (.inr rfl)) rfl)) (nomark _))
    (ss_one (s_ret (be_var (i := 2) rfl (by first | exact .inl rfl | exact .inr (.inl rfl) | exact .inr (.inr rfl)) rfl)))
    ss_nil)))
    (ss_one (s_ret be_non)))
theorem okr_CWInit (F : FnS K "__init__" "CountsWorld.__init__" sCWInit f fd) (T_CountsWorld : ClsT K "CountsWorld" ["table"]) : FnOk P w K mg base (L2.CX P w) 1 f fd ["self", "counts"] (spIni (T1 K) "CountsWorld" 1 (iniD "CountsWorld" nCWInit.length 1 r_CWInit)) := by
  refine ok_ini F scCWInit (by decide) rfl fun cdv A outer s H E hr tk => ?_
  exact (ss_one (s_fld (i := 0) (c := "CountsWorld") rfl (by first | exact .inl rfl | exact .inr (.inl rfl) | exact .inr (.inr rfl)) rfl T_CountsWorld.cl (T_CountsWorld.nF "table" (by decide)) T_CountsWorld.nfam (be_var (i := 1) rfl (by first | exact .inl rfl | exact .inr (.inl rfl) | exact .inr (.inr rfl)) rfl)))
theorem okr_CWFree (F : FnS K "count_free" "CountsWorld.count_free" sCWFree f fd) (B : Bl mg) (f_first_over : Fn P w (T1 K) mg base 2 "first_over" ["counts", "lot"] 0 F_FOver) (T_CountsWorld : ClsT K "CountsWorld" ["table"]) : FnOk P w K mg base (L2.CX P w) 3 f fd ["self", "lot"] (spOf (T1 K) 0 2 (fnD 0 nCWFree.length 2 r_CWFree)) := by
  refine ok_fn (On := []) F scCWFree fun cdv A outer s H E hr tk => ?_
  exact (ss_cons (s_setO (i := 2) scCWFree.nd rfl (by first | exact .inl rfl | exact .inr rfl) rfl (bf_lst ba_nil))
    (ss_cons (s_for (passes_of rfl) (by rfl) (i_tup (be_var (i := 1) rfl (by first | exact .inl rfl | exact .inr (.inl rfl) | exact .inr (.inr rfl)) rfl)) (g_name (i := 3) scCWFree.nd rfl (by first | exact .inl rfl | exact .inr rfl) rfl) rfl
    (ss_one (s_if (bt_cmp op_isN od_is (be_o (be_fn f_first_over (hr.mono (by decide)) tk (ba_cons (be_fld (c := "CountsWorld") T_CountsWorld.cl (T_CountsWorld.nF "table" (by decide)) (be_o (be_var (i := 0) rfl (by first | exact .inl rfl | exact .inr (.inl rfl) | exact .inr (.inr rfl)) rfl)) rfl) (ba_cons (be_f (bf_lstV (av_star (bo_var (i := 2) rfl (by first | exact .inl rfl | exact .inr (.inl rfl) | exact .inr (.inr rfl)) rfl) (av_cons (be_var (i := 3) rfl (by first | exact .inl rfl | exact .inr (.inl rfl) | exact .inr (.inr rfl)) rfl) av_nil)))) ba_nil)))) (be_o be_non) (nomark _))
    (ss_one (s_app (i := 2) rfl (by first | exact .inl rfl | exact .inr (.inl rfl) | exact .inr (.inr rfl)) rfl (be_var (i := 3) rfl (by first | exact .inl rfl | exact .inr (.inl rfl) | exact .inr (.inr rfl)) rfl) rfl rfl rfl (L2.pe_bm PySem.F.plainAttrs_list PySem.F.slot_list_append PySem.F.type_list_append mt_append (pv 2) (ba_cons (be_var (i := 3) rfl (by first | exact .inl rfl | exact .inr (.inl rfl) | exact .inr (.inr rfl)) rfl) ba_nil))))
    ss_nil)))
    (ss_one (s_ret (be_bf call_len cd_len (by rfl) B.len (by decide +kernel) (bo_cons (bo_var (i := 2) rfl (by first | exact .inl rfl | exact .inr (.inl rfl) | exact .inr (.inr rfl)) rfl) bo_nil))))))
theorem okr_CFam (F : FnS K "counts_family" "counts_family" sCFam f fd) (m_CountsWorld : MkD P w (T1 K) mg base 1 "CountsWorld" 1 F_CWInit) (m_Counts_things : MtD P w (T1 K) mg base 1 "Counts" "things" 1 1 F_CThings) (m_Family : MkF P w K mg base 1 F_FInit) : FnOk P w K mg base (L2.CX P w) 3 f fd ["counts"] (spOf (T1 K) 0 1 (fnD 0 nCFam.length 1 r_CFam)) := by
  refine ok_fn (On := []) F scCFam fun cdv A outer s H E hr tk => ?_
  exact (ss_one (s_ret (be_mkF m_Family (hr.mono (by decide)) tk (ba_cons (be_f (bf_meth0 m_Counts_things (hr.mono (by decide)) tk (be_var (i := 0) rfl (by first | exact .inl rfl | exact .inr (.inl rfl) | exact .inr (.inr rfl)) rfl))) (ba_cons (be_f (bf_mk m_CountsWorld i_CWInit (hr.mono (by decide)) tk (ba_cons (be_var (i := 0) rfl (by first | exact .inl rfl | exact .inr (.inl rfl) | exact .inr (.inr rfl)) rfl) ba_nil))) ba_nil)))))
theorem okr_FThings (F : FnS K "things" "Family.things" sFThings f fd) (B : Bl mg) (T_Family : ClsF K "Family" ["names", "source", "counted"]) : FnOk P w K mg base (L2.CX P w) 1 f fd ["self"] (spOf (T1 K) 1 1 (fnD 1 nFThings.length 1 r_FThings)) := by
  refine ok_fn (On := []) F scFThings fun cdv A outer s H E hr tk => ?_
  exact (ss_one (s_retF (bf_bt call_list_of cd_list (by rfl) B.list (by decide +kernel) (bo_cons (be_o (be_famN T_Family.cl (T_Family.nF "names" (by decide)) (be_var (i := 0) rfl (by first | exact .inl rfl | exact .inr (.inl rfl) | exact .inr (.inr rfl)) rfl) rfl)) bo_nil))))
theorem okr_FRank (F : FnS K "rank" "Family.rank" sFRank f fd) (f_need_lot : Fn P w (T1 K) mg base 3 "need_lot" ["known", "lot"] 0 F_NLot) (T_Family : ClsF K "Family" ["names", "source", "counted"]) (m_Family_rank_of : MtD P w (T1 K) mg base 4 "Family" "rank_of" 2 0 F_Rank1) : FnOk P w K mg base (L2.CX P w) 5 f fd ["self", "lot"] (spOf (T1 K) 0 2 (fnD 0 nFRank.length 2 r_FRank)) := by
  refine ok_fn (On := []) F scFRank fun cdv A outer s H E hr tk => ?_
  exact (ss_one (s_ret (be_methF m_Family_rank_of (hr.mono (by decide)) tk (be_var (i := 0) rfl (by first | exact .inl rfl | exact .inr (.inl rfl) | exact .inr (.inr rfl)) rfl) (ba_cons (be_fn f_need_lot (hr.mono (by decide)) tk (ba_cons (be_famN T_Family.cl (T_Family.nF "names" (by decide)) (be_var (i := 0) rfl (by first | exact .inl rfl | exact .inr (.inl rfl) | exact .inr (.inr rfl)) rfl) rfl) (ba_cons (be_var (i := 1) rfl (by first | exact .inl rfl | exact .inr (.inl rfl) | exact .inr (.inr rfl)) rfl) ba_nil))) ba_nil))))
theorem okr_FFree (F : FnS K "is_free" "Family.is_free" sFFree f fd) (B : Bl mg) (m_Family_rank : MtD P w (T1 K) mg base 5 "Family" "rank" 2 0 F_FRank) : FnOk P w K mg base (L2.CX P w) 6 f fd ["self", "lot"] (spOf (T1 K) 0 2 (fnD 0 nFFree.length 2 r_FFree)) := by
  refine ok_fn (On := []) F scFFree fun cdv A outer s H E hr tk => ?_
  exact (ss_one (s_ret (be_cmp (op_eqD hr.units) od_eq (be_o (be_methF m_Family_rank (hr.mono (by decide)) tk (be_var (i := 0) rfl (by first | exact .inl rfl | exact .inr (.inl rfl) | exact .inr (.inr rfl)) rfl) (ba_cons (be_var (i := 1) rfl (by first | exact .inl rfl | exact .inr (.inl rfl) | exact .inr (.inr rfl)) rfl) ba_nil))) (be_o (be_bf call_len cd_len (by rfl) B.len (by decide +kernel) (bo_cons (be_o (be_var (i := 1) rfl (by first | exact .inl rfl | exact .inr (.inl rfl) | exact .inr (.inr rfl)) rfl)) bo_nil))) (nomark _))))
theorem okr_OvFull (F : FnS K "over_full" "over_full" sOvFull f fd) (f_first_over : Fn P w (T1 K) mg base 2 "first_over" ["counts", "lot"] 0 F_FOver) (f_need_lot : Fn P w (T1 K) mg base 3 "need_lot" ["known", "lot"] 0 F_NLot) (T_Counts : ClsT K "Counts" ["known", "held"]) : FnOk P w K mg base (L2.CX P w) 4 f fd ["counts", "lot"] (spOf (T1 K) 0 2 (fnD 0 nOvFull.length 2 r_OvFull)) := by
  refine ok_fn (On := []) F scOvFull fun cdv A outer s H E hr tk => ?_
  exact (ss_one (s_ret (be_fn f_first_over (hr.mono (by decide)) tk (ba_cons (be_var (i := 0) rfl (by first | exact .inl rfl | exact .inr (.inl rfl) | exact .inr (.inr rfl)) rfl) (ba_cons (be_fn f_need_lot (hr.mono (by decide)) tk (ba_cons (be_fld (c := "Counts") T_Counts.cl (T_Counts.nF "known" (by decide)) (be_o (be_var (i := 0) rfl (by first | exact .inl rfl | exact .inr (.inl rfl) | exact .inr (.inr rfl)) rfl)) rfl) (ba_cons (be_var (i := 1) rfl (by first | exact .inl rfl | exact .inr (.inl rfl) | exact .inr (.inr rfl)) rfl) ba_nil))) ba_nil)))))
theorem okr_TRooms (F : FnS K "tight_rooms" "tight_rooms" sTRooms f fd) (B : Bl mg) (f_shared : Fn P w (T1 K) mg base 1 "shared" ["one", "other"] 1 F_Shared) (T_Counts : ClsT K "Counts" ["known", "held"]) : FnOk P w K mg base (L2.CX P w) 2 f fd ["counts", "lot"] (spOf (T1 K) 1 2 (fnD 1 nTRooms.length 2 r_TRooms)) := by
  refine ok_fn (On := []) F scTRooms fun cdv A outer s H E hr tk => ?_
  exact (ss_cons (s_set (i := 2) scTRooms.nd rfl (by first | exact .inl rfl | exact .inr rfl) rfl (be_fld (c := "Counts") T_Counts.cl (T_Counts.nF "held" (by decide)) (be_o (be_var (i := 0) rfl (by first | exact .inl rfl | exact .inr (.inl rfl) | exact .inr (.inr rfl)) rfl)) rfl))
    (ss_one (s_retF (bf_lc (own := [("index", 3)]) (is := [3]) (by rfl) scTRooms.nd (i_io (i_range1 (by rfl) B.range (be_bf call_len cd_len (by rfl) B.len (by decide +kernel) (bo_cons (be_o (be_var (i := 2) rfl (by first | exact .inl rfl | exact .inr (.inl rfl) | exact .inr (.inr rfl)) rfl)) bo_nil)))) (blkOk_by (own := [("index", 3)]) (N := nTRooms) (sc := defScope sTRooms) (by decide +kernel)) (fun _ _ _ _ _ => (g_name (i := 3) scTRooms.nd rfl (by first | exact .inl rfl | exact .inr rfl) rfl)) (fun _ _ _ _ _ => (pts_one (bt_cmp (op_eqD hr.units) od_eq (be_o (be_bf call_len cd_len (by rfl) B.len (by decide +kernel) (bo_cons (be_o (be_f (bf_fn f_shared (hr.mono (by decide)) takes0 (ba_cons (be_var (i := 1) rfl (by first | exact .inl rfl | exact .inr (.inl rfl) | exact .inr (.inr rfl)) rfl) (ba_cons (be_ix ix_seq od_ix (be_o (be_ix ix_seq od_ix (be_o (be_var (i := 2) rfl (by first | exact .inl rfl | exact .inr (.inl rfl) | exact .inr (.inr rfl)) rfl)) (be_o (be_var (i := 3) rfl (by first | exact .inl rfl | exact .inr (.inl rfl) | exact .inr (.inr rfl)) rfl)) (fun _ _ => rfl))) (be_o be_int) (fun _ _ => rfl)) ba_nil))))) bo_nil))) (be_o (be_ix ix_seq od_ix (be_o (be_ix ix_seq od_ix (be_o (be_var (i := 2) rfl (by first | exact .inl rfl | exact .inr (.inl rfl) | exact .inr (.inr rfl)) rfl)) (be_o (be_var (i := 3) rfl (by first | exact .inl rfl | exact .inr (.inl rfl) | exact .inr (.inr rfl)) rfl)) (fun _ _ => rfl))) (be_o be_int) (fun _ _ => rfl))) (nomark _)))) (fun _ _ _ _ _ => (be_var (i := 3) rfl (by first | exact .inl rfl | exact .inr (.inl rfl) | exact .inr (.inr rfl)) rfl)) rfl rfl))))
theorem okr_Tight (F : FnS K "tight" "tight" sTight f fd) (f_first_over : Fn P w (T1 K) mg base 2 "first_over" ["counts", "lot"] 0 F_FOver) (f_need_lot : Fn P w (T1 K) mg base 3 "need_lot" ["known", "lot"] 0 F_NLot) (f_tight_rooms : Fn P w (T1 K) mg base 2 "tight_rooms" ["counts", "lot"] 1 F_TRooms) (x0_NotFree : Ex0T K mg "NotFree") (T_Counts : ClsT K "Counts" ["known", "held"]) : FnOk P w K mg base (L2.CX P w) 4 f fd ["counts", "lot"] (spOf (T1 K) 0 2 (fnD 0 nTight.length 2 r_Tight)) := by
  refine ok_fn (On := []) F scTight fun cdv A outer s H E hr tk => ?_
  exact (ss_cons (s_set (i := 2) scTight.nd rfl (by first | exact .inl rfl | exact .inr rfl) rfl (be_fn f_need_lot (hr.mono (by decide)) tk (ba_cons (be_fld (c := "Counts") T_Counts.cl (T_Counts.nF "known" (by decide)) (be_o (be_var (i := 0) rfl (by first | exact .inl rfl | exact .inr (.inl rfl) | exact .inr (.inr rfl)) rfl)) rfl) (ba_cons (be_var (i := 1) rfl (by first | exact .inl rfl | exact .inr (.inl rfl) | exact .inr (.inr rfl)) rfl) ba_nil))))
    (ss_cons (s_if (bt_cmp op_notN od_isnot (be_o (be_fn f_first_over (hr.mono (by decide)) tk (ba_cons (be_var (i := 0) rfl (by first | exact .inl rfl | exact .inr (.inl rfl) | exact .inr (.inr rfl)) rfl) (ba_cons (be_var (i := 2) rfl (by first | exact .inl rfl | exact .inr (.inl rfl) | exact .inr (.inr rfl)) rfl) ba_nil)))) (be_o be_non) (nomark _))
    (ss_one (s_raise0 x0_NotFree (by rfl) tk))
    ss_nil)
    (ss_one (s_ret (be_f (bf_fn f_tight_rooms (hr.mono (by decide)) tk (ba_cons (be_var (i := 0) rfl (by first | exact .inl rfl | exact .inr (.inl rfl) | exact .inr (.inr rfl)) rfl) (ba_cons (be_var (i := 2) rfl (by first | exact .inl rfl | exact .inr (.inl rfl) | exact .inr (.inr rfl)) rfl) ba_nil))))))))
theorem okr_Names (F : FnS K "_law_names" "_law_names" sNames f fd) (B : Bl mg) (f__law_draw : Fn P w (T1 K) mg base 1 "_law_draw" ["_law_state_here", "_law_many"] 0 F_Draw) : FnOk P w K mg base (L2.CX P w) 2 f fd ["_law_state_here", "_law_many"] (spOf (T1 K) 1 2 (fnD 1 nNames.length 2 r_Names)) := by
  refine ok_fn (On := []) F scNames fun cdv A outer s H E hr tk => ?_
  exact (ss_cons (s_setO (i := 2) scNames.nd rfl (by first | exact .inl rfl | exact .inr rfl) rfl (bf_lst ba_nil))
    (ss_cons (s_for (passes_of rfl) (by rfl) (i_range1 (by rfl) B.range (be_var (i := 1) rfl (by first | exact .inl rfl | exact .inr (.inl rfl) | exact .inr (.inr rfl)) rfl)) (g_name (i := 3) scNames.nd rfl (by first | exact .inl rfl | exact .inr rfl) rfl) rfl
    (ss_cons (s_set (i := 4) scNames.nd rfl (by first | exact .inl rfl | exact .inr rfl) rfl (be_ix ix_seq od_ix (be_o be_str) (be_o (be_fn f__law_draw (hr.mono (by decide)) tk (ba_cons (be_var (i := 0) rfl (by first | exact .inl rfl | exact .inr (.inl rfl) | exact .inr (.inr rfl)) rfl) (ba_cons be_int ba_nil)))) (fun _ _ => rfl)))
    (ss_cons (s_if (bt_cmp (op_eqD hr.units) od_eq (be_o (be_fn f__law_draw (hr.mono (by decide)) tk (ba_cons (be_var (i := 0) rfl (by first | exact .inl rfl | exact .inr (.inl rfl) | exact .inr (.inr rfl)) rfl) (ba_cons be_int ba_nil)))) (be_o be_int) (nomark _))
    (ss_one (s_set (i := 4) scNames.nd rfl (by first | exact .inl rfl | exact .inr rfl) rfl (be_op or_add od_add (be_o (be_var (i := 4) rfl (by first | exact .inl rfl | exact .inr (.inl rfl) | exact .inr (.inr rfl)) rfl)) (be_o (be_op or_mul od_mul (be_o (be_ix ix_seq od_ix (be_o be_str) (be_o (be_fn f__law_draw (hr.mono (by decide)) tk (ba_cons (be_var (i := 0) rfl (by first | exact .inl rfl | exact .inr (.inl rfl) | exact .inr (.inr rfl)) rfl) (ba_cons be_int ba_nil)))) (fun _ _ => rfl))) (be_o (be_op or_add od_add (be_o be_int) (be_o (be_fn f__law_draw (hr.mono (by decide)) tk (ba_cons (be_var (i := 0) rfl (by first | exact .inl rfl | exact .inr (.inl rfl) | exact .inr (.inr rfl)) rfl) (ba_cons be_int ba_nil)))))))))))
    ss_nil)
    (ss_cons (s_if (bt_cmp or_in od_in (be_o (be_var (i := 4) rfl (by first | exact .inl rfl | exact .inr (.inl rfl) | exact .inr (.inr rfl)) rfl)) (bo_var (i := 2) rfl (by first | exact .inl rfl | exact .inr (.inl rfl) | exact .inr (.inr rfl)) rfl) (by rfl))
    (ss_one (s_set (i := 4) scNames.nd rfl (by first | exact .inl rfl | exact .inr rfl) rfl (be_op or_add od_add (be_o (be_ix ix_seq od_ix (be_o be_str) (be_o (be_var (i := 3) rfl (by first | exact .inl rfl | exact .inr (.inl rfl) | exact .inr (.inr rfl)) rfl)) (fun _ _ => rfl))) (be_o (be_slice (be_o (be_var (i := 4) rfl (by first | exact .inl rfl | exact .inr (.inl rfl) | exact .inr (.inr rfl)) rfl)) bp_none (bp_some be_int))))))
    ss_nil)
    (ss_one (s_app (i := 2) rfl (by first | exact .inl rfl | exact .inr (.inl rfl) | exact .inr (.inr rfl)) rfl (be_var (i := 4) rfl (by first | exact .inl rfl | exact .inr (.inl rfl) | exact .inr (.inr rfl)) rfl) rfl rfl rfl (L2.pe_bm PySem.F.plainAttrs_list PySem.F.slot_list_append PySem.F.type_list_append mt_append (pv 2) (ba_cons (be_var (i := 4) rfl (by first | exact .inl rfl | exact .inr (.inl rfl) | exact .inr (.inr rfl)) rfl) ba_nil))))))))
    (ss_one (s_retF (bf_bf cr_sortedD cd_sorted (by rfl) B.sorted (by decide +kernel) (bo_cons (bo_var (i := 2) rfl (by first | exact .inl rfl | exact .inr (.inl rfl) | exact .inr (.inr rfl)) rfl) bo_nil))))))
theorem okr_Mixed (F : FnS K "_law_mixed" "_law_mixed" sMixed f fd) (B : Bl mg) (f__law_draw : Fn P w (T1 K) mg base 1 "_law_draw" ["_law_state_here", "_law_many"] 0 F_Draw) : FnOk P w K mg base (L2.CX P w) 2 f fd ["_law_state_here", "_law_items"] (spOf (T1 K) 1 2 (fnD 1 nMixed.length 2 r_Mixed)) := by
  refine ok_fn (On := []) F scMixed fun cdv A outer s H E hr tk => ?_
  exact (ss_cons (s_setO (i := 2) scMixed.nd rfl (by first | exact .inl rfl | exact .inr rfl) rfl (bf_bt call_list_of cd_list (by rfl) B.list (by decide +kernel) (bo_cons (be_o (be_var (i := 1) rfl (by first | exact .inl rfl | exact .inr (.inl rfl) | exact .inr (.inr rfl)) rfl)) bo_nil)))
    (ss_cons (s_setO (i := 3) scMixed.nd rfl (by first | exact .inl rfl | exact .inr rfl) rfl (bf_lst ba_nil))
    (ss_cons (s_for (passes_of rfl) (by rfl) (i_range1 (by rfl) B.range (be_bf call_len cd_len (by rfl) B.len (by decide +kernel) (bo_cons (be_o (be_var (i := 1) rfl (by first | exact .inl rfl | exact .inr (.inl rfl) | exact .inr (.inr rfl)) rfl)) bo_nil))) (g_name (i := 4) scMixed.nd rfl (by first | exact .inl rfl | exact .inr rfl) rfl) rfl
    (ss_one (s_appM (i := 3) rfl (by first | exact .inl rfl | exact .inr (.inl rfl) | exact .inr (.inr rfl)) rfl (m_popAt (i := 2) rfl (by first | exact .inl rfl | exact .inr (.inl rfl) | exact .inr (.inr rfl)) rfl (be_fn f__law_draw (hr.mono (by decide)) tk (ba_cons (be_var (i := 0) rfl (by first | exact .inl rfl | exact .inr (.inl rfl) | exact .inr (.inr rfl)) rfl) (ba_cons (be_bf call_len cd_len (by rfl) B.len (by decide +kernel) (bo_cons (bo_var (i := 2) rfl (by first | exact .inl rfl | exact .inr (.inl rfl) | exact .inr (.inr rfl)) rfl) bo_nil)) ba_nil))) (L2.pe_bm PySem.F.plainAttrs_list PySem.F.slot_list_pop PySem.F.type_list_pop mt_popAt (pv 2) (ba_cons (be_fn f__law_draw (hr.mono (by decide)) tk (ba_cons (be_var (i := 0) rfl (by first | exact .inl rfl | exact .inr (.inl rfl) | exact .inr (.inr rfl)) rfl) (ba_cons (be_bf call_len cd_len (by rfl) B.len (by decide +kernel) (bo_cons (bo_var (i := 2) rfl (by first | exact .inl rfl | exact .inr (.inl rfl) | exact .inr (.inr rfl)) rfl) bo_nil)) ba_nil))) ba_nil))) (L2.pe_bm PySem.F.plainAttrs_list PySem.F.slot_list_append PySem.F.type_list_append mt_append (pv 3) (pa_cons (m_popAt (i := 2) rfl (by first | exact .inl rfl | exact .inr (.inl rfl) | exact .inr (.inr rfl)) rfl (be_fn f__law_draw (hr.mono (by decide)) tk (ba_cons (be_var (i := 0) rfl (by first | exact .inl rfl | exact .inr (.inl rfl) | exact .inr (.inr rfl)) rfl) (ba_cons (be_bf call_len cd_len (by rfl) B.len (by decide +kernel) (bo_cons (bo_var (i := 2) rfl (by first | exact .inl rfl | exact .inr (.inl rfl) | exact .inr (.inr rfl)) rfl) bo_nil)) ba_nil))) (L2.pe_bm PySem.F.plainAttrs_list PySem.F.slot_list_pop PySem.F.type_list_pop mt_popAt (pv 2) (ba_cons (be_fn f__law_draw (hr.mono (by decide)) tk (ba_cons (be_var (i := 0) rfl (by first | exact .inl rfl | exact .inr (.inl rfl) | exact .inr (.inr rfl)) rfl) (ba_cons (be_bf call_len cd_len (by rfl) B.len (by decide +kernel) (bo_cons (bo_var (i := 2) rfl (by first | exact .inl rfl | exact .inr (.inl rfl) | exact .inr (.inr rfl)) rfl) bo_nil)) ba_nil))) ba_nil))) pa_nil (by rfl))))))
    (ss_one (s_retO (i := 3) rfl (by first | exact .inl rfl | exact .inr (.inl rfl) | exact .inr (.inr rfl)) rfl)))))
theorem okr_LRooms3 {F_LRooms : DF} (F : FnS K "_law_rooms" "_law_rooms" sLRooms f fd) (B : Bl mg) (f__law_draw : Fn P w (T1 K) mg base 1 "_law_draw" ["_law_state_here", "_law_many"] 0 F_Draw) (f__law_mixed : Fn P w (T1 K) mg base 2 "_law_mixed" ["_law_state_here", "_law_items"] 1 F_Mixed) (f__law_rooms : Fn P w (T1 K) mg base 2 "_law_rooms" ["_law_state_here", "_law_things", "_law_deep"] 1 F_LRooms) : FnOk P w K mg base (L2.CX P w) 3 f fd ["_law_state_here", "_law_things", "_law_deep"] (spOf (T1 K) 1 3 (fnD 1 nLRooms.length 3 (r_LRooms F_LRooms))) := by
  refine ok_fn (On := []) F scLRooms fun cdv A outer s H E hr tk => ?_
  exact (ss_cons (s_setO (i := 3) scLRooms.nd rfl (by first | exact .inl rfl | exact .inr rfl) rfl (bf_lst ba_nil))
    (ss_cons (s_set (i := 4) scLRooms.nd rfl (by first | exact .inl rfl | exact .inr rfl) rfl (be_f (bf_fn f__law_mixed (hr.mono (by decide)) tk (ba_cons (be_var (i := 0) rfl (by first | exact .inl rfl | exact .inr (.inl rfl) | exact .inr (.inr rfl)) rfl) (ba_cons (be_var (i := 1) rfl (by first | exact .inl rfl | exact .inr (.inl rfl) | exact .inr (.inr rfl)) rfl) ba_nil)))))
    (ss_cons (s_while (passes_of rfl) (bt_cmp (op_neD hr.units) od_ne (be_o (be_var (i := 4) rfl (by first | exact .inl rfl | exact .inr (.inl rfl) | exact .inr (.inr rfl)) rfl)) (be_o (be_f (bf_lst ba_nil))) (nomark _))
    (ss_cons (s_set (i := 5) scLRooms.nd rfl (by first | exact .inl rfl | exact .inr rfl) rfl (be_op or_add od_add (be_o be_int) (be_o (be_fn f__law_draw (hr.mono (by decide)) tk (ba_cons (be_var (i := 0) rfl (by first | exact .inl rfl | exact .inr (.inl rfl) | exact .inr (.inr rfl)) rfl) (ba_cons (be_bf call_len cd_len (by rfl) B.len (by decide +kernel) (bo_cons (be_o (be_var (i := 4) rfl (by first | exact .inl rfl | exact .inr (.inl rfl) | exact .inr (.inr rfl)) rfl)) bo_nil)) ba_nil))))))
    (ss_cons (s_set (i := 6) scLRooms.nd rfl (by first | exact .inl rfl | exact .inr rfl) rfl (be_slice (be_o (be_var (i := 4) rfl (by first | exact .inl rfl | exact .inr (.inl rfl) | exact .inr (.inr rfl)) rfl)) bp_none (bp_some (be_var (i := 5) rfl (by first | exact .inl rfl | exact .inr (.inl rfl) | exact .inr (.inr rfl)) rfl))))
    (ss_cons (s_set (i := 4) scLRooms.nd rfl (by first | exact .inl rfl | exact .inr rfl) rfl (be_slice (be_o (be_var (i := 4) rfl (by first | exact .inl rfl | exact .inr (.inl rfl) | exact .inr (.inr rfl)) rfl)) (bp_some (be_var (i := 5) rfl (by first | exact .inl rfl | exact .inr (.inl rfl) | exact .inr (.inr rfl)) rfl)) bp_none))
    (ss_cons (s_if (bt_cmp or_gt od_gt (be_o (be_fn f__law_draw (hr.mono (by decide)) tk (ba_cons (be_var (i := 0) rfl (by first | exact .inl rfl | exact .inr (.inl rfl) | exact .inr (.inr rfl)) rfl) (ba_cons be_int ba_nil)))) (be_o be_int) (nomark _))
    (ss_one (s_app (i := 3) rfl (by first | exact .inl rfl | exact .inr (.inl rfl) | exact .inr (.inr rfl)) rfl (be_tup (ba_cons (be_var (i := 6) rfl (by first | exact .inl rfl | exact .inr (.inl rfl) | exact .inr (.inr rfl)) rfl) (ba_cons (be_fn f__law_draw (hr.mono (by decide)) tk (ba_cons (be_var (i := 0) rfl (by first | exact .inl rfl | exact .inr (.inl rfl) | exact .inr (.inr rfl)) rfl) (ba_cons (be_op or_add od_add (be_o (be_bf (call_min2 rfl) cd_min (by rfl) B.min (by decide +kernel) (bo_cons (be_o (be_bf call_len cd_len (by rfl) B.len (by decide +kernel) (bo_cons (be_o (be_var (i := 6) rfl (by first | exact .inl rfl | exact .inr (.inl rfl) | exact .inr (.inr rfl)) rfl)) bo_nil))) (bo_cons (be_o be_int) bo_nil)))) (be_o be_int)) ba_nil))) ba_nil))) rfl rfl rfl (L2.pe_bm PySem.F.plainAttrs_list PySem.F.slot_list_append PySem.F.type_list_append mt_append (pv 3) (ba_cons (be_tup (ba_cons (be_var (i := 6) rfl (by first | exact .inl rfl | exact .inr (.inl rfl) | exact .inr (.inr rfl)) rfl) (ba_cons (be_fn f__law_draw (hr.mono (by decide)) tk (ba_cons (be_var (i := 0) rfl (by first | exact .inl rfl | exact .inr (.inl rfl) | exact .inr (.inr rfl)) rfl) (ba_cons (be_op or_add od_add (be_o (be_bf (call_min2 rfl) cd_min (by rfl) B.min (by decide +kernel) (bo_cons (be_o (be_bf call_len cd_len (by rfl) B.len (by decide +kernel) (bo_cons (be_o (be_var (i := 6) rfl (by first | exact .inl rfl | exact .inr (.inl rfl) | exact .inr (.inr rfl)) rfl)) bo_nil))) (bo_cons (be_o be_int) bo_nil)))) (be_o be_int)) ba_nil))) ba_nil))) ba_nil))))
    ss_nil)
    (ss_one (s_if (PW.pt (bw_and (bt_cmp or_gt od_gt (be_o (be_var (i := 2) rfl (by first | exact .inl rfl | exact .inr (.inl rfl) | exact .inr (.inr rfl)) rfl)) (be_o be_int) (nomark _)) (bw_and1 (bt_cmp or_gt od_gt (be_o (be_bf call_len cd_len (by rfl) B.len (by decide +kernel) (bo_cons (be_o (be_var (i := 6) rfl (by first | exact .inl rfl | exact .inr (.inl rfl) | exact .inr (.inr rfl)) rfl)) bo_nil))) (be_o be_int) (nomark _)))))
    (ss_pre (O2 := []) (ss_one (s_setO (i := 3) scLRooms.nd rfl (by first | exact .inl rfl | exact .inr rfl) rfl (bf_cat (be_o (be_var (i := 3) rfl (by first | exact .inl rfl | exact .inr (.inl rfl) | exact .inr (.inr rfl)) rfl)) (be_o (be_f (bf_fn f__law_rooms (hr.mono (by decide)) tk (ba_cons (be_var (i := 0) rfl (by first | exact .inl rfl | exact .inr (.inl rfl) | exact .inr (.inr rfl)) rfl) (ba_cons (be_var (i := 6) rfl (by first | exact .inl rfl | exact .inr (.inl rfl) | exact .inr (.inr rfl)) rfl) (ba_cons (be_op op_sub od_sub (be_o (be_var (i := 2) rfl (by first | exact .inl rfl | exact .inr (.inl rfl) | exact .inr (.inr rfl)) rfl)) (be_o be_int)) ba_nil))))))))) rfl)
    ss_nil)))))))
    (ss_one (s_retO (i := 3) rfl (by first | exact .inl rfl | exact .inr (.inl rfl) | exact .inr (.inr rfl)) rfl)))))
theorem okr_LRooms4 {F_LRooms : DF} (F : FnS K "_law_rooms" "_law_rooms" sLRooms f fd) (B : Bl mg) (f__law_draw : Fn P w (T1 K) mg base 1 "_law_draw" ["_law_state_here", "_law_many"] 0 F_Draw) (f__law_mixed : Fn P w (T1 K) mg base 2 "_law_mixed" ["_law_state_here", "_law_items"] 1 F_Mixed) (f__law_rooms : Fn P w (T1 K) mg base 3 "_law_rooms" ["_law_state_here", "_law_things", "_law_deep"] 1 F_LRooms) : FnOk P w K mg base (L2.CX P w) 4 f fd ["_law_state_here", "_law_things", "_law_deep"] (spOf (T1 K) 1 3 (fnD 1 nLRooms.length 3 (r_LRooms F_LRooms))) := by
  refine ok_fn (On := []) F scLRooms fun cdv A outer s H E hr tk => ?_
  exact (ss_cons (s_setO (i := 3) scLRooms.nd rfl (by first | exact .inl rfl | exact .inr rfl) rfl (bf_lst ba_nil))
    (ss_cons (s_set (i := 4) scLRooms.nd rfl (by first | exact .inl rfl | exact .inr rfl) rfl (be_f (bf_fn f__law_mixed (hr.mono (by decide)) tk (ba_cons (be_var (i := 0) rfl (by first | exact .inl rfl | exact .inr (.inl rfl) | exact .inr (.inr rfl)) rfl) (ba_cons (be_var (i := 1) rfl (by first | exact .inl rfl | exact .inr (.inl rfl) | exact .inr (.inr rfl)) rfl) ba_nil)))))
    (ss_cons (s_while (passes_of rfl) (bt_cmp (op_neD hr.units) od_ne (be_o (be_var (i := 4) rfl (by first | exact .inl rfl | exact .inr (.inl rfl) | exact .inr (.inr rfl)) rfl)) (be_o (be_f (bf_lst ba_nil))) (nomark _))
    (ss_cons (s_set (i := 5) scLRooms.nd rfl (by first | exact .inl rfl | exact .inr rfl) rfl (be_op or_add od_add (be_o be_int) (be_o (be_fn f__law_draw (hr.mono (by decide)) tk (ba_cons (be_var (i := 0) rfl (by first | exact .inl rfl | exact .inr (.inl rfl) | exact .inr (.inr rfl)) rfl) (ba_cons (be_bf call_len cd_len (by rfl) B.len (by decide +kernel) (bo_cons (be_o (be_var (i := 4) rfl (by first | exact .inl rfl | exact .inr (.inl rfl) | exact .inr (.inr rfl)) rfl)) bo_nil)) ba_nil))))))
    (ss_cons (s_set (i := 6) scLRooms.nd rfl (by first | exact .inl rfl | exact .inr rfl) rfl (be_slice (be_o (be_var (i := 4) rfl (by first | exact .inl rfl | exact .inr (.inl rfl) | exact .inr (.inr rfl)) rfl)) bp_none (bp_some (be_var (i := 5) rfl (by first | exact .inl rfl | exact .inr (.inl rfl) | exact .inr (.inr rfl)) rfl))))
    (ss_cons (s_set (i := 4) scLRooms.nd rfl (by first | exact .inl rfl | exact .inr rfl) rfl (be_slice (be_o (be_var (i := 4) rfl (by first | exact .inl rfl | exact .inr (.inl rfl) | exact .inr (.inr rfl)) rfl)) (bp_some (be_var (i := 5) rfl (by first | exact .inl rfl | exact .inr (.inl rfl) | exact .inr (.inr rfl)) rfl)) bp_none))
    (ss_cons (s_if (bt_cmp or_gt od_gt (be_o (be_fn f__law_draw (hr.mono (by decide)) tk (ba_cons (be_var (i := 0) rfl (by first | exact .inl rfl | exact .inr (.inl rfl) | exact .inr (.inr rfl)) rfl) (ba_cons be_int ba_nil)))) (be_o be_int) (nomark _))
    (ss_one (s_app (i := 3) rfl (by first | exact .inl rfl | exact .inr (.inl rfl) | exact .inr (.inr rfl)) rfl (be_tup (ba_cons (be_var (i := 6) rfl (by first | exact .inl rfl | exact .inr (.inl rfl) | exact .inr (.inr rfl)) rfl) (ba_cons (be_fn f__law_draw (hr.mono (by decide)) tk (ba_cons (be_var (i := 0) rfl (by first | exact .inl rfl | exact .inr (.inl rfl) | exact .inr (.inr rfl)) rfl) (ba_cons (be_op or_add od_add (be_o (be_bf (call_min2 rfl) cd_min (by rfl) B.min (by decide +kernel) (bo_cons (be_o (be_bf call_len cd_len (by rfl) B.len (by decide +kernel) (bo_cons (be_o (be_var (i := 6) rfl (by first | exact .inl rfl | exact .inr (.inl rfl) | exact .inr (.inr rfl)) rfl)) bo_nil))) (bo_cons (be_o be_int) bo_nil)))) (be_o be_int)) ba_nil))) ba_nil))) rfl rfl rfl (L2.pe_bm PySem.F.plainAttrs_list PySem.F.slot_list_append PySem.F.type_list_append mt_append (pv 3) (ba_cons (be_tup (ba_cons (be_var (i := 6) rfl (by first | exact .inl rfl | exact .inr (.inl rfl) | exact .inr (.inr rfl)) rfl) (ba_cons (be_fn f__law_draw (hr.mono (by decide)) tk (ba_cons (be_var (i := 0) rfl (by first | exact .inl rfl | exact .inr (.inl rfl) | exact .inr (.inr rfl)) rfl) (ba_cons (be_op or_add od_add (be_o (be_bf (call_min2 rfl) cd_min (by rfl) B.min (by decide +kernel) (bo_cons (be_o (be_bf call_len cd_len (by rfl) B.len (by decide +kernel) (bo_cons (be_o (be_var (i := 6) rfl (by first | exact .inl rfl | exact .inr (.inl rfl) | exact .inr (.inr rfl)) rfl)) bo_nil))) (bo_cons (be_o be_int) bo_nil)))) (be_o be_int)) ba_nil))) ba_nil))) ba_nil))))
    ss_nil)
    (ss_one (s_if (PW.pt (bw_and (bt_cmp or_gt od_gt (be_o (be_var (i := 2) rfl (by first | exact .inl rfl | exact .inr (.inl rfl) | exact .inr (.inr rfl)) rfl)) (be_o be_int) (nomark _)) (bw_and1 (bt_cmp or_gt od_gt (be_o (be_bf call_len cd_len (by rfl) B.len (by decide +kernel) (bo_cons (be_o (be_var (i := 6) rfl (by first | exact .inl rfl | exact .inr (.inl rfl) | exact .inr (.inr rfl)) rfl)) bo_nil))) (be_o be_int) (nomark _)))))
    (ss_pre (O2 := []) (ss_one (s_setO (i := 3) scLRooms.nd rfl (by first | exact .inl rfl | exact .inr rfl) rfl (bf_cat (be_o (be_var (i := 3) rfl (by first | exact .inl rfl | exact .inr (.inl rfl) | exact .inr (.inr rfl)) rfl)) (be_o (be_f (bf_fn f__law_rooms (hr.mono (by decide)) tk (ba_cons (be_var (i := 0) rfl (by first | exact .inl rfl | exact .inr (.inl rfl) | exact .inr (.inr rfl)) rfl) (ba_cons (be_var (i := 6) rfl (by first | exact .inl rfl | exact .inr (.inl rfl) | exact .inr (.inr rfl)) rfl) (ba_cons (be_op op_sub od_sub (be_o (be_var (i := 2) rfl (by first | exact .inl rfl | exact .inr (.inl rfl) | exact .inr (.inr rfl)) rfl)) (be_o be_int)) ba_nil))))))))) rfl)
    ss_nil)))))))
    (ss_one (s_retO (i := 3) rfl (by first | exact .inl rfl | exact .inr (.inl rfl) | exact .inr (.inr rfl)) rfl)))))
theorem okr_LRooms5 {F_LRooms : DF} (F : FnS K "_law_rooms" "_law_rooms" sLRooms f fd) (B : Bl mg) (f__law_draw : Fn P w (T1 K) mg base 1 "_law_draw" ["_law_state_here", "_law_many"] 0 F_Draw) (f__law_mixed : Fn P w (T1 K) mg base 2 "_law_mixed" ["_law_state_here", "_law_items"] 1 F_Mixed) (f__law_rooms : Fn P w (T1 K) mg base 4 "_law_rooms" ["_law_state_here", "_law_things", "_law_deep"] 1 F_LRooms) : FnOk P w K mg base (L2.CX P w) 5 f fd ["_law_state_here", "_law_things", "_law_deep"] (spOf (T1 K) 1 3 (fnD 1 nLRooms.length 3 (r_LRooms F_LRooms))) := by
  refine ok_fn (On := []) F scLRooms fun cdv A outer s H E hr tk => ?_
  exact (ss_cons (s_setO (i := 3) scLRooms.nd rfl (by first | exact .inl rfl | exact .inr rfl) rfl (bf_lst ba_nil))
    (ss_cons (s_set (i := 4) scLRooms.nd rfl (by first | exact .inl rfl | exact .inr rfl) rfl (be_f (bf_fn f__law_mixed (hr.mono (by decide)) tk (ba_cons (be_var (i := 0) rfl (by first | exact .inl rfl | exact .inr (.inl rfl) | exact .inr (.inr rfl)) rfl) (ba_cons (be_var (i := 1) rfl (by first | exact .inl rfl | exact .inr (.inl rfl) | exact .inr (.inr rfl)) rfl) ba_nil)))))
    (ss_cons (s_while (passes_of rfl) (bt_cmp (op_neD hr.units) od_ne (be_o (be_var (i := 4) rfl (by first | exact .inl rfl | exact .inr (.inl rfl) | exact .inr (.inr rfl)) rfl)) (be_o (be_f (bf_lst ba_nil))) (nomark _))
    (ss_cons (s_set (i := 5) scLRooms.nd rfl (by first | exact .inl rfl | exact .inr rfl) rfl (be_op or_add od_add (be_o be_int) (be_o (be_fn f__law_draw (hr.mono (by decide)) tk (ba_cons (be_var (i := 0) rfl (by first | exact .inl rfl | exact .inr (.inl rfl) | exact .inr (.inr rfl)) rfl) (ba_cons (be_bf call_len cd_len (by rfl) B.len (by decide +kernel) (bo_cons (be_o (be_var (i := 4) rfl (by first | exact .inl rfl | exact .inr (.inl rfl) | exact .inr (.inr rfl)) rfl)) bo_nil)) ba_nil))))))
    (ss_cons (s_set (i := 6) scLRooms.nd rfl (by first | exact .inl rfl | exact .inr rfl) rfl (be_slice (be_o (be_var (i := 4) rfl (by first | exact .inl rfl | exact .inr (.inl rfl) | exact .inr (.inr rfl)) rfl)) bp_none (bp_some (be_var (i := 5) rfl (by first | exact .inl rfl | exact .inr (.inl rfl) | exact .inr (.inr rfl)) rfl))))
    (ss_cons (s_set (i := 4) scLRooms.nd rfl (by first | exact .inl rfl | exact .inr rfl) rfl (be_slice (be_o (be_var (i := 4) rfl (by first | exact .inl rfl | exact .inr (.inl rfl) | exact .inr (.inr rfl)) rfl)) (bp_some (be_var (i := 5) rfl (by first | exact .inl rfl | exact .inr (.inl rfl) | exact .inr (.inr rfl)) rfl)) bp_none))
    (ss_cons (s_if (bt_cmp or_gt od_gt (be_o (be_fn f__law_draw (hr.mono (by decide)) tk (ba_cons (be_var (i := 0) rfl (by first | exact .inl rfl | exact .inr (.inl rfl) | exact .inr (.inr rfl)) rfl) (ba_cons be_int ba_nil)))) (be_o be_int) (nomark _))
    (ss_one (s_app (i := 3) rfl (by first | exact .inl rfl | exact .inr (.inl rfl) | exact .inr (.inr rfl)) rfl (be_tup (ba_cons (be_var (i := 6) rfl (by first | exact .inl rfl | exact .inr (.inl rfl) | exact .inr (.inr rfl)) rfl) (ba_cons (be_fn f__law_draw (hr.mono (by decide)) tk (ba_cons (be_var (i := 0) rfl (by first | exact .inl rfl | exact .inr (.inl rfl) | exact .inr (.inr rfl)) rfl) (ba_cons (be_op or_add od_add (be_o (be_bf (call_min2 rfl) cd_min (by rfl) B.min (by decide +kernel) (bo_cons (be_o (be_bf call_len cd_len (by rfl) B.len (by decide +kernel) (bo_cons (be_o (be_var (i := 6) rfl (by first | exact .inl rfl | exact .inr (.inl rfl) | exact .inr (.inr rfl)) rfl)) bo_nil))) (bo_cons (be_o be_int) bo_nil)))) (be_o be_int)) ba_nil))) ba_nil))) rfl rfl rfl (L2.pe_bm PySem.F.plainAttrs_list PySem.F.slot_list_append PySem.F.type_list_append mt_append (pv 3) (ba_cons (be_tup (ba_cons (be_var (i := 6) rfl (by first | exact .inl rfl | exact .inr (.inl rfl) | exact .inr (.inr rfl)) rfl) (ba_cons (be_fn f__law_draw (hr.mono (by decide)) tk (ba_cons (be_var (i := 0) rfl (by first | exact .inl rfl | exact .inr (.inl rfl) | exact .inr (.inr rfl)) rfl) (ba_cons (be_op or_add od_add (be_o (be_bf (call_min2 rfl) cd_min (by rfl) B.min (by decide +kernel) (bo_cons (be_o (be_bf call_len cd_len (by rfl) B.len (by decide +kernel) (bo_cons (be_o (be_var (i := 6) rfl (by first | exact .inl rfl | exact .inr (.inl rfl) | exact .inr (.inr rfl)) rfl)) bo_nil))) (bo_cons (be_o be_int) bo_nil)))) (be_o be_int)) ba_nil))) ba_nil))) ba_nil))))
    ss_nil)
    (ss_one (s_if (PW.pt (bw_and (bt_cmp or_gt od_gt (be_o (be_var (i := 2) rfl (by first | exact .inl rfl | exact .inr (.inl rfl) | exact .inr (.inr rfl)) rfl)) (be_o be_int) (nomark _)) (bw_and1 (bt_cmp or_gt od_gt (be_o (be_bf call_len cd_len (by rfl) B.len (by decide +kernel) (bo_cons (be_o (be_var (i := 6) rfl (by first | exact .inl rfl | exact .inr (.inl rfl) | exact .inr (.inr rfl)) rfl)) bo_nil))) (be_o be_int) (nomark _)))))
    (ss_pre (O2 := []) (ss_one (s_setO (i := 3) scLRooms.nd rfl (by first | exact .inl rfl | exact .inr rfl) rfl (bf_cat (be_o (be_var (i := 3) rfl (by first | exact .inl rfl | exact .inr (.inl rfl) | exact .inr (.inr rfl)) rfl)) (be_o (be_f (bf_fn f__law_rooms (hr.mono (by decide)) tk (ba_cons (be_var (i := 0) rfl (by first | exact .inl rfl | exact .inr (.inl rfl) | exact .inr (.inr rfl)) rfl) (ba_cons (be_var (i := 6) rfl (by first | exact .inl rfl | exact .inr (.inl rfl) | exact .inr (.inr rfl)) rfl) (ba_cons (be_op op_sub od_sub (be_o (be_var (i := 2) rfl (by first | exact .inl rfl | exact .inr (.inl rfl) | exact .inr (.inr rfl)) rfl)) (be_o be_int)) ba_nil))))))))) rfl)
    ss_nil)))))))
    (ss_one (s_retO (i := 3) rfl (by first | exact .inl rfl | exact .inr (.inl rfl) | exact .inr (.inr rfl)) rfl)))))
end
end L48
namespace L48
open PySem PySem.Spec PyProof.Rows L2 Evl Bf Dz
section
variable {P : Program} {w : World} {K : PySem.W.Frag} {mg : Str → Option Value} {base : Heap} {f : Addr} {fd : FuncData} {T : Th K}
theorem via0 {p C : Prop} (h1 : C → p) (h2 : C) : p := h1 h2
/-! ### the well -/
def spState0 (K : PySem.W.Frag) : Sp := fun vs H Q _ => ∃ (p : Addr) (ns : List Int), vs = [.ref p] ∧ SqL K H p (ns.map V.int) ∧ ∀ a s, H s = none → (upd H s (.lst (ns.map V.int))) a = none → Q (.ref a) (upd (upd H s (.lst (ns.map V.int))) a (.lst (wst s 0 0 0 0 0)))
theorem ok_state0 (F : FnS K "_law_state" "_law_state" sState f fd) (B : Bl mg) : FnOk P w K mg base CX0 1 f fd ["_law_script"] (spState0 K) := by
  refine okD F scState (fun vs H Q E h => ?_) (fun cdv A outer s H vs Q E hr h => ?_)
  · obtain ⟨p, ns, rfl, _⟩ := h
    rfl
  · obtain ⟨p, ns, rfl, hp, q⟩ := h
    refine ⟨_, (pss_one (ps_ret (pe_lst (pa_cons (pe_callTy call_list_of (by rfl) B.list (by decide +kernel) (pa_cons (pv 0) pa_nil)) (pa_cons pe_int (pa_cons pe_int (pa_cons pe_int (pa_cons pe_int (pa_cons pe_int pa_nil))))))))), ?_⟩
    exact ⟨_, rfl, p, _, rfl, .inl hp, fun s hs => ⟨by show 6 ≤ sizeLine; decide, fun a ha => q a s hs ha⟩⟩
def spDraw0 : Sp := fun vs H Q _ => ∃ (a s : Addr) (ns : List Int) (n i j k l m : Int), vs = [.ref a, .int m] ∧ H a = some (.lst (wst s n i j k l)) ∧ 0 ≤ n ∧ H s = some (.lst (ns.map V.int)) ∧ 0 < m ∧ m < 1073741824 ∧
  ∀ d n' i' j' k' l' : Int, 0 ≤ d → d < m → 0 ≤ n' → Q (.int d) (upd H a (.lst (wst s n' i' j' k' l')))
theorem ok_draw0 (F : FnS K "_law_draw" "_law_draw" sDraw f fd) (B : Bl mg) : FnOk P w K mg base CX0 1 f fd ["_law_state_here", "_law_many"] spDraw0 := by
  refine okD F scDraw (fun vs H Q E h => ?_) (fun cdv A outer s H vs Q E hr h => ?_)
  · obtain ⟨a, s, ns, n, i, j, k, l, m, rfl, _⟩ := h
    rfl
  · obtain ⟨a, s, ns, n, i, j, k, l, m, rfl, ha, n0, hs, m0, m1, q⟩ := h
    refine ⟨_, (pss_cons (ps_if (PW.pt (pw_and (pt_cmpR op_gt (pe_ix ix_list (pv 0) pe_int (fun _ _ => rfl)) pe_int (nomark _)) (pw_and1 (pt_cmpR op_lt (pe_ix ix_list (pv 0) pe_int (fun _ _ => rfl)) pe_int (nomark _)))))
      (pss_cons (ps_set (i := 2) scDraw.nd rfl (.inl rfl) (pe_op op_modN (pe_callTy call_int1 (by rfl) B.int (by decide +kernel) (pa_cons (pe_ix ix_list (pv 0) pe_int (fun _ _ => rfl)) pa_nil)) (pv 1)))
      (pss_cons (ps_asg (pe_op op_fdivN (pe_ix ix_list (pv 0) pe_int (fun _ _ => rfl)) (pv 1)) (pg_sub (pv 0) pe_int set_list))
      (pss_cons (ps_asg (pe_op op_add (pe_ix ix_list (pv 0) pe_int (fun _ _ => rfl)) pe_int) (pg_sub (pv 0) pe_int set_list))
      (pss_one (ps_ret (pv 2))))))
      pss_nil)
      (pss_cons (ps_asg (pe_op op_add (pe_ix ix_list (pv 0) pe_int (fun _ _ => rfl)) pe_int) (pg_sub (pv 0) pe_int set_list))
      (pss_cons (ps_if (pt_cmpR op_lt (pe_ix ix_list (pv 0) pe_int (fun _ _ => rfl)) (pe_callB call_len_seq (by rfl) B.len (by decide +kernel) (pa_cons (pe_ix ix_list (pv 0) pe_int (fun _ _ => rfl)) pa_nil)) (nomark _))
      (pss_cons (ps_set (i := 3) scDraw.nd rfl (.inl rfl) (pe_ix ix_list (pe_ix ix_list (pv 0) pe_int (fun _ _ => rfl)) (pe_ix ix_list (pv 0) pe_int (fun _ _ => rfl)) (fun _ _ => rfl)))
      (pss_cons (ps_asg (pe_op op_add (pe_ix ix_list (pv 0) pe_int (fun _ _ => rfl)) pe_int) (pg_sub (pv 0) pe_int set_list))
      (pss_cons (ps_asg (pe_op op_modN (pe_op op_add (pe_op op_mul (pe_ix ix_list (pv 0) pe_int (fun _ _ => rfl)) pe_int) (pe_callTy call_int1 (by rfl) B.int (by decide +kernel) (pa_cons (pv 3) pa_nil))) (pe_op op_pow pe_int pe_int)) (pg_sub (pv 0) pe_int set_list))
      (pss_one (ps_if (pt_cmpR op_ge (pv 3) (pe_op op_pow pe_int pe_int) (nomark _))
      (pss_cons (ps_asg (pe_op op_fdivN (pv 3) (pv 1)) (pg_sub (pv 0) pe_int set_list))
      (pss_cons (ps_asg pe_int (pg_sub (pv 0) pe_int set_list))
      (pss_one (ps_ret (pe_op op_modN (pe_callTy call_int1 (by rfl) B.int (by decide +kernel) (pa_cons (pv 3) pa_nil)) (pv 1))))))
      pss_nil)))))
      pss_nil)
      (pss_cons (ps_set (i := 4) scDraw.nd rfl (.inl rfl) (pe_op op_modN (pe_op op_mul (pe_op op_add (pe_op op_add (pe_op op_mul (pe_callTy call_int1 (by rfl) B.int (by decide +kernel) (pa_cons (pe_ix ix_list (pv 0) pe_int (fun _ _ => rfl)) pa_nil)) pe_int) (pe_op op_mul pe_int (pe_ix ix_list (pv 0) pe_int (fun _ _ => rfl)))) pe_int) pe_int) pe_int))
      (pss_cons (ps_set (i := 4) scDraw.nd rfl (.inl rfl) (pe_op op_modN (pe_op op_mul (pv 4) (pe_op op_add (pe_op op_fdivN (pv 4) pe_int) pe_int)) pe_int))
      (pss_cons (ps_set (i := 4) scDraw.nd rfl (.inl rfl) (pe_op op_modN (pe_op op_mul (pv 4) (pe_op op_add (pe_op op_fdivN (pv 4) pe_int) pe_int)) pe_int))
      (pss_one (ps_ret (pe_op op_modN (pe_callTy call_int1 (by rfl) B.int (by decide +kernel) (pa_cons (pv 4) pa_nil)) (pv 1)))))))))), ?_⟩
    have L0 : SqL K H a (wst s n i j k l) := sq_of ha
    have sa : s ≠ a := fun z => by rw [z, ha] at hs; have := Option.some.inj hs; injection this with h1; cases ns <;> cases h1
    apply via0
    · intro key
      refine ⟨_, rfl, a, _, 2, _, rfl, rfl, L0, rfl, _, _, rfl, rfl, _, rfl, iteB (fun c1 => ?_) (fun c1 => ?_)⟩
      · refine ⟨_, rfl, a, _, 3, _, rfl, rfl, L0, rfl, _, _, rfl, rfl, _, rfl, iteB (fun c2 => ?_) (fun c2 => key)⟩
        refine ⟨_, rfl, a, _, 2, _, rfl, rfl, L0, rfl, .inl ⟨_, rfl, _, rfl, _, _, rfl, rfl, (by omega : m ≠ 0), ?_⟩⟩
        refine ⟨_, rfl, a, _, 2, _, rfl, rfl, L0, rfl, _, rfl, _, _, rfl, rfl, ⟨by omega, by omega⟩, _, rfl, a, _, 2, 2, rfl, rfl, ha, rfl, ?_⟩
        have L1 : SqL K (upd H a (.lst (wst s n (i.fdiv m) j k l))) a (wst s n (i.fdiv m) j k l) := sq_of upd_same
        refine ⟨_, rfl, a, _, 3, _, rfl, rfl, L1, rfl, _, _, rfl, rfl, _, rfl, a, _, 3, 3, rfl, rfl, upd_same, rfl, _, rfl, ?_⟩
        have := q _ _ (i.fdiv m) (j + 1) k l (Int.fmod_nonneg_of_pos i m0) (Int.fmod_lt_of_pos i m0) n0
        rw [← upd_upd (o := .lst (wst s n (i.fdiv m) j k l))] at this
        exact this
      · exact key
    · refine ⟨_, rfl, a, _, 4, _, rfl, rfl, L0, rfl, _, _, rfl, rfl, _, rfl, a, _, 4, 4, rfl, rfl, ha, rfl, ?_⟩
      have h1 : (upd H a (.lst (wst s n i j (k + 1) l))) a = some (.lst (wst s n i j (k + 1) l)) := upd_same
      have s1 : (upd H a (.lst (wst s n i j (k + 1) l))) s = some (.lst (ns.map V.int)) := by rw [upd_ne sa]; exact hs
      have q1 : ∀ d n' i' j' k' l' : Int, 0 ≤ d → d < m → 0 ≤ n' → Q (.int d) (upd (upd H a (.lst (wst s n i j (k + 1) l))) a (.lst (wst s n' i' j' k' l'))) := fun d n' i' j' k' l' a1 a2 a3 => by
        rw [upd_upd]
        exact q d n' i' j' k' l' a1 a2 a3
      have L1 : SqL K (upd H a (.lst (wst s n i j (k + 1) l))) a (wst s n i j (k + 1) l) := sq_of upd_same
      have b1 : ∀ x : Int, 0 ≤ x.fmod 2147483647 ∧ x.fmod 2147483647 < 2147483647 := fun x => ⟨Int.fmod_nonneg_of_pos _ (by decide), Int.fmod_lt_of_pos _ (by decide)⟩
      refine ⟨_, rfl, a, _, 1, _, rfl, rfl, L1, rfl, _, rfl, a, _, 0, _, rfl, rfl, L1, rfl, s, _, rfl, .inl (sq_of s1), _, _, rfl, rfl, _, rfl, iteB (fun c3 => ?_) (fun c3 => ?_)⟩
      · obtain ⟨x, rfl⟩ := Int.eq_ofNat_of_zero_le n0
        have hx : x < ns.length := by
          have := of_decide_eq_true c3
          rw [List.length_map] at this
          omega
        have gx : (ns.map V.int)[x]? = some (.int ns[x]) := by rw [List.getElem?_map, List.getElem?_eq_getElem hx]; rfl
        refine ⟨_, rfl, a, _, 0, _, rfl, rfl, L1, rfl, _, rfl, a, _, 1, _, rfl, rfl, L1, rfl, s, _, _, _, rfl, rfl, sq_of s1, atI_nat gx, ?_⟩
        generalize ns[x] = cell
        refine ⟨_, rfl, a, _, 1, _, rfl, rfl, L1, rfl, _, _, rfl, rfl, _, rfl, a, _, 1, 1, rfl, rfl, upd_same, rfl, ?_⟩
        rw [upd_upd]
        have L2 : SqL K (upd H a (.lst (wst s ((x : Int) + 1) i j (k + 1) l))) a (wst s ((x : Int) + 1) i j (k + 1) l) := sq_of upd_same
        refine ⟨_, rfl, a, _, 5, _, rfl, rfl, L2, rfl, _, _, rfl, rfl, .inr (by decide), _, rfl, .inl ⟨_, rfl, _, _, rfl, rfl, 10, 18, rfl, rfl, ⟨by decide, by decide, by decide⟩, _, _, rfl, rfl, (by decide : (10 : Int) ^ (18 : Int).toNat ≠ 0), ?_⟩⟩
        refine ⟨_, rfl, a, _, 5, 5, rfl, rfl, upd_same, rfl, ?_⟩
        rw [upd_upd]
        have L3 : SqL K (upd H a (.lst (wst s ((x : Int) + 1) i j (k + 1) ((l * 31 + cell).fmod ((10 : Int) ^ (18 : Int).toNat))))) a (wst s ((x : Int) + 1) i j (k + 1) ((l * 31 + cell).fmod ((10 : Int) ^ (18 : Int).toNat))) := sq_of upd_same
        refine ⟨_, rfl, 10, 18, rfl, rfl, ⟨by decide, by decide, by decide⟩, _, _, rfl, rfl, _, rfl, iteB (fun c4 => ?_) (fun c4 => ?_)⟩
        · refine ⟨_, rfl, _, rfl, _, _, rfl, rfl, ⟨by omega, by omega⟩, _, rfl, a, _, 2, 2, rfl, rfl, upd_same, rfl, ?_⟩
          rw [upd_upd]
          refine ⟨_, rfl, a, _, 3, 3, rfl, rfl, upd_same, rfl, ?_⟩
          rw [upd_upd]
          exact ⟨_, rfl, .inl ⟨_, rfl, _, rfl, _, _, rfl, rfl, (by omega : m ≠ 0), q _ _ _ _ _ _ (Int.fmod_nonneg_of_pos _ m0) (Int.fmod_lt_of_pos _ m0) (by omega)⟩⟩
        · refine ⟨_, rfl, a, _, 5, _, rfl, rfl, L3, rfl, .inl ⟨_, rfl, _, _, rfl, rfl, .inr (by decide), _, rfl, a, _, 4, _, rfl, rfl, L3, rfl, _, _, rfl, rfl, .inl (by decide), _, _, rfl, rfl, _, _, rfl, rfl, _, _, rfl, rfl, .inr (by decide), _, _, rfl, rfl, (by decide : (2147483647 : Int) ≠ 0), ?_⟩⟩
          refine ⟨_, rfl, _, rfl, _, _, rfl, rfl, ⟨by decide, by decide⟩, _, _, rfl, rfl, _, _, rfl, rfl, .inl ?_, _, _, rfl, rfl, (by decide : (2147483647 : Int) ≠ 0), ?_⟩
          · have := b1 ((((l * 31 + cell).fmod ((10 : Int) ^ (18 : Int).toNat)) * 1000003 + 7919 * (k + 1) + 1) * 48271)
            constructor <;> omega
          refine ⟨_, rfl, _, rfl, _, _, rfl, rfl, ⟨by decide, by decide⟩, _, _, rfl, rfl, _, _, rfl, rfl, .inl ?_, _, _, rfl, rfl, (by decide : (2147483399 : Int) ≠ 0), ?_⟩
          · have := b1 (((((l * 31 + cell).fmod ((10 : Int) ^ (18 : Int).toNat)) * 1000003 + 7919 * (k + 1) + 1) * 48271).fmod 2147483647 * ((((((l * 31 + cell).fmod ((10 : Int) ^ (18 : Int).toNat)) * 1000003 + 7919 * (k + 1) + 1) * 48271).fmod 2147483647).fdiv 1009 + 69621))
            constructor <;> omega
          exact ⟨_, rfl, .inl ⟨_, rfl, _, rfl, _, _, rfl, rfl, (by omega : m ≠ 0), q _ _ _ _ _ _ (Int.fmod_nonneg_of_pos _ m0) (Int.fmod_lt_of_pos _ m0) (by omega)⟩⟩
      · refine ⟨_, rfl, a, _, 5, _, rfl, rfl, L1, rfl, .inl ⟨_, rfl, _, _, rfl, rfl, .inr (by decide), _, rfl, a, _, 4, _, rfl, rfl, L1, rfl, _, _, rfl, rfl, .inl (by decide), _, _, rfl, rfl, _, _, rfl, rfl, _, _, rfl, rfl, .inr (by decide), _, _, rfl, rfl, (by decide : (2147483647 : Int) ≠ 0), ?_⟩⟩
        refine ⟨_, rfl, _, rfl, _, _, rfl, rfl, ⟨by decide, by decide⟩, _, _, rfl, rfl, _, _, rfl, rfl, .inl ?_, _, _, rfl, rfl, (by decide : (2147483647 : Int) ≠ 0), ?_⟩
        · have := b1 ((l * 1000003 + 7919 * (k + 1) + 1) * 48271)
          constructor <;> omega
        refine ⟨_, rfl, _, rfl, _, _, rfl, rfl, ⟨by decide, by decide⟩, _, _, rfl, rfl, _, _, rfl, rfl, .inl ?_, _, _, rfl, rfl, (by decide : (2147483399 : Int) ≠ 0), ?_⟩
        · have := b1 (((l * 1000003 + 7919 * (k + 1) + 1) * 48271).fmod 2147483647 * ((((l * 1000003 + 7919 * (k + 1) + 1) * 48271).fmod 2147483647).fdiv 1009 + 69621))
          constructor <;> omega
        exact ⟨_, rfl, .inl ⟨_, rfl, _, rfl, _, _, rfl, rfl, (by omega : m ≠ 0), q _ _ _ _ _ _ (Int.fmod_nonneg_of_pos _ m0) (Int.fmod_lt_of_pos _ m0) n0⟩⟩
theorem okr_Draw (F : FnS K "_law_draw" "_law_draw" sDraw f fd) (B : Bl mg) : FnOk P w K mg base (L2.CX P w) 1 f fd ["_law_state_here", "_law_many"] (spOf T 0 2 F_Draw) := by
  refine (fn_up (abs_fn (sp := fun vs H Q E => ∃ (a : Addr) (m : Int), vs = [.ref a, .int m] ∧ WellK H (fun _ => False) a 2 ∧ 0 < m ∧ m < 1073741824 ∧ ∀ d : Int, 0 ≤ d → d < m → Q (.int d) H) (fun vs H Q E h => ?_) (fun vs H Q E h => ?_) (ok_draw0 F B))).imp fun vs H Q E h => ?_
  · obtain ⟨a, m, rfl, _⟩ := h
    rfl
  · obtain ⟨a, m, rfl, ⟨s, ns, h1, h2, _⟩, m0, m1, q⟩ := h
    refine ⟨a, Well6 s, h1, fun xs hx => ?_⟩
    obtain ⟨n, i, j, k, l, rfl, n0⟩ := hx
    have sa : s ≠ a := fun z => by
      rw [z, h1] at h2
      have z' : HO.ext _ = HO.lst _ := Option.some.inj h2
      cases z'
    exact ⟨a, s, ns, n, i, j, k, l, m, rfl, upd_same, n0, by rw [upd_ne sa]; exact h2, m0, m1, fun d n' i' j' k' l' d0 d1 n0' => ⟨_, ⟨n', i', j', k', l', rfl, n0'⟩, upd_upd, q d d0 d1⟩⟩
  · obtain ⟨hn, ds, ow, A, Ax, ok, tr, r, ⟨m, rfl, m0, m1, q⟩, k1, _⟩ := h
    cases r with
    | cons r1 r2 => cases r2 with
      | cons r2 r3 =>
        cases r3
        rw [rep_int r2]
        cases r1 with
        | @well a _ hw nw =>
          obtain ⟨s, ns, h1, h2, _⟩ := hw
          refine ⟨a, m, rfl, ⟨s, ns, h1, h2, fun z => z⟩, m0, m1, fun d d0 d1 => ?_⟩
          obtain ⟨d, rfl⟩ := Int.eq_ofNat_of_zero_le d0
          exact k1 _ _ H (q d d1) ok (T.refl H) (.int _)
theorem okr_State (F : FnS K "_law_state" "_law_state" sState f fd) (B : Bl mg) : FnOk P w K mg base (L2.CX P w) 1 f fd ["_law_script"] (spOf T 0 1 F_State) := by
  have F2 := abs_new (fun vs H Q E h => by obtain ⟨p, ns, rfl, _⟩ := h; rfl) (ok_state0 (P := P) (w := w) (base := base) F B)
  refine (fn_up F2).imp fun vs H Q E h => ?_
  obtain ⟨hn, ds, ow, A, Ax, ok, tr, r, ⟨ns, rfl, q⟩, k1, _⟩ := h
  cases r with
  | cons r1 r2 =>
    cases r2
    cases r1 with
    | @scr p _ hp =>
      refine ⟨p, ns, rfl, hp.l, fun a s hs ha => ⟨a, Well6 s, _, _, ⟨0, 0, 0, 0, 0, rfl, Int.le_refl 0⟩, ha, Ex.new hs, rfl, rfl, ?_⟩⟩
      have sa : s ≠ a := fun z => by rw [z, upd_same] at ha; cases ha
      obtain ⟨o1, g1⟩ := T.new (o := .lst (ns.map V.int)) ok hs rfl
      obtain ⟨o2, g2⟩ := T.new (o := absL a (Well6 s)) o1 ha rfl
      refine k1 _ _ _ q o2 (T.trans g1 g2) (.well ⟨s, ns, upd_same, ?_, fun z => tr s z hs⟩ fun z => tr a z (T.back g1 ha))
      rw [upd_ne sa, upd_same]
end
end L48
namespace Dz
open PySem PySem.Spec PyProof.Rows L2 Evl Bf
/-! ### all lots -/
def lotsL (th : List Str) : List (List Str) := th.foldl (fun acc x => acc ++ acc.map (· ++ [x])) [[]]
theorem lots_len : ∀ (th : List Str) (acc : List (List Str)), (th.foldl (fun acc x => acc ++ acc.map (· ++ [x])) acc).length = 2 ^ th.length * acc.length
  | [], acc => by simp
  | x :: th, acc => by
    rw [List.foldl_cons, lots_len th, List.length_append, List.length_map, List.length_cons, Nat.pow_succ, Nat.mul_assoc]
    congr 1
    omega
theorem lots_le (th : List Str) : ∀ (n : Nat) (acc : List (List Str)), (∀ l ∈ acc, l.length ≤ n) → ∀ l ∈ th.foldl (fun acc x => acc ++ acc.map (· ++ [x])) acc, l.length ≤ n + th.length := by
  induction th with
  | nil => intro n acc h l hl; exact h l hl
  | cons x th ih =>
    intro n acc h l hl
    rw [List.foldl_cons] at hl
    have := ih (n + 1) _ (fun l hl => ?_) l hl
    · rw [List.length_cons]; omega
    · rcases List.mem_append.mp hl with hl | hl
      · have := h l hl; omega
      · obtain ⟨m, hm, rfl⟩ := List.mem_map.mp hl
        rw [List.length_append]
        have := h m hm
        simpa using this
def r_Lots : DS :=
  (sSeq (sSet 1 (xLst (aCons (xTup aNil) aNil)))
    (sSeq (sFor (iLst (xVar 0)) (gN 2)
    (sSet 1 (xOp2 dAdd (xVar 1) (xLc (iLst (xVar 1)) [3] (gN 3) tYesD (xOp2 dAdd (xVar 3) (xTup (aCons (xVar 2) aNil)))))))
    (sRet (xVar 1))))
def F_Lots : DF := fun ds A _ => ∃ th : List Str, ds = [lstS th] ∧ th.length ≤ 8 ∧ A (.lst ((lotsL th).map tupS))
theorem n_Lots (ds : List D) (A : D → Prop) (Ax : XQ) (h : F_Lots ds A Ax) : fnD 0 4 1 r_Lots ds A Ax := by
  obtain ⟨th, rfl, hl, q⟩ := h
  simp only [r_Lots, xLc, fnD, iniD, startD, sNil, sSeq, sIf, sRet, sSet, sSetO, sExpr, sApp, sPut, sClr, sExt, sIns, sRaise, sRaise2, sAsg, sFor, sSetM, sAppM, sFld', xPopAt, xPop, xVar, xC, xOp1, xOp2, xNeg, xAnd, xOr, xNot, xIf, xB, xFn, xTup, xLst, xFld, xDGet, xDIn, xSl, xChain, oNone, oSome, aNil, aCons, tB', tAnd', tOr', tNot', tYesD, gN, gT, gsN, gsC, iLst, iTupD, iRg1, iRg2, iEnm, iTxt, List.map_cons, List.map_nil, List.length_cons, List.length_nil, List.replicate, List.replicate_succ, List.replicate_zero, List.cons_append, List.nil_append, List.set_cons_zero, List.set_cons_succ, List.getElem?_cons_zero, List.getElem?_cons_succ, Option.some.injEq, D.int.injEq, D.str.injEq, D.bl.injEq, D.lst.injEq, D.tup.injEq, D.dic.injEq, D.ins.injEq, exists_eq_left, exists_eq_left', exists_eq_right, exists_eq_right', exists_and_left, and_true, true_and, Nat.reduceAdd, Nat.reduceSub, Nat.reduceLT, Nat.reduceEqDiff, Nat.add_one_sub_one, Nat.sub_zero, if_true, if_false, Bool.false_eq_true, reduceIte, wipeR, List.cons.injEq, Nat.zero_add, reduceCtorEq, false_and, exists_false, Bool.false_bne, Bool.true_bne, len_lst, len_tup, len_scr, in_lst, in_tup, dKey_str, dKey_int, and_assoc, eq_int, dSub, dLt, dLe, dGt, dGe, isNonD, dIs, dMin, dMax, xMeth, xMeth0, xEqO, xXf, sTry, catchD, offD, add_int, dList, dTuple, xFlt, xFltC, xFltX, xFltCX, xX, sAppP, sClrP, sFldP, sPutP, pVar, pIx, pFld, id, xDisp, pairsD, xNames, xMethF, xMeth0F, aStar, xTGet, xTIn, sPutT, sRaise0, sTryM, catchM, emEq, tKey_strs, famNs, Option.isSome_some, iSqV]
  refine ⟨(by decide : 0 ≤ 100000), (by decide : 1 ≤ 100000), ?_⟩
  refine for_invT D.str th (fun i ρ => ∃ a, ρ = [some (lstS th), some (.lst ((lotsL (th.take i)).map tupS)), a, none]) ⟨_, rfl⟩ (fun i x ρ N hx p n => ?_) (fun ρ p => ?_)
  · obtain ⟨a, rfl⟩ := p
    have tn : lotsL (th.take (i + 1)) = lotsL (th.take i) ++ (lotsL (th.take i)).map (· ++ [x]) := by unfold lotsL; rw [take_next hx, List.foldl_append]; rfl
    have hn : (lotsL (th.take i)).length ≤ 256 := by
      have := lots_len (th.take i) [[]]
      have h2 : 2 ^ (th.take i).length ≤ 2 ^ 8 := Nat.pow_le_pow_right (by decide) (by rw [List.length_take]; omega)
      unfold lotsL
      rw [this]
      simpa using h2
    have hm : ∀ l ∈ lotsL (th.take i), l.length ≤ 9 := fun l hl' => by
      have := lots_le (th.take i) 0 [[]] (fun l hl => by rw [List.mem_singleton.mp hl]; exact Nat.le_refl _) l hl'
      rw [List.length_take] at this
      omega
    generalize lotsL (th.take i) = found at tn hn hm ⊢
    simp only [xLc, fnD, iniD, startD, sNil, sSeq, sIf, sRet, sSet, sSetO, sExpr, sApp, sPut, sClr, sExt, sIns, sRaise, sRaise2, sAsg, sFor, sSetM, sAppM, sFld', xPopAt, xPop, xVar, xC, xOp1, xOp2, xNeg, xAnd, xOr, xNot, xIf, xB, xFn, xTup, xLst, xFld, xDGet, xDIn, xSl, xChain, oNone, oSome, aNil, aCons, tB', tAnd', tOr', tNot', tYesD, gN, gT, gsN, gsC, iLst, iTupD, iRg1, iRg2, iEnm, iTxt, List.map_cons, List.map_nil, List.length_cons, List.length_nil, List.replicate, List.replicate_succ, List.replicate_zero, List.cons_append, List.nil_append, List.set_cons_zero, List.set_cons_succ, List.getElem?_cons_zero, List.getElem?_cons_succ, Option.some.injEq, D.int.injEq, D.str.injEq, D.bl.injEq, D.lst.injEq, D.tup.injEq, D.dic.injEq, D.ins.injEq, exists_eq_left, exists_eq_left', exists_eq_right, exists_eq_right', exists_and_left, and_true, true_and, Nat.reduceAdd, Nat.reduceSub, Nat.reduceLT, Nat.reduceEqDiff, Nat.add_one_sub_one, Nat.sub_zero, if_true, if_false, Bool.false_eq_true, reduceIte, wipeR, List.cons.injEq, Nat.zero_add, reduceCtorEq, false_and, exists_false, Bool.false_bne, Bool.true_bne, len_lst, len_tup, len_scr, in_lst, in_tup, dKey_str, dKey_int, and_assoc, eq_int, dSub, dLt, dLe, dGt, dGe, isNonD, dIs, dMin, dMax, xMeth, xMeth0, xEqO, xXf, sTry, catchD, offD, add_int, dList, dTuple, xFlt, xFltC, xFltX, xFltCX, xX, sAppP, sClrP, sFldP, sPutP, pVar, pIx, pFld, id, xDisp, pairsD, xNames, xMethF, xMeth0F, aStar, xTGet, xTIn, sPutT, sRaise0, sTryM, catchM, emEq, tKey_strs, famNs, Option.isSome_some, iSqV]
    refine ⟨by rw [List.length_map]; show _ ≤ 100000; omega, ?_⟩
    refine lc_mapT tupS (fun l => tupS (l ++ [x])) found (fun l hl' K kk => ?_) ⟨_, add_lst (by rw [List.length_map, List.length_map]; omega), n _ ⟨some (.str x), ?_⟩⟩
    · simp only [fnD, iniD, startD, sNil, sSeq, sIf, sRet, sSet, sSetO, sExpr, sApp, sPut, sClr, sExt, sIns, sRaise, sRaise2, sAsg, sFor, sSetM, sAppM, sFld', xPopAt, xPop, xVar, xC, xOp1, xOp2, xNeg, xAnd, xOr, xNot, xIf, xB, xFn, xTup, xLst, xFld, xDGet, xDIn, xSl, xChain, oNone, oSome, aNil, aCons, tB', tAnd', tOr', tNot', tYesD, gN, gT, gsN, gsC, iLst, iTupD, iRg1, iRg2, iEnm, iTxt, List.map_cons, List.map_nil, List.length_cons, List.length_nil, List.replicate, List.replicate_succ, List.replicate_zero, List.cons_append, List.nil_append, List.set_cons_zero, List.set_cons_succ, List.getElem?_cons_zero, List.getElem?_cons_succ, Option.some.injEq, D.int.injEq, D.str.injEq, D.bl.injEq, D.lst.injEq, D.tup.injEq, D.dic.injEq, D.ins.injEq, exists_eq_left, exists_eq_left', exists_eq_right, exists_eq_right', exists_and_left, and_true, true_and, Nat.reduceAdd, Nat.reduceSub, Nat.reduceLT, Nat.reduceEqDiff, Nat.add_one_sub_one, Nat.sub_zero, if_true, if_false, Bool.false_eq_true, reduceIte, wipeR, List.cons.injEq, Nat.zero_add, reduceCtorEq, false_and, exists_false, Bool.false_bne, Bool.true_bne, len_lst, len_tup, len_scr, in_lst, in_tup, dKey_str, dKey_int, and_assoc, eq_int, dSub, dLt, dLe, dGt, dGe, isNonD, dIs, dMin, dMax, xMeth, xMeth0, xEqO, xXf, sTry, catchD, offD, add_int, dList, dTuple, xFlt, xFltC, xFltX, xFltCX, xX, sAppP, sClrP, sFldP, sPutP, pVar, pIx, pFld, id, xDisp, pairsD, xNames, xMethF, xMeth0F, aStar, xTGet, xTIn, sPutT, sRaise0, sTryM, catchM, emEq, tKey_strs, famNs, Option.isSome_some, iSqV]
      refine ⟨(by decide : 1 ≤ 100000), _, add_tup (by rw [List.length_map]; have := hm l hl'; show l.length + 1 ≤ 1000; omega), ?_⟩
      rw [show l.map D.str ++ [D.str x] = (l ++ [x]).map D.str by rw [List.map_append]; rfl]
      exact kk
    · rw [tn, List.map_append, List.map_map]
      rfl
  · obtain ⟨a, rfl⟩ := p
    simp only [fnD, iniD, startD, sNil, sSeq, sIf, sRet, sSet, sSetO, sExpr, sApp, sPut, sClr, sExt, sIns, sRaise, sRaise2, sAsg, sFor, sSetM, sAppM, sFld', xPopAt, xPop, xVar, xC, xOp1, xOp2, xNeg, xAnd, xOr, xNot, xIf, xB, xFn, xTup, xLst, xFld, xDGet, xDIn, xSl, xChain, oNone, oSome, aNil, aCons, tB', tAnd', tOr', tNot', tYesD, gN, gT, gsN, gsC, iLst, iTupD, iRg1, iRg2, iEnm, iTxt, List.map_cons, List.map_nil, List.length_cons, List.length_nil, List.replicate, List.replicate_succ, List.replicate_zero, List.cons_append, List.nil_append, List.set_cons_zero, List.set_cons_succ, List.getElem?_cons_zero, List.getElem?_cons_succ, Option.some.injEq, D.int.injEq, D.str.injEq, D.bl.injEq, D.lst.injEq, D.tup.injEq, D.dic.injEq, D.ins.injEq, exists_eq_left, exists_eq_left', exists_eq_right, exists_eq_right', exists_and_left, and_true, true_and, Nat.reduceAdd, Nat.reduceSub, Nat.reduceLT, Nat.reduceEqDiff, Nat.add_one_sub_one, Nat.sub_zero, if_true, if_false, Bool.false_eq_true, reduceIte, wipeR, List.cons.injEq, Nat.zero_add, reduceCtorEq, false_and, exists_false, Bool.false_bne, Bool.true_bne, len_lst, len_tup, len_scr, in_lst, in_tup, dKey_str, dKey_int, and_assoc, eq_int, dSub, dLt, dLe, dGt, dGe, isNonD, dIs, dMin, dMax, xMeth, xMeth0, xEqO, xXf, sTry, catchD, offD, add_int, dList, dTuple, xFlt, xFltC, xFltX, xFltCX, xX, sAppP, sClrP, sFldP, sPutP, pVar, pIx, pFld, id, xDisp, pairsD, xNames, xMethF, xMeth0F, aStar, xTGet, xTIn, sPutT, sRaise0, sTryM, catchM, emEq, tKey_strs, famNs, Option.isSome_some, iSqV]
    rw [List.take_length]
    exact q
def refV (th : List Str) (rs : List (List Str × Int)) (w : Int) (xs : List Str) : D := match fwOf th xs with
  | some i => .tup [.str "lot", .int (i : Nat)]
  | none => if w = 0 then optI (overOf rs (srt xs)) else if (overOf rs (srt xs)).isSome = true then .str "not free" else .lst ((tightL rs (srt xs)).map fun i => .int (i : Nat))
def r_Refused : DS :=
  (sSeq (sTryM ["BadThings", "BadLot", "NotFree", "BadRooms", "CrossedRooms"] emEq
    (sSet 3 (xIf (tB' (xOp2 (dEq false) (xVar 0) (xC (.int 0)))) (xFn F_OvFull (aCons (xVar 1) (aCons (xVar 2) aNil))) (xFn F_Tight (aCons (xVar 1) (aCons (xVar 2) aNil)))))
    [("BadLot", some 4, fun a dd => (sSet 3 (xTup (aCons (xC (.str "lot")) (aCons (xXf a dd "BadLot" "index" (xVar 4)) aNil))))),
     ("NotFree", none, fun _ _ => (sSet 3 (xC (.str "not free"))))])
    (sRet (xVar 3)))
def F_Refused : DF := fun ds A _ => ∃ th rs w xs, ds = [.int w, countsD th rs, lstS xs] ∧ xs.length < 64 ∧ rs.length ≤ 1000 ∧ A (refV th rs w xs)
theorem n_Refused (ds : List D) (A : D → Prop) (Ax : XQ) (h : F_Refused ds A Ax) : fnD 0 5 3 r_Refused ds A Ax := by
  obtain ⟨th, rs, w, xs, rfl, hl, hr, q⟩ := h
  simp only [r_Refused, fnD, iniD, startD, sNil, sSeq, sIf, sRet, sSet, sSetO, sExpr, sApp, sPut, sClr, sExt, sIns, sRaise, sRaise2, sAsg, sFor, sSetM, sAppM, sFld', xPopAt, xPop, xVar, xC, xOp1, xOp2, xNeg, xAnd, xOr, xNot, xIf, xB, xFn, xTup, xLst, xFld, xDGet, xDIn, xSl, xChain, oNone, oSome, aNil, aCons, tB', tAnd', tOr', tNot', tYesD, gN, gT, gsN, gsC, iLst, iTupD, iRg1, iRg2, iEnm, iTxt, List.map_cons, List.map_nil, List.length_cons, List.length_nil, List.replicate, List.replicate_succ, List.replicate_zero, List.cons_append, List.nil_append, List.set_cons_zero, List.set_cons_succ, List.getElem?_cons_zero, List.getElem?_cons_succ, Option.some.injEq, D.int.injEq, D.str.injEq, D.bl.injEq, D.lst.injEq, D.tup.injEq, D.dic.injEq, D.ins.injEq, exists_eq_left, exists_eq_left', exists_eq_right, exists_eq_right', exists_and_left, and_true, true_and, Nat.reduceAdd, Nat.reduceSub, Nat.reduceLT, Nat.reduceEqDiff, Nat.add_one_sub_one, Nat.sub_zero, if_true, if_false, Bool.false_eq_true, reduceIte, wipeR, List.cons.injEq, Nat.zero_add, reduceCtorEq, false_and, exists_false, Bool.false_bne, Bool.true_bne, len_lst, len_tup, len_scr, in_lst, in_tup, dKey_str, dKey_int, and_assoc, eq_int, dSub, dLt, dLe, dGt, dGe, isNonD, dIs, dMin, dMax, xMeth, xMeth0, xEqO, xXf, sTry, catchD, offD, add_int, dList, dTuple, xFlt, xFltC, xFltX, xFltCX, xX, sAppP, sClrP, sFldP, sPutP, pVar, pIx, pFld, id, xDisp, pairsD, xNames, xMethF, xMeth0F, aStar, xTGet, xTIn, sPutT, sRaise0, sTryM, catchM, emEq, tKey_strs, famNs, Option.isSome_some, iSqV]
  unfold refV at q
  by_cases c0 : w = 0
  · rw [if_pos (decide_eq_true c0)]
    refine ⟨th, rs, xs, rfl, hl, ?_⟩
    cases c : fwOf th xs with
    | some i =>
      rw [c] at q
      refine ⟨(by decide : ("BadLot" : Str) ∈ (["BadThings", "BadLot", "NotFree", "BadRooms", "CrossedRooms"] : List Str)), ?_⟩
      rw [if_pos (by exact (by decide : decide (("BadLot" : Str) = "BadLot") = true))]
      exact ⟨(fun z => by cases z), fun a dd => ⟨_, rfl, _, rfl, (by decide : 2 ≤ 100000), q⟩⟩
    | none =>
      rw [c] at q
      simp only [c0, if_true] at q
      exact q
  · rw [if_neg (by rw [decide_eq_false c0]; decide)]
    refine ⟨th, rs, xs, rfl, hl, hr, ?_⟩
    cases c : fwOf th xs with
    | some i =>
      rw [c] at q
      refine ⟨(by decide : ("BadLot" : Str) ∈ (["BadThings", "BadLot", "NotFree", "BadRooms", "CrossedRooms"] : List Str)), ?_⟩
      rw [if_pos (by exact (by decide : decide (("BadLot" : Str) = "BadLot") = true))]
      exact ⟨(fun z => by cases z), fun a dd => ⟨_, rfl, _, rfl, (by decide : 2 ≤ 100000), q⟩⟩
    | none =>
      rw [c] at q
      simp only [c0, if_false] at q
      cases c2 : overOf rs (srt xs) with
      | none => rw [c2] at q; exact q
      | some j =>
        rw [c2] at q
        refine ⟨by decide, ?_⟩
        rw [if_neg (by decide)]
        refine ⟨by decide, ?_⟩
        rw [if_pos (by decide)]
        exact q
def F_LRooms := F_LR 3
def r_Law : DS :=
  (sSeq (sSet 1 (xFn F_State (aCons (xVar 0) aNil)))
    (sSeq (sSet 2 (xFn F_Names (aCons (xVar 1) (aCons (xOp2 dAdd (xC (.int 1)) (xFn F_Draw (aCons (xVar 1) (aCons (xC (.int 6)) aNil)))) aNil))))
    (sSeq (sSetO 3 (xFn F_LRooms (aCons (xVar 1) (aCons (xVar 2) (aCons (xC (.int 2)) aNil)))))
    (sSeq (sIf (tAnd' (tB' (xOp2 (dEq false) (xFn F_Draw (aCons (xVar 1) (aCons (xC (.int 2)) aNil))) (xC (.int 0)))) (tB' (xOp2 (dEq true) (xVar 3) (xLst aNil))))
    (sIns 3 (xC (.int 0)) (xTup (aCons (xOp2 dIx (xOp2 dIx (xVar 3) (xNeg (xC (.int 1)))) (xC (.int 0))) (aCons (xFn F_Draw (aCons (xVar 1) (aCons (xC (.int 3)) aNil))) aNil))))
    sNil)
    (sSeq (sSet 4 (xX (xFn F_CInit (aCons (xVar 2) (aCons (xVar 3) aNil)))))
    (sSeq (sSet 5 (xFn F_CFam (aCons (xVar 4) aNil)))
    (sSeq (sSetO 6 (xC (.dit [])))
    (sSeq (sFor (iLst (xFn F_Lots (aCons (xVar 2) aNil))) (gN 7)
    (sSeq (sSet 8 (xLc (iLst (xVar 3)) [13, 14] (gT 2 (gsC (gN 13) (gsC (gN 14) gsN))) tYesD (xB dLen (aCons (xLc (iTupD (xVar 7)) [15] (gN 15) (tB' (xOp2 (dIn false) (xVar 15) (xVar 13))) (xVar 15)) aNil))))
    (sSeq (sSet 9 (xLc (iRg1 (xB dLen (aCons (xVar 3) aNil))) [16] (gN 16) (tB' (xOp2 dGt (xOp2 dIx (xVar 8) (xVar 16)) (xOp2 dIx (xOp2 dIx (xVar 3) (xVar 16)) (xC (.int 1))))) (xVar 16)))
    (sSeq (sSet 10 (xLc (iRg1 (xB dLen (aCons (xVar 3) aNil))) [16] (gN 16) (tB' (xOp2 (dEq false) (xOp2 dIx (xVar 8) (xVar 16)) (xOp2 dIx (xOp2 dIx (xVar 3) (xVar 16)) (xC (.int 1))))) (xVar 16)))
    (sSeq (sPutT 6 (xVar 7) (xIf (tB' (xOp2 (dEq false) (xVar 9) (xLst aNil))) (xB dLen (aCons (xVar 7) aNil)) (xB dMaxL (aCons (xLc (iRg1 (xB dLen (aCons (xVar 7) aNil))) [16] (gN 16) tYesD (xTGet (xVar 6) (xOp2 dAdd (xSl (xVar 7) oNone (oSome (xVar 16))) (xSl (xVar 7) (oSome (xOp2 dAdd (xVar 16) (xC (.int 1)))) oNone)))) aNil))))
    (sSeq (sSet 11 (xFn F_Mixed (aCons (xVar 1) (aCons (xVar 7) aNil))))
    (sSeq (sIf (tOr' (tB' (xOp2 (dEq true) (xMethF F_FRank (xVar 5) (aCons (xVar 11) aNil)) (xTGet (xVar 6) (xVar 7)))) (tB' (xOp2 (dEq true) (xMethF F_FFree (xVar 5) (aCons (xVar 11) aNil)) (xOp2 (dEq false) (xVar 9) (xLst aNil)))))
    (sRet (xC (.bl false)))
    sNil)
    (sIf (tB' (xOp2 (dEq false) (xVar 9) (xLst aNil)))
    (sIf (tOr' (tB' (xOp2 (dIs true) (xFn F_OvFull (aCons (xVar 4) (aCons (xVar 11) aNil))) (xC .non))) (tB' (xOp2 (dEq true) (xFn F_Refused (aCons (xC (.int 1)) (aCons (xVar 4) (aCons (xVar 11) aNil)))) (xVar 10))))
    (sRet (xC (.bl false)))
    sNil)
    (sIf (tOr' (tB' (xOp2 (dEq true) (xFn F_OvFull (aCons (xVar 4) (aCons (xVar 11) aNil))) (xOp2 dIx (xVar 9) (xC (.int 0))))) (tB' (xOp2 (dEq true) (xFn F_Refused (aCons (xC (.int 1)) (aCons (xVar 4) (aCons (xVar 11) aNil)))) (xC (.str "not free")))))
    (sRet (xC (.bl false)))
    sNil)))))))))
    (sSeq (sSet 7 (xFn F_Mixed (aCons (xVar 1) (aCons (xVar 2) aNil))))
    (sSeq (sSet 12 (xOp2 dIx (xLst (aCons (xOp2 dAdd (xVar 7) (xLst (aCons (xOp2 dIx (xVar 7) (xC (.int 0))) aNil))) (aCons (xOp2 dAdd (xVar 7) (xLst (aCons (xC (.str "zzzzzzzz")) aNil))) (aCons (xOp2 dAdd (xOp2 dAdd (xVar 7) (xLst (aCons (xC (.str "A")) aNil))) (xVar 7)) aNil)))) (xFn F_Draw (aCons (xVar 1) (aCons (xC (.int 3)) aNil)))))
    (sSeq (sIf (tOr' (tB' (xOp2 (dEq true) (xFn F_Refused (aCons (xC (.int 0)) (aCons (xVar 4) (aCons (xVar 12) aNil)))) (xTup (aCons (xC (.str "lot")) (aCons (xB dLen (aCons (xVar 7) aNil)) aNil))))) (tB' (xOp2 (dEq true) (xFn F_Refused (aCons (xC (.int 1)) (aCons (xVar 4) (aCons (xVar 12) aNil)))) (xTup (aCons (xC (.str "lot")) (aCons (xB dLen (aCons (xVar 7) aNil)) aNil))))))
    (sRet (xC (.bl false)))
    sNil)
    (sRet (xAnd (xOp2 (dEq false) (xMeth0F F_FThings (xVar 5)) (xVar 2)) (xOp2 (dEq false) (xMeth0 "Counts" "rooms" F_CRooms (xVar 4)) (xLc (iLst (xVar 3)) [13, 14] (gT 2 (gsC (gN 13) (gsC (gN 14) gsN))) tYesD (xTup (aCons (xB dSorted (aCons (xVar 13) aNil)) (aCons (xVar 14) aNil))))))))))))))))))
end Dz
namespace L48
open PySem PySem.Spec PyProof.Rows L2 Evl Bf Dz
section
variable {P : Program} {w : World} {K : PySem.W.Frag} {mg : Str → Option Value} {base : Heap} {f : Addr} {fd : FuncData} {T : Th K}
theorem okr_Lots (F : FnS K "_law_lots" "_law_lots" sLots f fd)  : FnOk P w K mg base (L2.CX P w) 1 f fd ["_law_things"] (spOf (T1 K) 0 1 (fnD 0 nLots.length 1 r_Lots)) := by
  refine ok_fn (On := []) F scLots fun cdv A outer s H E hr tk => ?_
  exact (ss_cons (s_set (i := 1) scLots.nd rfl (by first | exact .inl rfl | exact .inr rfl) rfl (be_f (bf_lst (ba_cons (be_tup ba_nil) ba_nil))))
    (ss_cons (s_for (passes_of rfl) (by rfl) (i_list (be_var (i := 0) rfl (by first | exact .inl rfl | exact .inr (.inl rfl) | exact .inr (.inr rfl)) rfl)) (g_name (i := 2) scLots.nd rfl (by first | exact .inl rfl | exact .inr rfl) rfl) rfl
    (ss_one (s_set (i := 1) scLots.nd rfl (by first | exact .inl rfl | exact .inr rfl) rfl (be_op or_add od_add (be_o (be_var (i := 1) rfl (by first | exact .inl rfl | exact .inr (.inl rfl) | exact .inr (.inr rfl)) rfl)) (be_o (be_f (bf_lc (own := [("_law_lot", 3)]) (is := [3]) (by rfl) scLots.nd (i_io (i_list (be_var (i := 1) rfl (by first | exact .inl rfl | exact .inr (.inl rfl) | exact .inr (.inr rfl)) rfl))) (blkOk_by (own := [("_law_lot", 3)]) (N := nLots) (sc := defScope sLots) (by decide +kernel)) (fun _ _ _ _ _ => (g_name (i := 3) scLots.nd rfl (by first | exact .inl rfl | exact .inr rfl) rfl)) (fun _ _ _ _ _ => pts0) (fun _ _ _ _ _ => (be_op or_add od_add (be_o (be_var (i := 3) rfl (by first | exact .inl rfl | exact .inr (.inl rfl) | exact .inr (.inr rfl)) rfl)) (be_o (be_tup (ba_cons (be_var (i := 2) rfl (by first | exact .inl rfl | exact .inr (.inl rfl) | exact .inr (.inr rfl)) rfl) ba_nil))))) rfl rfl)))))))
    (ss_one (s_ret (be_var (i := 1) rfl (by first | exact .inl rfl | exact .inr (.inl rfl) | exact .inr (.inr rfl)) rfl)))))
theorem okr_Refused (F : FnS K "_law_refused" "_law_refused" sRefused f fd) (f_over_full : Fn P w (T1 K) mg base 4 "over_full" ["counts", "lot"] 0 F_OvFull) (f_tight : Fn P w (T1 K) mg base 4 "tight" ["counts", "lot"] 0 F_Tight) (x_BadLot : ExT P w K mg base "BadLot" "index" (He.ga K "BadLot")) (x0_NotFree : Ex0T K mg "NotFree") (xm : ExmT K ["BadThings", "BadLot", "NotFree", "BadRooms", "CrossedRooms"]) : FnOk P w K mg base (L2.CX P w) 5 f fd ["_law_which", "_law_counts", "_law_lot"] (spOf (T1 K) 0 3 (fnD 0 nRefused.length 3 r_Refused)) := by
  refine ok_fn (On := []) F scRefused fun cdv A outer s H E hr tk => ?_
  exact (ss_cons (s_tryM (nm := ["BadThings", "BadLot", "NotFree", "BadRooms", "CrossedRooms"]) rfl rfl scRefused.nd tk xm (fun W pn xe tk po => (ss_one (s_set (i := 3) scRefused.nd rfl (by first | exact .inl rfl | exact .inr rfl) rfl (be_ifExp (bt_cmp (op_eqD hr.units) od_eq (be_o (be_var (i := 0) rfl (by first | exact .inl rfl | exact .inr (.inl rfl) | exact .inr (.inr rfl)) rfl)) (be_o be_int) (nomark _)) (be_fn f_over_full (hr.mono (by decide)) tk (ba_cons (be_var (i := 1) rfl (by first | exact .inl rfl | exact .inr (.inl rfl) | exact .inr (.inr rfl)) rfl) (ba_cons (be_var (i := 2) rfl (by first | exact .inl rfl | exact .inr (.inl rfl) | exact .inr (.inr rfl)) rfl) ba_nil))) (be_fn f_tight (hr.mono (by decide)) tk (ba_cons (be_var (i := 1) rfl (by first | exact .inl rfl | exact .inr (.inl rfl) | exact .inr (.inr rfl)) rfl) (ba_cons (be_var (i := 2) rfl (by first | exact .inl rfl | exact .inr (.inl rfl) | exact .inr (.inr rfl)) rfl) ba_nil)))))))
    (.cons (x := "BadLot") (i := 4) (by decide) ⟨rfl, by decide, .inl x_BadLot.g⟩ rfl rfl (fun a oe cl d pn hz hf => u_of fun dd e1 e2 =>
      (ss_one (s_set (i := 3) scRefused.nd rfl (by first | exact .inl rfl | exact .inr rfl) rfl (be_tup (ba_cons be_str (ba_cons (be_xf x_BadLot.xf x_BadLot.no hz hf e1 e2 (be_var (i := 4) rfl (by first | exact .inl rfl | exact .inr (.inl rfl) | exact .inr (.inr rfl)) rfl)) ba_nil))))))
    (.bare (x := "NotFree") (by decide) ⟨rfl, by decide, .inl x0_NotFree.g⟩ (fun a oe cl d pn hz hf =>
      (ss_one (s_set (i := 3) scRefused.nd rfl (by first | exact .inl rfl | exact .inr rfl) rfl be_str)))
    .nil)))
    (ss_one (s_ret (be_var (i := 3) rfl (by first | exact .inl rfl | exact .inr (.inl rfl) | exact .inr (.inr rfl)) rfl))))
theorem okr_Law (F : FnS K "law" "law" sLaw f fd) (B : Bl mg) (f__law_draw : Fn P w (T1 K) mg base 1 "_law_draw" ["_law_state_here", "_law_many"] 0 F_Draw) (f__law_lots : Fn P w (T1 K) mg base 1 "_law_lots" ["_law_things"] 0 F_Lots) (f__law_mixed : Fn P w (T1 K) mg base 2 "_law_mixed" ["_law_state_here", "_law_items"] 1 F_Mixed) (f__law_names : Fn P w (T1 K) mg base 2 "_law_names" ["_law_state_here", "_law_many"] 1 F_Names) (f__law_refused : Fn P w (T1 K) mg base 5 "_law_refused" ["_law_which", "_law_counts", "_law_lot"] 0 F_Refused) (f__law_rooms : Fn P w (T1 K) mg base 6 "_law_rooms" ["_law_state_here", "_law_things", "_law_deep"] 1 F_LRooms) (f__law_state : Fn P w (T1 K) mg base 1 "_law_state" ["_law_script"] 0 F_State) (f_counts_family : Fn P w (T1 K) mg base 3 "counts_family" ["counts"] 0 F_CFam) (f_over_full : Fn P w (T1 K) mg base 4 "over_full" ["counts", "lot"] 0 F_OvFull) (m_Counts : MkN P w (T1 K) mg base 4 "Counts" 2 F_CInit) (m_Counts_rooms : MtD P w (T1 K) mg base 1 "Counts" "rooms" 1 2 F_CRooms) (m_Family_is_free : MtD P w (T1 K) mg base 6 "Family" "is_free" 2 0 F_FFree) (m_Family_rank : MtD P w (T1 K) mg base 5 "Family" "rank" 2 0 F_FRank) (m_Family_things : MtD P w (T1 K) mg base 1 "Family" "things" 1 1 F_FThings) : FnOk P w K mg base (L2.CX P w) 8 f fd ["_law_script"] (spOf (T1 K) 0 1 (fnD 0 nLaw.length 1 r_Law)) := by
  refine ok_fn (On := []) F scLaw fun cdv A outer s H E hr tk => ?_
  have hu := hu_of hr
  exact (ss_cons (s_set (i := 1) scLaw.nd rfl (by first | exact .inl rfl | exact .inr rfl) rfl (be_fn f__law_state (hr.mono (by decide)) tk (ba_cons (be_var (i := 0) rfl (by first | exact .inl rfl | exact .inr (.inl rfl) | exact .inr (.inr rfl)) rfl) ba_nil)))
    (ss_cons (s_set (i := 2) scLaw.nd rfl (by first | exact .inl rfl | exact .inr rfl) rfl (be_f (bf_fn f__law_names (hr.mono (by decide)) tk (ba_cons (be_var (i := 1) rfl (by first | exact .inl rfl | exact .inr (.inl rfl) | exact .inr (.inr rfl)) rfl) (ba_cons (be_op or_add od_add (be_o be_int) (be_o (be_fn f__law_draw (hr.mono (by decide)) tk (ba_cons (be_var (i := 1) rfl (by first | exact .inl rfl | exact .inr (.inl rfl) | exact .inr (.inr rfl)) rfl) (ba_cons be_int ba_nil))))) ba_nil)))))
    (ss_cons (s_setO (i := 3) scLaw.nd rfl (by first | exact .inl rfl | exact .inr rfl) rfl (bf_fn f__law_rooms (hr.mono (by decide)) tk (ba_cons (be_var (i := 1) rfl (by first | exact .inl rfl | exact .inr (.inl rfl) | exact .inr (.inr rfl)) rfl) (ba_cons (be_var (i := 2) rfl (by first | exact .inl rfl | exact .inr (.inl rfl) | exact .inr (.inr rfl)) rfl) (ba_cons be_int ba_nil)))))
    (ss_cons (s_if (PW.pt (bw_and (bt_cmp (op_eqD hr.units) od_eq (be_o (be_fn f__law_draw (hr.mono (by decide)) tk (ba_cons (be_var (i := 1) rfl (by first | exact .inl rfl | exact .inr (.inl rfl) | exact .inr (.inr rfl)) rfl) (ba_cons be_int ba_nil)))) (be_o be_int) (nomark _)) (bw_and1 (bt_cmp (op_neD hr.units) od_ne (bo_var (i := 3) rfl (by first | exact .inl rfl | exact .inr (.inl rfl) | exact .inr (.inr rfl)) rfl) (be_o (be_f (bf_lst ba_nil))) (nomark _)))))
    (ss_one (s_ins (i := 3) rfl (by first | exact .inl rfl | exact .inr (.inl rfl) | exact .inr (.inr rfl)) rfl (L2.pe_bm PySem.F.plainAttrs_list PySem.F.slot_list_insert PySem.F.type_list_insert mt_insert (pv 3) (ba_cons be_int (ba_cons (be_tup (ba_cons (be_ix ix_seq od_ix (be_o (be_ix ix_seq od_ix (bo_var (i := 3) rfl (by first | exact .inl rfl | exact .inr (.inl rfl) | exact .inr (.inr rfl)) rfl) (be_o (be_neg be_int)) (fun _ _ => rfl))) (be_o be_int) (fun _ _ => rfl)) (ba_cons (be_fn f__law_draw (hr.mono (by decide)) tk (ba_cons (be_var (i := 1) rfl (by first | exact .inl rfl | exact .inr (.inl rfl) | exact .inr (.inr rfl)) rfl) (ba_cons be_int ba_nil))) ba_nil))) ba_nil)))))
    ss_nil)
    (ss_cons (s_set (i := 4) scLaw.nd rfl (by first | exact .inl rfl | exact .inr rfl) rfl (be_mkN m_Counts i_CInit (hr.mono (by decide)) tk (ar_cons (er_o (be_o (be_var (i := 2) rfl (by first | exact .inl rfl | exact .inr (.inl rfl) | exact .inr (.inr rfl)) rfl))) (ar_cons (er_o (bo_var (i := 3) rfl (by first | exact .inl rfl | exact .inr (.inl rfl) | exact .inr (.inr rfl)) rfl)) ar_nil))))
    (ss_cons (s_set (i := 5) scLaw.nd rfl (by first | exact .inl rfl | exact .inr rfl) rfl (be_fn f_counts_family (hr.mono (by decide)) tk (ba_cons (be_var (i := 4) rfl (by first | exact .inl rfl | exact .inr (.inl rfl) | exact .inr (.inr rfl)) rfl) ba_nil)))
    (ss_cons (s_setO (i := 6) scLaw.nd rfl (by first | exact .inl rfl | exact .inr rfl) rfl bf_dnewT)
    (ss_cons (s_for (passes_of rfl) (by rfl) (i_list (be_fn f__law_lots (hr.mono (by decide)) tk (ba_cons (be_var (i := 2) rfl (by first | exact .inl rfl | exact .inr (.inl rfl) | exact .inr (.inr rfl)) rfl) ba_nil))) (g_name (i := 7) scLaw.nd rfl (by first | exact .inl rfl | exact .inr rfl) rfl) rfl
    (ss_cons (s_set (i := 8) scLaw.nd rfl (by first | exact .inl rfl | exact .inr rfl) rfl (be_f (bf_lc (own := [("_law_room", 13), ("_law_number", 14)]) (is := ([13] ++ ([14] ++ []))) (by rfl) scLaw.nd (io_list (bo_var (i := 3) rfl (by first | exact .inl rfl | exact .inr (.inl rfl) | exact .inr (.inr rfl)) rfl)) (blkOk_by (own := [("_law_room", 13), ("_law_number", 14)]) (N := nLaw) (sc := defScope sLaw) (by decide +kernel)) (fun _ _ _ _ _ => (g_tup (is := ([13] ++ ([14] ++ []))) (n := 2) (by rfl) (g_cons (is := [13]) (g_name (i := 13) scLaw.nd rfl (by first | exact .inl rfl | exact .inr rfl) rfl) (g_cons (is := [14]) (g_name (i := 14) scLaw.nd rfl (by first | exact .inl rfl | exact .inr rfl) rfl) g_nil rfl) rfl))) (fun _ _ _ _ _ => pts0) (fun _ _ _ _ _ => (be_bf call_len cd_len (by rfl) B.len (by decide +kernel) (bo_cons (be_o (be_f (bf_lc (own := [("_law_thing", 15)]) (is := [15]) (by rfl) scLaw.nd (i_io (i_tup (be_var (i := 7) rfl (by first | exact .inl rfl | exact .inr (.inl rfl) | exact .inr (.inr rfl)) rfl))) (blkOk_by (own := [("_law_thing", 15)]) (by kernel_rfl)) (fun _ _ _ _ _ => (g_name (i := 15) scLaw.nd rfl (by first | exact .inl rfl | exact .inr rfl) rfl)) (fun _ _ _ _ _ => (pts_one (bt_cmp or_in od_in (be_o (be_var (i := 15) rfl (by first | exact .inl rfl | exact .inr (.inl rfl) | exact .inr (.inr rfl)) rfl)) (be_o (be_var (i := 13) rfl (by first | exact .inl rfl | exact .inr (.inl rfl) | exact .inr (.inr rfl)) rfl)) (by rfl)))) (fun _ _ _ _ _ => (be_var (i := 15) rfl (by first | exact .inl rfl | exact .inr (.inl rfl) | exact .inr (.inr rfl)) rfl)) rfl rfl))) bo_nil))) rfl rfl)))
    (ss_cons (s_setLc (i := 9) (own := [("_law_k", 16)]) (is := [16]) (by rfl) scLaw.nd rfl rfl (sw_true rfl rfl rfl (by decide +kernel)) (i_io (i_range1 (by rfl) B.range (be_bf call_len cd_len (by rfl) B.len (by decide +kernel) (bo_cons (bo_var (i := 3) rfl (by first | exact .inl rfl | exact .inr (.inl rfl) | exact .inr (.inr rfl)) rfl) bo_nil)))) (blkOk_by (own := [("_law_k", 16)]) (N := nLaw) (sc := defScope sLaw) (by decide +kernel)) (fun _ _ _ _ _ => (g_name (i := 16) scLaw.nd rfl (by first | exact .inl rfl | exact .inr rfl) rfl)) (fun _ _ _ _ _ => (pts_one (bt_cmp or_gt od_gt (be_o (be_ix ix_seq od_ix (be_o (be_var (i := 8) rfl (by first | exact .inl rfl | exact .inr (.inl rfl) | exact .inr (.inr rfl)) rfl)) (be_o (be_var (i := 16) rfl (by first | exact .inl rfl | exact .inr (.inl rfl) | exact .inr (.inr rfl)) rfl)) (fun _ _ => rfl))) (be_o (be_ix ix_seq od_ix (be_o (be_ix ix_seq od_ix (bo_var (i := 3) rfl (by first | exact .inl rfl | exact .inr (.inl rfl) | exact .inr (.inr rfl)) rfl) (be_o (be_var (i := 16) rfl (by first | exact .inl rfl | exact .inr (.inl rfl) | exact .inr (.inr rfl)) rfl)) (fun _ _ => rfl))) (be_o be_int) (fun _ _ => rfl))) (nomark _)))) (fun _ _ _ _ _ => (be_var (i := 16) rfl (by first | exact .inl rfl | exact .inr (.inl rfl) | exact .inr (.inr rfl)) rfl)) rfl rfl rfl)
    (ss_cons (s_setLc (i := 10) (own := [("_law_k", 16)]) (is := [16]) (by rfl) scLaw.nd rfl rfl (sw_true rfl rfl rfl (by decide +kernel)) (i_io (i_range1 (by rfl) B.range (be_bf call_len cd_len (by rfl) B.len (by decide +kernel) (bo_cons (bo_var (i := 3) rfl (by first | exact .inl rfl | exact .inr (.inl rfl) | exact .inr (.inr rfl)) rfl) bo_nil)))) (blkOk_by (own := [("_law_k", 16)]) (N := nLaw) (sc := defScope sLaw) (by decide +kernel)) (fun _ _ _ _ _ => (g_name (i := 16) scLaw.nd rfl (by first | exact .inl rfl | exact .inr rfl) rfl)) (fun _ _ _ _ _ => (pts_one (bt_cmp (op_eqD hr.units) od_eq (be_o (be_ix ix_seq od_ix (be_o (be_var (i := 8) rfl (by first | exact .inl rfl | exact .inr (.inl rfl) | exact .inr (.inr rfl)) rfl)) (be_o (be_var (i := 16) rfl (by first | exact .inl rfl | exact .inr (.inl rfl) | exact .inr (.inr rfl)) rfl)) (fun _ _ => rfl))) (be_o (be_ix ix_seq od_ix (be_o (be_ix ix_seq od_ix (bo_var (i := 3) rfl (by first | exact .inl rfl | exact .inr (.inl rfl) | exact .inr (.inr rfl)) rfl) (be_o (be_var (i := 16) rfl (by first | exact .inl rfl | exact .inr (.inl rfl) | exact .inr (.inr rfl)) rfl)) (fun _ _ => rfl))) (be_o be_int) (fun _ _ => rfl))) (nomark _)))) (fun _ _ _ _ _ => (be_var (i := 16) rfl (by first | exact .inl rfl | exact .inr (.inl rfl) | exact .inr (.inr rfl)) rfl)) rfl rfl rfl)
    (ss_cons (s_putT hu (n := 6) rfl (by first | exact .inl rfl | exact .inr (.inl rfl) | exact .inr (.inr rfl)) rfl (be_var (i := 7) rfl (by first | exact .inl rfl | exact .inr (.inl rfl) | exact .inr (.inr rfl)) rfl) (be_ifExp (bt_cmp (op_eqD hr.units) od_eq (be_o (be_var (i := 9) rfl (by first | exact .inl rfl | exact .inr (.inl rfl) | exact .inr (.inr rfl)) rfl)) (be_o (be_f (bf_lst ba_nil))) (nomark _)) (be_bf call_len cd_len (by rfl) B.len (by decide +kernel) (bo_cons (be_o (be_var (i := 7) rfl (by first | exact .inl rfl | exact .inr (.inl rfl) | exact .inr (.inr rfl)) rfl)) bo_nil)) (be_bf (cr_max rfl) cd_maxL (by rfl) B.max (by decide +kernel) (bo_cons (be_o (be_f (bf_lc (own := [("_law_k", 16)]) (is := [16]) (by rfl) scLaw.nd (i_io (i_range1 (by rfl) B.range (be_bf call_len cd_len (by rfl) B.len (by decide +kernel) (bo_cons (be_o (be_var (i := 7) rfl (by first | exact .inl rfl | exact .inr (.inl rfl) | exact .inr (.inr rfl)) rfl)) bo_nil)))) (blkOk_by (own := [("_law_k", 16)]) (N := nLaw) (sc := defScope sLaw) (by decide +kernel)) (fun _ _ _ _ _ => (g_name (i := 16) scLaw.nd rfl (by first | exact .inl rfl | exact .inr rfl) rfl)) (fun _ _ _ _ _ => pts0) (fun _ _ _ _ _ => (be_tget hu (bo_var (i := 6) rfl (by first | exact .inl rfl | exact .inr (.inl rfl) | exact .inr (.inr rfl)) rfl) (be_op or_add od_add (be_o (be_slice (be_o (be_var (i := 7) rfl (by first | exact .inl rfl | exact .inr (.inl rfl) | exact .inr (.inr rfl)) rfl)) bp_none (bp_some (be_var (i := 16) rfl (by first | exact .inl rfl | exact .inr (.inl rfl) | exact .inr (.inr rfl)) rfl)))) (be_o (be_slice (be_o (be_var (i := 7) rfl (by first | exact .inl rfl | exact .inr (.inl rfl) | exact .inr (.inr rfl)) rfl)) (bp_some (be_op or_add od_add (be_o (be_var (i := 16) rfl (by first | exact .inl rfl | exact .inr (.inl rfl) | exact .inr (.inr rfl)) rfl)) (be_o be_int))) bp_none))) (fun _ _ => rfl))) rfl rfl))) bo_nil))))
    (ss_cons (s_set (i := 11) scLaw.nd rfl (by first | exact .inl rfl | exact .inr rfl) rfl (be_f (bf_fn f__law_mixed (hr.mono (by decide)) tk (ba_cons (be_var (i := 1) rfl (by first | exact .inl rfl | exact .inr (.inl rfl) | exact .inr (.inr rfl)) rfl) (ba_cons (be_var (i := 7) rfl (by first | exact .inl rfl | exact .inr (.inl rfl) | exact .inr (.inr rfl)) rfl) ba_nil)))))
    (ss_cons (s_if (PW.pt (bw_or (bt_cmp (op_neD hr.units) od_ne (be_o (be_methF m_Family_rank (hr.mono (by decide)) tk (be_var (i := 5) rfl (by first | exact .inl rfl | exact .inr (.inl rfl) | exact .inr (.inr rfl)) rfl) (ba_cons (be_var (i := 11) rfl (by first | exact .inl rfl | exact .inr (.inl rfl) | exact .inr (.inr rfl)) rfl) ba_nil))) (be_o (be_tget hu (bo_var (i := 6) rfl (by first | exact .inl rfl | exact .inr (.inl rfl) | exact .inr (.inr rfl)) rfl) (be_var (i := 7) rfl (by first | exact .inl rfl | exact .inr (.inl rfl) | exact .inr (.inr rfl)) rfl) (fun _ _ => rfl))) (nomark _)) (bw_or1 (bt_cmp (op_neD hr.units) od_ne (be_o (be_methF m_Family_is_free (hr.mono (by decide)) tk (be_var (i := 5) rfl (by first | exact .inl rfl | exact .inr (.inl rfl) | exact .inr (.inr rfl)) rfl) (ba_cons (be_var (i := 11) rfl (by first | exact .inl rfl | exact .inr (.inl rfl) | exact .inr (.inr rfl)) rfl) ba_nil))) (be_o (be_cmp (op_eqD hr.units) od_eq (be_o (be_var (i := 9) rfl (by first | exact .inl rfl | exact .inr (.inl rfl) | exact .inr (.inr rfl)) rfl)) (be_o (be_f (bf_lst ba_nil))) (nomark _))) (nomark _)))))
    (ss_one (s_ret be_bl))
    ss_nil)
    (ss_one (s_if (bt_cmp (op_eqD hr.units) od_eq (be_o (be_var (i := 9) rfl (by first | exact .inl rfl | exact .inr (.inl rfl) | exact .inr (.inr rfl)) rfl)) (be_o (be_f (bf_lst ba_nil))) (nomark _))
    (ss_one (s_if (PW.pt (bw_or (bt_cmp op_notN od_isnot (be_o (be_fn f_over_full (hr.mono (by decide)) tk (ba_cons (be_var (i := 4) rfl (by first | exact .inl rfl | exact .inr (.inl rfl) | exact .inr (.inr rfl)) rfl) (ba_cons (be_var (i := 11) rfl (by first | exact .inl rfl | exact .inr (.inl rfl) | exact .inr (.inr rfl)) rfl) ba_nil)))) (be_o be_non) (nomark _)) (bw_or1 (bt_cmp (op_neD hr.units) od_ne (be_o (be_fn f__law_refused (hr.mono (by decide)) tk (ba_cons be_int (ba_cons (be_var (i := 4) rfl (by first | exact .inl rfl | exact .inr (.inl rfl) | exact .inr (.inr rfl)) rfl) (ba_cons (be_var (i := 11) rfl (by first | exact .inl rfl | exact .inr (.inl rfl) | exact .inr (.inr rfl)) rfl) ba_nil))))) (be_o (be_var (i := 10) rfl (by first | exact .inl rfl | exact .inr (.inl rfl) | exact .inr (.inr rfl)) rfl)) (nomark _)))))
    (ss_one (s_ret be_bl))
    ss_nil))
    (ss_one (s_if (PW.pt (bw_or (bt_cmp (op_neD hr.units) od_ne (be_o (be_fn f_over_full (hr.mono (by decide)) tk (ba_cons (be_var (i := 4) rfl (by first | exact .inl rfl | exact .inr (.inl rfl) | exact .inr (.inr rfl)) rfl) (ba_cons (be_var (i := 11) rfl (by first | exact .inl rfl | exact .inr (.inl rfl) | exact .inr (.inr rfl)) rfl) ba_nil)))) (be_o (be_ix ix_seq od_ix (be_o (be_var (i := 9) rfl (by first | exact .inl rfl | exact .inr (.inl rfl) | exact .inr (.inr rfl)) rfl)) (be_o be_int) (fun _ _ => rfl))) (nomark _)) (bw_or1 (bt_cmp (op_neD hr.units) od_ne (be_o (be_fn f__law_refused (hr.mono (by decide)) tk (ba_cons be_int (ba_cons (be_var (i := 4) rfl (by first | exact .inl rfl | exact .inr (.inl rfl) | exact .inr (.inr rfl)) rfl) (ba_cons (be_var (i := 11) rfl (by first | exact .inl rfl | exact .inr (.inl rfl) | exact .inr (.inr rfl)) rfl) ba_nil))))) (be_o be_str) (nomark _)))))
    (ss_one (s_ret be_bl))
    ss_nil)))))))))))
    (ss_cons (s_set (i := 7) scLaw.nd rfl (by first | exact .inl rfl | exact .inr rfl) rfl (be_f (bf_fn f__law_mixed (hr.mono (by decide)) tk (ba_cons (be_var (i := 1) rfl (by first | exact .inl rfl | exact .inr (.inl rfl) | exact .inr (.inr rfl)) rfl) (ba_cons (be_var (i := 2) rfl (by first | exact .inl rfl | exact .inr (.inl rfl) | exact .inr (.inr rfl)) rfl) ba_nil)))))
    (ss_cons (s_set (i := 12) scLaw.nd rfl (by first | exact .inl rfl | exact .inr rfl) rfl (be_ix ix_seq od_ix (be_o (be_f (bf_lst (ba_cons (be_op or_add od_add (be_o (be_var (i := 7) rfl (by first | exact .inl rfl | exact .inr (.inl rfl) | exact .inr (.inr rfl)) rfl)) (be_o (be_f (bf_lst (ba_cons (be_ix ix_seq od_ix (be_o (be_var (i := 7) rfl (by first | exact .inl rfl | exact .inr (.inl rfl) | exact .inr (.inr rfl)) rfl)) (be_o be_int) (fun _ _ => rfl)) ba_nil))))) (ba_cons (be_op or_add od_add (be_o (be_var (i := 7) rfl (by first | exact .inl rfl | exact .inr (.inl rfl) | exact .inr (.inr rfl)) rfl)) (be_o (be_f (bf_lst (ba_cons be_str ba_nil))))) (ba_cons (be_op or_add od_add (be_o (be_op or_add od_add (be_o (be_var (i := 7) rfl (by first | exact .inl rfl | exact .inr (.inl rfl) | exact .inr (.inr rfl)) rfl)) (be_o (be_f (bf_lst (ba_cons be_str ba_nil)))))) (be_o (be_var (i := 7) rfl (by first | exact .inl rfl | exact .inr (.inl rfl) | exact .inr (.inr rfl)) rfl))) ba_nil)))))) (be_o (be_fn f__law_draw (hr.mono (by decide)) tk (ba_cons (be_var (i := 1) rfl (by first | exact .inl rfl | exact .inr (.inl rfl) | exact .inr (.inr rfl)) rfl) (ba_cons be_int ba_nil)))) (fun _ _ => rfl)))
    (ss_cons (s_if (PW.pt (bw_or (bt_cmp (op_neD hr.units) od_ne (be_o (be_fn f__law_refused (hr.mono (by decide)) tk (ba_cons be_int (ba_cons (be_var (i := 4) rfl (by first | exact .inl rfl | exact .inr (.inl rfl) | exact .inr (.inr rfl)) rfl) (ba_cons (be_var (i := 12) rfl (by first | exact .inl rfl | exact .inr (.inl rfl) | exact .inr (.inr rfl)) rfl) ba_nil))))) (be_o (be_tup (ba_cons be_str (ba_cons (be_bf call_len cd_len (by rfl) B.len (by decide +kernel) (bo_cons (be_o (be_var (i := 7) rfl (by first | exact .inl rfl | exact .inr (.inl rfl) | exact .inr (.inr rfl)) rfl)) bo_nil)) ba_nil)))) (nomark _)) (bw_or1 (bt_cmp (op_neD hr.units) od_ne (be_o (be_fn f__law_refused (hr.mono (by decide)) tk (ba_cons be_int (ba_cons (be_var (i := 4) rfl (by first | exact .inl rfl | exact .inr (.inl rfl) | exact .inr (.inr rfl)) rfl) (ba_cons (be_var (i := 12) rfl (by first | exact .inl rfl | exact .inr (.inl rfl) | exact .inr (.inr rfl)) rfl) ba_nil))))) (be_o (be_tup (ba_cons be_str (ba_cons (be_bf call_len cd_len (by rfl) B.len (by decide +kernel) (bo_cons (be_o (be_var (i := 7) rfl (by first | exact .inl rfl | exact .inr (.inl rfl) | exact .inr (.inr rfl)) rfl)) bo_nil)) ba_nil)))) (nomark _)))))
    (ss_one (s_ret be_bl))
    ss_nil)
    (ss_one (s_ret (be_and (be_cmp (op_eqD hr.units) od_eq (be_o (be_f (bf_meth0F m_Family_things (hr.mono (by decide)) tk (be_var (i := 5) rfl (by first | exact .inl rfl | exact .inr (.inl rfl) | exact .inr (.inr rfl)) rfl)))) (be_o (be_var (i := 2) rfl (by first | exact .inl rfl | exact .inr (.inl rfl) | exact .inr (.inr rfl)) rfl)) (nomark _)) (be_one (be_cmp (op_eqD hr.units) od_eq (be_o (be_meth0 m_Counts_rooms (hr.mono (by decide)) tk (be_var (i := 4) rfl (by first | exact .inl rfl | exact .inr (.inl rfl) | exact .inr (.inr rfl)) rfl))) (be_o (be_f (bf_lc (own := [("_law_room", 13), ("_law_number", 14)]) (is := ([13] ++ ([14] ++ []))) (by rfl) scLaw.nd (io_list (bo_var (i := 3) rfl (by first | exact .inl rfl | exact .inr (.inl rfl) | exact .inr (.inr rfl)) rfl)) (blkOk_by (own := [("_law_room", 13), ("_law_number", 14)]) (N := nLaw) (sc := defScope sLaw) (by decide +kernel)) (fun _ _ _ _ _ => (g_tup (is := ([13] ++ ([14] ++ []))) (n := 2) (by rfl) (g_cons (is := [13]) (g_name (i := 13) scLaw.nd rfl (by first | exact .inl rfl | exact .inr rfl) rfl) (g_cons (is := [14]) (g_name (i := 14) scLaw.nd rfl (by first | exact .inl rfl | exact .inr rfl) rfl) g_nil rfl) rfl))) (fun _ _ _ _ _ => pts0) (fun _ _ _ _ _ => (be_tup (ba_cons (be_f (bf_bf cr_sortedD cd_sorted (by rfl) B.sorted (by decide +kernel) (bo_cons (be_o (be_var (i := 13) rfl (by first | exact .inl rfl | exact .inr (.inl rfl) | exact .inr (.inr rfl)) rfl)) bo_nil))) (ba_cons (be_var (i := 14) rfl (by first | exact .inl rfl | exact .inr (.inl rfl) | exact .inr (.inr rfl)) rfl) ba_nil)))) rfl rfl))) (nomark _)))))))))))))))))
end
end L48
/-! Dz, plainly: rooms within one another; taking as long as it goes takes most. -/
namespace Dz
open PySem PySem.Spec PyProof.Rows L2 Evl Bf
def cnt (B R : List Str) : Nat := (shareL B R).length
def FreeR (rs : List (List Str × Int)) (B : List Str) : Prop := ∀ r ∈ rs, (cnt B r.1 : Int) ≤ r.2
theorem over_none {rs : List (List Str × Int)} {B : List Str} : overOf rs B = none ↔ FreeR rs B := by
  constructor
  · intro h r hr
    obtain ⟨i, hi, rfl⟩ := List.mem_iff_getElem.mp hr
    unfold overOf firstOf at h
    have := List.find?_eq_none.mp h i (List.mem_range.mpr hi)
    unfold overAt at this
    rw [getD_of (List.getElem?_eq_getElem hi)] at this
    unfold cnt
    simpa using this
  · intro h
    refine first_none fun i hi => ?_
    unfold overAt
    rw [getD_of (List.getElem?_eq_getElem hi)]
    have := h _ (List.getElem_mem hi)
    unfold cnt at this
    exact decide_eq_false (by omega)
theorem cnt_sub {A B R : List Str} (h : A.Sublist B) : cnt A R ≤ cnt B R := (h.filter _).length_le
theorem cnt_subset {A B R : List Str} (na : A.Nodup) (h : ∀ x ∈ A, x ∈ B) : cnt A R ≤ cnt B R := nodup_len (nd_filter _ na) fun x hx => by
  obtain ⟨h1, h2⟩ := List.mem_filter.mp hx
  exact List.mem_filter.mpr ⟨h x h1, h2⟩
theorem free_subset {rs : List (List Str × Int)} {A B : List Str} (na : A.Nodup) (h : ∀ x ∈ A, x ∈ B) (f : FreeR rs B) : FreeR rs A := fun r hr => by
  have := f r hr
  have := cnt_subset (R := r.1) na h
  omega
theorem cnt_snoc (A : List Str) (x : Str) (R : List Str) : cnt (A ++ [x]) R = cnt A R + if x ∈ R then 1 else 0 := by
  unfold cnt shareL
  rw [List.filter_append, List.length_append]
  by_cases c : x ∈ R <;> simp [c]
/-! ### what is taken -/
structure Taken (rs : List (List Str × Int)) (done found : List Str) : Prop where
  sub : found.Sublist done
  fr : FreeR rs found
  full : ∀ x ∈ done, x ∉ found → ∃ r ∈ rs, x ∈ r.1 ∧ r.2 ≤ (cnt found r.1 : Int)
theorem grd_step {rs : List (List Str × Int)} {done found : List Str} {x : Str} (t : Taken rs done found) : Taken rs (done ++ [x]) (grdS rs found x) := by
  unfold grdS
  split
  · rename_i h
    have f := over_none.mp (Option.isNone_iff_eq_none.mp h)
    refine ⟨t.sub.append (List.Sublist.refl [x]), f, fun y hy hn => ?_⟩
    rcases List.mem_append.mp hy with hy | hy
    · obtain ⟨r, hr, h1, h2⟩ := t.full y hy fun z => hn (List.mem_append_left _ z)
      refine ⟨r, hr, h1, ?_⟩
      have := cnt_sub (R := r.1) (List.sublist_append_left found [x])
      omega
    · exact absurd (List.mem_append_right _ hy) hn
  · rename_i h
    refine ⟨t.sub.trans (List.sublist_append_left _ _), t.fr, fun y hy hn => ?_⟩
    rcases List.mem_append.mp hy with hy | hy
    · exact t.full y hy hn
    · have ey := List.mem_singleton.mp hy
      subst ey
      have nf : ¬ FreeR rs (found ++ [y]) := fun z => h (by rw [over_none.mpr z]; rfl)
      obtain ⟨r, hr, hc⟩ : ∃ r ∈ rs, r.2 < (cnt (found ++ [y]) r.1 : Int) := by
        refine Classical.byContradiction fun z => nf fun r hr => ?_
        refine Classical.byContradiction fun w => z ⟨r, hr, by omega⟩
      rw [cnt_snoc] at hc
      have := t.fr r hr
      refine ⟨r, hr, Classical.byContradiction fun z => ?_, ?_⟩
      · rw [if_neg z] at hc; omega
      · split at hc <;> omega
theorem grd_taken (rs : List (List Str × Int)) : ∀ (lot done found : List Str), Taken rs done found → Taken rs (done ++ lot) (lot.foldl (grdS rs) found)
  | [], done, found, t => by rw [List.append_nil]; exact t
  | x :: lot, done, found, t => by
    have := grd_taken rs lot (done ++ [x]) (grdS rs found x) (grd_step t)
    rw [List.append_assoc] at this
    exact this
theorem grd_is {rs : List (List Str × Int)} (nn : ∀ r ∈ rs, 0 ≤ r.2) (lot : List Str) : Taken rs lot (grd rs lot) := by
  have := grd_taken rs lot [] [] ⟨List.Sublist.refl _, fun r hr => by have := nn r hr; show ((0 : Nat) : Int) ≤ r.2; omega, fun x hx => absurd hx List.not_mem_nil⟩
  rw [List.nil_append] at this
  exact this
/-! ### rooms that lie apart -/
/-- of two rooms one lies in the other, or they lie apart -/
def Nest (a b : List Str) : Prop := (∀ x ∈ a, x ∈ b) ∨ (∀ x ∈ b, x ∈ a) ∨ ∀ x ∈ a, x ∉ b
theorem nest_of {a b : List Str} (na : a.Nodup) (nb : b.Nodup) (h : crossB a b = false) : Nest a b := by
  unfold crossB at h
  by_cases c0 : 0 < (shareL a b).length
  · rw [decide_eq_true c0, Bool.true_and] at h
    have h := of_decide_eq_false h
    by_cases c1 : a.length ≤ b.length
    · left
      have e : (shareL a b).length = a.length := Nat.le_antisymm (List.length_filter_le _ _) (by omega)
      have := List.filter_eq_self.mp (List.filter_sublist.eq_of_length e)
      exact fun x hx => of_decide_eq_true (this x hx)
    · right; left
      intro x hx
      refine Classical.byContradiction fun z => ?_
      have hs : (shareL a b).length ≤ (b.erase x).length := nodup_len (nd_filter _ na) fun y hy => by
        obtain ⟨h1, h2⟩ := List.mem_filter.mp hy
        exact (List.mem_erase_of_ne (fun e : y = x => z (e ▸ h1))).mpr (of_decide_eq_true h2)
      rw [List.length_erase_of_mem hx] at hs
      have := List.length_pos_of_mem hx
      omega
  · right; right
    intro x hx hb
    exact c0 (List.length_pos_of_mem (List.mem_filter.mpr ⟨hx, decide_eq_true hb⟩))
/-- lists of texts that lie apart from one another and cover all of some lists -/
theorem apart_cover : ∀ (Rs : List (List Str)), (∀ a ∈ Rs, ∀ b ∈ Rs, Nest a b) → ∃ Ms : List (List Str), (∀ m ∈ Ms, m ∈ Rs) ∧ Ms.Pairwise (fun a b => ∀ x ∈ a, x ∉ b) ∧ ∀ a ∈ Rs, ∀ x ∈ a, ∃ m ∈ Ms, x ∈ m
  | [], _ => ⟨[], fun _ z => z, List.Pairwise.nil, fun _ z => absurd z List.not_mem_nil⟩
  | R :: Rs, h => by
    obtain ⟨Ms, h1, h2, h3⟩ := apart_cover Rs fun a ha b hb => h a (List.mem_cons_of_mem _ ha) b (List.mem_cons_of_mem _ hb)
    by_cases c : ∃ m ∈ Ms, ∀ x ∈ R, x ∈ m
    · obtain ⟨m, hm, hR⟩ := c
      refine ⟨Ms, fun m hm => List.mem_cons_of_mem _ (h1 m hm), h2, fun a ha x hx => ?_⟩
      rcases List.mem_cons.mp ha with rfl | ha
      · exact ⟨m, hm, hR x hx⟩
      · exact h3 a ha x hx
    · refine ⟨R :: Ms.filter (fun m => decide (¬ ∀ x ∈ m, x ∈ R)), fun m hm => ?_, List.Pairwise.cons (fun m hm x hx hxm => ?_) (h2.filter _), fun a ha x hx => ?_⟩
      · rcases List.mem_cons.mp hm with rfl | hm
        · exact List.mem_cons_self
        · exact List.mem_cons_of_mem _ (h1 m (List.mem_filter.mp hm).1)
      · obtain ⟨m1, m2⟩ := List.mem_filter.mp hm
        have m2 := of_decide_eq_true m2
        rcases h R List.mem_cons_self m (List.mem_cons_of_mem _ (h1 m m1)) with z | z | z
        · exact c ⟨m, m1, z⟩
        · exact m2 z
        · exact z x hx hxm
      · rcases List.mem_cons.mp ha with rfl | ha
        · exact ⟨a, List.mem_cons_self, hx⟩
        · obtain ⟨m, hm, hxm⟩ := h3 a ha x hx
          by_cases z : ∀ x ∈ m, x ∈ R
          · exact ⟨R, List.mem_cons_self, z x hxm⟩
          · exact ⟨m, List.mem_cons_of_mem _ (List.mem_filter.mpr ⟨hm, decide_eq_true z⟩), hxm⟩
theorem cnt_part (B R : List Str) : B.length = cnt B R + (B.filter fun x => decide (x ∉ R)).length := by
  unfold cnt shareL
  have := List.length_eq_countP_add_countP (fun x => decide (x ∈ R)) (l := B)
  rw [List.countP_eq_length_filter, List.countP_eq_length_filter] at this
  rw [this]
  congr 2
  congr
  funext x
  by_cases c : x ∈ R <;> simp [c]
theorem apart_le : ∀ (Ms : List (List Str)) (A B : List Str), B.Nodup → Ms.Pairwise (fun a b => ∀ x ∈ a, x ∉ b) → (∀ m ∈ Ms, cnt B m ≤ cnt A m) → (∀ x ∈ B, (∀ m ∈ Ms, x ∉ m) → x ∈ A) → B.length ≤ A.length
  | [], A, B, nb, _, _, h => nodup_len nb fun x hx => h x hx fun _ z => absurd z List.not_mem_nil
  | M :: Ms, A, B, nb, pw, hc, h => by
    obtain ⟨p1, p2⟩ := List.pairwise_cons.mp pw
    have ih := apart_le Ms (A.filter fun x => decide (x ∉ M)) (B.filter fun x => decide (x ∉ M)) (nd_filter _ nb) p2 (fun m hm => ?_) fun x hx hn => ?_
    · have e1 := cnt_part B M
      have e2 := cnt_part A M
      have := hc M List.mem_cons_self
      omega
    · have e : ∀ C : List Str, cnt (C.filter fun x => decide (x ∉ M)) m = cnt C m := fun C => by
        unfold cnt shareL
        rw [List.filter_filter]
        congr 1
        refine List.filter_congr fun x hx => ?_
        by_cases c : x ∈ m
        · have : x ∉ M := fun z => p1 m hm x z c
          simp [c, this]
        · simp [c]
      rw [e, e]
      exact hc m (List.mem_cons_of_mem _ hm)
    · obtain ⟨h1, h2⟩ := List.mem_filter.mp hx
      have h2' := of_decide_eq_true h2
      refine List.mem_filter.mpr ⟨h x h1 fun m hm => ?_, h2⟩
      rcases List.mem_cons.mp hm with rfl | hm
      · exact h2'
      · exact hn m hm
/-- nothing free in a lot has more things -/
theorem grd_most {th : List Str} {rs : List (List Str × Int)} (L : LR th rs) {lot B : List Str} (nl : lot.Nodup) (nb : B.Nodup) (hs : ∀ x ∈ B, x ∈ lot) (fb : FreeR rs B) : B.length ≤ (grd rs lot).length := by
  have t := grd_is L.nn lot
  obtain ⟨Ms, h1, h2, h3⟩ := apart_cover ((rs.filter fun r => decide (r.2 ≤ (cnt (grd rs lot) r.1 : Int))).map (·.1)) fun a ha b hb => by
    obtain ⟨r, hr, rfl⟩ := List.mem_map.mp ha
    obtain ⟨s, hs, rfl⟩ := List.mem_map.mp hb
    have hr := (List.mem_filter.mp hr).1
    have hs := (List.mem_filter.mp hs).1
    exact nest_of (L.nd r hr) (L.nd s hs) (L.nc r hr s hs)
  refine apart_le Ms _ _ nb h2 (fun m hm => ?_) fun x hx hn => ?_
  · obtain ⟨r, hr, rfl⟩ := List.mem_map.mp (h1 m hm)
    obtain ⟨hr1, hr2⟩ := List.mem_filter.mp hr
    have := of_decide_eq_true hr2
    have := fb r hr1
    omega
  · refine Classical.byContradiction fun z => ?_
    obtain ⟨r, hr, hxr, hc⟩ := t.full x (hs x hx) z
    obtain ⟨m, hm, hxm⟩ := h3 r.1 (List.mem_map.mpr ⟨r, List.mem_filter.mpr ⟨hr, decide_eq_true hc⟩, rfl⟩) x hxr
    exact hn m hm hxm
theorem grd_all {th : List Str} {rs : List (List Str × Int)} (L : LR th rs) {lot : List Str} (nl : lot.Nodup) : (grd rs lot).length = lot.length ↔ FreeR rs lot := by
  have t := grd_is L.nn lot
  constructor
  · intro h
    have := t.fr
    rw [t.sub.eq_of_length h] at this
    exact this
  · intro h
    exact Nat.le_antisymm t.sub.length_le (grd_most L nl nl (fun x hx => hx) h)
theorem erase_mem {lot : List Str} (nl : lot.Nodup) {k : Nat} (hk : k < lot.length) {x : Str} (hx : x ∈ lot) (ne : x ≠ lot[k]) : x ∈ lot.eraseIdx k := by
  have := (perm_erase hk).mem_iff.mp hx
  rcases List.mem_cons.mp this with e | e
  · exact absurd e ne
  · exact e
/-- a lot that is not free: the most of those with a thing less -/
theorem grd_less {th : List Str} {rs : List (List Str × Int)} (L : LR th rs) {lot : List Str} (nl : lot.Nodup) (nf : ¬ FreeR rs lot) :
    (∀ k, k < lot.length → (grd rs (lot.eraseIdx k)).length ≤ (grd rs lot).length) ∧ ∃ k, k < lot.length ∧ (grd rs (lot.eraseIdx k)).length = (grd rs lot).length := by
  have t := grd_is L.nn lot
  have up : ∀ k, k < lot.length → (grd rs (lot.eraseIdx k)).length ≤ (grd rs lot).length := fun k hk => by
    have tk := grd_is L.nn (lot.eraseIdx k)
    have s := tk.sub.trans (List.eraseIdx_sublist lot k)
    exact grd_most L nl (s.nodup nl) (fun x hx => s.subset hx) tk.fr
  refine ⟨up, ?_⟩
  have hx : ∃ x ∈ lot, x ∉ grd rs lot := Classical.byContradiction fun z => by
    have hle : lot.length ≤ (grd rs lot).length := nodup_len nl fun x hx => Classical.byContradiction fun w => z ⟨x, hx, w⟩
    exact nf ((grd_all L nl).mp (Nat.le_antisymm t.sub.length_le hle))
  obtain ⟨x, hx, hn⟩ := hx
  obtain ⟨k, hk, rfl⟩ := List.mem_iff_getElem.mp hx
  refine ⟨k, hk, Nat.le_antisymm (up k hk) ?_⟩
  exact grd_most L ((List.eraseIdx_sublist lot k).nodup nl) (t.sub.nodup nl) (fun y hy => erase_mem nl hk (t.sub.subset hy) fun e => hn (e ▸ hy)) t.fr
end Dz
namespace Dz
open PySem PySem.Spec PyProof.Rows L2 Evl Bf
theorem seqI {φ ψ : DS} {E : DE} {ρ : Ro} (h : φ { E with nx := ψ E } ρ) : sSeq φ ψ E ρ := h
theorem LR.rm {th : List Str} {rs : List (List Str × Int)} (h : LR th rs) : ∀ r ∈ rs, RmOk th r := fun r hr => ⟨h.nd r hr, h.sub r hr, h.nn r hr⟩
theorem nc_first {rs : List (List Str × Int)} (h : ∀ r ∈ rs, ∀ s ∈ rs, crossB r.1 s.1 = false) : firstCross rs = none := by
  unfold firstCross
  rw [first_none fun i hi => ?_]
  · rfl
  · rw [first_none fun j hj => ?_]
    · rfl
    · unfold crossAt
      rw [getD_of (List.getElem?_eq_getElem hi), getD_of (List.getElem?_eq_getElem hj), h _ (List.getElem_mem hi) _ (List.getElem_mem hj), Bool.and_false]
theorem good_okS {th : List Str} (g : Good th) : okS th := ⟨by have := g.l9; omega, fun x hx => (Bf.nm_ok (g.nm x hx).nm).2⟩
theorem rm_okS {th : List Str} {r : List Str × Int} (g : Good th) (h : RmOk th r) : okS r.1 := ⟨by have := rm_len h; have := g.l9; omega, fun x hx => (good_okS g).2 x (h.sub x hx)⟩
theorem srt_okS {xs : List Str} (h : okS xs) : okS (srt xs) := ⟨by rw [srt_len]; exact h.1, fun x hx => h.2 x ((srt_perm xs).mem_iff.mp hx)⟩
theorem srtR_okR {th : List Str} {rs : List (List Str × Int)} (g : Good th) (h : ∀ r ∈ rs, RmOk th r) (l : rs.length ≤ 1000) : okR (rs.map srtR) := ⟨by rw [List.length_map]; exact l, fun r hr => by
  obtain ⟨r', hr2, rfl⟩ := List.mem_map.mp hr
  exact srt_okS (rm_okS g (h r' hr2))⟩
theorem ok_roomsL {rs : List (List Str × Int)} (h : okR rs) : (D.lst (rs.map roomL)).okE 64 = true := okE_up (by decide : 3 ≤ 64) _ (ok_lst fun d hd => by
  obtain ⟨r, hr, rfl⟩ := List.mem_map.mp hd
  refine ok_tup fun x hx => ?_
  rcases List.mem_cons.mp hx with rfl | hx
  · exact ok_lstS (h.2 r hr)
  · rw [List.mem_singleton.mp hx]; rfl)
theorem eq_nilR {neg : Bool} {rs : List (List Str × Int)} (h : okR rs) : dEq neg (.lst (rs.map roomL)) (.lst []) = some (.bl (neg != decide (rs = []))) :=
  eq_of (ok_roomsL h) rfl ⟨fun z => by rw [of_decide_eq_true z]; rfl, fun z => decide_eq_true (List.map_eq_nil_iff.mp (D.lst.inj z))⟩
/-! ### the law's lots -/
theorem lots_sub (th : List Str) : ∀ (acc : List (List Str)) (pre : List Str), (∀ l ∈ acc, l.Sublist pre) → ∀ l ∈ th.foldl (fun acc x => acc ++ acc.map (· ++ [x])) acc, l.Sublist (pre ++ th) := by
  induction th with
  | nil => intro acc pre h l hl; rw [List.append_nil]; exact h l hl
  | cons x th ih =>
    intro acc pre h l hl
    rw [List.foldl_cons] at hl
    have := ih _ (pre ++ [x]) (fun l hl => ?_) l hl
    · rw [List.append_assoc] at this
      exact this
    · rcases List.mem_append.mp hl with hl | hl
      · exact (h l hl).trans (List.sublist_append_left _ _)
      · obtain ⟨m, hm, rfl⟩ := List.mem_map.mp hl
        exact (h m hm).append (List.Sublist.refl [x])
theorem lot_sub {th l : List Str} (h : l ∈ lotsL th) : l.Sublist th := by
  have := lots_sub th [[]] [] (fun l hl => by rw [List.mem_singleton.mp hl]; exact List.Sublist.refl _) l h
  rw [List.nil_append] at this
  exact this
theorem lots_before (th : List Str) : ∀ (acc : List (List Str)), (∀ i l, acc[i]? = some l → ∀ k, k < l.length → l.eraseIdx k ∈ acc.take i) → ∀ i l, (th.foldl (fun acc x => acc ++ acc.map (· ++ [x])) acc)[i]? = some l → ∀ k, k < l.length → l.eraseIdx k ∈ (th.foldl (fun acc x => acc ++ acc.map (· ++ [x])) acc).take i := by
  induction th with
  | nil => intro acc h; exact h
  | cons x th ih =>
    intro acc h
    rw [List.foldl_cons]
    refine ih _ fun i l hl k hk => ?_
    by_cases c : i < acc.length
    · rw [List.getElem?_append_left c] at hl
      rw [List.take_append_of_le_length (by omega)]
      exact h i l hl k hk
    · rw [List.getElem?_append_right (by omega), List.getElem?_map] at hl
      cases e : acc[i - acc.length]? with
      | none => rw [e] at hl; cases hl
      | some m =>
        rw [e] at hl
        have hl : m ++ [x] = l := Option.some.inj hl
        subst hl
        rw [List.take_append, List.take_of_length_le (by omega)]
        rw [List.length_append] at hk
        by_cases ck : k < m.length
        · rw [List.eraseIdx_append_of_lt_length ck]
          refine List.mem_append_right _ ?_
          rw [← List.map_take]
          exact List.mem_map.mpr ⟨_, h _ m e k ck, rfl⟩
        · have : k = m.length := by have : k < m.length + 1 := hk; omega
          subst this
          rw [List.eraseIdx_append_of_length_le (Nat.le_refl _), Nat.sub_self]
          show m ++ [] ∈ _
          rw [List.append_nil]
          exact List.mem_append_left _ (List.mem_of_getElem? e)
theorem lot_before {th l : List Str} {i : Nat} (h : (lotsL th)[i]? = some l) {k : Nat} (hk : k < l.length) : l.eraseIdx k ∈ (lotsL th).take i := by
  refine lots_before th [[]] (fun i l hl k hk => ?_) i l h k hk
  have := List.mem_singleton.mp (List.mem_of_getElem? hl)
  subst this
  exact absurd hk (Nat.not_lt_zero _)
/-! ### sorted rooms are the same rooms -/
theorem share_srt (xs a : List Str) : shareL xs (srt a) = shareL xs a := by
  unfold shareL
  congr 1
  funext x
  exact decide_eq_decide.mpr (srt_perm a).mem_iff
theorem getD_srt (rs : List (List Str × Int)) (i : Nat) : (rs.map srtR).getD i ([], 0) = srtR (rs.getD i ([], 0)) := by
  simp only [List.getD, List.getElem?_map]
  cases rs[i]? with
  | none => exact Prod.ext (List.eq_nil_of_length_eq_zero (srt_len [])).symm rfl
  | some r => rfl
theorem over_srt (rs : List (List Str × Int)) (xs : List Str) : overOf (rs.map srtR) xs = overOf rs xs := by
  unfold overOf
  rw [List.length_map]
  congr 1
  funext i
  unfold overAt
  rw [getD_srt]
  show decide ((rs.getD i ([], 0)).2 < ((shareL xs (srt (rs.getD i ([], 0)).1)).length : Int)) = _
  rw [share_srt]
theorem grd_srt (rs : List (List Str × Int)) (xs : List Str) : grd (rs.map srtR) xs = grd rs xs := by
  unfold grd
  have : grdS (rs.map srtR) = grdS rs := by
    funext f x
    unfold grdS
    rw [over_srt]
  rw [this]
theorem tight_srt (rs : List (List Str × Int)) (xs : List Str) : tightL (rs.map srtR) xs = tightL rs xs := by
  unfold tightL
  rw [List.length_map]
  refine List.filter_congr fun i _ => ?_
  rw [getD_srt]
  show decide (((shareL xs (srt (rs.getD i ([], 0)).1)).length : Int) = (rs.getD i ([], 0)).2) = _
  rw [share_srt]
theorem srt_of_sub {th l : List Str} (so : srt th = th) (h : l.Sublist th) : srt l = l := by
  refine (srt_perm l).eq_of_pairwise (fun a b _ _ h1 h2 => leS_antisymm h1 h2) (srt_pw l) ?_
  have := srt_pw th
  rw [so] at this
  exact this.sublist h
/-! ### the law's dict -/
theorem val_put_ne {κ : Type} [DecidableEq κ] {kvs : List (κ × V)} {k k' : κ} {v : V} (h : k' ≠ k) : valV (putK kvs k v) k' = valV kvs k' := by
  unfold putK
  split
  · unfold valV
    induction kvs with
    | nil => rfl
    | cons p r ih =>
      rw [List.map_cons, List.find?_cons, List.find?_cons]
      by_cases c : p.1 = k
      · have : p.1 ≠ k' := fun z => h (z ▸ c)
        have e : k ≠ k' := fun z => h z.symm
        simp only [c, if_true, decide_eq_false e]
        by_cases hr : (r.any fun kv => decide (kv.1 = k)) = true
        · exact ih hr
        · have er : r.map (fun kv => if kv.1 = k then (kv.1, v) else kv) = r := by
            conv => rhs; rw [← List.map_id r]
            refine List.map_congr_left fun q hq => ?_
            rw [if_neg fun z => hr (List.any_eq_true.mpr ⟨q, hq, decide_eq_true z⟩)]
            rfl
          rw [er]
      · simp only [c, if_false]
        split
        · rfl
        · rename_i ha _
          by_cases hr : (r.any fun kv => decide (kv.1 = k)) = true
          · exact ih hr
          · have er : r.map (fun kv => if kv.1 = k then (kv.1, v) else kv) = r := by
              conv => rhs; rw [← List.map_id r]
              refine List.map_congr_left fun q hq => ?_
              rw [if_neg fun z => hr (List.any_eq_true.mpr ⟨q, hq, decide_eq_true z⟩)]
              rfl
            rw [er]
  · unfold valV
    rw [List.find?_append]
    have : decide (k = k') = false := decide_eq_false fun z => h z.symm
    simp [List.find?_cons, this]
theorem put_len {κ : Type} [DecidableEq κ] (kvs : List (κ × V)) (k : κ) (v : V) : (putK kvs k v).length ≤ kvs.length + 1 := by
  unfold putK
  split
  · rw [List.length_map]; exact Nat.le_succ _
  · rw [List.length_append]; exact Nat.le_refl _
def F_Law : DF := fun ds A _ => ∃ ns, ds = [.scr ns] ∧ A (.bl true)
end Dz
namespace Dz
open PySem PySem.Spec PyProof.Rows L2 Evl Bf
theorem ite_k {K : Option D → Prop} {b : Bool} {x : D} (h : K (if b = true then some x else none)) : if b = true then K (some x) else K none := by cases b <;> exact h
theorem lc_rngM {ρ : Ro} {vs : List Nat} {g : DG} {e : DX} {Q : List D → Prop} {n : Nat} (f : Nat → D) (h : ∀ i, i < n → ∀ K : D → Prop, K (f i) → g (.int (i : Nat)) (wipeR ρ vs) fun ρ' => e ρ' K fun _ => False) (q : Q ((List.range n).map f)) : lcL ρ vs g tYesD e (rng 0 (n : Int)) [] Q := by
  have e : rng 0 (n : Int) = (List.range n).map fun i => D.int (i : Nat) := by
    unfold rng
    rw [show ((n : Int) - 0).toNat = n by omega]
    refine List.map_congr_left fun i _ => ?_
    rw [Int.zero_add]
  rw [e]
  exact lc_mapT (fun i => D.int (i : Nat)) f _ (fun i hi K k => h i (List.mem_range.mp hi) K k) q
theorem max_of {n : Nat} {f : Nat → Int} {m : Int} (h1 : ∀ k, k < n → f k ≤ m) (h2 : ∃ k, k < n ∧ f k = m) : dMaxL [.lst ((List.range n).map fun k => .int (f k))] = some (.int m) := by
  have e : ((List.range n).map fun k => D.int (f k)) = ((List.range n).map f).map D.int := by rw [List.map_map]; rfl
  obtain ⟨k, hk, e2⟩ := h2
  have mem : m ∈ (List.range n).map f := List.mem_map.mpr ⟨k, List.mem_range.mpr hk, e2⟩
  have ne : (List.range n).map f ≠ [] := List.ne_nil_of_mem mem
  unfold dMaxL
  rw [e]
  simp only [ints_map]
  rw [if_neg ne]
  congr 2
  refine Int.le_antisymm ?_ (maxL_le mem)
  obtain ⟨j, hj, e3⟩ := List.mem_map.mp (maxL_mem ne)
  rw [← e3]
  exact h1 j (List.mem_range.mp hj)
theorem n_Law (ds : List D) (A : D → Prop) (Ax : XQ) (h : F_Law ds A Ax) : fnD 0 17 1 r_Law ds A Ax := by
  obtain ⟨ns, rfl, q⟩ := h
  have B1 : 1 ≤ big := (by decide : 1 ≤ 100000)
  have B2 : 2 ≤ big := (by decide : 2 ≤ 100000)
  have B0 : 0 ≤ big := (by decide : 0 ≤ 100000)
  refine ⟨rfl, ?_⟩
  unfold r_Law
  refine seqI ?_
  simp only [fnD, iniD, startD, sNil, sIf, sRet, sSet, sSetO, sExpr, sApp, sPut, sClr, sExt, sIns, sRaise, sRaise2, sAsg, sFor, sSetM, sAppM, sFld', xPopAt, xPop, xVar, xC, xOp1, xOp2, xNeg, xAnd, xOr, xNot, xIf, xB, xFn, xTup, xLst, xFld, xDGet, xDIn, xSl, xChain, oNone, oSome, aNil, aCons, tB', tAnd', tOr', tNot', tYesD, gN, gT, gsN, gsC, iLst, iTupD, iRg1, iRg2, iEnm, iTxt, List.map_cons, List.map_nil, List.length_cons, List.length_nil, List.replicate, List.replicate_succ, List.replicate_zero, List.cons_append, List.nil_append, List.set_cons_zero, List.set_cons_succ, List.getElem?_cons_zero, List.getElem?_cons_succ, Option.some.injEq, D.int.injEq, D.str.injEq, D.bl.injEq, D.lst.injEq, D.tup.injEq, D.dic.injEq, D.ins.injEq, exists_eq_left, exists_eq_left', exists_eq_right, exists_eq_right', exists_and_left, and_true, true_and, Nat.reduceAdd, Nat.reduceSub, Nat.reduceLT, Nat.reduceEqDiff, Nat.add_one_sub_one, Nat.sub_zero, if_true, if_false, Bool.false_eq_true, reduceIte, wipeR, List.cons.injEq, Nat.zero_add, reduceCtorEq, false_and, exists_false, Bool.false_bne, Bool.true_bne, len_lst, len_tup, len_scr, in_lst, in_tup, dKey_str, dKey_int, and_assoc, eq_int, dSub, dLt, dLe, dGt, dGe, isNonD, dIs, dMin, dMax, xMeth, xMeth0, xEqO, xXf, sTry, catchD, offD, add_int, dList, dTuple, xFlt, xFltC, xFltX, xFltCX, xX, sAppP, sClrP, sFldP, sPutP, pVar, pIx, pFld, id, xDisp, pairsD, xNames, xMethF, xMeth0F, aStar, xTGet, xTIn, sPutT, sRaise0, sTryM, catchM, emEq, tKey_strs, famNs, Option.isSome_some, iSqV]
  refine ⟨ns, rfl, ?_⟩
  refine seqI ?_
  simp only [fnD, iniD, startD, sNil, sIf, sRet, sSet, sSetO, sExpr, sApp, sPut, sClr, sExt, sIns, sRaise, sRaise2, sAsg, sFor, sSetM, sAppM, sFld', xPopAt, xPop, xVar, xC, xOp1, xOp2, xNeg, xAnd, xOr, xNot, xIf, xB, xFn, xTup, xLst, xFld, xDGet, xDIn, xSl, xChain, oNone, oSome, aNil, aCons, tB', tAnd', tOr', tNot', tYesD, gN, gT, gsN, gsC, iLst, iTupD, iRg1, iRg2, iEnm, iTxt, List.map_cons, List.map_nil, List.length_cons, List.length_nil, List.replicate, List.replicate_succ, List.replicate_zero, List.cons_append, List.nil_append, List.set_cons_zero, List.set_cons_succ, List.getElem?_cons_zero, List.getElem?_cons_succ, Option.some.injEq, D.int.injEq, D.str.injEq, D.bl.injEq, D.lst.injEq, D.tup.injEq, D.dic.injEq, D.ins.injEq, exists_eq_left, exists_eq_left', exists_eq_right, exists_eq_right', exists_and_left, and_true, true_and, Nat.reduceAdd, Nat.reduceSub, Nat.reduceLT, Nat.reduceEqDiff, Nat.add_one_sub_one, Nat.sub_zero, if_true, if_false, Bool.false_eq_true, reduceIte, wipeR, List.cons.injEq, Nat.zero_add, reduceCtorEq, false_and, exists_false, Bool.false_bne, Bool.true_bne, len_lst, len_tup, len_scr, in_lst, in_tup, dKey_str, dKey_int, and_assoc, eq_int, dSub, dLt, dLe, dGt, dGe, isNonD, dIs, dMin, dMax, xMeth, xMeth0, xEqO, xXf, sTry, catchD, offD, add_int, dList, dTuple, xFlt, xFltC, xFltX, xFltCX, xX, sAppP, sClrP, sFldP, sPutP, pVar, pIx, pFld, id, xDisp, pairsD, xNames, xMethF, xMeth0F, aStar, xTGet, xTIn, sPutT, sRaise0, sTryM, catchM, emEq, tKey_strs, famNs, Option.isSome_some, iSqV]
  refine ⟨6, rfl, by decide, by decide, fun d hd => ?_⟩
  have e1 : D.int (1 + (d : Int)) = D.int ((d + 1 : Nat) : Int) := by congr 1; omega
  refine ⟨_, rfl, d + 1, by rw [e1], by omega, fun th t1 t2 t3 t4 => ?_⟩
  have g : Good th := ⟨t2, t3, t4, by omega, by omega⟩
  have okt := good_okS g
  refine seqI ?_
  simp only [fnD, iniD, startD, sNil, sIf, sRet, sSet, sSetO, sExpr, sApp, sPut, sClr, sExt, sIns, sRaise, sRaise2, sAsg, sFor, sSetM, sAppM, sFld', xPopAt, xPop, xVar, xC, xOp1, xOp2, xNeg, xAnd, xOr, xNot, xIf, xB, xFn, xTup, xLst, xFld, xDGet, xDIn, xSl, xChain, oNone, oSome, aNil, aCons, tB', tAnd', tOr', tNot', tYesD, gN, gT, gsN, gsC, iLst, iTupD, iRg1, iRg2, iEnm, iTxt, List.map_cons, List.map_nil, List.length_cons, List.length_nil, List.replicate, List.replicate_succ, List.replicate_zero, List.cons_append, List.nil_append, List.set_cons_zero, List.set_cons_succ, List.getElem?_cons_zero, List.getElem?_cons_succ, Option.some.injEq, D.int.injEq, D.str.injEq, D.bl.injEq, D.lst.injEq, D.tup.injEq, D.dic.injEq, D.ins.injEq, exists_eq_left, exists_eq_left', exists_eq_right, exists_eq_right', exists_and_left, and_true, true_and, Nat.reduceAdd, Nat.reduceSub, Nat.reduceLT, Nat.reduceEqDiff, Nat.add_one_sub_one, Nat.sub_zero, if_true, if_false, Bool.false_eq_true, reduceIte, wipeR, List.cons.injEq, Nat.zero_add, reduceCtorEq, false_and, exists_false, Bool.false_bne, Bool.true_bne, len_lst, len_tup, len_scr, in_lst, in_tup, dKey_str, dKey_int, and_assoc, eq_int, dSub, dLt, dLe, dGt, dGe, isNonD, dIs, dMin, dMax, xMeth, xMeth0, xEqO, xXf, sTry, catchD, offD, add_int, dList, dTuple, xFlt, xFltC, xFltX, xFltCX, xX, sAppP, sClrP, sFldP, sPutP, pVar, pIx, pFld, id, xDisp, pairsD, xNames, xMethF, xMeth0F, aStar, xTGet, xTIn, sPutT, sRaise0, sTryM, catchM, emEq, tKey_strs, famNs, Option.isSome_some, iSqV]
  refine ⟨th, 2, rfl, by decide, t2, by omega, by decide, okt.2, fun rs0 hL0 hlen0 => ?_⟩
  have rl0 : rs0.length ≤ 18 := by have : (2 + 1) * th.length ≤ 3 * 6 := Nat.mul_le_mul (by decide) (by omega); omega
  have okr0 : okR rs0 := ⟨by omega, fun r hr => rm_okS g (hL0.rm r hr)⟩
  refine seqI ?_
  simp only [fnD, iniD, startD, sNil, sIf, sRet, sSet, sSetO, sExpr, sApp, sPut, sClr, sExt, sIns, sRaise, sRaise2, sAsg, sFor, sSetM, sAppM, sFld', xPopAt, xPop, xVar, xC, xOp1, xOp2, xNeg, xAnd, xOr, xNot, xIf, xB, xFn, xTup, xLst, xFld, xDGet, xDIn, xSl, xChain, oNone, oSome, aNil, aCons, tB', tAnd', tOr', tNot', tYesD, gN, gT, gsN, gsC, iLst, iTupD, iRg1, iRg2, iEnm, iTxt, List.map_cons, List.map_nil, List.length_cons, List.length_nil, List.replicate, List.replicate_succ, List.replicate_zero, List.cons_append, List.nil_append, List.set_cons_zero, List.set_cons_succ, List.getElem?_cons_zero, List.getElem?_cons_succ, Option.some.injEq, D.int.injEq, D.str.injEq, D.bl.injEq, D.lst.injEq, D.tup.injEq, D.dic.injEq, D.ins.injEq, exists_eq_left, exists_eq_left', exists_eq_right, exists_eq_right', exists_and_left, and_true, true_and, Nat.reduceAdd, Nat.reduceSub, Nat.reduceLT, Nat.reduceEqDiff, Nat.add_one_sub_one, Nat.sub_zero, if_true, if_false, Bool.false_eq_true, reduceIte, wipeR, List.cons.injEq, Nat.zero_add, reduceCtorEq, false_and, exists_false, Bool.false_bne, Bool.true_bne, len_lst, len_tup, len_scr, in_lst, in_tup, dKey_str, dKey_int, and_assoc, eq_int, dSub, dLt, dLe, dGt, dGe, isNonD, dIs, dMin, dMax, xMeth, xMeth0, xEqO, xXf, sTry, catchD, offD, add_int, dList, dTuple, xFlt, xFltC, xFltX, xFltCX, xX, sAppP, sClrP, sFldP, sPutP, pVar, pIx, pFld, id, xDisp, pairsD, xNames, xMethF, xMeth0F, aStar, xTGet, xTIn, sPutT, sRaise0, sTryM, catchM, emEq, tKey_strs, famNs, Option.isSome_some, iSqV]
  apply viaF (R := fun rs : List (List Str × Int) => LR th rs ∧ rs.length ≤ 19)
  · intro key
    refine ⟨2, rfl, by decide, by decide, fun e he => ?_⟩
    refine ⟨_, eq_int false _ _, _, rfl, ?_⟩
    have stay : LR th rs0 ∧ rs0.length ≤ 19 := ⟨hL0, by omega⟩
    by_cases c1 : (e : Int) = 0
    · rw [if_pos (by rw [decide_eq_true c1]; rfl)]
      refine ⟨B0, _, eq_nilR okr0, _, rfl, ?_⟩
      by_cases c2 : rs0 = []
      · rw [if_neg (by rw [decide_eq_true c2]; decide)]
        generalize hz : rs0 = rs at stay
        exact key rs stay
      · rw [if_pos (by rw [decide_eq_false c2]; rfl)]
        obtain ⟨r, hr⟩ : ∃ r, rs0[rs0.length - 1]? = some r := ⟨_, List.getElem?_eq_getElem (by have := List.length_pos_iff.mpr c2; omega)⟩
        have hm : r ∈ rs0 := List.mem_of_getElem? hr
        have p0 := List.length_pos_iff.mpr c2
        have hix : dIx (.lst (rs0.map roomL)) (.int (-1)) = some (roomL r) := by
          show atI (rs0.map roomL) (-1) = _
          unfold atI ixN
          rw [List.length_map, if_neg (by decide), if_pos (by omega), Option.bind_some, show (-1 + (rs0.length : Int)).toNat = rs0.length - 1 by omega, List.getElem?_map, hr]
          rfl
        refine ⟨by rw [List.length_map]; show _ < 100000; omega, _, hix, _, ix_tup' (i := 0) rfl, 3, rfl, by decide, by decide, fun c hc => ⟨B2, 0, rfl, by decide, ?_⟩⟩
        have hz : (rs0.map roomL).take 0 ++ [D.tup [lstS r.1, .int (c : Nat)]] ++ (rs0.map roomL).drop 0 = ((r.1, (c : Int)) :: rs0).map roomL := rfl
        rw [hz]
        refine key _ ⟨⟨fun s hs x hx => ?_, fun s hs => ?_, fun s hs => ?_, fun s hs t ht => ?_⟩, by rw [List.length_cons]; omega⟩
        · rcases List.mem_cons.mp hs with rfl | hs
          · exact hL0.sub r hm x hx
          · exact hL0.sub s hs x hx
        · rcases List.mem_cons.mp hs with rfl | hs
          · exact hL0.nd r hm
          · exact hL0.nd s hs
        · rcases List.mem_cons.mp hs with rfl | hs
          · exact Int.natCast_nonneg c
          · exact hL0.nn s hs
        · have cl : ∀ s ∈ (r.1, (c : Int)) :: rs0, ∃ s' ∈ rs0, s.1 = s'.1 := fun s hs => by
            rcases List.mem_cons.mp hs with rfl | hs
            · exact ⟨r, hm, rfl⟩
            · exact ⟨s, hs, rfl⟩
          obtain ⟨s', hs', es⟩ := cl s hs
          obtain ⟨t', ht', et⟩ := cl t ht
          rw [es, et]
          exact hL0.nc s' hs' t' ht'
    · rw [if_neg (by rw [decide_eq_false c1]; decide)]
      generalize hz : rs0 = rs at stay
      exact key rs stay
  rintro rs ⟨hL, rl⟩
  have hR := hL.rm
  have okr : okR rs := ⟨by omega, fun r hr => rm_okS g (hR r hr)⟩
  refine seqI ?_
  simp only [fnD, iniD, startD, sNil, sIf, sRet, sSet, sSetO, sExpr, sApp, sPut, sClr, sExt, sIns, sRaise, sRaise2, sAsg, sFor, sSetM, sAppM, sFld', xPopAt, xPop, xVar, xC, xOp1, xOp2, xNeg, xAnd, xOr, xNot, xIf, xB, xFn, xTup, xLst, xFld, xDGet, xDIn, xSl, xChain, oNone, oSome, aNil, aCons, tB', tAnd', tOr', tNot', tYesD, gN, gT, gsN, gsC, iLst, iTupD, iRg1, iRg2, iEnm, iTxt, List.map_cons, List.map_nil, List.length_cons, List.length_nil, List.replicate, List.replicate_succ, List.replicate_zero, List.cons_append, List.nil_append, List.set_cons_zero, List.set_cons_succ, List.getElem?_cons_zero, List.getElem?_cons_succ, Option.some.injEq, D.int.injEq, D.str.injEq, D.bl.injEq, D.lst.injEq, D.tup.injEq, D.dic.injEq, D.ins.injEq, exists_eq_left, exists_eq_left', exists_eq_right, exists_eq_right', exists_and_left, and_true, true_and, Nat.reduceAdd, Nat.reduceSub, Nat.reduceLT, Nat.reduceEqDiff, Nat.add_one_sub_one, Nat.sub_zero, if_true, if_false, Bool.false_eq_true, reduceIte, wipeR, List.cons.injEq, Nat.zero_add, reduceCtorEq, false_and, exists_false, Bool.false_bne, Bool.true_bne, len_lst, len_tup, len_scr, in_lst, in_tup, dKey_str, dKey_int, and_assoc, eq_int, dSub, dLt, dLe, dGt, dGe, isNonD, dIs, dMin, dMax, xMeth, xMeth0, xEqO, xXf, sTry, catchD, offD, add_int, dList, dTuple, xFlt, xFltC, xFltX, xFltCX, xX, sAppP, sClrP, sFldP, sPutP, pVar, pIx, pFld, id, xDisp, pairsD, xNames, xMethF, xMeth0F, aStar, xTGet, xTIn, sPutT, sRaise0, sTryM, catchM, emEq, tKey_strs, famNs, Option.isSome_some, iSqV]
  refine ⟨_, _, rfl, initA_ok g (List.Perm.refl th) hR (by omega), ?_⟩
  have ec : cinitR (th.map D.str) (rs.map roomL) = .made th (rs.map srtR) := by
    have := cinit_ok g (List.Perm.refl th) hR (by omega)
    rw [nc_first hL.nc] at this
    exact this
  rw [ec]
  simp only [CR.run]
  refine seqI ?_
  simp only [fnD, iniD, startD, sNil, sIf, sRet, sSet, sSetO, sExpr, sApp, sPut, sClr, sExt, sIns, sRaise, sRaise2, sAsg, sFor, sSetM, sAppM, sFld', xPopAt, xPop, xVar, xC, xOp1, xOp2, xNeg, xAnd, xOr, xNot, xIf, xB, xFn, xTup, xLst, xFld, xDGet, xDIn, xSl, xChain, oNone, oSome, aNil, aCons, tB', tAnd', tOr', tNot', tYesD, gN, gT, gsN, gsC, iLst, iTupD, iRg1, iRg2, iEnm, iTxt, List.map_cons, List.map_nil, List.length_cons, List.length_nil, List.replicate, List.replicate_succ, List.replicate_zero, List.cons_append, List.nil_append, List.set_cons_zero, List.set_cons_succ, List.getElem?_cons_zero, List.getElem?_cons_succ, Option.some.injEq, D.int.injEq, D.str.injEq, D.bl.injEq, D.lst.injEq, D.tup.injEq, D.dic.injEq, D.ins.injEq, exists_eq_left, exists_eq_left', exists_eq_right, exists_eq_right', exists_and_left, and_true, true_and, Nat.reduceAdd, Nat.reduceSub, Nat.reduceLT, Nat.reduceEqDiff, Nat.add_one_sub_one, Nat.sub_zero, if_true, if_false, Bool.false_eq_true, reduceIte, wipeR, List.cons.injEq, Nat.zero_add, reduceCtorEq, false_and, exists_false, Bool.false_bne, Bool.true_bne, len_lst, len_tup, len_scr, in_lst, in_tup, dKey_str, dKey_int, and_assoc, eq_int, dSub, dLt, dLe, dGt, dGe, isNonD, dIs, dMin, dMax, xMeth, xMeth0, xEqO, xXf, sTry, catchD, offD, add_int, dList, dTuple, xFlt, xFltC, xFltX, xFltCX, xX, sAppP, sClrP, sFldP, sPutP, pVar, pIx, pFld, id, xDisp, pairsD, xNames, xMethF, xMeth0F, aStar, xTGet, xTIn, sPutT, sRaise0, sTryM, catchM, emEq, tKey_strs, famNs, Option.isSome_some, iSqV]
  refine ⟨th, rs.map srtR, rfl, okt, by omega, fun gh hgh => ?_⟩
  have tok : ThOk th := ⟨t2, t4⟩
  refine seqI ?_
  simp only [fnD, iniD, startD, sNil, sIf, sRet, sSet, sSetO, sExpr, sApp, sPut, sClr, sExt, sIns, sRaise, sRaise2, sAsg, sFor, sSetM, sAppM, sFld', xPopAt, xPop, xVar, xC, xOp1, xOp2, xNeg, xAnd, xOr, xNot, xIf, xB, xFn, xTup, xLst, xFld, xDGet, xDIn, xSl, xChain, oNone, oSome, aNil, aCons, tB', tAnd', tOr', tNot', tYesD, gN, gT, gsN, gsC, iLst, iTupD, iRg1, iRg2, iEnm, iTxt, List.map_cons, List.map_nil, List.length_cons, List.length_nil, List.replicate, List.replicate_succ, List.replicate_zero, List.cons_append, List.nil_append, List.set_cons_zero, List.set_cons_succ, List.getElem?_cons_zero, List.getElem?_cons_succ, Option.some.injEq, D.int.injEq, D.str.injEq, D.bl.injEq, D.lst.injEq, D.tup.injEq, D.dic.injEq, D.ins.injEq, exists_eq_left, exists_eq_left', exists_eq_right, exists_eq_right', exists_and_left, and_true, true_and, Nat.reduceAdd, Nat.reduceSub, Nat.reduceLT, Nat.reduceEqDiff, Nat.add_one_sub_one, Nat.sub_zero, if_true, if_false, Bool.false_eq_true, reduceIte, wipeR, List.cons.injEq, Nat.zero_add, reduceCtorEq, false_and, exists_false, Bool.false_bne, Bool.true_bne, len_lst, len_tup, len_scr, in_lst, in_tup, dKey_str, dKey_int, and_assoc, eq_int, dSub, dLt, dLe, dGt, dGe, isNonD, dIs, dMin, dMax, xMeth, xMeth0, xEqO, xXf, sTry, catchD, offD, add_int, dList, dTuple, xFlt, xFltC, xFltX, xFltCX, xX, sAppP, sClrP, sFldP, sPutP, pVar, pIx, pFld, id, xDisp, pairsD, xNames, xMethF, xMeth0F, aStar, xTGet, xTIn, sPutT, sRaise0, sTryM, catchM, emEq, tKey_strs, famNs, Option.isSome_some, iSqV]
  refine seqI ?_
  simp only [sFor, iLst, xFn, aCons, aNil, xVar, List.getElem?_cons_zero, List.getElem?_cons_succ, Option.some.injEq, exists_eq_left, exists_eq_left']
  refine ⟨th, rfl, by omega, _, rfl, ?_⟩
  have hfree : ∀ {lot : List Str}, lot ∈ lotsL th → lot.Nodup := fun h => (lot_sub h).nodup t2
  refine for_invT tupS (lotsL th) (fun i ρ => ∃ kvs c7 c8 c9 c10 c11, ρ = [some (.scr ns), some (.well 2), some (lstS th), some (.lst (rs.map roomL)), some (countsD th (rs.map srtR)), some (famC th (rs.map srtR) gh), some (.dit kvs), c7, c8, c9, c10, c11, none, none, none, none, none] ∧ kvs.length ≤ i ∧ ∀ L ∈ (lotsL th).take i, valV kvs (L.map Sum.inr) = some (.int ((grd rs L).length : Nat))) ⟨[], _, _, _, _, _, rfl, Nat.le_refl 0, fun L hL => by rw [List.take_zero] at hL; exact absurd hL List.not_mem_nil⟩ (fun i lot ρ N hlot p n => ?_) (fun ρ p => ?_)
  · obtain ⟨kvs, c7, c8, c9, c10, c11, rfl, hk, hv⟩ := p
    have hmem := List.mem_of_getElem? hlot
    have hsub := lot_sub hmem
    have hnd := hfree hmem
    have hll := hsub.length_le
    have hsrt := srt_of_sub t4 hsub
    have hil : i < 256 := by
      have h1 := (List.getElem?_eq_some_iff.mp hlot).1
      have h2 := lots_len th [[]]
      have h3 : 2 ^ th.length ≤ 2 ^ 6 := Nat.pow_le_pow_right (by decide) (by omega)
      have h4 : (lotsL th).length = 2 ^ th.length * 1 := h2
      omega
    simp only [gN, List.set_cons_zero, List.set_cons_succ]
    refine seqI ?_
    simp only [xLc, fnD, iniD, startD, sNil, sIf, sRet, sSet, sSetO, sExpr, sApp, sPut, sClr, sExt, sIns, sRaise, sRaise2, sAsg, sFor, sSetM, sAppM, sFld', xPopAt, xPop, xVar, xC, xOp1, xOp2, xNeg, xAnd, xOr, xNot, xIf, xB, xFn, xTup, xLst, xFld, xDGet, xDIn, xSl, xChain, oNone, oSome, aNil, aCons, tB', tAnd', tOr', tNot', tYesD, gN, gT, gsN, gsC, iLst, iTupD, iRg1, iRg2, iEnm, iTxt, List.map_cons, List.map_nil, List.length_cons, List.length_nil, List.replicate, List.replicate_succ, List.replicate_zero, List.cons_append, List.nil_append, List.set_cons_zero, List.set_cons_succ, List.getElem?_cons_zero, List.getElem?_cons_succ, Option.some.injEq, D.int.injEq, D.str.injEq, D.bl.injEq, D.lst.injEq, D.tup.injEq, D.dic.injEq, D.ins.injEq, exists_eq_left, exists_eq_left', exists_eq_right, exists_eq_right', exists_and_left, and_true, true_and, Nat.reduceAdd, Nat.reduceSub, Nat.reduceLT, Nat.reduceEqDiff, Nat.add_one_sub_one, Nat.sub_zero, if_true, if_false, Bool.false_eq_true, reduceIte, wipeR, List.cons.injEq, Nat.zero_add, reduceCtorEq, false_and, exists_false, Bool.false_bne, Bool.true_bne, len_lst, len_tup, len_scr, in_lst, in_tup, dKey_str, dKey_int, and_assoc, eq_int, dSub, dLt, dLe, dGt, dGe, isNonD, dIs, dMin, dMax, xMeth, xMeth0, xEqO, xXf, sTry, catchD, offD, add_int, dList, dTuple, xFlt, xFltC, xFltX, xFltCX, xX, sAppP, sClrP, sFldP, sPutP, pVar, pIx, pFld, id, xDisp, pairsD, xNames, xMethF, xMeth0F, aStar, xTGet, xTIn, sPutT, sRaise0, sTryM, catchM, emEq, tKey_strs, famNs, Option.isSome_some, iSqV]
    refine ⟨by rw [List.length_map]; show _ ≤ 100000; omega, ?_⟩
    refine lc_mapT roomL (fun r => .int (cnt lot r.1 : Nat)) rs (fun r hr K k => ?_) ?_
    · simp only [xLc, fnD, iniD, startD, sNil, sIf, sRet, sSet, sSetO, sExpr, sApp, sPut, sClr, sExt, sIns, sRaise, sRaise2, sAsg, sFor, sSetM, sAppM, sFld', xPopAt, xPop, xVar, xC, xOp1, xOp2, xNeg, xAnd, xOr, xNot, xIf, xB, xFn, xTup, xLst, xFld, xDGet, xDIn, xSl, xChain, oNone, oSome, aNil, aCons, tB', tAnd', tOr', tNot', tYesD, gN, gT, gsN, gsC, iLst, iTupD, iRg1, iRg2, iEnm, iTxt, List.map_cons, List.map_nil, List.length_cons, List.length_nil, List.replicate, List.replicate_succ, List.replicate_zero, List.cons_append, List.nil_append, List.set_cons_zero, List.set_cons_succ, List.getElem?_cons_zero, List.getElem?_cons_succ, Option.some.injEq, D.int.injEq, D.str.injEq, D.bl.injEq, D.lst.injEq, D.tup.injEq, D.dic.injEq, D.ins.injEq, exists_eq_left, exists_eq_left', exists_eq_right, exists_eq_right', exists_and_left, and_true, true_and, Nat.reduceAdd, Nat.reduceSub, Nat.reduceLT, Nat.reduceEqDiff, Nat.add_one_sub_one, Nat.sub_zero, if_true, if_false, Bool.false_eq_true, reduceIte, wipeR, List.cons.injEq, Nat.zero_add, reduceCtorEq, false_and, exists_false, Bool.false_bne, Bool.true_bne, len_lst, len_tup, len_scr, in_lst, in_tup, dKey_str, dKey_int, and_assoc, eq_int, dSub, dLt, dLe, dGt, dGe, isNonD, dIs, dMin, dMax, xMeth, xMeth0, xEqO, xXf, sTry, catchD, offD, add_int, dList, dTuple, xFlt, xFltC, xFltX, xFltCX, xX, sAppP, sClrP, sFldP, sPutP, pVar, pIx, pFld, id, xDisp, pairsD, xNames, xMethF, xMeth0F, aStar, xTGet, xTIn, sPutT, sRaise0, sTryM, catchM, emEq, tKey_strs, famNs, Option.isSome_some, iSqV, roomL]
      refine ⟨by rw [List.length_map]; show _ ≤ 100000; omega, ?_⟩
      refine lc_filT D.str (fun x => decide (x ∈ r.1)) D.str lot (fun x _ K' kk => ?_) ?_
      · simp only [fnD, iniD, startD, sNil, sIf, sRet, sSet, sSetO, sExpr, sApp, sPut, sClr, sExt, sIns, sRaise, sRaise2, sAsg, sFor, sSetM, sAppM, sFld', xPopAt, xPop, xVar, xC, xOp1, xOp2, xNeg, xAnd, xOr, xNot, xIf, xB, xFn, xTup, xLst, xFld, xDGet, xDIn, xSl, xChain, oNone, oSome, aNil, aCons, tB', tAnd', tOr', tNot', tYesD, gN, gT, gsN, gsC, iLst, iTupD, iRg1, iRg2, iEnm, iTxt, List.map_cons, List.map_nil, List.length_cons, List.length_nil, List.replicate, List.replicate_succ, List.replicate_zero, List.cons_append, List.nil_append, List.set_cons_zero, List.set_cons_succ, List.getElem?_cons_zero, List.getElem?_cons_succ, Option.some.injEq, D.int.injEq, D.str.injEq, D.bl.injEq, D.lst.injEq, D.tup.injEq, D.dic.injEq, D.ins.injEq, exists_eq_left, exists_eq_left', exists_eq_right, exists_eq_right', exists_and_left, and_true, true_and, Nat.reduceAdd, Nat.reduceSub, Nat.reduceLT, Nat.reduceEqDiff, Nat.add_one_sub_one, Nat.sub_zero, if_true, if_false, Bool.false_eq_true, reduceIte, wipeR, List.cons.injEq, Nat.zero_add, reduceCtorEq, false_and, exists_false, Bool.false_bne, Bool.true_bne, len_lst, len_tup, len_scr, in_lst, in_tup, dKey_str, dKey_int, and_assoc, eq_int, dSub, dLt, dLe, dGt, dGe, isNonD, dIs, dMin, dMax, xMeth, xMeth0, xEqO, xXf, sTry, catchD, offD, add_int, dList, dTuple, xFlt, xFltC, xFltX, xFltCX, xX, sAppP, sClrP, sFldP, sPutP, pVar, pIx, pFld, id, xDisp, pairsD, xNames, xMethF, xMeth0F, aStar, xTGet, xTIn, sPutT, sRaise0, sTryM, catchM, emEq, tKey_strs, famNs, Option.isSome_some, iSqV]
        by_cases c : x ∈ r.1
        · rw [if_pos (decide_eq_true c)] at kk ⊢
          exact kk
        · rw [if_neg (by rw [decide_eq_false c]; decide)] at kk ⊢
          exact kk
      · rw [List.length_map]
        exact k
    refine seqI ?_
    simp only [xLc, fnD, iniD, startD, sNil, sIf, sRet, sSet, sSetO, sExpr, sApp, sPut, sClr, sExt, sIns, sRaise, sRaise2, sAsg, sFor, sSetM, sAppM, sFld', xPopAt, xPop, xVar, xC, xOp1, xOp2, xNeg, xAnd, xOr, xNot, xIf, xB, xFn, xTup, xLst, xFld, xDGet, xDIn, xSl, xChain, oNone, oSome, aNil, aCons, tB', tAnd', tOr', tNot', tYesD, gN, gT, gsN, gsC, iLst, iTupD, iRg1, iRg2, iEnm, iTxt, List.map_cons, List.map_nil, List.length_cons, List.length_nil, List.replicate, List.replicate_succ, List.replicate_zero, List.cons_append, List.nil_append, List.set_cons_zero, List.set_cons_succ, List.getElem?_cons_zero, List.getElem?_cons_succ, Option.some.injEq, D.int.injEq, D.str.injEq, D.bl.injEq, D.lst.injEq, D.tup.injEq, D.dic.injEq, D.ins.injEq, exists_eq_left, exists_eq_left', exists_eq_right, exists_eq_right', exists_and_left, and_true, true_and, Nat.reduceAdd, Nat.reduceSub, Nat.reduceLT, Nat.reduceEqDiff, Nat.add_one_sub_one, Nat.sub_zero, if_true, if_false, Bool.false_eq_true, reduceIte, wipeR, List.cons.injEq, Nat.zero_add, reduceCtorEq, false_and, exists_false, Bool.false_bne, Bool.true_bne, len_lst, len_tup, len_scr, in_lst, in_tup, dKey_str, dKey_int, and_assoc, eq_int, dSub, dLt, dLe, dGt, dGe, isNonD, dIs, dMin, dMax, xMeth, xMeth0, xEqO, xXf, sTry, catchD, offD, add_int, dList, dTuple, xFlt, xFltC, xFltX, xFltCX, xX, sAppP, sClrP, sFldP, sPutP, pVar, pIx, pFld, id, xDisp, pairsD, xNames, xMethF, xMeth0F, aStar, xTGet, xTIn, sPutT, sRaise0, sTryM, catchM, emEq, tKey_strs, famNs, Option.isSome_some, iSqV]
    rw [List.length_map]
    have hmany : ∀ k (hk : k < rs.length), (rs.map fun r => D.int (cnt lot r.1 : Nat))[k]? = some (.int (cnt lot rs[k].1 : Nat)) := fun k hk => by rw [List.getElem?_map, List.getElem?_eq_getElem hk]; rfl
    have hroom : ∀ k (hk : k < rs.length), (rs.map roomL)[k]? = some (roomL rs[k]) := fun k hk => by rw [List.getElem?_map, List.getElem?_eq_getElem hk]; rfl
    refine ⟨by omega, by omega, by rw [rng_len]; show _ ≤ 100000; omega, ?_⟩
    refine lc_rngF (overAt rs lot) (fun i => .int (i : Nat)) (fun k hk K kk => ?_) ?_
    · simp only [fnD, iniD, startD, sNil, sIf, sRet, sSet, sSetO, sExpr, sApp, sPut, sClr, sExt, sIns, sRaise, sRaise2, sAsg, sFor, sSetM, sAppM, sFld', xPopAt, xPop, xVar, xC, xOp1, xOp2, xNeg, xAnd, xOr, xNot, xIf, xB, xFn, xTup, xLst, xFld, xDGet, xDIn, xSl, xChain, oNone, oSome, aNil, aCons, tB', tAnd', tOr', tNot', tYesD, gN, gT, gsN, gsC, iLst, iTupD, iRg1, iRg2, iEnm, iTxt, List.map_cons, List.map_nil, List.length_cons, List.length_nil, List.replicate, List.replicate_succ, List.replicate_zero, List.cons_append, List.nil_append, List.set_cons_zero, List.set_cons_succ, List.getElem?_cons_zero, List.getElem?_cons_succ, Option.some.injEq, D.int.injEq, D.str.injEq, D.bl.injEq, D.lst.injEq, D.tup.injEq, D.dic.injEq, D.ins.injEq, exists_eq_left, exists_eq_left', exists_eq_right, exists_eq_right', exists_and_left, and_true, true_and, Nat.reduceAdd, Nat.reduceSub, Nat.reduceLT, Nat.reduceEqDiff, Nat.add_one_sub_one, Nat.sub_zero, if_true, if_false, Bool.false_eq_true, reduceIte, wipeR, List.cons.injEq, Nat.zero_add, reduceCtorEq, false_and, exists_false, Bool.false_bne, Bool.true_bne, len_lst, len_tup, len_scr, in_lst, in_tup, dKey_str, dKey_int, and_assoc, eq_int, dSub, dLt, dLe, dGt, dGe, isNonD, dIs, dMin, dMax, xMeth, xMeth0, xEqO, xXf, sTry, catchD, offD, add_int, dList, dTuple, xFlt, xFltC, xFltX, xFltCX, xX, sAppP, sClrP, sFldP, sPutP, pVar, pIx, pFld, id, xDisp, pairsD, xNames, xMethF, xMeth0F, aStar, xTGet, xTIn, sPutT, sRaise0, sTryM, catchM, emEq, tKey_strs, famNs, Option.isSome_some, iSqV]
      refine ⟨_, ix_lst (hmany k hk), _, ix_lst (hroom k hk), _, ix_tup' (i := 1) rfl, _, rfl, _, rfl, ?_⟩
      have e : overAt rs lot k = decide (rs[k].2 < (cnt lot rs[k].1 : Int)) := by unfold overAt cnt; rw [getD_of (List.getElem?_eq_getElem hk)]
      rw [e] at kk
      exact ite_k kk
    have hov : ((List.range rs.length).filter (overAt rs lot) = []) ↔ FreeR rs lot := by
      rw [← over_none]
      unfold overOf firstOf
      rw [List.find?_eq_none, List.filter_eq_nil_iff]
    generalize hovl : (List.range rs.length).filter (overAt rs lot) = ovl at hov ⊢
    refine seqI ?_
    simp only [xLc, fnD, iniD, startD, sNil, sIf, sRet, sSet, sSetO, sExpr, sApp, sPut, sClr, sExt, sIns, sRaise, sRaise2, sAsg, sFor, sSetM, sAppM, sFld', xPopAt, xPop, xVar, xC, xOp1, xOp2, xNeg, xAnd, xOr, xNot, xIf, xB, xFn, xTup, xLst, xFld, xDGet, xDIn, xSl, xChain, oNone, oSome, aNil, aCons, tB', tAnd', tOr', tNot', tYesD, gN, gT, gsN, gsC, iLst, iTupD, iRg1, iRg2, iEnm, iTxt, List.map_cons, List.map_nil, List.length_cons, List.length_nil, List.replicate, List.replicate_succ, List.replicate_zero, List.cons_append, List.nil_append, List.set_cons_zero, List.set_cons_succ, List.getElem?_cons_zero, List.getElem?_cons_succ, Option.some.injEq, D.int.injEq, D.str.injEq, D.bl.injEq, D.lst.injEq, D.tup.injEq, D.dic.injEq, D.ins.injEq, exists_eq_left, exists_eq_left', exists_eq_right, exists_eq_right', exists_and_left, and_true, true_and, Nat.reduceAdd, Nat.reduceSub, Nat.reduceLT, Nat.reduceEqDiff, Nat.add_one_sub_one, Nat.sub_zero, if_true, if_false, Bool.false_eq_true, reduceIte, wipeR, List.cons.injEq, Nat.zero_add, reduceCtorEq, false_and, exists_false, Bool.false_bne, Bool.true_bne, len_lst, len_tup, len_scr, in_lst, in_tup, dKey_str, dKey_int, and_assoc, eq_int, dSub, dLt, dLe, dGt, dGe, isNonD, dIs, dMin, dMax, xMeth, xMeth0, xEqO, xXf, sTry, catchD, offD, add_int, dList, dTuple, xFlt, xFltC, xFltX, xFltCX, xX, sAppP, sClrP, sFldP, sPutP, pVar, pIx, pFld, id, xDisp, pairsD, xNames, xMethF, xMeth0F, aStar, xTGet, xTIn, sPutT, sRaise0, sTryM, catchM, emEq, tKey_strs, famNs, Option.isSome_some, iSqV]
    rw [List.length_map]
    refine ⟨by omega, by omega, by rw [rng_len]; show _ ≤ 100000; omega, ?_⟩
    refine lc_rngF (fun i => decide (((shareL lot (rs.getD i ([], 0)).1).length : Int) = (rs.getD i ([], 0)).2)) (fun i => .int (i : Nat)) (fun k hk K kk => ?_) ?_
    · simp only [fnD, iniD, startD, sNil, sIf, sRet, sSet, sSetO, sExpr, sApp, sPut, sClr, sExt, sIns, sRaise, sRaise2, sAsg, sFor, sSetM, sAppM, sFld', xPopAt, xPop, xVar, xC, xOp1, xOp2, xNeg, xAnd, xOr, xNot, xIf, xB, xFn, xTup, xLst, xFld, xDGet, xDIn, xSl, xChain, oNone, oSome, aNil, aCons, tB', tAnd', tOr', tNot', tYesD, gN, gT, gsN, gsC, iLst, iTupD, iRg1, iRg2, iEnm, iTxt, List.map_cons, List.map_nil, List.length_cons, List.length_nil, List.replicate, List.replicate_succ, List.replicate_zero, List.cons_append, List.nil_append, List.set_cons_zero, List.set_cons_succ, List.getElem?_cons_zero, List.getElem?_cons_succ, Option.some.injEq, D.int.injEq, D.str.injEq, D.bl.injEq, D.lst.injEq, D.tup.injEq, D.dic.injEq, D.ins.injEq, exists_eq_left, exists_eq_left', exists_eq_right, exists_eq_right', exists_and_left, and_true, true_and, Nat.reduceAdd, Nat.reduceSub, Nat.reduceLT, Nat.reduceEqDiff, Nat.add_one_sub_one, Nat.sub_zero, if_true, if_false, Bool.false_eq_true, reduceIte, wipeR, List.cons.injEq, Nat.zero_add, reduceCtorEq, false_and, exists_false, Bool.false_bne, Bool.true_bne, len_lst, len_tup, len_scr, in_lst, in_tup, dKey_str, dKey_int, and_assoc, eq_int, dSub, dLt, dLe, dGt, dGe, isNonD, dIs, dMin, dMax, xMeth, xMeth0, xEqO, xXf, sTry, catchD, offD, add_int, dList, dTuple, xFlt, xFltC, xFltX, xFltCX, xX, sAppP, sClrP, sFldP, sPutP, pVar, pIx, pFld, id, xDisp, pairsD, xNames, xMethF, xMeth0F, aStar, xTGet, xTIn, sPutT, sRaise0, sTryM, catchM, emEq, tKey_strs, famNs, Option.isSome_some, iSqV]
      refine ⟨_, ix_lst (hmany k hk), _, ix_lst (hroom k hk), _, ix_tup' (i := 1) rfl, _, eq_int false _ _, _, rfl, ?_⟩
      rw [getD_of (List.getElem?_eq_getElem hk)] at kk
      rw [Bool.false_bne]
      exact ite_k kk
    rw [show ((List.range rs.length).filter fun i => decide (((shareL lot (rs.getD i ([], 0)).1).length : Int) = (rs.getD i ([], 0)).2)) = tightL rs lot from rfl]
    have okov : ∀ (l : List Nat), (D.lst (l.map fun i => D.int (i : Nat))).okE 64 = true := fun l => okE_up (by decide : 1 ≤ 64) _ (ok_lst fun d hd => by
      obtain ⟨k, _, rfl⟩ := List.mem_map.mp hd
      rfl)
    have eqov : dEq false (.lst (ovl.map fun i => D.int (i : Nat))) (.lst []) = some (.bl (decide (ovl = []))) := by
      rw [eq_of (b := decide (ovl = [])) (okov ovl) rfl ⟨fun z => by rw [of_decide_eq_true z]; rfl, fun z => decide_eq_true (List.map_eq_nil_iff.mp (D.lst.inj z))⟩, Bool.false_bne]
    refine seqI ?_
    simp only [xLc, fnD, iniD, startD, sNil, sIf, sRet, sSet, sSetO, sExpr, sApp, sPut, sClr, sExt, sIns, sRaise, sRaise2, sAsg, sFor, sSetM, sAppM, sFld', xPopAt, xPop, xVar, xC, xOp1, xOp2, xNeg, xAnd, xOr, xNot, xIf, xB, xFn, xTup, xLst, xFld, xDGet, xDIn, xSl, xChain, oNone, oSome, aNil, aCons, tB', tAnd', tOr', tNot', tYesD, gN, gT, gsN, gsC, iLst, iTupD, iRg1, iRg2, iEnm, iTxt, List.map_cons, List.map_nil, List.length_cons, List.length_nil, List.replicate, List.replicate_succ, List.replicate_zero, List.cons_append, List.nil_append, List.set_cons_zero, List.set_cons_succ, List.getElem?_cons_zero, List.getElem?_cons_succ, Option.some.injEq, D.int.injEq, D.str.injEq, D.bl.injEq, D.lst.injEq, D.tup.injEq, D.dic.injEq, D.ins.injEq, exists_eq_left, exists_eq_left', exists_eq_right, exists_eq_right', exists_and_left, and_true, true_and, Nat.reduceAdd, Nat.reduceSub, Nat.reduceLT, Nat.reduceEqDiff, Nat.add_one_sub_one, Nat.sub_zero, if_true, if_false, Bool.false_eq_true, reduceIte, wipeR, List.cons.injEq, Nat.zero_add, reduceCtorEq, false_and, exists_false, Bool.false_bne, Bool.true_bne, len_lst, len_tup, len_scr, in_lst, in_tup, dKey_str, dKey_int, and_assoc, eq_int, dSub, dLt, dLe, dGt, dGe, isNonD, dIs, dMin, dMax, xMeth, xMeth0, xEqO, xXf, sTry, catchD, offD, add_int, dList, dTuple, xFlt, xFltC, xFltX, xFltCX, xX, sAppP, sClrP, sFldP, sPutP, pVar, pIx, pFld, id, xDisp, pairsD, xNames, xMethF, xMeth0F, aStar, xTGet, xTIn, sPutT, sRaise0, sTryM, catchM, emEq, tKey_strs, famNs, Option.isSome_some, iSqV]
    refine ⟨kvs, rfl, by show _ < 100000; omega, ?_⟩
    apply viaF (R := fun m : Int => m = ((grd rs lot).length : Int))
    · intro key
      refine ⟨B0, _, eqov, _, rfl, ?_⟩
      by_cases c0 : ovl = []
      · rw [if_pos (decide_eq_true c0), List.length_map]
        refine ⟨.int lot.length, rfl, ?_⟩
        generalize hz : (lot.length : Int) = m
        exact key m (by rw [← hz, (grd_all hL hnd).mpr (hov.mp c0)])
      · rw [if_neg (by rw [decide_eq_false c0]; decide), List.length_map]
        have nf : ¬ FreeR rs lot := fun z => c0 (hov.mpr z)
        obtain ⟨m1, m2⟩ := grd_less hL hnd nf
        refine ⟨by omega, by omega, by rw [rng_len]; show _ ≤ 100000; omega, ?_⟩
        refine lc_rngM (fun k => .int ((grd rs (lot.eraseIdx k)).length : Nat)) (fun k hk K kk => ?_) ⟨_, max_of (fun k hk => Int.ofNat_le.mpr (m1 k hk)) (by obtain ⟨k, hk, e⟩ := m2; exact ⟨k, hk, by rw [e]⟩), .int ((grd rs lot).length : Nat), rfl, key _ rfl⟩
        simp only [fnD, iniD, startD, sNil, sIf, sRet, sSet, sSetO, sExpr, sApp, sPut, sClr, sExt, sIns, sRaise, sRaise2, sAsg, sFor, sSetM, sAppM, sFld', xPopAt, xPop, xVar, xC, xOp1, xOp2, xNeg, xAnd, xOr, xNot, xIf, xB, xFn, xTup, xLst, xFld, xDGet, xDIn, xSl, xChain, oNone, oSome, aNil, aCons, tB', tAnd', tOr', tNot', tYesD, gN, gT, gsN, gsC, iLst, iTupD, iRg1, iRg2, iEnm, iTxt, List.map_cons, List.map_nil, List.length_cons, List.length_nil, List.replicate, List.replicate_succ, List.replicate_zero, List.cons_append, List.nil_append, List.set_cons_zero, List.set_cons_succ, List.getElem?_cons_zero, List.getElem?_cons_succ, Option.some.injEq, D.int.injEq, D.str.injEq, D.bl.injEq, D.lst.injEq, D.tup.injEq, D.dic.injEq, D.ins.injEq, exists_eq_left, exists_eq_left', exists_eq_right, exists_eq_right', exists_and_left, and_true, true_and, Nat.reduceAdd, Nat.reduceSub, Nat.reduceLT, Nat.reduceEqDiff, Nat.add_one_sub_one, Nat.sub_zero, if_true, if_false, Bool.false_eq_true, reduceIte, wipeR, List.cons.injEq, Nat.zero_add, reduceCtorEq, false_and, exists_false, Bool.false_bne, Bool.true_bne, len_lst, len_tup, len_scr, in_lst, in_tup, dKey_str, dKey_int, and_assoc, eq_int, dSub, dLt, dLe, dGt, dGe, isNonD, dIs, dMin, dMax, xMeth, xMeth0, xEqO, xXf, sTry, catchD, offD, add_int, dList, dTuple, xFlt, xFltC, xFltX, xFltCX, xX, sAppP, sClrP, sFldP, sPutP, pVar, pIx, pFld, id, xDisp, pairsD, xNames, xMethF, xMeth0F, aStar, xTGet, xTIn, sPutT, sRaise0, sTryM, catchM, emEq, tKey_strs, famNs, Option.isSome_some, iSqV]
        have e3 : ((k : Int) + 1) = ((k + 1 : Nat) : Int) := by omega
        have e4 : cut (lot.map D.str) none (some (k : Int)) ++ cut (lot.map D.str) (some ((k : Int) + 1)) none = (lot.eraseIdx k).map D.str := by
          rw [e3, cut_take, cut_drop, ← List.map_take, ← List.map_drop, ← List.map_append, List.eraseIdx_eq_take_drop_succ]
        have e5 : (cut (lot.map D.str) none (some (k : Int))).length + (cut (lot.map D.str) (some ((k : Int) + 1)) none).length ≤ 1000 := by
          rw [← List.length_append, e4, List.length_map, List.length_eraseIdx_of_lt hk]
          omega
        refine ⟨_, rfl, _, rfl, _, add_tup e5, kvs, rfl, (lot.eraseIdx k).map Sum.inr, ?_, .int ((grd rs (lot.eraseIdx k)).length : Nat), hv _ (lot_before hlot hk), kk⟩
        rw [e4]
        exact tKey_strs _
    rintro m rfl
    have hv' : ∀ L ∈ (lotsL th).take (i + 1), valV (putK kvs (lot.map Sum.inr) (.int ((grd rs lot).length : Nat))) (L.map Sum.inr) = some (.int ((grd rs L).length : Nat)) := fun L hL' => by
      by_cases c : L = lot
      · subst c; exact val_put2
      · rw [val_put_ne fun z => c (key_inj z)]
        rw [take_next hlot] at hL'
        rcases List.mem_append.mp hL' with z | z
        · exact hv L z
        · exact absurd (List.mem_singleton.mp z) c
    have hk' := Nat.le_trans (put_len kvs (lot.map Sum.inr) (.int ((grd rs lot).length : Nat))) (Nat.succ_le_succ hk)
    have hvl := hv' lot (by rw [take_next hlot]; exact List.mem_append_right _ List.mem_cons_self)
    generalize putK kvs (lot.map Sum.inr) (.int ((grd rs lot).length : Nat)) = kvs' at hv' hk' hvl ⊢
    refine seqI ?_
    simp only [xLc, fnD, iniD, startD, sNil, sIf, sRet, sSet, sSetO, sExpr, sApp, sPut, sClr, sExt, sIns, sRaise, sRaise2, sAsg, sFor, sSetM, sAppM, sFld', xPopAt, xPop, xVar, xC, xOp1, xOp2, xNeg, xAnd, xOr, xNot, xIf, xB, xFn, xTup, xLst, xFld, xDGet, xDIn, xSl, xChain, oNone, oSome, aNil, aCons, tB', tAnd', tOr', tNot', tYesD, gN, gT, gsN, gsC, iLst, iTupD, iRg1, iRg2, iEnm, iTxt, List.map_cons, List.map_nil, List.length_cons, List.length_nil, List.replicate, List.replicate_succ, List.replicate_zero, List.cons_append, List.nil_append, List.set_cons_zero, List.set_cons_succ, List.getElem?_cons_zero, List.getElem?_cons_succ, Option.some.injEq, D.int.injEq, D.str.injEq, D.bl.injEq, D.lst.injEq, D.tup.injEq, D.dic.injEq, D.ins.injEq, exists_eq_left, exists_eq_left', exists_eq_right, exists_eq_right', exists_and_left, and_true, true_and, Nat.reduceAdd, Nat.reduceSub, Nat.reduceLT, Nat.reduceEqDiff, Nat.add_one_sub_one, Nat.sub_zero, if_true, if_false, Bool.false_eq_true, reduceIte, wipeR, List.cons.injEq, Nat.zero_add, reduceCtorEq, false_and, exists_false, Bool.false_bne, Bool.true_bne, len_lst, len_tup, len_scr, in_lst, in_tup, dKey_str, dKey_int, and_assoc, eq_int, dSub, dLt, dLe, dGt, dGe, isNonD, dIs, dMin, dMax, xMeth, xMeth0, xEqO, xXf, sTry, catchD, offD, add_int, dList, dTuple, xFlt, xFltC, xFltX, xFltCX, xX, sAppP, sClrP, sFldP, sPutP, pVar, pIx, pFld, id, xDisp, pairsD, xNames, xMethF, xMeth0F, aStar, xTGet, xTIn, sPutT, sRaise0, sTryM, catchM, emEq, tKey_strs, famNs, Option.isSome_some, iSqV]
    refine ⟨tupS lot, lot.map D.str, rfl, rfl, by rw [List.length_map]; omega, fun ys hp => ?_⟩
    obtain ⟨mx, rfl, hmx⟩ := perm_inv (fun d => (toS d).getD "") (fun _ => rfl) hp
    have smx : srt mx = lot := by rw [srt_congr hmx, hsrt]
    have lmx := hmx.length_eq
    have omx : LotOk th mx := ⟨hmx.nodup_iff.mpr hnd, fun x hx => hsub.subset (hmx.mem_iff.mp hx)⟩
    have fmx : fwOf th mx = none := fw_none.mpr ⟨omx.nd, omx.sub⟩
    refine seqI ?_
    simp only [xLc, fnD, iniD, startD, sNil, sIf, sRet, sSet, sSetO, sExpr, sApp, sPut, sClr, sExt, sIns, sRaise, sRaise2, sAsg, sFor, sSetM, sAppM, sFld', xPopAt, xPop, xVar, xC, xOp1, xOp2, xNeg, xAnd, xOr, xNot, xIf, xB, xFn, xTup, xLst, xFld, xDGet, xDIn, xSl, xChain, oNone, oSome, aNil, aCons, tB', tAnd', tOr', tNot', tYesD, gN, gT, gsN, gsC, iLst, iTupD, iRg1, iRg2, iEnm, iTxt, List.map_cons, List.map_nil, List.length_cons, List.length_nil, List.replicate, List.replicate_succ, List.replicate_zero, List.cons_append, List.nil_append, List.set_cons_zero, List.set_cons_succ, List.getElem?_cons_zero, List.getElem?_cons_succ, Option.some.injEq, D.int.injEq, D.str.injEq, D.bl.injEq, D.lst.injEq, D.tup.injEq, D.dic.injEq, D.ins.injEq, exists_eq_left, exists_eq_left', exists_eq_right, exists_eq_right', exists_and_left, and_true, true_and, Nat.reduceAdd, Nat.reduceSub, Nat.reduceLT, Nat.reduceEqDiff, Nat.add_one_sub_one, Nat.sub_zero, if_true, if_false, Bool.false_eq_true, reduceIte, wipeR, List.cons.injEq, Nat.zero_add, reduceCtorEq, false_and, exists_false, Bool.false_bne, Bool.true_bne, len_lst, len_tup, len_scr, in_lst, in_tup, dKey_str, dKey_int, and_assoc, eq_int, dSub, dLt, dLe, dGt, dGe, isNonD, dIs, dMin, dMax, xMeth, xMeth0, xEqO, xXf, sTry, catchD, offD, add_int, dList, dTuple, xFlt, xFltC, xFltX, xFltCX, xX, sAppP, sClrP, sFldP, sPutP, pVar, pIx, pFld, id, xDisp, pairsD, xNames, xMethF, xMeth0F, aStar, xTGet, xTIn, sPutT, sRaise0, sTryM, catchM, emEq, tKey_strs, famNs, Option.isSome_some, iSqV]
    refine ⟨rfl, th, rs.map srtR, gh, mx, rfl, hgh, tok, omx, kvs', rfl, _, hvl, _, eq_int true _ _, _, rfl, ?_⟩
    rw [smx, grd_srt, decide_eq_true rfl, if_neg (by decide)]
    refine ⟨rfl, th, rs.map srtR, gh, mx, rfl, hgh, tok, omx, B0, _, eqov, _, eq_bl true _ _, _, rfl, ?_⟩
    have eb : decide (decide (((grd (rs.map srtR) (srt mx)).length : Int) = mx.length) = decide (ovl = [])) = true := by
      refine decide_eq_true (decide_eq_decide.mpr ?_)
      rw [smx, grd_srt, lmx, hov, ← grd_all hL hnd]
      omega
    rw [eb, if_neg (by decide)]
    refine ⟨B0, _, eqov, _, rfl, ?_⟩
    by_cases c0 : ovl = []
    · rw [if_pos (decide_eq_true c0)]
      have on : overOf (rs.map srtR) (srt mx) = none := by rw [over_srt, smx]; exact over_none.mpr (hov.mp c0)
      refine ⟨th, _, mx, rfl, by omega, ?_⟩
      rw [fmx]
      simp only [on]
      refine ⟨th, _, 1, mx, rfl, by omega, by rw [List.length_map]; omega, ?_⟩
      have er : refV th (rs.map srtR) 1 mx = .lst ((tightL rs lot).map fun i => .int (i : Nat)) := by
        unfold refV
        rw [fmx]
        simp only [on]
        rw [smx, tight_srt]
        rfl
      rw [er]
      refine ⟨_, eq_same (okov _), _, rfl, ?_⟩
      rw [if_neg (by decide)]
      exact n _ ⟨kvs', _, _, _, _, _, rfl, hk', hv'⟩
    · rw [if_neg (by rw [decide_eq_false c0]; decide)]
      obtain ⟨j, oj⟩ : ∃ j, overOf rs lot = some j := by
        cases c : overOf rs lot with
        | some j => exact ⟨j, rfl⟩
        | none => exact absurd (hov.mpr (over_none.mp c)) c0
      have hj : ovl[0]? = some j := by
        rw [← hovl, ← List.head?_eq_getElem?, List.head?_filter]
        exact oj
      have on : overOf (rs.map srtR) (srt mx) = some j := by rw [over_srt, smx]; exact oj
      refine ⟨th, _, mx, rfl, by omega, ?_⟩
      rw [fmx]
      simp only [on]
      refine ⟨_, ix_lst (i := 0) (by rw [List.getElem?_map, hj]; rfl), _, eq_int true _ _, _, rfl, ?_⟩
      rw [decide_eq_true rfl, if_neg (by decide)]
      refine ⟨th, _, 1, mx, rfl, by omega, by rw [List.length_map]; omega, ?_⟩
      have er : refV th (rs.map srtR) 1 mx = .str "not free" := by
        unfold refV
        rw [fmx]
        simp only [on]
        rfl
      rw [er]
      refine ⟨_, eq_same (by decide +kernel), _, rfl, ?_⟩
      rw [if_neg (by decide)]
      exact n _ ⟨kvs', _, _, _, _, _, rfl, hk', hv'⟩
  · obtain ⟨kvs, c7, c8, c9, c10, c11, rfl, hk, hv⟩ := p
    dsimp only
    refine seqI ?_
    simp only [fnD, iniD, startD, sNil, sIf, sRet, sSet, sSetO, sExpr, sApp, sPut, sClr, sExt, sIns, sRaise, sRaise2, sAsg, sFor, sSetM, sAppM, sFld', xPopAt, xPop, xVar, xC, xOp1, xOp2, xNeg, xAnd, xOr, xNot, xIf, xB, xFn, xTup, xLst, xFld, xDGet, xDIn, xSl, xChain, oNone, oSome, aNil, aCons, tB', tAnd', tOr', tNot', tYesD, gN, gT, gsN, gsC, iLst, iTupD, iRg1, iRg2, iEnm, iTxt, List.map_cons, List.map_nil, List.length_cons, List.length_nil, List.replicate, List.replicate_succ, List.replicate_zero, List.cons_append, List.nil_append, List.set_cons_zero, List.set_cons_succ, List.getElem?_cons_zero, List.getElem?_cons_succ, Option.some.injEq, D.int.injEq, D.str.injEq, D.bl.injEq, D.lst.injEq, D.tup.injEq, D.dic.injEq, D.ins.injEq, exists_eq_left, exists_eq_left', exists_eq_right, exists_eq_right', exists_and_left, and_true, true_and, Nat.reduceAdd, Nat.reduceSub, Nat.reduceLT, Nat.reduceEqDiff, Nat.add_one_sub_one, Nat.sub_zero, if_true, if_false, Bool.false_eq_true, reduceIte, wipeR, List.cons.injEq, Nat.zero_add, reduceCtorEq, false_and, exists_false, Bool.false_bne, Bool.true_bne, len_lst, len_tup, len_scr, in_lst, in_tup, dKey_str, dKey_int, and_assoc, eq_int, dSub, dLt, dLe, dGt, dGe, isNonD, dIs, dMin, dMax, xMeth, xMeth0, xEqO, xXf, sTry, catchD, offD, add_int, dList, dTuple, xFlt, xFltC, xFltX, xFltCX, xX, sAppP, sClrP, sFldP, sPutP, pVar, pIx, pFld, id, xDisp, pairsD, xNames, xMethF, xMeth0F, aStar, xTGet, xTIn, sPutT, sRaise0, sTryM, catchM, emEq, tKey_strs, famNs, Option.isSome_some, iSqV]
    refine ⟨lstS th, th.map D.str, rfl, rfl, by rw [List.length_map]; omega, fun ys hp => ?_⟩
    obtain ⟨mx, rfl, hmx⟩ := perm_inv (fun d => (toS d).getD "") (fun _ => rfl) hp
    have lmx := hmx.length_eq
    obtain ⟨x0, mr, rfl⟩ : ∃ x r, mx = x :: r := by
      cases mx with
      | nil => exact absurd lmx (by rw [t1]; exact fun z => by cases z)
      | cons x r => exact ⟨x, r, rfl⟩
    refine seqI ?_
    simp only [fnD, iniD, startD, sNil, sIf, sRet, sSet, sSetO, sExpr, sApp, sPut, sClr, sExt, sIns, sRaise, sRaise2, sAsg, sFor, sSetM, sAppM, sFld', xPopAt, xPop, xVar, xC, xOp1, xOp2, xNeg, xAnd, xOr, xNot, xIf, xB, xFn, xTup, xLst, xFld, xDGet, xDIn, xSl, xChain, oNone, oSome, aNil, aCons, tB', tAnd', tOr', tNot', tYesD, gN, gT, gsN, gsC, iLst, iTupD, iRg1, iRg2, iEnm, iTxt, List.map_cons, List.map_nil, List.length_cons, List.length_nil, List.replicate, List.replicate_succ, List.replicate_zero, List.cons_append, List.nil_append, List.set_cons_zero, List.set_cons_succ, List.getElem?_cons_zero, List.getElem?_cons_succ, Option.some.injEq, D.int.injEq, D.str.injEq, D.bl.injEq, D.lst.injEq, D.tup.injEq, D.dic.injEq, D.ins.injEq, exists_eq_left, exists_eq_left', exists_eq_right, exists_eq_right', exists_and_left, and_true, true_and, Nat.reduceAdd, Nat.reduceSub, Nat.reduceLT, Nat.reduceEqDiff, Nat.add_one_sub_one, Nat.sub_zero, if_true, if_false, Bool.false_eq_true, reduceIte, wipeR, List.cons.injEq, Nat.zero_add, reduceCtorEq, false_and, exists_false, Bool.false_bne, Bool.true_bne, len_lst, len_tup, len_scr, in_lst, in_tup, dKey_str, dKey_int, and_assoc, eq_int, dSub, dLt, dLe, dGt, dGe, isNonD, dIs, dMin, dMax, xMeth, xMeth0, xEqO, xXf, sTry, catchD, offD, add_int, dList, dTuple, xFlt, xFltC, xFltX, xFltCX, xX, sAppP, sClrP, sFldP, sPutP, pVar, pIx, pFld, id, xDisp, pairsD, xNames, xMethF, xMeth0F, aStar, xTGet, xTIn, sPutT, sRaise0, sTryM, catchM, emEq, tKey_strs, famNs, Option.isSome_some, iSqV]
    rw [List.length_cons] at lmx
    have nmx : (x0 :: mr).Nodup := hmx.nodup_iff.mpr t2
    have smx : ∀ x ∈ x0 :: mr, x ∈ th := fun x hx => hmx.mem_iff.mp hx
    have wr : ∀ (y : Str) (r : List Str), (y ∉ th ∨ y ∈ x0 :: mr) → fwOf th ((x0 :: mr) ++ y :: r) = some (mr.length + 1) := fun y r hy => by
      refine first_some (by rw [List.length_append, List.length_cons, List.length_cons]; omega) ?_ fun j hj => ?_
      · unfold badIt
        have e : ((x0 :: mr) ++ y :: r)[mr.length + 1]? = some y := by
          rw [List.getElem?_append_right (by rw [List.length_cons]; omega), List.length_cons, Nat.sub_self]
          rfl
        have e2 : ((x0 :: mr) ++ y :: r).take (mr.length + 1) = x0 :: mr := by
          rw [List.take_append_of_le_length (by rw [List.length_cons]; omega), List.take_of_length_le (by rw [List.length_cons]; omega)]
        rw [getD_of e, e2]
        rcases hy with hy | hy
        · rw [decide_eq_false hy]; rfl
        · rw [decide_eq_true hy, Bool.or_true]
      · have hj' : j < (x0 :: mr).length := by rw [List.length_cons]; omega
        unfold badIt
        have e : ((x0 :: mr) ++ y :: r)[j]? = some (x0 :: mr)[j] := by
          rw [List.getElem?_append_left hj', List.getElem?_eq_getElem hj']
        rw [getD_of e, List.take_append_of_le_length (by omega), decide_eq_true (smx _ (List.getElem_mem hj')), decide_eq_false (nd_take nmx hj')]
        rfl
    have zz := no_zzz g
    have zA : ("A" : Str) ∉ th := fun h => absurd (t3 _ h).nm (by decide +kernel)
    have hws : ∀ k : Nat, k < 3 → ∃ w, dIx (.lst [.lst (D.str x0 :: mr.map D.str ++ [D.str x0]), .lst (D.str x0 :: mr.map D.str ++ [D.str "zzzzzzzz"]), .lst (D.str x0 :: mr.map D.str ++ [D.str "A"] ++ (D.str x0 :: mr.map D.str))]) (.int (k : Nat)) = some (lstS w) ∧ fwOf th w = some (mr.length + 1) ∧ w.length < 64 := fun k hk => by
      have c3 : k = 0 ∨ k = 1 ∨ k = 2 := by omega
      rcases c3 with rfl | rfl | rfl
      · refine ⟨(x0 :: mr) ++ x0 :: [], ?_, wr x0 [] (.inr List.mem_cons_self), by rw [List.length_append, List.length_cons, List.length_cons]; show mr.length + 1 + 1 < 64; omega⟩
        rw [show lstS ((x0 :: mr) ++ x0 :: []) = .lst (D.str x0 :: mr.map D.str ++ [D.str x0]) by show D.lst (((x0 :: mr) ++ x0 :: []).map D.str) = _; rw [List.map_append]; rfl]
        rfl
      · refine ⟨(x0 :: mr) ++ ("zzzzzzzz" : Str) :: [], ?_, wr _ [] (.inl zz), by rw [List.length_append, List.length_cons, List.length_cons]; show mr.length + 1 + 1 < 64; omega⟩
        rw [show lstS ((x0 :: mr) ++ ("zzzzzzzz" : Str) :: []) = .lst (D.str x0 :: mr.map D.str ++ [D.str "zzzzzzzz"]) by show D.lst (((x0 :: mr) ++ ("zzzzzzzz" : Str) :: []).map D.str) = _; rw [List.map_append]; rfl]
        rfl
      · refine ⟨(x0 :: mr) ++ ("A" : Str) :: (x0 :: mr), ?_, wr _ _ (.inl zA), by rw [List.length_append, List.length_cons, List.length_cons, List.length_cons]; omega⟩
        rw [show lstS ((x0 :: mr) ++ ("A" : Str) :: (x0 :: mr)) = .lst (D.str x0 :: mr.map D.str ++ [D.str "A"] ++ (D.str x0 :: mr.map D.str)) by show D.lst (((x0 :: mr) ++ ("A" : Str) :: (x0 :: mr)).map D.str) = _; rw [List.map_append, List.append_assoc]; rfl]
        rfl
    have l1 : (D.str x0 :: mr.map D.str).length = mr.length + 1 := by rw [List.length_cons, List.length_map]
    refine ⟨_, ix_lst (i := 0) rfl, B1, _, add_lst (by rw [l1]; show mr.length + 1 + 1 ≤ 1000; omega), B1, _, add_lst (by rw [l1]; show mr.length + 1 + 1 ≤ 1000; omega), B1, _, add_lst (by rw [l1]; show mr.length + 1 + 1 ≤ 1000; omega), _, add_lst (by rw [List.length_append, l1]; show mr.length + 1 + 1 + (mr.length + 1) ≤ 1000; omega), (by decide : 3 ≤ 100000), 3, rfl, by decide, by decide, fun k hk => ?_⟩
    obtain ⟨w, h1, h2, h3⟩ := hws k (by omega)
    refine ⟨_, h1, ?_⟩
    refine seqI ?_
    simp only [fnD, iniD, startD, sNil, sIf, sRet, sSet, sSetO, sExpr, sApp, sPut, sClr, sExt, sIns, sRaise, sRaise2, sAsg, sFor, sSetM, sAppM, sFld', xPopAt, xPop, xVar, xC, xOp1, xOp2, xNeg, xAnd, xOr, xNot, xIf, xB, xFn, xTup, xLst, xFld, xDGet, xDIn, xSl, xChain, oNone, oSome, aNil, aCons, tB', tAnd', tOr', tNot', tYesD, gN, gT, gsN, gsC, iLst, iTupD, iRg1, iRg2, iEnm, iTxt, List.map_cons, List.map_nil, List.length_cons, List.length_nil, List.replicate, List.replicate_succ, List.replicate_zero, List.cons_append, List.nil_append, List.set_cons_zero, List.set_cons_succ, List.getElem?_cons_zero, List.getElem?_cons_succ, Option.some.injEq, D.int.injEq, D.str.injEq, D.bl.injEq, D.lst.injEq, D.tup.injEq, D.dic.injEq, D.ins.injEq, exists_eq_left, exists_eq_left', exists_eq_right, exists_eq_right', exists_and_left, and_true, true_and, Nat.reduceAdd, Nat.reduceSub, Nat.reduceLT, Nat.reduceEqDiff, Nat.add_one_sub_one, Nat.sub_zero, if_true, if_false, Bool.false_eq_true, reduceIte, wipeR, List.cons.injEq, Nat.zero_add, reduceCtorEq, false_and, exists_false, Bool.false_bne, Bool.true_bne, len_lst, len_tup, len_scr, in_lst, in_tup, dKey_str, dKey_int, and_assoc, eq_int, dSub, dLt, dLe, dGt, dGe, isNonD, dIs, dMin, dMax, xMeth, xMeth0, xEqO, xXf, sTry, catchD, offD, add_int, dList, dTuple, xFlt, xFltC, xFltX, xFltCX, xX, sAppP, sClrP, sFldP, sPutP, pVar, pIx, pFld, id, xDisp, pairsD, xNames, xMethF, xMeth0F, aStar, xTGet, xTIn, sPutT, sRaise0, sTryM, catchM, emEq, tKey_strs, famNs, Option.isSome_some, iSqV]
    rw [List.length_map]
    have er : ∀ v : Int, refV th (rs.map srtR) v w = .tup [.str "lot", .int ((mr.length + 1 : Nat) : Int)] := fun v => by
      unfold refV
      rw [h2]
    have eqt : dEq true (.tup [.str "lot", .int ((mr.length + 1 : Nat) : Int)]) (.tup [.str "lot", .int ((mr.length + 1 : Nat) : Int)]) = some (.bl (true != true)) := eq_same (ok_tag (by decide +kernel) _)
    refine ⟨th, _, 0, w, rfl, h3, by rw [List.length_map]; omega, ?_⟩
    rw [er]
    refine ⟨B2, _, eqt, _, rfl, ?_⟩
    rw [if_neg (by decide)]
    refine ⟨th, _, 1, w, rfl, h3, by rw [List.length_map]; omega, ?_⟩
    rw [er]
    refine ⟨B2, _, eqt, _, rfl, ?_⟩
    rw [if_neg (by decide)]
    simp only [xLc, fnD, iniD, startD, sNil, sIf, sRet, sSet, sSetO, sExpr, sApp, sPut, sClr, sExt, sIns, sRaise, sRaise2, sAsg, sFor, sSetM, sAppM, sFld', xPopAt, xPop, xVar, xC, xOp1, xOp2, xNeg, xAnd, xOr, xNot, xIf, xB, xFn, xTup, xLst, xFld, xDGet, xDIn, xSl, xChain, oNone, oSome, aNil, aCons, tB', tAnd', tOr', tNot', tYesD, gN, gT, gsN, gsC, iLst, iTupD, iRg1, iRg2, iEnm, iTxt, List.map_cons, List.map_nil, List.length_cons, List.length_nil, List.replicate, List.replicate_succ, List.replicate_zero, List.cons_append, List.nil_append, List.set_cons_zero, List.set_cons_succ, List.getElem?_cons_zero, List.getElem?_cons_succ, Option.some.injEq, D.int.injEq, D.str.injEq, D.bl.injEq, D.lst.injEq, D.tup.injEq, D.dic.injEq, D.ins.injEq, exists_eq_left, exists_eq_left', exists_eq_right, exists_eq_right', exists_and_left, and_true, true_and, Nat.reduceAdd, Nat.reduceSub, Nat.reduceLT, Nat.reduceEqDiff, Nat.add_one_sub_one, Nat.sub_zero, if_true, if_false, Bool.false_eq_true, reduceIte, wipeR, List.cons.injEq, Nat.zero_add, reduceCtorEq, false_and, exists_false, Bool.false_bne, Bool.true_bne, len_lst, len_tup, len_scr, in_lst, in_tup, dKey_str, dKey_int, and_assoc, eq_int, dSub, dLt, dLe, dGt, dGe, isNonD, dIs, dMin, dMax, xMeth, xMeth0, xEqO, xXf, sTry, catchD, offD, add_int, dList, dTuple, xFlt, xFltC, xFltX, xFltCX, xX, sAppP, sClrP, sFldP, sPutP, pVar, pIx, pFld, id, xDisp, pairsD, xNames, xMethF, xMeth0F, aStar, xTGet, xTIn, sPutT, sRaise0, sTryM, catchM, emEq, tKey_strs, famNs, Option.isSome_some, iSqV]
    have oks := srtR_okR g hR (by omega)
    refine ⟨rfl, th, rs.map srtR, gh, rfl, _, eq_same (okE_up (by decide : 1 ≤ 64) _ (ok_lstS okt)), _, rfl, ?_⟩
    rw [if_pos (by decide)]
    refine ⟨_, rfl, rfl, th, rs.map srtR, rfl, oks, by rw [List.length_map]; show _ ≤ 100000; omega, ?_⟩
    refine lc_mapT roomL (fun r => roomL (srtR r)) rs (fun r hr K k => ?_) ?_
    · simp only [fnD, iniD, startD, sNil, sIf, sRet, sSet, sSetO, sExpr, sApp, sPut, sClr, sExt, sIns, sRaise, sRaise2, sAsg, sFor, sSetM, sAppM, sFld', xPopAt, xPop, xVar, xC, xOp1, xOp2, xNeg, xAnd, xOr, xNot, xIf, xB, xFn, xTup, xLst, xFld, xDGet, xDIn, xSl, xChain, oNone, oSome, aNil, aCons, tB', tAnd', tOr', tNot', tYesD, gN, gT, gsN, gsC, iLst, iTupD, iRg1, iRg2, iEnm, iTxt, List.map_cons, List.map_nil, List.length_cons, List.length_nil, List.replicate, List.replicate_succ, List.replicate_zero, List.cons_append, List.nil_append, List.set_cons_zero, List.set_cons_succ, List.getElem?_cons_zero, List.getElem?_cons_succ, Option.some.injEq, D.int.injEq, D.str.injEq, D.bl.injEq, D.lst.injEq, D.tup.injEq, D.dic.injEq, D.ins.injEq, exists_eq_left, exists_eq_left', exists_eq_right, exists_eq_right', exists_and_left, and_true, true_and, Nat.reduceAdd, Nat.reduceSub, Nat.reduceLT, Nat.reduceEqDiff, Nat.add_one_sub_one, Nat.sub_zero, if_true, if_false, Bool.false_eq_true, reduceIte, wipeR, List.cons.injEq, Nat.zero_add, reduceCtorEq, false_and, exists_false, Bool.false_bne, Bool.true_bne, len_lst, len_tup, len_scr, in_lst, in_tup, dKey_str, dKey_int, and_assoc, eq_int, dSub, dLt, dLe, dGt, dGe, isNonD, dIs, dMin, dMax, xMeth, xMeth0, xEqO, xXf, sTry, catchD, offD, add_int, dList, dTuple, xFlt, xFltC, xFltX, xFltCX, xX, sAppP, sClrP, sFldP, sPutP, pVar, pIx, pFld, id, xDisp, pairsD, xNames, xMethF, xMeth0F, aStar, xTGet, xTIn, sPutT, sRaise0, sTryM, catchM, emEq, tKey_strs, famNs, Option.isSome_some, iSqV, roomL]
      have := rm_len (hR r hr)
      exact ⟨_, sorted_lst (by omega), B2, k⟩
    · refine ⟨_, ?_, q⟩
      rw [List.map_map] 
      exact eq_same (by have := ok_roomsL oks; rw [List.map_map] at this; exact this)
end Dz
namespace L48
open PySem PySem.Spec PyProof.Rows L2 Evl Bf Dz

def dd (n : Str) (st : Stmt) : He.DefD := ⟨(n, none), n, n, defArgs st, defBody st, defScope st, [], []⟩
def dm (c n q : Str) (st : Stmt) : He.DefD := ⟨(c, some n), n, q, defArgs st, defBody st, defScope st, [], []⟩
abbrev xBadThings : Stmt := inClass (top 3) 0
abbrev xBadLot : Stmt := inClass (top 4) 0
abbrev xBadRooms : Stmt := inClass (top 6) 0
abbrev xCrossedRooms : Stmt := inClass (top 7) 0
def fn : List He.DefD := [dd "is_integer" sIsInt, dd "is_name" sIsName, dd "first_wrong" sFirstW, dd "need_things" sNeed, dd "is_lot" sIsLot, dd "is_room" sIsRoom, dd "shared" sShared, dd "are_crossed" sAreX, dd "_law_state" sState, dd "_law_draw" sDraw, dd "_law_names" sNames, dd "_law_mixed" sMixed, dd "_law_rooms" sLRooms, dd "_law_refused" sRefused, dd "law" sLaw, dm "Counts" "__init__" "Counts.__init__" sCInit, dm "Counts" "things" "Counts.things" sCThings, dm "Counts" "rooms" "Counts.rooms" sCRooms, dm "Counts" "__eq__" "Counts.__eq__" sCEq, dd "need_lot" sNLot, dm "Family" "__init__" "Family.__init__" sFInit, dm "Family" "rank_of" "Family.rank_of" sRank1, dm "Family" "things" "Family.things" sFThings, dm "Family" "rank" "Family.rank" sFRank, dm "Family" "is_free" "Family.is_free" sFFree, dm "CountsWorld" "__init__" "CountsWorld.__init__" sCWInit, dm "CountsWorld" "count_free" "CountsWorld.count_free" sCWFree, dd "first_over" sFOver, dd "counts_family" sCFam, dd "over_full" sOvFull, dd "tight_rooms" sTRooms, dd "tight" sTight, dd "_law_lots" sLots, dm "BadThings" "__init__" "BadThings.__init__" xBadThings, dm "BadLot" "__init__" "BadLot.__init__" xBadLot, dm "BadRooms" "__init__" "BadRooms.__init__" xBadRooms, dm "CrossedRooms" "__init__" "CrossedRooms.__init__" xCrossedRooms]
def globs : List Str := (["is_integer", "is_name", "first_wrong", "need_things", "is_lot", "is_room", "shared", "are_crossed", "_law_state", "_law_draw", "_law_names", "_law_mixed", "_law_rooms", "_law_refused", "law", "need_lot", "first_over", "counts_family", "over_full", "tight_rooms"] : List Str) ++ (["tight", "_law_lots", "Counts", "Family", "CountsWorld", "BadThings", "BadLot", "BadRooms", "CrossedRooms", "NotFree"] : List Str)
def fa : List He.Fa := [.str "LETTERS" "abcdefghijklmnopqrstuvwxyz", .int "MOST_LETTERS" 8, .int "MOST_THINGS" 24, .int "MOST_ROOMS" 60, .mkr "Counts", .mkr "Family", .mkr "CountsWorld", .meth "Counts" "things", .meth "Counts" "rooms", .meth "Family" "rank_of", .meth "Family" "things", .meth "Family" "rank", .meth "Family" "is_free", .meth "CountsWorld" "count_free"]
def ex (K : PySem.W.Frag) : Bool := globB K globs && (freeB K blNames && ((fa.all fun f => f.ok K) && (excB K "BadThings" "index" && (excB K "BadLot" "index" && (excB K "BadRooms" "index" && (excB2 K "CrossedRooms" "one" "other" && (exc0B K "NotFree" && (clsB K "Counts" ["known", "held"] && (clsFB K "Family" ["names", "source", "counted"] && (clsB K "CountsWorld" ["table"] && (ownB K (He.ga K "Counts") && (exmB K ["BadThings", "BadLot", "NotFree", "BadRooms", "CrossedRooms"]))))))))))))
abbrev R : PySem.W.OpenRow := PySem.W.OpenLaw.row PySem.Challenge.rw_bothfree_k48_whole_counts_by_all_lots
abbrev hk : PySem.W.Hook := hookB 4 fn ex
abbrev ob (s : PySem.W.SharedT) : AlB := lookB 4 fn ex s
theorem ob_eq (s : PySem.W.SharedT) : ob s = hk.obs s.abs := lookB_eq 4 fn ex s
def loose : List Str := (["_wall", "LotError", "BadThings", "BadLot", "NotFree", "BadRooms", "CrossedRooms", "LETTERS", "MOST_LETTERS", "MOST_THINGS", "is_integer", "is_name", "first_wrong", "need_things", "need_lot", "is_lot", "with_thing", "Family", "greedy", "MOST_ROOMS"] : List Str) ++ (["is_room", "shared", "are_crossed", "Counts", "CountsWorld", "first_over", "counts_family", "over_full", "tight_rooms", "tight", "_law_state", "_law_draw", "_law_names", "_law_mixed", "_law_rooms", "_law_forest", "_law_two_free", "_law_free", "_law_rank", "_law_lots"] : List Str) ++ (["_law_refused"] : List Str)
theorem run (w : World) : HandSHeadRun.RunEq R (PySem.W.view R.prog [46]) hk ob 67000 loose w := by
  intro os
  kernel_rfl
end L48
namespace L48
open PySem PySem.Spec PyProof.Rows L2 Evl Bf Dz

section
variable {P : Program} {w : World} {K : PySem.W.Frag} {mg : Str → Option Value} {base : Heap}
def spL (K : PySem.W.Frag) : Sp := fun vs H Q _ => spOf (T1 K) 0 1 F_Law vs H Q fun _ _ _ => False
theorem facts {h : Heap} {f : Addr} (X : K.In h) (G : h.Ns mainGlobals mg) (hfa : mg ("law" : Str) = some (.ref f)) (c : Bf.SayB fn ex K) :
    ∃ fd : FuncData, (∀ (s : Shared) (v : Value), BindsTo s fd ⟨[v], []⟩ [("_law_script", v)]) ∧ ∀ base : Heap, K.In base → base.Ns mainGlobals mg → FnOk P w K mg base CX0 8 f fd ["_law_script"] (spL K) := by
  obtain ⟨h1, h'⟩ := Bool.and_eq_true_iff.mp c.more
  obtain ⟨h2, h'⟩ := Bool.and_eq_true_iff.mp h'
  obtain ⟨h3, h'⟩ := Bool.and_eq_true_iff.mp h'
  obtain ⟨e0, h'⟩ := Bool.and_eq_true_iff.mp h'
  obtain ⟨e1, h'⟩ := Bool.and_eq_true_iff.mp h'
  obtain ⟨e2, h'⟩ := Bool.and_eq_true_iff.mp h'
  obtain ⟨e3, h'⟩ := Bool.and_eq_true_iff.mp h'
  obtain ⟨e4, h'⟩ := Bool.and_eq_true_iff.mp h'
  obtain ⟨e5, h'⟩ := Bool.and_eq_true_iff.mp h'
  obtain ⟨e6, h'⟩ := Bool.and_eq_true_iff.mp h'
  obtain ⟨e7, h'⟩ := Bool.and_eq_true_iff.mp h'
  obtain ⟨e8, h'⟩ := Bool.and_eq_true_iff.mp h'
  have e9 := h'
  have g : ∀ {x : Str}, x ∈ globs → mg x = some (.ref (He.ga K x)) := fun hx => globB_ok X G h1 hx
  have B : Bl mg := bl_of X G h2
  have a : ∀ {q : He.Fa} (i : Nat), fa[i]? = some q → q.ok K = true := fun i hq => List.all_eq_true.mp h3 _ (List.mem_of_getElem? hq)
  obtain ⟨fd_IsInt, D_IsInt⟩ := SayB.def_ c 0 (d := dd "is_integer" sIsInt) rfl
  replace D_IsInt : FnS K "is_integer" "is_integer" sIsInt (He.ga K "is_integer") fd_IsInt := D_IsInt
  obtain ⟨fd_IsName, D_IsName⟩ := SayB.def_ c 1 (d := dd "is_name" sIsName) rfl
  replace D_IsName : FnS K "is_name" "is_name" sIsName (He.ga K "is_name") fd_IsName := D_IsName
  obtain ⟨fd_FirstW, D_FirstW⟩ := SayB.def_ c 2 (d := dd "first_wrong" sFirstW) rfl
  replace D_FirstW : FnS K "first_wrong" "first_wrong" sFirstW (He.ga K "first_wrong") fd_FirstW := D_FirstW
  obtain ⟨fd_Need, D_Need⟩ := SayB.def_ c 3 (d := dd "need_things" sNeed) rfl
  replace D_Need : FnS K "need_things" "need_things" sNeed (He.ga K "need_things") fd_Need := D_Need
  obtain ⟨fd_IsLot, D_IsLot⟩ := SayB.def_ c 4 (d := dd "is_lot" sIsLot) rfl
  replace D_IsLot : FnS K "is_lot" "is_lot" sIsLot (He.ga K "is_lot") fd_IsLot := D_IsLot
  obtain ⟨fd_IsRoom, D_IsRoom⟩ := SayB.def_ c 5 (d := dd "is_room" sIsRoom) rfl
  replace D_IsRoom : FnS K "is_room" "is_room" sIsRoom (He.ga K "is_room") fd_IsRoom := D_IsRoom
  obtain ⟨fd_Shared, D_Shared⟩ := SayB.def_ c 6 (d := dd "shared" sShared) rfl
  replace D_Shared : FnS K "shared" "shared" sShared (He.ga K "shared") fd_Shared := D_Shared
  obtain ⟨fd_AreX, D_AreX⟩ := SayB.def_ c 7 (d := dd "are_crossed" sAreX) rfl
  replace D_AreX : FnS K "are_crossed" "are_crossed" sAreX (He.ga K "are_crossed") fd_AreX := D_AreX
  obtain ⟨fd_State, D_State⟩ := SayB.def_ c 8 (d := dd "_law_state" sState) rfl
  replace D_State : FnS K "_law_state" "_law_state" sState (He.ga K "_law_state") fd_State := D_State
  obtain ⟨fd_Draw, D_Draw⟩ := SayB.def_ c 9 (d := dd "_law_draw" sDraw) rfl
  replace D_Draw : FnS K "_law_draw" "_law_draw" sDraw (He.ga K "_law_draw") fd_Draw := D_Draw
  obtain ⟨fd_Names, D_Names⟩ := SayB.def_ c 10 (d := dd "_law_names" sNames) rfl
  replace D_Names : FnS K "_law_names" "_law_names" sNames (He.ga K "_law_names") fd_Names := D_Names
  obtain ⟨fd_Mixed, D_Mixed⟩ := SayB.def_ c 11 (d := dd "_law_mixed" sMixed) rfl
  replace D_Mixed : FnS K "_law_mixed" "_law_mixed" sMixed (He.ga K "_law_mixed") fd_Mixed := D_Mixed
  obtain ⟨fd_LRooms, D_LRooms⟩ := SayB.def_ c 12 (d := dd "_law_rooms" sLRooms) rfl
  replace D_LRooms : FnS K "_law_rooms" "_law_rooms" sLRooms (He.ga K "_law_rooms") fd_LRooms := D_LRooms
  obtain ⟨fd_Refused, D_Refused⟩ := SayB.def_ c 13 (d := dd "_law_refused" sRefused) rfl
  replace D_Refused : FnS K "_law_refused" "_law_refused" sRefused (He.ga K "_law_refused") fd_Refused := D_Refused
  obtain ⟨fd_Law, D_Law⟩ := SayB.def_ c 14 (d := dd "law" sLaw) rfl
  replace D_Law : FnS K "law" "law" sLaw (He.ga K "law") fd_Law := D_Law
  obtain ⟨fd_CInit, D_CInit⟩ := SayB.def_ c 15 (d := dm "Counts" "__init__" "Counts.__init__" sCInit) rfl
  replace D_CInit : FnS K "__init__" "Counts.__init__" sCInit (He.ma K (He.ga K "Counts") "__init__") fd_CInit := D_CInit
  obtain ⟨fd_CThings, D_CThings⟩ := SayB.def_ c 16 (d := dm "Counts" "things" "Counts.things" sCThings) rfl
  replace D_CThings : FnS K "things" "Counts.things" sCThings (He.ma K (He.ga K "Counts") "things") fd_CThings := D_CThings
  obtain ⟨fd_CRooms, D_CRooms⟩ := SayB.def_ c 17 (d := dm "Counts" "rooms" "Counts.rooms" sCRooms) rfl
  replace D_CRooms : FnS K "rooms" "Counts.rooms" sCRooms (He.ma K (He.ga K "Counts") "rooms") fd_CRooms := D_CRooms
  obtain ⟨fd_CEq, D_CEq⟩ := SayB.def_ c 18 (d := dm "Counts" "__eq__" "Counts.__eq__" sCEq) rfl
  replace D_CEq : FnS K "__eq__" "Counts.__eq__" sCEq (He.ma K (He.ga K "Counts") "__eq__") fd_CEq := D_CEq
  obtain ⟨fd_NLot, D_NLot⟩ := SayB.def_ c 19 (d := dd "need_lot" sNLot) rfl
  replace D_NLot : FnS K "need_lot" "need_lot" sNLot (He.ga K "need_lot") fd_NLot := D_NLot
  obtain ⟨fd_FInit, D_FInit⟩ := SayB.def_ c 20 (d := dm "Family" "__init__" "Family.__init__" sFInit) rfl
  replace D_FInit : FnS K "__init__" "Family.__init__" sFInit (He.ma K (He.ga K "Family") "__init__") fd_FInit := D_FInit
  obtain ⟨fd_Rank1, D_Rank1⟩ := SayB.def_ c 21 (d := dm "Family" "rank_of" "Family.rank_of" sRank1) rfl
  replace D_Rank1 : FnS K "rank_of" "Family.rank_of" sRank1 (He.ma K (He.ga K "Family") "rank_of") fd_Rank1 := D_Rank1
  obtain ⟨fd_FThings, D_FThings⟩ := SayB.def_ c 22 (d := dm "Family" "things" "Family.things" sFThings) rfl
  replace D_FThings : FnS K "things" "Family.things" sFThings (He.ma K (He.ga K "Family") "things") fd_FThings := D_FThings
  obtain ⟨fd_FRank, D_FRank⟩ := SayB.def_ c 23 (d := dm "Family" "rank" "Family.rank" sFRank) rfl
  replace D_FRank : FnS K "rank" "Family.rank" sFRank (He.ma K (He.ga K "Family") "rank") fd_FRank := D_FRank
  obtain ⟨fd_FFree, D_FFree⟩ := SayB.def_ c 24 (d := dm "Family" "is_free" "Family.is_free" sFFree) rfl
  replace D_FFree : FnS K "is_free" "Family.is_free" sFFree (He.ma K (He.ga K "Family") "is_free") fd_FFree := D_FFree
  obtain ⟨fd_CWInit, D_CWInit⟩ := SayB.def_ c 25 (d := dm "CountsWorld" "__init__" "CountsWorld.__init__" sCWInit) rfl
  replace D_CWInit : FnS K "__init__" "CountsWorld.__init__" sCWInit (He.ma K (He.ga K "CountsWorld") "__init__") fd_CWInit := D_CWInit
  obtain ⟨fd_CWFree, D_CWFree⟩ := SayB.def_ c 26 (d := dm "CountsWorld" "count_free" "CountsWorld.count_free" sCWFree) rfl
  replace D_CWFree : FnS K "count_free" "CountsWorld.count_free" sCWFree (He.ma K (He.ga K "CountsWorld") "count_free") fd_CWFree := D_CWFree
  obtain ⟨fd_FOver, D_FOver⟩ := SayB.def_ c 27 (d := dd "first_over" sFOver) rfl
  replace D_FOver : FnS K "first_over" "first_over" sFOver (He.ga K "first_over") fd_FOver := D_FOver
  obtain ⟨fd_CFam, D_CFam⟩ := SayB.def_ c 28 (d := dd "counts_family" sCFam) rfl
  replace D_CFam : FnS K "counts_family" "counts_family" sCFam (He.ga K "counts_family") fd_CFam := D_CFam
  obtain ⟨fd_OvFull, D_OvFull⟩ := SayB.def_ c 29 (d := dd "over_full" sOvFull) rfl
  replace D_OvFull : FnS K "over_full" "over_full" sOvFull (He.ga K "over_full") fd_OvFull := D_OvFull
  obtain ⟨fd_TRooms, D_TRooms⟩ := SayB.def_ c 30 (d := dd "tight_rooms" sTRooms) rfl
  replace D_TRooms : FnS K "tight_rooms" "tight_rooms" sTRooms (He.ga K "tight_rooms") fd_TRooms := D_TRooms
  obtain ⟨fd_Tight, D_Tight⟩ := SayB.def_ c 31 (d := dd "tight" sTight) rfl
  replace D_Tight : FnS K "tight" "tight" sTight (He.ga K "tight") fd_Tight := D_Tight
  obtain ⟨fd_Lots, D_Lots⟩ := SayB.def_ c 32 (d := dd "_law_lots" sLots) rfl
  replace D_Lots : FnS K "_law_lots" "_law_lots" sLots (He.ga K "_law_lots") fd_Lots := D_Lots
  obtain ⟨fd_BadThings, D_BadThings⟩ := SayB.def_ c 33 (d := dm "BadThings" "__init__" "BadThings.__init__" xBadThings) rfl
  replace D_BadThings : FnS K "__init__" "BadThings.__init__" xBadThings (He.ma K (He.ga K "BadThings") "__init__") fd_BadThings := D_BadThings
  obtain ⟨fd_BadLot, D_BadLot⟩ := SayB.def_ c 34 (d := dm "BadLot" "__init__" "BadLot.__init__" xBadLot) rfl
  replace D_BadLot : FnS K "__init__" "BadLot.__init__" xBadLot (He.ma K (He.ga K "BadLot") "__init__") fd_BadLot := D_BadLot
  obtain ⟨fd_BadRooms, D_BadRooms⟩ := SayB.def_ c 35 (d := dm "BadRooms" "__init__" "BadRooms.__init__" xBadRooms) rfl
  replace D_BadRooms : FnS K "__init__" "BadRooms.__init__" xBadRooms (He.ma K (He.ga K "BadRooms") "__init__") fd_BadRooms := D_BadRooms
  obtain ⟨fd_CrossedRooms, D_CrossedRooms⟩ := SayB.def_ c 36 (d := dm "CrossedRooms" "__init__" "CrossedRooms.__init__" xCrossedRooms) rfl
  replace D_CrossedRooms : FnS K "__init__" "CrossedRooms.__init__" xCrossedRooms (He.ma K (He.ga K "CrossedRooms") "__init__") fd_CrossedRooms := D_CrossedRooms
  have e := hfa.symm.trans (g (x := "law") (by decide))
  cases e
  have b := FunD.bindsA (ps := ["_law_script"]) D_Law (fun _ _ _ _ _ _ us hl => match us, hl with | [_], _ => rfl)
  refine ⟨fd_Law, fun s v => b s [v] rfl, fun base _ _ => ?_⟩
  have x_BadThings : ExT P w K mg base "BadThings" "index" (He.ga K "BadThings") := excB_ok e0 (g (by decide)) (by
    obtain ⟨ps, o⟩ := ok_xinit (P := P) (w := w) (mg := mg) (base := base) (fld := "index") D_BadThings rfl ⟨rfl, rfl, rfl, by decide +kernel, rfl, by decide +kernel, by decide +kernel⟩ rfl rfl (by decide) (by decide) (fun _ _ _ _ _ _ us hl => match us, hl with | [_, _], _ => rfl)
    exact ⟨fd_BadThings, ps, o⟩)
  have x_BadLot : ExT P w K mg base "BadLot" "index" (He.ga K "BadLot") := excB_ok e1 (g (by decide)) (by
    obtain ⟨ps, o⟩ := ok_xinit (P := P) (w := w) (mg := mg) (base := base) (fld := "index") D_BadLot rfl ⟨rfl, rfl, rfl, by decide +kernel, rfl, by decide +kernel, by decide +kernel⟩ rfl rfl (by decide) (by decide) (fun _ _ _ _ _ _ us hl => match us, hl with | [_, _], _ => rfl)
    exact ⟨fd_BadLot, ps, o⟩)
  have x_BadRooms : ExT P w K mg base "BadRooms" "index" (He.ga K "BadRooms") := excB_ok e2 (g (by decide)) (by
    obtain ⟨ps, o⟩ := ok_xinit (P := P) (w := w) (mg := mg) (base := base) (fld := "index") D_BadRooms rfl ⟨rfl, rfl, rfl, by decide +kernel, rfl, by decide +kernel, by decide +kernel⟩ rfl rfl (by decide) (by decide) (fun _ _ _ _ _ _ us hl => match us, hl with | [_, _], _ => rfl)
    exact ⟨fd_BadRooms, ps, o⟩)
  have x_CrossedRooms : ExT2 P w K mg base "CrossedRooms" "one" "other" (He.ga K "CrossedRooms") := excB2_ok e3 (g (by decide)) (by
    obtain ⟨ps, o⟩ := ok_xinit2 (P := P) (w := w) (mg := mg) (base := base) (f1 := "one") (f2 := "other") D_CrossedRooms rfl ⟨rfl, rfl, rfl, by decide +kernel, rfl, by decide +kernel, by decide +kernel⟩ rfl rfl rfl (by decide) (by decide) (by decide) (by decide) (fun _ _ _ _ _ _ us hl => match us, hl with | [_, _, _], _ => rfl)
    exact ⟨fd_CrossedRooms, ps, o⟩)
  have c_LETTERS := He.str_ok X G (a 0 rfl)
  have c_MOST_LETTERS := He.int_ok X G (a 1 rfl)
  have c_MOST_THINGS := He.int_ok X G (a 2 rfl)
  have c_MOST_ROOMS := He.int_ok X G (a 3 rfl)
  have T_Counts : ClsT K "Counts" ["known", "held"] := clsB_ok e5
  have g_Counts : mg "Counts" = some (.ref (He.ga K "Counts")) := g (by decide)
  have T_Family : ClsF K "Family" ["names", "source", "counted"] := clsFB_ok e6
  have g_Family : mg "Family" = some (.ref (He.ga K "Family")) := g (by decide)
  have T_CountsWorld : ClsT K "CountsWorld" ["table"] := clsB_ok e7
  have g_CountsWorld : mg "CountsWorld" = some (.ref (He.ga K "CountsWorld")) := g (by decide)
  have x0_NotFree : Ex0T K mg "NotFree" := exc0B_ok e4 (g (by decide))
  have xm : ExmT K ["BadThings", "BadLot", "NotFree", "BadRooms", "CrossedRooms"] := exmB_ok e9
  have f_is_integer : Fn P w (T1 K) mg base 1 "is_integer" ["thing"] 0 F_IsInt := Fn.to (fn_of_ok D_IsInt (okr_IsInt (P := P) (w := w) (base := base) D_IsInt B) (g (by decide)) (fun _ _ _ _ _ _ us hl => match us, hl with | [_], _ => rfl)) n_IsInt
  have f_is_name : Fn P w (T1 K) mg base 1 "is_name" ["thing"] 0 F_IsName := Fn.to (fn_of_ok D_IsName (okr_IsName (P := P) (w := w) (base := base) D_IsName B c_LETTERS c_MOST_LETTERS) (g (by decide)) (fun _ _ _ _ _ _ us hl => match us, hl with | [_], _ => rfl)) n_IsName
  have f_first_wrong : Fn P w (T1 K) mg base 1 "first_wrong" ["items", "known"] 0 F_FirstW := Fn.to (fn_of_ok D_FirstW (okr_FirstW (P := P) (w := w) (base := base) D_FirstW B) (g (by decide)) (fun _ _ _ _ _ _ us hl => match us, hl with | [_, _], _ => rfl)) n_FirstW
  have f_need_things : Fn P w (T1 K) mg base 3 "need_things" ["things", "most"] 1 F_Need := Fn.to (fn_of_ok D_Need (okr_Need (P := P) (w := w) (base := base) D_Need B f_is_name x_BadThings) (g (by decide)) (fun _ _ _ _ _ _ us hl => match us, hl with | [_, _], _ => rfl)) n_Need
  have f_is_lot : Fn P w (T1 K) mg base 2 "is_lot" ["known", "thing"] 0 F_IsLot := Fn.to (fn_of_ok D_IsLot (okr_IsLot (P := P) (w := w) (base := base) D_IsLot B f_first_wrong) (g (by decide)) (fun _ _ _ _ _ _ us hl => match us, hl with | [_, _], _ => rfl)) n_IsLot
  have f_is_room : Fn P w (T1 K) mg base 3 "is_room" ["names", "room"] 0 F_IsRoom := Fn.to (fn_of_ok D_IsRoom (okr_IsRoom (P := P) (w := w) (base := base) D_IsRoom B f_is_integer f_is_lot) (g (by decide)) (fun _ _ _ _ _ _ us hl => match us, hl with | [_, _], _ => rfl)) n_IsRoom
  have f_shared : Fn P w (T1 K) mg base 1 "shared" ["one", "other"] 1 F_Shared := Fn.to (fn_of_ok D_Shared (okr_Shared (P := P) (w := w) (base := base) D_Shared ) (g (by decide)) (fun _ _ _ _ _ _ us hl => match us, hl with | [_, _], _ => rfl)) n_Shared
  have f_are_crossed : Fn P w (T1 K) mg base 2 "are_crossed" ["one", "other"] 0 F_AreX := Fn.to (fn_of_ok D_AreX (okr_AreX (P := P) (w := w) (base := base) D_AreX B f_shared) (g (by decide)) (fun _ _ _ _ _ _ us hl => match us, hl with | [_, _], _ => rfl)) n_AreX
  have f_need_lot : Fn P w (T1 K) mg base 3 "need_lot" ["known", "lot"] 0 F_NLot := Fn.to (fn_of_ok D_NLot (okr_NLot (P := P) (w := w) (base := base) D_NLot B f_first_wrong x_BadLot) (g (by decide)) (fun _ _ _ _ _ _ us hl => match us, hl with | [_, _], _ => rfl)) n_NLot
  have m_Counts : MkN P w (T1 K) mg base 4 "Counts" 2 F_CInit := MkN.to ⟨g (by decide), _, fd_CInit, _, He.mkr_ok (a 4 rfl), (okr_CInit (P := P) (w := w) (base := base) D_CInit B c_MOST_ROOMS c_MOST_THINGS f_are_crossed f_is_room f_need_things x_BadRooms x_CrossedRooms T_Counts), D_CInit.bindsN (fun _ _ _ _ _ _ us hl => match us, hl with | [_, _, _], _ => rfl)⟩ n_CInit
  have m_Counts_things : MtD P w (T1 K) mg base 1 "Counts" "things" 1 1 F_CThings := MtD.to ⟨T_Counts.cl, _, fd_CThings, _, He.meth_ok (a 7 rfl), (okr_CThings (P := P) (w := w) (base := base) D_CThings B T_Counts), D_CThings.bindsN (fun _ _ _ _ _ _ us hl => match us, hl with | [_], _ => rfl)⟩ n_CThings
  have m_Counts_rooms : MtD P w (T1 K) mg base 1 "Counts" "rooms" 1 2 F_CRooms := MtD.to ⟨T_Counts.cl, _, fd_CRooms, _, He.meth_ok (a 8 rfl), (okr_CRooms (P := P) (w := w) (base := base) D_CRooms B T_Counts), D_CRooms.bindsN (fun _ _ _ _ _ _ us hl => match us, hl with | [_], _ => rfl)⟩ n_CRooms
  have f_first_over : Fn P w (T1 K) mg base 2 "first_over" ["counts", "lot"] 0 F_FOver := Fn.to (fn_of_ok D_FOver (okr_FOver (P := P) (w := w) (base := base) D_FOver B f_shared T_Counts) (g (by decide)) (fun _ _ _ _ _ _ us hl => match us, hl with | [_, _], _ => rfl)) n_FOver
  have m_CountsWorld : MkD P w (T1 K) mg base 1 "CountsWorld" 1 F_CWInit := MkD.to ⟨g (by decide), _, fd_CWInit, _, He.mkr_ok (a 6 rfl), (okr_CWInit (P := P) (w := w) (base := base) D_CWInit T_CountsWorld), D_CWInit.bindsN (fun _ _ _ _ _ _ us hl => match us, hl with | [_, _], _ => rfl)⟩ n_CWInit
  have m_CountsWorld_count_free : MtD P w (T1 K) mg base 3 "CountsWorld" "count_free" 2 0 F_CWFree := MtD.to ⟨T_CountsWorld.cl, _, fd_CWFree, _, He.meth_ok (a 13 rfl), (okr_CWFree (P := P) (w := w) (base := base) D_CWFree B f_first_over T_CountsWorld), D_CWFree.bindsN (fun _ _ _ _ _ _ us hl => match us, hl with | [_, _], _ => rfl)⟩ n_CWFree
  have m_Family : MkF P w K mg base 1 F_FInit := ⟨g (by decide), _, fd_FInit, _, He.mkr_ok (a 5 rfl), okr_FInit (P := P) (w := w) (base := base) D_FInit B T_Family, D_FInit.bindsN (fun _ _ _ _ _ _ us hl => match us, hl with | [_, _, _], _ => rfl)⟩
  have m_Family_rank_of : MtD P w (T1 K) mg base 4 "Family" "rank_of" 2 0 F_Rank1 := MtD.to ⟨T_Family.cl, _, fd_Rank1, _, He.meth_ok (a 9 rfl), okr_RankOf (P := P) (w := w) (base := base) D_Rank1 T_Family m_CountsWorld_count_free, D_Rank1.bindsN (fun _ _ _ _ _ _ us hl => match us, hl with | [_, _], _ => rfl)⟩ n_Rank1
  have m_Family_things : MtD P w (T1 K) mg base 1 "Family" "things" 1 1 F_FThings := MtD.to ⟨T_Family.cl, _, fd_FThings, _, He.meth_ok (a 10 rfl), (okr_FThings (P := P) (w := w) (base := base) D_FThings B T_Family), D_FThings.bindsN (fun _ _ _ _ _ _ us hl => match us, hl with | [_], _ => rfl)⟩ n_FThings
  have m_Family_rank : MtD P w (T1 K) mg base 5 "Family" "rank" 2 0 F_FRank := MtD.to ⟨T_Family.cl, _, fd_FRank, _, He.meth_ok (a 11 rfl), (okr_FRank (P := P) (w := w) (base := base) D_FRank f_need_lot T_Family m_Family_rank_of), D_FRank.bindsN (fun _ _ _ _ _ _ us hl => match us, hl with | [_, _], _ => rfl)⟩ n_FRank
  have m_Family_is_free : MtD P w (T1 K) mg base 6 "Family" "is_free" 2 0 F_FFree := MtD.to ⟨T_Family.cl, _, fd_FFree, _, He.meth_ok (a 12 rfl), (okr_FFree (P := P) (w := w) (base := base) D_FFree B m_Family_rank), D_FFree.bindsN (fun _ _ _ _ _ _ us hl => match us, hl with | [_, _], _ => rfl)⟩ n_FFree
  have f_counts_family : Fn P w (T1 K) mg base 3 "counts_family" ["counts"] 0 F_CFam := Fn.to (fn_of_ok D_CFam (okr_CFam (P := P) (w := w) (base := base) D_CFam m_CountsWorld m_Counts_things m_Family) (g (by decide)) (fun _ _ _ _ _ _ us hl => match us, hl with | [_], _ => rfl)) n_CFam
  have f_over_full : Fn P w (T1 K) mg base 4 "over_full" ["counts", "lot"] 0 F_OvFull := Fn.to (fn_of_ok D_OvFull (okr_OvFull (P := P) (w := w) (base := base) D_OvFull f_first_over f_need_lot T_Counts) (g (by decide)) (fun _ _ _ _ _ _ us hl => match us, hl with | [_, _], _ => rfl)) n_OvFull
  have f_tight_rooms : Fn P w (T1 K) mg base 2 "tight_rooms" ["counts", "lot"] 1 F_TRooms := Fn.to (fn_of_ok D_TRooms (okr_TRooms (P := P) (w := w) (base := base) D_TRooms B f_shared T_Counts) (g (by decide)) (fun _ _ _ _ _ _ us hl => match us, hl with | [_, _], _ => rfl)) n_TRooms
  have f_tight : Fn P w (T1 K) mg base 4 "tight" ["counts", "lot"] 0 F_Tight := Fn.to (fn_of_ok D_Tight (okr_Tight (P := P) (w := w) (base := base) D_Tight f_first_over f_need_lot f_tight_rooms x0_NotFree T_Counts) (g (by decide)) (fun _ _ _ _ _ _ us hl => match us, hl with | [_, _], _ => rfl)) n_Tight
  have f__law_state : Fn P w (T1 K) mg base 1 "_law_state" ["_law_script"] 0 F_State := fn_of_ok D_State (okr_State (P := P) (w := w) (base := base) (T := T1 K) D_State B) (g (by decide)) (fun _ _ _ _ _ _ us hl => match us, hl with | [_], _ => rfl)
  have f__law_draw : Fn P w (T1 K) mg base 1 "_law_draw" ["_law_state_here", "_law_many"] 0 F_Draw := fn_of_ok D_Draw (okr_Draw (P := P) (w := w) (base := base) (T := T1 K) D_Draw B) (g (by decide)) (fun _ _ _ _ _ _ us hl => match us, hl with | [_, _], _ => rfl)
  have f__law_names : Fn P w (T1 K) mg base 2 "_law_names" ["_law_state_here", "_law_many"] 1 F_Names := Fn.to (fn_of_ok D_Names (okr_Names (P := P) (w := w) (base := base) D_Names B f__law_draw) (g (by decide)) (fun _ _ _ _ _ _ us hl => match us, hl with | [_, _], _ => rfl)) n_Names
  have f__law_mixed : Fn P w (T1 K) mg base 2 "_law_mixed" ["_law_state_here", "_law_items"] 1 F_Mixed := Fn.to (fn_of_ok D_Mixed (okr_Mixed (P := P) (w := w) (base := base) D_Mixed B f__law_draw) (g (by decide)) (fun _ _ _ _ _ _ us hl => match us, hl with | [_, _], _ => rfl)) n_Mixed
  have z_rooms : FnOk P w K mg base (L2.CX P w) 2 (He.ga K "_law_rooms") fd_LRooms ["_law_state_here", "_law_things", "_law_deep"] (spOf (T1 K) 1 3 (F_LR 0)) := ⟨fun vs H Q E s => s.1, fun A outer s H args us vs Q E hr e0 hb hv hsp => by
    obtain ⟨_, _, _, _, _, _, _, _, ⟨_, _, _, z, _⟩, _⟩ := hsp
    exact absurd z (Nat.not_lt_zero _)⟩
  have f0 : Fn P w (T1 K) mg base 2 "_law_rooms" ["_law_state_here", "_law_things", "_law_deep"] 1 (F_LR 0) := fn_of_ok D_LRooms z_rooms (g (by decide)) (fun _ _ _ _ _ _ us hl => match us, hl with | [_, _, _], _ => rfl)
  have f1 : Fn P w (T1 K) mg base 3 "_law_rooms" ["_law_state_here", "_law_things", "_law_deep"] 1 (F_LR 1) := Fn.to (fn_of_ok D_LRooms (okr_LRooms3 (P := P) (w := w) (base := base) D_LRooms B f__law_draw f__law_mixed f0) (g (by decide)) (fun _ _ _ _ _ _ us hl => match us, hl with | [_, _, _], _ => rfl)) (n_LRooms 0)
  have f2 : Fn P w (T1 K) mg base 4 "_law_rooms" ["_law_state_here", "_law_things", "_law_deep"] 1 (F_LR 2) := Fn.to (fn_of_ok D_LRooms (okr_LRooms4 (P := P) (w := w) (base := base) D_LRooms B f__law_draw f__law_mixed f1) (g (by decide)) (fun _ _ _ _ _ _ us hl => match us, hl with | [_, _, _], _ => rfl)) (n_LRooms 1)
  have f3 : Fn P w (T1 K) mg base 5 "_law_rooms" ["_law_state_here", "_law_things", "_law_deep"] 1 (F_LR 3) := Fn.to (fn_of_ok D_LRooms (okr_LRooms5 (P := P) (w := w) (base := base) D_LRooms B f__law_draw f__law_mixed f2) (g (by decide)) (fun _ _ _ _ _ _ us hl => match us, hl with | [_, _, _], _ => rfl)) (n_LRooms 2)
  have f__law_rooms : Fn P w (T1 K) mg base 6 "_law_rooms" ["_law_state_here", "_law_things", "_law_deep"] 1 F_LRooms := Fn.up f3 (by decide)
  have f__law_lots : Fn P w (T1 K) mg base 1 "_law_lots" ["_law_things"] 0 F_Lots := Fn.to (fn_of_ok D_Lots (okr_Lots (P := P) (w := w) (base := base) D_Lots ) (g (by decide)) (fun _ _ _ _ _ _ us hl => match us, hl with | [_], _ => rfl)) n_Lots
  have f__law_refused : Fn P w (T1 K) mg base 5 "_law_refused" ["_law_which", "_law_counts", "_law_lot"] 0 F_Refused := Fn.to (fn_of_ok D_Refused (okr_Refused (P := P) (w := w) (base := base) D_Refused f_over_full f_tight x_BadLot x0_NotFree xm) (g (by decide)) (fun _ _ _ _ _ _ us hl => match us, hl with | [_, _, _], _ => rfl)) n_Refused
  have okL := fn_down (okr_Law (P := P) (w := w) (base := base) D_Law B f__law_draw f__law_lots f__law_mixed f__law_names f__law_refused f__law_rooms f__law_state f_counts_family f_over_full m_Counts m_Counts_rooms m_Family_is_free m_Family_rank m_Family_things)
  exact okL.imp fun vs H Q E hs => sp_imp n_Law hs
end
theorem fams_only {K : PySem.W.Frag} {H : Hp} (h : Only H) : FamsOk K H := ⟨fun a dx t s c g e => by
    rcases h a with z | ⟨o, xs, z⟩
    · rw [z] at e; cases e
    · rw [z] at e; exact (by cases e), fun a a2 dx dx2 t t2 s s2 c g g2 e => by
    rcases h a with z | ⟨o, xs, z⟩
    · rw [z] at e; cases e
    · rw [z] at e; cases e⟩
end L48
open PySem PySem.W PySem.Calls PyProof.Rows
theorem PySem.Challenge.cw_bothfree_k48_whole_counts_by_all_lots_holds : PySem.Challenge.rw_bothfree_k48_whole_counts_by_all_lots.Holds := by
  w_on; o_law
  refine HandSHeadRun.head_any (r := OpenLaw.row PySem.Challenge.rw_bothfree_k48_whole_counts_by_all_lots) (q := view (OpenLaw.row PySem.Challenge.rw_bothfree_k48_whole_counts_by_all_lots).prog [46]) (H := L48.hk) (ob := L48.ob) (M := 67000) (loose := L48.loose) (d := HandSHeadRun.topDef (OpenLaw.row PySem.Challenge.rw_bothfree_k48_whole_counts_by_all_lots).prog 46) (kwd := []) L48.ob_eq
    (by kernel_rfl) (fun s => by kernel_rfl) L48.run (by kernel_rfl) (by kernel_rfl) (by kernel_rfl) (by rfl) (by first | assumption | decide +kernel) (by decide +kernel) ⟨rfl, rfl, rfl, rfl, rfl, by decide +kernel⟩ ?hw ?hc
  case hw => w_witness2
  case hc =>
    refine L2.walk_ofE (l := PySem.Challenge.rw_bothfree_k48_whole_counts_by_all_lots) (n := 63) (k := 8) (x := "_law_script") (CX := L2.CX0) rfl (by decide) (by kernel_rfl) ⟨rfl, by decide, by decide⟩ ?F (fun _ _ _ _ z => z)
    intro w mg fa h Y G hmg0
    obtain ⟨K, KX, c⟩ := Y
    have hmg : mg ("law" : PySem.Str) = some (.ref fa) := by
      have e : (HandSHeadRun.topDef (OpenLaw.row PySem.Challenge.rw_bothfree_k48_whole_counts_by_all_lots).prog 46).name = ("law" : PySem.Str) := by kernel_rfl
      rw [← e]
      exact hmg0
    obtain ⟨fd, hb, hF⟩ := L48.facts (P := (PySem.Challenge.rw_bothfree_k48_whole_counts_by_all_lots).prog) (w := w) KX G hmg c
    refine ⟨K, fd, L48.spL K, KX, hb, fun H a ns hl hO hS => ?_, hF⟩
    have sq : Dz.SqF K H a (ns.map L2.V.int) := by
      rcases hS with (hS | hS) | hS
      · rcases hO a with z | ⟨o, xs, z⟩
        · rw [z] at hS; cases hS
        · rw [z] at hS; cases hS
      · exact .inl hS
      · exact .inr hS
    exact ⟨rfl, [.scr ns], fun _ => False, fun d => d = .bl true, fun _ => False, L48.fams_only hO, fun _ z => z.elim, .cons (.scr sq) .nil, ⟨ns, rfl, rfl⟩, fun d v G e _ _ r => by subst e; exact Dz.rep_bl r, fun _ _ _ z => z.elim⟩
