import PyProof.Rows.All
import Wide.All
import OpenK.AllK
import Wide.FinOn
import KE.KStateDown
import HandS.ForMost
import HandS.ForExc
import HandS.Evl
import HandS.Walk
import HandS.More
import HandS.Flow
import HandS.Style
import HandS.IsInst
import HandS.ExcInit
import HandS.ExcField
import HandS.TryMany
import HandS.Conv
import HandS.DictComp
import HandS.OwnEq
import HandS.Defaults
import HandS.Head0
import HandS.Head1
import HandS.Head2
import HandS.HeadEnd
import HandS.HeadHook1
import HandS.HeadHook2
import HandS.HeadHook3
import HandS.HeadHook4
import PySem.Challenge.RW_bothfree_k08_webs_told_and_refused
import HandS.Codes
import HandS.Finally
import HandS.Ends
set_option Elab.async false
set_option linter.all false
set_option maxRecDepth 100000
set_option maxHeartbeats 0
/-! Bf: what all laws share: callees by name, the well as an abstract thing. -/
namespace Bf
open PySem PySem.Spec PyProof.Rows L2
/-! ### a callee of the module, by its name -/
def Cal (P : Program) (w : World) (K : PySem.W.Frag) (mg : Str → Option Value) (base : Heap) (CX : CXT) (k : Nat) (x : Str) (ps : List Str) (sp : Sp) : Prop :=
  ∃ (f : Addr) (fd : FuncData), FnOk P w K mg base CX k f fd ps sp ∧ mg x = some (.ref f) ∧ PySem.W.keepIn K (.ref f) = true ∧ Binds K fd ps []
section
variable {P : Program} {w : World} {K : PySem.W.Frag} {mg : Str → Option Value} {base : Heap} {CX : CXT} {k : Nat} {x : Str} {ps : List Str} {sp sp' : Sp}
theorem Cal.imp (C : Cal P w K mg base CX k x ps sp) (h : ∀ vs H Q E, sp' vs H Q E → sp vs H Q E) : Cal P w K mg base CX k x ps sp' := by
  obtain ⟨f, fd, F, g, kp, b⟩ := C
  exact ⟨f, fd, F.imp h, g, kp, b⟩
theorem Cal.mono {j : Nat} (C : Cal P w K mg base CX j x ps sp) (h : j ≤ k) : Cal P w K mg base CX k x ps sp := by
  obtain ⟨f, fd, F, g, kp, b⟩ := C
  exact ⟨f, fd, F.mono h, g, kp, b⟩
end
section
variable {X : Cx} {CX : CXT} {k : Nat} {ps : List Str} {sp : Sp} {E : XK} {x : Str} {p pos : Pos} {e : Expr} {es : List Expr} {t : TA}
theorem pe_cal (C : Cal X.prog X.w X.K X.mg X.base CX k x ps sp) (hr : Room k X.A) (hx : Passes CX X E) (ha : PA X (e :: es) t) (hg : Gl X x := by rfl)
    (hdb : (x == ("__debug__" : Str)) = false := by decide) (he : starEach (e :: es) X.env = (false, eval e X.env) :: starEach es X.env := by rfl) (hpl : (backTo pos (starEach es X.env)).any (·.1) = false := by rfl) :
    PE X (.Call (.Name x p) (e :: es) [] pos) (tCall sp [] E t) := by
  obtain ⟨f, fd, F, g, kp, b⟩ := C
  exact pe_call F hr hg g kp b .nil hx ha hdb he hpl
theorem pe_calS {E : L2.St → XK} (C : Cal X.prog X.w X.K X.mg X.base CX k x ps sp) (hr : Room k X.A) (hx : ∀ σ, PassesAt CX X σ (E σ)) (ha : PA X (e :: es) t) (hg : Gl X x := by rfl)
    (hdb : (x == ("__debug__" : Str)) = false := by decide) (he : starEach (e :: es) X.env = (false, eval e X.env) :: starEach es X.env := by rfl) (hpl : (backTo pos (starEach es X.env)).any (·.1) = false := by rfl) :
    PE X (.Call (.Name x p) (e :: es) [] pos) (tCallS sp E t) := by
  obtain ⟨f, fd, F, g, kp, b⟩ := C
  exact pe_callS F hr hg g kp b hx ha hdb he hpl
end
/-! ### the well -/
def wellO (a : Addr) : HO := .ext fun h => ∃ (i j k : Int) (t u v : Tok) (n : Nat), h.get? a = some { cls := .type "list", data := .seq #[.int i t, .int j u, .int k v] n }
abbrev wl (i j k : Int) : HO := .lst [.int i, .int j, .int k]
theorem wellO_own {a x : Addr} : wellO a ≠ .own x := fun z => by
  have z' : HO.ext _ = HO.own x := z
  cases z'
theorem wellO_tup {a : Addr} {xs : List V} : wellO a ≠ .tup xs := fun z => by
  have z' : HO.ext _ = HO.tup xs := z
  cases z'
section
variable {P : Program} {w : World} {H : Hp} {h : Heap} {a : Addr}
theorem hok_swap {o o' : HO} (ok : HOk P w H h) (e : H a = some o) (no : ∀ x, o ≠ .own x) (nt : ∀ xs, o ≠ .tup xs) (new : ObjOk P w (upd H a o') h a o') : HOk P w (upd H a o') h := fun b u q => by
  by_cases hb : b = a
  · subst hb; rw [upd_same] at q; cases q; exact new
  · rw [upd_ne hb] at q
    exact (ok b u q).stay (fun c v _ z => z) (fun c hc => by rw [upd_ne (at_ne e hc (no b))]; exact hc) (fun c xs hc => by rw [upd_ne (at_ne e hc (nt xs))]; exact hc)
theorem well_in (ok : HOk P w H h) (e : H a = some (wellO a)) : ∃ i j k, HOk P w (upd H a (wl i j k)) h := by
  have x : ObjOk P w H h a (.ext fun h => ∃ (i j k : Int) (t u v : Tok) (n : Nat), h.get? a = some { cls := .type "list", data := .seq #[.int i t, .int j u, .int k v] n }) := ok a _ e
  obtain ⟨⟨i, j, k, t, u, v, n, q⟩, _, _⟩ := x
  refine ⟨i, j, k, hok_swap ok e (fun _ => wellO_own) (fun _ => wellO_tup) ⟨by show 3 ≤ sizeLine; decide, [.int i t, .int j u, .int k v], n, .cons ⟨t, rfl⟩ (.cons ⟨u, rfl⟩ (.cons ⟨v, rfl⟩ .nil)), q⟩⟩
theorem well_of {i j k : Int} {H' : Hp} (x : ObjOk P w H h a (wl i j k)) : ObjOk P w H' h a (wellO a) := by
  obtain ⟨_, its, n, r, e⟩ := x
  cases r with
  | cons r1 r => cases r with
    | cons r2 r => cases r with
      | cons r3 r => cases r with
        | nil =>
          obtain ⟨t, rfl⟩ := r1
          obtain ⟨u, rfl⟩ := r2
          obtain ⟨v, rfl⟩ := r3
          exact ⟨⟨i, j, k, t, u, v, n, e⟩, ⟨_, e⟩, fun h1 h2 z kk => by
            obtain ⟨i, j, k, t, u, v, n, e⟩ := z
            exact ⟨i, j, k, t, u, v, n, kk _ e⟩⟩
theorem well_out {i j k : Int} (ok : HOk P w (upd H a (wl i j k)) h) : HOk P w (upd H a (wellO a)) h := by
  have q := hok_swap (o' := wellO a) ok upd_same (fun _ z => by cases z) (fun _ z => by cases z) (well_of (ok a _ upd_same))
  rw [upd_upd] at q
  exact q
theorem upd_self {o : HO} (e : H a = some o) : upd H a o = H := by
  funext b
  by_cases hb : b = a
  · rw [hb, upd_same, e]
  · rw [upd_ne hb]
theorem un_back {fs : List Addr} {h' : Heap} {o l1 l2 : HO} (e : H a = some o) (u : Un fs [] (upd H a l1) (upd H a l2) h h') : Un fs [] H H h h' where
  keep := fun b o q n hf hx => u.keep b o q (by rw [upd_ne (ne_of_none e n).symm]; exact n) hf hx
  slot := fun b o q n hf hx => u.slot b o q (by rw [upd_ne (ne_of_none e n).symm]; exact n) hf hx
  free := fun _ _ _ n _ => n
  there := u.there
  tups := fun _ _ q => q
  frzs := fun _ _ _ q => q
  tbls := fun _ _ q => ⟨#[], by rw [q]; simp⟩
theorem un_new {fs : List Addr} {h' : Heap} {l1 l2 : HO} (e : H a = none) (u : Un fs [] H (upd H a l1) h h') : Un fs [] H (upd H a l2) h h' where
  keep := u.keep
  slot := u.slot
  free := fun b o q n hx => by
    have z := u.free b o q n hx
    have hb : b ≠ a := fun hb => by
      rw [hb, upd_same] at z
      cases z
    rw [upd_ne hb]
    exact n
  there := u.there
  tups := fun b xs q => by rw [upd_ne (ne_of_none q e)]; exact q
  frzs := fun b o v q => by rw [upd_ne (ne_of_none q e)]; exact q
  tbls := fun b ps q => ⟨#[], by rw [upd_ne (ne_of_none q e), q]; simp⟩
end
/-- draw, the well told -/
def spDraw0 : Sp := fun vs H Q _ => ∃ (a : Addr) (i j k n : Int), vs = [.ref a, .int n] ∧ H a = some (wl i j k) ∧ 0 < n ∧ n < 1073741824 ∧ ∀ d i' j' k' : Int, 0 ≤ d → d < n → Q (.int d) (upd H a (wl i' j' k'))
/-- draw, the well a thing of its own -/
def spDraw : Sp := fun vs H Q _ => ∃ (a : Addr) (n : Int), vs = [.ref a, .int n] ∧ H a = some (wellO a) ∧ 0 < n ∧ n < 1073741824 ∧ ∀ d : Int, 0 ≤ d → d < n → Q (.int d) H
def spSource0 : Sp := fun vs H Q _ => ∃ n : Int, vs = [.int n] ∧ ∀ (p : Addr) (i j k : Int), H p = none → Q (.ref p) (upd H p (wl i j k))
def spSource : Sp := fun vs H Q _ => ∃ n : Int, vs = [.int n] ∧ ∀ p : Addr, H p = none → Q (.ref p) (upd H p (wellO p))
section
variable {P : Program} {w : World} {K : PySem.W.Frag} {mg : Str → Option Value} {base : Heap} {k : Nat} {f : Addr} {fd : FuncData} {ps : List Str}
theorem draw_abs (hp : ps.length = 2) (F : FnOk P w K mg base CX0 k f fd ps spDraw0) : FnOk P w K mg base CX0 k f fd ps spDraw := by
  refine ⟨fun vs H Q E h => ?_, fun A outer s H args us vs Q E hr e0 hb hv hsp => ?_⟩
  · obtain ⟨a, n, rfl, _⟩ := h
    exact hp.symm
  · obtain ⟨a, n, rfl, ha, h0, h1, q⟩ := hsp
    obtain ⟨i, j, k, hok1⟩ := well_in e0.hok ha
    have na : ∀ {b : Addr}, H b = none → b ≠ a := fun n => (ne_of_none ha n).symm
    have e1 : Env0 P w K mg base A outer s (upd H a (wl i j k)) := ⟨e0.frames, e0.mod, fun b o e => ⟨(e0.bs b o e).1, by rw [upd_ne (na (e0.bs b o e).2)]; exact (e0.bs b o e).2⟩, e0.bsz, e0.funs, fun b hb => by rw [upd_ne (na (e0.frf b hb))]; exact e0.frf b hb, hok1, e0.bare⟩
    refine codeAny_mono (F.run A outer s _ args us _ (fun v H' => ∃ d i' j' k' : Int, v = .int d ∧ 0 ≤ d ∧ d < n ∧ H' = upd H a (wl i' j' k')) E hr e1 hb hv ⟨a, i, j, k, n, rfl, upd_same, h0, h1, fun d i' j' k' d0 d1 => ⟨d, i', j', k', rfl, d0, d1, upd_upd⟩⟩) fun r s' h => ?_
    cases r with
    | error e => exact h
    | ok fl => cases fl with
      | ret u =>
        obtain ⟨v, H', os, bare, un, hok, rv, d, i', j', k', rfl, d0, d1, rfl⟩ := h
        have z := well_out hok
        rw [upd_self ha] at z
        exact ⟨.int d, H, os, bare, un_back ha un, z, rv, q d d0 d1⟩
      | next => exact h
      | brk => exact h
      | cont => exact h
theorem source_abs (hp : ps.length = 1) (F : FnOk P w K mg base CX0 k f fd ps spSource0) : FnOk P w K mg base CX0 k f fd ps spSource := by
  refine ⟨fun vs H Q E h => ?_, fun A outer s H args us vs Q E hr e0 hb hv hsp => ?_⟩
  · obtain ⟨n, rfl, _⟩ := h
    exact hp.symm
  · obtain ⟨n, rfl, q⟩ := hsp
    refine codeAny_mono (F.run A outer s _ args us _ (fun v H' => ∃ (p : Addr) (i j k : Int), v = .ref p ∧ H p = none ∧ H' = upd H p (wl i j k)) E hr e0 hb hv ⟨n, rfl, fun p i j k hp => ⟨p, i, j, k, rfl, hp, rfl⟩⟩) fun r s' h => ?_
    cases r with
    | error e => exact h
    | ok fl => cases fl with
      | ret u =>
        obtain ⟨v, H', os, bare, un, hok, rv, p, i, j, k, rfl, hp, rfl⟩ := h
        exact ⟨.ref p, _, os, bare, un_new hp un, well_out hok, rv, q p hp⟩
      | next => exact h
      | brk => exact h
      | cont => exact h
end
end Bf
/-! Bf, rules that were lacking: several clauses with names, an own == with either answer and its !=, sorted of a tuple of texts, == of dicts of data, a tuple turned about. -/
namespace Bf
open PySem PySem.Spec PyProof.Rows L2
/-! ### try: several clauses, each with a name -/
/-- behind the suite the name's slot i is empty -/
def offA (D : Ends) (i : Nat) : Ends :=
  { nx := fun τ G => D.nx (τ.set i none) G,
    rt := D.rt,
    bk := fun τ G => D.bk (τ.set i none) G,
    ct := fun τ G => D.ct (τ.set i none) G }
abbrev ClA := Value × Nat × (Addr → Value → Option Addr → TS)
def wNam (K : PySem.W.Frag) (Wo : WX) (D : Ends) : List ClA → WX
  | [] => Wo
  | (c, i, ts) :: r => fun cl d τ G =>
      ∃ b, PySem.W.exmOne K cl c = some b ∧
        (b = true → ∀ a, G a = none → ts a cl d (offA D i) (τ.set i (some (.ref a))) G) ∧
        (b = false → wNam K Wo D r cl d τ G)
inductive ClsA (X : Cx) : List ExceptHandler → List ClA → Prop
  | nil : ClsA X [] []
  | cons {x n : Str} {c : Value} {i : Nat} {ts : Addr → Value → Option Addr → TS} {b0 : Stmt} {su : List Stmt} {np ps : Pos} {hs : List ExceptHandler} {l : List ClA}
      (hc : Names X x c) (hi : X.N[i]? = some n) (hl : X.env.kindOf n = some .local)
      (hsu : ∀ (a : Addr) (oe : Obj) (cl : Value) (d : Option Addr) (pn : List (Addr × Obj)), Zc cl d oe → (∃ vs, oe.data = .fields vs) →
        PSs (X.suite a ((a, oe) :: pn)) (b0 :: su) (ts a cl d)) (r : ClsA X hs l) :
      ClsA X (.ExceptHandler (some (.Name x np)) (some n) (b0 :: su) ps :: hs) ((c, i, ts) :: l)
section
variable {X : Cx} {body : List Stmt} {h0 : ExceptHandler} {hds : List ExceptHandler} {l : List ClA} {pos : Pos} {tb : WX → TS} {Wo : WX}
theorem ps_try_nam (hs : X.stack = X.env :: X.outer) (hf : X.env.frame = some X.env.locals) (hN : X.N.Nodup) (tk : Takes X Wo)
    (hb : ∀ (W : WX) (pn : List (Addr × Obj)) (xe : Value → Shared → Prop), Takes (X.tr pn xe) W → PassesOwn (model X.prog X.w) X.A X.env xe →
      PSs (X.tr pn xe) body (tb W)) (hh : ClsA X (h0 :: hds) l) :
    PS X (.Try body (h0 :: hds) [] [] pos) (fun D τ G => tb (wNam X.K Wo D l) D τ G) := by
  refine ⟨fun pins s τ G D I h => wpAny_Try_except ?_⟩
  have ok := I.ok
  have frs_eq : X.A.frames = some (X.env :: X.outer) := by rw [ok.frames, hs]
  refine wpAny_mono ((hb (wNam X.K Wo D l) (X.pn ++ pins) (fun e t1 => wpAny (model X.prog X.w) X.A (noteFrame e X.env) (fun _ t2 =>
      wpAny (model X.prog X.w) X.A (setFlight e none) (fun _ t3 => wpAny (model X.prog X.w) X.A (handleBy e X.env (h0 :: hds)) (SP X pins D) X.xe t3) X.xe t2) X.xe t1)
    (fun u s' xx => ?_) PassesOwn.looking).run [] s τ G D (I.toTry _) h) (fun f t1 hsp => ?_) (fun _ _ he => he)
  · obtain ⟨a, B, sI, pins', τ', G', cl, d, rfl, J0, nb, up, sky, na, os, ag, w⟩ := xx
    have J : Inv X pins τ' G' sI := J0.ofTry ok
    have sky1 : Sky B (X.env :: X.outer) a (Zc cl d) X.env.locals s'.heap := by rw [← hs]; exact sky
    show wpAny (model X.prog X.w) X.A (noteFrame (.ref a) X.env) _ _ _
    refine Sky.land Zc.steady frs_eq hf sky1 fun g3 fl up3 => ?_
    have J3 : Inv X pins τ' G' { s' with heap := g3 } := J.landed nb fl.1 (up.trans up3) os ag
    obtain ⟨o3, v3, q3, z3, d3⟩ := fl.there
    have out : a ∉ frs (X.env :: X.outer) := fun hm => by
      obtain ⟨_, o', e', hnf⟩ := fl.2.2.1.mem hm
      rw [q3] at e'; cases e'
      exact hnf _ d3
    have nL : a ≠ X.env.locals := fun z => out (List.mem_filterMap.mpr ⟨X.env, List.mem_cons_self, by rw [hf, z]⟩)
    have nF : a ∉ X.fs := fun hm => by
      obtain ⟨e, he, q⟩ := List.mem_filterMap.mp hm
      exact out (List.mem_filterMap.mpr ⟨e, List.mem_cons_of_mem _ he, q⟩)
    have S3 := J3.suite q3 d3 na nL nF
    have all : ∀ {hl : List ExceptHandler} {m : List ClA}, ClsA X hl m → wNam X.K Wo D m cl d τ' G' →
        wpAny (model X.prog X.w) X.A (handleBy (.ref a) X.env hl) (SP X pins D) X.xe { s' with heap := g3 } := by
      intro hl m hk
      induction hk with
      | nil =>
        intro w
        refine wpAny_handleBy_nil ?_
        obtain ⟨_, _, _, oe, vs, T, oT, _, he, _, hd, e1, _⟩ := id fl
        unfold PySem.passOn
        refine wpAny_bind (wpAny_field he hd e1 ?_)
        rw [if_neg (show ¬ ((Value.ref T == Value.none) = true) by simp)]
        have last : wpAny (model X.prog X.w) X.A (setFlight (.ref a) X.env.frame) (fun _ t4 =>
            wpAny (model X.prog X.w) X.A (throw (.ref a) : Sem Flow) (SP X pins D) X.xe t4) X.xe { s' with heap := g3 } := by
          rw [hf]
          refine HandSPX.setFlight_upZ fl fun g4 y4 up4 => wpAny_throw (tk _ _ ?_)
          refine ⟨a, B, sI, pins, τ', G', cl, d, rfl, J, nb, (up.trans up3).trans up4, .inr (.inr ?_), na, os, ag, w⟩
          rw [hs]
          exact y4
        first
          | exact wpAny_bind (wpAny_pure (wpAny_bind last))
          | exact wpAny_bind last
      | @cons x n c i ts b0 su np ps hs2 l2 hc hi hl hsu r ih =>
        intro w
        obtain ⟨b, eb, yes, no⟩ := w
        refine wpAny_handleBy_cons (codeAny_handlers_test ?_) (by intro q; cases q)
        have ty : PySem.W.Looks (model X.prog X.w) g3 (typeOf (.ref a)) cl := fun A Q E s k q =>
          wpAny_typeOf_ref (k _ _ q3) (by rw [z3.1]; exact q)
        have hit := PySem.W.exm_one (M := model X.prog X.w) (J3.kIn) ty eb
        have test : ∀ {Q : Value → Shared → Prop} {E : Value → Shared → Prop}, Q c { s' with heap := g3 } →
            wpAny (model X.prog X.w) (X.A.mark (some (.ref a))) (eval (.Name x np) X.env) Q E { s' with heap := g3 } := fun {Q E} q => by
          obtain ⟨hg, dbg, hm | ⟨hm, hv, hnn⟩⟩ := hc
          · exact ld_glob (X := X.suite a ((a, o3) :: (X.pn ++ pins))) S3 hg hm q dbg
          · exact ld_blt (X := X.suite a ((a, o3) :: (X.pn ++ pins))) S3 hg hm hv q hnn dbg
        refine test (hit.here ?_)
        cases b with
        | false => exact ih (no rfl)
        | true =>
          refine codeAny_handlers_suite_as (HandSPX.lands_againZ fl fun g4 fl4 up4 => ?_)
          have J4 : Inv X pins τ' G' { s' with heap := g4 } := J.landed nb fl4.1 ((up.trans up3).trans up4) os ag
          obtain ⟨o4, v4, q4, z4, d4⟩ := fl4.there
          have S4 := J4.suite q4 d4 na nL nF
          refine store_ok (X := X.suite a ((a, o4) :: (X.pn ++ pins))) (v := .ref a) S4 hN hi (.inl hl) rfl (fun t5 S5 => ?_) (.inr hl)
          refine wpAny_mono ((hsu a o4 cl d (X.pn ++ pins) z4 ⟨_, d4⟩).run [] t5 _ G' _ S5 (yes rfl a na)) (fun f t6 hsp => ?_) (fun _ _ z => z.elim)
          have fin : ∀ {σ6 : L2.St} {H6 : Hp} {Q : Shared → Prop}, Inv (X.suite a ((a, o4) :: (X.pn ++ pins))) [] σ6 H6 t6 →
              (∀ t7, Inv X pins (σ6.set i none) H6 t7 → Q t7) →
              wpAny (model X.prog X.w) X.A (do bindName X.env n .none; unbindBehindTheSuite X.env n ps) (fun _ t7 => Q t7) X.xe t6 :=
            fun S6 hq => gone_ok (S6.unsuite ok) hN hi hl hq
          cases f with
          | next => obtain ⟨_, _, S6, q6⟩ := hsp; exact fin S6 fun _ J7 => ⟨_, _, J7, q6⟩
          | brk => obtain ⟨_, _, S6, q6⟩ := hsp; exact fin S6 fun _ J7 => ⟨_, _, J7, q6⟩
          | cont => obtain ⟨_, _, S6, q6⟩ := hsp; exact fin S6 fun _ J7 => ⟨_, _, J7, q6⟩
          | ret u => obtain ⟨_, _, _, S6, r6, q6⟩ := hsp; exact fin S6 fun _ J7 => ⟨_, _, _, J7, r6, q6⟩
    exact all hh w
  · cases f with
    | next => obtain ⟨_, _, J1, q⟩ := hsp; exact wpAny_execs_nil ⟨_, _, J1.ofTry ok, q⟩
    | brk => obtain ⟨_, _, J1, q⟩ := hsp; exact ⟨_, _, J1.ofTry ok, q⟩
    | cont => obtain ⟨_, _, J1, q⟩ := hsp; exact ⟨_, _, J1.ofTry ok, q⟩
    | ret u => obtain ⟨_, _, _, J1, r, q⟩ := hsp; exact ⟨_, _, _, J1.ofTry ok, r, q⟩
end
/-! ### sorted of a tuple of texts -/
def rSortedTS (K : PySem.W.Frag) : List V → Hp → VK → Prop := fun vs H Q => ∃ (a : Addr) (xs : List Str), vs = [V.ref a] ∧ SqT K H a (xs.map V.str) ∧ xs.length < 64 ∧
  ∀ (ys : List Str) (p : Addr), ys.Perm xs → sortedS ys = true → H p = none → Q (.ref p) (upd H p (.lst (ys.map V.str)))
theorem cr_sortedTS {X : Cx} : CallR X (.builtin "sorted") (rSortedTS X.K) := by
  intro pins s σ H vs us Q I r h
  obtain ⟨a, xs, rfl, hs, h64, q⟩ := h
  obtain ⟨its, rv, ⟨o, ho, hc, n, hd⟩, _⟩ := I.tuple hs
  rw [Vals.ref1 r]
  have hl0 : its.length = xs.length := by
    have e := rv.length
    rw [List.length_map] at e
    exact e.symm
  have hS : StrsAre its xs := rv.strs
  refine Calls.call_function_entry PyProof.Rows.kind_sorted PyProof.Rows.plain_sorted PyProof.Rows.entry_sorted (PyProof.Rows.args_sorted1 _) ?_
  unfold Builtin.«sorted»
  refine wpAny_bind (m := checkCount "sorted" 1 1 _) (wpAny_pure (wpAny_bind (wpAny_collect_seq a (.inr rfl) ho hc hd (fun g hk => ?_) (by simp only [List.size_toArray, sizeLine_eq]; omega))))
  have I1 : Inv X pins σ H { s with heap := g, toks := s.toks } := I.kept hk
  refine wpAny_bind (wpAny_newList ?_ (by simp only [sizeLine_eq]; omega))
  have hoL : (g.push (seqObj "list" its.toArray 0)).get? g.objs.size = some (seqObj "list" its.toArray 0) := Heap.get?_push_size _ rfl
  refine wpAny_bind (wpAny_holding (wpAny_call_entry PyProof.Rows.slot_list_sort ⟨_, hoL, rfl⟩ PyProof.Rows.entry_list_sort
    (list_sort_treeK strKind_oneLt (s := { s with heap := g.push (seqObj "list" its.toArray 0) }) hoL hS.keysOf (fun v₁ v₂ rest e => keyKind_strs (by rw [← e]; exact hS)) (by omega) fun st' hp hq => ⟨_, rfl, ?_⟩) (PyProof.Rows.args_list_sort _)))
  obtain ⟨ys, g1, g2, g3⟩ := sorted_out_str hS hp hq
  obtain ⟨e', he'⟩ := PyProof.Rows.sortedHeap_at (vs := its) (out := (arrOf st').map (·.2)) hoL
  have hlen : (ys.map V.str).length ≤ sizeLine := by
    rw [List.length_map, g2.length_eq, sizeLine_eq]
    omega
  refine wpAny_pure ⟨_, rfl, .ref g.objs.size, upd H g.objs.size (.lst (ys.map V.str)), I1.laid (t' := s.toks) (fun b u e => ?_) (Nat.le_refl _)
    ⟨hlen, ((arrOf st').map (·.2)).toList, e', vals_of_strs g1, by rw [Array.toArray_toList]; exact he'⟩, rfl, q ys _ g2 g3 (I1.hok.fresh (Nat.le_refl _))⟩
  have hb : b < g.objs.size := Heap.lt_size e
  rw [PyProof.Rows.sortedHeap_old (Nat.ne_of_lt hb) (by rw [size_push']; exact Nat.lt_succ_of_lt hb)]
  exact Heap.get?_push_of_some _ e
end Bf
namespace Bf
open PySem PySem.Spec PyProof.Rows L2 HT
/-! ### a pair turned about: t[::-1] -/
section
variable {prog : Program} {w : World} {A : Around} {E : Value → Shared → Prop} {s : Shared}
theorem applied_rev {sl : Addr} {vs : Value} {Q : Int × Int × Nat → Shared → Prop} (hs : s.heap.IsSliceOf sl .none .none vs) (ps : IsPart vs (some (-1))) (h : Q ((1 : Int), -1, 2) s) :
    wpAny (model prog w) A (Builtin.Slice.sliceApplied (.ref sl) (pure ((2 : Nat) : Int))) Q E s := by
  obtain ⟨os, e1, e2, e3⟩ := id hs
  unfold Builtin.Slice.sliceApplied Builtin.Slice.sliceFields
  refine wpAny_bind (wpAny_bind (wpAny_field e1 e3 (x := .none) rfl (wpAny_bind (wpAny_field e1 e3 (x := .none) rfl (wpAny_bind (wpAny_field e1 e3 (x := vs) rfl (wpAny_pure ?_)))))))
  refine wpAny_bind (slicePart_ ps ?_)
  show wpAny _ _ (if ((-1 : Int) == 0) = true then _ else _) _ _ s
  rw [if_neg (by decide)]
  refine wpAny_bind (slicePart_ .none (wpAny_bind (slicePart_ .none (wpAny_bind (wpAny_pure ?_)))))
  exact wpAny_pure h
theorem pair_rev {t sl : Addr} {u v vs : Value} {Q : Value → Shared → Prop} (ht : IsTup s.heap t #[u, v]) (hs : s.heap.IsSliceOf sl .none .none vs) (ps : IsPart vs (some (-1)))
    (h : Q (.ref s.heap.objs.size) { s with heap := s.heap.push { cls := .type "tuple", data := .seq #[v, u] } }) : wpAny (model prog w) A (getItem (.ref t) (.ref sl)) Q E s := by
  obtain ⟨os, e1, e2, e3⟩ := id hs
  have ty : s.TypeIs (.ref sl) "slice" := ⟨os, e1, e2⟩
  have two : sizeOk (.seq (#[v, u] : Array Value)) := by show 2 ≤ sizeLine; decide
  unfold getItem
  try with_reducible refine wpAny_holding ?_
  first | refine wpAny_bind (wpAny_pure ?_) | skip
  refine wpAny_bind (wpAny_sequenceKey ht.typeIs (by decide) (wpAny_bind (wpAny_callSpecial?_slot (name := Str.ofString "__getitem__") ht.typeIs PyProof.Rows.slot_tuple_getitem
    (wpAny_call_entry PyProof.Rows.slot_tuple_getitem ht.typeIs entry_tuple_getitem ?_ (args_tuple_getitem _ _)))))
  show wpAny _ _ (Builtin.Tuple.tupleItemsOf (.ref t) >>= _) _ _ s
  refine wpAny_bind (tupleItemsOf_ ht (wpAny_bind (wpAny_typeOf ty ?_)))
  rw [if_pos (by decide)]
  refine wpAny_bind (applied_rev hs ps ?_)
  show wpAny _ _ (if ((1 : Int) == 0 && (-1 : Int) == 1 && (2 : Nat) == 2) = true then _ else _) _ _ s
  rw [if_neg (by decide)]
  first
    | exact wpAny_bind (m := Builtin.Tuple.tupleExact _) (wpAny_newObj_type (wpAny_pure ⟨_, rfl, wpAny_pure h⟩) two)
    | exact wpAny_bind (m := Builtin.Tuple.tupleExact _) (wpAny_newObj_type (wpAny_bind (wpAny_pure (wpAny_pure ⟨_, rfl, wpAny_pure h⟩))) two)
    | exact wpAny_bind (wpAny_bind (m := Builtin.Tuple.tupleExact _) (wpAny_newObj_type (wpAny_pure (wpAny_pure ⟨_, rfl, wpAny_pure h⟩)) two))
    | exact wpAny_bind (wpAny_bind (m := Builtin.Tuple.tupleExact _) (wpAny_newObj_type (wpAny_pure ⟨_, rfl, wpAny_pure h⟩) two))
end
section
variable {X : Cx}
def tRevP (K : PySem.W.Frag) (te : TE) : TE := fun σ H Q => te σ H fun x H1 => ∃ a u v, x = .ref a ∧ SqT K H1 a [u, v] ∧ ∀ p, H1 p = none → Q (.ref p) (upd H1 p (.tup [v, u]))
theorem pe_revP {e : Expr} {te : TE} {k : Nat} {p1 p2 p3 pos : Pos} (he : PE X e te) : PE X (.Subscript e (.Slice none none (some (.UnaryOp .USub (.Constant (.int 1) k p1) p2)) p3) pos) (tRevP X.K te) := by
  refine ⟨fun pins s σ H Q I h => Subscript_ (thn (he.run pins s σ H _ I h) fun v s1 ⟨x, H1, I1, r1, q1⟩ => ?_)⟩
  obtain ⟨a, u1, u2, ex, hx, q⟩ := q1
  subst ex
  cases r1
  have hst : PO X (some (.UnaryOp .USub (.Constant (.int 1) k p1) p2)) (tPart (tUn (rU fun i => .int (-i)) (tC (.int 1)))) := po_some (pe_un un_neg pe_int)
  refine wpAny_Slice (thn (po_none.run pins s1 σ H1 (fun o G => o = none ∧ G = H1) I1 ⟨rfl, rfl⟩) fun vl s2 ⟨l, H2, I2, pl, el, e2⟩ => ?_)
  subst el e2
  refine thn (po_none.run pins s2 σ H2 (fun o G => o = none ∧ G = H2) I2 ⟨rfl, rfl⟩) fun vu s3 ⟨u, H3, I3, pu, eu, e3⟩ => ?_
  subst eu e3
  refine thn (hst.run pins s3 σ H3 (fun o G => o = some (-1) ∧ G = H3) I3 ⟨1, rfl, -1, rfl, rfl, rfl⟩) fun vs s4 ⟨o, H4, I4, ps, eo, e4⟩ => ?_
  subst eo e4
  have I5 : Inv X pins σ H4 { s4 with heap := s4.heap.push { cls := .type "slice", data := .fields #[vl, vu, vs] } } := I4.kept (t' := s4.toks) fun b ob q => Heap.get?_push_of_some _ q
  obtain ⟨its, r, ht, hz⟩ := I5.tuple hx
  cases r with
  | cons ra r => cases r with
    | cons rb r => cases r with
      | nil =>
        cases pl
        cases pu
        refine tail_any (ops := [.ref a, .ref s4.heap.objs.size]) ht.typeIs (PyProof.Rows.slot_tuple_getitem.lookup) ?_ (by with_unfolding_all rfl)
        refine pair_rev ht (Heap.IsSliceOf.new _ _ _ vs) ps ?_
        refine ⟨.ref _, _, I5.laid (t' := s4.toks) (o := .tup [u2, u1]) (fun b ob q => Heap.get?_push_of_some _ q) (Nat.le_refl _) ?_, rfl, q _ (I5.hok.fresh (Nat.le_refl _))⟩
        exact ⟨by show 2 ≤ sizeLine; decide, _, .cons rb (.cons ra .nil), IsTup.new _ _⟩
end
/-! ### == of dicts whose values are data -/
section
variable {X : Cx} {pins : List (Addr × Obj)} {σ : L2.St} {H : Hp} {s : Shared}
/-- the values told as data -/
def KvD (K : PySem.W.Frag) (H : Hp) : List (Key × V) → List (Key × PyData) → Prop := Paired fun p q => p.1 = q.1 ∧ Dp K H p.2 q.2 ∧ SeqAt.shaped q.2 = true
def look (es : List (Key × PyData)) (k : Key) : Option PyData := (es.find? fun e => decide (e.1 = k)).map (·.2)
def hitsD (es : List (Key × PyData)) : List (Key × PyData) → Bool
  | [] => true
  | (k, d) :: r => match look es k with
    | none => false
    | some e => PyData.eqv d e && hitsD es r
def dictEq (ds es : List (Key × PyData)) : Bool := ds.length == es.length && hitsD es ds
theorem KvD.look_none {K : PySem.W.Frag} {ls : List (Key × V)} {es : List (Key × PyData)} {vb : List (Key × Value)} {k : Key} (h : KvD K H ls es) (r : KV ls vb) (e : look es k = none) : valueAt vb k = none := by
  have z : RelO (valV ls k) (valueAt vb k) := r.val k
  have q : valV ls k = none := by
    unfold KvD at h
    unfold valV
    unfold look at e
    clear z r
    induction h with
    | nil => rfl
    | @cons p q ps qs a t ih =>
      rw [List.find?_cons] at e ⊢
      rw [a.1]
      cases c : decide (q.1 = k) with
      | true =>
        rw [c] at e
        cases e
      | false =>
        rw [c] at e
        exact ih e
  rw [q] at z
  cases y : valueAt vb k with
  | none => rfl
  | some u => rw [y] at z; exact z.elim
theorem KvD.look_some {K : PySem.W.Frag} {ls : List (Key × V)} {es : List (Key × PyData)} {vb : List (Key × Value)} {k : Key} {d : PyData} (h : KvD K H ls es) (r : KV ls vb) (e : look es k = some d) :
    ∃ v u, valueAt vb k = some u ∧ RelV v u ∧ Dp K H v d ∧ SeqAt.shaped d = true := by
  have z : RelO (valV ls k) (valueAt vb k) := r.val k
  have q : ∃ v, valV ls k = some v ∧ Dp K H v d ∧ SeqAt.shaped d = true := by
    unfold KvD at h
    unfold valV
    unfold look at e
    clear z r
    induction h with
    | nil => cases e
    | @cons p q ps qs a t ih =>
      rw [List.find?_cons] at e ⊢
      rw [a.1]
      cases c : decide (q.1 = k) with
      | true =>
        rw [c] at e
        have e' : q.2 = d := Option.some.inj e
        exact ⟨p.2, rfl, e' ▸ a.2.1, e' ▸ a.2.2⟩
      | false =>
        rw [c] at e
        exact ih e
  obtain ⟨v, e1, e2, e3⟩ := q
  rw [e1] at z
  obtain ⟨u, hu, ru⟩ := RelO.some_of z
  exact ⟨v, u, hu, ru, e2, e3⟩
theorem hits_run (I : Inv X pins σ H s) {A : Around} (hu : A.units + 64 < cLine) {ls : List (Key × V)} {es : List (Key × PyData)} {vb : List (Key × Value)} (hb : KvD X.K H ls es) (rb : KV ls vb) :
    ∀ {ks : List (Key × V)} {ds : List (Key × PyData)} {va : List (Key × Value)}, KvD X.K H ks ds → KV ks va → PySem.W.KeqHits A s vb va (hitsD es ds) := by
  intro ks ds va h
  unfold KvD at h
  induction h generalizing va with
  | nil =>
    intro r
    cases r
    exact .nil
  | @cons p q ps qs a t ih =>
    intro r
    cases r with
    | @cons _ z _ zs b rt =>
      obtain ⟨k, d⟩ := q
      obtain ⟨k', v'⟩ := z
      obtain ⟨p1, p2⟩ := p
      obtain ⟨a1, a2, a3⟩ := a
      obtain ⟨b1, b2⟩ := b
      dsimp only at a1 a2 a3 b1 b2
      subst a1 b1
      show PySem.W.KeqHits A s vb ((p1, v') :: zs) (match look es p1 with | none => false | some e => PyData.eqv d e && hitsD es qs)
      cases e : look es p1 with
      | none => exact .miss (hb.look_none rb e)
      | some d2 =>
        obtain ⟨v2, u2, e1, r2, h2, s2⟩ := hb.look_some rb e
        obtain ⟨as, g1⟩ := Dp.reads I d _ _ a2 b2
        obtain ⟨bs, g2⟩ := Dp.reads I d2 _ _ h2 r2
        have c1 := (Bool.and_eq_true_iff.mp (show (d.canLay0 && decide (d.depth ≤ 64)) = true from a3))
        have c2 := (Bool.and_eq_true_iff.mp (show (d2.canLay0 && decide (d2.depth ≤ 64)) = true from s2))
        have c3 := of_decide_eq_true c1.2
        exact .hit e1 (SeqAt.eqAt_reads d d2 A s _ _ as bs g1 g2 c1.1 c2.1 (by omega)) (ih rt)
end
section
variable {X : Cx}
def rEqDD (K : PySem.W.Frag) (neg : Bool) : R2 := fun x y H Q => ∃ a b ks ls ds es, x = .ref a ∧ y = .ref b ∧ Rd H a (.dK ks) ∧ Rd H b (.dK ls) ∧ KvD K H ks ds ∧ KvD K H ls es ∧ Q (.bl (if neg then !dictEq ds es else dictEq ds es)) H
theorem KvD.len {K : PySem.W.Frag} {H : Hp} {ks : List (Key × V)} {ds : List (Key × PyData)} (h : KvD K H ks ds) : ks.length = ds.length := Paired.length h
theorem op_eqDD (hu : X.A.units + 65 < cLine) : OpR X (compareOp .Eq) (rEqDD X.K false) := by
  intro pins s σ H x y v u Q I rx ry h
  obtain ⟨a, b, ks, ls, ds, es, rfl, rfl, ha, hb, h1, h2, q⟩ := h
  obtain rfl : v = Value.ref a := rx
  obtain rfl : u = Value.ref b := ry
  obtain ⟨_, ya, va, ra, da⟩ := (show ObjOk X.prog X.w H s.heap a (.dK ks) from ha.ok I.hok)
  obtain ⟨_, yb, vb, rb, db⟩ := (show ObjOk X.prog X.w H s.heap b (.dK ls) from hb.ok I.hok)
  refine PySem.W.keq_eq (knd := mixKind X.prog X.w) (r := hitsD es ds) ya yb da db (by omega) (fun _ => hits_run I (A := X.A.in1) (by show X.A.units + 1 + 64 < cLine; omega) h2 rb h1 ra) ?_
  refine ⟨.bl _, H, I, rfl, ?_⟩
  have e : (va.length == vb.length) = (ds.length == es.length) := by rw [← ra.length, ← rb.length, h1.len, h2.len]
  rw [e]
  exact q
theorem op_neDD (hu : X.A.units + 65 < cLine) : OpR X (compareOp .NotEq) (rEqDD X.K true) := by
  intro pins s σ H x y v u Q I rx ry h
  obtain ⟨a, b, ks, ls, ds, es, rfl, rfl, ha, hb, h1, h2, q⟩ := h
  obtain rfl : v = Value.ref a := rx
  obtain rfl : u = Value.ref b := ry
  obtain ⟨_, ya, va, ra, da⟩ := (show ObjOk X.prog X.w H s.heap a (.dK ks) from ha.ok I.hok)
  obtain ⟨_, yb, vb, rb, db⟩ := (show ObjOk X.prog X.w H s.heap b (.dK ls) from hb.ok I.hok)
  refine PySem.W.keq_ne (knd := mixKind X.prog X.w) (r := hitsD es ds) ya yb da db (by omega) (fun _ => hits_run I (A := X.A.in1) (by show X.A.units + 1 + 64 < cLine; omega) h2 rb h1 ra) ?_
  refine ⟨.bl _, H, I, rfl, ?_⟩
  have e : (va.length == vb.length) = (ds.length == es.length) := by rw [← ra.length, ← rb.length, h1.len, h2.len]
  rw [e]
  exact q
end
end Bf
namespace Bf
open PySem PySem.Spec PyProof.Rows L2
/-! ### a == b, a != b of two instances of one class with its own __eq__: either answer -/
section
open PySem.W
variable {prog : Program} {w : World} {A : Around} {E : Value → Shared → Prop} {s : Shared} {K : Frag} {x y C f : Addr} {ox oy : Obj} {od oe : Option Obj}
theorem special_blt {M : Model} {name : Str} {id : String} {args : List Value} {Q : Option Value → Shared → Prop} (X : K.In s.heap) (I : InstAt s.heap x ox C od) (hs : findIn K (.ref C) name = some (some (.builtin id)))
    (S : Slot "object" name id) (h : wpAny M A (call (.builtin id) (.ref x :: args)) (fun v => Q (some v)) E s) : wpAny M A (callSpecialIfBound? (.ref x) name args) Q E s := by
  simp only [callSpecialIfBound?, bindSpecialIfBound?]
  refine wpAny_holding (wpAny_bind (wpAny_bind (wpAny_bind (I.type.here ((looks_findIn X hs).here ?_)))))
  simp only [S.bind]
  refine wpAny_bind (wpAny_askSetting (wpAny_ite ?_))
  have last : wpAny M A (call (.builtin id) ([.ref x] ++ args) >>= fun v => pure (some v)) Q E s := wpAny_bind (wpAny_mono h (fun _ _ z => wpAny_pure z) fun _ _ z => z)
  split
  · exact wpAny_bind (wpAny_pure (wpAny_pure last))
  · exact wpAny_tryCatch (wpAny_bind (wpAny_pure (wpAny_pure last)))
theorem ne_entry (X : K.In s.heap) (I : InstAt s.heap x ox C od) (hs : findIn K (.ref C) "__eq__" = some (some (.ref f))) (hf : isFn K (.ref f) = true) (hu : A.units < cLine) {Q : Fin → Shared → Prop}
    (hcall : wpAny (model prog w) A (call (.ref f) [.ref x, .ref y]) (fun v s' => ∃ b, v = .bool b ∧ Q (.done (.ret (.bool (!b)))) s') E s) :
    wpAny (model prog w) A (Builtin.«object.__ne__» ⟨[.ref x, .ref y], []⟩) Q E s := by
  unfold Builtin.«object.__ne__»
  repeat (first
    | with_reducible refine wpAny_cRoomFor hu ?_
    | (refine wpAny_bind (m := callSpecialIfBound? (.ref x) (Str.ofString "__eq__") [.ref y]) (ifBound_K X I hs hf (wpAny_mono hcall (fun r s' hr => by
          obtain ⟨b, rfl, hq⟩ := hr
          repeat (first | exact hq | exact wpAny_pure hq | exact wpAny_truthy_bool hq | (refine wpAny_bind (m := truthy (.bool _)) (wpAny_truthy_bool ?_)) | wp_step)) fun _ _ e => e)))
    | wp_step)
theorem try_ne (X : K.In s.heap) (I : InstAt s.heap x ox C od) (hn : findIn K (.ref C) "__ne__" = some (some (.builtin "object.__ne__"))) (ho : subIn K (.ref C) (.type "object") = some true)
    (hs : findIn K (.ref C) "__eq__" = some (some (.ref f))) (hf : isFn K (.ref f) = true) (hu : A.units + 1 < cLine) {Q : Option Value → Shared → Prop}
    (hcall : wpAny (model prog w) A.in1 (call (.ref f) [.ref x, .ref y]) (fun v s' => ∃ b, v = .bool b ∧ Q (some (.bool (!b))) s') E s) :
    wpAny (model prog w) A (tryCompare (.ref x) "__ne__" (.ref y)) Q E s := by
  simp only [tryCompare]
  have sub : Looks (model prog w) s.heap (isInstance (.ref x) (.type "object")) true := I.type.andThen (looks_subIn X ho)
  refine wpAny_bind (special_blt X I hn F.cmp_object.ne (wpAny_call (codeAny_call_builtin F.cmp_object.ne.plain F.cmpEntry_ne
    (check_slot F.cmpKind_ne F.cmpSplit_ne sub (F.cmpArgs_ne _ _) (ne_entry (A := A.in1) X I hs hf hu (wpAny_mono hcall (fun v s' hv => ?_) fun _ _ e => e))))))
  obtain ⟨b, rfl, hq⟩ := hv
  first | exact ⟨b, rfl, wpAny_pure hq⟩ | exact ⟨b, rfl, wpAny_pure (wpAny_pure hq)⟩ | exact ⟨b, rfl, hq⟩
theorem rich_ne (X : K.In s.heap) (I : InstAt s.heap x ox C od) (J : InstAt s.heap y oy C oe) (hn : findIn K (.ref C) "__ne__" = some (some (.builtin "object.__ne__"))) (ho : subIn K (.ref C) (.type "object") = some true)
    (hs : findIn K (.ref C) "__eq__" = some (some (.ref f))) (hf : isFn K (.ref f) = true) (hu : A.units + 1 < cLine) {Q : Value → Shared → Prop}
    (hcall : wpAny (model prog w) A.in1 (call (.ref f) [.ref x, .ref y]) (fun v s' => ∃ b, v = .bool b ∧ Q (.bool (!b)) s') E s) :
    wpAny (model prog w) A (compareOp .NotEq (.ref x) (.ref y)) Q E s := by
  unfold compareOp richCompare
  simp only [oneThing_ref]
  refine wpAny_holding (wpAny_bind (wpAny_cRoomFor (Nat.lt_of_succ_lt hu) ?_))
  rw [cmpInfo_NotEq]
  dsimp only
  refine wpAny_bind (I.type.here (wpAny_bind (J.type.here ?_)))
  rw [show (Value.ref C != Value.ref C) = false by simp]
  simp only [Bool.false_eq_true, if_false]
  refine wpAny_bind (wpAny_pure ?_)
  simp only [Bool.false_eq_true, if_false]
  refine wpAny_bind (try_ne X I hn ho hs hf hu (wpAny_mono hcall (fun v s' hv => ?_) fun _ _ e => e))
  obtain ⟨b, rfl, hq⟩ := hv
  first | exact ⟨b, rfl, wpAny_pure hq⟩ | exact ⟨b, rfl, wpAny_pure (wpAny_pure hq)⟩
end
/-- what the written part says of a class with its own == -/
structure OwnEq (K : PySem.W.Frag) (C f : Addr) : Prop where
  eq : PySem.W.findIn K (.ref C) "__eq__" = some (some (.ref f))
  fn : PySem.W.isFn K (.ref f) = true
  ne : PySem.W.findIn K (.ref C) "__ne__" = some (some (.builtin "object.__ne__"))
  ob : PySem.W.subIn K (.ref C) (.type "object") = some true
def rEqI (C : Addr) (sp : Sp) (neg : Bool) : R2 := fun x y H Q => ∃ a b dx dy fs gs, x = .ref a ∧ y = .ref b ∧ H a = some (.ins C dx fs) ∧ H b = some (.ins C dy gs) ∧
  sp [.ref a, .ref b] H (fun v H' => ∃ k, v = .bl k ∧ Q (.bl (if neg then !k else k)) H') (fun _ _ _ => False)
section
variable {X : Cx} {k : Nat} {C f : Addr} {fd : FuncData} {ps : List Str} {sp : Sp}
theorem op_eqI (T : OwnEq X.K C f) (F : FnOk X.prog X.w X.K X.mg X.base CX0 k f fd ps sp) (hb : Binds X.K fd ps []) (hr : Room k X.A) : OpR X (compareOp .Eq) (rEqI C sp false) := by
  intro pins s σ H x y v u Q I rx ry h
  obtain ⟨a, b, dx, dy, fs, gs, rfl, rfl, ha, hb', hsp⟩ := h
  cases rx
  cases ry
  obtain ⟨_, J, _⟩ := ins_get I.hok ha
  obtain ⟨_, J', _⟩ := ins_get I.hok hb'
  obtain ⟨_, J, _⟩ := J.look
  obtain ⟨_, J', _⟩ := J'.look
  obtain ⟨m, hF⟩ := I.fr
  show wpAny (model X.prog X.w) X.A (richCompare .Eq (.ref a) (.ref b)) (EP X pins σ Q) X.xe s
  refine PySem.W.cmp_K (op := .Eq) (tb := .ref C) hr.units0 hF I.ok.mod.kin J J'.type (by simp [PySem.W.notFirst]) T.eq T.fn ?_
  refine wpAny_mono (run_fn (E := fun _ _ _ => False) (dvs := []) (ds := []) F hr hb .nil pass0 I (vs := [.ref a, .ref b]) (us := [.ref a, .ref b]) (.cons rfl (.cons rfl .nil)) hsp) (fun v s' z => ?_) fun _ _ z => z
  obtain ⟨z, H', I', rz, kk, rfl, q⟩ := z
  cases rz
  exact ⟨.bl kk, H', I', rfl, q⟩
theorem op_neI (T : OwnEq X.K C f) (F : FnOk X.prog X.w X.K X.mg X.base CX0 k f fd ps sp) (hb : Binds X.K fd ps []) (hr : Room (k + 1) X.A) : OpR X (compareOp .NotEq) (rEqI C sp true) := by
  intro pins s σ H x y v u Q I rx ry h
  obtain ⟨a, b, dx, dy, fs, gs, rfl, rfl, ha, hb', hsp⟩ := h
  cases rx
  cases ry
  obtain ⟨_, J, _⟩ := ins_get I.hok ha
  obtain ⟨_, J', _⟩ := ins_get I.hok hb'
  obtain ⟨_, J, _⟩ := J.look
  obtain ⟨_, J', _⟩ := J'.look
  have hl := F.len _ _ _ _ hsp
  have r2 : Vals [V.ref a, V.ref b] [Value.ref a, Value.ref b] := .cons rfl (.cons rfl .nil)
  have e0 := I.env0.in1
  refine rich_ne I.kIn J J' T.ne T.ob T.eq T.fn (hu_of hr) ?_
  refine wpAny_call (codeAny_mono (F.run X.A.in1 X.stack s H ⟨[.ref a, .ref b], []⟩ [.ref a, .ref b] [.ref a, .ref b] _ _ hr.in1 e0 (by
    have := hb s [.ref a, .ref b] I.kIn (by simpa using hl)
    simpa using this) r2 hsp) fun r s' hq => ?_)
  cases r with
  | error e => exact hq.elim
  | ok fl =>
    cases fl with
    | ret w =>
      obtain ⟨z, H', I', rz, kk, rfl, q⟩ := I.after hq
      cases rz
      exact ⟨kk, rfl, .bl (!kk), H', I', rfl, q⟩
    | next => exact False.elim hq
    | brk => exact False.elim hq
    | cont => exact False.elim hq
end
end Bf
namespace Bf
open PySem PySem.Spec PyProof.Rows L2
/-! ### constants of the module -/
section
variable {X : Cx} {x : Str} {pos : Pos}
theorem pe_gi {i : Int} (h : ∃ t, X.mg x = some (.int i t)) (hg : Gl X x := by rfl) (hn : x ≠ "__name__" := by decide) (hd : (x == ("__debug__" : Str)) = false := by decide) : PE X (.Name x pos) (tC (.int i)) := by
  obtain ⟨t, e⟩ := h
  exact pe_glob hg e ⟨t, rfl⟩ hd
theorem pe_gs {z : Str} (h : ∃ t, X.mg x = some (.str z t)) (hg : Gl X x := by rfl) (hn : x ≠ "__name__" := by decide) (hd : (x == ("__debug__" : Str)) = false := by decide) : PE X (.Name x pos) (tC (.str z)) := by
  obtain ⟨t, e⟩ := h
  exact pe_glob hg e ⟨t, rfl⟩ hd
end
/-- the built-in names that the text leaves alone -/
structure Bl (mg : Str → Option Value) : Prop where
  len : mg "len" = none
  isinstance : mg "isinstance" = none
  str : mg "str" = none
  int : mg "int" = none
  bool : mg "bool" = none
  tuple : mg "tuple" = none
  list : mg "list" = none
  dict : mg "dict" = none
  set : mg "set" = none
  sorted : mg "sorted" = none
  all : mg "all" = none
  any : mg "any" = none
  range : mg "range" = none
  enumerate : mg "enumerate" = none
  reversed : mg "reversed" = none
  min : mg "min" = none
  max : mg "max" = none
def blNames : List Str := ["len", "isinstance", "str", "int", "bool", "tuple", "list", "dict", "set", "sorted", "all", "any", "range", "enumerate", "reversed", "min", "max"]
/-! ### exceptions with one field -/
def spInit (K : PySem.W.Frag) (fld : Str) : Sp := fun vs H Q _ => ∃ (a C : Addr) (y : V), vs = [.ref a, y] ∧ H a = some (exo a C none) ∧ OexC K C ∧ PySem.W.findIn K (.ref C) fld = some none ∧
  ∀ dx, H dx = none → dx ≠ a → Q .non (upd (upd H dx (exd dx [(fld, y)])) a (exo a C (some dx)))
/-- what the written part says of an own exception with one field: made, raised, read -/
structure ExT (P : Program) (w : World) (K : PySem.W.Frag) (mg : Str → Option Value) (base : Heap) (x fld : Str) (C : Addr) : Prop where
  g : mg x = some (.ref C)
  o : OexC K C
  xf : XfC K C
  no : PySem.W.findIn K (.ref C) fld = some none
  i : ∃ (f : Addr) (fd : FuncData) (ps : List Str), PySem.W.findIn K (.ref C) "__init__" = some (some (.ref f)) ∧ PySem.W.typeIn K (.ref f) = some (.type "function") ∧ FnOk P w K mg base CX0 1 f fd ps (spInit K fld) ∧ Binds K fd ps []
section
variable {X : Cx} {x fld : Str} {C : Addr} {W : WX} {e : Expr} {ta : TA} {p pos pos2 : Pos}
def tRx (C : Addr) (fld : Str) (W : WX) (ta : TA) : TS := fun _ σ H => ta σ H fun vs H1 => ∃ v, vs = [v] ∧ ∀ d, H1 d = none → W (.ref C) (some d) σ (upd H1 d (.xd [(fld, v)]))
theorem ps_rx (T : ExT X.prog X.w X.K X.mg X.base x fld C) (hc : X.calm = true) (tk : Takes X W) (hr : Room 2 X.A) (ha : PA X [e] ta) (hg : Gl X x := by rfl)
    (hdb : (x == ("__debug__" : Str)) = false := by decide) (he : starEach (e :: []) X.env = (false, eval e X.env) :: starEach [] X.env := by rfl) (hpl : (backTo pos (starEach [] X.env)).any (·.1) = false := by rfl) :
    PS X (.Raise (some (.Call (.Name x p) [e] [] pos)) none pos2) (tRx C fld W ta) := by
  obtain ⟨f, fd, ps, h1, h2, F, b⟩ := T.i
  have ha2 : PA X [e] (fun σ H Q => ∃ G : List V → Hp → Prop, ta σ H G ∧ ∀ vs H1, G vs H1 → Q vs H1) :=
    ⟨fun pos pins s σ H Q I ⟨G, h, m⟩ => thn (ha.run pos pins s σ H G I h) fun us s1 ⟨vs, H1, I1, r1, q⟩ => ⟨vs, H1, I1, r1, m _ _ q⟩⟩
  have z := ps_raise (pos := pos2) hc tk (pmk_oex (p := p) (pos := pos) T.o h1 h2 F hr b .nil pass0 hg T.g ha2 hdb he hpl)
  refine ⟨fun pins s σ H D I h => z.run pins s σ H D I ⟨_, h, ?_⟩⟩
  have key : ∀ vs H1, (∃ v, vs = [v] ∧ ∀ d, H1 d = none → W (.ref C) (some d) σ (upd H1 d (.xd [(fld, v)]))) →
      vs.length ≤ 1000 ∧ ∀ a, H1 a = none → spInit X.K fld (.ref a :: (vs ++ [])) (upd H1 a (exo a C none)) (fun v H2 => v = .non ∧ ∃ (d : Addr) (fs : List (Str × V)), H2 a = some (exo a C (some d)) ∧ H2 d = some (exd d fs) ∧ H1 d = none ∧ (fun cls d H' => W cls d σ H') (.ref C) (some d) (upd (del H2 a) d (.xd fs))) (fun _ _ _ => False) := by
    rintro vs H1 ⟨v, rfl, q⟩
    refine ⟨by show 1 ≤ 1000; decide, fun a na => ⟨a, C, v, rfl, upd_same, T.o, T.no, fun dx ndx ne => ⟨rfl, dx, [(fld, v)], upd_same, ?_, ?_, ?_⟩⟩⟩
    · rw [upd_ne ne, upd_same]
    · rw [upd_ne ne] at ndx
      exact ndx
    · rw [upd_ne ne] at ndx
      have e1 : upd (del (upd (upd (upd H1 a (exo a C none)) dx (exd dx [(fld, v)])) a (exo a C (some dx))) a) dx (.xd [(fld, v)]) = upd H1 dx (.xd [(fld, v)]) := by
        funext b
        by_cases hb : b = dx
        · rw [hb, upd_same, upd_same]
        · rw [upd_ne hb, upd_ne hb]
          by_cases hba : b = a
          · rw [hba, del_same, na]
          · rw [del_ne hba, upd_ne hba, upd_ne hb, upd_ne hba]
      show W (.ref C) (some dx) σ (upd (del (upd (upd (upd H1 a (exo a C none)) dx (exd dx [(fld, v)])) a (exo a C (some dx))) a) dx (.xd [(fld, v)]))
      rw [e1]
      exact q dx ndx
  exact key
end
end Bf
namespace Bf
open PySem PySem.Spec PyProof.Rows L2
/-! ### a def's body -/
abbrev FnS (K : PySem.W.Frag) (x q : Str) (st : Stmt) (f : Addr) (fd : FuncData) : Prop := FunD K x q (defArgs st) (defBody st) (defScope st) [] [] f fd
section
variable {P : Program} {w : World} {K : PySem.W.Frag} {mg : Str → Option Value} {base : Heap} {x q : Str} {st : Stmt} {f : Addr} {fd : FuncData} {N ps : List Str} {k : Nat} {sp : Sp}
/-- a def that lets nothing out -/
theorem okD (F : FnS K x q st f fd) (S : FnScope N ps (defScope st)) (len : ∀ vs H Q E, sp vs H Q E → vs.length = ps.length)
    (hbody : ∀ (cdv : Value) (A : Around) (outer : List Env) (s : Shared) (H : Hp) (vs : List V) (Q : VK) (E : XK),
      Room k (A.deeper (envOfC q (defScope st) s.heap.objs.size f cdv)) → sp vs H Q E →
      ∃ t, PSs (cxOf CX0 P w K mg base N q (defScope st) f cdv A outer s H E).nox (defBody st) t ∧ t { nx := fun _ H' => Q .non H', rt := Q } (start N vs) H) :
    FnOk P w K mg base CX0 (k + 1) f fd ps sp :=
  F.ok S len fun cdv A outer s H vs Q E hr h => let ⟨t, d, r⟩ := hbody cdv A outer s H vs Q E hr h; ⟨t, d.nox, r⟩
/-- a def that may raise -/
theorem okE (F : FnS K x q st f fd) (S : FnScope N ps (defScope st)) (len : ∀ vs H Q E, sp vs H Q E → vs.length = ps.length)
    (hbody : ∀ (cdv : Value) (A : Around) (outer : List Env) (s : Shared) (H : Hp) (vs : List V) (Q : VK) (E : XK),
      Room k (A.deeper (envOfC q (defScope st) s.heap.objs.size f cdv)) → sp vs H Q E →
      Takes (cxOf (L2.CX P w) P w K mg base N q (defScope st) f cdv A outer s H E) (fun cls d _ H => E cls d H) →
      ∃ t, PSs (cxOf (L2.CX P w) P w K mg base N q (defScope st) f cdv A outer s H E) (defBody st) t ∧ t { nx := fun _ H' => Q .non H', rt := Q } (start N vs) H) :
    FnOk P w K mg base (L2.CX P w) (k + 1) f fd ps sp :=
  F.ok S len fun cdv A outer s H vs Q E hr h => hbody cdv A outer s H vs Q E hr h (takes_of rfl rfl rfl rfl)
end
/-! ### __init__ of an exception: self.f = f -/
theorem ok_xinit {P : Program} {w : World} {K : PySem.W.Frag} {mg : Str → Option Value} {base : Heap} {q fld : Str} {st : Stmt} {f : Addr} {fd : FuncData} {p1 p2 p3 p4 : Pos} (F : FnS K "__init__" q st f fd)
    (hb : defBody st = [.Assign [.Attribute (.Name "self" p1) fld p2] (.Name fld p3) p4]) (S : FnScope ["self", fld] ["self", fld] (defScope st))
    (l1 : (defScope st).names.lookup ("self" : Str) = some .local) (l2 : (defScope st).names.lookup fld = some .local) (h1 : (fld == ("__debug__" : Str)) = false) (h2 : (fld == ("__classdict__" : Str)) = false)
    (b : ∀ (kV doc pm : Value) (an : Option Addr) (cdv ct : Value) (us : List Value), us.length = (["self", fld] : List Str).length → bindArgs (PySem.W.fnOf "__init__" q (defArgs st) (defBody st) (defScope st) .none kV doc pm an cdv ct) ⟨us, []⟩ = pure ((["self", fld] : List Str).zip us)) :
    ∃ ps, FnOk P w K mg base CX0 1 f fd ps (spInit K fld) ∧ Binds K fd ps [] := by
  refine ⟨["self", fld], okD F S (fun vs H Q E h => ?_) (fun cdv A outer s H vs Q E hr h => ?_), F.bindsN b⟩
  · obtain ⟨a, C, y, rfl, _⟩ := h
    rfl
  · obtain ⟨a, C, y, rfl, ha, o, no, q⟩ := h
    rw [hb]
    refine ⟨_, pss_one (ps_ost (pe_var (i := 0) rfl (.inl l1)) (pe_var (i := 1) rfl (.inl l2) h1 h2)), ?_⟩
    exact ⟨y, rfl, .ref a, rfl, a, C, rfl, o, no, .inl ⟨ha, fun dx nd ne => q dx nd ne⟩⟩
/-! ### facts of the written part as one Bool -/
def oexB (K : PySem.W.Frag) (C : Addr) : Bool := match K.lookup C with
  | some ⟨.type t, _, .cls cd, sl⟩ => decide (t = "type") && (match cd.mro, sl.toList with
    | .ref D :: bm, [_, _, _, _, some (.builtin n), _] => decide (D = C) && (decide (n = "ValueError.__new__") && (!cd.hasDel && (cd.hasDict && PySem.HandSPX.refsVE bm)))
    | _, _ => false)
  | _ => false
theorem oexB_ok {K : PySem.W.Frag} {C : Addr} (h : oexB K C = true) :
    ∃ nm q N bs bm sn sub ab col dd k0 k1 k2 k3 k5, K.lookup C = some (excClassObj nm q C N bs bm true sn sub ab col dd k0 k1 k2 k3 k5 "ValueError.__new__") ∧ PySem.HandSPX.refsVE bm = true := by
  unfold oexB at h
  split at h
  · rename_i t dd cd sl ho
    have ht := of_decide_eq_true (Bool.and_eq_true_iff.mp h).1
    subst ht
    split at h
    · rename_i D bm k0 k1 k2 k3 n k5 hm hs
      obtain ⟨_, h⟩ := Bool.and_eq_true_iff.mp h
      obtain ⟨h1, h⟩ := Bool.and_eq_true_iff.mp h
      obtain ⟨h2, h⟩ := Bool.and_eq_true_iff.mp h
      obtain ⟨h3, h⟩ := Bool.and_eq_true_iff.mp h
      obtain ⟨h4, h5⟩ := Bool.and_eq_true_iff.mp h
      have h1 := of_decide_eq_true h1
      have h2 := of_decide_eq_true h2
      subst h1 h2
      obtain ⟨nm, bs, mro, ns, qn, hd, sn, sub, ab, col, del⟩ := cd
      dsimp only at hm h3 h4
      subst hm h4
      have h3 : del = false := by simpa using h3
      subst h3
      have hsl : sl = #[k0, k1, k2, k3, some (.builtin "ValueError.__new__"), k5] := by
        obtain ⟨l⟩ := sl
        simp only at hs
        rw [hs]
      subst hsl
      exact ⟨nm, qn, ns, bs, bm, sn, sub, ab, col, dd, k0, k1, k2, k3, k5, ho, h5⟩
    · cases h
  · cases h
def isO (a b : Option (Option Value)) : Bool := decide (a = b)
/-- an exception x with the field f -/
def excB (K : PySem.W.Frag) (x fld : Str) : Bool := oexB K (He.ga K x) && (isO (PySem.W.findIn K (.ref (He.ga K x)) "__setattr__") (some (some (.builtin "object.__setattr__"))) &&
  (decide (PySem.W.subIn K (.ref (He.ga K x)) (.type "BaseException") = some true) && (decide (PySem.W.typeIn K (.ref (He.ga K x)) = some (.type "type")) && (PySem.W.keepIn K (.ref (He.ga K x)) &&
  (xfB K (He.ga K x) && (isO (PySem.W.findIn K (.ref (He.ga K x)) fld) (some none) && (isO (PySem.W.findIn K (.ref (He.ga K x)) "__init__") (some (some (.ref (He.ma K (He.ga K x) "__init__")))) &&
  decide (PySem.W.typeIn K (.ref (He.ma K (He.ga K x) "__init__")) = some (.type "function")))))))))
theorem excB_ok {P : Program} {w : World} {K : PySem.W.Frag} {mg : Str → Option Value} {base : Heap} {x fld : Str} (h : excB K x fld = true) (g : mg x = some (.ref (He.ga K x)))
    (i : ∃ fd ps, FnOk P w K mg base CX0 1 (He.ma K (He.ga K x) "__init__") fd ps (spInit K fld) ∧ Binds K fd ps []) : ExT P w K mg base x fld (He.ga K x) := by
  obtain ⟨h1, h⟩ := Bool.and_eq_true_iff.mp h
  obtain ⟨h2, h⟩ := Bool.and_eq_true_iff.mp h
  obtain ⟨h3, h⟩ := Bool.and_eq_true_iff.mp h
  obtain ⟨h4, h⟩ := Bool.and_eq_true_iff.mp h
  obtain ⟨h5, h⟩ := Bool.and_eq_true_iff.mp h
  obtain ⟨h6, h⟩ := Bool.and_eq_true_iff.mp h
  obtain ⟨h7, h⟩ := Bool.and_eq_true_iff.mp h
  obtain ⟨h8, h9⟩ := Bool.and_eq_true_iff.mp h
  obtain ⟨fd, ps, F, b⟩ := i
  exact ⟨g, ⟨oexB_ok h1, of_decide_eq_true h2, of_decide_eq_true h3, of_decide_eq_true h4, h5⟩, xfB_ok h6, of_decide_eq_true h7, _, fd, ps, of_decide_eq_true h8, of_decide_eq_true h9, F, b⟩
/-- names that stand for objects, names that are free -/
def globB (K : PySem.W.Frag) (l : List Str) : Bool := l.all fun x => isO (PySem.W.nsIn K mainGlobals x) (some (some (.ref (He.ga K x))))
def freeB (K : PySem.W.Frag) (l : List Str) : Bool := l.all fun x => isO (PySem.W.nsIn K mainGlobals x) (some none)
section
variable {K : PySem.W.Frag} {h : Heap} {mg : Str → Option Value}
theorem globB_ok (X : K.In h) (G : h.Ns mainGlobals mg) {l : List Str} (c : globB K l = true) {x : Str} (hx : x ∈ l) : mg x = some (.ref (He.ga K x)) :=
  PySem.W.mg_of X G (of_decide_eq_true (List.all_eq_true.mp c x hx))
theorem freeB_ok (X : K.In h) (G : h.Ns mainGlobals mg) {l : List Str} (c : freeB K l = true) {x : Str} (hx : x ∈ l) : mg x = none :=
  PySem.W.mg_none_of X G (of_decide_eq_true (List.all_eq_true.mp c x hx))
theorem bl_of (X : K.In h) (G : h.Ns mainGlobals mg) (c : freeB K blNames = true) : Bl mg := by
  constructor <;> exact freeB_ok X G c (by decide)
end
/-- a class with its own == -/
def ownB (K : PySem.W.Frag) (C : Addr) : Bool := isO (PySem.W.findIn K (.ref C) "__eq__") (some (some (.ref (He.ma K C "__eq__")))) && (PySem.W.isFn K (.ref (He.ma K C "__eq__")) &&
  (isO (PySem.W.findIn K (.ref C) "__ne__") (some (some (.builtin "object.__ne__"))) && decide (PySem.W.subIn K (.ref C) (.type "object") = some true)))
theorem ownB_ok {K : PySem.W.Frag} {C : Addr} (h : ownB K C = true) : OwnEq K C (He.ma K C "__eq__") := by
  obtain ⟨h1, h⟩ := Bool.and_eq_true_iff.mp h
  obtain ⟨h2, h⟩ := Bool.and_eq_true_iff.mp h
  obtain ⟨h3, h4⟩ := Bool.and_eq_true_iff.mp h
  exact ⟨of_decide_eq_true h1, h2, of_decide_eq_true h3, of_decide_eq_true h4⟩
/-! ### the Hook: the defs, and one Bool -/
abbrev AlB : Type := Bool × List He.FnW
def obB (fn : List He.DefD) (ex : PySem.W.Frag → Bool) (K : PySem.W.Frag) : AlB := (ex K && fn.all fun d => d.ok K, fn.map fun d => He.fnW K d.at_)
structure SayB (fn : List He.DefD) (ex : PySem.W.Frag → Bool) (K : PySem.W.Frag) : Prop where
  more : ex K = true
  defs : ∀ d ∈ fn, ∃ fd, FunD K d.name d.qual d.params d.body d.scope (d.dvs K) (d.kws K) (He.fAd K d.at_) fd
theorem sayB_of {fn : List He.DefD} {ex : PySem.W.Frag → Bool} {K : PySem.W.Frag} (e : obB fn ex K = (true, fn.map He.DefD.val)) : SayB fn ex K := by
  have e1 : (ex K && fn.all fun d => d.ok K) = true := congrArg (fun z : AlB => z.1) e
  have e2 : fn.map (fun d => He.fnW K d.at_) = fn.map He.DefD.val := congrArg (fun z : AlB => z.2) e
  obtain ⟨h1, h2⟩ := Bool.and_eq_true_iff.mp e1
  refine ⟨h1, fun d hd => ?_⟩
  obtain ⟨i, hi, ei⟩ := List.mem_iff_getElem.mp hd
  have e3 : (fn.map fun d => He.fnW K d.at_)[i]? = (fn.map He.DefD.val)[i]? := by rw [e2]
  have e4 : fn[i]? = some d := by rw [List.getElem?_eq_getElem hi, ei]
  rw [List.getElem?_map, List.getElem?_map, e4] at e3
  exact He.DefD.funD (Option.some.inj e3) (List.all_eq_true.mp h2 d hd)
def hookB (n : Nat) (fn : List He.DefD) (ex : PySem.W.Frag → Bool) : PySem.W.Hook where
  α := AlB
  obs := fun s => obB fn ex (He.frG s.heap.get? (He.asD s.heap.get? n))
  val := fun _ => (true, fn.map He.DefD.val)
  says := fun _ h => ∃ K : PySem.W.Frag, K.In h ∧ SayB fn ex K
  of := fun _ _ e => ⟨_, He.frG_in, sayB_of e⟩
  keeps := fun _ _ _ ⟨K, i, c⟩ k => ⟨K, PySem.W.Frag.In.keeps i k, c⟩
def lookB (n : Nat) (fn : List He.DefD) (ex : PySem.W.Frag → Bool) (s : PySem.W.SharedT) : AlB := obB fn ex (He.frG (HandSHeadRun.getT s) (He.asD (HandSHeadRun.getT s) n))
theorem lookB_eq (n : Nat) (fn : List He.DefD) (ex : PySem.W.Frag → Bool) (s : PySem.W.SharedT) : lookB n fn ex s = (hookB n fn ex).obs s.abs := by
  have e : HandSHeadRun.getT s = s.abs.heap.get? := funext (HandSHeadRun.getT_eq s)
  unfold lookB
  rw [e]
  rfl
end Bf
namespace Bf
open PySem PySem.Spec PyProof.Rows L2
/-! ### C(..) and o.m(..) within a try: what is raised is wished for at the slots of here -/
section
variable {X : Cx} {CX : CXT} {k : Nat} {f C : Addr} {fd : FuncData} {ps : List Str} {sp : Sp} {E : L2.St → XK} {x m : Str} {p pos apos : Pos} {e o : Expr} {es : List Expr} {ta : TE} {t : TA}
def tMkS (C : Addr) (sp : Sp) (E : L2.St → XK) (t : TA) : TE := fun σ H Q => t σ H fun vs H1 => ∀ y dy, H1 y = none → H1 dy = none → dy ≠ y →
  sp (.ref y :: vs) (upd (upd H1 dy (.own y)) y (.ins C dy [])) (fun v H2 => v = .non ∧ Q (.ref y) H2) (E σ)
theorem run_mkS {pins : List (Addr × Obj)} {σ : L2.St} {H : Hp} {s : Shared} {Q : VK} {us : List Value} {vs : List V} (M : Mk X.K C f) (F : FnOk X.prog X.w X.K X.mg X.base CX k f fd ps sp)
    (hr : Room (k + 1) X.A) (hb : Binds X.K fd ps []) (hx : PassesAt CX X σ (E σ)) (I : Inv X pins σ H s) (r : Vals vs us)
    (h : ∀ y dy, H y = none → H dy = none → dy ≠ y → sp (.ref y :: vs) (upd (upd H dy (.own y)) y (.ins C dy [])) (fun v H2 => v = .non ∧ Q (.ref y) H2) (E σ)) :
    wpAny (model X.prog X.w) X.A (call (.ref C) us) (EP X pins σ Q) X.xe s := by
  have n1 : H (s.heap.objs.size + 1) = none := I.hok.fresh (Nat.le_succ _)
  have n0 : H s.heap.objs.size = none := I.hok.fresh (Nat.le_refl _)
  have hq := h (s.heap.objs.size + 1) s.heap.objs.size n1 n0 (Nat.ne_of_lt (Nat.lt_succ_self _))
  have J := Inv.made (C := C) I
  have r2 : Vals (V.ref (s.heap.objs.size + 1) :: vs) (Value.ref (s.heap.objs.size + 1) :: us) := .cons rfl r
  have hl : (Value.ref (s.heap.objs.size + 1) :: us).length = ps.length := by rw [← r2.length]; exact F.len _ _ _ _ hq
  have b := hb _ (Value.ref (s.heap.objs.size + 1) :: us) J.kIn (by rw [List.append_nil]; exact hl)
  rw [List.append_nil] at b
  refine wpAny_call (make_map (f := f) I.kIn M.makes M.init (beq_iff_eq.mp M.fn) ?_)
  refine codeAny_mono (F.run _ X.stack _ _ ⟨Value.ref (s.heap.objs.size + 1) :: us, []⟩ _ _ _ (E σ) (hr.make C us []) (J.env0.make C us []) b r2 hq) fun r s' z => ?_
  cases r with
  | error er => exact hx pins _ _ er s' J z
  | ok fl =>
    cases fl with
    | ret u =>
      obtain ⟨v, H', I3, rv, ev, q3⟩ := J.after z
      subst ev
      exact ⟨rv, V.ref (s.heap.objs.size + 1), H', I3, rfl, q3⟩
    | next => exact False.elim z
    | brk => exact False.elim z
    | cont => exact False.elim z
theorem pe_mkS (M : Mk X.K C f) (F : FnOk X.prog X.w X.K X.mg X.base CX k f fd ps sp) (hr : Room (k + 1) X.A) (hm : X.mg x = some (.ref C)) (hb : Binds X.K fd ps []) (hx : ∀ σ, PassesAt CX X σ (E σ)) (ha : PA X (e :: es) t)
    (hg : Gl X x := by rfl) (hdb : (x == ("__debug__" : Str)) = false := by decide) (he : starEach (e :: es) X.env = (false, eval e X.env) :: starEach es X.env := by rfl)
    (hpl : (backTo pos (starEach es X.env)).any (·.1) = false := by rfl) : PE X (.Call (.Name x p) (e :: es) [] pos) (tMkS C sp E t) := by
  refine ⟨fun pins s σ H Q I h => wpAny_Call_Name_kw (ld_glob I hg hm ?_ hdb)⟩
  exact PySem.W.callWith_K (h₀ := X.base) I.ok.mod.kin M.kp (thn (ha.run pos pins s σ H _ I h) fun us s1 ⟨vs, H1, I1, r, q⟩ => ⟨I1.kIn, run_mkS M F hr hb (hx σ) I1 r q⟩) he hpl
def tMtS (C : Addr) (m : Str) (sp : Sp) (E : L2.St → XK) (ta : TE) (t : TA) : TE := fun σ H Q => ta σ H fun x H1 => ∃ a dx fs, x = .ref a ∧ H1 a = some (.ins C dx fs) ∧ fs.lookup m = none ∧
  t σ H1 fun vs H2 => sp (x :: vs) H2 Q (E σ)
theorem pe_mtS {pl : Sem Bool} (he : PE X o ta) (c : Cls X.K C) (hm : Meth X.K C m f) (F : FnOk X.prog X.w X.K X.mg X.base CX k f fd ps sp) (hr : Room k X.A) (hb : Binds X.K fd ps []) (hx : ∀ σ, PassesAt CX X σ (E σ)) (ha : PA X (e :: es) t)
    (h1 : starEach (e :: es) X.env = (false, eval e X.env) :: starEach es X.env := by rfl) (h2 : (backTo pos (starEach es X.env)).any (·.1) = false := by rfl)
    (ht : eval (.Call (.Attribute o m apos) (e :: es) [] pos) X.env = (do
      let ov ← eval o X.env
      standAt apos.atName
      let (g, first) ← holding [ov] (getMethod ov m pl)
      callWith pos g first (backTo pos (starEach (e :: es) X.env)) (backToKw pos (keywordEach [] X.env))) := by rfl) :
    PE X (.Call (.Attribute o m apos) (e :: es) [] pos) (tMtS C m sp E ta t) := by
  refine ⟨fun pins s σ H Q I h => PySem.W.methodCall_KW (pl := pl) (thn (he.run pins s σ H _ I h) fun u s1 ⟨x, H1, I1, rx, a, dx, fs, ex, ea, l, q⟩ => ?_) ht⟩
  subst ex
  obtain rfl : u = Value.ref a := rx
  refine getmeth_ok I1 ea c hm l (PySem.W.callWith_K (first := [.ref a]) (h₀ := X.base) I.ok.mod.kin hm.kp (thn (ha.run pos pins s1 σ H1 _ I1 q) fun us s2 ⟨vs, H2, I2, r, q2⟩ => ⟨I2.kIn, ?_⟩) h1 h2)
  exact run_fnS (us := .ref a :: us) (vs := .ref a :: vs) F hr hb (hx σ) I2 (.cons rfl r) q2
end
end Bf
namespace Bf
open PySem PySem.Spec PyProof.Rows L2 Evl
/-! ### the order of texts; the sorted list -/
def leS (a b : Str) : Bool := !ltCps b.cps.toList a.cps.toList
theorem leS_iff {a b : Str} : leS a b = true ↔ a.cps.toList ≤ b.cps.toList := by
  unfold leS
  rw [ltCps_eq]
  simp
theorem leS_trans (a b c : Str) (h1 : leS a b = true) (h2 : leS b c = true) : leS a c = true := leS_iff.mpr (Std.le_trans (leS_iff.mp h1) (leS_iff.mp h2))
theorem leS_total (a b : Str) : (leS a b || leS b a) = true := by
  rw [Bool.or_eq_true]
  rcases Std.le_total (a := a.cps.toList) (b := b.cps.toList) with h | h
  · exact .inl (leS_iff.mpr h)
  · exact .inr (leS_iff.mpr h)
theorem leS_antisymm {a b : Str} (h1 : leS a b = true) (h2 : leS b a = true) : a = b := by
  have e : a.cps.toList = b.cps.toList := Std.le_antisymm (leS_iff.mp h1) (leS_iff.mp h2)
  cases a with
  | mk x => cases b with
    | mk y =>
      have e2 : x = y := Array.toList_inj.mp e
      rw [e2]
theorem pw_of_rising : ∀ (p : Str) (l : List Str), risingS p l = true → (p :: l).Pairwise (fun a b => leS a b = true)
  | p, [], _ => List.pairwise_singleton _ _
  | p, x :: r, h => by
    obtain ⟨h1, h2⟩ := Bool.and_eq_true_iff.mp (show (!ltCps x.cps.toList p.cps.toList && risingS x r) = true from h)
    have ih := pw_of_rising x r h2
    refine List.pairwise_cons.mpr ⟨fun y hy => ?_, ih⟩
    rcases List.mem_cons.mp hy with rfl | hy
    · exact h1
    · exact leS_trans p x y h1 (List.rel_of_pairwise_cons ih hy)
theorem pw_of_sorted : ∀ {l : List Str}, sortedS l = true → l.Pairwise (fun a b => leS a b = true)
  | [], _ => List.Pairwise.nil
  | x :: r, h => pw_of_rising x r h
def srt (l : List Str) : List Str := l.mergeSort leS
theorem srt_perm (l : List Str) : (srt l).Perm l := List.mergeSort_perm l leS
theorem srt_pw (l : List Str) : (srt l).Pairwise (fun a b => leS a b = true) := List.pairwise_mergeSort leS_trans leS_total l
theorem srt_len (l : List Str) : (srt l).length = l.length := (srt_perm l).length_eq
theorem srt_mem {l : List Str} {x : Str} : x ∈ srt l ↔ x ∈ l := (srt_perm l).mem_iff
theorem srt_eq {l m : List Str} (p : m.Perm l) (s : sortedS m = true) : m = srt l :=
  List.Perm.eq_of_pairwise (le := fun a b => leS a b = true) (fun a b _ _ h1 h2 => leS_antisymm h1 h2) (pw_of_sorted s) (srt_pw l) (p.trans (srt_perm l).symm)
theorem srt_congr {l m : List Str} (p : m.Perm l) : srt m = srt l :=
  List.Perm.eq_of_pairwise (le := fun a b => leS a b = true) (fun a b _ _ h1 h2 => leS_antisymm h1 h2) (srt_pw m) (srt_pw l) ((srt_perm m).trans (p.trans (srt_perm l).symm))
/-! ### names -/
def abc : Str := "abcdefghijklmnopqrstuvwxyz"
def isNm (z : Str) : Bool := decide (1 ≤ z.length) && (decide (z.length ≤ 8) && z.cps.toList.all fun c => decide (c ∈ abc.cps.toList))
/-! ### lists of texts -/
theorem inV_str {x : Str} {xs : List Str} : inV (.str x) (xs.map V.str) = decide (x ∈ xs) := by
  unfold inV
  rw [List.any_map]
  induction xs with
  | nil => rfl
  | cons y r ih =>
    rw [List.any_cons, ih]
    show ((y == x) || _) = _
    by_cases h : y = x
    · subst h
      simp
    · have : (y == x) = false := by simpa using h
      rw [this]
      simp [Ne.symm h]
theorem flat_strs (xs : List Str) : (xs.map V.str).all flatV = true := by
  rw [List.all_map]
  exact List.all_eq_true.mpr fun _ _ => rfl
/-! ### a comprehension whose turns only read -/
theorem lc_pure {J : It} {n : Nat} {G : Hp → Prop} {item : Nat → V} {σ : L2.St} {H : Hp} {D : Addr} {vs : List Nat} {j : Nat} {tt : TT} {te : TE} {Qd : Hp → Prop} (f : Nat → Bool) (v : Nat → V)
    (w : Walk J n G (fun i H x H' => H' = H ∧ x = item i)) (hG : ∀ H', Ex H H' → G H') (hD : H D = none) (hn : n ≤ 40000) (hw : ∀ x, wipe ((wipe σ vs).set j (some x)) vs = wipe σ vs)
    (ht : ∀ i H1, Ex H H1 → i < n → EvT tt ((wipe σ vs).set j (some (item i))) H1 (f i)) (he : ∀ i H1, Ex H H1 → i < n → f i = true → Ev te ((wipe σ vs).set j (some (item i))) H1 (v i))
    (hq : ∀ H', Ex H H' → H' D = some (.lst (given n f v)) → Qd H') :
    ∃ W : Nat → Nat → Hp → Prop, (∃ m, W 0 m (upd H D (.lst []))) ∧ ∀ i m H, W i m H →
      (J.stop i H ∧ Qd H) ∨ (J.go i H ∧ ∃ Nx : Hp → Prop, (∀ H', Nx H' → ∃ m', m' < m ∧ W (i + 1) m' H') ∧ ∀ x H', J.yld i H x H' → gName j x (wipe σ vs) H' fun σ2 H2 => wipe σ2 vs = wipe σ vs ∧ tt σ2 H2 fun b H3 =>
        if b = true then te σ2 H3 fun y H4 => ∃ acc, H4 D = some (.lst acc) ∧ acc.length < sizeLine ∧ Nx (upd H4 D (.lst (acc ++ [y]))) else Nx H3) := by
  refine lc_it w (Cw H f v D) ⟨hD, Ex.new hD, upd_same⟩ (fun i H' _ p => hG H' p.2.1) (fun i x H1 H2 hi p y => ?_) (fun H' p => hq H' p.2.1 p.2.2)
  obtain ⟨rfl, rfl⟩ := y
  exact ⟨hw _, cw_turn p (by omega) (ht i H (Ex.refl H) hi) (fun hf => he i H (Ex.refl H) hi hf)⟩
theorem et_yes {σ : L2.St} {H : Hp} : EvT tYes σ H true := fun H1 _ _ q => q H1 (Ex.refl H1)
theorem given_all (n : Nat) (v : Nat → V) : given n (fun _ => true) v = (List.range n).map v := by
  unfold given
  rw [List.filter_eq_self.mpr fun _ _ => rfl]
theorem range_map_get {α β : Type} (l : List α) (g : α → β) (v : Nat → β) (h : ∀ i x, l[i]? = some x → v i = g x) : (List.range l.length).map v = l.map g := by
  apply List.ext_getElem
  · simp
  · intro i h1 h2
    have hi : i < l.length := by simpa using h1
    simp only [List.getElem_map, List.getElem_range]
    exact h i _ (List.getElem?_eq_getElem hi)
theorem walk_strF {z : Str} : Walk (Its z) z.cps.size (fun _ => True) (fun i H v H' => H' = H ∧ v = .str ⟨#[z.cps.getD i 0]⟩) :=
  walk_str.mono (fun _ h => h) fun i H v H' hi _ ⟨e, c, hc, hv⟩ => ⟨e, by
    rw [hv]
    have : z.cps.getD i 0 = c := by simp [Array.getD, hi, (Array.getElem?_eq_some_iff.mp hc).2]
    rw [this]⟩
theorem walk_listF {K : PySem.W.Frag} {a : Addr} {xs : List V} : Walk (Itl K a) xs.length (fun H => SqL K H a xs) (fun i H v H' => H' = H ∧ v = xs.getD i .non) :=
  walk_list.mono (fun _ h => h) fun i H v H' hi _ ⟨e, h⟩ => ⟨e, by simp [List.getD, h]⟩
theorem walk_tupF {K : PySem.W.Frag} {a : Addr} {xs : List V} : Walk (Itt K a) xs.length (fun H => SqT K H a xs) (fun i H v H' => H' = H ∧ v = xs.getD i .non) :=
  walk_tup.mono (fun _ h => h) fun i H v H' hi _ ⟨e, h⟩ => ⟨e, by simp [List.getD, h]⟩
end Bf
namespace Bf
open PySem PySem.Spec PyProof.Rows L2 Evl
/-! ### drawn names -/
/-- what _law_names draws: one to seven letters, never six -/
def Drawn (z : Str) : Prop := isNm z = true ∧ z.length ≤ 7 ∧ z.length ≠ 6
def NamesOk (xs : List Str) : Prop := xs.Nodup ∧ ∀ x ∈ xs, Drawn x
abbrev sign (c : Nat) : Str := ⟨#[c]⟩
theorem str_ext {a b : Str} (h : a.cps.toList = b.cps.toList) : a = b := by
  cases a with
  | mk x => cases b with
    | mk y =>
      have e2 : x = y := Array.toList_inj.mp h
      rw [e2]
theorem joinL_signs : ∀ cs : List Nat, TL.joinL [] (cs.map fun c => [c]) = cs
  | [] => rfl
  | [_] => rfl
  | a :: b :: r => by
    show [a] ++ ([] ++ TL.joinL [] ((b :: r).map fun c => [c])) = a :: b :: r
    rw [joinL_signs (b :: r)]
    rfl
theorem join_signs (cs : List Nat) : (Txt.join "" (cs.map sign)).cps.toList = cs := by
  rw [TL.join_eq]
  have h := TL.tl_join "" (cs.map sign)
  have e : (cs.map sign).map TL.tl = cs.map fun c => [c] := by
    rw [List.map_map]
    rfl
  rw [e, show TL.tl ("" : Str) = [] from rfl, joinL_signs] at h
  exact h
theorem len_toList (z : Str) : z.cps.toList.length = z.length := Array.length_toList
theorem join_drawn {cs : List Nat} (h1 : 1 ≤ cs.length) (h7 : cs.length ≤ 7) (h6 : cs.length ≠ 6) (ha : ∀ c ∈ cs, c ∈ abc.cps.toList) : Drawn (Txt.join "" (cs.map sign)) := by
  have e := join_signs cs
  have l : (Txt.join "" (cs.map sign)).length = cs.length := by rw [← len_toList, e]
  refine ⟨?_, by omega, by omega⟩
  unfold isNm
  rw [decide_eq_true (by omega), decide_eq_true (by omega), Bool.true_and, Bool.true_and, e]
  exact List.all_eq_true.mpr fun c hc => decide_eq_true (ha c hc)
theorem sign_drawn {c : Nat} (h : c ∈ abc.cps.toList) : Drawn (sign c) := by
  refine ⟨?_, by show 1 ≤ 7; decide, by show 1 ≠ 6; decide⟩
  unfold isNm
  show (decide (1 ≤ 1) && (decide (1 ≤ 8) && [c].all fun c => decide (c ∈ abc.cps.toList))) = true
  simp only [List.all_cons, List.all_nil, decide_eq_true h]
  rfl
theorem cut8 {z : Str} (h : z.length ≤ 8) : cutS z none (some 8) = z := by
  apply str_ext
  unfold cutS
  show ((z.cps.toList.drop (HT.sIx z.length 0 none)).take (HT.sIx z.length z.length (some ((8 : Nat) : Int)) - HT.sIx z.length 0 none)) = z.cps.toList
  rw [HT.sIx_none, HT.sIx_nat, List.drop_zero, Nat.sub_zero]
  exact List.take_of_length_le (by rw [len_toList]; omega)
theorem nodup_sub {α : Type} [DecidableEq α] : ∀ {l m : List α}, l.Nodup → (∀ x ∈ l, x ∈ m) → l.length ≤ m.length
  | [], _, _, _ => Nat.zero_le _
  | a :: r, m, hn, hs => by
    obtain ⟨h1, h2⟩ := List.nodup_cons.mp hn
    have ih := nodup_sub (l := r) (m := m.erase a) h2 fun x hx => (List.mem_erase_of_ne (fun z => h1 (by rw [← z]; exact hx))).mpr (hs x (List.mem_cons_of_mem _ hx))
    have ha : a ∈ m := hs a List.mem_cons_self
    have el := List.length_erase_of_mem ha
    have pos := List.length_pos_of_mem ha
    rw [List.length_cons]
    omega
theorem abc_len : abc.cps.toList.length = 26 := by decide +kernel
theorem abc_nodup : (abc.cps.toList.map sign).Nodup := by decide +kernel
theorem all_in {xs : List Str} (h : ∀ i, i < 26 → sign (abc.cps.getD i 0) ∈ xs) : 26 ≤ xs.length := by
  have hs : ∀ x ∈ abc.cps.toList.map sign, x ∈ xs := fun x hx => by
    obtain ⟨c, hc, rfl⟩ := List.mem_map.mp hx
    obtain ⟨i, hi, e⟩ := List.mem_iff_getElem.mp hc
    have h26 : i < 26 := by rw [← abc_len]; exact hi
    have := h i h26
    have e2 : abc.cps.getD i 0 = c := by
      have hi' : i < abc.cps.size := by simpa using hi
      rw [← e]
      simp [Array.getD, hi']
    rw [e2] at this
    exact this
  have := nodup_sub abc_nodup hs
  rw [List.length_map, abc_len] at this
  exact this
theorem getD_abc {i : Nat} (h : i < abc.cps.size) : abc.cps.getD i 0 ∈ abc.cps.toList := by
  have : abc.cps.getD i 0 = abc.cps[i] := by simp [Array.getD, h]
  rw [this]
  simp
end Bf
namespace Bf
open PySem PySem.Spec PyProof.Rows L2 Evl
/-! ### the first of n -/
def firstOf (b : Nat → Bool) (n : Nat) : Option Nat := (List.range n).find? b
theorem first_some {b : Nat → Bool} {n i : Nat} (hi : i < n) (h : b i = true) (hl : ∀ j, j < i → b j = false) : firstOf b n = some i := by
  unfold firstOf
  rw [List.find?_range_eq_some]
  exact ⟨h, List.mem_range.mpr hi, fun j hj => by rw [hl j hj]; rfl⟩
theorem first_none {b : Nat → Bool} {n : Nat} (h : ∀ j, j < n → b j = false) : firstOf b n = none := by
  unfold firstOf
  rw [List.find?_eq_none]
  intro x hx
  rw [h x (List.mem_range.mp hx)]
  exact Bool.false_ne_true
/-! ### places -/
def badPl (xs : List Str) (i : Nat) : Bool := !isNm (xs.getD i "") || decide (xs.getD i "" ∈ xs.take i)
def plErr (xs : List Str) : Option Int := if 1 ≤ xs.length ∧ xs.length ≤ 16 then (firstOf (badPl xs) xs.length).map (fun i => (i : Int)) else some (-1)
/-! ### ends -/
/-- a value in the place of a tie's ends: a tuple, by its entries (none: no text); or no tuple -/
inductive TVal where
  | tup (es : List (Option Str))
  | oth
def pairOk (kn : List Str) : TVal → Bool
  | .tup [some a, some b] => decide (a ∈ kn) && decide (b ∈ kn)
  | _ => false
def lookT (ties : List (Str × TVal)) (n : Str) : TVal := ((ties.find? fun e => decide (e.1 = n)).map (·.2)).getD .oth
def keysT (ties : List (Str × TVal)) : List Str := ties.map (·.1)
def badTie (xs : List Str) (ties : List (Str × TVal)) (i : Nat) : Bool := !isNm ((srt (keysT ties)).getD i "") || !pairOk xs (lookT ties ((srt (keysT ties)).getD i ""))
/-- what is due: places and a number, ties and a name, too many, nothing -/
inductive Due where
  | pl (i : Int) | ti (n : Str) | many | ok
def dueOf (xs : List Str) (ties : List (Str × TVal)) : Due := match plErr xs with
  | some i => .pl i
  | none => match firstOf (badTie xs ties) ties.length with
    | some i => .ti ((srt (keysT ties)).getD i "")
    | none => if 24 < ties.length then .many else .ok
theorem pairOk_perm {xs ys : List Str} (h : ∀ x, x ∈ xs ↔ x ∈ ys) (t : TVal) : pairOk xs t = pairOk ys t := by
  unfold pairOk
  split
  · rw [decide_eq_decide.mpr (h _), decide_eq_decide.mpr (h _)]
  · rfl
/-! ### values as they stand in the heap -/
/-- a text of some length -/
def StrOk (z : Str) : Prop := z.length ≤ 1000 ∧ PyData.strOk z = true
def EntR (K : PySem.W.Frag) (H : Hp) (v : V) : Option Str → Prop
  | some z => v = .str z ∧ StrOk z
  | none => (∀ z, v ≠ .str z) ∧ ∃ t, TyX K H v (.type t) ∧ kitB t "str" = some false
def TVR (K : PySem.W.Frag) (H : Hp) (v : V) : TVal → Prop
  | .tup es => ∃ p vs, v = .ref p ∧ H p = some (.tup vs) ∧ Paired (EntR K H) vs es ∧ vs.length ≤ 1000
  | .oth => ∃ t, TyX K H v (.type t) ∧ kitB t "tuple" = some false
theorem tyx_mono {K : PySem.W.Frag} {H H' : Hp} {v : V} {t : String} (e : Ex H H') (h : TyX K H v (.type t)) : TyX K H' v (.type t) := by
  cases h with
  | base b =>
    cases b with
    | non => exact .base .non
    | bl x => exact .base (.bl x)
    | int i => exact .base (.int i)
    | str x => exact .base (.str x)
    | flt x => exact .base (.flt x)
    | lst q => exact .base (.lst (e _ _ q))
    | frz q => exact .base (.frz (e _ _ q))
    | tup q => exact .base (.tup (e _ _ q))
    | dK q => exact .base (.dK (e _ _ q))
    | dT q => exact .base (.dT (e _ _ q))
  | byt b => exact .byt b
  | set q => exact .set (e _ _ q)
  | kList q c => exact .kList q c
  | kTuple q c => exact .kTuple q c
  | kDict q c => exact .kDict q c
  | fTuple q => exact .fTuple (e _ _ q)
  | fDict q => exact .fDict (e _ _ q)
theorem entR_mono {K : PySem.W.Frag} {H H' : Hp} {v : V} {o : Option Str} (e : Ex H H') (h : EntR K H v o) : EntR K H' v o := by
  cases o with
  | some z => exact h
  | none =>
    obtain ⟨h1, t, h2, h3⟩ := h
    exact ⟨h1, t, tyx_mono e h2, h3⟩
theorem tvr_mono {K : PySem.W.Frag} {H H' : Hp} {v : V} {t : TVal} (e : Ex H H') (h : TVR K H v t) : TVR K H' v t := by
  cases t with
  | tup es =>
    obtain ⟨p, vs, h1, h2, h3, h4⟩ := h
    exact ⟨p, vs, h1, e _ _ h2, Paired.mapP h3 fun _ _ z => entR_mono e z, h4⟩
  | oth =>
    obtain ⟨t, h1, h2⟩ := h
    exact ⟨t, tyx_mono e h1, h2⟩
/-- the pairs of a dict of ties -/
def TieR (K : PySem.W.Frag) (H : Hp) (kvs : List (Key × V)) (ties : List (Str × TVal)) : Prop := Paired (fun p q => p.1 = Sum.inr q.1 ∧ TVR K H p.2 q.2) kvs ties
theorem tieR_mono {K : PySem.W.Frag} {H H' : Hp} {kvs : List (Key × V)} {ties : List (Str × TVal)} (e : Ex H H') (h : TieR K H kvs ties) : TieR K H' kvs ties := Paired.mapP h fun _ _ z => ⟨z.1, tvr_mono e z.2⟩
theorem tieR_keys {K : PySem.W.Frag} {H : Hp} {kvs : List (Key × V)} {ties : List (Str × TVal)} (h : TieR K H kvs ties) : kvs.map (·.1) = (keysT ties).map Sum.inr := by
  unfold TieR at h
  unfold keysT
  induction h with
  | nil => rfl
  | cons a _ ih => rw [List.map_cons, List.map_cons, List.map_cons, ih, a.1]
theorem tieR_len {K : PySem.W.Frag} {H : Hp} {kvs : List (Key × V)} {ties : List (Str × TVal)} (h : TieR K H kvs ties) : kvs.length = ties.length := Paired.length h
/-- a key's value -/
theorem tieR_get {K : PySem.W.Frag} {H : Hp} {kvs : List (Key × V)} {ties : List (Str × TVal)} {n : Str} (h : TieR K H kvs ties) (hn : n ∈ keysT ties) : ∃ v, valV kvs (Sum.inr n) = some v ∧ TVR K H v (lookT ties n) := by
  unfold TieR at h
  unfold keysT at hn
  unfold lookT valV
  induction h with
  | nil => cases hn
  | @cons p q ps qs a t ih =>
    rw [List.find?_cons, List.find?_cons]
    by_cases c : q.1 = n
    · have c1 : decide (p.1 = Sum.inr n) = true := decide_eq_true (by rw [a.1, c])
      rw [c1, decide_eq_true c]
      exact ⟨p.2, rfl, a.2⟩
    · have c1 : decide (p.1 = Sum.inr n) = false := decide_eq_false (by rw [a.1]; exact fun z => c (Sum.inr.inj z))
      rw [c1, decide_eq_false c]
      exact ih (by
        rcases List.mem_cons.mp hn with z | z
        · exact absurd z.symm c
        · exact z)
end Bf
namespace Bf
open PySem PySem.Spec PyProof.Rows L2 Evl
/-! ### texts as data -/
abbrev strsD (xs : List Str) : List PyData := xs.map .str
theorem canLay_strs : ∀ {xs : List Str}, (∀ x ∈ xs, PyData.strOk x = true) → PyData.canLayAll0 (strsD xs) = true
  | [], _ => rfl
  | x :: r, h => by
    show (PyData.strOk x && PyData.canLayAll0 (strsD r)) = true
    rw [h x List.mem_cons_self, canLay_strs fun y hy => h y (List.mem_cons_of_mem _ hy)]
    rfl
theorem depth_strs : ∀ xs : List Str, PyData.depthAll (strsD xs) = 0
  | [] => rfl
  | x :: r => by
    show max 0 (PyData.depthAll (strsD r)) = 0
    rw [depth_strs r]
    rfl
theorem shaped_tup {xs : List Str} (h : ∀ x ∈ xs, PyData.strOk x = true) : SeqAt.shaped (.tuple (strsD xs)) = true := by
  show (PyData.canLayAll0 (strsD xs) && decide (PyData.depthAll (strsD xs) + 1 ≤ 64)) = true
  rw [canLay_strs h, depth_strs]
  rfl
theorem shaped_lst {xs : List Str} (h : ∀ x ∈ xs, PyData.strOk x = true) : SeqAt.shaped (.list (strsD xs)) = true := by
  show (PyData.canLayAll0 (strsD xs) && decide (PyData.depthAll (strsD xs) + 1 ≤ 64)) = true
  rw [canLay_strs h, depth_strs]
  rfl
theorem eqv_strs : ∀ xs ys : List Str, PyData.eqvAll (strsD xs) (strsD ys) = decide (xs = ys)
  | [], [] => rfl
  | [], _ :: _ => rfl
  | _ :: _, [] => rfl
  | x :: r, y :: s => by
    show ((x == y) && PyData.eqvAll (strsD r) (strsD s)) = decide (x :: r = y :: s)
    rw [eqv_strs r s]
    by_cases h : x = y
    · subst h
      by_cases h2 : r = s
      · subst h2; simp
      · simp [h2]
    · simp [h]
theorem dp_strs {K : PySem.W.Frag} {H : Hp} : ∀ xs : List Str, DpAll K H (xs.map V.str) (strsD xs)
  | [] => .nil
  | x :: r => .cons (.str x) (dp_strs r)
/-! ### ties with their ends as data -/
abbrev enD (en : List (Str × Str × Str)) : List (Key × PyData) := en.map fun q => (Sum.inr q.1, .tuple (strsD [q.2.1, q.2.2]))
theorem look_enD (en : List (Str × Str × Str)) (n : Str) : look (enD en) (Sum.inr n) = ((en.find? fun e => decide (e.1 = n)).map (·.2)).map fun q => .tuple (strsD [q.1, q.2]) := by
  unfold look
  induction en with
  | nil => rfl
  | cons q r ih =>
    show ((List.find? _ ((Sum.inr q.1, PyData.tuple (strsD [q.2.1, q.2.2])) :: enD r)).map (·.2)) = _
    rw [List.find?_cons, List.find?_cons]
    by_cases c : q.1 = n
    · rw [decide_eq_true c, show decide ((Sum.inr q.1 : Key) = Sum.inr n) = true from decide_eq_true (by rw [c])]
      rfl
    · rw [decide_eq_false c, show decide ((Sum.inr q.1 : Key) = Sum.inr n) = false from decide_eq_false fun z => c (Sum.inr.inj z)]
      exact ih
theorem find_self {en : List (Str × Str × Str)} (nd : (en.map (·.1)).Nodup) {q : Str × Str × Str} (h : q ∈ en) : en.find? (fun e => decide (e.1 = q.1)) = some q := by
  induction en with
  | nil => cases h
  | cons p r ih =>
    obtain ⟨n1, n2⟩ := List.nodup_cons.mp (show (p.1 :: r.map (·.1)).Nodup from nd)
    rw [List.find?_cons]
    rcases List.mem_cons.mp h with rfl | h
    · rw [decide_eq_true rfl]
    · have c : ¬ p.1 = q.1 := fun z => n1 (by rw [z]; exact List.mem_map.mpr ⟨q, h, rfl⟩)
      rw [decide_eq_false c]
      exact ih n2 h
theorem hits_self {en : List (Str × Str × Str)} (nd : (en.map (·.1)).Nodup) : ∀ l : List (Str × Str × Str), (∀ q ∈ l, q ∈ en) → hitsD (enD en) (enD l) = true
  | [], _ => rfl
  | q :: r, h => by
    show (match look (enD en) (Sum.inr q.1) with | none => false | some e => PyData.eqv (.tuple (strsD [q.2.1, q.2.2])) e && hitsD (enD en) (enD r)) = true
    rw [look_enD, find_self nd (h q List.mem_cons_self)]
    show (PyData.eqvAll (strsD [q.2.1, q.2.2]) (strsD [q.2.1, q.2.2]) && hitsD (enD en) (enD r)) = true
    rw [eqv_strs, hits_self nd r fun p hp => h p (List.mem_cons_of_mem _ hp)]
    simp
theorem dictEq_self {en : List (Str × Str × Str)} (nd : (en.map (·.1)).Nodup) : dictEq (enD en) (enD en) = true := by
  unfold dictEq
  rw [hits_self nd en fun _ h => h]
  simp
theorem dictEq_len {ds es : List (Key × PyData)} (h : ds.length ≠ es.length) : dictEq ds es = false := by
  unfold dictEq
  rw [show (ds.length == es.length) = false by simpa using h, Bool.false_and]
/-! ### a pair sorted -/
def pairS : TVal → Str × Str
  | .tup [some a, some b] => if leS a b = true then (a, b) else (b, a)
  | _ => ("", "")
theorem srt_pair (a b : Str) : srt [a, b] = [(pairS (.tup [some a, some b])).1, (pairS (.tup [some a, some b])).2] := by
  show srt [a, b] = [(if leS a b = true then (a, b) else (b, a)).1, (if leS a b = true then (a, b) else (b, a)).2]
  by_cases h : leS a b = true
  · rw [if_pos h]
    exact (List.Perm.eq_of_pairwise (le := fun a b => leS a b = true) (fun a b _ _ h1 h2 => leS_antisymm h1 h2) (by simp [h]) (srt_pw [a, b]) (srt_perm [a, b]).symm).symm
  · rw [if_neg h]
    have h2 : leS b a = true := by
      rcases Bool.or_eq_true_iff.mp (leS_total a b) with z | z
      · exact absurd z h
      · exact z
    exact (List.Perm.eq_of_pairwise (le := fun a b => leS a b = true) (fun a b _ _ h1 h2 => leS_antisymm h1 h2) (by simp [h2]) (srt_pw [a, b]) ((List.Perm.swap a b []).trans (srt_perm [a, b]).symm)).symm
def endsOf (ties : List (Str × TVal)) : List (Str × Str × Str) := (srt (keysT ties)).map fun n => (n, pairS (lookT ties n))
theorem endsOf_keys (ties : List (Str × TVal)) : (endsOf ties).map (·.1) = srt (keysT ties) := by
  unfold endsOf
  rw [List.map_map]
  exact List.map_id _
theorem nodup_perm {α : Type} {l m : List α} (p : l.Perm m) (h : m.Nodup) : l.Nodup := p.nodup_iff.mpr h
end Bf
namespace Bf
open PySem PySem.Spec PyProof.Rows L2 Evl
theorem nm_ok {z : Str} (h : isNm z = true) : StrOk z := by
  unfold isNm at h
  obtain ⟨_, h⟩ := Bool.and_eq_true_iff.mp h
  obtain ⟨h8, h⟩ := Bool.and_eq_true_iff.mp h
  refine ⟨by have := of_decide_eq_true h8; omega, ?_⟩
  have all : ∀ c ∈ abc.cps.toList, c < 1114112 := by decide +kernel
  show z.cps.all (· < 1114112) = true
  rw [← Array.all_toList, List.all_eq_true]
  intro c hc
  exact decide_eq_true (all c (of_decide_eq_true (List.all_eq_true.mp h c hc)))
theorem drawn_ok {z : Str} (h : Drawn z) : StrOk z := nm_ok h.1
/-! ### a tie put -/
def putT (ties : List (Str × TVal)) (n : Str) (t : TVal) : List (Str × TVal) :=
  if (ties.any fun e => decide (e.1 = n)) = true then ties.map (fun e => if e.1 = n then (e.1, t) else e) else ties ++ [(n, t)]
theorem pair_snoc {α β : Type} {R : α → β → Prop} : ∀ {l : List α} {m : List β} {a : α} {b : β}, Paired R l m → R a b → Paired R (l ++ [a]) (m ++ [b])
  | _, _, _, _, .nil, h => .cons h .nil
  | _, _, _, _, .cons x t, h => .cons x (pair_snoc t h)
theorem tieR_any {K : PySem.W.Frag} {H : Hp} {kvs : List (Key × V)} {ties : List (Str × TVal)} (n : Str) (h : TieR K H kvs ties) : (kvs.any fun kv => decide (kv.1 = Sum.inr n)) = ties.any fun e => decide (e.1 = n) := by
  unfold TieR at h
  induction h with
  | nil => rfl
  | @cons p q ps qs a t ih =>
    rw [List.any_cons, List.any_cons, ih, a.1]
    congr 1
    exact decide_eq_decide.mpr ⟨fun z => Sum.inr.inj z, fun z => by rw [z]⟩
theorem tieR_put {K : PySem.W.Frag} {H : Hp} {kvs : List (Key × V)} {ties : List (Str × TVal)} {n : Str} {v : V} {t : TVal} (h : TieR K H kvs ties) (ht : TVR K H v t) : TieR K H (putK kvs (Sum.inr n) v) (putT ties n t) := by
  unfold putK putT
  rw [tieR_any n h]
  by_cases c : (ties.any fun e => decide (e.1 = n)) = true
  · rw [if_pos c, if_pos c]
    clear c
    unfold TieR at h ⊢
    induction h with
    | nil => exact .nil
    | @cons p q ps qs a t ih =>
      rw [List.map_cons, List.map_cons]
      refine .cons ?_ ih
      by_cases e : q.1 = n
      · rw [if_pos (by rw [a.1, e]), if_pos e]
        exact ⟨a.1, ht⟩
      · rw [if_neg (by rw [a.1]; exact fun z => e (Sum.inr.inj z)), if_neg e]
        exact a
  · rw [if_neg c, if_neg c]
    exact pair_snoc h ⟨rfl, ht⟩
theorem putT_keys (ties : List (Str × TVal)) (n : Str) (t : TVal) : keysT (putT ties n t) = if n ∈ keysT ties then keysT ties else keysT ties ++ [n] := by
  unfold putT keysT
  by_cases c : (ties.any fun e => decide (e.1 = n)) = true
  · have m : n ∈ ties.map (·.1) := by
      obtain ⟨e, he, hn⟩ := List.any_eq_true.mp c
      exact List.mem_map.mpr ⟨e, he, of_decide_eq_true hn⟩
    rw [if_pos c, if_pos m, List.map_map]
    refine List.map_congr_left fun e _ => ?_
    show (if e.1 = n then (e.1, t) else e).1 = e.1
    by_cases z : e.1 = n
    · rw [if_pos z]
    · rw [if_neg z]
  · have m : n ∉ ties.map (·.1) := fun h => by
      obtain ⟨e, he, hn⟩ := List.mem_map.mp h
      exact c (List.any_eq_true.mpr ⟨e, he, decide_eq_true hn⟩)
    rw [if_neg c, if_neg m, List.map_append]
    rfl
theorem putT_nodup {ties : List (Str × TVal)} {n : Str} {t : TVal} (h : (keysT ties).Nodup) : (keysT (putT ties n t)).Nodup := by
  rw [putT_keys]
  by_cases m : n ∈ keysT ties
  · rw [if_pos m]; exact h
  · rw [if_neg m]
    exact List.nodup_append.mpr ⟨h, by simp, fun x hx y hy => by rw [List.mem_singleton.mp hy]; exact fun z => m (z ▸ hx)⟩
theorem putT_mem {ties : List (Str × TVal)} {n x : Str} {t : TVal} (h : x ∈ keysT (putT ties n t)) : x ∈ keysT ties ∨ x = n := by
  rw [putT_keys] at h
  by_cases m : n ∈ keysT ties
  · rw [if_pos m] at h; exact .inl h
  · rw [if_neg m] at h
    rcases List.mem_append.mp h with h | h
    · exact .inl h
    · exact .inr (List.mem_singleton.mp h)
theorem putT_len (ties : List (Str × TVal)) (n : Str) (t : TVal) : (putT ties n t).length ≤ ties.length + 1 := by
  unfold putT
  by_cases c : (ties.any fun e => decide (e.1 = n)) = true
  · rw [if_pos c, List.length_map]; omega
  · rw [if_neg c, List.length_append]; exact Nat.le_refl _
theorem putT_new {ties : List (Str × TVal)} {n : Str} {t : TVal} (h : n ∉ keysT ties) : putT ties n t = ties ++ [(n, t)] := by
  unfold putT
  refine if_neg fun c => h ?_
  obtain ⟨e, he, hn⟩ := List.any_eq_true.mp c
  exact List.mem_map.mpr ⟨e, he, of_decide_eq_true hn⟩
end Bf
namespace L08
open PySem PySem.Spec PyProof.Rows L2 Evl Bf
def top (i : Nat) : Stmt := PySem.Challenge.pw_bothfree_k08_webs_told_and_refused.main.body.getD i (.Pass ⟨0, 0, 0, 0⟩)
abbrev sIsName : Stmt := (top 11)
abbrev nIsName : List Str := ["thing", "letter"]
theorem scIsName : FnScope nIsName ["thing"] (defScope sIsName) := ⟨rfl, rfl, rfl, by decide +kernel, rfl, by decide +kernel, by decide +kernel⟩
abbrev sNeedPlaces : Stmt := (top 14)
abbrev nNeedPlaces : List Str := ["places", "index", "name"]
theorem scNeedPlaces : FnScope nNeedPlaces ["places"] (defScope sNeedPlaces) := ⟨rfl, rfl, rfl, by decide +kernel, rfl, by decide +kernel, by decide +kernel⟩
abbrev sIsPair : Stmt := (top 15)
abbrev nIsPair : List Str := ["known", "thing", "place"]
theorem scIsPair : FnScope nIsPair ["known", "thing"] (defScope sIsPair) := ⟨rfl, rfl, rfl, by decide +kernel, rfl, by decide +kernel, by decide +kernel⟩
abbrev sSource : Stmt := (top 18)
abbrev nSource : List Str := ["_law_cell", "_law_number"]
theorem scSource : FnScope nSource ["_law_cell"] (defScope sSource) := ⟨rfl, rfl, rfl, by decide +kernel, rfl, by decide +kernel, by decide +kernel⟩
abbrev sDraw : Stmt := (top 19)
abbrev nDraw : List Str := ["_law_well", "_law_many", "_law_found", "_law_number"]
theorem scDraw : FnScope nDraw ["_law_well", "_law_many"] (defScope sDraw) := ⟨rfl, rfl, rfl, by decide +kernel, rfl, by decide +kernel, by decide +kernel⟩
abbrev sPick : Stmt := (top 20)
abbrev nPick : List Str := ["_law_well", "_law_some"]
theorem scPick : FnScope nPick ["_law_well", "_law_some"] (defScope sPick) := ⟨rfl, rfl, rfl, by decide +kernel, rfl, by decide +kernel, by decide +kernel⟩
abbrev sNames : Stmt := (top 21)
abbrev nNames : List Str := ["_law_well", "_law_many", "_law_letters", "_law_found", "_law_k", "_law_word", "_law_letter", "_law_j"]
theorem scNames : FnScope nNames ["_law_well", "_law_many"] (defScope sNames) := ⟨rfl, rfl, rfl, by decide +kernel, rfl, by decide +kernel, by decide +kernel⟩
abbrev sShuf : Stmt := (top 22)
abbrev nShuf : List Str := ["_law_well", "_law_some", "_law_rest", "_law_found", "_law_k"]
theorem scShuf : FnScope nShuf ["_law_well", "_law_some"] (defScope sShuf) := ⟨rfl, rfl, rfl, by decide +kernel, rfl, by decide +kernel, by decide +kernel⟩
abbrev sLawIsName : Stmt := (top 23)
abbrev nLawIsName : List Str := ["_law_word", "_law_letters", "_law_letter"]
theorem scLawIsName : FnScope nLawIsName ["_law_word"] (defScope sLawIsName) := ⟨rfl, rfl, rfl, by decide +kernel, rfl, by decide +kernel, by decide +kernel⟩
abbrev sDue : Stmt := (top 24)
abbrev nDue : List Str := ["_law_places", "_law_ties", "_law_k", "_law_name", "_law_ends"]
theorem scDue : FnScope nDue ["_law_places", "_law_ties"] (defScope sDue) := ⟨rfl, rfl, rfl, by decide +kernel, rfl, by decide +kernel, by decide +kernel⟩
abbrev sTold : Stmt := (top 25)
abbrev nTold : List Str := ["_law_places", "_law_ties", "_law_told_here", "e"]
theorem scTold : FnScope nTold ["_law_places", "_law_ties"] (defScope sTold) := ⟨rfl, rfl, rfl, by decide +kernel, rfl, by decide +kernel, by decide +kernel⟩
abbrev sDrawn : Stmt := (top 26)
abbrev nDrawn : List Str := ["_law_well", "_law_places", "_law_ties", "_law_name"]
theorem scDrawn : FnScope nDrawn ["_law_well"] (defScope sDrawn) := ⟨rfl, rfl, rfl, by decide +kernel, rfl, by decide +kernel, by decide +kernel⟩
abbrev sSpoiled : Stmt := (top 27)
abbrev nSpoiled : List Str := ["_law_well", "_law_places", "_law_ties", "_law_kind", "_law_at", "_law_more", "_law_p", "_law_some", "_law_names_here"]
theorem scSpoiled : FnScope nSpoiled ["_law_well", "_law_places", "_law_ties"] (defScope sSpoiled) := ⟨rfl, rfl, rfl, by decide +kernel, rfl, by decide +kernel, by decide +kernel⟩
abbrev sEndsRef : Stmt := (top 28)
abbrev nEndsRef : List Str := ["_law_web", "_law_word", "e"]
theorem scEndsRef : FnScope nEndsRef ["_law_web", "_law_word"] (defScope sEndsRef) := ⟨rfl, rfl, rfl, by decide +kernel, rfl, by decide +kernel, by decide +kernel⟩
abbrev sWebRight : Stmt := (top 29)
abbrev nWebRight : List Str := ["_law_well", "_law_places", "_law_ties", "_law_kept", "_law_held", "_law_web", "_law_due_here", "_law_other", "_law_name", "_law_fewer", "_law_moved", "_law_unlike", "_law_one"]
theorem scWebRight : FnScope nWebRight ["_law_well", "_law_places", "_law_ties"] (defScope sWebRight) := ⟨rfl, rfl, rfl, by decide +kernel, rfl, by decide +kernel, by decide +kernel⟩
abbrev sRight : Stmt := (top 30)
abbrev nRight : List Str := ["_law_well", "_law_places", "_law_ties", "_law_bad_places", "_law_bad_ties", "_law_turn"]
theorem scRight : FnScope nRight ["_law_well"] (defScope sRight) := ⟨rfl, rfl, rfl, by decide +kernel, rfl, by decide +kernel, by decide +kernel⟩
abbrev sLaw : Stmt := (top 31)
abbrev nLaw : List Str := ["_law_script", "_law_cell"]
theorem scLaw : FnScope nLaw ["_law_script"] (defScope sLaw) := ⟨rfl, rfl, rfl, by decide +kernel, rfl, by decide +kernel, by decide +kernel⟩
abbrev sInit : Stmt := (inClass (top 16) 0)
abbrev nInit : List Str := ["self", "places", "ties", "name"]
theorem scInit : FnScope nInit ["self", "places", "ties"] (defScope sInit) := ⟨rfl, rfl, rfl, by decide +kernel, rfl, by decide +kernel, by decide +kernel⟩
abbrev sPlaces : Stmt := (inClass (top 16) 1)
abbrev nPlaces : List Str := ["self"]
theorem scPlaces : FnScope nPlaces ["self"] (defScope sPlaces) := ⟨rfl, rfl, rfl, by decide +kernel, rfl, by decide +kernel, by decide +kernel⟩
abbrev sTies : Stmt := (inClass (top 16) 2)
abbrev nTies : List Str := ["self"]
theorem scTies : FnScope nTies ["self"] (defScope sTies) := ⟨rfl, rfl, rfl, by decide +kernel, rfl, by decide +kernel, by decide +kernel⟩
abbrev sEnds : Stmt := (inClass (top 16) 3)
abbrev nEnds : List Str := ["self", "tie"]
theorem scEnds : FnScope nEnds ["self", "tie"] (defScope sEnds) := ⟨rfl, rfl, rfl, by decide +kernel, rfl, by decide +kernel, by decide +kernel⟩
abbrev sEq : Stmt := (inClass (top 16) 4)
abbrev nEq : List Str := ["self", "other"]
theorem scEq : FnScope nEq ["self", "other"] (defScope sEq) := ⟨rfl, rfl, rfl, by decide +kernel, rfl, by decide +kernel, by decide +kernel⟩
end L08
namespace L08
open PySem PySem.Spec PyProof.Rows L2 Evl Bf
section
variable {P : Program} {w : World} {K : PySem.W.Frag} {mg : Str → Option Value} {base : Heap} {f : Addr} {fd : FuncData}
/-! ### is a value a name? -/
/-- a text of some length, or a value of a kind that is no text -/
def NmArg (K : PySem.W.Frag) (H : Hp) (v : V) : Prop := (∃ z, v = .str z ∧ z.length ≤ 1000) ∨ ((∀ z, v ≠ .str z) ∧ ∃ t, TyX K H v (.type t) ∧ kitB t "str" = some false)
def isNmV : V → Bool
  | .str z => isNm z
  | _ => false
def spNm (K : PySem.W.Frag) : Sp := fun vs H Q _ => ∃ v, vs = [v] ∧ NmArg K H v ∧ ∀ H', Ex H H' → Q (.bl (isNmV v)) H'
theorem isNmV_no {v : V} (h : ∀ z, v ≠ .str z) : isNmV v = false := by
  cases v with
  | str z => exact absurd rfl (h z)
  | _ => rfl
theorem all_signs {z : Str} {bs : List Bool} (h : bs = (List.range z.cps.size).map fun i => decide (z.cps.getD i 0 ∈ abc.cps.toList)) : bs.all id = z.cps.toList.all fun c => decide (c ∈ abc.cps.toList) := by
  have e := range_map_get z.cps.toList (fun c => decide (c ∈ abc.cps.toList)) (fun i => decide (z.cps.getD i 0 ∈ abc.cps.toList)) (fun i x hx => by
    have : z.cps.getD i 0 = x := by
      rw [Array.getElem?_toList] at hx
      simp [Array.getD, hx]
      obtain ⟨h1, h2⟩ := Array.getElem?_eq_some_iff.mp hx
      simp [h1, h2]
    rw [this])
  rw [Array.length_toList] at e
  rw [h, e, List.all_map]
  rfl
theorem nm_long {z : Str} (h : 8 < z.length) : isNmV (.str z) = false := by
  show isNm z = false
  unfold isNm
  rw [decide_eq_false (show ¬ z.length ≤ 8 by omega), Bool.false_and, Bool.and_false]
theorem nm_short {z : Str} (h : z.length < 1) : isNmV (.str z) = false := by
  show isNm z = false
  unfold isNm
  rw [decide_eq_false (show ¬ 1 ≤ z.length by omega), Bool.false_and]
theorem nm_ok {z : Str} (h1 : 1 ≤ z.length) (h2 : z.length ≤ 8) : isNmV (.str z) = z.cps.toList.all fun c => decide (c ∈ abc.cps.toList) := by
  show isNm z = _
  unfold isNm
  rw [decide_eq_true h1, decide_eq_true h2, Bool.true_and, Bool.true_and]
theorem iteB {b : Bool} {A B : Prop} (h1 : b = true → A) (h2 : b = false → B) : if b = true then A else B := by
  cases b with
  | true => exact iteT (h1 rfl)
  | false => exact iteF (h2 rfl)
theorem ok_isName (F : FnS K "is_name" "is_name" sIsName f fd) (B : Bl mg) (c_LETTERS : ∃ t, mg "LETTERS" = some (.str abc t)) (c_MOST_LETTERS : ∃ t, mg "MOST_LETTERS" = some (.int 8 t)) :
    FnOk P w K mg base CX0 1 f fd ["thing"] (spNm K) := by
  refine okD F scIsName (fun vs H Q E h => ?_) (fun cdv A outer s H vs Q E hr h => ?_)
  · obtain ⟨v, rfl, _⟩ := h
    rfl
  · obtain ⟨v, rfl, hv, q⟩ := h
    refine ⟨_, (pss_cons (ps_if (PW.pt (pw_or (pt_not (pt_val (pe_callB call_isi (by rfl) B.isinstance (by decide +kernel) (pa_cons (pv 0) (pa_cons (pe_bltn (v := .ty "str") (by rfl) B.str (by decide +kernel) rfl) pa_nil))))) (pw_or1 (pt_not (pt_chain op_le op_le pe_int (pe_callB call_len_str (by rfl) B.len (by decide +kernel) (pa_cons (pv 0) pa_nil)) (pe_gi c_MOST_LETTERS))))))
      (pss_one (ps_ret pe_bl))
      pss_nil)
      (pss_one (ps_ret (pe_callB (cr_all rfl) (by rfl) B.all (by decide +kernel) (pa_cons (pe_lc (own := [("letter", 1)]) (g := (gName 1)) (by rfl) scIsName.nd (pi_str (pv 0)) (blkOk_by (own := [("letter", 1)]) (N := nIsName) (sc := defScope sIsName) (by decide +kernel)) (fun _ _ _ _ _ => (pg_name (i := 1) scIsName.nd rfl (.inl rfl))) (fun _ _ _ _ _ => pts_nil) (fun _ _ _ _ _ => (pe_cmpR op_in_sign (pv 1) (pe_gs c_LETTERS) (by rfl)))) pa_nil))))), ?_⟩
    rcases hv with ⟨z, rfl, hz⟩ | ⟨hn, t, ty, kt⟩
    · refine ⟨_, rfl, _, _, _, _, _, rfl, .ty _, .base (.str z), kit_ty (r := true) (by decide +kernel), _, rfl, ?_⟩
      refine iteF ⟨_, rfl, z, rfl, sz_of (by omega), _, _, rfl, rfl, _, rfl, ?_⟩
      refine iteB (fun h1 => ⟨_, _, rfl, rfl, _, rfl, iteB (fun h2 => ?_) (fun h2 => ?_)⟩) (fun h1 => ⟨_, rfl, iteT ?_⟩)
      · have e : isNmV (.str z) = false := nm_long (by have := of_decide_eq_false ((Bool.not_eq_true' _).mp h2); omega)
        rw [e] at q
        exact q H (Ex.refl H)
      · have g1 := of_decide_eq_true h1
        have g2 : (z.length : Int) ≤ 8 := by simpa using h2
        refine ⟨.str z, rfl, z, rfl, fun D hD => lc_pure (fun _ => true) (fun i => .bl (decide (z.cps.getD i 0 ∈ abc.cps.toList))) walk_strF (fun _ _ => True.intro) hD (by show z.length ≤ 40000; omega) (fun _ => rfl) (fun i H1 _ _ => et_yes)
          (fun i H1 _ _ _ => ev_op (ev_var rfl) ev_c fun H2 _ _ k => ⟨_, _, rfl, rfl, k H2 (Ex.refl H2)⟩) fun H2 e2 h2 => ?_⟩
        rw [given_all] at h2
        refine ⟨D, (List.range z.cps.size).map fun i => decide (z.cps.getD i 0 ∈ abc.cps.toList), rfl, sq_of (by rw [List.map_map]; exact h2), ?_⟩
        rw [all_signs rfl, ← nm_ok (by omega) (by omega)]
        exact q H2 e2
      · have e : isNmV (.str z) = false := nm_short (by have := of_decide_eq_false h1; omega)
        rw [e] at q
        exact q H (Ex.refl H)
    · refine ⟨_, rfl, _, _, _, _, _, rfl, .ty _, ty, kit_ty kt, _, rfl, ?_⟩
      refine iteT (iteT ?_)
      rw [isNmV_no hn] at q
      exact q H (Ex.refl H)
end
end L08
namespace L08
open PySem PySem.Spec PyProof.Rows L2 Evl Bf
section
variable {P : Program} {w : World} {K : PySem.W.Frag} {mg : Str → Option Value} {base : Heap} {f : Addr} {fd : FuncData}
theorem ok_lawIsName (F : FnS K "_law_is_name" "_law_is_name" sLawIsName f fd) (B : Bl mg) : FnOk P w K mg base CX0 1 f fd ["_law_word"] (spNm K) := by
  refine okD F scLawIsName (fun vs H Q E h => ?_) (fun cdv A outer s H vs Q E hr h => ?_)
  · obtain ⟨v, rfl, _⟩ := h
    rfl
  · obtain ⟨v, rfl, hv, q⟩ := h
    refine ⟨_, (pss_cons (ps_set (i := 1) scLawIsName.nd rfl (.inr rfl) pe_str)
      (pss_one (ps_ret (pe_and (pe_callB call_isi (by rfl) B.isinstance (by decide +kernel) (pa_cons (pv 0) (pa_cons (pe_bltn (v := .ty "str") (by rfl) B.str (by decide +kernel) rfl) pa_nil))) (pe_and (pe_chain op_le op_le pe_int (pe_callB call_len_str (by rfl) B.len (by decide +kernel) (pa_cons (pv 0) pa_nil)) pe_int) (pe_one (pe_callB (cr_all rfl) (by rfl) B.all (by decide +kernel) (pa_cons (pe_lc (own := [("_law_letter", 2)]) (g := (gName 2)) (by rfl) scLawIsName.nd (pi_str (pv 0)) (blkOk_by (own := [("_law_letter", 2)]) (N := nLawIsName) (sc := defScope sLawIsName) (by decide +kernel)) (fun _ _ _ _ _ => (pg_name (i := 2) scLawIsName.nd rfl (.inl rfl))) (fun _ _ _ _ _ => pts_nil) (fun _ _ _ _ _ => (pe_cmpR op_in_sign (pv 2) (pv 1) (by rfl)))) pa_nil)))))))), ?_⟩
    rcases hv with ⟨z, rfl, hz⟩ | ⟨hn, t, ty, kt⟩
    · refine ⟨_, rfl, _, _, _, _, _, rfl, .ty _, .base (.str z), kit_ty (r := true) (by decide +kernel), _, rfl, ?_⟩
      refine iteT ⟨_, rfl, z, rfl, sz_of (by omega), _, _, rfl, rfl, _, rfl, ?_⟩
      refine iteB (fun h1 => ⟨_, _, rfl, rfl, _, rfl, iteB (fun h2 => ?_) (fun h2 => ?_)⟩) (fun h1 => ⟨_, rfl, iteF ?_⟩)
      · have g1 := of_decide_eq_true h1
        have g2 := of_decide_eq_true h2
        refine ⟨.str z, rfl, z, rfl, fun D hD => lc_pure (fun _ => true) (fun i => .bl (decide (z.cps.getD i 0 ∈ abc.cps.toList))) walk_strF (fun _ _ => True.intro) hD (by show z.length ≤ 40000; omega) (fun _ => rfl) (fun i H1 _ _ => et_yes)
          (fun i H1 _ _ _ => ev_op (ev_var rfl) (ev_var rfl) fun H2 _ _ k => ⟨_, _, rfl, rfl, k H2 (Ex.refl H2)⟩) fun H2 e2 h2 => ?_⟩
        rw [given_all] at h2
        refine ⟨D, (List.range z.cps.size).map fun i => decide (z.cps.getD i 0 ∈ abc.cps.toList), rfl, sq_of (by rw [List.map_map]; exact h2), ?_⟩
        rw [all_signs rfl, ← nm_ok (by omega) (by omega)]
        exact q H2 e2
      · have e : isNmV (.str z) = false := nm_long (by have := of_decide_eq_false h2; omega)
        rw [e] at q
        exact q H (Ex.refl H)
      · have e : isNmV (.str z) = false := nm_short (by have := of_decide_eq_false h1; omega)
        rw [e] at q
        exact q H (Ex.refl H)
    · refine ⟨_, rfl, _, _, _, _, _, rfl, .ty _, ty, kit_ty kt, _, rfl, ?_⟩
      refine iteF ?_
      rw [isNmV_no hn] at q
      exact q H (Ex.refl H)
/-! ### the well -/
theorem ok_source0 (F : FnS K "_law_source" "_law_source" sSource f fd) (B : Bl mg) : FnOk P w K mg base CX0 1 f fd ["_law_cell"] spSource0 := by
  refine okD F scSource (fun vs H Q E h => ?_) (fun cdv A outer s H vs Q E hr h => ?_)
  · obtain ⟨v, rfl, _⟩ := h
    rfl
  · obtain ⟨n, rfl, q⟩ := h
    refine ⟨_, (pss_cons (ps_set (i := 1) scSource.nd rfl (.inl rfl) (pe_ifExp (pt_cmpR op_ge (pv 0) pe_int (nomark _)) (pv 0) (pe_op op_sub (pe_op op_sub pe_int (pe_op op_mul pe_int (pv 0))) pe_int)))
      (pss_one (ps_ret (pe_lst (pa_cons (pe_op op_mul (pv 1) (pe_callTy call_int1 (by rfl) B.int (by decide +kernel) (pa_cons (pe_cmpR op_ge (pv 1) (pe_op op_pow pe_int pe_int) (nomark _)) pa_nil))) (pa_cons (pe_op op_modN (pe_callTy call_int1 (by rfl) B.int (by decide +kernel) (pa_cons (pv 1) pa_nil)) pe_int) (pa_cons pe_int pa_nil))))))), ?_⟩
    have fin : ∀ m : Int, ∃ u v : Int, ∀ p, H p = none → Q (.ref p) (upd H p (.lst [.int (m * (if decide ((10 : Int) ^ (18 : Int).toNat ≤ m) = true then 1 else 0)), .int (m.fmod 2147483629), .int 0])) := fun m => ⟨0, 0, fun p hp => q p _ _ _ hp⟩
    have hm : ∀ (m : Int) (b : Bool), CMul m (if b = true then 1 else 0) := fun m b => .inr (by cases b <;> decide)
    refine ⟨_, rfl, _, _, rfl, rfl, _, rfl, iteB (fun h1 => ?_) (fun h1 => ?_)⟩
    · refine ⟨_, rfl, ?_⟩
      refine ⟨_, rfl, _, rfl, 10, 18, rfl, rfl, ⟨by decide, by decide, by decide⟩, _, _, rfl, rfl, .inr ⟨_, rfl, _, _, rfl, rfl, hm _ _, ?_⟩⟩
      refine ⟨_, rfl, .inl ⟨_, rfl, _, _, rfl, rfl, (by decide : (2147483629 : Int) ≠ 0), by show 3 ≤ sizeLine; decide, fun p hp => q p _ _ _ hp⟩⟩
    · refine ⟨_, rfl, _, _, rfl, rfl, .inl (by decide), _, _, rfl, rfl, _, _, rfl, rfl, ?_⟩
      refine ⟨_, rfl, _, rfl, 10, 18, rfl, rfl, ⟨by decide, by decide, by decide⟩, _, _, rfl, rfl, .inr ⟨_, rfl, _, _, rfl, rfl, hm _ _, ?_⟩⟩
      refine ⟨_, rfl, .inl ⟨_, rfl, _, _, rfl, rfl, (by decide : (2147483629 : Int) ≠ 0), by show 3 ≤ sizeLine; decide, fun p hp => q p _ _ _ hp⟩⟩
theorem ok_draw0 (F : FnS K "_law_draw" "_law_draw" sDraw f fd) (B : Bl mg) : FnOk P w K mg base CX0 1 f fd ["_law_well", "_law_many"] spDraw0 := by
  refine okD F scDraw (fun vs H Q E h => ?_) (fun cdv A outer s H vs Q E hr h => ?_)
  · obtain ⟨a, i, j, k, n, rfl, _⟩ := h
    rfl
  · obtain ⟨a, i, j, k, n, rfl, ha, n0, n1, q⟩ := h
    refine ⟨_, (pss_cons (ps_if (pt_cmpR op_gt (pe_ix ix_list (pv 0) pe_int (fun _ _ => rfl)) pe_int (nomark _))
      (pss_cons (ps_set (i := 2) scDraw.nd rfl (.inl rfl) (pe_op op_modN (pe_callTy call_int1 (by rfl) B.int (by decide +kernel) (pa_cons (pe_ix ix_list (pv 0) pe_int (fun _ _ => rfl)) pa_nil)) (pv 1)))
      (pss_cons (ps_asg (pe_op op_fdivN (pe_ix ix_list (pv 0) pe_int (fun _ _ => rfl)) (pv 1)) (pg_sub (pv 0) pe_int set_list))
      (pss_one (ps_ret (pv 2)))))
      pss_nil)
      (pss_cons (ps_asg (pe_op op_add (pe_ix ix_list (pv 0) pe_int (fun _ _ => rfl)) pe_int) (pg_sub (pv 0) pe_int set_list))
      (pss_cons (ps_set (i := 3) scDraw.nd rfl (.inl rfl) (pe_op op_modN (pe_callTy call_int1 (by rfl) B.int (by decide +kernel) (pa_cons (pe_op op_mul (pe_op op_add (pe_op op_add (pe_ix ix_list (pv 0) pe_int (fun _ _ => rfl)) (pe_op op_mul pe_int (pe_ix ix_list (pv 0) pe_int (fun _ _ => rfl)))) pe_int) pe_int) pa_nil)) pe_int))
      (pss_cons (ps_set (i := 3) scDraw.nd rfl (.inl rfl) (pe_op op_modN (pe_callTy call_int1 (by rfl) B.int (by decide +kernel) (pa_cons (pe_op op_mul (pv 3) (pe_op op_add (pe_op op_add (pe_op op_fdivN (pv 3) pe_int) pe_int) (pe_ix ix_list (pv 0) pe_int (fun _ _ => rfl)))) pa_nil)) pe_int))
      (pss_one (ps_ret (pe_op op_modN (pe_callTy call_int1 (by rfl) B.int (by decide +kernel) (pa_cons (pe_op op_fdivN (pe_op op_modN (pe_callTy call_int1 (by rfl) B.int (by decide +kernel) (pa_cons (pe_op op_mul (pv 3) (pe_op op_add (pe_op op_fdivN (pv 3) pe_int) pe_int)) pa_nil)) pe_int) pe_int) pa_nil)) (pv 1)))))))), ?_⟩
    have L0 : SqL K H a [.int i, .int j, .int k] := sq_of ha
    refine ⟨_, rfl, a, _, 0, _, rfl, rfl, L0, rfl, _, _, rfl, rfl, _, rfl, iteB (fun h1 => ?_) (fun h1 => ?_)⟩
    · refine ⟨_, rfl, a, _, 0, _, rfl, rfl, L0, rfl, .inl ⟨_, rfl, _, rfl, _, _, rfl, rfl, (by omega : n ≠ 0), ?_⟩⟩
      refine ⟨_, rfl, a, _, 0, _, rfl, rfl, L0, rfl, _, rfl, _, _, rfl, rfl, ⟨by omega, by omega⟩, _, rfl, a, _, 0, 0, rfl, rfl, ha, rfl, _, rfl, ?_⟩
      exact q _ _ _ _ (Int.fmod_nonneg_of_pos _ n0) (Int.fmod_lt_of_pos _ n0)
    · refine ⟨_, rfl, a, _, 2, _, rfl, rfl, L0, rfl, _, _, rfl, rfl, _, rfl, a, _, 2, 2, rfl, rfl, ha, rfl, ?_⟩
      have L1 : SqL K (upd H a (wl i j (k + 1))) a [.int i, .int j, .int (k + 1)] := sq_of upd_same
      refine ⟨_, rfl, a, _, 1, _, rfl, rfl, L1, rfl, _, rfl, a, _, 2, _, rfl, rfl, L1, rfl, _, _, rfl, rfl, .inl (by decide), _, _, rfl, rfl, _, _, rfl, rfl, _, _, rfl, rfl, .inr (by decide), .inl ⟨_, rfl, _, _, rfl, rfl, (by decide : (2147483647 : Int) ≠ 0), ?_⟩⟩
      have b1 : ∀ x : Int, 0 ≤ x.fmod 2147483647 ∧ x.fmod 2147483647 < 2147483647 := fun x => ⟨Int.fmod_nonneg_of_pos _ (by decide), Int.fmod_lt_of_pos _ (by decide)⟩
      have b2 : ∀ x : Int, 0 ≤ x.fmod 2147483587 ∧ x.fmod 2147483587 < 2147483587 := fun x => ⟨Int.fmod_nonneg_of_pos _ (by decide), Int.fmod_lt_of_pos _ (by decide)⟩
      refine ⟨_, rfl, _, rfl, _, _, rfl, rfl, ⟨by decide, by decide⟩, _, _, rfl, rfl, _, rfl, a, _, 2, _, rfl, rfl, L1, rfl, _, _, rfl, rfl, _, _, rfl, rfl, .inl ?_, .inl ⟨_, rfl, _, _, rfl, rfl, (by decide : (2147483587 : Int) ≠ 0), ?_⟩⟩
      · have := b1 ((j + 104729 * (k + 1) + 11) * 48271)
        constructor <;> omega
      refine ⟨_, rfl, _, rfl, _, _, rfl, rfl, ⟨by decide, by decide⟩, _, _, rfl, rfl, _, _, rfl, rfl, .inl ?_, .inl ⟨_, rfl, _, _, rfl, rfl, (by decide : (2147483563 : Int) ≠ 0), _, _, rfl, rfl, ⟨by decide, by decide⟩, .inl ⟨_, rfl, _, rfl, _, _, rfl, rfl, (by omega : n ≠ 0), ?_⟩⟩⟩
      · have := b2 (((j + 104729 * (k + 1) + 11) * 48271).fmod 2147483647 * ((((j + 104729 * (k + 1) + 11) * 48271).fmod 2147483647).fdiv 1009 + 69621 + (k + 1)))
        constructor <;> omega
      exact q _ _ _ _ (Int.fmod_nonneg_of_pos _ n0) (Int.fmod_lt_of_pos _ n0)
end
end L08
namespace L08
open PySem PySem.Spec PyProof.Rows L2 Evl Bf
section
variable {P : Program} {w : World} {K : PySem.W.Frag} {mg : Str → Option Value} {base : Heap} {f : Addr} {fd : FuncData}
def spPick (K : PySem.W.Frag) : Sp := fun vs H Q _ => ∃ (a : Addr) (x : V), vs = [.ref a, x] ∧ H a = some (wellO a) ∧
  ((∃ p xs, x = .ref p ∧ SqL K H p xs ∧ xs ≠ [] ∧ xs.length ≤ 1000 ∧ ∀ v ∈ xs, Q v H) ∨ (∃ z : Str, x = .str z ∧ 0 < z.length ∧ z.length ≤ 1000 ∧ ∀ c ∈ z.cps.toList, Q (.str (sign c)) H))
theorem ok_pick (F : FnS K "_law_pick" "_law_pick" sPick f fd) (B : Bl mg) (c__law_draw : Cal P w K mg base CX0 1 "_law_draw" ["_law_well", "_law_many"] spDraw) :
    FnOk P w K mg base CX0 2 f fd ["_law_well", "_law_some"] (spPick K) := by
  refine okD F scPick (fun vs H Q E h => ?_) (fun cdv A outer s H vs Q E hr h => ?_)
  · obtain ⟨a, x, rfl, _⟩ := h
    rfl
  · obtain ⟨a, x, rfl, hw, h⟩ := h
    refine ⟨_, (pss_one (ps_ret (pe_ix ix_seq (pv 1) (pe_cal c__law_draw (hr.mono (by decide)) pass0 (pa_cons (pv 0) (pa_cons (pe_callB call_len (by rfl) B.len (by decide +kernel) (pa_cons (pv 1) pa_nil)) pa_nil))) (fun _ _ => rfl)))), ?_⟩
    rcases h with ⟨p, xs, rfl, hx, hne, hl, q⟩ | ⟨z, rfl, h0, hl, q⟩
    · have hp : 0 < xs.length := List.length_pos_iff.mpr hne
      refine ⟨_, rfl, _, rfl, _, rfl, _, xs.length, rfl, .inl ⟨xs, hx, rfl⟩, a, _, rfl, hw, by omega, by omega, fun d d0 d1 => .inl ?_⟩
      obtain ⟨m, rfl⟩ := Int.eq_ofNat_of_zero_le d0
      have hm : m < xs.length := by omega
      exact ⟨p, xs, _, xs[m], rfl, rfl, hx, atI_nat (List.getElem?_eq_getElem hm), q _ (List.getElem_mem hm)⟩
    · refine ⟨_, rfl, _, rfl, _, rfl, _, z.length, rfl, ⟨sz_of (by omega), rfl⟩, a, _, rfl, hw, by omega, by omega, fun d d0 d1 => .inr (.inr ?_)⟩
      obtain ⟨m, rfl⟩ := Int.eq_ofNat_of_zero_le d0
      have hm : m < z.cps.toList.length := by rw [len_toList]; omega
      exact ⟨z, _, z.cps.toList[m], rfl, rfl, sz_of (by omega), atI_nat (List.getElem?_eq_getElem hm), q _ (List.getElem_mem hm)⟩
/-- names drawn -/
def spNames : Sp := fun vs H Q _ => ∃ (a : Addr) (m : Nat), vs = [.ref a, .int m] ∧ H a = some (wellO a) ∧ m ≤ 25 ∧
  ∀ xs p H', xs.length = m → NamesOk xs → H p = none → Ex H H' → H' p = some (.lst (xs.map V.str)) → Q (.ref p) H'
theorem ok_names (F : FnS K "_law_names" "_law_names" sNames f fd) (B : Bl mg) (c__law_draw : Cal P w K mg base CX0 1 "_law_draw" ["_law_well", "_law_many"] spDraw)
    (c__law_pick : Cal P w K mg base CX0 2 "_law_pick" ["_law_well", "_law_some"] (spPick K)) : FnOk P w K mg base CX0 3 f fd ["_law_well", "_law_many"] spNames := by
  refine okD F scNames (fun vs H Q E h => ?_) (fun cdv A outer s H vs Q E hr h => ?_)
  · obtain ⟨a, x, rfl, _⟩ := h
    rfl
  · obtain ⟨a, m, rfl, hw, hm, q⟩ := h
    refine ⟨_, (pss_cons (ps_set (i := 2) scNames.nd rfl (.inr rfl) pe_str)
      (pss_cons (ps_set (i := 3) scNames.nd rfl (.inl rfl) (pe_lst pa_nil))
      (pss_cons (ps_for PassesOwn.never (by rfl) (pi_range1 (by rfl) B.range (pa_cons (pv 1) pa_nil)) (pg_name (i := 4) scNames.nd rfl (.inl rfl))
      (pss_cons (ps_set (i := 5) scNames.nd rfl (.inl rfl) (pe_slice sl_str (pe_join pe_str (pe_lc (own := [("_law_j", 7)]) (g := (gName 7)) (by rfl) scNames.nd (pi_range1 (by rfl) B.range (pa_cons (pe_op op_add pe_int (pe_op op_mul (pe_cal c__law_draw (hr.mono (by decide)) pass0 (pa_cons (pv 0) (pa_cons pe_int pa_nil))) (pe_cal c__law_draw (hr.mono (by decide)) pass0 (pa_cons (pv 0) (pa_cons pe_int pa_nil))))) pa_nil)) (blkOk_by (own := [("_law_j", 7)]) (N := nNames) (sc := defScope sNames) (by decide +kernel)) (fun _ _ _ _ _ => (pg_name (i := 7) scNames.nd rfl (.inl rfl))) (fun _ _ _ _ _ => pts_nil) (fun _ _ _ _ _ => (pe_cal c__law_pick (hr.mono (by decide)) pass0 (pa_cons (pv 0) (pa_cons (pv 2) pa_nil)))))) po_none (po_some pe_int)))
      (pss_cons (ps_for PassesOwn.never (by rfl) (pi_str (pv 2)) (pg_name (i := 6) scNames.nd rfl (.inl rfl))
      (pss_one (ps_if (PW.pt (pw_and (pt_cmpR op_in_seq (pv 5) (pv 3) (by rfl)) (pw_and1 (pt_cmpR op_notIn_seq (pv 6) (pv 3) (by rfl)))))
      (pss_one (ps_set (i := 5) scNames.nd rfl (.inl rfl) (pv 6)))
      pss_nil)))
      (pss_one (ps_expr (pe_bm PySem.F.plainAttrs_list PySem.F.slot_list_append PySem.F.type_list_append mt_append (pv 3) (pa_cons (pv 5) pa_nil)))))))
      (pss_one (ps_ret (pv 3)))))), ?_⟩
    refine ⟨Nat.zero_le _, fun p hp => ?_⟩
    refine ⟨_, rfl, m, rfl, by omega, by omega, for_range (lo := 0) (n := m)
      (fun i σ H' => ∃ xs y4 y5 y6 y7, σ = [some (.ref a), some (.int m), some (.str abc), some (.ref p), y4, y5, y6, y7] ∧ xs.length = i ∧ NamesOk xs ∧ Ex H H' ∧ H' p = some (.lst (xs.map V.str)))
      ⟨[], none, none, none, none, rfl, rfl, ⟨List.nodup_nil, fun x hx => by cases hx⟩, Ex.new hp, upd_same⟩ (fun i σ H' hi hP => ?_) (fun σ H' hP => ?_)⟩
    · obtain ⟨xs, y4, y5, y6, y7, rfl, hl, hN, hE, hL⟩ := hP
      have hw1 : H' a = some (wellO a) := hE a _ hw
      have pa : p ≠ a := (ne_of_none hw hp).symm
      -- the word
      refine ⟨⟨_, rfl⟩, _, rfl, a, 3, rfl, hw1, by decide, by decide, fun d d0 d1 => ⟨_, rfl, a, 4, rfl, hw1, by decide, by decide, fun e e0 e1 => ?_⟩⟩
      have hd : d = 0 ∨ d = 1 ∨ d = 2 := by omega
      have he : e = 0 ∨ e = 1 ∨ e = 2 ∨ e = 3 := by omega
      have hn : ∃ n : Nat, 1 + d * e = n ∧ 1 ≤ n ∧ n ≤ 7 ∧ n ≠ 6 := by
        rcases hd with rfl | rfl | rfl <;> rcases he with rfl | rfl | rfl | rfl <;> exact ⟨_, rfl, by decide, by decide, by decide⟩
      obtain ⟨n, en, n1, n7, n6⟩ := hn
      refine ⟨d, e, rfl, rfl, .inl (by constructor <;> omega), _, _, rfl, rfl, n, by show [V.int (1 + d * e)] = _; rw [en], by omega, by omega, fun D hD => ?_⟩
      refine lc_range (lo := 0) (n := n) (fun i2 G => ∃ cs : List Nat, cs.length = i2 ∧ (∀ c ∈ cs, c ∈ abc.cps.toList) ∧ Ex H' G ∧ G D = some (.lst (cs.map fun c => V.str (sign c))))
        ⟨[], rfl, (fun c hc => by cases hc), Ex.new hD, upd_same⟩ (fun i2 G hi2 hG => ?_) (fun G hG => ?_)
      · obtain ⟨cs, cl, ca, cE, cD⟩ := hG
        refine ⟨rfl, _, rfl, _, rfl, a, _, rfl, cE a _ hw1, .inr ⟨abc, rfl, by decide +kernel, by decide +kernel, fun c hc => ⟨_, cD, ?_, cs ++ [c], ?_, ?_, ?_, ?_⟩⟩⟩
        · rw [List.length_map]; exact sz_lt (by omega)
        · rw [List.length_append, cl]; rfl
        · intro x hx
          rcases List.mem_append.mp hx with h | h
          · exact ca x h
          · rw [List.mem_singleton.mp h]; exact hc
        · exact Ex.mut cE hD
        · rw [upd_same, List.map_append]; rfl
      · obtain ⟨cs, cl, ca, cE, cD⟩ := hG
        have hdr : Bf.Drawn (Txt.join "" (cs.map sign)) := join_drawn (by omega) (by omega) (by omega) ca
        refine ⟨_, D, cs.map sign, rfl, rfl, .inl (sq_of (by rw [List.map_map]; exact cD)), ?_, 8, rfl, _, rfl, sz_of (by have := hdr.2.1; omega), ?_⟩
        · have e1 : ((cs.map sign).map (·.length)).sum = cs.length := by
            rw [List.map_map]
            clear cD ca cl hdr
            induction cs with
            | nil => rfl
            | cons c r ih =>
              rw [List.map_cons, List.sum_cons, ih, List.length_cons]
              show 1 + r.length = r.length + 1
              omega
          rw [e1, List.length_map]
          show cs.length + cs.length * 0 ≤ 16777216
          omega
        · rw [cut8 (by have := hdr.2.1; omega)]
          generalize Txt.join "" (cs.map sign) = z at hdr
          refine ⟨_, rfl, abc, rfl, for_it walk_strF (fun i3 σ G2 => ∃ w y6, σ = [some (.ref a), some (.int m), some (.str abc), some (.ref p), some (.int (0 + (i : Int))), some (.str w), y6, y7] ∧ Bf.Drawn w ∧ (w ∉ xs ∨ ∀ j, j < i3 → sign (abc.cps.getD j 0) ∈ xs) ∧ Ex H' G2)
            ⟨z, y6, rfl, hdr, .inr fun j hj => absurd hj (Nat.not_lt_zero j), cE⟩ (fun _ _ _ _ _ => True.intro) (fun i3 x σ G2 G3 hi3 hP y => ?_) (fun σ G2 hP => ?_)⟩
          · obtain ⟨rfl, rfl⟩ := y
            obtain ⟨w, y6, rfl, dw, hor, gE⟩ := hP
            have gL : SqL K G3 p (xs.map V.str) := sq_of (gE p _ hL)
            have c1 : abc.cps.getD i3 0 ∈ abc.cps.toList := getD_abc hi3
            refine ⟨_, rfl, _, rfl, p, _, rfl, .inl gL, rfl, flat_strs xs, _, rfl, ?_⟩
            rw [inV_str]
            refine iteB (fun h1 => ⟨_, rfl, _, rfl, p, _, rfl, .inl gL, rfl, flat_strs xs, _, rfl, ?_⟩) (fun h1 => iteF ?_)
            · rw [inV_str]
              refine iteB (fun h2 => ?_) (fun h2 => ?_)
              · have h2' : sign (abc.cps.getD i3 0) ∉ xs := by simpa using h2
                exact ⟨_, rfl, _, _, rfl, sign_drawn c1, .inl h2', gE⟩
              · have h2' : sign (abc.cps.getD i3 0) ∈ xs := by simpa using h2
                have h1' : w ∈ xs := of_decide_eq_true h1
                refine ⟨w, _, rfl, dw, .inr fun j hj => ?_, gE⟩
                rcases hor with h | h
                · exact absurd h1' h
                · by_cases e : j = i3
                  · rw [e]; exact h2'
                  · exact h j (by omega)
            · exact ⟨w, _, rfl, dw, .inl (of_decide_eq_false h1), gE⟩
          · obtain ⟨w, y6, rfl, dw, hor, gE⟩ := hP
            have hw2 : w ∉ xs := by
              rcases hor with h | h
              · exact h
              · have := all_in (xs := xs) fun j hj => h j (by show j < abc.cps.size; have := abc_len; rw [Array.length_toList] at this; omega)
                omega
            have gL := gE p _ hL
            refine ⟨_, rfl, .inl ⟨rfl, _, sq_of gL⟩, _, rfl, p, _, _, rfl, rfl, gL, by rw [List.length_map]; exact sz_lt (by omega), ?_⟩
            refine ⟨xs ++ [w], _, _, _, _, rfl, by rw [List.length_append, hl]; rfl, ⟨?_, ?_⟩, Ex.mut (hE.trans gE) hp, by rw [upd_same, List.map_append]; rfl⟩
            · exact List.nodup_append.mpr ⟨hN.1, by simp, fun x hx y hy => by rw [List.mem_singleton.mp hy]; exact fun z => hw2 (z ▸ hx)⟩
            · intro x hx
              rcases List.mem_append.mp hx with h | h
              · exact hN.2 x h
              · rw [List.mem_singleton.mp h]; exact dw
    · obtain ⟨xs, y4, y5, y6, y7, rfl, hl, hN, hE, hL⟩ := hP
      exact ⟨_, rfl, q xs p H' (by omega) hN hp hE hL⟩
end
end L08
namespace L08
open PySem PySem.Spec PyProof.Rows L2 Evl Bf
section
variable {P : Program} {w : World} {K : PySem.W.Frag} {mg : Str → Option Value} {base : Heap} {f : Addr} {fd : FuncData}
theorem seqIx {m n : Nat} (h : m < n) : seqIndex? (m : Int) n = some m := by
  unfold seqIndex?
  simp
  omega
theorem map_erase {α β : Type} (g : α → β) : ∀ (l : List α) (k : Nat), (l.map g).eraseIdx k = (l.eraseIdx k).map g
  | [], _ => rfl
  | _ :: _, 0 => rfl
  | a :: r, k + 1 => by
    show g a :: (r.map g).eraseIdx k = g a :: (r.eraseIdx k).map g
    rw [map_erase g r k]
theorem perm_erase {α : Type} : ∀ {l : List α} {k : Nat} {x : α}, l[k]? = some x → (x :: l.eraseIdx k).Perm l
  | [], _, _, h => by simp at h
  | a :: r, 0, x, h => by
    have e : a = x := Option.some.inj h
    subst e
    exact List.Perm.refl _
  | a :: r, k + 1, x, h => by
    have ih := perm_erase (l := r) (k := k) (x := x) h
    show (x :: a :: r.eraseIdx k).Perm (a :: r)
    exact (List.Perm.swap a x _).trans (ih.cons a)
/-- shuffled: a list of texts, or a dict by its text keys -/
def KeysAt (K : PySem.W.Frag) (H : Hp) (p : Addr) (ss : List Str) : Prop := SqL K H p (ss.map V.str) ∨ ∃ kvs : List (Key × V), H p = some (.dK kvs) ∧ kvs.map (·.1) = ss.map Sum.inr
def spShuf (K : PySem.W.Frag) : Sp := fun vs H Q _ => ∃ (a p : Addr) (ss : List Str), vs = [.ref a, .ref p] ∧ H a = some (wellO a) ∧ KeysAt K H p ss ∧ ss.length ≤ 1000 ∧
  ∀ (ys : List Str) (q : Addr) (H' : Hp), ys.Perm ss → H q = none → Ex H H' → H' q = some (.lst (ys.map V.str)) → Q (.ref q) H'
theorem keys_map {kvs : List (Key × V)} {ss : List Str} (h : kvs.map (·.1) = ss.map Sum.inr) : (kvs.map fun kv => kV kv.1) = ss.map V.str := by
  have e : (kvs.map fun kv => kV kv.1) = (kvs.map (·.1)).map kV := by rw [List.map_map]; rfl
  rw [e, h, List.map_map]
  rfl
theorem keys_len {kvs : List (Key × V)} {ss : List Str} (h : kvs.map (·.1) = ss.map Sum.inr) : kvs.length = ss.length := by
  have e := congrArg List.length h
  rwa [List.length_map, List.length_map] at e
theorem KeysAt.mono {H H' : Hp} {p : Addr} {ss : List Str} (h : KeysAt K H p ss) (e : Ex H H') : KeysAt K H' p ss := by
  rcases h with h | ⟨kvs, h, k⟩
  · exact .inl (ex_l e h)
  · exact .inr ⟨kvs, e p _ h, k⟩
theorem cr_listK {X : Cx} (hc : X.calm = true) : CallR X (.type "list") (fun xs H Q => ∃ (p : Addr) (ss : List Str), xs = [.ref p] ∧ KeysAt X.K H p ss ∧ ∀ l, H l = none → Q (.ref l) (upd H l (.lst (ss.map V.str)))) := by
  intro pins s σ H vs us Q I r h
  obtain ⟨p, ss, rfl, hk, q⟩ := h
  rcases hk with h | ⟨kvs, h, hks⟩
  · exact call_list_of pins s σ H _ us Q I r ⟨p, _, rfl, .inl h, q⟩
  · exact call_listD hc pins s σ H _ us Q I r ⟨p, kvs, rfl, .inl h, fun l nl => by rw [keys_map hks]; exact q l nl⟩
theorem cr_lenK {X : Cx} : CallR X (.builtin "len") (fun xs H Q => ∃ (p : Addr) (ss : List Str), xs = [.ref p] ∧ KeysAt X.K H p ss ∧ Q (.int ss.length) H) := by
  intro pins s σ H vs us Q I r h
  obtain ⟨p, ss, rfl, hk, q⟩ := h
  rcases hk with h | ⟨kvs, h, hks⟩
  · exact call_len_seq pins s σ H _ us Q I r ⟨p, _, rfl, .inl h, by rw [List.length_map]; exact q⟩
  · exact call_lenD pins s σ H _ us Q I r ⟨p, kvs, rfl, h, by rw [keys_len hks]; exact q⟩
theorem ok_shuf (F : FnS K "_law_shuffled" "_law_shuffled" sShuf f fd) (B : Bl mg) (c__law_draw : Cal P w K mg base CX0 1 "_law_draw" ["_law_well", "_law_many"] spDraw) :
    FnOk P w K mg base CX0 2 f fd ["_law_well", "_law_some"] (spShuf K) := by
  refine okD F scShuf (fun vs H Q E h => ?_) (fun cdv A outer s H vs Q E hr h => ?_)
  · obtain ⟨a, p, ss, rfl, _⟩ := h
    rfl
  · obtain ⟨a, p, ss, rfl, hw, hk, hl, q⟩ := h
    refine ⟨_, (pss_cons (ps_par (i := 2) (j := 3) (by rfl) scShuf.nd rfl rfl (by decide) rfl rfl (pa_cons (pe_callTy (cr_listK rfl) (by rfl) B.list (by decide +kernel) (pa_cons (pv 1) pa_nil)) (pa_cons (pe_lst pa_nil) pa_nil)) (by rfl))
      (pss_cons (ps_for PassesOwn.never (by rfl) (pi_range1 (by rfl) B.range (pa_cons (pe_callB cr_lenK (by rfl) B.len (by decide +kernel) (pa_cons (pv 1) pa_nil)) pa_nil)) (pg_name (i := 4) scShuf.nd rfl (.inl rfl))
      (pss_one (ps_expr (pe_bm PySem.F.plainAttrs_list PySem.F.slot_list_append PySem.F.type_list_append mt_append (pv 3) (pa_cons (pe_bm PySem.F.plainAttrs_list PySem.F.slot_list_pop PySem.F.type_list_pop mt_popAt (pv 2) (pa_cons (pe_cal c__law_draw (hr.mono (by decide)) pass0 (pa_cons (pv 0) (pa_cons (pe_callB cr_lenK (by rfl) B.len (by decide +kernel) (pa_cons (pv 2) pa_nil)) pa_nil))) pa_nil)) pa_nil)))))
      (pss_one (ps_ret (pv 3))))), ?_⟩
    -- behind the two lists
    refine ⟨_, rfl, p, ss, rfl, hk, fun r hr1 => ?_⟩
    refine ⟨Nat.zero_le _, fun o ho => ⟨_, _, rfl, ?_⟩⟩
    have hor : o ≠ r := fun z => by rw [z, upd_same] at ho; cases ho
    have ho' : H o = none := by rw [upd_ne hor] at ho; exact ho
    have E1 : Ex H (upd (upd H r (.lst (ss.map V.str))) o (.lst [])) := (Ex.new hr1).trans (Ex.new ho)
    refine ⟨_, rfl, p, ss, rfl, hk.mono E1, ss.length, rfl, by omega, by omega, for_range (lo := 0) (n := ss.length)
      (fun i σ G => ∃ fs rs y4, σ = [some (.ref a), some (.ref p), some (.ref r), some (.ref o), y4] ∧ fs.length = i ∧ (fs ++ rs).Perm ss ∧ Ex H G ∧ G r = some (.lst (rs.map V.str)) ∧ G o = some (.lst (fs.map V.str)))
      ⟨[], ss, none, rfl, rfl, List.Perm.refl _, E1, by rw [upd_ne hor.symm, upd_same], upd_same⟩ (fun i σ G hi hP => ?_) (fun σ G hP => ?_)⟩
    · obtain ⟨fs, rs, y4, rfl, hf, hp, gE, gr, go⟩ := hP
      have hlen : rs.length = ss.length - i := by
        have := hp.length_eq
        rw [List.length_append] at this
        omega
      refine ⟨_, rfl, .inl ⟨rfl, _, sq_of go⟩, _, rfl, .inl ⟨rfl, _, sq_of gr⟩, _, rfl, _, rfl, r, rs, rfl, .inl (sq_of gr), a, _, rfl, gE a _ hw, ?_, ?_, fun d d0 d1 => ?_⟩
      · omega
      · omega
      · obtain ⟨m, rfl⟩ := Int.eq_ofNat_of_zero_le d0
        have hm : m < rs.length := by omega
        have gx : (rs.map V.str)[m]? = some (.str rs[m]) := by rw [List.getElem?_map, List.getElem?_eq_getElem hm]; rfl
        refine ⟨r, _, _, m, _, rfl, rfl, gr, by omega, by omega, seqIx (by rw [List.length_map]; exact hm), gx, ?_⟩
        have hro : o ≠ r := hor
        refine ⟨o, _, _, rfl, rfl, by rw [upd_ne hro]; exact go, by rw [List.length_map]; exact sz_lt (by omega), ?_⟩
        refine ⟨fs ++ [rs[m]], rs.eraseIdx m, _, rfl, by rw [List.length_append, hf]; rfl, ?_, Ex.mut (Ex.mut gE hr1) ho', ?_, ?_⟩
        · rw [List.append_assoc]
          exact (List.Perm.append_left fs (perm_erase (List.getElem?_eq_getElem hm))).trans hp
        · rw [upd_ne hro.symm, upd_same, map_erase]
        · rw [upd_same, List.map_append]; rfl
    · obtain ⟨fs, rs, y4, rfl, hf, hp, gE, gr, go⟩ := hP
      have hlen := hp.length_eq
      rw [List.length_append] at hlen
      have hrs : rs = [] := List.length_eq_zero_iff.mp (by omega)
      subst hrs
      rw [List.append_nil] at hp
      exact ⟨_, rfl, q fs o G hp ho' gE go⟩
end
end L08
namespace L08
open PySem PySem.Spec PyProof.Rows L2 Evl Bf
/-- the way out with an error of the class x whose field f holds v -/
def Out (K : PySem.W.Frag) (H : Hp) (E : XK) (x f : Str) (v : V) : Prop := ∀ (d : Addr) (G : Hp), Ex H G → H d = none → G d = some (.xd [(f, v)]) → E (.ref (He.ga K x)) (some d) G
theorem Out.go {K : PySem.W.Frag} {H G : Hp} {E : XK} {x f : Str} {v : V} (o : Out K H E x f v) (e : Ex H G) {d : Addr} (hd : G d = none) : E (.ref (He.ga K x)) (some d) (upd G d (.xd [(f, v)])) :=
  o d _ (e.trans (Ex.new hd)) (fresh_back e hd) upd_same
section
variable {P : Program} {w : World} {K : PySem.W.Frag} {mg : Str → Option Value} {base : Heap} {f : Addr} {fd : FuncData}
theorem take_map (xs : List Str) (i : Nat) (h : i ≤ xs.length) : cutV (xs.map V.str) none (some (i : Int)) = (xs.take i).map V.str := by
  unfold cutV
  rw [HT.sIx_none, HT.sIx_nat, List.drop_zero, Nat.sub_zero, List.length_map, Nat.min_eq_left h, List.map_take]
theorem getD_map {xs : List Str} {i : Nat} {v : V} (h : (xs.map V.str)[i]? = some v) : v = .str (xs.getD i "") ∧ i < xs.length := by
  rw [List.getElem?_map] at h
  cases e : xs[i]? with
  | none => rw [e] at h; cases h
  | some z =>
    rw [e] at h
    obtain ⟨h1, h2⟩ := List.getElem?_eq_some_iff.mp e
    refine ⟨?_, h1⟩
    rw [← Option.some.inj h]
    simp [List.getD, e]
theorem getD_mem {xs : List Str} {i : Nat} (h : i < xs.length) : xs.getD i "" ∈ xs := by
  have e : xs.getD i "" = xs[i] := by simp [List.getD, h]
  rw [e]
  exact List.getElem_mem h
def spNeed (K : PySem.W.Frag) : Sp := fun vs H Q E => ∃ (p : Addr) (xs : List Str), vs = [.ref p] ∧ SqL K H p (xs.map V.str) ∧ xs.length ≤ 60 ∧ (∀ x ∈ xs, StrOk x) ∧
  (∀ i, plErr xs = some i → Out K H E "BadPlaces" "index" (.int i)) ∧ (plErr xs = none → ∀ q G, H q = none → Ex H G → G q = some (.tup ((srt xs).map V.str)) → Q (.ref q) G)
theorem ok_need (F : FnS K "need_places" "need_places" sNeedPlaces f fd) (B : Bl mg) (c_MOST_PLACES : ∃ t, mg "MOST_PLACES" = some (.int 16 t))
    (x_BadPlaces : ExT P w K mg base "BadPlaces" "index" (He.ga K "BadPlaces")) (c_is_name : Cal P w K mg base CX0 1 "is_name" ["thing"] (spNm K)) :
    FnOk P w K mg base (L2.CX P w) 3 f fd ["places"] (spNeed K) := by
  refine okE F scNeedPlaces (fun vs H Q E h => ?_) (fun cdv A outer s H vs Q E hr h tk => ?_)
  · obtain ⟨p, xs, rfl, _⟩ := h
    rfl
  · obtain ⟨p, xs, rfl, hx, hl, hs, qe, q⟩ := h
    refine ⟨_, (pss_cons (ps_if (pt_not (pt_chain op_le op_le pe_int (pe_callB call_len_seq (by rfl) B.len (by decide +kernel) (pa_cons (pv 0) pa_nil)) (pe_gi c_MOST_PLACES)))
      (pss_one (ps_rx x_BadPlaces (by rfl) tk (hr.mono (by decide)) (pa_cons (pe_un un_neg pe_int) pa_nil)))
      pss_nil)
      (pss_cons (ps_for (passes_of rfl) (by rfl) (pi_enum (by rfl) B.enumerate (pa_cons (pv 0) pa_nil)) (pg_tup (by rfl) (pgs_cons (pg_name (i := 1) scNeedPlaces.nd rfl (.inl rfl)) (pgs_cons (pg_name (i := 2) scNeedPlaces.nd rfl (.inl rfl)) pgs_nil)))
      (pss_one (ps_if (PW.pt (pw_or (pt_not (pt_val (pe_cal c_is_name (hr.mono (by decide)) pass0 (pa_cons (pv 2) pa_nil)))) (pw_or1 (pt_cmpR op_in_seq (pv 2) (pe_slice sl_list (pv 0) po_none (po_some (pv 1))) (by rfl)))))
      (pss_one (ps_rx x_BadPlaces (by rfl) tk (hr.mono (by decide)) (pa_cons (pv 1) pa_nil)))
      pss_nil)))
      (pss_one (ps_ret (pe_callTy call_tuple_of (by rfl) B.tuple (by decide +kernel) (pa_cons (pe_callB cr_sortedS (by rfl) B.sorted (by decide +kernel) (pa_cons (pv 0) pa_nil)) pa_nil)))))), ?_⟩
    refine ⟨_, rfl, p, _, rfl, .inl hx, _, _, rfl, rfl, _, rfl, ?_⟩
    have len : ((xs.map V.str).length : Int) = xs.length := by rw [List.length_map]
    rw [len]
    have short : ¬ (1 ≤ xs.length ∧ xs.length ≤ 16) → ∀ d, H d = none → E (.ref (He.ga K "BadPlaces")) (some d) (upd H d (.xd [("index", .int (-1))])) := fun hn d hd =>
      (qe (-1) (by unfold plErr; rw [if_neg hn])).go (Ex.refl H) hd
    refine iteB (fun h1 => ⟨_, _, rfl, rfl, _, rfl, iteB (fun h2 => ?_) (fun h2 => ?_)⟩) (fun h1 => ⟨_, rfl, iteT ?_⟩)
    · have g : ¬ (1 ≤ xs.length ∧ xs.length ≤ 16) := by
        have := of_decide_eq_false ((Bool.not_eq_true' _).mp h2)
        omega
      exact ⟨1, rfl, _, rfl, short g⟩
    · have g1 := of_decide_eq_true h1
      have g2 : (xs.length : Int) ≤ 16 := by simpa using h2
      have g : 1 ≤ xs.length ∧ xs.length ≤ 16 := by omega
      refine ⟨_, rfl, p, _, rfl, hx, for_it (walk_enum (xs := xs.map V.str)) (fun i σ G => ∃ y1 y2, σ = [some (.ref p), y1, y2] ∧ Ex H G ∧ ∀ j, j < i → badPl xs j = false) ⟨none, none, rfl, Ex.refl H, fun j hj => absurd hj (Nat.not_lt_zero j)⟩
        (fun i σ G _ hP => ?_) (fun i x σ G G' hi hP hy => ?_) (fun σ G hP => ?_)⟩
      · obtain ⟨y1, y2, rfl, e, _⟩ := hP
        exact ex_l e hx
      · obtain ⟨y1, y2, rfl, e, hb⟩ := hP
        obtain ⟨T, a1, a2, rfl, hT, rfl, e1, e2⟩ := hy
        have e1 : V.int (i : Nat) = a1 := Option.some.inj e1
        subst e1
        obtain ⟨rfl, hi2⟩ := getD_map e2
        have eG : Ex H (upd G T (.tup [.int (i : Nat), .str (xs.getD i "")])) := e.trans (Ex.new hT)
        refine ⟨T, _, rfl, st_of upd_same, rfl, _, _, rfl, _, _, rfl, rfl, ?_⟩
        refine ⟨_, rfl, _, rfl, .inl ⟨_, rfl, (hs _ (getD_mem hi2)).1⟩, fun G2 e3 => ⟨_, rfl, ?_⟩⟩
        refine iteB (fun h3 => iteT ?_) (fun h3 => ?_)
        · have bad : badPl xs i = true := by unfold badPl; rw [show (!isNm (xs.getD i "")) = true from h3, Bool.true_or]
          refine ⟨_, rfl, _, rfl, fun d hd => (qe i ?_).go (eG.trans e3) hd⟩
          unfold plErr
          rw [if_pos g, first_some hi2 bad hb]
          rfl
        · refine ⟨_, rfl, _, rfl, _, rfl, _, rfl, p, _, rfl, ex_l (eG.trans e3) hx, fun c hc => ⟨c, _, rfl, .inl (sq_of upd_same), rfl, ?_, _, rfl, ?_⟩⟩
          · rw [take_map xs i (by omega)]; exact flat_strs _
          · have e4 : inV (.str (xs.getD i "")) (cutV (xs.map V.str) none (some (i : Int))) = decide (xs.getD i "" ∈ xs.take i) := by rw [take_map xs i (by omega), inV_str]
            rw [e4]
            have eC := (eG.trans e3).trans (Ex.new (o := .lst (cutV (xs.map V.str) none (some (i : Int)))) hc)
            refine iteB (fun h5 => ?_) (fun h5 => ?_)
            · have bad : badPl xs i = true := by unfold badPl; rw [show decide (xs.getD i "" ∈ xs.take i) = true from h5, Bool.or_true]
              refine ⟨_, rfl, _, rfl, fun d hd => (qe i ?_).go eC hd⟩
              unfold plErr
              rw [if_pos g, first_some hi2 bad hb]
              rfl
            · refine ⟨_, _, rfl, eC, fun j hj => ?_⟩
              by_cases ej : j = i
              · subst ej
                unfold badPl
                rw [show (!isNm (xs.getD j "")) = false from h3, show decide (xs.getD j "" ∈ xs.take j) = false from h5]
                rfl
              · exact hb j (by omega)
      · obtain ⟨y1, y2, rfl, e, hb⟩ := hP
        rw [List.length_map] at hb
        have no : plErr xs = none := by unfold plErr; rw [if_pos g, first_none hb]; rfl
        refine ⟨_, rfl, p, xs, rfl, ex_l e hx, by omega, fun ys c hp hso hc => ⟨c, _, rfl, .inl ⟨sq_of upd_same, fun t ht => ?_⟩⟩⟩
        have ey := srt_eq hp hso
        subst ey
        exact q no t _ (fresh_back (e.trans (Ex.new hc)) ht) ((e.trans (Ex.new hc)).trans (Ex.new ht)) upd_same
    · have g : ¬ (1 ≤ xs.length ∧ xs.length ≤ 16) := by
        have := of_decide_eq_false h1
        omega
      exact ⟨1, rfl, _, rfl, short g⟩
end
end L08
namespace L08
open PySem PySem.Spec PyProof.Rows L2 Evl Bf
section
variable {P : Program} {w : World} {K : PySem.W.Frag} {mg : Str → Option Value} {base : Heap} {f : Addr} {fd : FuncData}
/-! ### is a value a pair of known places? -/
def spPair (K : PySem.W.Frag) : Sp := fun vs H Q _ => ∃ (k : Addr) (v : V) (kn : List Str) (t : TVal), vs = [.ref k, v] ∧ SqT K H k (kn.map V.str) ∧ TVR K H v t ∧ ∀ G, Ex H G → Q (.bl (pairOk kn t)) G
theorem rc_isStr {H : Hp} {v : V} {e : Option Str} (h : EntR K H v e) : RC (rIsi K) [v, .ty "str"] H (.bl e.isSome) := fun H1 x Q q => by
  cases e with
  | some z =>
    obtain ⟨rfl, _⟩ := h
    exact ⟨_, _, _, _, true, rfl, .ty _, .base (.str z), kit_ty (by decide +kernel), q H1 (Ex.refl H1)⟩
  | none =>
    obtain ⟨_, t, h1, h2⟩ := h
    exact ⟨_, _, _, _, false, rfl, .ty _, tyx_mono x h1, kit_ty h2, q H1 (Ex.refl H1)⟩
def entOk (kn : List Str) : Option Str → Bool
  | some z => decide (z ∈ kn)
  | none => false
theorem pair_ent {kn : List Str} (a b : Option Str) : pairOk kn (.tup [a, b]) = (entOk kn a && entOk kn b) := by
  cases a <;> cases b <;> simp [pairOk, entOk]
theorem pair_len {kn : List Str} {es : List (Option Str)} (h : es.length ≠ 2) : pairOk kn (.tup es) = false := by
  match es, h with
  | [], _ => rfl
  | [a], _ => cases a <;> rfl
  | [a, b], h => exact absurd rfl h
  | a :: b :: _ :: _, _ => cases a <;> cases b <;> rfl
theorem ev_ent {H : Hp} {σ : L2.St} {i j : Nat} {k : Addr} {v : V} {e : Option Str} {kn : List Str} (hv : σ[i]? = some (some v)) (hk : σ[j]? = some (some (.ref k))) (he : EntR K H v e) (hn : SqT K H k (kn.map V.str)) :
    Ev (tAndV (tCB (rIsi K) (tCons (tVar i) (tCons (tC (.ty "str")) tNil))) (tOp (rIn K false) (tVar i) (tVar j))) σ H (.bl (entOk kn e)) := by
  have e1 : entOk kn e = (e.isSome && entOk kn e) := by cases e <;> simp [entOk]
  rw [e1]
  refine ev_andV (ev_cb (ea_cons (ev_var hv) (ea_cons ev_c ea_nil)) (rc_isStr he)) fun h => ?_
  cases e with
  | none => cases h
  | some z =>
    obtain ⟨rfl, _⟩ := he
    have r := rv_isT (x := .str z) hn rfl (flat_strs kn)
    rw [inV_str] at r
    exact ev_op (ev_var hv) (ev_var hk) r
theorem ok_pair (F : FnS K "is_pair" "is_pair" sIsPair f fd) (B : Bl mg) : FnOk P w K mg base CX0 1 f fd ["known", "thing"] (spPair K) := by
  refine okD F scIsPair (fun vs H Q E h => ?_) (fun cdv A outer s H vs Q E hr h => ?_)
  · obtain ⟨k, v, kn, t, rfl, _⟩ := h
    rfl
  · obtain ⟨k, v, kn, t, rfl, hk, ht, q⟩ := h
    refine ⟨_, (pss_cons (ps_if (PW.pt (pw_or (pt_not (pt_val (pe_callB call_isi (by rfl) B.isinstance (by decide +kernel) (pa_cons (pv 1) (pa_cons (pe_bltn (v := .ty "tuple") (by rfl) B.tuple (by decide +kernel) rfl) pa_nil))))) (pw_or1 (pt_cmpR op_ne (pe_callB call_len_seq (by rfl) B.len (by decide +kernel) (pa_cons (pv 1) pa_nil)) pe_int (nomark _)))))
      (pss_one (ps_ret pe_bl))
      pss_nil)
      (pss_one (ps_ret (pe_callB (cr_all rfl) (by rfl) B.all (by decide +kernel) (pa_cons (pe_lc (own := [("place", 2)]) (g := (gName 2)) (te := tAndV (tCB (rIsi K) (tCons (tVar 2) (tCons (tC (.ty "str")) tNil))) (tOp (rIn K false) (tVar 2) (tVar 0))) (by rfl) scIsPair.nd (pi_tup (pv 1)) (blkOk_by (own := [("place", 2)]) (N := nIsPair) (sc := defScope sIsPair) (by decide +kernel)) (fun _ _ _ _ _ => (pg_name (i := 2) scIsPair.nd rfl (.inl rfl))) (fun _ _ _ _ _ => pts_nil) (fun _ _ _ _ _ => (pe_and (pe_callB call_isi (by rfl) B.isinstance (by decide +kernel) (pa_cons (pv 2) (pa_cons (pe_bltn (v := .ty "str") (by rfl) B.str (by decide +kernel) rfl) pa_nil))) (pe_one (pe_cmpR op_in_seq (pv 2) (pv 0) (by rfl)))))) pa_nil))))), ?_⟩
    cases t with
    | oth =>
      obtain ⟨t, h1, h2⟩ := ht
      refine ⟨_, rfl, _, _, _, _, _, rfl, .ty _, h1, kit_ty h2, _, rfl, ?_⟩
      exact iteT (iteT (q H (Ex.refl H)))
    | tup es =>
      obtain ⟨p, us, rfl, hp, he, hz⟩ := ht
      have hl : us.length = es.length := Paired.length he
      refine ⟨_, rfl, _, _, _, _, _, rfl, .ty _, .base (.tup hp), kit_ty (r := true) (by decide +kernel), _, rfl, ?_⟩
      refine iteF ⟨_, rfl, p, _, rfl, .inr (st_of hp), rfl, _, rfl, ?_⟩
      by_cases h2 : es.length = 2
      · have c2 : (!decide (V.int (us.length : Int) = V.int 2)) = false := by rw [hl, h2]; rfl
        rw [c2]
        refine iteF ?_
        clear c2
        obtain ⟨e1, e2, rfl⟩ : ∃ e1 e2, es = [e1, e2] := by
          match es, h2 with
          | [e1, e2], _ => exact ⟨e1, e2, rfl⟩
        obtain ⟨v1, v2, rfl, r1, r2⟩ : ∃ v1 v2, us = [v1, v2] ∧ EntR K H v1 e1 ∧ EntR K H v2 e2 := by
          cases he with
          | cons r1 t => cases t with
            | cons r2 t => cases t with
              | nil => exact ⟨_, _, rfl, r1, r2⟩
        · skip
          refine ⟨_, rfl, p, rfl, ⟨_, st_of hp⟩, fun D hD => lc_pure (fun _ => true) (fun i => .bl (entOk kn (([e1, e2] : List (Option Str)).getD i none))) (walk_tupF (xs := [v1, v2])) (fun G e => st_of (e p _ hp)) hD (by show 2 ≤ 40000; decide) (fun _ => rfl) (fun i H1 _ _ => et_yes)
            (fun i H1 x hi _ => ?_) fun G e3 h3 => ?_⟩
          · have hi : i < 2 := hi
            match i, hi with
            | 0, _ => exact ev_ent rfl rfl (entR_mono x r1) (ex_t x hk)
            | 1, _ => exact ev_ent rfl rfl (entR_mono x r2) (ex_t x hk)
          · rw [given_all] at h3
            refine ⟨D, [entOk kn e1, entOk kn e2], rfl, sq_of h3, ?_⟩
            have e4 : ([entOk kn e1, entOk kn e2] : List Bool).all id = pairOk kn (.tup [e1, e2]) := by rw [pair_ent]; simp
            rw [e4]
            exact q G e3
      · have e2 : (!decide (V.int (us.length : Int) = V.int 2)) = true := by
          rw [decide_eq_false fun z => h2 (by have := V.int.inj z; omega)]
          rfl
        rw [e2]
        refine iteT ?_
        rw [pair_len h2] at q
        exact q H (Ex.refl H)
/-! ### a web -/
def EndR (H : Hp) (kvs : List (Key × V)) (en : List (Str × Str × Str)) : Prop := Paired (fun p q => p.1 = Sum.inr q.1 ∧ ∃ t, p.2 = .ref t ∧ H t = some (.tup [.str q.2.1, .str q.2.2])) kvs en
theorem endR_mono {H H' : Hp} {kvs : List (Key × V)} {en : List (Str × Str × Str)} (e : Ex H H') (h : EndR H kvs en) : EndR H' kvs en := Paired.mapP h fun _ _ ⟨a, t, b, c⟩ => ⟨a, t, b, e _ _ c⟩
abbrev webF (k e : Addr) : List (Str × V) := [("known", .ref k), ("ending", .ref e)]
/-- at x: a web with the places kn (sorted) and the ties en -/
def WebAt (K : PySem.W.Frag) (H : Hp) (x : Addr) (kn : List Str) (en : List (Str × Str × Str)) : Prop :=
  ∃ (dx k e : Addr) (kvs : List (Key × V)), H x = some (.ins (He.ga K "Web") dx (webF k e)) ∧ H k = some (.tup (kn.map V.str)) ∧ H e = some (.dK kvs) ∧ EndR H kvs en
/-- the same, its dict told -/
def WebAtE (K : PySem.W.Frag) (H : Hp) (x e : Addr) (kn : List Str) (en : List (Str × Str × Str)) : Prop :=
  ∃ (dx k : Addr) (kvs : List (Key × V)), H x = some (.ins (He.ga K "Web") dx (webF k e)) ∧ H k = some (.tup (kn.map V.str)) ∧ H e = some (.dK kvs) ∧ EndR H kvs en
theorem WebAtE.at_ {H : Hp} {x e : Addr} {kn : List Str} {en : List (Str × Str × Str)} (h : WebAtE K H x e kn en) : WebAt K H x kn en := by
  obtain ⟨dx, k, kvs, h⟩ := h
  exact ⟨dx, k, e, kvs, h⟩
theorem webAt_mono {H H' : Hp} {x : Addr} {kn : List Str} {en : List (Str × Str × Str)} (e : Ex H H') (h : WebAt K H x kn en) : WebAt K H' x kn en := by
  obtain ⟨dx, k, d, kvs, h1, h2, h3, h4⟩ := h
  exact ⟨dx, k, d, kvs, e _ _ h1, e _ _ h2, e _ _ h3, endR_mono e h4⟩
/-- what the written part says of Web -/
structure WebT (K : PySem.W.Frag) (mg : Str → Option Value) : Prop where
  g : mg "Web" = some (.ref (He.ga K "Web"))
  cl : Cls K (He.ga K "Web")
  kn : NoAttr K (He.ga K "Web") "known"
  en : NoAttr K (He.ga K "Web") "ending"
  ins : C8.InsC K (He.ga K "Web")
def spPlaces (K : PySem.W.Frag) : Sp := fun vs H Q _ => ∃ (x : Addr) (kn : List Str) (en : List (Str × Str × Str)), vs = [.ref x] ∧ WebAt K H x kn en ∧ ∀ p, H p = none → Q (.ref p) (upd H p (.lst (kn.map V.str)))
theorem ok_places (F : FnS K "places" "Web.places" sPlaces f fd) (B : Bl mg) (T : WebT K mg) : FnOk P w K mg base CX0 1 f fd ["self"] (spPlaces K) := by
  refine okD F scPlaces (fun vs H Q E h => ?_) (fun cdv A outer s H vs Q E hr h => ?_)
  · obtain ⟨x, kn, en, rfl, _⟩ := h
    rfl
  · obtain ⟨x, kn, en, rfl, ⟨dx, k, e, kvs, h1, h2, h3, h4⟩, q⟩ := h
    refine ⟨_, (pss_one (ps_ret (pe_callTy call_list_of (by rfl) B.list (by decide +kernel) (pa_cons (pe_fld (pv 0) rfl) pa_nil)))), ?_⟩
    exact ⟨_, rfl, x, _, _, _, _, rfl, h1, T.cl, T.kn, rfl, k, _, rfl, .inr (st_of h2), fun p hp => q p hp⟩
def spTies (K : PySem.W.Frag) : Sp := fun vs H Q _ => ∃ (x : Addr) (kn : List Str) (en : List (Str × Str × Str)), vs = [.ref x] ∧ WebAt K H x kn en ∧ ∀ p kvs, H p = none → EndR H kvs en → Q (.ref p) (upd H p (.dK kvs))
theorem ok_ties (F : FnS K "ties" "Web.ties" sTies f fd) (B : Bl mg) (T : WebT K mg) : FnOk P w K mg base CX0 1 f fd ["self"] (spTies K) := by
  refine okD F scTies (fun vs H Q E h => ?_) (fun cdv A outer s H vs Q E hr h => ?_)
  · obtain ⟨x, kn, en, rfl, _⟩ := h
    rfl
  · obtain ⟨x, kn, en, rfl, ⟨dx, k, e, kvs, h1, h2, h3, h4⟩, q⟩ := h
    refine ⟨_, (pss_one (ps_ret (pe_callTy call_dictD (by rfl) B.dict (by decide +kernel) (pa_cons (pe_fld (pv 0) rfl) pa_nil)))), ?_⟩
    exact ⟨_, rfl, x, _, _, _, _, rfl, h1, T.cl, T.en, rfl, e, kvs, rfl, .inl h3, fun p hp => q p kvs hp h4⟩
def lookE (en : List (Str × Str × Str)) (n : Str) : Option (Str × Str) := (en.find? fun e => decide (e.1 = n)).map (·.2)
theorem endR_look {H : Hp} {kvs : List (Key × V)} {en : List (Str × Str × Str)} {n : Str} (h : EndR H kvs en) :
    (lookE en n = none ∧ valV kvs (Sum.inr n) = none) ∨ ∃ a b t, lookE en n = some (a, b) ∧ valV kvs (Sum.inr n) = some (.ref t) ∧ H t = some (.tup [.str a, .str b]) := by
  unfold EndR at h
  unfold lookE valV
  induction h with
  | nil => exact .inl ⟨rfl, rfl⟩
  | @cons p q ps qs a _ ih =>
    rw [List.find?_cons, List.find?_cons]
    obtain ⟨a1, t, a2, a3⟩ := a
    by_cases c : q.1 = n
    · rw [decide_eq_true c, decide_eq_true (show p.1 = Sum.inr n by rw [a1, c])]
      exact .inr ⟨q.2.1, q.2.2, t, rfl, by show some p.2 = _; rw [a2], a3⟩
    · rw [decide_eq_false c, decide_eq_false (show ¬ p.1 = Sum.inr n by rw [a1]; exact fun z => c (Sum.inr.inj z))]
      exact ih
def spEnds (K : PySem.W.Frag) : Sp := fun vs H Q E => ∃ (x : Addr) (n : Str) (kn : List Str) (en : List (Str × Str × Str)), vs = [.ref x, .str n] ∧ WebAt K H x kn en ∧
  (lookE en n = none → Out K H E "NoThing" "thing" (.str n)) ∧ ∀ a b t, lookE en n = some (a, b) → H t = some (.tup [.str a, .str b]) → Q (.ref t) H
theorem ok_ends (F : FnS K "ends" "Web.ends" sEnds f fd) (B : Bl mg) (T : WebT K mg) (x_NoThing : ExT P w K mg base "NoThing" "thing" (He.ga K "NoThing")) : FnOk P w K mg base (L2.CX P w) 3 f fd ["self", "tie"] (spEnds K) := by
  refine okE F scEnds (fun vs H Q E h => ?_) (fun cdv A outer s H vs Q E hr h tk => ?_)
  · obtain ⟨x, n, kn, en, rfl, _⟩ := h
    rfl
  · obtain ⟨x, n, kn, en, rfl, ⟨dx, k, e, kvs, h1, h2, h3, h4⟩, q1, q2⟩ := h
    have hu := hu_of hr
    refine ⟨_, (pss_cons (ps_if (pt_cmp (pc_dnotin hu (pv 1) (pe_fld (pv 0) rfl)))
      (pss_one (ps_rx x_NoThing (by rfl) tk (hr.mono (by decide)) (pa_cons (pv 1) pa_nil)))
      pss_nil)
      (pss_one (ps_ret (pe_dget hu (pe_fld (pv 0) rfl) (pv 1) (fun _ _ => rfl))))), ?_⟩
    refine ⟨_, rfl, _, rfl, x, _, _, _, _, rfl, h1, T.cl, T.en, rfl, e, _, rfl, DGet.k (k := Sum.inr n) h3, _, rfl, ?_⟩
    rcases endR_look (n := n) h4 with ⟨g1, g2⟩ | ⟨a, b, t, g1, g2, g3⟩
    · rw [g2]
      exact iteT ⟨_, rfl, _, rfl, fun d hd => (q1 g1).go (Ex.refl H) hd⟩
    · rw [g2]
      refine iteF ⟨_, rfl, x, _, _, _, _, rfl, h1, T.cl, T.en, rfl, _, rfl, e, .ref t, rfl, ?_, q2 a b t g1 g3⟩
      rw [← g2]
      exact DGet.k (k := Sum.inr n) h3
end
end L08
namespace L08
open PySem PySem.Spec PyProof.Rows L2 Evl Bf
section
variable {P : Program} {w : World} {K : PySem.W.Frag} {mg : Str → Option Value} {base : Heap} {f : Addr} {fd : FuncData}
theorem hu65 {A : Around} {k : Nat} (r : Room k A) : A.units + 65 < cLine := by
  have := r.un
  omega
theorem endR_data {H : Hp} {kvs : List (Key × V)} {en : List (Str × Str × Str)} (h : EndR H kvs en) (hs : ∀ q ∈ en, PyData.strOk q.2.1 = true ∧ PyData.strOk q.2.2 = true) : KvD K H kvs (enD en) := by
  unfold EndR at h
  unfold KvD
  induction h with
  | nil => exact .nil
  | @cons p q ps qs a t ih =>
    obtain ⟨a1, t', a2, a3⟩ := a
    have s := hs q List.mem_cons_self
    refine .cons ⟨a1, ?_, shaped_tup fun x hx => ?_⟩ (ih fun q hq => hs q (List.mem_cons_of_mem _ hq))
    · rw [a2]
      exact .tup (st_of a3) (dp_strs [q.2.1, q.2.2])
    · rcases List.mem_cons.mp hx with rfl | hx
      · exact s.1
      · rw [List.mem_singleton.mp hx]
        exact s.2
/-- webs whose texts are well formed -/
def WebOk (kn : List Str) (en : List (Str × Str × Str)) : Prop := (∀ x ∈ kn, PyData.strOk x = true) ∧ ∀ q ∈ en, PyData.strOk q.2.1 = true ∧ PyData.strOk q.2.2 = true
def webEq (kn kn' : List Str) (en en' : List (Str × Str × Str)) : Bool := decide (kn = kn') && dictEq (enD en) (enD en')
def spEqW (K : PySem.W.Frag) : Sp := fun vs H Q _ => ∃ (x y : Addr) (kn kn' : List Str) (en en' : List (Str × Str × Str)), vs = [.ref x, .ref y] ∧ WebAt K H x kn en ∧ WebAt K H y kn' en' ∧ WebOk kn en ∧ WebOk kn' en' ∧
  Q (.bl (webEq kn kn' en en')) H
theorem ok_eq (F : FnS K "__eq__" "Web.__eq__" sEq f fd) (B : Bl mg) (T : WebT K mg) : FnOk P w K mg base CX0 1 f fd ["self", "other"] (spEqW K) := by
  refine okD F scEq (fun vs H Q E h => ?_) (fun cdv A outer s H vs Q E hr h => ?_)
  · obtain ⟨x, y, kn, kn', en, en', rfl, _⟩ := h
    rfl
  · obtain ⟨x, y, kn, kn', en, en', rfl, ⟨dx, k, e, kvs, h1, h2, h3, h4⟩, ⟨dx', k', e', kvs', g1, g2, g3, g4⟩, o, o', q⟩ := h
    have g_Web := T.g
    have huD := hu65 hr
    refine ⟨_, (pss_one (ps_ret (pe_and (pe_callB (C8.call_isC T.ins) (by rfl) B.isinstance (by decide +kernel) (pa_cons (pv 1) (pa_cons (pe_glob (v := .ref (He.ga K "Web")) (by rfl) g_Web rfl) pa_nil))) (pe_and (pe_cmpR (op_eqD hr.units) (pe_fld (pv 0) rfl) (pe_fld (pv 1) rfl) (nomark _)) (pe_one (pe_cmpR (op_eqDD huD) (pe_fld (pv 0) rfl) (pe_fld (pv 1) rfl) (nomark _))))))), ?_⟩
    refine ⟨_, rfl, y, _, _, rfl, g1, _, rfl, iteT ?_⟩
    refine ⟨_, rfl, x, _, _, _, _, rfl, h1, T.cl, T.kn, rfl, _, rfl, y, _, _, _, _, rfl, g1, T.cl, T.kn, rfl, _, _, .tup (st_of h2) (dp_strs kn), .tup (st_of g2) (dp_strs kn'), shaped_tup o.1, shaped_tup o'.1, _, rfl, ?_⟩
    have e1 : PyData.eqv (.tuple (strsD kn)) (.tuple (strsD kn')) = decide (kn = kn') := eqv_strs kn kn'
    rw [e1]
    refine iteB (fun c => ?_) (fun c => ?_)
    · refine ⟨_, rfl, x, _, _, _, _, rfl, h1, T.cl, T.en, rfl, _, rfl, y, _, _, _, _, rfl, g1, T.cl, T.en, rfl, e, e', kvs, kvs', _, _, rfl, rfl, .inl h3, .inl g3, endR_data h4 o.2, endR_data g4 o'.2, ?_⟩
      unfold webEq at q
      rw [c, Bool.true_and] at q
      exact q
    · unfold webEq at q
      rw [c, Bool.false_and] at q
      exact q
/-! ### Web(places, ties) -/
def ExB (x : Addr) (H G : Hp) : Prop := ∀ b o, b ≠ x → H b = some o → G b = some o
theorem Ex.toB {x : Addr} {H G : Hp} (e : Ex H G) : ExB x H G := fun b o _ h => e b o h
theorem ExB.then {x : Addr} {H G G' : Hp} (a : ExB x H G) (e : Ex G G') : ExB x H G' := fun b o n h => e b o (a b o n h)
theorem ExB.set {x : Addr} {H G : Hp} {o : HO} (a : ExB x H G) : ExB x H (upd G x o) := fun b u n h => by rw [upd_ne n]; exact a b u n h
def OutB (K : PySem.W.Frag) (x : Addr) (H : Hp) (E : XK) (c f : Str) (v : V) : Prop := ∀ (d : Addr) (G : Hp), ExB x H G → d ≠ x → H d = none → G d = some (.xd [(f, v)]) → E (.ref (He.ga K c)) (some d) G
theorem OutB.go {x : Addr} {H G : Hp} {E : XK} {c f : Str} {v : V} {o : HO} (q : OutB K x H E c f v) (e : ExB x H G) (hx : G x = some o) {d : Addr} (hd : G d = none) : E (.ref (He.ga K c)) (some d) (upd G d (.xd [(f, v)])) := by
  have nx : d ≠ x := fun z => by rw [z, hx] at hd; cases hd
  refine q d _ (e.then (Ex.new hd)) nx ?_ upd_same
  cases h : H d with
  | none => rfl
  | some u => rw [e d u nx h] at hd; cases hd
/-- what the call wants, by what is due -/
def Wants (K : PySem.W.Frag) (x : Addr) (H : Hp) (Q : Hp → Prop) (E : XK) (xs : List Str) (ties : List (Str × TVal)) : Bf.Due → Prop
  | .pl i => OutB K x H E "BadPlaces" "index" (.int i)
  | .ti n => OutB K x H E "BadTies" "name" (.str n)
  | .many => OutB K x H E "TooMany" "limit" (.int 24)
  | .ok => ∀ G e, ExB x H G → H e = none → WebAtE K G x e (srt xs) (endsOf ties) → Q G
structure WebArg (K : PySem.W.Frag) (H : Hp) (p d : Addr) (xs : List Str) (ties : List (Str × TVal)) : Prop where
  pl : SqL K H p (xs.map V.str)
  len : xs.length ≤ 60
  ok : ∀ x ∈ xs, StrOk x
  di : ∃ kvs, H d = some (.dK kvs) ∧ TieR K H kvs ties
  nd : (keysT ties).Nodup
  len2 : ties.length ≤ 60
  ok2 : ∀ n ∈ keysT ties, StrOk n
theorem webArg_mono {H G : Hp} {p d : Addr} {xs : List Str} {ties : List (Str × TVal)} (e : Ex H G) (a : WebArg K H p d xs ties) : WebArg K G p d xs ties := by
  obtain ⟨kvs, h1, h2⟩ := a.di
  exact ⟨ex_l e a.pl, a.len, a.ok, ⟨kvs, e _ _ h1, tieR_mono e h2⟩, a.nd, a.len2, a.ok2⟩
/-- the heap but for the new instance (and its own dict) -/
def spInitW (K : PySem.W.Frag) : Sp := fun vs H Q E => ∃ (x dx p d : Addr) (H0 : Hp) (xs : List Str) (ties : List (Str × TVal)), vs = [.ref x, .ref p, .ref d] ∧ H x = some (.ins (He.ga K "Web") dx []) ∧
  H0 x = none ∧ Ex H0 H ∧ WebArg K H0 p d xs ties ∧ Wants K x H (Q .non) E xs ties (dueOf xs ties)
def rTupOf (K : PySem.W.Frag) : List V → Hp → VK → Prop := fun xs H Q => ∃ p ys, xs = [.ref p] ∧ ((SqL K H p ys ∧ ∀ l, H l = none → Q (.ref l) (upd H l (.tup ys))) ∨ (SqT K H p ys ∧ Q (.ref p) H))
theorem tie_get {H : Hp} {d : Addr} {ties : List (Str × TVal)} {n : Str} (h : ∃ kvs, H d = some (.dK kvs) ∧ TieR K H kvs ties) (hn : n ∈ keysT ties) : ∃ v, DGet H d (.str n) (some v) ∧ TVR K H v (lookT ties n) := by
  obtain ⟨kvs, h1, h2⟩ := h
  obtain ⟨v, e1, e2⟩ := tieR_get h2 hn
  refine ⟨v, ?_, e2⟩
  rw [← e1]
  exact DGet.k (k := Sum.inr n) h1
theorem tie_mono {H G : Hp} {d : Addr} {ties : List (Str × TVal)} (e : Ex H G) (h : ∃ kvs, H d = some (.dK kvs) ∧ TieR K H kvs ties) : ∃ kvs, G d = some (.dK kvs) ∧ TieR K G kvs ties := by
  obtain ⟨kvs, h1, h2⟩ := h
  exact ⟨kvs, e _ _ h1, tieR_mono e h2⟩
theorem srt_getD {l : List Str} {i : Nat} (h : i < l.length) : (srt l).getD i "" ∈ l := srt_mem.mp (getD_mem (by rw [srt_len]; exact h))
theorem keysT_len (ties : List (Str × TVal)) : (keysT ties).length = ties.length := by unfold keysT; rw [List.length_map]
theorem dc_it {J : It} {n : Nat} {G : Hp → Prop} {Y : Nat → Hp → V → Hp → Prop} (w : Walk J n G Y) {g : TG} {tt : TT} {tk tv : TE} {vs : List Nat} {σ : L2.St} {H1 : Hp} {D : Addr} {Qd : Hp → Prop} (Pv : Nat → Hp → Prop)
    (h0 : Pv 0 (upd H1 D (.dK []))) (hG : ∀ i H, i ≤ n → Pv i H → G H)
    (hs : ∀ i x H H', i < n → Pv i H → Y i H x H' → g x (wipe σ vs) H' fun σ2 H2 => wipe σ2 vs = wipe σ vs ∧ tt σ2 H2 fun b H3 =>
      if b = true then tk σ2 H3 fun y H4 => tv σ2 H4 fun z H5 => ∃ kvs k, y = kV k ∧ H5 D = some (.dK kvs) ∧ kvs.length < sizeLine ∧ Pv (i + 1) (upd H5 D (.dK (putK kvs k z))) else Pv (i + 1) H3) (hd : ∀ H, Pv n H → Qd H) :
    ∃ W : Nat → Nat → Hp → Prop, (∃ m, W 0 m (upd H1 D (.dK []))) ∧ ∀ i m H, W i m H →
      (J.stop i H ∧ Qd H) ∨ (J.go i H ∧ ∃ Nx : Hp → Prop, (∀ H', Nx H' → ∃ m', m' < m ∧ W (i + 1) m' H') ∧ ∀ x H', J.yld i H x H' → g x (wipe σ vs) H' fun σ2 H2 => wipe σ2 vs = wipe σ vs ∧ tt σ2 H2 fun b H3 =>
        if b = true then tk σ2 H3 fun y H4 => tv σ2 H4 fun z H5 => ∃ kvs k, y = kV k ∧ H5 D = some (.dK kvs) ∧ kvs.length < sizeLine ∧ Nx (upd H5 D (.dK (putK kvs k z))) else Nx H3) := by
  refine ⟨fun i m H => m = n - i ∧ i ≤ n ∧ Pv i H, ⟨n, by simp, Nat.zero_le _, h0⟩, ?_⟩
  rintro i m H ⟨rfl, hi, p⟩
  by_cases hlt : i < n
  · exact .inr ⟨w.goes i H hlt (hG i H hi p), Pv (i + 1), fun H' p' => ⟨n - (i + 1), by omega, rfl, hlt, p'⟩, fun x H' y => hs i x H H' hlt p (w.yields i H x H' hlt (hG i H hi p) y)⟩
  · have e : i = n := by omega
    subst e
    exact .inl ⟨w.stops H (hG i H hi p), hd H p⟩
theorem paired_snoc {α β : Type} {R : α → β → Prop} : ∀ {l : List α} {m : List β} {a : α} {b : β}, Paired R l m → R a b → Paired R (l ++ [a]) (m ++ [b])
  | _, _, _, _, .nil, h => .cons h .nil
  | _, _, _, _, .cons x t, h => .cons x (paired_snoc t h)
theorem pairOk_shape {kn : List Str} {t : TVal} (h : pairOk kn t = true) : ∃ a b, t = .tup [some a, some b] ∧ a ∈ kn ∧ b ∈ kn := by
  unfold pairOk at h
  split at h
  · obtain ⟨h1, h2⟩ := Bool.and_eq_true_iff.mp h
    exact ⟨_, _, rfl, of_decide_eq_true h1, of_decide_eq_true h2⟩
  · cases h
theorem tvr_pair {H : Hp} {v : V} {a b : Str} (h : TVR K H v (.tup [some a, some b])) : ∃ t, v = .ref t ∧ H t = some (.tup [.str a, .str b]) := by
  obtain ⟨p, vs, h1, h2, h3, _⟩ := h
  cases h3 with
  | cons r1 t => cases t with
    | cons r2 t => cases t with
      | nil =>
        obtain ⟨rfl, _⟩ := r1
        obtain ⟨rfl, _⟩ := r2
        exact ⟨p, h1, h2⟩
theorem not_in_take {α : Type} {l : List α} (nd : l.Nodup) {i : Nat} {x : α} (h : l[i]? = some x) : x ∉ l.take i := by
  intro hm
  obtain ⟨j, hj, e⟩ := List.mem_iff_getElem.mp hm
  obtain ⟨h1, h2⟩ := List.getElem?_eq_some_iff.mp h
  rw [List.length_take] at hj
  have hj1 : j < l.length := by omega
  rw [List.getElem_take] at e
  exact (List.pairwise_iff_getElem.mp nd) j i hj1 h1 (by omega) (e.trans h2.symm)
theorem lookE_none {en : List (Str × Str × Str)} {n : Str} (h : n ∉ en.map (·.1)) : lookE en n = none := by
  unfold lookE
  rw [List.find?_eq_none.mpr fun q hq z => h (List.mem_map.mpr ⟨q, hq, of_decide_eq_true z⟩)]
  rfl
theorem ok_init (F : FnS K "__init__" "Web.__init__" sInit f fd) (B : Bl mg) (T : WebT K mg) (c_MOST_THINGS : ∃ t, mg "MOST_THINGS" = some (.int 24 t))
    (x_BadTies : ExT P w K mg base "BadTies" "name" (He.ga K "BadTies")) (x_TooMany : ExT P w K mg base "TooMany" "limit" (He.ga K "TooMany"))
    (c_is_name : Cal P w K mg base CX0 1 "is_name" ["thing"] (spNm K)) (c_is_pair : Cal P w K mg base CX0 1 "is_pair" ["known", "thing"] (spPair K)) (c_need_places : Cal P w K mg base (L2.CX P w) 3 "need_places" ["places"] (spNeed K)) :
    FnOk P w K mg base (L2.CX P w) 4 f fd ["self", "places", "ties"] (spInitW K) := by
  refine okE F scInit (fun vs H Q E h => ?_) (fun cdv A outer s H vs Q E hr h tk => ?_)
  · obtain ⟨x, dx, p, d, H0, xs, ties, rfl, _⟩ := h
    rfl
  · obtain ⟨x, dx, p, d, H0, xs, ties, rfl, hx, hx0, e0, wa, qq⟩ := h
    have hu := hu_of hr
    refine ⟨_, (pss_cons (ps_fld (pv 0) (pe_cal c_need_places (hr.mono (by decide)) (passes_call tk fun _ _ _ _ z => z) (pa_cons (pv 1) pa_nil)) rfl)
      (pss_cons (ps_for (passes_of rfl) (by rfl) (pi_list (pe_callB cr_sortedS (by rfl) B.sorted (by decide +kernel) (pa_cons (pe_callTy (call_listD rfl) (by rfl) B.list (by decide +kernel) (pa_cons (pv 2) pa_nil)) pa_nil))) (pg_name (i := 3) scInit.nd rfl (.inl rfl))
      (pss_one (ps_if (PW.pt (pw_or (pt_not (pt_val (pe_cal c_is_name (hr.mono (by decide)) pass0 (pa_cons (pv 3) pa_nil)))) (pw_or1 (pt_not (pt_val (pe_cal c_is_pair (hr.mono (by decide)) pass0 (pa_cons (pe_fld (pv 0) rfl) (pa_cons (pe_dget hu (pv 2) (pv 3) (fun _ _ => rfl)) pa_nil))))))))
      (pss_one (ps_rx x_BadTies (by rfl) tk (hr.mono (by decide)) (pa_cons (pv 3) pa_nil)))
      pss_nil)))
      (pss_cons (ps_if (pt_cmpR op_gt (pe_callB call_lenD (by rfl) B.len (by decide +kernel) (pa_cons (pv 2) pa_nil)) (pe_gi c_MOST_THINGS) (nomark _))
      (pss_one (ps_rx x_TooMany (by rfl) tk (hr.mono (by decide)) (pa_cons (pe_gi c_MOST_THINGS) pa_nil)))
      pss_nil)
      (pss_one (ps_fld (pv 0) (pe_dc (own := [("name", 3)]) (g := (gName 3)) (tv := tCB (rTupOf K) (tCons (tCB (rSortedTS K) (tCons (tDGet (tVar 2) (tVar 3)) tNil)) tNil)) (by rfl) scInit.nd (pi_list (pe_callB cr_sortedS (by rfl) B.sorted (by decide +kernel) (pa_cons (pe_callTy (call_listD rfl) (by rfl) B.list (by decide +kernel) (pa_cons (pv 2) pa_nil)) pa_nil))) (blkOk_by (own := [("name", 3)]) (N := nInit) (sc := defScope sInit) (by decide +kernel)) (fun _ _ _ _ _ => (pg_name (i := 3) scInit.nd rfl (.inl rfl))) (fun _ _ _ _ _ => pts_nil) (fun _ _ _ _ _ => (pv 3)) (fun _ _ _ _ _ => (pe_callTy call_tuple_of (by rfl) B.tuple (by decide +kernel) (pa_cons (pe_callB cr_sortedTS (by rfl) B.sorted (by decide +kernel) (pa_cons (pe_dget hu (pv 2) (pv 3) (fun _ _ => rfl)) pa_nil)) pa_nil)))) rfl))))), ?_⟩
    have wa1 := webArg_mono e0 wa
    -- self.known = need_places(places)
    refine ⟨_, rfl, p, xs, rfl, wa1.pl, wa.len, wa.ok, fun i hi => ?_, fun no k G hk eG gk => ?_⟩
    · have dd : dueOf xs ties = .pl i := by unfold dueOf; rw [hi]
      rw [dd] at qq
      intro d' G' e' n' h'
      exact qq d' G' (Ex.toB e') (fun z => by rw [z, hx] at n'; cases n') n' h'
    · refine ⟨_, rfl, x, _, _, _, rfl, eG x _ hx, T.cl, T.kn, by decide, ?_⟩
      -- the heap from here on: G1
      have kx : k ≠ x := fun z => by rw [z, hx] at hk; cases hk
      obtain ⟨G1, eG1⟩ : ∃ G1, G1 = upd G x (.ins (He.ga K "Web") dx (putF "known" (.ref k) [])) := ⟨_, rfl⟩
      rw [← eG1]
      have x1 : G1 x = some (.ins (He.ga K "Web") dx [("known", .ref k)]) := by rw [eG1, upd_same]; rfl
      have k1 : G1 k = some (.tup ((srt xs).map V.str)) := by rw [eG1, upd_ne kx]; exact gk
      have b1 : ExB x H G1 := by rw [eG1]; exact (Ex.toB eG).set
      have e01 : Ex H0 G1 := fun b o h => b1 b o (ne_of_none h hx0) (e0 b o h)
      have wa2 := webArg_mono e01 wa
      have dueT : plErr xs = none → dueOf xs ties = (match firstOf (badTie xs ties) ties.length with | some i => .ti ((srt (keysT ties)).getD i "") | none => if 24 < ties.length then .many else .ok) := fun z => by
        unfold dueOf
        rw [z] <;> rfl
      rw [dueT no] at qq
      obtain ⟨kvs, d1, t1⟩ := wa2.di
      -- sorted(list(ties))
      refine ⟨_, rfl, d, kvs, rfl, .inl d1, fun l nl => ⟨l, keysT ties, rfl, sq_of (by rw [upd_same, keys_map (tieR_keys t1)]), by rw [keysT_len]; have := wa.len2; omega, fun ys c hp hso hc => ?_⟩⟩
      have ey := srt_eq hp hso
      subst ey
      have eC := (Ex.new (o := .lst (kvs.map fun kv => kV kv.1)) nl).trans (Ex.new (o := .lst ((srt (keysT ties)).map V.str)) hc)
      refine ⟨c, rfl, ⟨_, sq_of upd_same⟩, for_it (walk_list (xs := (srt (keysT ties)).map V.str)) (fun i σ G2 => ∃ y3, σ = [some (.ref x), some (.ref p), some (.ref d), y3] ∧ Ex G1 G2 ∧ G2 c = some (.lst ((srt (keysT ties)).map V.str)) ∧ ∀ j, j < i → badTie xs ties j = false)
        ⟨none, rfl, eC, upd_same, fun j hj => absurd hj (Nat.not_lt_zero j)⟩ (fun i σ G2 _ hP => ?_) (fun i v σ G2 G3 hi hP hy => ?_) (fun σ G2 hP => ?_)⟩
      · obtain ⟨y3, rfl, _, h, _⟩ := hP
        exact sq_of h
      · obtain ⟨y3, rfl, e2, c2, hb⟩ := hP
        obtain ⟨rfl, hv⟩ := hy
        obtain ⟨rfl, hi2⟩ := getD_map hv
        rw [srt_len] at hi2
        have hn := srt_getD hi2
        rw [keysT_len] at hi2
        generalize hN : (srt (keysT ties)).getD i "" = n at hn hv
        have bad : ∀ b : Bool, (!isNm n || !pairOk xs (lookT ties n)) = b → badTie xs ties i = b := fun b h => by unfold badTie; rw [hN]; exact h
        have due : badTie xs ties i = true → OutB K x H E "BadTies" "name" (.str n) := fun h => by
          rw [first_some hi2 h hb] at qq
          rw [← hN]
          exact qq
        refine ⟨_, rfl, _, rfl, .inl ⟨n, rfl, (wa.ok2 n hn).1⟩, fun G4 e4 => ⟨_, rfl, ?_⟩⟩
        refine iteB (fun h3 => iteT ?_) (fun h3 => ?_)
        · exact ⟨_, rfl, _, rfl, fun d' hd => (due (bad true (by rw [show (!isNm n) = true from h3]; rfl))).go (b1.then (e2.trans e4)) ((e2.trans e4) x _ x1) hd⟩
        · obtain ⟨v, g1, g2⟩ := tie_get (tie_mono (e2.trans e4) wa2.di) hn
          refine ⟨_, rfl, x, _, _, _, _, rfl, (e2.trans e4) x _ x1, T.cl, T.kn, rfl, _, rfl, _, rfl, d, v, rfl, g1, k, v, srt xs, lookT ties n, rfl, st_of ((e2.trans e4) k _ k1), g2, fun G5 e5 => ⟨_, rfl, ?_⟩⟩
          rw [pairOk_perm (fun x => srt_mem) (lookT ties n)]
          have e6 := (e2.trans e4).trans e5
          refine iteB (fun h4 => ?_) (fun h4 => ?_)
          · exact ⟨_, rfl, _, rfl, fun d' hd => (due (bad true (by rw [h4, Bool.or_true]))).go (b1.then e6) (e6 x _ x1) hd⟩
          · refine ⟨_, rfl, e6, (e4.trans e5) c _ c2, fun j hj => ?_⟩
            by_cases ej : j = i
            · rw [ej]
              exact bad false (by rw [show (!isNm n) = false from h3, h4]; rfl)
            · exact hb j (by omega)
      · obtain ⟨y3, rfl, e2, c2, hb⟩ := hP
        rw [List.length_map, srt_len, keysT_len] at hb
        rw [first_none hb] at qq
        have qq2 : Wants K x H (Q .non) E xs ties (if 24 < ties.length then .many else .ok) := qq
        obtain ⟨kvs2, d2, t2⟩ := tie_mono e2 wa2.di
        refine ⟨_, rfl, d, kvs2, rfl, d2, _, _, rfl, rfl, _, rfl, ?_⟩
        rw [tieR_len t2]
        refine iteB (fun h5 => ?_) (fun h5 => ?_)
        · have g : 24 < ties.length := by have := of_decide_eq_true h5; omega
          rw [if_pos g] at qq2
          exact ⟨_, rfl, fun d' hd => qq2.go (b1.then e2) (e2 x _ x1) hd⟩
        · have g : ¬ 24 < ties.length := by have := of_decide_eq_false h5; omega
          rw [if_neg g] at qq2
          -- self.ending = {..}
          refine ⟨_, rfl, d, kvs2, rfl, .inl d2, fun l nl => ⟨l, keysT ties, rfl, sq_of (by rw [upd_same, keys_map (tieR_keys t2)]), by rw [keysT_len]; omega, fun ys c' hp hso hc => ?_⟩⟩
          have ey := srt_eq hp hso
          subst ey
          obtain ⟨G6, eG6⟩ : ∃ G6, G6 = upd (upd G2 l (.lst (kvs2.map fun kv => kV kv.1))) c' (.lst ((srt (keysT ties)).map V.str)) := ⟨_, rfl⟩
          have e6 : Ex G2 G6 := by rw [eG6]; exact (Ex.new nl).trans (Ex.new hc)
          have c6 : G6 c' = some (.lst ((srt (keysT ties)).map V.str)) := by rw [eG6, upd_same]
          rw [← eG6]
          have nd : (srt (keysT ties)).Nodup := nodup_perm (srt_perm _) wa.nd
          refine ⟨c', rfl, ⟨_, sq_of c6⟩, fun D hD => dc_it (walk_list (xs := (srt (keysT ties)).map V.str)) (fun i G7 => ∃ kvs', Ex G6 G7 ∧ G7 D = some (.dK kvs') ∧ EndR G7 kvs' ((endsOf ties).take i))
            ⟨[], Ex.new hD, upd_same, .nil⟩ (fun i G7 _ hP => ?_) (fun i v G7 G8 hi hP hy => ?_) (fun G7 hP => ?_)⟩
          · obtain ⟨kvs', e7, _, _⟩ := hP
            exact sq_of (e7 c' _ c6)
          · obtain ⟨kvs', e7, D7, r7⟩ := hP
            obtain ⟨rfl, hv⟩ := hy
            obtain ⟨rfl, hi2⟩ := getD_map hv
            have hn0 : (srt (keysT ties))[i]? = some ((srt (keysT ties)).getD i "") := by simp [List.getD, hi2]
            rw [srt_len] at hi2
            have hn := srt_getD hi2
            rw [keysT_len] at hi2
            have hbi := hb i hi2
            have hE : (endsOf ties)[i]? = some ((srt (keysT ties)).getD i "", pairS (lookT ties ((srt (keysT ties)).getD i ""))) := by unfold endsOf; rw [List.getElem?_map, hn0]; rfl
            unfold badTie at hbi
            generalize hN : (srt (keysT ties)).getD i "" = n at hn hv hn0 hbi hE
            have hpo : pairOk xs (lookT ties n) = true := by
              have := (Bool.or_eq_false_iff.mp hbi).2
              simpa using this
            obtain ⟨a, b, eL, ha, hbb⟩ := pairOk_shape hpo
            obtain ⟨v, g1, g2⟩ := tie_get (tie_mono (e2.trans (e6.trans e7)) wa2.di) hn
            rw [eL] at g2 hE
            obtain ⟨t0, rfl, g3⟩ := tvr_pair g2
            have fresh : valV kvs' (Sum.inr n) = none := by
              have ni : n ∉ ((endsOf ties).take i).map (·.1) := by
                rw [List.map_take, endsOf_keys]
                exact not_in_take nd hn0
              rcases endR_look (n := n) r7 with ⟨_, z⟩ | ⟨_, _, _, z, _⟩
              · exact z
              · rw [lookE_none ni] at z; cases z
            refine ⟨rfl, _, rfl, _, rfl, _, rfl, d, _, rfl, g1, t0, [a, b], rfl, st_of g3, by show 2 < 64; decide, fun ys2 c2' hp2 hso2 hc2 => ⟨c2', _, rfl, .inl ⟨sq_of upd_same, fun l2 hl2 => ?_⟩⟩⟩
            have ey2 := srt_eq hp2 hso2
            subst ey2
            have e8 := (Ex.new (o := .lst ((srt [a, b]).map V.str)) hc2).trans (Ex.new (o := .tup ((srt [a, b]).map V.str)) hl2)
            refine ⟨kvs', Sum.inr n, rfl, e8 D _ D7, ?_, ?_⟩
            · have h1 := Paired.length r7
              rw [List.length_take] at h1
              exact sz_lt (by omega)
            · rw [putK_new _ fresh]
              refine ⟨_, Ex.mut (e7.trans e8) hD, upd_same, ?_⟩
              rw [List.take_add_one, hE]
              refine paired_snoc (Paired.mapP r7 fun p q z => ?_) ⟨rfl, l2, rfl, ?_⟩
              · obtain ⟨z1, t9, z2, z3⟩ := z
                refine ⟨z1, t9, z2, ?_⟩
                rw [upd_ne (fun z => by rw [z, D7] at z3; cases z3)]
                exact e8 _ _ z3
              · rw [upd_ne (fun z => by
                  have q9 := e8 D _ D7
                  rw [← z, upd_same] at q9
                  cases q9), upd_same, srt_pair]
                rfl
          · obtain ⟨kvs', e7, D7, r7⟩ := hP
            rw [List.length_map, srt_len, keysT_len] at r7
            have e9 := e2.trans (e6.trans e7)
            refine ⟨_, rfl, x, _, _, _, rfl, e9 x _ x1, T.cl, T.en, by show 1 < 1000; decide, ?_⟩
            have full : (endsOf ties).take ties.length = endsOf ties := List.take_of_length_le (by unfold endsOf; rw [List.length_map, srt_len, keysT_len]; exact Nat.le_refl _)
            rw [full] at r7
            have nD : D ≠ x := fun z => by rw [z, e9 x _ x1] at D7; cases D7
            refine qq2 _ D (b1.then e9).set ?_ ⟨dx, k, kvs', upd_same, ?_, ?_, ?_⟩
            · cases hH : H D with
              | none => rfl
              | some o => rw [(b1.then (e2.trans e6)) D o nD hH] at hD; cases hD
            · rw [upd_ne kx]; exact e9 k _ k1
            · rw [upd_ne nD]; exact D7
            · refine Paired.mapP r7 fun p q z => ?_
              obtain ⟨z1, t9, z2, z3⟩ := z
              refine ⟨z1, t9, z2, ?_⟩
              rw [upd_ne (fun z => by rw [z, e9 x _ x1] at z3; cases z3)]
              exact z3
end
end L08
namespace L08
open PySem PySem.Spec PyProof.Rows L2 Evl Bf
section
variable {P : Program} {w : World} {K : PySem.W.Frag} {mg : Str → Option Value} {base : Heap} {f : Addr} {fd : FuncData}
def dueV : Bf.Due → Option (List V)
  | .pl i => some [.str "places", .int i]
  | .ti n => some [.str "ties", .str n]
  | .many => some [.str "many", .int 24]
  | .ok => none
def RetDue (H : Hp) (Q : VK) : Option (List V) → Prop
  | none => ∀ G, Ex H G → Q .non G
  | some vs => ∀ q G, H q = none → Ex H G → G q = some (.tup vs) → Q (.ref q) G
theorem RetDue.go {H G : Hp} {Q : VK} {vs : List V} (r : RetDue H Q (some vs)) (e : Ex H G) {q : Addr} (hq : G q = none) : Q (.ref q) (upd G q (.tup vs)) :=
  r q _ (fresh_back e hq) (e.trans (Ex.new hq)) upd_same
def spDue (K : PySem.W.Frag) : Sp := fun vs H Q _ => ∃ (p d : Addr) (xs : List Str) (ties : List (Str × TVal)), vs = [.ref p, .ref d] ∧ WebArg K H p d xs ties ∧ RetDue H Q (dueV (dueOf xs ties))
theorem ok_due (F : FnS K "_law_due" "_law_due" sDue f fd) (B : Bl mg) (c__law_is_name : Cal P w K mg base CX0 1 "_law_is_name" ["_law_word"] (spNm K)) :
    FnOk P w K mg base CX0 2 f fd ["_law_places", "_law_ties"] (spDue K) := by
  refine okD F scDue (fun vs H Q E h => ?_) (fun cdv A outer s H vs Q E hr h => ?_)
  · obtain ⟨p, d, xs, ties, rfl, _⟩ := h
    rfl
  · obtain ⟨p, d, xs, ties, rfl, wa, q⟩ := h
    have hu := hu_of hr
    refine ⟨_, (pss_cons (ps_if (pt_not (pt_chain op_le op_le pe_int (pe_callB call_len_seq (by rfl) B.len (by decide +kernel) (pa_cons (pv 0) pa_nil)) pe_int))
      (pss_one (ps_ret (pe_tup (pa_cons pe_str (pa_cons (pe_un un_neg pe_int) pa_nil)))))
      pss_nil)
      (pss_cons (ps_for PassesOwn.never (by rfl) (pi_range1 (by rfl) B.range (pa_cons (pe_callB call_len_seq (by rfl) B.len (by decide +kernel) (pa_cons (pv 0) pa_nil)) pa_nil)) (pg_name (i := 2) scDue.nd rfl (.inl rfl))
      (pss_one (ps_if (PW.pt (pw_or (pt_not (pt_val (pe_cal c__law_is_name (hr.mono (by decide)) pass0 (pa_cons (pe_ix ix_list (pv 0) (pv 2) (fun _ _ => rfl)) pa_nil)))) (pw_or1 (pt_cmpR op_in_seq (pe_ix ix_list (pv 0) (pv 2) (fun _ _ => rfl)) (pe_slice sl_list (pv 0) po_none (po_some (pv 2))) (by rfl)))))
      (pss_one (ps_ret (pe_tup (pa_cons pe_str (pa_cons (pv 2) pa_nil)))))
      pss_nil)))
      (pss_cons (ps_for PassesOwn.never (by rfl) (pi_list (pe_callB (call_sortedD rfl) (by rfl) B.sorted (by decide +kernel) (pa_cons (pv 1) pa_nil))) (pg_name (i := 3) scDue.nd rfl (.inl rfl))
      (pss_cons (ps_set (i := 4) scDue.nd rfl (.inl rfl) (pe_dget hu (pv 1) (pv 3) (fun _ _ => rfl)))
      (pss_cons (ps_if (PW.pt (pw_or (pt_not (pt_val (pe_cal c__law_is_name (hr.mono (by decide)) pass0 (pa_cons (pv 3) pa_nil)))) (pw_or (pt_not (pt_val (pe_callB call_isi (by rfl) B.isinstance (by decide +kernel) (pa_cons (pv 4) (pa_cons (pe_bltn (v := .ty "tuple") (by rfl) B.tuple (by decide +kernel) rfl) pa_nil))))) (pw_or1 (pt_cmpR op_ne (pe_callB call_len_seq (by rfl) B.len (by decide +kernel) (pa_cons (pv 4) pa_nil)) pe_int (nomark _))))))
      (pss_one (ps_ret (pe_tup (pa_cons pe_str (pa_cons (pv 3) pa_nil)))))
      pss_nil)
      (pss_one (ps_if (PW.pt (pw_or (pt_not (pt_val (pe_callB call_isi (by rfl) B.isinstance (by decide +kernel) (pa_cons (pe_ix ix_tup (pv 4) pe_int (fun _ _ => rfl)) (pa_cons (pe_bltn (v := .ty "str") (by rfl) B.str (by decide +kernel) rfl) pa_nil))))) (pw_or (pt_not (pt_val (pe_callB call_isi (by rfl) B.isinstance (by decide +kernel) (pa_cons (pe_ix ix_tup (pv 4) pe_int (fun _ _ => rfl)) (pa_cons (pe_bltn (v := .ty "str") (by rfl) B.str (by decide +kernel) rfl) pa_nil))))) (pw_or (pt_cmpR op_notIn_seq (pe_ix ix_tup (pv 4) pe_int (fun _ _ => rfl)) (pv 0) (by rfl)) (pw_or1 (pt_cmpR op_notIn_seq (pe_ix ix_tup (pv 4) pe_int (fun _ _ => rfl)) (pv 0) (by rfl)))))))
      (pss_one (ps_ret (pe_tup (pa_cons pe_str (pa_cons (pv 3) pa_nil)))))
      pss_nil)))))
      (pss_one (ps_ret (pe_ifExp (pt_cmpR op_gt (pe_callB call_lenD (by rfl) B.len (by decide +kernel) (pa_cons (pv 1) pa_nil)) pe_int (nomark _)) (pe_tup (pa_cons pe_str (pa_cons pe_int pa_nil))) pe_non)))))), ?_⟩
    have len : ((xs.map V.str).length : Int) = xs.length := by rw [List.length_map]
    have hl := wa.len
    have early : ∀ i, plErr xs = some i → RetDue H Q (some [.str "places", .int i]) := fun i h => by
      unfold dueOf at q
      rw [h] at q
      exact q
    refine ⟨_, rfl, p, _, rfl, .inl wa.pl, _, _, rfl, rfl, _, rfl, ?_⟩
    rw [len]
    have short : ¬ (1 ≤ xs.length ∧ xs.length ≤ 16) → ∀ q', H q' = none → Q (.ref q') (upd H q' (.tup [.str "places", .int (-1)])) := fun hn q' hq => (early (-1) (by unfold plErr; rw [if_neg hn])).go (Ex.refl H) hq
    refine iteB (fun h1 => ⟨_, _, rfl, rfl, _, rfl, iteB (fun h2 => ?_) (fun h2 => ?_)⟩) (fun h1 => ⟨_, rfl, iteT ?_⟩)
    · exact ⟨1, rfl, by show 2 ≤ sizeLine; decide, short (by have := of_decide_eq_false ((Bool.not_eq_true' _).mp h2); omega)⟩
    · have g1 := of_decide_eq_true h1
      have g2 : (xs.length : Int) ≤ 16 := by simpa using h2
      have g : 1 ≤ xs.length ∧ xs.length ≤ 16 := by omega
      refine ⟨_, rfl, p, _, rfl, .inl wa.pl, xs.length, by rw [len], by omega, by omega, for_range (lo := 0) (n := xs.length) (fun i σ G => ∃ y2 y3 y4, σ = [some (.ref p), some (.ref d), y2, y3, y4] ∧ Ex H G ∧ ∀ j, j < i → badPl xs j = false)
        ⟨none, none, none, rfl, Ex.refl H, fun j hj => absurd hj (Nat.not_lt_zero j)⟩ (fun i σ G hi hP => ?_) (fun σ G hP => ?_)⟩
      · obtain ⟨y2, y3, y4, rfl, e, hb⟩ := hP
        have z : (0 : Int) + (i : Int) = (i : Int) := Int.zero_add _
        rw [z]
        have at_ : atI (xs.map V.str) (i : Int) = some (.str (xs.getD i "")) := atI_nat (by rw [List.getElem?_map, List.getElem?_eq_getElem hi]; simp [List.getD, hi])
        refine ⟨_, rfl, _, rfl, p, _, _, _, rfl, rfl, ex_l e wa.pl, at_, _, rfl, .inl ⟨_, rfl, (wa.ok _ (getD_mem hi)).1⟩, fun G2 e3 => ⟨_, rfl, ?_⟩⟩
        refine iteB (fun h3 => iteT ?_) (fun h3 => ?_)
        · have bad : badPl xs i = true := by unfold badPl; rw [show (!isNm (xs.getD i "")) = true from h3, Bool.true_or]
          exact ⟨_, rfl, by show 2 ≤ sizeLine; decide, fun q' hq => (early i (by unfold plErr; rw [if_pos g, first_some hi bad hb]; rfl)).go (e.trans e3) hq⟩
        · refine ⟨_, rfl, _, rfl, p, _, _, _, rfl, rfl, ex_l (e.trans e3) wa.pl, at_, _, rfl, _, rfl, _, rfl, p, _, rfl, ex_l (e.trans e3) wa.pl, fun c hc => ⟨c, _, rfl, .inl (sq_of upd_same), rfl, ?_, _, rfl, ?_⟩⟩
          · rw [take_map xs i (by omega)]; exact flat_strs _
          · have e4 : inV (.str (xs.getD i "")) (cutV (xs.map V.str) none (some (i : Int))) = decide (xs.getD i "" ∈ xs.take i) := by rw [take_map xs i (by omega), inV_str]
            rw [e4]
            have eC := (e.trans e3).trans (Ex.new (o := .lst (cutV (xs.map V.str) none (some (i : Int)))) hc)
            refine iteB (fun h5 => ?_) (fun h5 => ?_)
            · have bad : badPl xs i = true := by unfold badPl; rw [show decide (xs.getD i "" ∈ xs.take i) = true from h5, Bool.or_true]
              exact ⟨_, rfl, by show 2 ≤ sizeLine; decide, fun q' hq => (early i (by unfold plErr; rw [if_pos g, first_some hi bad hb]; rfl)).go eC hq⟩
            · refine ⟨_, _, _, rfl, eC, fun j hj => ?_⟩
              by_cases ej : j = i
              · subst ej
                unfold badPl
                rw [show (!isNm (xs.getD j "")) = false from h3, show decide (xs.getD j "" ∈ xs.take j) = false from h5]
                rfl
              · exact hb j (by omega)
      · obtain ⟨y2, y3, y4, rfl, e, hb⟩ := hP
        have no : plErr xs = none := by unfold plErr; rw [if_pos g, first_none hb]; rfl
        have q2 : RetDue H Q (dueV (match firstOf (badTie xs ties) ties.length with | some i => .ti ((srt (keysT ties)).getD i "") | none => if 24 < ties.length then .many else .ok)) := by
          unfold dueOf at q
          rw [no] at q
          exact q
        obtain ⟨kvs, d1, t1⟩ := tie_mono e wa.di
        refine ⟨_, rfl, d, kvs, keysT ties, rfl, .inl d1, tieR_keys t1, by rw [keysT_len]; have := wa.len2; omega, fun ys c hp hso hc => ?_⟩
        have ey := srt_eq hp hso
        subst ey
        refine ⟨c, rfl, ⟨_, sq_of upd_same⟩, for_it (walk_list (xs := (srt (keysT ties)).map V.str)) (fun i σ G2 => ∃ y2 y3 y4, σ = [some (.ref p), some (.ref d), y2, y3, y4] ∧ Ex H G2 ∧ G2 c = some (.lst ((srt (keysT ties)).map V.str)) ∧ ∀ j, j < i → badTie xs ties j = false)
          ⟨_, _, _, rfl, e.trans (Ex.new hc), upd_same, fun j hj => absurd hj (Nat.not_lt_zero j)⟩ (fun i σ G2 _ hP => ?_) (fun i v σ G2 G3 hi hP hy => ?_) (fun σ G2 hP => ?_)⟩
        · obtain ⟨_, _, _, rfl, _, h, _⟩ := hP
          exact sq_of h
        · obtain ⟨z2, z3, z4, rfl, e2, c2, hb2⟩ := hP
          obtain ⟨rfl, hv⟩ := hy
          obtain ⟨rfl, hi2⟩ := getD_map hv
          rw [srt_len] at hi2
          have hn := srt_getD hi2
          rw [keysT_len] at hi2
          generalize hN : (srt (keysT ties)).getD i "" = n at hn hv
          have bad : ∀ b : Bool, (!isNm n || !pairOk xs (lookT ties n)) = b → badTie xs ties i = b := fun b h => by unfold badTie; rw [hN]; exact h
          have due : badTie xs ties i = true → RetDue H Q (some [.str "ties", .str n]) := fun h => by
            rw [first_some hi2 h hb2] at q2
            rw [← hN]
            exact q2
          obtain ⟨v, g1, g2⟩ := tie_get (tie_mono e2 wa.di) hn
          refine ⟨_, rfl, _, rfl, d, v, rfl, g1, ?_⟩
          refine ⟨_, rfl, _, rfl, .inl ⟨n, rfl, (wa.ok2 n hn).1⟩, fun G4 e4 => ⟨_, rfl, ?_⟩⟩
          refine iteB (fun h3 => iteT ?_) (fun h3 => ?_)
          · exact ⟨_, rfl, by show 2 ≤ sizeLine; decide, fun q' hq => (due (bad true (by rw [show (!isNm n) = true from h3]; rfl))).go (e2.trans e4) hq⟩
          · have notNm : (!isNm n) = false := h3
            have badP : pairOk xs (lookT ties n) = false → badTie xs ties i = true := fun h => bad true (by rw [h]; exact Bool.or_true _)
            have g2' := tvr_mono e4 g2
            generalize hT : lookT ties n = t at g2 g2' badP bad
            cases t with
            | oth =>
              obtain ⟨u, ty, kt⟩ := g2'
              refine ⟨_, rfl, _, _, _, _, _, rfl, .ty _, ty, kit_ty kt, _, rfl, iteT (iteT ?_)⟩
              exact ⟨_, rfl, by show 2 ≤ sizeLine; decide, fun q' hq => (due (badP rfl)).go (e2.trans e4) hq⟩
            | tup es =>
              obtain ⟨tp, us, rfl, hp2, he, hz⟩ := g2'
              have hle : us.length = es.length := Paired.length he
              refine ⟨_, rfl, _, _, _, _, _, rfl, .ty _, .base (.tup hp2), kit_ty (r := true) (by decide +kernel), _, rfl, iteF ⟨_, rfl, tp, _, rfl, .inr (st_of hp2), rfl, _, rfl, ?_⟩⟩
              by_cases h2l : es.length = 2
              · have c2' : (!decide (V.int (us.length : Int) = V.int 2)) = false := by rw [hle, h2l]; rfl
                rw [c2']
                clear c2'
                refine iteF ?_
                obtain ⟨e1, e2', rfl⟩ : ∃ e1 e2, es = [e1, e2] := by
                  match es, h2l with
                  | [e1, e2], _ => exact ⟨e1, e2, rfl⟩
                obtain ⟨v1, v2, rfl, r1, r2⟩ : ∃ v1 v2, us = [v1, v2] ∧ EntR K G4 v1 e1 ∧ EntR K G4 v2 e2' := by
                  cases he with
                  | cons r1 t => cases t with
                    | cons r2 t => cases t with
                      | nil => exact ⟨_, _, rfl, r1, r2⟩
                have i0 : atI [v1, v2] 0 = some v1 := rfl
                have i1 : atI [v1, v2] 1 = some v2 := rfl
                have TP := st_of (K := K) hp2
                have out : pairOk xs (.tup [e1, e2']) = false → ∀ q', G4 q' = none → Q (.ref q') (upd G4 q' (.tup [.str "ties", .str n])) := fun h q' hq => (due (badP h)).go (e2.trans e4) hq
                cases e1 with
                | none =>
                  obtain ⟨nz, u, ty, kt⟩ := r1
                  refine ⟨_, rfl, tp, _, 0, _, rfl, rfl, TP, i0, _, _, _, _, _, rfl, .ty _, ty, kit_ty kt, _, rfl, iteT (iteT ?_)⟩
                  exact ⟨_, rfl, by show 2 ≤ sizeLine; decide, out rfl⟩
                | some a =>
                  obtain ⟨rfl, sa⟩ := r1
                  refine ⟨_, rfl, tp, _, 0, _, rfl, rfl, TP, i0, _, _, _, _, _, rfl, .ty _, .base (.str a), kit_ty (r := true) (by decide +kernel), _, rfl, iteF ?_⟩
                  cases e2' with
                  | none =>
                    obtain ⟨nz, u, ty, kt⟩ := r2
                    refine ⟨_, rfl, tp, _, 1, _, rfl, rfl, TP, i1, _, _, _, _, _, rfl, .ty _, ty, kit_ty kt, _, rfl, iteT (iteT ?_)⟩
                    exact ⟨_, rfl, by show 2 ≤ sizeLine; decide, out rfl⟩
                  | some b =>
                    obtain ⟨rfl, sb⟩ := r2
                    refine ⟨_, rfl, tp, _, 1, _, rfl, rfl, TP, i1, _, _, _, _, _, rfl, .ty _, .base (.str b), kit_ty (r := true) (by decide +kernel), _, rfl, iteF ?_⟩
                    have PL := ex_l (e2.trans e4) wa.pl
                    refine ⟨_, rfl, tp, _, 0, _, rfl, rfl, TP, i0, _, rfl, p, _, rfl, .inl PL, rfl, flat_strs xs, _, rfl, ?_⟩
                    rw [inV_str]
                    refine iteB (fun h6 => iteT ?_) (fun h6 => ?_)
                    · have ha : decide (a ∈ xs) = false := by simpa using h6
                      exact ⟨_, rfl, by show 2 ≤ sizeLine; decide, out (by show (decide (a ∈ xs) && decide (b ∈ xs)) = false; rw [ha, Bool.false_and])⟩
                    · refine ⟨_, rfl, tp, _, 1, _, rfl, rfl, TP, i1, _, rfl, p, _, rfl, .inl PL, rfl, flat_strs xs, _, rfl, ?_⟩
                      rw [inV_str]
                      refine iteB (fun h7 => ?_) (fun h7 => ?_)
                      · have hb' : decide (b ∈ xs) = false := by simpa using h7
                        exact ⟨_, rfl, by show 2 ≤ sizeLine; decide, out (by show (decide (a ∈ xs) && decide (b ∈ xs)) = false; rw [hb', Bool.and_false])⟩
                      · have ha : decide (a ∈ xs) = true := by simpa using h6
                        have hb' : decide (b ∈ xs) = true := by simpa using h7
                        refine ⟨_, _, _, rfl, e2.trans e4, e4 c _ c2, fun j hj => ?_⟩
                        by_cases ej : j = i
                        · rw [ej]
                          exact bad false (by rw [notNm]; show (false || !(decide (a ∈ xs) && decide (b ∈ xs))) = false; rw [ha, hb']; rfl)
                        · exact hb2 j (by omega)
              · have c2' : (!decide (V.int (us.length : Int) = V.int 2)) = true := by
                  rw [decide_eq_false fun z => h2l (by have := V.int.inj z; omega)]
                  rfl
                rw [c2']
                exact iteT ⟨_, rfl, by show 2 ≤ sizeLine; decide, fun q' hq => (due (badP (pair_len h2l))).go (e2.trans e4) hq⟩
        · obtain ⟨z2, z3, z4, rfl, e2, c2, hb2⟩ := hP
          rw [List.length_map, srt_len, keysT_len] at hb2
          rw [first_none hb2] at q2
          have q3 : RetDue H Q (dueV (if 24 < ties.length then .many else .ok)) := q2
          obtain ⟨kvs2, d2, t2⟩ := tie_mono e2 wa.di
          refine ⟨_, rfl, d, kvs2, rfl, d2, _, _, rfl, rfl, _, rfl, ?_⟩
          rw [tieR_len t2]
          refine iteB (fun h5 => ?_) (fun h5 => ?_)
          · have g' : 24 < ties.length := by have := of_decide_eq_true h5; omega
            rw [if_pos g'] at q3
            exact ⟨by show 2 ≤ sizeLine; decide, fun q' hq => RetDue.go (vs := [.str "many", .int 24]) q3 e2 hq⟩
          · have g' : ¬ 24 < ties.length := by have := of_decide_eq_false h5; omega
            rw [if_neg g'] at q3
            exact q3 _ e2
    · exact ⟨1, rfl, by show 2 ≤ sizeLine; decide, short (by have := of_decide_eq_false h1; omega)⟩
end
end L08
namespace L08
open PySem PySem.Spec PyProof.Rows L2 Evl Bf
section
variable {P : Program} {w : World} {K : PySem.W.Frag} {mg : Str → Option Value} {base : Heap} {f fi : Addr} {fd fdi : FuncData}
def Exm (K : PySem.W.Frag) (x y : Str) (b : Bool) : Prop := PySem.W.exmOne K (.ref (He.ga K x)) (.ref (He.ga K y)) = some b
structure Exm3 (K : PySem.W.Frag) : Prop where
  pp : Exm K "BadPlaces" "BadPlaces" true
  tp : Exm K "BadTies" "BadPlaces" false
  tt : Exm K "BadTies" "BadTies" true
  mp : Exm K "TooMany" "BadPlaces" false
  mt : Exm K "TooMany" "BadTies" false
  mm : Exm K "TooMany" "TooMany" true
theorem exb_back {H1 G : Hp} {y dy : Addr} {o o' : HO} (hy : H1 y = none) (hd : H1 dy = none) (e : ExB y (upd (upd H1 dy o) y o') G) : Ex H1 G := fun b u h => by
  have n1 : b ≠ y := fun z => by rw [z, hy] at h; cases h
  have n2 : b ≠ dy := fun z => by rw [z, hd] at h; cases h
  exact e b u n1 (by rw [upd_ne n1, upd_ne n2]; exact h)
theorem ex_new2 {H1 : Hp} {y dy : Addr} {o o' : HO} (hy : H1 y = none) (hd : H1 dy = none) : Ex H1 (upd (upd H1 dy o) y o') := exb_back hy hd (fun b u n h => h)
theorem nope {p : Prop} : ∀ {a b : Bool}, (a != b) = true → a = b → p := fun h z => by subst z; simp at h
def tbTold (K : PySem.W.Frag) (W : WX) : TS := tDrop (tMkS (He.ga K "Web") (spInitW K) (WE W) (tCons (tVar 0) (tCons (tVar 1) tNil)))
theorem ok_told (F : FnS K "_law_told" "_law_told" sTold f fd) (B : Bl mg) (mk_Web : Mk K (He.ga K "Web") fi) (f_Web : FnOk P w K mg base (L2.CX P w) 4 fi fdi ["self", "places", "ties"] (spInitW K)) (b_Web : Binds K fdi ["self", "places", "ties"] [])
    (g_Web : mg "Web" = some (.ref (He.ga K "Web"))) (x_BadPlaces : ExT P w K mg base "BadPlaces" "index" (He.ga K "BadPlaces")) (x_BadTies : ExT P w K mg base "BadTies" "name" (He.ga K "BadTies")) (x_TooMany : ExT P w K mg base "TooMany" "limit" (He.ga K "TooMany"))
    (x3 : Exm3 K) :
    FnOk P w K mg base CX0 6 f fd ["_law_places", "_law_ties"] (spDue K) := by
  refine okD F scTold (fun vs H Q E h => ?_) (fun cdv A outer s H vs Q E hr h => ?_)
  · obtain ⟨p, d, xs, ties, rfl, _⟩ := h
    rfl
  · obtain ⟨p, d, xs, ties, rfl, wa, q⟩ := h
    refine ⟨_, (pss_cons (ps_set (i := 2) scTold.nd rfl (.inl rfl) pe_non)
      (pss_cons (ps_try_nam (tb := tbTold K) rfl rfl scTold.nd takes0 (fun W pn xe tk _ => (pss_one (ps_expr (pe_mkS mk_Web f_Web (hr.mono (by decide)) g_Web b_Web (fun σ => passAt tk σ) (pa_cons (pv 0) (pa_cons (pv 1) pa_nil))))))
      (.cons ⟨rfl, by decide, .inl x_BadPlaces.g⟩ (i := 3) rfl rfl (fun a oe cl d pn hz hf => (pss_one (ps_set (i := 2) scTold.nd rfl (.inl rfl) (pe_tup (pa_cons pe_str (pa_cons (pe_xf x_BadPlaces.xf x_BadPlaces.no hz hf (pv 3)) pa_nil))))))
      (.cons ⟨rfl, by decide, .inl x_BadTies.g⟩ (i := 3) rfl rfl (fun a oe cl d pn hz hf => (pss_one (ps_set (i := 2) scTold.nd rfl (.inl rfl) (pe_tup (pa_cons pe_str (pa_cons (pe_xf x_BadTies.xf x_BadTies.no hz hf (pv 3)) pa_nil))))))
      (.cons ⟨rfl, by decide, .inl x_TooMany.g⟩ (i := 3) rfl rfl (fun a oe cl d pn hz hf => (pss_one (ps_set (i := 2) scTold.nd rfl (.inl rfl) (pe_tup (pa_cons pe_str (pa_cons (pe_xf x_TooMany.xf x_TooMany.no hz hf (pv 3)) pa_nil))))))
      .nil))))
      (pss_one (ps_ret (pv 2))))), ?_⟩
    refine ⟨_, rfl, _, rfl, fun y dy hy hd hne => ⟨y, dy, p, d, H, xs, ties, rfl, upd_same, hy, ex_new2 hy hd, wa, ?_⟩⟩
    generalize dueOf xs ties = D at q
    cases D with
    | pl i =>
      refine fun d2 G e nx hn hg => ⟨true, x3.pp, fun _ a na => ?_, (fun z => nope rfl z)⟩
      refine ⟨_, rfl, rfl, rfl, d2, _, _, rfl, hg, rfl, by show 2 ≤ sizeLine; decide, fun q' hq => ?_⟩
      exact ⟨_, rfl, RetDue.go (vs := [.str "places", .int i]) q (exb_back hy hd e) hq⟩
    | ti n =>
      refine fun d2 G e nx hn hg => ⟨false, x3.tp, (fun z => nope rfl z), fun _ => ⟨true, x3.tt, fun _ a na => ?_, (fun z => nope rfl z)⟩⟩
      refine ⟨_, rfl, rfl, rfl, d2, _, _, rfl, hg, rfl, by show 2 ≤ sizeLine; decide, fun q' hq => ?_⟩
      exact ⟨_, rfl, RetDue.go (vs := [.str "ties", .str n]) q (exb_back hy hd e) hq⟩
    | many =>
      refine fun d2 G e nx hn hg => ⟨false, x3.mp, (fun z => nope rfl z), fun _ => ⟨false, x3.mt, (fun z => nope rfl z), fun _ => ⟨true, x3.mm, fun _ a na => ?_, (fun z => nope rfl z)⟩⟩⟩
      refine ⟨_, rfl, rfl, rfl, d2, _, _, rfl, hg, rfl, by show 2 ≤ sizeLine; decide, fun q' hq => ?_⟩
      exact ⟨_, rfl, RetDue.go (vs := [.str "many", .int 24]) q (exb_back hy hd e) hq⟩
    | ok =>
      refine fun G _ e _ wt => ⟨rfl, ?_⟩
      exact ⟨_, rfl, q G (exb_back hy hd e)⟩
end
end L08
namespace L08
open PySem PySem.Spec PyProof.Rows L2 Evl Bf
section
variable {P : Program} {w : World} {K : PySem.W.Frag} {mg : Str → Option Value} {base : Heap} {f fi : Addr} {fd fdi : FuncData}
structure WebIn (K : PySem.W.Frag) (H : Hp) (p d : Addr) (xs : List Str) (ties : List (Str × TVal)) : Prop where
  arg : WebArg K H p d xs ties
  hp : H p = some (.lst (xs.map V.str))
theorem webIn_mono {H G : Hp} {p d : Addr} {xs : List Str} {ties : List (Str × TVal)} (e : Ex H G) (a : WebIn K H p d xs ties) : WebIn K G p d xs ties := ⟨webArg_mono e a.arg, e _ _ a.hp⟩
def DrawnW (xs : List Str) (ties : List (Str × TVal)) : Prop := xs ≠ [] ∧ xs.length ≤ 17 ∧ NamesOk xs ∧ ties.length ≤ 25 ∧ NamesOk (keysT ties)
def spDrawn (K : PySem.W.Frag) : Sp := fun vs H Q _ => ∃ a : Addr, vs = [.ref a] ∧ H a = some (wellO a) ∧
  ∀ (xs : List Str) (ties : List (Str × TVal)) (p d t : Addr) (G : Hp), Ex H G → WebIn K G p d xs ties → DrawnW xs ties → G t = some (.tup [.ref p, .ref d]) → Q (.ref t) G
theorem natOf {l : List Int} {v : V} (h : v ∈ l.map V.int) (p : ∀ i ∈ l, 0 ≤ i ∧ i ≤ 25) : ∃ m : Nat, v = .int m ∧ (m : Int) ∈ l ∧ m ≤ 25 := by
  obtain ⟨i, hi, rfl⟩ := List.mem_map.mp h
  obtain ⟨h0, h1⟩ := p i hi
  obtain ⟨m, rfl⟩ := Int.eq_ofNat_of_zero_le h0
  exact ⟨m, rfl, hi, by omega⟩
theorem tyx_upd {H : Hp} {v : V} {t : String} {d : Addr} {kvs kvs' : List (Key × V)} (hd : H d = some (.dK kvs)) (h : TyX K H v (.type t)) : TyX K (upd H d (.dK kvs')) v (.type t) := by
  have ne : ∀ {a : Addr} {o : HO}, H a = some o → (∀ q, o ≠ .dK q) → (upd H d (.dK kvs')) a = some o := fun {a o} h n => by
    by_cases z : a = d
    · rw [z, hd] at h
      exact absurd (Option.some.inj h).symm (n _)
    · rw [upd_ne z]; exact h
  cases h with
  | base b =>
    cases b with
    | non => exact .base .non
    | bl x => exact .base (.bl x)
    | int i => exact .base (.int i)
    | str x => exact .base (.str x)
    | flt x => exact .base (.flt x)
    | lst q => exact .base (.lst (ne q fun _ z => by cases z))
    | frz q => exact .base (.frz (ne q fun _ z => by cases z))
    | tup q => exact .base (.tup (ne q fun _ z => by cases z))
    | @dK a kv q =>
      by_cases z : a = d
      · subst z; exact .base (.dK upd_same)
      · exact .base (.dK (by rw [upd_ne z]; exact q))
    | dT q => exact .base (.dT (ne q fun _ z => by cases z))
  | byt b => exact .byt b
  | set q => exact .set (ne q fun _ z => by cases z)
  | kList q c => exact .kList q c
  | kTuple q c => exact .kTuple q c
  | kDict q c => exact .kDict q c
  | fTuple q => exact .fTuple (ne q fun _ z => by cases z)
  | fDict q => exact .fDict (ne q fun _ z => by cases z)
theorem entR_upd {H : Hp} {v : V} {o : Option Str} {d : Addr} {kvs kvs' : List (Key × V)} (hd : H d = some (.dK kvs)) (h : EntR K H v o) : EntR K (upd H d (.dK kvs')) v o := by
  cases o with
  | some z => exact h
  | none =>
    obtain ⟨h1, t, h2, h3⟩ := h
    exact ⟨h1, t, tyx_upd hd h2, h3⟩
theorem tvr_upd {H : Hp} {v : V} {t : TVal} {d : Addr} {kvs kvs' : List (Key × V)} (hd : H d = some (.dK kvs)) (h : TVR K H v t) : TVR K (upd H d (.dK kvs')) v t := by
  cases t with
  | tup es =>
    obtain ⟨p, vs, h1, h2, h3, h4⟩ := h
    exact ⟨p, vs, h1, by rw [upd_ne fun z => by rw [z, hd] at h2; cases h2]; exact h2, Paired.mapP h3 fun _ _ z => entR_upd hd z, h4⟩
  | oth =>
    obtain ⟨t, h1, h2⟩ := h
    exact ⟨t, tyx_upd hd h1, h2⟩
theorem tieR_upd {H : Hp} {d : Addr} {kvs kvs' ks : List (Key × V)} {ties : List (Str × TVal)} (hd : H d = some (.dK kvs)) (h : TieR K H ks ties) : TieR K (upd H d (.dK kvs')) ks ties := Paired.mapP h fun _ _ z => ⟨z.1, tvr_upd hd z.2⟩
theorem ok_drawn (F : FnS K "_law_drawn" "_law_drawn" sDrawn f fd) (B : Bl mg) (c__law_names : Cal P w K mg base CX0 3 "_law_names" ["_law_well", "_law_many"] spNames)
    (c__law_pick : Cal P w K mg base CX0 2 "_law_pick" ["_law_well", "_law_some"] (spPick K)) : FnOk P w K mg base CX0 4 f fd ["_law_well"] (spDrawn K) := by
  refine okD F scDrawn (fun vs H Q E h => ?_) (fun cdv A outer s H vs Q E hr h => ?_)
  · obtain ⟨a, rfl, _⟩ := h
    rfl
  · obtain ⟨a, rfl, hw, q⟩ := h
    have hu := hu_of hr
    refine ⟨_, (pss_cons (ps_set (i := 1) scDrawn.nd rfl (.inl rfl) (pe_cal c__law_names (hr.mono (by decide)) pass0 (pa_cons (pv 0) (pa_cons (pe_cal c__law_pick (hr.mono (by decide)) pass0 (pa_cons (pv 0) (pa_cons (pe_lst (pa_cons pe_int (pa_cons pe_int (pa_cons pe_int (pa_cons pe_int (pa_cons pe_int (pa_cons pe_int (pa_cons pe_int (pa_cons pe_int pa_nil))))))))) pa_nil))) pa_nil))))
      (pss_cons (ps_set (i := 2) scDrawn.nd rfl (.inl rfl) pe_dnewK)
      (pss_cons (ps_for PassesOwn.never (by rfl) (pi_list (pe_cal c__law_names (hr.mono (by decide)) pass0 (pa_cons (pv 0) (pa_cons (pe_cal c__law_pick (hr.mono (by decide)) pass0 (pa_cons (pv 0) (pa_cons (pe_lst (pa_cons pe_int (pa_cons pe_int (pa_cons pe_int (pa_cons pe_int (pa_cons pe_int (pa_cons pe_int (pa_cons pe_int (pa_cons pe_int pa_nil))))))))) pa_nil))) pa_nil)))) (pg_name (i := 3) scDrawn.nd rfl (.inl rfl))
      (pss_one (ps_dput hu (pv 2) (pv 3) (pe_tup (pa_cons (pe_cal c__law_pick (hr.mono (by decide)) pass0 (pa_cons (pv 0) (pa_cons (pv 1) pa_nil))) (pa_cons (pe_cal c__law_pick (hr.mono (by decide)) pass0 (pa_cons (pv 0) (pa_cons (pv 1) pa_nil))) pa_nil))) rfl)))
      (pss_one (ps_ret (pe_tup (pa_cons (pv 1) (pa_cons (pv 2) pa_nil)))))))), ?_⟩
    refine ⟨_, rfl, _, rfl, by show 8 ≤ sizeLine; decide, fun c1 hc1 => ?_⟩
    refine ⟨a, _, rfl, Ex.new hc1 a _ hw, .inl ⟨c1, _, rfl, sq_of upd_same, by simp, by show 8 ≤ 1000; decide, fun v hv => ?_⟩⟩
    obtain ⟨m, rfl, hm, m25⟩ := natOf (l := [1, 2, 3, 4, 5, 15, 16, 17]) hv (by decide)
    have m1 : 1 ≤ m ∧ m ≤ 17 := by simp at hm; omega
    refine ⟨a, m, rfl, Ex.new hc1 a _ hw, m25, fun xs p G xl xn hp0 e1 hp => ?_⟩
    have E1 : Ex H G := (Ex.new hc1).trans e1
    refine fun d hd => ?_
    have E2 : Ex H (upd G d (.dK [])) := E1.trans (Ex.new hd)
    have Hd : H d = none := fresh_back E1 hd
    have pd : p ≠ d := fun z => by rw [z, hd] at hp; cases hp
    refine ⟨_, rfl, _, rfl, by show 8 ≤ sizeLine; decide, fun c2 hc2 => ?_⟩
    refine ⟨a, _, rfl, (E2.trans (Ex.new hc2)) a _ hw, .inl ⟨c2, _, rfl, sq_of upd_same, by simp, by show 8 ≤ 1000; decide, fun v hv => ?_⟩⟩
    obtain ⟨n, rfl, hn, n25⟩ := natOf (l := [0, 1, 2, 5, 9, 23, 24, 25]) hv (by decide)
    refine ⟨a, n, rfl, (E2.trans (Ex.new hc2)) a _ hw, n25, fun ns l G2 nl nn hl0 e2 hl => ?_⟩
    have E3 : Ex (upd G d (.dK [])) G2 := (Ex.new hc2).trans e2
    have E4 : Ex G G2 := (Ex.new hd).trans E3
    have ld : l ≠ d := fun z => by
      have h1 : (upd (upd G d (.dK [])) c2 (.lst ([0, 1, 2, 5, 9, 23, 24, 25].map V.int))) d = some (.dK []) := Ex.new hc2 d _ upd_same
      have h2 := hl0
      rw [z] at h2
      have h3 := h1.symm.trans h2
      cases h3
    refine ⟨l, rfl, ⟨_, sq_of hl⟩, for_it (walk_list (xs := ns.map V.str)) (fun i σ G3 => ∃ y3 kvs ties, σ = [some (.ref a), some (.ref p), some (.ref d), y3] ∧ Ex G G3 ∧ G3 l = some (.lst (ns.map V.str)) ∧ G3 d = some (.dK kvs) ∧ TieR K G3 kvs ties ∧ keysT ties = ns.take i)
      ⟨_, [], [], rfl, E4, hl, E3 d _ upd_same, .nil, rfl⟩ (fun i σ G3 _ hP => ?_) (fun i v σ G3 G4 hi hP hy => ?_) (fun σ G3 hP => ?_)⟩
    · obtain ⟨_, _, _, rfl, _, h, _⟩ := hP
      exact sq_of h
    · obtain ⟨y3, kvs, ties, rfl, e3, hl3, hd3, tr, kt⟩ := hP
      obtain ⟨rfl, hv⟩ := hy
      obtain ⟨rfl, hi2⟩ := getD_map hv
      have hw3 : G4 a = some (wellO a) := (E1.trans e3) a _ hw
      have hp3 : SqL K G4 p (xs.map V.str) := sq_of (e3 p _ hp)
      have xne : xs.map V.str ≠ [] := fun z => by
        have := congrArg List.length z
        rw [List.length_map, List.length_nil] at this
        omega
      have xle : (xs.map V.str).length ≤ 1000 := by rw [List.length_map]; omega
      refine ⟨_, rfl, _, rfl, a, _, rfl, hw3, .inl ⟨p, _, rfl, hp3, xne, xle, fun v1 hv1 => ⟨_, rfl, _, rfl, a, _, rfl, hw3, .inl ⟨p, _, rfl, hp3, xne, xle, fun v2 hv2 => ?_⟩⟩⟩⟩
      obtain ⟨z1, hz1, rfl⟩ := List.mem_map.mp hv1
      obtain ⟨z2, hz2, rfl⟩ := List.mem_map.mp hv2
      refine ⟨by show 2 ≤ sizeLine; decide, fun t ht => ?_⟩
      generalize hN : ns.getD i "" = nm at hv
      have dt : d ≠ t := fun z => by rw [← z, hd3] at ht; cases ht
      have hdt := Ex.new (o := .tup [V.str z1, V.str z2]) ht d _ hd3
      refine ⟨_, rfl, _, rfl, d, _, rfl, DPut.k (k := Sum.inr nm) hdt ?_, ?_⟩
      · rw [tieR_len tr, ← keysT_len, kt, List.length_take]
        exact sz_lt (by omega)
      · have nin : nm ∉ keysT ties := by
          rw [kt]
          refine not_in_take nn.1 ?_
          rw [← hN]
          simp [List.getD, hi2]
        have tv : TVR K (upd (upd G4 t (.tup [.str z1, .str z2])) d (.dK (putK kvs (Sum.inr nm) (.ref t)))) (.ref t) (.tup [some z1, some z2]) := by
          refine ⟨t, _, rfl, ?_, .cons ⟨rfl, drawn_ok (xn.2 _ hz1)⟩ (.cons ⟨rfl, drawn_ok (xn.2 _ hz2)⟩ .nil), by show 2 ≤ 1000; decide⟩
          rw [upd_ne dt.symm, upd_same]
        have e6 : Ex G4 (upd G4 t (.tup [.str z1, .str z2])) := Ex.new ht
        refine ⟨_, _, putT ties nm (.tup [some z1, some z2]), rfl, Ex.mut (e3.trans e6) hd, ?_, upd_same, tieR_put (tieR_upd hdt (tieR_mono e6 tr)) tv, ?_⟩
        · rw [upd_ne ld]
          exact e6 l _ hl3
        · rw [putT_keys, if_neg nin, kt, ← hN]
          rw [List.take_add_one]
          simp [List.getD, hi2]
    · obtain ⟨y3, kvs, ties, rfl, e3, hl3, hd3, tr, kt⟩ := hP
      rw [List.length_map, List.take_length] at kt
      refine ⟨_, rfl, _, rfl, by show 2 ≤ sizeLine; decide, fun t ht => ?_⟩
      have e5 : Ex G (upd G3 t (.tup [.ref p, .ref d])) := e3.trans (Ex.new ht)
      have tl : ties.length = n := by rw [← keysT_len, kt, nl]
      refine q xs ties p d t _ (E1.trans e5) ⟨⟨sq_of (e5 p _ hp), by omega, fun x hx => drawn_ok (xn.2 x hx), ⟨kvs, Ex.new ht d _ hd3, tieR_mono (Ex.new ht) tr⟩, by rw [kt]; exact nn.1, by omega, fun x hx => by rw [kt] at hx; exact drawn_ok (nn.2 x hx)⟩, e5 p _ hp⟩ ?_ upd_same
      refine ⟨fun z => by rw [z] at xl; have := m1.1; simp at xl; omega, by omega, xn, by omega, by rw [kt]; exact nn⟩
end
end L08
namespace L08
open PySem PySem.Spec PyProof.Rows L2 Evl Bf
section
variable {P : Program} {w : World} {K : PySem.W.Frag} {mg : Str → Option Value} {base : Heap} {f fi : Addr} {fd fdi : FuncData}
def spSpoiled (K : PySem.W.Frag) : Sp := fun vs H Q _ => ∃ (a p d : Addr) (xs : List Str) (ties : List (Str × TVal)), vs = [.ref a, .ref p, .ref d] ∧ H a = some (wellO a) ∧ WebIn K H p d xs ties ∧ xs.length < 60 ∧ ties.length < 60 ∧
  ∀ (xs' : List Str) (ties' : List (Str × TVal)) (p' d' t : Addr) (G : Hp), Ex H G → WebIn K G p' d' xs' ties' → xs'.length ≤ xs.length + 1 → ties'.length ≤ ties.length + 1 → G t = some (.tup [.ref p', .ref d']) → Q (.ref t) G
instance (z : Str) : Decidable (StrOk z) := inferInstanceAs (Decidable (_ ∧ _))
theorem viaC {p : Prop} {C R : V → Hp → Prop} (h1 : (∀ v G, R v G → C v G) → p) (h2 : ∀ v G, R v G → C v G) : p := h1 h2
theorem bad_ok {z : Str} (h : z ∈ (["", "A", "a b", "toolongname"] : List Str)) : StrOk z := by
  have all : ∀ z ∈ (["", "A", "a b", "toolongname"] : List Str), (decide (z.length ≤ 1000) && PyData.strOk z) = true := by decide +kernel
  have := all z h
  obtain ⟨h1, h2⟩ := Bool.and_eq_true_iff.mp this
  exact ⟨of_decide_eq_true h1, h2⟩
theorem drop_map (xs : List Str) (k : Nat) (h : k ≤ xs.length) : cutV (xs.map V.str) (some (k : Int)) none = (xs.drop k).map V.str := by
  unfold cutV
  rw [HT.sIx_none, HT.sIx_nat, List.length_map, Nat.min_eq_left h, List.map_drop]
  exact List.take_of_length_le (by rw [List.length_drop, List.length_map]; omega)
theorem ok_spoiled (F : FnS K "_law_spoiled" "_law_spoiled" sSpoiled f fd) (B : Bl mg) (c__law_draw : Cal P w K mg base CX0 1 "_law_draw" ["_law_well", "_law_many"] spDraw)
    (c__law_pick : Cal P w K mg base CX0 2 "_law_pick" ["_law_well", "_law_some"] (spPick K)) : FnOk P w K mg base CX0 3 f fd ["_law_well", "_law_places", "_law_ties"] (spSpoiled K) := by
  refine okD F scSpoiled (fun vs H Q E h => ?_) (fun cdv A outer s H vs Q E hr h => ?_)
  · obtain ⟨a, p, d, xs, ties, rfl, _⟩ := h
    rfl
  · obtain ⟨a, p, d, xs, ties, rfl, hw, wi, lx, lt, q⟩ := h
    have hu := hu_of hr
    have hp := wi.hp
    have wa := wi.arg
    obtain ⟨kvs, hd, tr⟩ := wa.di
    refine ⟨_, (pss_cons (ps_set (i := 3) scSpoiled.nd rfl (.inl rfl) (pe_cal c__law_draw (hr.mono (by decide)) pass0 (pa_cons (pv 0) (pa_cons pe_int pa_nil))))
      (pss_cons (ps_if (pt_cmpR op_eq (pv 3) pe_int (nomark _))
      (pss_cons (ps_set (i := 4) scSpoiled.nd rfl (.inl rfl) (pe_cal c__law_draw (hr.mono (by decide)) pass0 (pa_cons (pv 0) (pa_cons (pe_op op_add (pe_callB call_len_seq (by rfl) B.len (by decide +kernel) (pa_cons (pv 1) pa_nil)) pe_int) pa_nil))))
      (pss_one (ps_ret (pe_tup (pa_cons (pe_op op_cat (pe_op op_cat (pe_slice sl_list (pv 1) po_none (po_some (pv 4))) (pe_lst (pa_cons (pe_cal c__law_pick (hr.mono (by decide)) pass0 (pa_cons (pv 0) (pa_cons (pe_op op_cat (pe_lst (pa_cons pe_str (pa_cons pe_str (pa_cons pe_str (pa_cons pe_str pa_nil))))) (pv 1)) pa_nil))) pa_nil))) (pe_slice sl_list (pv 1) (po_some (pv 4)) po_none)) (pa_cons (pv 2) pa_nil))))))
      pss_nil)
      (pss_cons (ps_if (pt_cmpR op_eq (pv 3) pe_int (nomark _))
      (pss_one (ps_ret (pe_tup (pa_cons (pe_lst pa_nil) (pa_cons (pv 2) pa_nil)))))
      pss_nil)
      (pss_cons (ps_set (i := 5) scSpoiled.nd rfl (.inl rfl) (pe_callTy call_dictD (by rfl) B.dict (by decide +kernel) (pa_cons (pv 2) pa_nil)))
      (pss_cons (ps_set (i := 6) scSpoiled.nd rfl (.inl rfl) (pe_ifExp (pt_cmpR (op_neD hr.units) (pv 1) (pe_lst pa_nil) (nomark _)) (pe_cal c__law_pick (hr.mono (by decide)) pass0 (pa_cons (pv 0) (pa_cons (pv 1) pa_nil))) pe_str))
      (pss_cons (ps_set (i := 7) scSpoiled.nd rfl (.inl rfl) (pe_lst (pa_cons (pe_tup (pa_cons (pv 6) pa_nil)) (pa_cons (pe_tup (pa_cons (pv 6) (pa_cons (pv 6) (pa_cons (pv 6) pa_nil)))) (pa_cons (pe_lst (pa_cons (pv 6) (pa_cons (pv 6) pa_nil))) (pa_cons (pv 6) (pa_cons pe_non (pa_cons pe_int (pa_cons (pe_tup (pa_cons (pv 6) (pa_cons pe_str pa_nil))) (pa_cons (pe_tup (pa_cons pe_str (pa_cons (pv 6) pa_nil))) (pa_cons (pe_tup (pa_cons (pv 6) (pa_cons pe_non pa_nil))) (pa_cons (pe_tup (pa_cons (pe_lst (pa_cons (pv 6) pa_nil)) (pa_cons (pv 6) pa_nil))) (pa_cons (pe_tup (pa_cons pe_int (pa_cons (pv 6) pa_nil))) (pa_cons pe_dnewK (pa_cons pe_bl pa_nil)))))))))))))))
      (pss_cons (ps_set (i := 8) scSpoiled.nd rfl (.inl rfl) (pe_ifExp (pt_cmpR op_eq (pv 3) pe_int (nomark _)) (pe_op op_cat (pe_callTy (call_listD rfl) (by rfl) B.list (by decide +kernel) (pa_cons (pv 2) pa_nil)) (pe_lst (pa_cons pe_str pa_nil))) (pe_lst (pa_cons pe_str (pa_cons pe_str (pa_cons pe_str (pa_cons pe_str pa_nil)))))))
      (pss_cons (ps_dput hu (pv 5) (pe_cal c__law_pick (hr.mono (by decide)) pass0 (pa_cons (pv 0) (pa_cons (pv 8) pa_nil))) (pe_ifExp (pt_cmpR op_eq (pv 3) pe_int (nomark _)) (pe_cal c__law_pick (hr.mono (by decide)) pass0 (pa_cons (pv 0) (pa_cons (pv 7) pa_nil))) (pe_tup (pa_cons (pv 6) (pa_cons (pv 6) pa_nil)))) rfl)
      (pss_one (ps_ret (pe_tup (pa_cons (pv 1) (pa_cons (pv 5) pa_nil))))))))))))), ?_⟩
    refine ⟨_, rfl, a, 4, rfl, hw, by decide, by decide, fun k k0 k1 => ?_⟩
    refine ⟨_, rfl, rfl, _, rfl, iteB (fun c0 => ?_) (fun c0 => ?_)⟩
    · refine ⟨_, rfl, _, rfl, p, _, rfl, .inl (sq_of hp), _, _, rfl, rfl, a, _, rfl, hw, by omega, by rw [List.length_map]; omega, fun m m0 m1 => ?_⟩
      rw [List.length_map] at m1
      obtain ⟨k, rfl⟩ := Int.eq_ofNat_of_zero_le m0
      have kx : k ≤ xs.length := by omega
      refine ⟨_, rfl, _, rfl, _, rfl, p, _, rfl, sq_of hp, fun s1 hs1 => ?_⟩
      have e1 : Ex H _ := Ex.new (o := .lst (cutV (xs.map V.str) none (some (k : Int)))) hs1
      have g1 : (upd H s1 (.lst (cutV (xs.map V.str) none (some (k : Int))))) s1 = _ := upd_same
      generalize upd H s1 (.lst (cutV (xs.map V.str) none (some (k : Int)))) = G1 at e1 g1
      refine ⟨_, rfl, by show 4 ≤ sizeLine; decide, fun s2 hs2 => ?_⟩
      have e2 : Ex G1 _ := Ex.new (o := .lst [.str "", .str "A", .str "a b", .str "toolongname"]) hs2
      have g2 : (upd G1 s2 (.lst [.str "", .str "A", .str "a b", .str "toolongname"])) s2 = _ := upd_same
      generalize upd G1 s2 (.lst [.str "", .str "A", .str "a b", .str "toolongname"]) = G2 at e2 g2
      have E2 := e1.trans e2
      refine ⟨_, rfl, s2, p, _, _, rfl, rfl, g2, E2 p _ hp, sz_of (by rw [List.length_map]; show 4 + xs.length ≤ _; omega), fun s3 hs3 => ?_⟩
      have e3 : Ex G2 _ := Ex.new (o := .lst ([.str "", .str "A", .str "a b", .str "toolongname"] ++ xs.map V.str)) hs3
      have g3 : (upd G2 s3 (.lst ([.str "", .str "A", .str "a b", .str "toolongname"] ++ xs.map V.str))) s3 = _ := upd_same
      generalize upd G2 s3 (.lst ([.str "", .str "A", .str "a b", .str "toolongname"] ++ xs.map V.str)) = G3 at e3 g3
      have E3 := E2.trans e3
      refine ⟨a, _, rfl, E3 a _ hw, .inl ⟨s3, _, rfl, sq_of g3, by simp, by rw [List.length_append, List.length_map]; show 4 + xs.length ≤ 1000; omega, fun v hv => ?_⟩⟩
      have hz : ∃ z, v = .str z ∧ StrOk z := by
        rcases List.mem_append.mp hv with h | h
        · obtain ⟨z, hz, rfl⟩ := List.mem_map.mp (show v ∈ (["", "A", "a b", "toolongname"] : List Str).map V.str from h)
          exact ⟨z, rfl, bad_ok hz⟩
        · obtain ⟨z, hz, rfl⟩ := List.mem_map.mp h
          exact ⟨z, rfl, wa.ok z hz⟩
      obtain ⟨z, rfl, zk⟩ := hz
      refine ⟨by show 1 ≤ sizeLine; decide, fun s4 hs4 => ?_⟩
      have e4 : Ex G3 _ := Ex.new (o := .lst [.str z]) hs4
      have g4 : (upd G3 s4 (.lst [.str z])) s4 = _ := upd_same
      generalize upd G3 s4 (.lst [.str z]) = G4 at e4 g4
      have E4 := E3.trans e4
      have c1 : cutV (xs.map V.str) none (some (k : Int)) = (xs.take k).map V.str := take_map xs k kx
      have c2 : cutV (xs.map V.str) (some (k : Int)) none = (xs.drop k).map V.str := drop_map xs k kx
      rw [c1] at g1
      refine ⟨s1, s4, _, _, rfl, rfl, ((e2.trans e3).trans e4) s1 _ g1, g4, sz_of (by rw [List.length_map, List.length_take]; show _ + 1 ≤ _; omega), fun s5 hs5 => ?_⟩
      have e5 : Ex G4 _ := Ex.new (o := .lst ((xs.take k).map V.str ++ [.str z])) hs5
      have g5 : (upd G4 s5 (.lst ((xs.take k).map V.str ++ [.str z]))) s5 = _ := upd_same
      generalize upd G4 s5 (.lst ((xs.take k).map V.str ++ [.str z])) = G5 at e5 g5
      have E5 := E4.trans e5
      refine ⟨_, rfl, _, rfl, _, rfl, p, _, rfl, sq_of (E5 p _ hp), fun s6 hs6 => ?_⟩
      rw [c2]
      have e6 : Ex G5 _ := Ex.new (o := .lst ((xs.drop k).map V.str)) hs6
      have g6 : (upd G5 s6 (.lst ((xs.drop k).map V.str))) s6 = _ := upd_same
      generalize upd G5 s6 (.lst ((xs.drop k).map V.str)) = G6 at e6 g6
      have E6 := E5.trans e6
      refine ⟨s5, s6, _, _, rfl, rfl, e6 s5 _ g5, g6, sz_of (by rw [List.length_append, List.length_map, List.length_map, List.length_take, List.length_drop]; show _ + 1 + _ ≤ _; omega), fun s7 hs7 => ?_⟩
      have cx : (xs.take k).map V.str ++ [.str z] ++ (xs.drop k).map V.str = (xs.take k ++ [z] ++ xs.drop k).map V.str := by rw [List.map_append, List.map_append]; rfl
      rw [cx]
      have e7 : Ex G6 _ := Ex.new (o := .lst ((xs.take k ++ [z] ++ xs.drop k).map V.str)) hs7
      have g7 : (upd G6 s7 (.lst ((xs.take k ++ [z] ++ xs.drop k).map V.str))) s7 = _ := upd_same
      generalize upd G6 s7 (.lst ((xs.take k ++ [z] ++ xs.drop k).map V.str)) = G7 at e7 g7
      have E7 := E6.trans e7
      refine ⟨_, rfl, by show 2 ≤ sizeLine; decide, fun t ht => ?_⟩
      have e8 := E7.trans (Ex.new (o := .tup [.ref s7, .ref d]) ht)
      have h8 := Ex.new (o := .tup [.ref s7, .ref d]) ht s7 _ g7
      have hl : (xs.take k ++ [z] ++ xs.drop k).length = xs.length + 1 := by
        rw [List.length_append, List.length_append, List.length_take, List.length_drop]
        show min k xs.length + 1 + _ = _
        omega
      refine q _ ties s7 d t _ e8 ⟨⟨sq_of h8, by omega, (fun x hx => ?_), tie_mono e8 wa.di, wa.nd, wa.len2, wa.ok2⟩, h8⟩ (by omega) (by omega) upd_same
      rcases List.mem_append.mp hx with h | h
      · rcases List.mem_append.mp h with h | h
        · exact wa.ok x (List.mem_of_mem_take h)
        · rw [List.mem_singleton.mp h]; exact zk
      · exact wa.ok x (List.mem_of_mem_drop h)
    · refine ⟨_, rfl, rfl, _, rfl, iteB (fun c1 => ?_) (fun c1 => ?_)⟩
      · refine ⟨Nat.zero_le _, fun p' hp' => ⟨_, rfl, by show 2 ≤ sizeLine; decide, fun t ht => ?_⟩⟩
        have e1 : Ex H (upd H p' (.lst [])) := Ex.new hp'
        have e2 := e1.trans (Ex.new (o := .tup [.ref p', .ref d]) ht)
        have h2 := Ex.new (o := .tup [.ref p', .ref d]) ht p' _ (upd_same (o := .lst []))
        refine q [] ties p' d t _ e2 ⟨⟨sq_of h2, Nat.zero_le _, (fun x hx => by cases hx), tie_mono e2 wa.di, wa.nd, wa.len2, wa.ok2⟩, h2⟩ (Nat.zero_le _) (by omega) upd_same
      · refine ⟨_, rfl, d, kvs, rfl, .inl hd, fun d' hd' => ?_⟩
        have pd : p ≠ d' := fun z => by rw [z, hd'] at hp; cases hp
        have ad : a ≠ d' := fun z => by rw [z, hd'] at hw; cases hw
        have f1 : Ex H _ := Ex.new (o := .dK kvs) hd'
        have h1 : (upd H d' (.dK kvs)) d' = _ := upd_same
        generalize upd H d' (.dK kvs) = G1 at f1 h1
        apply viaC (R := fun v G => (∃ z, v = V.str z ∧ StrOk z) ∧ Ex G1 G)
        · intro key
          refine ⟨_, rfl, Nat.zero_le _, fun c hc => ?_⟩
          have f2 : Ex G1 _ := Ex.new (o := .lst []) hc
          have h2 : (upd G1 c (.lst [])) c = _ := upd_same
          generalize upd G1 c (.lst []) = G2 at f2 h2
          have F2 := f1.trans f2
          refine ⟨_, _, .lst (sq_of (F2 p _ hp)) (dp_strs xs), .lst (sq_of h2) .nil, shaped_lst (fun x hx => (wa.ok x hx).2), shaped_lst (xs := []) (fun x hx => by cases hx), _, rfl, ?_⟩
          have e0 : PyData.eqv (.list (strsD xs)) (.list []) = decide (xs = []) := eqv_strs xs []
          rw [e0]
          refine iteB (fun c3 => ?_) (fun c3 => ?_)
          · have xne : xs ≠ [] := by simpa using c3
            refine ⟨_, rfl, _, rfl, a, _, rfl, F2 a _ hw, .inl ⟨p, _, rfl, sq_of (F2 p _ hp), fun z => xne (List.map_eq_nil_iff.mp z), by rw [List.length_map]; omega, fun v hv => ?_⟩⟩
            refine key v G2 ⟨?_, f2⟩
            obtain ⟨z, hz, rfl⟩ := List.mem_map.mp hv
            exact ⟨z, rfl, wa.ok z hz⟩
          · exact key _ G2 ⟨⟨"a", rfl, by decide +kernel⟩, f2⟩
        · intro v G2 hv
          obtain ⟨⟨z, rfl, zk⟩, f2⟩ := hv
          have F2 := f1.trans f2
          refine ⟨_, rfl, by show 1 ≤ sizeLine; decide, fun t1 ht1 => ?_⟩
          have f3 : Ex G2 _ := Ex.new (o := .tup [.str z]) ht1
          have kt1 : (upd G2 t1 (.tup [.str z])) t1 = _ := upd_same
          generalize upd G2 t1 (.tup [.str z]) = G3 at f3 kt1
          have F3 := F2.trans f3
          refine ⟨_, rfl, _, rfl, _, rfl, by show 3 ≤ sizeLine; decide, fun t2 ht2 => ?_⟩
          have f4 : Ex G3 _ := Ex.new (o := .tup [.str z, .str z, .str z]) ht2
          have kt2 : (upd G3 t2 (.tup [.str z, .str z, .str z])) t2 = _ := upd_same
          generalize upd G3 t2 (.tup [.str z, .str z, .str z]) = G4 at f4 kt2
          have F4 := F3.trans f4
          refine ⟨_, rfl, _, rfl, by show 2 ≤ sizeLine; decide, fun t3 ht3 => ?_⟩
          have f5 : Ex G4 _ := Ex.new (o := .lst [.str z, .str z]) ht3
          have kt3 : (upd G4 t3 (.lst [.str z, .str z])) t3 = _ := upd_same
          generalize upd G4 t3 (.lst [.str z, .str z]) = G5 at f5 kt3
          have F5 := F4.trans f5
          refine ⟨_, rfl, _, rfl, by show 2 ≤ sizeLine; decide, fun t7 ht7 => ?_⟩
          have f6 : Ex G5 _ := Ex.new (o := .tup [.str z, .str "nobody"]) ht7
          have kt7 : (upd G5 t7 (.tup [.str z, .str "nobody"])) t7 = _ := upd_same
          generalize upd G5 t7 (.tup [.str z, .str "nobody"]) = G6 at f6 kt7
          have F6 := F5.trans f6
          refine ⟨_, rfl, by show 2 ≤ sizeLine; decide, fun t8 ht8 => ?_⟩
          have f7 : Ex G6 _ := Ex.new (o := .tup [.str "", .str z]) ht8
          have kt8 : (upd G6 t8 (.tup [.str "", .str z])) t8 = _ := upd_same
          generalize upd G6 t8 (.tup [.str "", .str z]) = G7 at f7 kt8
          have F7 := F6.trans f7
          refine ⟨_, rfl, by show 2 ≤ sizeLine; decide, fun t9 ht9 => ?_⟩
          have f8 : Ex G7 _ := Ex.new (o := .tup [.str z, .non]) ht9
          have kt9 : (upd G7 t9 (.tup [.str z, .non])) t9 = _ := upd_same
          generalize upd G7 t9 (.tup [.str z, .non]) = G8 at f8 kt9
          have F8 := F7.trans f8
          refine ⟨_, rfl, by show 1 ≤ sizeLine; decide, fun l10 hl10 => ?_⟩
          have f9 : Ex G8 _ := Ex.new (o := .lst [.str z]) hl10
          have kl10 : (upd G8 l10 (.lst [.str z])) l10 = _ := upd_same
          generalize upd G8 l10 (.lst [.str z]) = G9 at f9 kl10
          have F9 := F8.trans f9
          refine ⟨_, rfl, by show 2 ≤ sizeLine; decide, fun t10 ht10 => ?_⟩
          have f10 : Ex G9 _ := Ex.new (o := .tup [.ref l10, .str z]) ht10
          have kt10 : (upd G9 t10 (.tup [.ref l10, .str z])) t10 = _ := upd_same
          generalize upd G9 t10 (.tup [.ref l10, .str z]) = G10 at f10 kt10
          have F10 := F9.trans f10
          refine ⟨_, rfl, by show 2 ≤ sizeLine; decide, fun t11 ht11 => ?_⟩
          have f11 : Ex G10 _ := Ex.new (o := .tup [.int 5, .str z]) ht11
          have kt11 : (upd G10 t11 (.tup [.int 5, .str z])) t11 = _ := upd_same
          generalize upd G10 t11 (.tup [.int 5, .str z]) = G11 at f11 kt11
          have F11 := F10.trans f11
          refine fun d12 hd12 => ?_
          have f12 : Ex G11 _ := Ex.new (o := .dK []) hd12
          have kd12 : (upd G11 d12 (.dK [])) d12 = _ := upd_same
          generalize upd G11 d12 (.dK []) = G12 at f12 kd12
          have F12 := F11.trans f12
          refine ⟨by show 13 ≤ sizeLine; decide, fun L hL => ?_⟩
          have f13 : Ex G12 _ := Ex.new (o := .lst [.ref t1, .ref t2, .ref t3, .str z, .non, .int 5, .ref t7, .ref t8, .ref t9, .ref t10, .ref t11, .ref d12, .bl true]) hL
          have kL : (upd G12 L (.lst [.ref t1, .ref t2, .ref t3, .str z, .non, .int 5, .ref t7, .ref t8, .ref t9, .ref t10, .ref t11, .ref d12, .bl true])) L = _ := upd_same
          generalize upd G12 L (.lst [.ref t1, .ref t2, .ref t3, .str z, .non, .int 5, .ref t7, .ref t8, .ref t9, .ref t10, .ref t11, .ref d12, .bl true]) = G13 at f13 kL
          have F13 := F12.trans f13
          have zz : EntR K G13 (.str z) (some z) := ⟨rfl, zk⟩
          have all : ∀ v ∈ [V.ref t1, .ref t2, .ref t3, .str z, .non, .int 5, .ref t7, .ref t8, .ref t9, .ref t10, .ref t11, .ref d12, .bl true], ∃ t, TVR K G13 v t := by
            intro v hv
            simp only [List.mem_cons, List.not_mem_nil, or_false] at hv
            rcases hv with rfl | rfl | rfl | rfl | rfl | rfl | rfl | rfl | rfl | rfl | rfl | rfl | rfl
            · exact ⟨.tup [some z], t1, _, rfl, ((((((((((f4.trans f5).trans f6).trans f7).trans f8).trans f9).trans f10).trans f11).trans f12).trans f13) t1 _ kt1), (.cons zz .nil), by show 1 ≤ 1000; decide⟩
            · exact ⟨.tup [some z, some z, some z], t2, _, rfl, (((((((((f5.trans f6).trans f7).trans f8).trans f9).trans f10).trans f11).trans f12).trans f13) t2 _ kt2), (.cons zz (.cons zz (.cons zz .nil))), by show 3 ≤ 1000; decide⟩
            · exact ⟨.oth, _, .base (.lst ((((((((f6.trans f7).trans f8).trans f9).trans f10).trans f11).trans f12).trans f13) t3 _ kt3)), by decide +kernel⟩
            · exact ⟨.oth, _, .base (.str z), by decide +kernel⟩
            · exact ⟨.oth, _, .base .non, by decide +kernel⟩
            · exact ⟨.oth, _, .base (.int 5), by decide +kernel⟩
            · exact ⟨.tup [some z, some "nobody"], t7, _, rfl, (((((((f7.trans f8).trans f9).trans f10).trans f11).trans f12).trans f13) t7 _ kt7), (.cons zz (.cons /-nobody-/⟨rfl, by decide +kernel⟩ .nil)), by show 2 ≤ 1000; decide⟩
            · exact ⟨.tup [some "", some z], t8, _, rfl, ((((((f8.trans f9).trans f10).trans f11).trans f12).trans f13) t8 _ kt8), (.cons /-empty-/⟨rfl, by decide +kernel⟩ (.cons zz .nil)), by show 2 ≤ 1000; decide⟩
            · exact ⟨.tup [some z, none], t9, _, rfl, (((((f9.trans f10).trans f11).trans f12).trans f13) t9 _ kt9), (.cons zz (.cons ⟨(fun _ h => by cases h), _, .base .non, by decide +kernel⟩ .nil)), by show 2 ≤ 1000; decide⟩
            · exact ⟨.tup [none, some z], t10, _, rfl, (((f11.trans f12).trans f13) t10 _ kt10), (.cons ⟨(fun _ h => by cases h), _, .base (.lst ((((f10.trans f11).trans f12).trans f13) l10 _ kl10)), by decide +kernel⟩ (.cons zz .nil)), by show 2 ≤ 1000; decide⟩
            · exact ⟨.tup [none, some z], t11, _, rfl, ((f12.trans f13) t11 _ kt11), (.cons ⟨(fun _ h => by cases h), _, .base (.int 5), by decide +kernel⟩ (.cons zz .nil)), by show 2 ≤ 1000; decide⟩
            · exact ⟨.oth, _, .base (.dK (f13 d12 _ kd12)), by decide +kernel⟩
            · exact ⟨.oth, _, .base (.bl true), by decide +kernel⟩
          have g1 : Ex G1 G13 := (((((((((((f2.trans f3).trans f4).trans f5).trans f6).trans f7).trans f8).trans f9).trans f10).trans f11).trans f12).trans f13)
          have hd1 := g1 d' _ h1
          apply viaC (R := fun v G => (∃ l ks, v = V.ref l ∧ G l = some (.lst (ks.map V.str)) ∧ ks ≠ [] ∧ ks.length ≤ 100 ∧ ∀ x ∈ ks, StrOk x) ∧ Ex G13 G)
          · intro key
            refine ⟨_, rfl, rfl, _, rfl, iteB (fun c5 => ?_) (fun c5 => ?_)⟩
            · refine ⟨_, rfl, d, kvs, rfl, .inl (F13 d _ hd), fun l1 hl1 => ?_⟩
              rw [keys_map (tieR_keys tr)]
              have j1 : Ex G13 _ := Ex.new (o := .lst ((keysT ties).map V.str)) hl1
              have m1 : (upd G13 l1 (.lst ((keysT ties).map V.str))) l1 = _ := upd_same
              generalize upd G13 l1 (.lst ((keysT ties).map V.str)) = J1 at j1 m1
              refine ⟨by show 1 ≤ sizeLine; decide, fun l2 hl2 => ?_⟩
              have j2 : Ex J1 _ := Ex.new (o := .lst [.str "zzzzzzzz"]) hl2
              have m2 : (upd J1 l2 (.lst [.str "zzzzzzzz"])) l2 = _ := upd_same
              generalize upd J1 l2 (.lst [.str "zzzzzzzz"]) = J2 at j2 m2
              refine ⟨l1, l2, _, _, rfl, rfl, j2 l1 _ m1, m2, sz_of (by rw [List.length_map, keysT_len]; show _ + 1 ≤ _; omega), fun l3 hl3 => ?_⟩
              have cx : (keysT ties).map V.str ++ [.str "zzzzzzzz"] = (keysT ties ++ [("zzzzzzzz" : Str)]).map V.str := by rw [List.map_append]; rfl
              rw [cx]
              have j3 : Ex J2 _ := Ex.new (o := .lst ((keysT ties ++ [("zzzzzzzz" : Str)]).map V.str)) hl3
              have m3 : (upd J2 l3 (.lst ((keysT ties ++ [("zzzzzzzz" : Str)]).map V.str))) l3 = _ := upd_same
              generalize upd J2 l3 (.lst ((keysT ties ++ [("zzzzzzzz" : Str)]).map V.str)) = J3 at j3 m3
              generalize hv : V.ref l3 = v
              refine key v J3 ⟨⟨l3, _, hv.symm, m3, by simp, by rw [List.length_append, keysT_len]; show _ + 1 ≤ _; omega, fun x hx => ?_⟩, (j1.trans j2).trans j3⟩
              rcases List.mem_append.mp hx with h | h
              · exact wa.ok2 x h
              · rw [List.mem_singleton.mp h]; exact by decide +kernel
            · refine ⟨by show 4 ≤ sizeLine; decide, fun l1 hl1 => ?_⟩
              exact key _ _ ⟨⟨l1, ["", "A", "toolongname", "a b"], rfl, upd_same, by simp, by show 4 ≤ 100; decide, fun x hx => bad_ok (by simp at hx ⊢; rcases hx with h | h | h | h <;> simp [h])⟩, Ex.new hl1⟩
          · intro v J hv
            obtain ⟨⟨l, ks, rfl, hl, kne, kle, kok⟩, j⟩ := hv
            apply viaC (R := fun v G => (∃ t, TVR K G v t) ∧ Ex J G)
            · intro key
              refine ⟨_, rfl, rfl, _, rfl, iteB (fun c6 => ?_) (fun c6 => ?_)⟩
              · refine ⟨_, rfl, _, rfl, a, _, rfl, j a _ (F13 a _ hw), .inl ⟨L, _, rfl, sq_of (j L _ kL), by simp, by show 13 ≤ 1000; decide, fun v hv => ?_⟩⟩
                obtain ⟨t, ht⟩ := all v hv
                generalize hJ : J = J'
                exact key v J' (by rw [← hJ]; exact ⟨⟨t, tvr_mono j ht⟩, Ex.refl J⟩)
              · refine ⟨_, rfl, _, rfl, by show 2 ≤ sizeLine; decide, fun t ht => ?_⟩
                exact key _ _ ⟨⟨.tup [some z, some z], t, _, rfl, upd_same, .cons ⟨rfl, zk⟩ (.cons ⟨rfl, zk⟩ .nil), by show 2 ≤ 1000; decide⟩, Ex.new ht⟩
            · intro v J2 hv
              obtain ⟨⟨tv, htv⟩, j2⟩ := hv
              have K2 := (F13.trans j).trans j2
              refine ⟨_, rfl, _, rfl, _, rfl, a, _, rfl, K2 a _ hw, .inl ⟨l, _, rfl, sq_of (j2 l _ hl), fun z => kne (List.map_eq_nil_iff.mp z), by rw [List.length_map]; omega, fun y hy => ?_⟩⟩
              obtain ⟨nm, hnm, rfl⟩ := List.mem_map.mp hy
              have hd2 := (j.trans j2) d' _ hd1
              refine ⟨d', _, rfl, DPut.k (k := Sum.inr nm) hd2 (by rw [tieR_len tr]; exact sz_lt (by omega)), ?_⟩
              refine ⟨_, rfl, _, rfl, by show 2 ≤ sizeLine; decide, fun t ht => ?_⟩
              have E9 : Ex H (upd J2 d' (.dK (putK kvs (Sum.inr nm) v))) := Ex.mut K2 hd'
              have T9 : TieR K (upd J2 d' (.dK (putK kvs (Sum.inr nm) v))) (putK kvs (Sum.inr nm) v) (putT ties nm tv) := tieR_put (tieR_upd hd2 (tieR_mono K2 tr)) (tvr_upd hd2 htv)
              have H9 : (upd J2 d' (.dK (putK kvs (Sum.inr nm) v))) d' = _ := upd_same
              generalize upd J2 d' (.dK (putK kvs (Sum.inr nm) v)) = J9 at E9 T9 H9 ht
              have n9 := Ex.new (o := .tup [.ref p, .ref d']) ht
              have M9 := E9.trans n9
              refine q xs (putT ties nm tv) p d' t _ M9 ⟨⟨sq_of (M9 p _ hp), wa.len, wa.ok, ⟨_, n9 d' _ H9, tieR_mono n9 T9⟩, putT_nodup wa.nd, by have := putT_len ties nm tv; omega, fun x hx => ?_⟩, M9 p _ hp⟩ (by omega) (putT_len ties nm tv) upd_same
              rcases putT_mem hx with h | h
              · exact wa.ok2 x h
              · rw [h]; exact kok nm hnm
end
end L08
namespace L08
open PySem PySem.Spec PyProof.Rows L2 Evl Bf
section
variable {P : Program} {w : World} {K : PySem.W.Frag} {mg : Str → Option Value} {base : Heap} {f fi fe : Addr} {fd fdi fde : FuncData}
def spRef (K : PySem.W.Frag) : Sp := fun vs H Q _ => ∃ (x : Addr) (n : Str) (kn : List Str) (en : List (Str × Str × Str)), vs = [.ref x, .str n] ∧ WebAt K H x kn en ∧ lookE en n = none ∧ ∀ G, Ex H G → Q (.bl true) G
def tbEndsRef (K : PySem.W.Frag) (W : WX) : TS := tDrop (tMtS (He.ga K "Web") "ends" (spEnds K) (WE W) (tVar 0) (tCons (tVar 1) tNil))
theorem ok_refused (F : FnS K "_law_ends_refused" "_law_ends_refused" sEndsRef f fd) (B : Bl mg) (T : WebT K mg) (m_ends : Meth K (He.ga K "Web") "ends" fe) (f_ends : FnOk P w K mg base (L2.CX P w) 3 fe fde ["self", "tie"] (spEnds K)) (b_ends : Binds K fde ["self", "tie"] [])
    (x_NoThing : ExT P w K mg base "NoThing" "thing" (He.ga K "NoThing")) (nn : Exm K "NoThing" "NoThing" true) :
    FnOk P w K mg base CX0 4 f fd ["_law_web", "_law_word"] (spRef K) := by
  refine okD F scEndsRef (fun vs H Q E h => ?_) (fun cdv A outer s H vs Q E hr h => ?_)
  · obtain ⟨x, n, kn, en, rfl, _⟩ := h
    rfl
  · obtain ⟨x, n, kn, en, rfl, wt, hn, q⟩ := h
    refine ⟨_, (pss_cons (ps_try_nam (tb := tbEndsRef K) rfl rfl scEndsRef.nd takes0 (fun W pn xe tk _ => (pss_one (ps_expr (pe_mtS (pv 0) T.cl m_ends f_ends (hr.mono (by decide)) b_ends (fun σ => passAt tk σ) (pa_cons (pv 1) pa_nil)))))
      (.cons ⟨rfl, by decide, .inl x_NoThing.g⟩ (i := 2) rfl rfl (fun a oe cl d pn hz hf => (pss_one (ps_ret (pe_cmpR op_eq (pe_xf x_NoThing.xf x_NoThing.no hz hf (pv 2)) (pv 1) (nomark _)))))
      .nil))
      (pss_one (ps_ret pe_bl))), ?_⟩
    obtain ⟨dx, k, e, kvs, h1, h2, h3, h4⟩ := id wt
    refine ⟨_, rfl, x, _, _, rfl, h1, rfl, _, rfl, x, n, kn, en, rfl, wt, fun _ => ?_, fun a b t z => by rw [hn] at z; cases z⟩
    refine fun d G e hd hg => ⟨true, nn, fun _ a na => ?_, fun z => nope rfl z⟩
    refine ⟨_, rfl, rfl, rfl, d, _, _, rfl, hg, rfl, _, rfl, rfl, ?_⟩
    have e1 : decide (V.str n = V.str n) = true := decide_eq_true rfl
    rw [e1]
    exact q G e
end
end L08
namespace L08
open PySem PySem.Spec PyProof.Rows L2 Evl Bf
abbrev Raw := List (Str × Str × Str)
def tvOf (q : Str × Str) : TVal := .tup [some q.1, some q.2]
def tiesOf (raw : Raw) : List (Str × TVal) := raw.map fun q => (q.1, tvOf q.2)
def keysR (raw : Raw) : List Str := raw.map (·.1)
def sq (q : Str × Str × Str) : Str × Str × Str := (q.1, pairS (tvOf q.2))
def ends (raw : Raw) : Raw := endsOf (tiesOf raw)
structure RawOk (xs : List Str) (raw : Raw) : Prop where
  l1 : 1 ≤ xs.length
  l16 : xs.length ≤ 16
  nd : xs.Nodup
  nm : ∀ x ∈ xs, isNm x = true
  kd : (keysR raw).Nodup
  l24 : raw.length ≤ 24
  en : ∀ q ∈ raw, isNm q.1 = true ∧ q.2.1 ∈ xs ∧ q.2.2 ∈ xs
theorem keysT_of (raw : Raw) : keysT (tiesOf raw) = keysR raw := by
  unfold keysT tiesOf keysR
  rw [List.map_map]
  rfl
theorem look_self {raw : Raw} (nd : (keysR raw).Nodup) {q : Str × Str × Str} (h : q ∈ raw) : lookT (tiesOf raw) q.1 = tvOf q.2 := by
  unfold lookT tiesOf
  rw [List.find?_map]
  have e : ((fun e : Str × TVal => decide (e.1 = q.1)) ∘ fun q : Str × Str × Str => (q.1, tvOf q.2)) = fun e => decide (e.1 = q.1) := rfl
  rw [e, find_self nd h]
  rfl
theorem getD_in {l : List Str} {i : Nat} (h : i < l.length) : l.getD i "" ∈ l := getD_mem h
theorem due_of {xs : List Str} {raw : Raw} (o : RawOk xs raw) : dueOf xs (tiesOf raw) = .ok := by
  unfold dueOf
  have h1 : plErr xs = none := by
    unfold plErr
    rw [if_pos ⟨o.l1, o.l16⟩, first_none]
    · rfl
    · intro j hj
      unfold badPl
      rw [o.nm _ (getD_in hj)]
      refine decide_eq_false (not_in_take o.nd ?_)
      simp [List.getD, hj]
  rw [h1]
  have h2 : firstOf (badTie xs (tiesOf raw)) (tiesOf raw).length = none := by
    refine first_none fun j hj => ?_
    have hm : (srt (keysT (tiesOf raw))).getD j "" ∈ keysT (tiesOf raw) := srt_getD (by rw [keysT_len]; exact hj)
    unfold badTie
    rw [keysT_of] at hm ⊢
    obtain ⟨q, hq, e⟩ := List.mem_map.mp hm
    rw [← e, look_self o.kd hq]
    obtain ⟨a, b, c⟩ := o.en q hq
    show (!isNm q.1 || !(decide (q.2.1 ∈ xs) && decide (q.2.2 ∈ xs))) = false
    rw [a, decide_eq_true b, decide_eq_true c]
    rfl
  rw [h2]
  show (if 24 < (tiesOf raw).length then Bf.Due.many else .ok) = .ok
  rw [if_neg]
  have := o.l24
  unfold tiesOf
  rw [List.length_map]
  omega
theorem first_no {b : Nat → Bool} {n : Nat} (h : firstOf b n = none) : ∀ j, j < n → b j = false := by
  intro j hj
  unfold firstOf at h
  rw [List.find?_eq_none] at h
  simpa using h j (List.mem_range.mpr hj)
/-- what is due is nothing: then the ties are pairs of places -/
theorem raw_of {xs : List Str} {ties : List (Str × TVal)} (h : dueOf xs ties = .ok) (nx : NamesOk xs) (nk : NamesOk (keysT ties)) : ∃ raw, ties = tiesOf raw ∧ RawOk xs raw := by
  unfold dueOf at h
  cases hp : plErr xs with
  | some i => rw [hp] at h; cases h
  | none =>
    rw [hp] at h
    have hl : 1 ≤ xs.length ∧ xs.length ≤ 16 := by
      unfold plErr at hp
      by_cases c : 1 ≤ xs.length ∧ xs.length ≤ 16
      · exact c
      · rw [if_neg c] at hp; cases hp
    cases hf : firstOf (badTie xs ties) ties.length with
    | some i => simp only [hf] at h; cases h
    | none =>
      simp only [hf] at h
      have h24 : ties.length ≤ 24 := by
        by_cases c : 24 < ties.length
        · rw [if_pos c] at h; cases h
        · omega
      have ok : ∀ n ∈ keysT ties, pairOk xs (lookT ties n) = true := by
        intro n hn
        obtain ⟨i, hi, ei⟩ := List.mem_iff_getElem.mp (srt_mem.mpr hn)
        have hi2 : i < ties.length := by rw [srt_len, keysT_len] at hi; exact hi
        have b := first_no hf i hi2
        unfold badTie at b
        have e : (srt (keysT ties)).getD i "" = n := by simp [List.getD, hi, ei]
        rw [e] at b
        simpa using (Bool.or_eq_false_iff.mp b).2
      have each : ∀ l : List (Str × TVal), (∀ q ∈ l, pairOk xs q.2 = true) → ∃ raw, l = tiesOf raw ∧ ∀ q ∈ raw, q.2.1 ∈ xs ∧ q.2.2 ∈ xs := by
        intro l
        induction l with
        | nil => exact fun _ => ⟨[], rfl, fun q hq => by cases hq⟩
        | cons q r ih =>
          intro hq
          obtain ⟨raw, e, hr⟩ := ih fun p hp => hq p (List.mem_cons_of_mem _ hp)
          obtain ⟨a, b, et, ha, hb⟩ := pairOk_shape (hq q List.mem_cons_self)
          refine ⟨(q.1, a, b) :: raw, ?_, ?_⟩
          · show q :: r = (q.1, TVal.tup [some a, some b]) :: tiesOf raw
            rw [← et, ← e]
          · intro p hp
            rcases List.mem_cons.mp hp with rfl | hp
            · exact ⟨ha, hb⟩
            · exact hr p hp
      have lk : ∀ q ∈ ties, lookT ties q.1 = q.2 := by
        intro q hq
        have nd := nk.1
        clear ok hf h24 h nk
        unfold lookT
        unfold keysT at nd
        induction ties with
        | nil => cases hq
        | cons p r ih =>
          obtain ⟨n1, n2⟩ := List.nodup_cons.mp (show (p.1 :: r.map (·.1)).Nodup from nd)
          rw [List.find?_cons]
          rcases List.mem_cons.mp hq with rfl | hq
          · rw [decide_eq_true rfl]; rfl
          · have c : ¬ p.1 = q.1 := fun z => n1 (by rw [z]; exact List.mem_map.mpr ⟨q, hq, rfl⟩)
            rw [decide_eq_false c]
            exact ih hq n2
      obtain ⟨raw, e, hr⟩ := each ties fun q hq => by rw [← lk q hq]; exact ok q.1 (List.mem_map.mpr ⟨q, hq, rfl⟩)
      subst e
      rw [keysT_of] at nk
      refine ⟨raw, rfl, hl.1, hl.2, nx.1, fun x hx => (nx.2 x hx).1, nk.1, ?_, fun q hq => ⟨(nk.2 q.1 (List.mem_map.mpr ⟨q, hq, rfl⟩)).1, hr q hq⟩⟩
      unfold tiesOf at h24
      rw [List.length_map] at h24
      exact h24
theorem sq_keys (raw : Raw) : keysR (raw.map sq) = keysR raw := by
  unfold keysR
  rw [List.map_map]
  rfl
theorem ends_perm {raw : Raw} (nd : (keysR raw).Nodup) : (ends raw).Perm (raw.map sq) := by
  unfold ends endsOf
  refine ((srt_perm _).map _).trans ?_
  rw [keysT_of]
  have e : (keysR raw).map (fun n => (n, pairS (lookT (tiesOf raw) n))) = raw.map sq := by
    unfold keysR
    rw [List.map_map]
    refine List.map_congr_left fun q hq => ?_
    show (q.1, pairS (lookT (tiesOf raw) q.1)) = sq q
    rw [look_self nd hq]
    rfl
  rw [e]
theorem ends_keys (raw : Raw) : keysR (ends raw) = srt (keysR raw) := by
  have := endsOf_keys (tiesOf raw)
  rw [keysT_of] at this
  exact this
theorem ends_nd {raw : Raw} (nd : (keysR raw).Nodup) : (keysR (ends raw)).Nodup := by
  rw [ends_keys]
  exact nodup_perm (srt_perm _) nd
theorem ends_len {raw : Raw} (nd : (keysR raw).Nodup) : (ends raw).length = raw.length := by
  have := (ends_perm nd).length_eq
  rwa [List.length_map] at this
theorem ends_eq {raw raw' : Raw} (nd : (keysR raw).Nodup) (nd' : (keysR raw').Nodup) (p : (raw.map sq).Perm (raw'.map sq)) : ends raw = ends raw' := by
  have pk : (keysR raw).Perm (keysR raw') := by
    have := p.map (·.1)
    rw [← sq_keys raw, ← sq_keys raw']
    exact this
  unfold ends endsOf
  rw [keysT_of, keysT_of, srt_congr pk]
  refine List.map_congr_left fun n hn => ?_
  have hn' : n ∈ keysR raw' := srt_mem.mp hn
  have hn2 : n ∈ keysR raw := pk.mem_iff.mpr hn'
  obtain ⟨q, hq, e⟩ := List.mem_map.mp hn2
  have hs : sq q ∈ raw'.map sq := p.mem_iff.mp (List.mem_map.mpr ⟨q, hq, rfl⟩)
  obtain ⟨q', hq', e'⟩ := List.mem_map.mp hs
  have e1 : q'.1 = q.1 := congrArg (·.1) e'
  have e2 : pairS (tvOf q'.2) = pairS (tvOf q.2) := congrArg (·.2) e'
  have l1 := look_self nd hq
  have l2 := look_self nd' hq'
  rw [← e, l1, ← e1, l2, e2]
theorem lookE_in {raw : Raw} (nd : (keysR raw).Nodup) {q : Str × Str × Str} (h : q ∈ raw) : lookE raw q.1 = some q.2 := by
  unfold lookE
  rw [find_self nd h]
  rfl
theorem lookE_no {raw : Raw} {n : Str} (h : n ∉ keysR raw) : lookE raw n = none := by
  unfold lookE
  rw [List.find?_eq_none.mpr]
  · rfl
  · intro q hq z
    exact h (List.mem_map.mpr ⟨q, hq, of_decide_eq_true z⟩)
theorem ends_look {raw : Raw} (nd : (keysR raw).Nodup) {q : Str × Str × Str} (h : q ∈ raw) : lookE (ends raw) q.1 = some (pairS (tvOf q.2)) :=
  lookE_in (q := sq q) (ends_nd nd) ((ends_perm nd).mem_iff.mpr (List.mem_map.mpr ⟨q, h, rfl⟩))
theorem ends_none {raw : Raw} {n : Str} (h : n ∉ keysR raw) : lookE (ends raw) n = none := lookE_no (by rw [ends_keys]; exact fun z => h (srt_mem.mp z))
theorem dictEq_perm {a b : Raw} (nd : (keysR b).Nodup) (p : a.Perm b) : dictEq (enD a) (enD b) = true := by
  unfold dictEq
  rw [hits_self nd a fun q hq => p.mem_iff.mp hq, List.length_map, List.length_map, p.length_eq]
  simp
theorem pair_rev (a b : Str) : pairS (tvOf (b, a)) = pairS (tvOf (a, b)) := by
  have h := srt_congr (List.Perm.swap a b [])
  rw [srt_pair, srt_pair] at h
  have h1 := (List.cons.inj h).1
  have h2 := (List.cons.inj (List.cons.inj h).2).1
  exact Prod.ext h1 h2
theorem pairS_mem {P : Str → Prop} {a b : Str} (ha : P a) (hb : P b) : P (pairS (tvOf (a, b))).1 ∧ P (pairS (tvOf (a, b))).2 := by
  show P (if leS a b = true then (a, b) else (b, a)).1 ∧ P (if leS a b = true then (a, b) else (b, a)).2
  by_cases h : leS a b = true
  · rw [if_pos h]; exact ⟨ha, hb⟩
  · rw [if_neg h]; exact ⟨hb, ha⟩
theorem ok_sq {xs : List Str} {raw : Raw} (o : RawOk xs raw) : ∀ q ∈ raw.map sq, PyData.strOk q.2.1 = true ∧ PyData.strOk q.2.2 = true := by
  intro q hq
  obtain ⟨p, hp, rfl⟩ := List.mem_map.mp hq
  obtain ⟨_, h1, h2⟩ := o.en p hp
  exact pairS_mem (P := fun z => PyData.strOk z = true) (Bf.nm_ok (o.nm _ h1)).2 (Bf.nm_ok (o.nm _ h2)).2
theorem ok_endsR {xs : List Str} {raw : Raw} (o : RawOk xs raw) : ∀ q ∈ ends raw, PyData.strOk q.2.1 = true ∧ PyData.strOk q.2.2 = true := fun q hq => ok_sq o q ((ends_perm o.kd).mem_iff.mp hq)
theorem ok_raw {xs : List Str} {raw : Raw} (o : RawOk xs raw) : ∀ q ∈ raw, PyData.strOk q.2.1 = true ∧ PyData.strOk q.2.2 = true := fun q hq =>
  ⟨(Bf.nm_ok (o.nm _ (o.en q hq).2.1)).2, (Bf.nm_ok (o.nm _ (o.en q hq).2.2)).2⟩
theorem webOk_of {xs : List Str} {raw : Raw} (o : RawOk xs raw) : WebOk (srt xs) (ends raw) := ⟨fun x hx => (Bf.nm_ok (o.nm x (srt_mem.mp hx))).2, ok_endsR o⟩
/-- ties turned about, in another order -/
def turned (raw : Raw) (ns : List Str) : Raw := ns.map fun n => (n, ((lookE raw n).getD ("", "")).2, ((lookE raw n).getD ("", "")).1)
theorem turned_keys (raw : Raw) (ns : List Str) : keysR (turned raw ns) = ns := by
  unfold keysR turned
  rw [List.map_map]
  exact List.map_id _
theorem turned_perm {raw : Raw} {ns : List Str} (nd : (keysR raw).Nodup) (p : ns.Perm (keysR raw)) : ((turned raw ns).map sq).Perm (raw.map sq) := by
  unfold turned
  rw [List.map_map]
  refine (p.map _).trans ?_
  unfold keysR
  rw [List.map_map]
  have e : raw.map (((sq ∘ fun n => (n, ((lookE raw n).getD ("", "")).2, ((lookE raw n).getD ("", "")).1)) ∘ (·.1))) = raw.map sq := by
    refine List.map_congr_left fun q hq => ?_
    show (q.1, pairS (tvOf (((lookE raw q.1).getD ("", "")).2, ((lookE raw q.1).getD ("", "")).1))) = sq q
    rw [lookE_in nd hq]
    show (q.1, pairS (tvOf (q.2.2, q.2.1))) = sq q
    rw [pair_rev]
    rfl
  rw [e]
theorem turned_ok {xs ys : List Str} {raw : Raw} {ns : List Str} (o : RawOk xs raw) (px : ys.Perm xs) (p : ns.Perm (keysR raw)) : RawOk ys (turned raw ns) := by
  refine ⟨by rw [px.length_eq]; exact o.l1, by rw [px.length_eq]; exact o.l16, nodup_perm px o.nd, fun x hx => o.nm x (px.mem_iff.mp hx), by rw [turned_keys]; exact nodup_perm p o.kd, ?_, fun q hq => ?_⟩
  · unfold turned
    rw [List.length_map, p.length_eq]
    unfold keysR
    rw [List.length_map]
    exact o.l24
  · obtain ⟨n, hn, rfl⟩ := List.mem_map.mp hq
    obtain ⟨q, hq2, rfl⟩ := List.mem_map.mp (p.mem_iff.mp hn)
    obtain ⟨h1, h2, h3⟩ := o.en q hq2
    rw [lookE_in o.kd hq2]
    exact ⟨h1, px.mem_iff.mpr h3, px.mem_iff.mpr h2⟩
theorem fewer_ok {xs : List Str} {raw : Raw} (n : Str) (o : RawOk xs raw) : RawOk xs (raw.filter fun q => decide (q.1 ≠ n)) := by
  refine ⟨o.l1, o.l16, o.nd, o.nm, ?_, Nat.le_trans (List.length_filter_le _ _) o.l24, fun q hq => o.en q (List.mem_filter.mp hq).1⟩
  exact List.Nodup.sublist ((List.filter_sublist).map _) o.kd
theorem fewer_len {raw : Raw} {n : Str} (h : n ∈ keysR raw) : (raw.filter fun q => decide (q.1 ≠ n)).length < raw.length := by
  obtain ⟨q, hq, e⟩ := List.mem_map.mp h
  refine Nat.lt_of_le_of_ne (List.length_filter_le _ _) fun z => ?_
  have := List.length_filter_eq_length_iff.mp z q hq
  have h2 := of_decide_eq_true this
  exact h2 e
theorem more_ok {xs : List Str} {raw : Raw} {z : Str} (o : RawOk xs raw) (l : xs.length < 16) (hz : z ∉ xs) (nz : isNm z = true) : RawOk (xs ++ [z]) raw := by
  refine ⟨by rw [List.length_append]; have := o.l1; omega, by rw [List.length_append]; show _ + 1 ≤ 16; omega, ?_, fun x hx => ?_, o.kd, o.l24, fun q hq => ?_⟩
  · exact List.nodup_append.mpr ⟨o.nd, by simp, fun x hx y hy => by rw [List.mem_singleton.mp hy]; exact fun e => hz (e ▸ hx)⟩
  · rcases List.mem_append.mp hx with h | h
    · exact o.nm x h
    · rw [List.mem_singleton.mp h]; exact nz
  · obtain ⟨h1, h2, h3⟩ := o.en q hq
    exact ⟨h1, List.mem_append_left _ h2, List.mem_append_left _ h3⟩
theorem moved_ok {xs : List Str} {raw : Raw} {n z : Str} (o : RawOk xs raw) (hn : n ∈ keysR raw) (hz : z ∈ xs) : RawOk xs ((raw.filter fun q => decide (q.1 ≠ n)) ++ [(n, z, z)]) := by
  have f := fewer_ok n o
  refine ⟨o.l1, o.l16, o.nd, o.nm, ?_, ?_, fun q hq => ?_⟩
  · unfold keysR
    rw [List.map_append]
    refine List.nodup_append.mpr ⟨f.kd, by simp, fun x hx y hy => ?_⟩
    have ey : y = n := List.mem_singleton.mp hy
    obtain ⟨q, hq, e⟩ := List.mem_map.mp hx
    have := of_decide_eq_true (List.mem_filter.mp hq).2
    rw [ey, ← e]
    exact this
  · have := fewer_len hn
    have := o.l24
    rw [List.length_append]
    show _ + 1 ≤ 24
    omega
  · rcases List.mem_append.mp hq with h | h
    · exact f.en q h
    · rw [List.mem_singleton.mp h]
      obtain ⟨p, hp, e⟩ := List.mem_map.mp hn
      exact ⟨by rw [← e]; exact (o.en p hp).1, hz, hz⟩
theorem kn_ne {xs : List Str} {z : Str} : srt xs ≠ srt (xs ++ [z]) := fun h => by
  have := congrArg List.length h
  rw [srt_len, srt_len, List.length_append] at this
  have h2 : xs.length = xs.length + 1 := this
  omega
end L08
namespace L08
open PySem PySem.Spec PyProof.Rows L2 Evl Bf
section
variable {K : PySem.W.Frag}
theorem tieR_of {H : Hp} {kvs : List (Key × V)} {raw : Raw} (r : EndR H kvs raw) (ok : ∀ q ∈ raw, StrOk q.2.1 ∧ StrOk q.2.2) : TieR K H kvs (tiesOf raw) := by
  unfold EndR at r
  unfold TieR tiesOf
  induction r with
  | nil => exact .nil
  | @cons p q ps qs a t ih =>
    obtain ⟨a1, t', a2, a3⟩ := a
    obtain ⟨o1, o2⟩ := ok q List.mem_cons_self
    refine .cons ⟨a1, t', _, a2, a3, .cons ⟨rfl, o1⟩ (.cons ⟨rfl, o2⟩ .nil), by show 2 ≤ 1000; decide⟩ (ih fun q hq => ok q (List.mem_cons_of_mem _ hq))
theorem endR_of {H : Hp} : ∀ {kvs : List (Key × V)} {raw : Raw}, TieR K H kvs (tiesOf raw) → EndR H kvs raw
  | kvs, [], h => by cases h; exact .nil
  | kvs, q :: qs, h => by
    cases h with
    | @cons p _ ps _ a t =>
      obtain ⟨t', e1, e2⟩ := tvr_pair a.2
      exact .cons ⟨a.1, t', e1, e2⟩ (endR_of t)
theorem endR_keys {H : Hp} {kvs : List (Key × V)} {raw : Raw} (h : EndR H kvs raw) : kvs.map (·.1) = (keysR raw).map Sum.inr := by
  unfold EndR at h
  unfold keysR
  induction h with
  | nil => rfl
  | cons a _ ih => rw [List.map_cons, List.map_cons, List.map_cons, ih, a.1]
theorem endR_len {H : Hp} {kvs : List (Key × V)} {raw : Raw} (h : EndR H kvs raw) : kvs.length = raw.length := Paired.length h
theorem tup_upd {H : Hp} {d t : Addr} {o o' : HO} {xs : List V} (hd : H d = some o) (no : ∀ ys, o ≠ .tup ys) (h : H t = some (.tup xs)) : (upd H d o') t = some (.tup xs) := by
  rw [upd_ne fun z => by rw [z, hd] at h; exact no _ (Option.some.inj h)]
  exact h
theorem endR_upd {H : Hp} {d : Addr} {o o' : HO} {kvs : List (Key × V)} {raw : Raw} (hd : H d = some o) (no : ∀ ys, o ≠ .tup ys) (h : EndR H kvs raw) : EndR (upd H d o') kvs raw :=
  Paired.mapP h fun _ _ ⟨a, t, b, c⟩ => ⟨a, t, b, tup_upd hd no c⟩
theorem webE_mono {H G : Hp} {x e : Addr} {kn : List Str} {en : Raw} (E : Ex H G) (h : WebAtE K H x e kn en) : WebAtE K G x e kn en := by
  obtain ⟨dx, k, kvs, h1, h2, h3, h4⟩ := h
  exact ⟨dx, k, kvs, E _ _ h1, E _ _ h2, E _ _ h3, endR_mono E h4⟩
/-- a list or a dict (another one) changes -/
theorem webE_upd {H : Hp} {x e d : Addr} {o o' : HO} {kn : List Str} {en : Raw} (h : WebAtE K H x e kn en) (hd : H d = some o) (nt : ∀ ys, o ≠ .tup ys) (ni : ∀ C dx fs, o ≠ .ins C dx fs) (ne : d ≠ e) : WebAtE K (upd H d o') x e kn en := by
  obtain ⟨dx, k, kvs, h1, h2, h3, h4⟩ := h
  refine ⟨dx, k, kvs, ?_, tup_upd hd nt h2, by rw [upd_ne ne.symm]; exact h3, endR_upd hd nt h4⟩
  rw [upd_ne fun z => by rw [z, hd] at h1; exact ni _ _ _ (Option.some.inj h1)]
  exact h1
theorem raw_strs {xs : List Str} {raw : Raw} (o : RawOk xs raw) : ∀ q ∈ raw, StrOk q.2.1 ∧ StrOk q.2.2 := fun q hq => ⟨Bf.nm_ok (o.nm _ (o.en q hq).2.1), Bf.nm_ok (o.nm _ (o.en q hq).2.2)⟩
theorem arg_of {H : Hp} {p d : Addr} {xs : List Str} {raw : Raw} {kvs : List (Key × V)} (o : RawOk xs raw) (hp : H p = some (.lst (xs.map V.str))) (hd : H d = some (.dK kvs)) (r : EndR H kvs raw) : WebArg K H p d xs (tiesOf raw) := by
  refine ⟨sq_of hp, by have := o.l16; omega, fun x hx => Bf.nm_ok (o.nm x hx), ⟨kvs, hd, tieR_of r (raw_strs o)⟩, by rw [keysT_of]; exact o.kd, ?_, fun n hn => ?_⟩
  · unfold tiesOf
    rw [List.length_map]
    have := o.l24
    omega
  · rw [keysT_of] at hn
    obtain ⟨q, hq, rfl⟩ := List.mem_map.mp hn
    exact Bf.nm_ok (o.en q hq).1
theorem web_made {H : Hp} {p d y dy : Addr} {xs : List Str} {raw : Raw} {kvs : List (Key × V)} {Q : VK} {E : XK} (o : RawOk xs raw) (hp : H p = some (.lst (xs.map V.str))) (hd : H d = some (.dK kvs)) (r : EndR H kvs raw) (hy : H y = none) (hdy : H dy = none)
    (q : ∀ G e, Ex H G → H e = none → WebAtE K G y e (srt xs) (ends raw) → Q .non G) :
    spInitW K [.ref y, .ref p, .ref d] (upd (upd H dy (.own y)) y (.ins (He.ga K "Web") dy [])) Q E := by
  refine ⟨y, dy, p, d, H, xs, tiesOf raw, rfl, upd_same, hy, ex_new2 hy hdy, arg_of o hp hd r, ?_⟩
  rw [due_of o]
  exact fun G e b fe wt => q G e (exb_back hy hdy b) (fresh_back (ex_new2 hy hdy) fe) wt
/-! ### dict([(k, v) ..]) -/
theorem merge_app : ∀ (kvs acc : List (Key × V)), ((acc ++ kvs).map (·.1)).Nodup → mergeK acc kvs = acc ++ kvs
  | [], acc, _ => by rw [List.append_nil]; rfl
  | p :: r, acc, h => by
    have e : mergeK acc (p :: r) = mergeK (putK acc p.1 p.2) r := rfl
    have no : valV acc p.1 = none := by
      unfold valV
      rw [List.find?_eq_none.mpr]
      · rfl
      · intro q hq z
        rw [List.map_append] at h
        exact (List.nodup_append.mp h).2.2 q.1 (List.mem_map.mpr ⟨q, hq, rfl⟩) p.1 (List.mem_map.mpr ⟨p, List.mem_cons_self, rfl⟩) (of_decide_eq_true z)
    rw [e, putK_new _ no, merge_app r _ (by rw [List.append_assoc]; exact h), List.append_assoc]
    rfl
theorem merge_self {H : Hp} {kvs : List (Key × V)} {raw : Raw} (r : EndR H kvs raw) (nd : (keysR raw).Nodup) : mergeK [] kvs = kvs := by
  refine merge_app kvs [] ?_
  rw [List.nil_append, endR_keys r]
  exact List.Pairwise.map _ (fun a b h z => h (Sum.inr.inj z)) nd
def PairsAt (H : Hp) (D : Addr) (kvs : List (Key × V)) : Prop := ∃ ps : List Addr, H D = some (.lst (ps.map V.ref)) ∧ Paired (fun p kv => H p = some (.tup [kV kv.1, kv.2])) ps kvs
theorem PairsAt.nil {H : Hp} {D : Addr} : PairsAt (upd H D (.lst [])) D [] := ⟨[], upd_same, .nil⟩
theorem PairsAt.upd {H : Hp} {D d : Addr} {kvs : List (Key × V)} {o o' : HO} (h : PairsAt H D kvs) (hd : H d = some o) (no : ∀ ys, o ≠ .tup ys) (ne : D ≠ d) : PairsAt (upd H d o') D kvs := by
  obtain ⟨ps, h1, h2⟩ := h
  exact ⟨ps, by rw [upd_ne ne]; exact h1, Paired.mapP h2 fun _ _ z => tup_upd hd no z⟩
/-- one more, behind what the element made -/
theorem PairsAt.more {H G : Hp} {D t : Addr} {kvs : List (Key × V)} {k : Key} {v : V} {n : Nat} (h : PairsAt H D kvs) (e : Ex H G) (ht : G t = some (.tup [kV k, v])) (hl : kvs.length ≤ 1000) :
    ∃ acc, G D = some (.lst acc) ∧ acc.length < sizeLine ∧ PairsAt (L2.upd G D (.lst (acc ++ [.ref t]))) D (kvs ++ [(k, v)]) := by
  obtain ⟨ps, h1, h2⟩ := h
  have hD := e D _ h1
  have hlen := Paired.length h2
  refine ⟨_, hD, by rw [List.length_map]; exact sz_lt (by omega), ps ++ [t], by rw [upd_same, List.map_append]; rfl, paired_snoc (Paired.mapP h2 fun _ _ z => tup_upd hD (fun _ z => by cases z) (e _ _ z)) (tup_upd hD (fun _ z => by cases z) ht)⟩
theorem PairsAt.sq {H : Hp} {D : Addr} {kvs : List (Key × V)} (h : PairsAt H D kvs) : ∃ ps : List Addr, SqL K H D (ps.map V.ref) ∧ Paired (fun p kv => SqT K H p [kV kv.1, kv.2]) ps kvs := by
  obtain ⟨ps, h1, h2⟩ := h
  exact ⟨ps, sq_of h1, Paired.mapP h2 fun _ _ z => st_of z⟩
/-! ### a lock -/
theorem lock_ex {H G : Hp} {d : Addr} {u o : HO} (hd : H d = some u) (e : Ex (upd H d o) G) : Ex H (upd G d u) := fun b v h => by
  by_cases z : b = d
  · rw [z, hd] at h
    rw [z, upd_same, ← h]
  · rw [upd_ne z]
    exact e b v (by rw [upd_ne z]; exact h)
theorem endR_get {H : Hp} {kvs : List (Key × V)} {raw : Raw} (r : EndR H kvs raw) (nd : (keysR raw).Nodup) {q : Str × Str × Str} (h : q ∈ raw) : ∃ t, valV kvs (Sum.inr q.1) = some (.ref t) ∧ H t = some (.tup [.str q.2.1, .str q.2.2]) := by
  rcases endR_look (n := q.1) r with ⟨z, _⟩ | ⟨a, b, t, z, h1, h2⟩
  · rw [lookE_in nd h] at z; cases z
  · rw [lookE_in nd h] at z
    have z2 := Option.some.inj z
    rw [z2]
    exact ⟨t, h1, h2⟩
/-- the i-th key -/
theorem endR_at {H : Hp} {kvs : List (Key × V)} {raw : Raw} (r : EndR H kvs raw) {i : Nat} {k : Key} {v : V} (h : kvs[i]? = some (k, v)) : ∃ q, raw[i]? = some q ∧ k = Sum.inr q.1 ∧ ∃ t, v = .ref t ∧ H t = some (.tup [.str q.2.1, .str q.2.2]) := by
  unfold EndR at r
  induction r generalizing i with
  | nil => cases h
  | @cons p q ps qs a t ih =>
    cases i with
    | zero =>
      have e : p = (k, v) := Option.some.inj h
      subst e
      exact ⟨q, rfl, a.1, a.2⟩
    | succ j => exact ih h
theorem dget_frz {H : Hp} {d : Addr} {kvs : List (Key × V)} {n : Str} {o : Obj} {r : Option V} (h : H d = some (.frz o (.dK kvs))) (e : valV kvs (Sum.inr n) = r) : DGet H d (.str n) r := by
  rw [← e]
  exact .inl ⟨kvs, Sum.inr n, .inr ⟨o, h⟩, rfl, rfl⟩
theorem dget_at {H : Hp} {d : Addr} {kvs : List (Key × V)} {n : Str} {r : Option V} (h : H d = some (.dK kvs)) (e : valV kvs (Sum.inr n) = r) : DGet H d (.str n) r := by
  rw [← e]
  exact DGet.k (k := Sum.inr n) h
end
end L08
namespace L08
open PySem PySem.Spec PyProof.Rows L2 Evl Bf
section
variable {P : Program} {w : World} {K : PySem.W.Frag} {mg : Str → Option Value} {base : Heap} {f fi fp ft fe fq : Addr} {fd fdi fdp fdt fde fdq : FuncData}
/-- all of H but p and d -/
def ExPD (p d : Addr) (H G : Hp) : Prop := ∀ b o, b ≠ p → b ≠ d → H b = some o → G b = some o
def spRightW (K : PySem.W.Frag) : Sp := fun vs H Q _ => ∃ (a p d : Addr) (xs : List Str) (raw : Raw) (kvs : List (Key × V)), vs = [.ref a, .ref p, .ref d] ∧ H a = some (wellO a) ∧ H p = some (.lst (xs.map V.str)) ∧ H d = some (.dK kvs) ∧ EndR H kvs raw ∧
  RawOk xs raw ∧ (∀ x ∈ xs, Drawn x) ∧ (∀ x ∈ keysR raw, Drawn x) ∧ ∀ G, ExPD p d H G → Q (.bl true) G
structure WebM (P : Program) (w : World) (K : PySem.W.Frag) (mg : Str → Option Value) (base : Heap) (fi fp ft fe fq : Addr) (fdi fdp fdt fde fdq : FuncData) : Prop where
  make : Mk K (He.ga K "Web") fi
  okI : FnOk P w K mg base (L2.CX P w) 4 fi fdi ["self", "places", "ties"] (spInitW K)
  bi : Binds K fdi ["self", "places", "ties"] []
  mp : Meth K (He.ga K "Web") "places" fp
  okP : FnOk P w K mg base CX0 1 fp fdp ["self"] (spPlaces K)
  bp : Binds K fdp ["self"] []
  mt : Meth K (He.ga K "Web") "ties" ft
  okT : FnOk P w K mg base CX0 1 ft fdt ["self"] (spTies K)
  bt : Binds K fdt ["self"] []
  me : Meth K (He.ga K "Web") "ends" fe
  okN : FnOk P w K mg base (L2.CX P w) 3 fe fde ["self", "tie"] (spEnds K)
  be : Binds K fde ["self", "tie"] []
  own : OwnEq K (He.ga K "Web") fq
  okQ : FnOk P w K mg base CX0 1 fq fdq ["self", "other"] (spEqW K)
  bq : Binds K fdq ["self", "other"] []
theorem ok_webRight (F : FnS K "_law_web_right" "_law_web_right" sWebRight f fd) (B : Bl mg) (T : WebT K mg) (M : WebM P w K mg base fi fp ft fe fq fdi fdp fdt fde fdq) (c__law_pick : Cal P w K mg base CX0 2 "_law_pick" ["_law_well", "_law_some"] (spPick K))
    (c__law_shuffled : Cal P w K mg base CX0 2 "_law_shuffled" ["_law_well", "_law_some"] (spShuf K)) (c__law_ends_refused : Cal P w K mg base CX0 4 "_law_ends_refused" ["_law_web", "_law_word"] (spRef K)) :
    FnOk P w K mg base CX0 6 f fd ["_law_well", "_law_places", "_law_ties"] (spRightW K) := by
  have mk_Web := M.make
  have f_Web := M.okI
  have b_Web := M.bi
  have g_Web := T.g
  have m_places := M.mp
  have f_places := M.okP
  have b_places := M.bp
  have m_ties := M.mt
  have f_ties := M.okT
  have b_ties := M.bt
  have m_ends := M.me
  have f_ends := M.okN
  have b_ends := M.be
  have own := M.own
  have f_eq := M.okQ
  have b_eq := M.bq
  refine okD F scWebRight (fun vs H Q E h => ?_) (fun cdv A outer s H vs Q E hr h => ?_)
  · obtain ⟨a, p, d, xs, raw, kvs, rfl, _⟩ := h
    rfl
  · obtain ⟨a, p, d, xs, raw, kvs, rfl, hw, hp, hd, er, ok, dx, dk, q⟩ := h
    have hu := hu_of hr
    have huD := hu65 hr
    refine ⟨_, (pss_cons (ps_asg (pe_tup (pa_cons (pe_callTy call_list_of (by rfl) B.list (by decide +kernel) (pa_cons (pv 1) pa_nil)) (pa_cons (pe_callTy call_dictD (by rfl) B.dict (by decide +kernel) (pa_cons (pv 2) pa_nil)) pa_nil))) (pg_tup (by rfl) (pgs_cons (pg_name (i := 3) scWebRight.nd rfl (.inl rfl)) (pgs_cons (pg_name (i := 4) scWebRight.nd rfl (.inr rfl)) pgs_nil))))
      (pss_cons (ps_set (i := 5) scWebRight.nd rfl (.inr rfl) (pe_make mk_Web f_Web (hr.mono (by decide)) (by rfl) g_Web b_Web .nil passL (pa_cons (pv 1) (pa_cons (pv 2) pa_nil))))
      (pss_cons (ps_set (i := 6) scWebRight.nd rfl (.inr rfl) (pe_callTy (call_dictP rfl) (by rfl) B.dict (by decide +kernel) (pa_cons (pe_lock (pe_lc (own := [("_law_name", 8)]) (g := (gName 8)) (te := tTup (tCons (tVar 8) (tCons (tCB (rTupOf K) (tCons (tCB (rSortedTS K) (tCons (tDGet (tVar 2) (tVar 8)) tNil)) tNil)) tNil))) (by rfl) scWebRight.nd (pi_keys (pv 2)) (blkOk_by (own := [("_law_name", 8)]) (N := nWebRight) (sc := defScope sWebRight) (by decide +kernel)) (fun _ _ _ _ _ => (pg_name (i := 8) scWebRight.nd rfl (.inl rfl))) (fun _ _ _ _ _ => pts_nil) (fun _ _ _ _ _ => (pe_tup (pa_cons (pv 8) (pa_cons (pe_callTy call_tuple_of (by rfl) B.tuple (by decide +kernel) (pa_cons (pe_callB cr_sortedTS (by rfl) B.sorted (by decide +kernel) (pa_cons (pe_dget hu (pv 2) (pv 8) (fun _ _ => rfl)) pa_nil)) pa_nil)) pa_nil)))))) pa_nil)))
      (pss_cons (ps_set (i := 7) scWebRight.nd rfl (.inl rfl) (pe_make mk_Web f_Web (hr.mono (by decide)) (by rfl) g_Web b_Web .nil passL (pa_cons (pe_cal c__law_shuffled (hr.mono (by decide)) pass0 (pa_cons (pv 0) (pa_cons (pv 1) pa_nil))) (pa_cons (pe_callTy (call_dictP rfl) (by rfl) B.dict (by decide +kernel) (pa_cons (pe_lc (own := [("_law_name", 8)]) (g := (gName 8)) (te := tTup (tCons (tVar 8) (tCons (tRevP K (tDGet (tVar 2) (tVar 8))) tNil))) (by rfl) scWebRight.nd (pi_list (pe_cal c__law_shuffled (hr.mono (by decide)) pass0 (pa_cons (pv 0) (pa_cons (pv 2) pa_nil)))) (blkOk_by (own := [("_law_name", 8)]) (N := nWebRight) (sc := defScope sWebRight) (by decide +kernel)) (fun _ _ _ _ _ => (pg_name (i := 8) scWebRight.nd rfl (.inl rfl))) (fun _ _ _ _ _ => pts_nil) (fun _ _ _ _ _ => (pe_tup (pa_cons (pv 8) (pa_cons (pe_revP (pe_dget hu (pv 2) (pv 8) (fun _ _ => rfl))) pa_nil))))) pa_nil)) pa_nil))))
      (pss_cons (ps_if (PW.pt (pw_or (pt_cmpR (op_neD hr.units) (pe_meth0 (pv 5) T.cl m_places f_places (hr.mono (by decide)) b_places .nil pass0) (pe_callB cr_sortedS (by rfl) B.sorted (by decide +kernel) (pa_cons (pv 1) pa_nil)) (nomark _)) (pw_or (pt_cmpR (op_neDD huD) (pe_meth0 (pv 5) T.cl m_ties f_ties (hr.mono (by decide)) b_ties .nil pass0) (pv 6) (nomark _)) (pw_or1 (pt_not (pt_val (pe_callB (cr_all rfl) (by rfl) B.all (by decide +kernel) (pa_cons (pe_lock (pe_lc (own := [("_law_name", 8)]) (g := (gName 8)) (te := tOp (rEqD K) (tMeth (He.ga K "Web") "ends" (spEnds K) [] E0 (tVar 5) (tCons (tVar 8) tNil)) (tDGet (tVar 6) (tVar 8))) (by rfl) scWebRight.nd (pi_keys (pv 2)) (blkOk_by (own := [("_law_name", 8)]) (N := nWebRight) (sc := defScope sWebRight) (by decide +kernel)) (fun _ _ _ _ _ => (pg_name (i := 8) scWebRight.nd rfl (.inl rfl))) (fun _ _ _ _ _ => pts_nil) (fun _ _ _ _ _ => (pe_cmpR (op_eqD hr.units) (pe_meth (pv 5) T.cl m_ends f_ends (hr.mono (by decide)) b_ends .nil passL (pa_cons (pv 8) pa_nil)) (pe_dget hu (pv 6) (pv 8) (fun _ _ => rfl)) (nomark _))))) pa_nil))))))))
      (pss_one (ps_ret pe_bl))
      pss_nil)
      (pss_cons (ps_if (PW.pt (pw_or (pt_not (pt_cmpR (op_eqI own f_eq b_eq (hr.mono (by decide))) (pv 5) (pv 7) (nomark _))) (pw_or (pt_cmpR (op_neI own f_eq b_eq (hr.mono (by decide))) (pv 5) (pv 7) (nomark _)) (pw_or (pt_not (pt_val (pe_cal c__law_ends_refused (hr.mono (by decide)) pass0 (pa_cons (pv 5) (pa_cons pe_str pa_nil))))) (pw_or1 (pt_not (pt_val (pe_cal c__law_ends_refused (hr.mono (by decide)) pass0 (pa_cons (pv 5) (pa_cons pe_str pa_nil))))))))))
      (pss_one (ps_ret pe_bl))
      pss_nil)
      (pss_cons (ps_expr (pe_bm0 PySem.F.plainAttrs_list PySem.F.slot_list_clear PySem.F.type_list_clear mt_clear (pv 1)))
      (pss_cons (ps_expr (pe_dclear (pv 2)))
      (pss_cons (ps_expr (pe_bm PySem.F.plainAttrs_list PySem.F.slot_list_append PySem.F.type_list_append mt_append (pe_meth0 (pv 5) T.cl m_places f_places (hr.mono (by decide)) b_places .nil pass0) (pa_cons pe_str pa_nil)))
      (pss_cons (ps_expr (pe_dclear (pe_meth0 (pv 5) T.cl m_ties f_ties (hr.mono (by decide)) b_ties .nil pass0)))
      (pss_cons (ps_if (PW.pt (pw_or (pt_cmpR (op_neD hr.units) (pe_meth0 (pv 5) T.cl m_places f_places (hr.mono (by decide)) b_places .nil pass0) (pe_callB cr_sortedS (by rfl) B.sorted (by decide +kernel) (pa_cons (pv 3) pa_nil)) (nomark _)) (pw_or1 (pt_cmpR (op_neDD huD) (pe_meth0 (pv 5) T.cl m_ties f_ties (hr.mono (by decide)) b_ties .nil pass0) (pv 6) (nomark _)))))
      (pss_one (ps_ret pe_bl))
      pss_nil)
      (pss_cons (ps_if (PW.pt (pw_and (pt_cmpR (op_neDD huD) (pv 4) pe_dnewK (nomark _)) (pw_and1 (pt_cmpR op_lt (pe_callB call_len_seq (by rfl) B.len (by decide +kernel) (pa_cons (pv 3) pa_nil)) pe_int (nomark _)))))
      (pss_cons (ps_set (i := 8) scWebRight.nd rfl (.inr rfl) (pe_cal c__law_pick (hr.mono (by decide)) pass0 (pa_cons (pv 0) (pa_cons (pe_callB (call_sortedD rfl) (by rfl) B.sorted (by decide +kernel) (pa_cons (pv 4) pa_nil)) pa_nil))))
      (pss_cons (ps_set (i := 9) scWebRight.nd rfl (.inl rfl) (pe_callTy (call_dictP rfl) (by rfl) B.dict (by decide +kernel) (pa_cons (pe_lock (pe_lc (own := [("_law_one", 12)]) (g := (gName 12)) (by rfl) scWebRight.nd (pi_keys (pv 4)) (blkOk_by (own := [("_law_one", 12)]) (N := nWebRight) (sc := defScope sWebRight) (by decide +kernel)) (fun _ _ _ _ _ => (pg_name (i := 12) scWebRight.nd rfl (.inl rfl))) (fun _ _ _ _ _ => (pts_one (pt_cmpR op_ne (pv 12) (pv 8) (nomark _)))) (fun _ _ _ _ _ => (pe_tup (pa_cons (pv 12) (pa_cons (pe_dget hu (pv 4) (pv 12) (fun _ _ => rfl)) pa_nil)))))) pa_nil)))
      (pss_cons (ps_set (i := 10) scWebRight.nd rfl (.inl rfl) (pe_callTy call_dictD (by rfl) B.dict (by decide +kernel) (pa_cons (pv 9) pa_nil)))
      (pss_cons (ps_dput hu (pv 10) (pv 8) (pe_tup (pa_cons pe_str (pa_cons pe_str pa_nil))) rfl)
      (pss_cons (ps_set (i := 11) scWebRight.nd rfl (.inl rfl) (pe_lst (pa_cons (pe_make mk_Web f_Web (hr.mono (by decide)) (by rfl) g_Web b_Web .nil passL (pa_cons (pv 3) (pa_cons (pv 9) pa_nil))) (pa_cons (pe_make mk_Web f_Web (hr.mono (by decide)) (by rfl) g_Web b_Web .nil passL (pa_cons (pe_op op_cat (pv 3) (pe_lst (pa_cons pe_str pa_nil))) (pa_cons (pv 4) pa_nil))) (pa_cons (pe_make mk_Web f_Web (hr.mono (by decide)) (by rfl) g_Web b_Web .nil passL (pa_cons (pe_op op_cat (pv 3) (pe_lst (pa_cons pe_str pa_nil))) (pa_cons (pv 10) pa_nil))) pa_nil)))))
      (pss_one (ps_ret (pe_and (pe_not (pe_callB (cr_any rfl) (by rfl) B.any (by decide +kernel) (pa_cons (pe_lc (own := [("_law_one", 12)]) (g := (gName 12)) (te := tOp (rEqI (He.ga K "Web") (spEqW K) false) (tVar 5) (tVar 12)) (by rfl) scWebRight.nd (pi_list (pv 11)) (blkOk_by (own := [("_law_one", 12)]) (N := nWebRight) (sc := defScope sWebRight) (by decide +kernel)) (fun _ _ _ _ _ => (pg_name (i := 12) scWebRight.nd rfl (.inl rfl))) (fun _ _ _ _ _ => pts_nil) (fun _ _ _ _ _ => (pe_cmpR (op_eqI own f_eq b_eq (hr.mono (by decide))) (pv 5) (pv 12) (nomark _)))) pa_nil))) (pe_one (pe_callB (cr_all rfl) (by rfl) B.all (by decide +kernel) (pa_cons (pe_lc (own := [("_law_one", 12)]) (g := (gName 12)) (te := tOp (rEqI (He.ga K "Web") (spEqW K) true) (tVar 5) (tVar 12)) (by rfl) scWebRight.nd (pi_list (pv 11)) (blkOk_by (own := [("_law_one", 12)]) (N := nWebRight) (sc := defScope sWebRight) (by decide +kernel)) (fun _ _ _ _ _ => (pg_name (i := 12) scWebRight.nd rfl (.inl rfl))) (fun _ _ _ _ _ => pts_nil) (fun _ _ _ _ _ => (pe_cmpR (op_neI own f_eq b_eq (hr.mono (by decide))) (pv 5) (pv 12) (nomark _)))) pa_nil)))))))))))
      pss_nil)
      (pss_one (ps_ret pe_bl)))))))))))))), ?_⟩
    refine ⟨_, rfl, p, _, rfl, .inl (sq_of hp), fun kp hkp => ?_⟩
    have f1 : Ex H _ := Ex.new (o := .lst (xs.map V.str)) hkp
    have kkp : (upd H kp (.lst (xs.map V.str))) kp = _ := upd_same
    generalize upd H kp (.lst (xs.map V.str)) = G1 at f1 kkp
    refine ⟨_, rfl, d, kvs, rfl, .inl (f1 d _ hd), fun hl hhl => ?_⟩
    have f2 : Ex G1 _ := Ex.new (o := .dK kvs) hhl
    have khl : (upd G1 hl (.dK kvs)) hl = _ := upd_same
    generalize upd G1 hl (.dK kvs) = G2 at f2 khl
    refine ⟨by show 2 ≤ sizeLine; decide, fun tt htt => ?_⟩
    have f3 : Ex G2 _ := Ex.new (o := .tup [.ref kp, .ref hl]) htt
    have ktt : (upd G2 tt (.tup [.ref kp, .ref hl])) tt = _ := upd_same
    generalize upd G2 tt (.tup [.ref kp, .ref hl]) = G3 at f3 ktt
    have F3 : Ex H G3 := (f1.trans f2).trans f3
    refine ⟨tt, _, rfl, st_of ktt, rfl, _, _, rfl, _, _, rfl, rfl, ?_⟩
    refine ⟨_, rfl, _, rfl, fun y dy hy hdy hne => web_made ok (F3 p _ hp) (F3 d _ hd) (endR_mono F3 er) hy hdy (fun G4 e0 f4 fe0 wt => ⟨rfl, ?_⟩)⟩
    have F4 := F3.trans f4
    have hd4 := F4 d _ hd
    have ed : d ≠ e0 := fun z => by rw [← z, F3 d _ hd] at fe0; cases fe0
    have ehl : hl ≠ e0 := fun z => by rw [← z, f3 hl _ khl] at fe0; cases fe0
    have khl4 := (f3.trans f4) hl _ khl
    have kkp4 := ((f2.trans f3).trans f4) kp _ kkp
    -- due_here
    refine ⟨d, .dK kvs, hd4, trivial, fun od => ?_⟩
    have hL : (upd G4 d (.frz od (.dK kvs))) d = some (.frz od (.dK kvs)) := upd_same
    have erL : EndR (upd G4 d (.frz od (.dK kvs))) kvs raw := endR_upd hd4 (fun _ z => by cases z) (endR_mono F4 er)
    refine ⟨_, rfl, d, od, rfl, .inl ⟨kvs, hL, fun D hD => lc_it walk_keys (fun i G => ∃ kvs', Ex (upd G4 d (.frz od (.dK kvs))) G ∧ PairsAt G D kvs' ∧ EndR G kvs' ((raw.map sq).take i))
      ⟨[], Ex.new hD, PairsAt.nil, .nil⟩ (fun i G _ hP => ?_) (fun i v G G' hi hP hy => ?_) (fun G hP => ?_)⟩⟩
    · obtain ⟨kvs', e7, _, _⟩ := hP
      exact e7 d _ hL
    · obtain ⟨kvs', e7, pa, r7⟩ := hP
      obtain ⟨rfl, k, v', hk, rfl⟩ := hy
      obtain ⟨q0, hq0, rfl, t0, rfl, ht0⟩ := endR_at (endR_mono e7 erL) hk
      have hq : q0 ∈ raw := List.mem_of_getElem? hq0
      obtain ⟨t1, ht1, _⟩ := endR_get er ok.kd hq
      obtain ⟨t2, ht2, ht3⟩ := endR_get (endR_mono e7 erL) ok.kd hq
      refine ⟨rfl, _, rfl, _, rfl, _, rfl, d, _, rfl, dget_frz (e7 d _ hL) ht2, t2, [q0.2.1, q0.2.2], rfl, st_of ht3, by show 2 < 64; decide, fun ys2 c2 hp2 hso2 hc2 => ⟨c2, _, rfl, .inl ⟨sq_of upd_same, fun l2 hl2 => ?_⟩⟩⟩
      have ey2 := srt_eq hp2 hso2
      subst ey2
      have e8 : Ex G' _ := (Ex.new (o := .lst ((srt [q0.2.1, q0.2.2]).map V.str)) hc2).trans (Ex.new (o := .tup ((srt [q0.2.1, q0.2.2]).map V.str)) hl2)
      have k8 : (upd (upd G' c2 (.lst ((srt [q0.2.1, q0.2.2]).map V.str))) l2 (.tup ((srt [q0.2.1, q0.2.2]).map V.str))) l2 = _ := upd_same
      generalize upd (upd G' c2 (.lst ((srt [q0.2.1, q0.2.2]).map V.str))) l2 (.tup ((srt [q0.2.1, q0.2.2]).map V.str)) = G8 at e8 k8
      refine ⟨by show 2 ≤ sizeLine; decide, fun t9 ht9 => ?_⟩
      have e9 : Ex G8 _ := Ex.new (o := .tup [kV (Sum.inr q0.1), .ref l2]) ht9
      have k9 : (upd G8 t9 (.tup [kV (Sum.inr q0.1), .ref l2])) t9 = _ := upd_same
      generalize upd G8 t9 (.tup [kV (Sum.inr q0.1), .ref l2]) = G9 at e9 k9
      have hlen : kvs'.length ≤ 1000 := by
        have h1 := endR_len r7
        have h2 := ok.l24
        rw [List.length_take, List.length_map] at h1
        omega
      obtain ⟨acc, a1, a2, a3⟩ := PairsAt.more (n := 0) (k := Sum.inr q0.1) (v := .ref l2) pa (e8.trans e9) k9 hlen
      refine ⟨acc, a1, a2, _, Ex.mut (e7.trans (e8.trans e9)) hD, a3, ?_⟩
      have hE : (raw.map sq)[i]? = some (sq q0) := by rw [List.getElem?_map, hq0]; rfl
      rw [List.take_add_one, hE]
      refine paired_snoc (endR_upd a1 (fun _ z => by cases z) (endR_mono (e8.trans e9) r7)) ⟨rfl, l2, rfl, tup_upd a1 (fun _ z => by cases z) ?_⟩
      rw [e9 l2 _ k8, srt_pair]
      rfl
    obtain ⟨kvs1, e7, pa, r7⟩ := hP
    rw [endR_len er, List.take_of_length_le (by rw [List.length_map]; exact Nat.le_refl _)] at r7
    have nD : D ≠ d := fun z => by rw [z, hL] at hD; cases hD
    refine ⟨e7 d _ hL, ?_⟩
    have f5 : Ex G4 (upd G d (.dK kvs)) := lock_ex hd4 e7
    have r5 : EndR (upd G d (.dK kvs)) kvs1 (raw.map sq) := endR_upd (e7 d _ hL) (fun _ z => by cases z) r7
    have pa5 : PairsAt (upd G d (.dK kvs)) D kvs1 := pa.upd (e7 d _ hL) (fun _ z => by cases z) nD
    generalize upd G d (.dK kvs) = G5 at f5 r5 pa5
    obtain ⟨ps5, sq5, pp5⟩ := pa5.sq (K := K)
    refine ⟨D, ps5, kvs1, rfl, sq5, pp5, fun dh hdh => ?_⟩
    rw [merge_self r5 (by rw [sq_keys]; exact ok.kd)]
    have f6 : Ex G5 _ := Ex.new (o := .dK kvs1) hdh
    have kdh : (upd G5 dh (.dK kvs1)) dh = _ := upd_same
    generalize upd G5 dh (.dK kvs1) = G6 at f6 kdh
    have r6 := endR_mono f6 r5
    have g46 := f5.trans f6
    have F6 := F4.trans g46
    -- other
    have hw6 := F6 a _ hw
    have hd6 := F6 d _ hd
    have kl : (keysR raw).length ≤ 24 := by
      unfold keysR
      rw [List.length_map]
      exact ok.l24
    refine ⟨_, rfl, _, rfl, a, p, xs, rfl, hw6, .inl (sq_of (F6 p _ hp)), by have := ok.l16; omega, fun ys sp G7 pys _ f7 ksp => ?_⟩
    refine ⟨_, rfl, _, rfl, a, d, keysR raw, rfl, f7 a _ hw6, .inr ⟨kvs, f7 d _ hd6, endR_keys er⟩, by omega, fun ns sl G8 pns _ f8 ksl => ⟨sl, rfl, ⟨_, sq_of ksl⟩, fun D2 hD2 => lc_it (walk_list (xs := ns.map V.str)) (fun i G => ∃ kvs', Ex G8 G ∧ PairsAt G D2 kvs' ∧ EndR G kvs' ((turned raw ns).take i))
      ⟨[], Ex.new hD2, PairsAt.nil, .nil⟩ (fun i G _ hP => ?_) (fun i v G G' hi hP hy => ?_) (fun G hP => ?_)⟩⟩
    · obtain ⟨kvs', e7, _, _⟩ := hP
      exact sq_of (e7 sl _ ksl)
    · obtain ⟨kvs', e7, pa, r7⟩ := hP
      obtain ⟨rfl, hv⟩ := hy
      obtain ⟨rfl, hi2⟩ := getD_map hv
      have hn0 : ns[i]? = some (ns.getD i "") := by simp [List.getD, hi2]
      obtain ⟨q0, hq, hN⟩ := List.mem_map.mp (pns.mem_iff.mp (List.mem_of_getElem? hn0))
      have EE := (F6.trans f7).trans (f8.trans e7)
      obtain ⟨t2, ht2, ht3⟩ := endR_get (endR_mono EE er) ok.kd hq
      have hE : (turned raw ns)[i]? = some (q0.1, q0.2.2, q0.2.1) := by
        unfold turned
        rw [List.getElem?_map, hn0]
        have e1 : q0.1 = ns.getD i "" := hN
        rw [← e1]
        show some (q0.1, ((lookE raw q0.1).getD ("", "")).2, ((lookE raw q0.1).getD ("", "")).1) = _
        rw [lookE_in ok.kd hq]
        rfl
      have hN' : ns.getD i "" = q0.1 := hN.symm
      rw [hN']
      refine ⟨rfl, _, rfl, _, rfl, _, rfl, d, _, rfl, dget_at (EE d _ hd) ht2, t2, _, _, rfl, st_of ht3, fun l2 hl2 => ?_⟩
      have e8 : Ex G' _ := Ex.new (o := .tup [.str q0.2.2, .str q0.2.1]) hl2
      have k8 : (upd G' l2 (.tup [.str q0.2.2, .str q0.2.1])) l2 = _ := upd_same
      generalize upd G' l2 (.tup [.str q0.2.2, .str q0.2.1]) = J8 at e8 k8
      refine ⟨by show 2 ≤ sizeLine; decide, fun t9 ht9 => ?_⟩
      have e9 : Ex J8 _ := Ex.new (o := .tup [.str q0.1, .ref l2]) ht9
      have k9 : (upd J8 t9 (.tup [.str q0.1, .ref l2])) t9 = _ := upd_same
      generalize upd J8 t9 (.tup [.str q0.1, .ref l2]) = G9 at e9 k9
      have hlen : kvs'.length ≤ 1000 := by
        have h1 := endR_len r7
        have h2 : (turned raw ns).length = ns.length := by unfold turned; rw [List.length_map]
        have h3 := pns.length_eq
        rw [List.length_take] at h1
        omega
      obtain ⟨acc, a1, a2, a3⟩ := PairsAt.more (n := 0) (k := Sum.inr q0.1) (v := .ref l2) pa (e8.trans e9) k9 hlen
      refine ⟨acc, a1, a2, _, Ex.mut (e7.trans (e8.trans e9)) hD2, a3, ?_⟩
      rw [List.take_add_one, hE]
      exact paired_snoc (endR_upd a1 (fun _ z => by cases z) (endR_mono (e8.trans e9) r7)) ⟨rfl, l2, rfl, tup_upd a1 (fun _ z => by cases z) (e9 l2 _ k8)⟩
    obtain ⟨kvs2, e7, pa2, r72⟩ := hP
    have tl : (turned raw ns).length = ns.length := by unfold turned; rw [List.length_map]
    rw [List.length_map, ← tl, List.take_of_length_le (Nat.le_refl _)] at r72
    have tok := turned_ok ok pys pns
    obtain ⟨ps6, sq6, pp6⟩ := pa2.sq (K := K)
    refine ⟨D2, ps6, kvs2, rfl, sq6, pp6, fun dd hdd => ?_⟩
    rw [merge_self r72 tok.kd]
    have f9 : Ex G _ := Ex.new (o := .dK kvs2) hdd
    have kdd : (upd G dd (.dK kvs2)) dd = _ := upd_same
    generalize upd G dd (.dK kvs2) = G9 at f9 kdd
    have g79 := (f8.trans e7).trans f9
    refine fun y2 dy2 hy2 hdy2 hne2 => web_made tok (g79 sp _ ksp) kdd (endR_mono f9 r72) hy2 hdy2 (fun G10 e2 f10 fe2 wt2 => ⟨rfl, ?_⟩)
    rw [srt_congr pys, ends_eq tok.kd ok.kd (turned_perm ok.kd pns)] at wt2
    have g610 := f7.trans (g79.trans f10)
    have F10 := F6.trans g610
    have g410 := g46.trans g610
    have wt10 := webE_mono g410 wt
    have kdh10 := g610 dh _ kdh
    have r10 := endR_mono g610 r6
    have hd10 := F10 d _ hd
    have hp10 := F10 p _ hp
    have hw10 := F10 a _ hw
    have khl10 := g410 hl _ khl4
    have kkp10 := g410 kp _ kkp4
    have erl := endR_mono F10 er
    have edh : dh ≠ e0 := fun z => by
      obtain ⟨dx', k', kv', _, _, h3, _⟩ := wt
      rw [← z] at h3
      have := f5 dh _ h3
      rw [hdh] at this
      cases this
    have dhd : dh ≠ d := fun z => by rw [z, (F4.trans f5) d _ hd] at hdh; cases hdh
    have hld : hl ≠ d := fun z => by rw [z, f1 d _ hd] at hhl; cases hhl
    have kpp : kp ≠ p := fun z => by rw [z, hp] at hkp; cases hkp
    clear g610 g79 pp6 sq6 kdd r72 pa2 hdd ksl ksp hD2 pp5 sq5 pa5 r5 hdh
    -- the first test
    obtain ⟨wdx, wk, wkv, w1, w2, w3, w4⟩ := id wt10
    have okS : ∀ x ∈ srt xs, PyData.strOk x = true := (webOk_of ok).1
    refine ⟨_, rfl, y, _, _, rfl, w1, rfl, y, _, _, rfl, wt10.at_, fun l1 hl1 => ?_⟩
    have f11 : Ex G10 _ := Ex.new (o := .lst ((srt xs).map V.str)) hl1
    have kl1 : (upd G10 l1 (.lst ((srt xs).map V.str))) l1 = _ := upd_same
    generalize upd G10 l1 (.lst ((srt xs).map V.str)) = G11 at f11 kl1
    refine ⟨_, rfl, p, xs, rfl, sq_of (f11 p _ hp10), by have := ok.l16; omega, fun zs l2 hpz hsz hl2 => ?_⟩
    have ez := srt_eq hpz hsz
    subst ez
    have f12 : Ex G11 _ := Ex.new (o := .lst ((srt xs).map V.str)) hl2
    have kl2 : (upd G11 l2 (.lst ((srt xs).map V.str))) l2 = _ := upd_same
    generalize upd G11 l2 (.lst ((srt xs).map V.str)) = G12 at f12 kl2
    refine ⟨_, _, .lst (sq_of (f12 l1 _ kl1)) (dp_strs _), .lst (sq_of kl2) (dp_strs _), shaped_lst okS, shaped_lst okS, _, rfl, ?_⟩
    have v1 : PyData.eqv (.list (strsD (srt xs))) (.list (strsD (srt xs))) = true := (eqv_strs _ _).trans (decide_eq_true rfl)
    rw [v1]
    refine iteF ?_
    have g1012 := f11.trans f12
    have wt12 := webE_mono g1012 wt10
    refine ⟨_, rfl, y, _, _, rfl, g1012 y _ w1, rfl, y, _, _, rfl, wt12.at_, fun l3 kv3 hl3 rkv3 => ?_⟩
    have f13 : Ex G12 _ := Ex.new (o := .dK kv3) hl3
    have kl3 : (upd G12 l3 (.dK kv3)) l3 = _ := upd_same
    generalize upd G12 l3 (.dK kv3) = G13 at f13 kl3
    have g1013 := g1012.trans f13
    refine ⟨_, rfl, l3, dh, kv3, kvs1, _, _, rfl, rfl, .inl kl3, .inl (g1013 dh _ kdh10), endR_data (endR_mono f13 rkv3) (ok_endsR ok), endR_data (endR_mono g1013 r10) (ok_sq ok), _, rfl, ?_⟩
    rw [if_pos rfl, dictEq_perm (by rw [sq_keys]; exact ok.kd) (ends_perm ok.kd)]
    refine iteF ?_
    -- all ends
    have hd13 := g1013 d _ hd10
    have wt13 := webE_mono g1013 wt10
    refine ⟨d, .dK kvs, hd13, trivial, fun od => ?_⟩
    have hL : (upd G13 d (.frz od (.dK kvs))) d = some (.frz od (.dK kvs)) := upd_same
    have erL : EndR (upd G13 d (.frz od (.dK kvs))) kvs raw := endR_upd hd13 (fun _ z => by cases z) (endR_mono g1013 erl)
    have wtL : WebAtE K (upd G13 d (.frz od (.dK kvs))) y e0 (srt xs) (ends raw) := webE_upd wt13 hd13 (fun _ z => by cases z) (fun _ _ _ z => by cases z) ed
    have r10L : EndR (upd G13 d (.frz od (.dK kvs))) kvs1 (raw.map sq) := endR_upd hd13 (fun _ z => by cases z) (endR_mono g1013 r10)
    have kdhL : (upd G13 d (.frz od (.dK kvs))) dh = some (.dK kvs1) := by rw [upd_ne dhd]; exact g1013 dh _ kdh10
    refine ⟨_, rfl, d, od, rfl, .inl ⟨kvs, hL, fun D3 hD3 => lc_it walk_keys (fun i G => Ex (upd G13 d (.frz od (.dK kvs))) G ∧ G D3 = some (.lst ((List.replicate i true).map V.bl)))
      ⟨Ex.new hD3, upd_same⟩ (fun i G _ hP => hP.1 d _ hL) (fun i v G G' hi hP hy => ?_) (fun G hP => ?_)⟩⟩
    · obtain ⟨e7, hD4⟩ := hP
      obtain ⟨rfl, k, v', hk, rfl⟩ := hy
      obtain ⟨q0, hq0, rfl, t0, rfl, ht0⟩ := endR_at (endR_mono e7 erL) hk
      have hq : q0 ∈ raw := List.mem_of_getElem? hq0
      obtain ⟨vdx, vk, vkv, v1', v2', v3', v4'⟩ := id (webE_mono e7 wtL)
      obtain ⟨t2, ht2, ht3⟩ := endR_get (endR_mono e7 r10L) (by rw [sq_keys]; exact ok.kd) (List.mem_map.mpr ⟨q0, hq, rfl⟩)
      have lk := ends_look ok.kd hq
      refine ⟨rfl, _, rfl, y, _, _, rfl, v1', rfl, _, rfl, y, q0.1, _, _, rfl, (webE_mono e7 wtL).at_, (fun z => by rw [lk] at z; cases z), fun a2 b2 t5 z ht5 => ?_⟩
      rw [lk] at z
      have z2 := Option.some.inj z
      refine ⟨_, rfl, _, rfl, dh, _, rfl, dget_at (e7 dh _ kdhL) ht2, _, _, .tup (st_of ht5) (dp_strs [a2, b2]), .tup (st_of ht3) (dp_strs [_, _]), ?_, ?_, ?_⟩
      · exact shaped_tup fun x hx => by
          have hs := ok_sq ok (sq q0) (List.mem_map.mpr ⟨q0, hq, rfl⟩)
          have e1 : (sq q0).2 = (a2, b2) := z2
          rw [e1] at hs
          rcases List.mem_cons.mp hx with rfl | hx
          · exact hs.1
          · rw [List.mem_singleton.mp hx]; exact hs.2
      · exact shaped_tup fun x hx => by
          have hs := ok_sq ok (sq q0) (List.mem_map.mpr ⟨q0, hq, rfl⟩)
          rcases List.mem_cons.mp hx with rfl | hx
          · exact hs.1
          · rw [List.mem_singleton.mp hx]; exact hs.2
      · have e1 : (sq q0).2 = (a2, b2) := z2
        have e2 : PyData.eqv (.tuple (strsD [a2, b2])) (.tuple (strsD [(sq q0).2.1, (sq q0).2.2])) = true := by
          rw [e1]
          exact (eqv_strs [a2, b2] [a2, b2]).trans (decide_eq_true rfl)
        rw [e2]
        refine ⟨_, hD4, by rw [List.length_map, List.length_replicate]; exact sz_lt (by have := endR_len er; have := ok.l24; omega), Ex.mut e7 hD3, ?_⟩
        rw [upd_same, List.replicate_succ', List.map_append]
        rfl
    obtain ⟨e7, hD4⟩ := hP
    refine ⟨e7 d _ hL, ?_⟩
    have nD3 : D3 ≠ d := fun z => by rw [z, hL] at hD3; cases hD3
    have f14 : Ex G13 (upd G d (.dK kvs)) := lock_ex hd13 e7
    have hD5 : (upd G d (.dK kvs)) D3 = some (.lst ((List.replicate kvs.length true).map V.bl)) := by rw [upd_ne nD3]; exact hD4
    generalize upd G d (.dK kvs) = G14 at f14 hD5
    refine ⟨D3, List.replicate kvs.length true, rfl, sq_of hD5, ?_⟩
    have v2 : (List.replicate kvs.length true).all id = true := by simp
    rw [v2]
    refine ⟨true, rfl, ?_⟩
    refine iteF ?_
    -- the second test
    have g1014 := g1013.trans f14
    have wt14 := webE_mono g1014 wt10
    have wt214 := webE_mono g1014 wt2
    obtain ⟨udx, uk, ukv, u1, u2, u3, u4⟩ := id wt214
    have wo := webOk_of ok
    have same : webEq (srt xs) (srt xs) (ends raw) (ends raw) = true := by
      unfold webEq
      rw [decide_eq_true rfl, dictEq_self (ends_nd ok.kd)]
      rfl
    have no1 : ("nobody" : Str) ∉ keysR raw := fun h => (dk _ h).2.2 (by decide +kernel)
    have no2 : ("" : Str) ∉ keysR raw := fun h => by
      have := (dk _ h).1
      revert this
      decide +kernel
    refine ⟨_, rfl, _, rfl, y, y2, _, _, _, _, rfl, rfl, g1014 y _ w1, u1, y, y2, _, _, _, _, rfl, wt14.at_, wt214.at_, wo, wo, _, rfl, _, rfl, ?_⟩
    rw [same]
    refine iteF ?_
    refine ⟨_, rfl, _, rfl, y, y2, _, _, _, _, rfl, rfl, g1014 y _ w1, u1, y, y2, _, _, _, _, rfl, wt14.at_, wt214.at_, wo, wo, _, rfl, _, rfl, ?_⟩
    rw [same]
    refine iteF ?_
    refine ⟨_, rfl, y, _, _, _, rfl, wt14.at_, ends_none no1, fun G15 f15 => ⟨true, rfl, iteF ?_⟩⟩
    refine ⟨_, rfl, y, _, _, _, rfl, webAt_mono f15 wt14.at_, ends_none no2, fun G16 f16 => ⟨true, rfl, iteF ?_⟩⟩
    have g1016 := g1014.trans (f15.trans f16)
    have F16 := F10.trans g1016
    have wt16 := webE_mono g1016 wt10
    have hd16 := F16 d _ hd
    have hp16 := F16 p _ hp
    have pd : p ≠ d := fun z => by rw [z, hd] at hp; cases hp
    -- clear
    refine ⟨_, rfl, .inl ⟨rfl, _, sq_of hp16⟩, p, _, rfl, rfl, hp16, ?_⟩
    have hd17 : (upd G16 p (.lst [])) d = some (.dK kvs) := by rw [upd_ne pd.symm]; exact hd16
    have wt17 : WebAtE K (upd G16 p (.lst [])) y e0 (srt xs) (ends raw) := webE_upd wt16 hp16 (fun _ z => by cases z) (fun _ _ _ z => by cases z) (fun z => by
      obtain ⟨_, _, _, _, _, h3, _⟩ := wt16
      rw [z, h3] at hp16
      cases hp16)
    refine ⟨_, rfl, .inr (.inr (.inl ⟨rfl, .inl ⟨_, hd17⟩⟩)), d, _, rfl, rfl, hd17, ?_⟩
    have wt18 : WebAtE K (upd (upd G16 p (.lst [])) d (.dK [])) y e0 (srt xs) (ends raw) := webE_upd wt17 hd17 (fun _ z => by cases z) (fun _ _ _ z => by cases z) ed
    have keep : ∀ b o, b ≠ p → b ≠ d → G16 b = some o → (upd (upd G16 p (.lst [])) d (.dK [])) b = some o := fun b o n1 n2 h => by rw [upd_ne n2, upd_ne n1]; exact h
    have endK : ∀ {ks : List (Key × V)} {rw_ : Raw}, EndR G16 ks rw_ → EndR (upd (upd G16 p (.lst [])) d (.dK [])) ks rw_ := fun h => endR_upd hd17 (fun _ z => by cases z) (endR_upd hp16 (fun _ z => by cases z) h)
    have x18 : ExPD p d H (upd (upd G16 p (.lst [])) d (.dK [])) := fun b o n1 n2 h => keep b o n1 n2 (F16 b o h)
    have hlp : hl ≠ p := fun z => by rw [z, hp10] at khl10; cases khl10
    have dhp : dh ≠ p := fun z => by rw [z, hp10] at kdh10; cases kdh10
    have kpd : kp ≠ d := fun z => by rw [z, hd10] at kkp10; cases kkp10
    have ap : a ≠ p := fun z => by rw [z, hp] at hw; exact absurd (Option.some.inj hw) (fun y => by cases y)
    have ad : a ≠ d := fun z => by rw [z, hd] at hw; exact absurd (Option.some.inj hw) (fun y => by cases y)
    have khl18 := keep hl _ hlp hld (g1016 hl _ khl10)
    have kkp18 := keep kp _ kpp kpd (g1016 kp _ kkp10)
    have kdh18 := keep dh _ dhp dhd (g1016 dh _ kdh10)
    have er18 := endK (endR_mono g1016 erl)
    have r18 := endK (endR_mono g1016 r10)
    have hw18 := x18 a _ ap ad hw
    generalize upd (upd G16 p (.lst [])) d (.dK []) = G18 at wt18 x18 khl18 kkp18 kdh18 er18 r18 hw18
    clear keep endK
    obtain ⟨sdx, sk, skv, s1, s2, s3, s4⟩ := id wt18
    refine ⟨_, rfl, y, _, _, rfl, s1, rfl, y, _, _, rfl, wt18.at_, fun m1 hm1 => ⟨.inl ⟨rfl, _, sq_of upd_same⟩, m1, _, _, rfl, rfl, upd_same, by rw [List.length_map, srt_len]; exact sz_lt (by have := ok.l16; omega), ?_⟩⟩
    rw [upd_upd]
    have f19 : Ex G18 _ := Ex.new (o := .lst ((srt xs).map V.str ++ [.str "more"])) hm1
    generalize upd G18 m1 (.lst ((srt xs).map V.str ++ [.str "more"])) = G19 at f19
    refine ⟨_, rfl, y, _, _, rfl, f19 y _ s1, rfl, y, _, _, rfl, webAt_mono f19 wt18.at_, fun m2 kv4 hm2 rkv4 => ⟨.inr (.inr (.inl ⟨rfl, .inl ⟨_, upd_same⟩⟩)), m2, _, rfl, rfl, upd_same, ?_⟩⟩
    rw [upd_upd]
    have f20 : Ex G19 _ := Ex.new (o := .dK []) hm2
    generalize upd G19 m2 (.dK []) = G20 at f20
    have g1820 := f19.trans f20
    -- the third test
    refine ⟨_, rfl, y, _, _, rfl, g1820 y _ s1, rfl, y, _, _, rfl, webAt_mono g1820 wt18.at_, fun l1 hl1 => ?_⟩
    have f21 : Ex G20 _ := Ex.new (o := .lst ((srt xs).map V.str)) hl1
    have kl1 : (upd G20 l1 (.lst ((srt xs).map V.str))) l1 = _ := upd_same
    generalize upd G20 l1 (.lst ((srt xs).map V.str)) = G21 at f21 kl1
    refine ⟨_, rfl, kp, xs, rfl, sq_of ((g1820.trans f21) kp _ kkp18), by have := ok.l16; omega, fun zs l2 hpz hsz hl2 => ?_⟩
    have ez := srt_eq hpz hsz
    subst ez
    have f22 : Ex G21 _ := Ex.new (o := .lst ((srt xs).map V.str)) hl2
    have kl2 : (upd G21 l2 (.lst ((srt xs).map V.str))) l2 = _ := upd_same
    generalize upd G21 l2 (.lst ((srt xs).map V.str)) = G22 at f22 kl2
    refine ⟨_, _, .lst (sq_of (f22 l1 _ kl1)) (dp_strs _), .lst (sq_of kl2) (dp_strs _), shaped_lst okS, shaped_lst okS, _, rfl, ?_⟩
    rw [v1]
    refine iteF ?_
    have g1822 := g1820.trans (f21.trans f22)
    refine ⟨_, rfl, y, _, _, rfl, g1822 y _ s1, rfl, y, _, _, rfl, webAt_mono g1822 wt18.at_, fun l3 kv3 hl3 rkv3 => ?_⟩
    have f23 : Ex G22 _ := Ex.new (o := .dK kv3) hl3
    have kl3 : (upd G22 l3 (.dK kv3)) l3 = _ := upd_same
    generalize upd G22 l3 (.dK kv3) = G23 at f23 kl3
    have g1823 := g1822.trans f23
    refine ⟨_, rfl, l3, dh, kv3, kvs1, _, _, rfl, rfl, .inl kl3, .inl (g1823 dh _ kdh18), endR_data (endR_mono f23 rkv3) (ok_endsR ok), endR_data (endR_mono g1823 r18) (ok_sq ok), _, rfl, ?_⟩
    rw [if_pos rfl, dictEq_perm (by rw [sq_keys]; exact ok.kd) (ends_perm ok.kd)]
    refine iteF ?_
    have wt23 := webE_mono g1823 wt18
    have khl23 := g1823 hl _ khl18
    have kkp23 := g1823 kp _ kkp18
    have er23 := endR_mono g1823 er18
    have hw23 := g1823 a _ hw18
    have x23 : ExPD p d H G23 := fun b o n1 n2 h => g1823 b o (x18 b o n1 n2 h)
    -- held != {} and len(kept) < 16
    refine ⟨_, rfl, fun c1 hc1 => ?_⟩
    have f24 : Ex G23 _ := Ex.new (o := .dK []) hc1
    have kc1 : (upd G23 c1 (.dK [])) c1 = _ := upd_same
    generalize upd G23 c1 (.dK []) = G24 at f24 kc1
    refine ⟨hl, c1, kvs, [], enD raw, [], rfl, rfl, .inl (f24 hl _ khl23), .inl kc1, endR_data (endR_mono f24 er23) (ok_raw ok), .nil, _, rfl, ?_⟩
    refine iteB (fun b1 => ?_) (fun b1 => ?_)
    · refine ⟨_, rfl, kp, _, rfl, .inl (sq_of (f24 kp _ kkp23)), _, _, rfl, rfl, _, rfl, ?_⟩
      rw [List.length_map]
      refine iteB (fun b2 => ?_) (fun b2 => ?_)
      · have l16 : xs.length < 16 := by have := of_decide_eq_true b2; omega
        have rne : raw ≠ [] := fun z => by rw [z] at b1; exact nope rfl b1
        refine ⟨_, rfl, _, rfl, hl, kvs, keysR raw, rfl, .inl (f24 hl _ khl23), endR_keys er, by omega, fun ks sl2 pks sks hsl2 => ?_⟩
        have f25 : Ex G24 _ := Ex.new (o := .lst (ks.map V.str)) hsl2
        have ksl2 : (upd G24 sl2 (.lst (ks.map V.str))) sl2 = _ := upd_same
        generalize upd G24 sl2 (.lst (ks.map V.str)) = G25 at f25 ksl2
        have g2325 := f24.trans f25
        refine ⟨a, _, rfl, g2325 a _ hw23, .inl ⟨sl2, _, rfl, sq_of ksl2, fun z => ?_, by rw [List.length_map, pks.length_eq]; omega, fun v hv => ?_⟩⟩
        · have z2 := congrArg List.length z
          rw [List.length_map, pks.length_eq] at z2
          unfold keysR at z2
          rw [List.length_map] at z2
          exact rne (List.length_eq_zero_iff.mp z2)
        obtain ⟨n, hn0, rfl⟩ := List.mem_map.mp hv
        have hn : n ∈ keysR raw := pks.mem_iff.mp hn0
        -- fewer
        have khl25 := g2325 hl _ khl23
        refine ⟨hl, .dK kvs, khl25, trivial, fun od => ?_⟩
        have hL : (upd G25 hl (.frz od (.dK kvs))) hl = some (.frz od (.dK kvs)) := upd_same
        have erL : EndR (upd G25 hl (.frz od (.dK kvs))) kvs raw := endR_upd khl25 (fun _ z => by cases z) (endR_mono g2325 er23)
        refine ⟨_, rfl, hl, od, rfl, .inl ⟨kvs, hL, fun D hD => lc_it walk_keys (fun i G => ∃ kvs', Ex (upd G25 hl (.frz od (.dK kvs))) G ∧ PairsAt G D kvs' ∧ EndR G kvs' ((raw.take i).filter fun q => decide (q.1 ≠ n)))
          ⟨[], Ex.new hD, PairsAt.nil, .nil⟩ (fun i G _ hP => ?_) (fun i v G G' hi hP hy => ?_) (fun G hP => ?_)⟩⟩
        · obtain ⟨kvs', e7, _, _⟩ := hP
          exact e7 hl _ hL
        · obtain ⟨kvs', e7, pa, r7⟩ := hP
          obtain ⟨rfl, k, v', hk, rfl⟩ := hy
          obtain ⟨q0, hq0, rfl, t0, rfl, ht0⟩ := endR_at (endR_mono e7 erL) hk
          have hq : q0 ∈ raw := List.mem_of_getElem? hq0
          obtain ⟨t2, ht2, ht3⟩ := endR_get (endR_mono e7 erL) ok.kd hq
          have hT : raw.take (i + 1) = raw.take i ++ [q0] := by rw [List.take_add_one, hq0]; rfl
          refine ⟨rfl, _, rfl, _, rfl, rfl, _, rfl, iteB (fun b3 => ?_) (fun b3 => ?_)⟩
          · have ne : q0.1 ≠ n := fun z => by
              rw [z] at b3
              have : (!decide (V.str n = V.str n)) = false := by simp
              rw [show (!decide (kV (Sum.inr n) = V.str n)) = false from this] at b3
              cases b3
            refine ⟨_, rfl, _, rfl, _, rfl, hl, _, rfl, dget_frz (e7 hl _ hL) ht2, by show 2 ≤ sizeLine; decide, fun t9 ht9 => ?_⟩
            have e9 : Ex G' _ := Ex.new (o := .tup [kV (Sum.inr q0.1), .ref t2]) ht9
            have k9 : (upd G' t9 (.tup [kV (Sum.inr q0.1), .ref t2])) t9 = _ := upd_same
            generalize upd G' t9 (.tup [kV (Sum.inr q0.1), .ref t2]) = G9 at e9 k9
            have hlen : kvs'.length ≤ 1000 := by
              have h1 := endR_len r7
              have h2 := List.length_filter_le (fun q : Str × Str × Str => decide (q.1 ≠ n)) (raw.take i)
              rw [List.length_take] at h2
              have h3 := ok.l24
              omega
            obtain ⟨acc, a1, a2, a3⟩ := PairsAt.more (n := 0) (k := Sum.inr q0.1) (v := .ref t2) pa e9 k9 hlen
            refine ⟨acc, a1, a2, _, Ex.mut (e7.trans e9) hD, a3, ?_⟩
            rw [hT, List.filter_append, List.filter_cons_of_pos (by simpa using ne)]
            exact paired_snoc (endR_upd a1 (fun _ z => by cases z) (endR_mono e9 r7)) ⟨rfl, t2, rfl, tup_upd a1 (fun _ z => by cases z) (e9 t2 _ ht3)⟩
          · have eq : q0.1 = n := Classical.byContradiction fun z => by
              have : (!decide (kV (Sum.inr q0.1) = V.str n)) = true := by
                show (!decide (V.str q0.1 = V.str n)) = true
                rw [decide_eq_false fun y => z (V.str.inj y)]
                rfl
              rw [this] at b3
              cases b3
            refine ⟨kvs', e7, pa, ?_⟩
            rw [hT, List.filter_append, List.filter_cons_of_neg (by simpa using eq)]
            simpa using r7
        obtain ⟨kvs3, e7, pa3, r73⟩ := hP
        rw [endR_len er, List.take_length] at r73
        have nD : D ≠ hl := fun z => by rw [z, hL] at hD; cases hD
        refine ⟨e7 hl _ hL, ?_⟩
        have f26 : Ex G25 (upd G hl (.dK kvs)) := lock_ex khl25 e7
        have r26 : EndR (upd G hl (.dK kvs)) kvs3 (raw.filter fun q => decide (q.1 ≠ n)) := endR_upd (e7 hl _ hL) (fun _ z => by cases z) r73
        have pa26 : PairsAt (upd G hl (.dK kvs)) D kvs3 := pa3.upd (e7 hl _ hL) (fun _ z => by cases z) nD
        generalize upd G hl (.dK kvs) = G26 at f26 r26 pa26
        obtain ⟨ps7, sq7, pp7⟩ := pa26.sq (K := K)
        have fok := fewer_ok n ok
        refine ⟨D, ps7, kvs3, rfl, sq7, pp7, fun fw hfw => ?_⟩
        rw [merge_self r26 fok.kd]
        have f27 : Ex G26 _ := Ex.new (o := .dK kvs3) hfw
        have kfw : (upd G26 fw (.dK kvs3)) fw = _ := upd_same
        generalize upd G26 fw (.dK kvs3) = G27 at f27 kfw
        have r27 := endR_mono f27 r26
        -- moved
        refine ⟨_, rfl, fw, kvs3, rfl, .inl kfw, fun mv hmv => ?_⟩
        have f28 : Ex G27 _ := Ex.new (o := .dK kvs3) hmv
        have kmv : (upd G27 mv (.dK kvs3)) mv = _ := upd_same
        generalize upd G27 mv (.dK kvs3) = G28 at f28 kmv
        refine ⟨by show 2 ≤ sizeLine; decide, fun tz htz => ?_⟩
        have f29 : Ex G28 _ := Ex.new (o := .tup [.str "zzzzzzzz", .str "zzzzzzzz"]) htz
        have ktz : (upd G28 tz (.tup [.str "zzzzzzzz", .str "zzzzzzzz"])) tz = _ := upd_same
        generalize upd G28 tz (.tup [.str "zzzzzzzz", .str "zzzzzzzz"]) = G29 at f29 ktz
        have kmv29 := f29 mv _ kmv
        have len3 := endR_len r27
        have lenF := fewer_len hn
        have l24 := ok.l24
        refine ⟨_, rfl, _, rfl, mv, _, rfl, DPut.k (k := Sum.inr n) kmv29 (sz_lt (by omega)), ?_⟩
        have none3 : valV kvs3 (Sum.inr n) = none := by
          rcases endR_look (n := n) r27 with ⟨_, z⟩ | ⟨_, _, _, z, _⟩
          · exact z
          · rw [lookE_no] at z
            · cases z
            · intro h
              obtain ⟨q, hq, e⟩ := List.mem_map.mp h
              exact of_decide_eq_true (List.mem_filter.mp hq).2 e
        rw [putK_new _ none3]
        have f30 : Ex G27 (upd G29 mv (.dK (kvs3 ++ [(Sum.inr n, .ref tz)]))) := Ex.mut (f28.trans f29) hmv
        have kmv30 : (upd G29 mv (.dK (kvs3 ++ [(Sum.inr n, .ref tz)]))) mv = _ := upd_same
        have r30 : EndR (upd G29 mv (.dK (kvs3 ++ [(Sum.inr n, .ref tz)]))) (kvs3 ++ [(Sum.inr n, .ref tz)]) ((raw.filter fun q => decide (q.1 ≠ n)) ++ [(n, ("zzzzzzzz" : Str), ("zzzzzzzz" : Str))]) :=
          paired_snoc (endR_upd kmv29 (fun _ z => by cases z) (endR_mono (f28.trans f29) r27)) ⟨rfl, tz, rfl, tup_upd kmv29 (fun _ z => by cases z) ktz⟩
        generalize upd G29 mv (.dK (kvs3 ++ [(Sum.inr n, .ref tz)])) = G30 at f30 kmv30 r30
        have g2330 := g2325.trans ((f26.trans f27).trans f30)
        have zz : ("zzzzzzzz" : Str) ∉ xs := fun h => by
          have := (dx _ h).2.1
          revert this
          decide +kernel
        have mok := more_ok ok l16 zz (by decide +kernel)
        have vok := moved_ok mok hn (List.mem_append_right xs (List.mem_singleton.mpr rfl))
        -- the three webs
        refine ⟨_, rfl, _, rfl, fun y3 dy3 hy3 hdy3 _ => web_made fok (g2330 kp _ kkp23) (f30 fw _ kfw) (endR_mono f30 r27) hy3 hdy3 (fun G31 e3 f31 _ wt3 => ⟨rfl, ?_⟩)⟩
        refine ⟨_, rfl, by show 1 ≤ sizeLine; decide, fun c2 hc2 => ?_⟩
        have f32 : Ex G31 _ := Ex.new (o := .lst [.str "zzzzzzzz"]) hc2
        have kc2 : (upd G31 c2 (.lst [.str "zzzzzzzz"])) c2 = _ := upd_same
        generalize upd G31 c2 (.lst [.str "zzzzzzzz"]) = G32 at f32 kc2
        have g2332 := g2330.trans (f31.trans f32)
        refine ⟨kp, c2, _, _, rfl, rfl, g2332 kp _ kkp23, kc2, sz_of (by rw [List.length_map]; show _ + 1 ≤ _; omega), fun c3 hc3 => ?_⟩
        have cx : xs.map V.str ++ [.str "zzzzzzzz"] = (xs ++ [("zzzzzzzz" : Str)]).map V.str := by rw [List.map_append]; rfl
        rw [cx]
        have f33 : Ex G32 _ := Ex.new (o := .lst ((xs ++ [("zzzzzzzz" : Str)]).map V.str)) hc3
        have kc3 : (upd G32 c3 (.lst ((xs ++ [("zzzzzzzz" : Str)]).map V.str))) c3 = _ := upd_same
        generalize upd G32 c3 (.lst ((xs ++ [("zzzzzzzz" : Str)]).map V.str)) = G33 at f33 kc3
        have g2333 := g2332.trans f33
        refine ⟨_, rfl, fun y4 dy4 hy4 hdy4 _ => web_made mok kc3 (g2333 hl _ khl23) (endR_mono g2333 er23) hy4 hdy4 (fun G34 e4 f34 _ wt4 => ⟨rfl, ?_⟩)⟩
        have g2334 := g2333.trans f34
        refine ⟨_, rfl, by show 1 ≤ sizeLine; decide, fun c4 hc4 => ?_⟩
        have f35 : Ex G34 _ := Ex.new (o := .lst [.str "zzzzzzzz"]) hc4
        have kc4 : (upd G34 c4 (.lst [.str "zzzzzzzz"])) c4 = _ := upd_same
        generalize upd G34 c4 (.lst [.str "zzzzzzzz"]) = G35 at f35 kc4
        have g2335 := g2334.trans f35
        refine ⟨kp, c4, _, _, rfl, rfl, g2335 kp _ kkp23, kc4, sz_of (by rw [List.length_map]; show _ + 1 ≤ _; omega), fun c5 hc5 => ?_⟩
        rw [cx]
        have f36 : Ex G35 _ := Ex.new (o := .lst ((xs ++ [("zzzzzzzz" : Str)]).map V.str)) hc5
        have kc5 : (upd G35 c5 (.lst ((xs ++ [("zzzzzzzz" : Str)]).map V.str))) c5 = _ := upd_same
        generalize upd G35 c5 (.lst ((xs ++ [("zzzzzzzz" : Str)]).map V.str)) = G36 at f36 kc5
        have g3036 := f31.trans (f32.trans (f33.trans (f34.trans (f35.trans f36))))
        refine ⟨_, rfl, fun y5 dy5 hy5 hdy5 _ => web_made vok kc5 (g3036 mv _ kmv30) (endR_mono g3036 r30) hy5 hdy5 (fun G37 e5 f37 _ wt5 => ⟨rfl, ?_⟩)⟩
        refine ⟨by show 3 ≤ sizeLine; decide, fun ul hul => ?_⟩
        have f38 : Ex G37 _ := Ex.new (o := .lst [.ref y3, .ref y4, .ref y5]) hul
        have kul : (upd G37 ul (.lst [.ref y3, .ref y4, .ref y5])) ul = _ := upd_same
        generalize upd G37 ul (.lst [.ref y3, .ref y4, .ref y5]) = G38 at f38 kul
        have g3638 := f37.trans f38
        have g3438 := f35.trans (f36.trans g3638)
        have g3138 := f32.trans (f33.trans (f34.trans g3438))
        have g2338 := g2330.trans (f31.trans g3138)
        have wt38 := webE_mono g2338 wt23
        have all : ∀ v ∈ [V.ref y3, .ref y4, .ref y5], ∃ x kn en dx fs, v = .ref x ∧ G38 x = some (.ins (He.ga K "Web") dx fs) ∧ WebAt K G38 x kn en ∧ WebOk kn en ∧ webEq (srt xs) kn (ends raw) en = false := by
          intro v hv
          simp only [List.mem_cons, List.not_mem_nil, or_false] at hv
          rcases hv with rfl | rfl | rfl
          · obtain ⟨dx', k', kv', h1, h⟩ := id (webE_mono g3138 wt3)
            refine ⟨y3, _, _, _, _, rfl, h1, (webE_mono g3138 wt3).at_, webOk_of fok, ?_⟩
            unfold webEq
            rw [dictEq_len, Bool.and_false]
            rw [List.length_map, List.length_map, ends_len ok.kd, ends_len fok.kd]
            omega
          · obtain ⟨dx', k', kv', h1, h⟩ := id (webE_mono g3438 wt4)
            refine ⟨y4, _, _, _, _, rfl, h1, (webE_mono g3438 wt4).at_, webOk_of mok, ?_⟩
            unfold webEq
            rw [decide_eq_false kn_ne, Bool.false_and]
          · obtain ⟨dx', k', kv', h1, h⟩ := id (webE_mono f38 wt5)
            refine ⟨y5, _, _, _, _, rfl, h1, (webE_mono f38 wt5).at_, webOk_of vok, ?_⟩
            unfold webEq
            rw [decide_eq_false kn_ne, Bool.false_and]
        have ulq : SqL K G38 ul [.ref y3, .ref y4, .ref y5] := sq_of kul
        obtain ⟨zdx, zk, zkv, z1, z2, z3, z4⟩ := id wt38
        refine ⟨_, rfl, ul, rfl, ⟨_, ulq⟩, fun D4 hD4 => lc_it (walk_list (xs := [.ref y3, .ref y4, .ref y5])) (fun i G => Ex G38 G ∧ G D4 = some (.lst ((List.replicate i false).map V.bl)))
          ⟨Ex.new hD4, upd_same⟩ (fun i G _ hP => ex_l hP.1 ulq) (fun i v G G' hi hP hy => ?_) (fun G hP => ?_)⟩
        · obtain ⟨e7, hD5⟩ := hP
          obtain ⟨rfl, hv2⟩ := hy
          obtain ⟨x, kn, en, xdx, fs, rfl, hx, wx, wox, we⟩ := all v (List.mem_of_getElem? hv2)
          refine ⟨rfl, _, rfl, _, rfl, y, x, _, _, _, _, rfl, rfl, e7 y _ z1, e7 x _ hx, y, x, _, _, _, _, rfl, webAt_mono e7 wt38.at_, webAt_mono e7 wx, wo, wox, _, rfl, _, hD5, ?_, Ex.mut e7 hD4, ?_⟩
          · rw [List.length_map, List.length_replicate]
            exact sz_lt (by have hi3 : i < 3 := hi; omega)
          · rw [upd_same, we, List.replicate_succ', List.map_append]
            rfl
        obtain ⟨e40, hD5⟩ := hP
        refine ⟨D4, List.replicate 3 false, rfl, sq_of hD5, _, rfl, ?_⟩
        refine ⟨_, rfl, iteT ?_⟩
        have ulq2 := ex_l e40 ulq
        refine ⟨_, rfl, ul, rfl, ⟨_, ulq2⟩, fun D6 hD6 => lc_it (walk_list (xs := [.ref y3, .ref y4, .ref y5])) (fun i G2 => Ex G G2 ∧ G2 D6 = some (.lst ((List.replicate i true).map V.bl)))
          ⟨Ex.new hD6, upd_same⟩ (fun i G2 _ hP => ex_l hP.1 ulq2) (fun i v G2 G' hi hP hy => ?_) (fun G2 hP => ?_)⟩
        · obtain ⟨e8, hD7⟩ := hP
          obtain ⟨rfl, hv2⟩ := hy
          obtain ⟨x, kn, en, xdx, fs, rfl, hx, wx, wox, we⟩ := all v (List.mem_of_getElem? hv2)
          have e7 := e40.trans e8
          refine ⟨rfl, _, rfl, _, rfl, y, x, _, _, _, _, rfl, rfl, e7 y _ z1, e7 x _ hx, y, x, _, _, _, _, rfl, webAt_mono e7 wt38.at_, webAt_mono e7 wx, wo, wox, _, rfl, _, hD7, ?_, Ex.mut e8 hD6, ?_⟩
          · rw [List.length_map, List.length_replicate]
            exact sz_lt (by have hi3 : i < 3 := hi; omega)
          · rw [upd_same, we, List.replicate_succ', List.map_append]
            rfl
        obtain ⟨e41, hD7⟩ := hP
        refine ⟨D6, List.replicate 3 true, rfl, sq_of hD7, ?_⟩
        exact q G2 fun b o n1 n2 h => (g2338.trans (e40.trans e41)) b o (x23 b o n1 n2 h)
      · exact q G24 fun b o n1 n2 h => f24 b o (x23 b o n1 n2 h)
    · exact q G24 fun b o n1 n2 h => f24 b o (x23 b o n1 n2 h)
end
end L08
namespace L08
open PySem PySem.Spec PyProof.Rows L2 Evl Bf
section
variable {P : Program} {w : World} {K : PySem.W.Frag} {mg : Str → Option Value} {base : Heap} {f : Addr} {fd : FuncData}
def DueIs (G : Hp) (v : V) : Option (List V) → Prop
  | none => v = .non
  | some vs => ∃ q, v = .ref q ∧ G q = some (.tup vs)
theorem ret_of {H : Hp} {Q : VK} {D : Option (List V)} (h : ∀ v G, Ex H G → DueIs G v D → Q v G) : RetDue H Q D := by
  cases D with
  | none => exact fun G e => h _ G e rfl
  | some vs => exact fun q G _ e g => h _ G e ⟨q, rfl, g⟩
theorem dueIs_mono {G G' : Hp} {v : V} {D : Option (List V)} (e : Ex G G') (h : DueIs G v D) : DueIs G' v D := by
  cases D with
  | none => exact h
  | some vs =>
    obtain ⟨q, h1, h2⟩ := h
    exact ⟨q, h1, e _ _ h2⟩
def dueD : Bf.Due → PyData
  | .pl i => .tuple [.str "places", .int i]
  | .ti n => .tuple [.str "ties", .str n]
  | .many => .tuple [.str "many", .int 24]
  | .ok => .none
theorem dueD_ok {d : Bf.Due} (h : ∀ n, d = .ti n → PyData.strOk n = true) : SeqAt.shaped (dueD d) = true := by
  cases d with
  | pl i =>
    show ((PyData.strOk "places" && (true && true)) && decide (max 0 (max 0 0) + 1 ≤ 64)) = true
    rw [show PyData.strOk "places" = true by decide +kernel]
    rfl
  | ti n =>
    refine shaped_tup (xs := ["ties", n]) fun x hx => ?_
    rcases List.mem_cons.mp hx with rfl | hx
    · decide +kernel
    · rw [List.mem_singleton.mp hx]; exact h n rfl
  | many => decide +kernel
  | ok => rfl
theorem dueD_eqv (d : Bf.Due) : PyData.eqv (dueD d) (dueD d) = true := by
  cases d with
  | pl i =>
    show ((("places" : Str) == "places") && ((i == i) && true)) = true
    simp
  | ti n => exact (eqv_strs ["ties", n] ["ties", n]).trans (decide_eq_true rfl)
  | many => decide +kernel
  | ok => rfl
theorem dueD_dp {d : Bf.Due} {G : Hp} {v : V} (h : DueIs G v (dueV d)) : Dp K G v (dueD d) := by
  cases d with
  | pl i =>
    obtain ⟨q, rfl, hq⟩ := h
    exact .tup (st_of hq) (.cons (.str _) (.cons (.int i) .nil))
  | ti n =>
    obtain ⟨q, rfl, hq⟩ := h
    exact .tup (st_of hq) (.cons (.str _) (.cons (.str n) .nil))
  | many =>
    obtain ⟨q, rfl, hq⟩ := h
    exact .tup (st_of hq) (.cons (.str _) (.cons (.int 24) .nil))
  | ok =>
    have h' : v = .non := h
    rw [h']
    exact .non
theorem due_str {H : Hp} {p d : Addr} {xs : List Str} {ties : List (Str × TVal)} (wa : WebArg K H p d xs ties) : ∀ n, dueOf xs ties = .ti n → PyData.strOk n = true := by
  intro n h
  unfold dueOf at h
  cases hp : plErr xs with
  | some i => rw [hp] at h; cases h
  | none =>
    rw [hp] at h
    cases hf : firstOf (badTie xs ties) ties.length with
    | none =>
      simp only [hf] at h
      by_cases c : 24 < ties.length
      · rw [if_pos c] at h; cases h
      · rw [if_neg c] at h; cases h
    | some i =>
      simp only [hf] at h
      have e := Bf.Due.ti.inj h
      rw [← e]
      have hi : i < ties.length := by
        unfold firstOf at hf
        exact List.mem_range.mp (List.mem_of_find?_eq_some hf)
      exact (wa.ok2 _ (srt_getD (by rw [keysT_len]; exact hi))).2
theorem due_ne {d : Bf.Due} {G : Hp} {v : V} (h : DueIs G v (dueV d)) (n : d ≠ .ok) : v ≠ .non := by
  cases d with
  | ok => exact absurd rfl n
  | pl i => obtain ⟨q, rfl, hq⟩ := h; exact fun z => by cases z
  | ti n => obtain ⟨q, rfl, hq⟩ := h; exact fun z => by cases z
  | many => obtain ⟨q, rfl, hq⟩ := h; exact fun z => by cases z
def spRight : Sp := fun vs H Q _ => ∃ a : Addr, vs = [.ref a] ∧ H a = some (wellO a) ∧ ∀ G, Ex H G → Q (.bl true) G
theorem ok_right (F : FnS K "_law_right" "_law_right" sRight f fd) (B : Bl mg) (c__law_draw : Cal P w K mg base CX0 1 "_law_draw" ["_law_well", "_law_many"] spDraw) (c__law_drawn : Cal P w K mg base CX0 4 "_law_drawn" ["_law_well"] (spDrawn K))
    (c__law_spoiled : Cal P w K mg base CX0 3 "_law_spoiled" ["_law_well", "_law_places", "_law_ties"] (spSpoiled K)) (c__law_told : Cal P w K mg base CX0 6 "_law_told" ["_law_places", "_law_ties"] (spDue K))
    (c__law_due : Cal P w K mg base CX0 2 "_law_due" ["_law_places", "_law_ties"] (spDue K)) (c__law_web_right : Cal P w K mg base CX0 6 "_law_web_right" ["_law_well", "_law_places", "_law_ties"] (spRightW K)) :
    FnOk P w K mg base CX0 7 f fd ["_law_well"] spRight := by
  refine okD F scRight (fun vs H Q E h => ?_) (fun cdv A outer s H vs Q E hr h => ?_)
  · obtain ⟨a, rfl, _⟩ := h
    rfl
  · obtain ⟨a, rfl, hw, q⟩ := h
    refine ⟨_, (pss_cons (ps_asg (pe_cal c__law_drawn (hr.mono (by decide)) pass0 (pa_cons (pv 0) pa_nil)) (pg_tup (by rfl) (pgs_cons (pg_name (i := 1) scRight.nd rfl (.inl rfl)) (pgs_cons (pg_name (i := 2) scRight.nd rfl (.inl rfl)) pgs_nil))))
      (pss_cons (ps_par (i := 3) (j := 4) (by rfl) scRight.nd rfl rfl (by decide) rfl rfl (pa_cons (pv 1) (pa_cons (pv 2) pa_nil)) (by rfl))
      (pss_cons (ps_for PassesOwn.never (by rfl) (pi_range1 (by rfl) B.range (pa_cons (pe_op op_add pe_int (pe_cal c__law_draw (hr.mono (by decide)) pass0 (pa_cons (pv 0) (pa_cons pe_int pa_nil)))) pa_nil)) (pg_name (i := 5) scRight.nd rfl (.inl rfl))
      (pss_cons (ps_asg (pe_cal c__law_spoiled (hr.mono (by decide)) pass0 (pa_cons (pv 0) (pa_cons (pv 3) (pa_cons (pv 4) pa_nil)))) (pg_tup (by rfl) (pgs_cons (pg_name (i := 3) scRight.nd rfl (.inl rfl)) (pgs_cons (pg_name (i := 4) scRight.nd rfl (.inl rfl)) pgs_nil))))
      (pss_one (ps_if (pt_cmpR (op_neD hr.units) (pe_cal c__law_told (hr.mono (by decide)) pass0 (pa_cons (pe_callTy call_list_of (by rfl) B.list (by decide +kernel) (pa_cons (pv 3) pa_nil)) (pa_cons (pe_callTy call_dictD (by rfl) B.dict (by decide +kernel) (pa_cons (pv 4) pa_nil)) pa_nil))) (pe_cal c__law_due (hr.mono (by decide)) pass0 (pa_cons (pv 3) (pa_cons (pv 4) pa_nil))) (nomark _))
      (pss_one (ps_ret pe_bl))
      pss_nil))))
      (pss_cons (ps_if (pt_cmpR (op_neD hr.units) (pe_cal c__law_told (hr.mono (by decide)) pass0 (pa_cons (pe_callTy call_list_of (by rfl) B.list (by decide +kernel) (pa_cons (pv 1) pa_nil)) (pa_cons (pe_callTy call_dictD (by rfl) B.dict (by decide +kernel) (pa_cons (pv 2) pa_nil)) pa_nil))) (pe_cal c__law_due (hr.mono (by decide)) pass0 (pa_cons (pv 1) (pa_cons (pv 2) pa_nil))) (nomark _))
      (pss_one (ps_ret pe_bl))
      pss_nil)
      (pss_one (ps_ret (pe_or (pe_cmpR op_notN (pe_cal c__law_due (hr.mono (by decide)) pass0 (pa_cons (pv 1) (pa_cons (pv 2) pa_nil))) pe_non (nomark _)) (pe_one (pe_cal c__law_web_right (hr.mono (by decide)) pass0 (pa_cons (pv 0) (pa_cons (pe_callTy call_list_of (by rfl) B.list (by decide +kernel) (pa_cons (pv 1) pa_nil)) (pa_cons (pe_callTy call_dictD (by rfl) B.dict (by decide +kernel) (pa_cons (pv 2) pa_nil)) pa_nil)))))))))))), ?_⟩
    refine ⟨_, rfl, a, rfl, hw, fun xs ties p d t G1 f1 wi dw kt => ⟨t, _, rfl, st_of kt, rfl, _, _, rfl, _, _, rfl, rfl, ?_⟩⟩
    refine ⟨_, rfl, _, rfl, _, _, rfl, ?_⟩
    refine ⟨_, rfl, a, 3, rfl, f1 a _ hw, by decide, by decide, fun k k0 k1 => ⟨_, _, rfl, rfl, ?_⟩⟩
    obtain ⟨m, hm⟩ := Int.eq_ofNat_of_zero_le (show 0 ≤ 1 + k by omega)
    refine ⟨m, by show [V.int (1 + k)] = _; rw [hm], by omega, by omega, for_range (lo := 0) (n := m) (fun i σ G => ∃ bp bd bxs bties y5, σ = [some (.ref a), some (.ref p), some (.ref d), some (.ref bp), some (.ref bd), y5] ∧ Ex G1 G ∧ WebIn K G bp bd bxs bties ∧ bxs.length ≤ 17 + i ∧ bties.length ≤ 25 + i)
      ⟨p, d, xs, ties, none, rfl, Ex.refl G1, wi, dw.2.1, dw.2.2.2.1⟩ (fun i σ G hi hP => ?_) (fun σ G hP => ?_)⟩
    · obtain ⟨bp, bd, bxs, bties, y5, rfl, e1, bwi, bl1, bl2⟩ := hP
      refine ⟨_, rfl, _, rfl, _, rfl, a, bp, bd, bxs, bties, rfl, (f1.trans e1) a _ hw, bwi, by omega, by omega, fun xs' ties' p' d' t' G2 f2 wi' l1 l2 kt' => ⟨t', _, rfl, st_of kt', rfl, _, _, rfl, _, _, rfl, rfl, ?_⟩⟩
      obtain ⟨kvs', hd', tr'⟩ := wi'.arg.di
      refine ⟨_, rfl, p', _, rfl, .inl (sq_of wi'.hp), fun lp hlp => ?_⟩
      have f3 : Ex G2 _ := Ex.new (o := .lst (xs'.map V.str)) hlp
      have klp : (upd G2 lp (.lst (xs'.map V.str))) lp = _ := upd_same
      generalize upd G2 lp (.lst (xs'.map V.str)) = G3 at f3 klp
      refine ⟨_, rfl, d', kvs', rfl, .inl (f3 d' _ hd'), fun ld hld => ?_⟩
      have f4 : Ex G3 _ := Ex.new (o := .dK kvs') hld
      have kld : (upd G3 ld (.dK kvs')) ld = _ := upd_same
      generalize upd G3 ld (.dK kvs') = G4 at f4 kld
      have w' := wi'.arg
      refine ⟨lp, ld, xs', ties', rfl, ⟨sq_of (f4 lp _ klp), w'.len, w'.ok, ⟨kvs', kld, tieR_mono (f3.trans f4) tr'⟩, w'.nd, w'.len2, w'.ok2⟩, ret_of fun v G5 f5 dv => ?_⟩
      have g25 := f3.trans (f4.trans f5)
      refine ⟨_, rfl, _, rfl, p', d', xs', ties', rfl, webArg_mono g25 w', ret_of fun v2 G6 f6 dv2 => ?_⟩
      refine ⟨_, _, dueD_dp (dueIs_mono f6 dv), dueD_dp dv2, dueD_ok (due_str w'), dueD_ok (due_str w'), _, rfl, ?_⟩
      rw [dueD_eqv]
      refine iteF ?_
      exact ⟨p', d', xs', ties', _, rfl, e1.trans (f2.trans (g25.trans f6)), webIn_mono (g25.trans f6) wi', by omega, by omega⟩
    · obtain ⟨bp, bd, bxs, bties, y5, rfl, e1, _, _, _⟩ := hP
      have wi' := webIn_mono e1 wi
      have w' := wi'.arg
      obtain ⟨kvs, hd, tr⟩ := w'.di
      refine ⟨_, rfl, p, _, rfl, .inl (sq_of wi'.hp), fun lp hlp => ?_⟩
      have f3 : Ex G _ := Ex.new (o := .lst (xs.map V.str)) hlp
      have klp : (upd G lp (.lst (xs.map V.str))) lp = _ := upd_same
      generalize upd G lp (.lst (xs.map V.str)) = G3 at f3 klp
      refine ⟨_, rfl, d, kvs, rfl, .inl (f3 d _ hd), fun ld hld => ?_⟩
      have f4 : Ex G3 _ := Ex.new (o := .dK kvs) hld
      have kld : (upd G3 ld (.dK kvs)) ld = _ := upd_same
      generalize upd G3 ld (.dK kvs) = G4 at f4 kld
      refine ⟨lp, ld, xs, ties, rfl, ⟨sq_of (f4 lp _ klp), w'.len, w'.ok, ⟨kvs, kld, tieR_mono (f3.trans f4) tr⟩, w'.nd, w'.len2, w'.ok2⟩, ret_of fun v G5 f5 dv => ?_⟩
      have g25 := f3.trans (f4.trans f5)
      refine ⟨_, rfl, _, rfl, p, d, xs, ties, rfl, webArg_mono g25 w', ret_of fun v2 G6 f6 dv2 => ?_⟩
      refine ⟨_, _, dueD_dp (dueIs_mono f6 dv), dueD_dp dv2, dueD_ok (due_str w'), dueD_ok (due_str w'), _, rfl, ?_⟩
      rw [dueD_eqv]
      refine iteF ?_
      have g26 := g25.trans f6
      refine ⟨_, rfl, _, rfl, p, d, xs, ties, rfl, webArg_mono g26 w', ret_of fun v3 G7 f7 dv3 => ?_⟩
      have F7 := f1.trans (e1.trans (g26.trans f7))
      by_cases c : dueOf xs ties = .ok
      · have ev : v3 = .non := by
          rw [c] at dv3
          exact dv3
        subst ev
        refine ⟨rfl, _, rfl, iteF ?_⟩
        obtain ⟨raw, et, ro⟩ := raw_of c dw.2.2.1 dw.2.2.2.2
        subst et
        have nk := dw.2.2.2.2
        rw [keysT_of] at nk
        have g7 := g26.trans f7
        refine ⟨_, rfl, _, rfl, p, _, rfl, .inl (sq_of (g7 p _ wi'.hp)), fun lp2 hlp2 => ?_⟩
        have f8 : Ex G7 _ := Ex.new (o := .lst (xs.map V.str)) hlp2
        have klp2 : (upd G7 lp2 (.lst (xs.map V.str))) lp2 = _ := upd_same
        generalize upd G7 lp2 (.lst (xs.map V.str)) = G8 at f8 klp2
        refine ⟨_, rfl, d, kvs, rfl, .inl (f8 d _ (g7 d _ hd)), fun ld2 hld2 => ?_⟩
        have f9 : Ex G8 _ := Ex.new (o := .dK kvs) hld2
        have kld2 : (upd G8 ld2 (.dK kvs)) ld2 = _ := upd_same
        generalize upd G8 ld2 (.dK kvs) = G9 at f9 kld2
        have g9 := g7.trans (f8.trans f9)
        refine ⟨a, lp2, ld2, xs, raw, kvs, rfl, (f1.trans (e1.trans g9)) a _ hw, f9 lp2 _ klp2, kld2, endR_of (tieR_mono g9 tr), ro, dw.2.2.1.2, nk.2, fun G10 x10 => q G10 fun b o h => ?_⟩
        have h7 := F7 b o h
        exact x10 b o (fun z => by rw [z, hlp2] at h7; cases h7) (fun z => by rw [z] at h7; rw [f8 _ _ h7] at hld2; cases hld2) (f9 b o (f8 b o h7))
      · have nn := due_ne dv3 c
        refine ⟨rfl, _, rfl, ?_⟩
        rw [decide_eq_false nn]
        exact iteT (q G7 F7)
end
end L08
namespace L08
open PySem PySem.Spec PyProof.Rows L2 Evl Bf
section
variable {P : Program} {w : World} {K : PySem.W.Frag} {mg : Str → Option Value} {base : Heap} {f : Addr} {fd : FuncData}
def spLaw (K : PySem.W.Frag) : Sp := fun vs H Q _ => ∃ (p : Addr) (ns : List Int), vs = [.ref p] ∧ SqL K H p (ns.map V.int) ∧ ∀ G, Q (.bl true) G
theorem ok_law (F : FnS K "law" "law" sLaw f fd) (B : Bl mg) (c__law_source : Cal P w K mg base CX0 1 "_law_source" ["_law_cell"] spSource) (c__law_right : Cal P w K mg base CX0 7 "_law_right" ["_law_well"] spRight) :
    FnOk P w K mg base CX0 8 f fd ["_law_script"] (spLaw K) := by
  refine okD F scLaw (fun vs H Q E h => ?_) (fun cdv A outer s H vs Q E hr h => ?_)
  · obtain ⟨p, ns, rfl, _⟩ := h
    rfl
  · obtain ⟨p, ns, rfl, hp, q⟩ := h
    refine ⟨_, (pss_one (ps_ret (pe_callB (cr_all rfl) (by rfl) B.all (by decide +kernel) (pa_cons (pe_lc (own := [("_law_cell", 1)]) (g := (gName 1)) (by rfl) scLaw.nd (pi_list (pe_op op_cat (pe_slice sl_list (pv 0) po_none (po_some pe_int)) (pe_lst (pa_cons pe_int pa_nil)))) (blkOk_by (own := [("_law_cell", 1)]) (N := nLaw) (sc := defScope sLaw) (by decide +kernel)) (fun _ _ _ _ _ => (pg_name (i := 1) scLaw.nd rfl (.inl rfl))) (fun _ _ _ _ _ => pts_nil) (fun _ _ _ _ _ => (pe_cal c__law_right (hr.mono (by decide)) pass0 (pa_cons (pe_cal c__law_source (hr.mono (by decide)) pass0 (pa_cons (pv 1) pa_nil)) pa_nil)))) pa_nil)))), ?_⟩
    refine ⟨_, rfl, _, rfl, p, _, rfl, hp, fun c1 hc1 => ?_⟩
    obtain ⟨ms, hm, hl⟩ : ∃ ms : List Int, cutV (ns.map V.int) none (some 3) = ms.map V.int ∧ ms.length ≤ 3 := by
      refine ⟨ns.take 3, ?_, by rw [List.length_take]; omega⟩
      unfold cutV
      rw [HT.sIx_none, show (3 : Int) = ((3 : Nat) : Int) from rfl, HT.sIx_nat, List.drop_zero, Nat.sub_zero, List.map_take]
      rw [List.take_eq_take_iff]
      omega
    rw [hm]
    have f1 : Ex H _ := Ex.new (o := .lst (ms.map V.int)) hc1
    have k1 : (upd H c1 (.lst (ms.map V.int))) c1 = _ := upd_same
    generalize upd H c1 (.lst (ms.map V.int)) = G1 at f1 k1
    refine ⟨by show 1 ≤ sizeLine; decide, fun c2 hc2 => ?_⟩
    have f2 : Ex G1 _ := Ex.new (o := .lst [.int 0]) hc2
    have k2 : (upd G1 c2 (.lst [.int 0])) c2 = _ := upd_same
    generalize upd G1 c2 (.lst [.int 0]) = G2 at f2 k2
    refine ⟨c1, c2, _, _, rfl, rfl, f2 c1 _ k1, k2, sz_of (by rw [List.length_map]; show _ + 1 ≤ _; omega), fun c3 hc3 => ?_⟩
    have cx : ms.map V.int ++ [.int 0] = (ms ++ [0]).map V.int := by rw [List.map_append]; rfl
    rw [cx]
    have f3 : Ex G2 _ := Ex.new (o := .lst ((ms ++ [0]).map V.int)) hc3
    have k3 : (upd G2 c3 (.lst ((ms ++ [0]).map V.int))) c3 = _ := upd_same
    generalize upd G2 c3 (.lst ((ms ++ [0]).map V.int)) = G3 at f3 k3
    refine ⟨c3, rfl, ⟨_, sq_of k3⟩, fun D hD => lc_it (walk_list (xs := (ms ++ [0]).map V.int)) (fun i G => Ex G3 G ∧ G D = some (.lst ((List.replicate i true).map V.bl)))
      ⟨Ex.new hD, upd_same⟩ (fun i G _ hP => sq_of (hP.1 c3 _ k3)) (fun i v G G' hi hP hy => ?_) (fun G hP => ?_)⟩
    · obtain ⟨e, hD2⟩ := hP
      obtain ⟨rfl, hv⟩ := hy
      obtain ⟨n, _, rfl⟩ := List.mem_map.mp (List.mem_of_getElem? hv)
      refine ⟨rfl, _, rfl, n, rfl, fun wl hwl => ⟨wl, rfl, upd_same, fun G5 f5 => ⟨_, f5 D _ (Ex.new hwl D _ hD2), ?_, ?_, ?_⟩⟩⟩
      · rw [List.length_map, List.length_append] at hi
        rw [List.length_map, List.length_replicate]
        exact sz_lt (by have : i < ms.length + 1 := hi; omega)
      · exact Ex.mut (e.trans ((Ex.new hwl).trans f5)) hD
      · rw [upd_same, List.replicate_succ', List.map_append]
        rfl
    obtain ⟨e, hD2⟩ := hP
    refine ⟨D, _, rfl, sq_of hD2, ?_⟩
    have v2 : (List.replicate ((ms ++ [0]).map V.int).length true).all id = true := by simp
    rw [v2]
    exact q G
end
end L08
namespace L08
open PySem PySem.Spec PyProof.Rows L2 Evl Bf
/-! ### the defs and the facts of the written part -/
def dd (n : Str) (st : Stmt) : He.DefD := ⟨(n, none), n, n, defArgs st, defBody st, defScope st, [], []⟩
def dm (c n q : Str) (st : Stmt) : He.DefD := ⟨(c, some n), n, q, defArgs st, defBody st, defScope st, [], []⟩
abbrev xNo : Stmt := inClass (top 3) 0
abbrev xMany : Stmt := inClass (top 4) 0
abbrev xPl : Stmt := inClass (top 5) 0
abbrev xTi : Stmt := inClass (top 6) 0
def fn : List He.DefD := [dd "is_name" sIsName, dd "need_places" sNeedPlaces, dd "is_pair" sIsPair, dd "_law_source" sSource, dd "_law_draw" sDraw, dd "_law_pick" sPick, dd "_law_names" sNames, dd "_law_shuffled" sShuf, dd "_law_is_name" sLawIsName, dd "_law_due" sDue,
  dd "_law_told" sTold, dd "_law_drawn" sDrawn, dd "_law_spoiled" sSpoiled, dd "_law_ends_refused" sEndsRef, dd "_law_web_right" sWebRight, dd "_law_right" sRight, dd "law" sLaw,
  dm "Web" "__init__" "Web.__init__" sInit, dm "Web" "places" "Web.places" sPlaces, dm "Web" "ties" "Web.ties" sTies, dm "Web" "ends" "Web.ends" sEnds, dm "Web" "__eq__" "Web.__eq__" sEq,
  dm "NoThing" "__init__" "NoThing.__init__" xNo, dm "TooMany" "__init__" "TooMany.__init__" xMany, dm "BadPlaces" "__init__" "BadPlaces.__init__" xPl, dm "BadTies" "__init__" "BadTies.__init__" xTi]
def globs : List Str := ["is_name", "need_places", "is_pair", "_law_source", "_law_draw", "_law_pick", "_law_names", "_law_shuffled", "_law_is_name", "_law_due", "_law_told", "_law_drawn", "_law_spoiled", "_law_ends_refused", "_law_web_right", "_law_right", "law",
  "Web", "NoThing", "TooMany", "BadPlaces", "BadTies"]
def fa : List He.Fa := [.str "LETTERS" abc, .int "MOST_LETTERS" 8, .int "MOST_THINGS" 24, .int "MOST_PLACES" 16, .cls "Web", .noat "Web" "known", .noat "Web" "ending", .mkr "Web", .meth "Web" "places", .meth "Web" "ties", .meth "Web" "ends",
  .exm "BadPlaces" "BadPlaces" true, .exm "BadTies" "BadPlaces" false, .exm "BadTies" "BadTies" true, .exm "TooMany" "BadPlaces" false, .exm "TooMany" "BadTies" false, .exm "TooMany" "TooMany" true, .exm "NoThing" "NoThing" true]
def insB (K : PySem.W.Frag) (C : Addr) : Bool := isO (PySem.W.findIn K (.ref C) "__class__") (some (some (.builtin "object.__class__"))) && (isO (PySem.W.specialIn K (.builtin "object.__class__") "__get__") (some (some (.builtin "getset_descriptor.__get__"))) &&
  (decide (PySem.W.takesIn K (.builtin "object.__class__") = some true) && (decide (PySem.W.mroIn K C (.type "object") = some true) && decide (PySem.W.kitOne K (.ref C) (.ref C) = some true))))
theorem insB_ok {K : PySem.W.Frag} {C : Addr} (h : insB K C = true) (cl : Cls K C) : C8.InsC K C := by
  obtain ⟨h1, h⟩ := Bool.and_eq_true_iff.mp h
  obtain ⟨h2, h⟩ := Bool.and_eq_true_iff.mp h
  obtain ⟨h3, h⟩ := Bool.and_eq_true_iff.mp h
  obtain ⟨h4, h5⟩ := Bool.and_eq_true_iff.mp h
  exact ⟨cl, of_decide_eq_true h1, of_decide_eq_true h2, of_decide_eq_true h3, of_decide_eq_true h4, of_decide_eq_true h5⟩
def ex (K : PySem.W.Frag) : Bool := globB K globs && (freeB K blNames && ((fa.all fun f => f.ok K) && (excB K "NoThing" "thing" && (excB K "TooMany" "limit" && (excB K "BadPlaces" "index" && (excB K "BadTies" "name" && (ownB K (He.ga K "Web") && insB K (He.ga K "Web"))))))))
abbrev R : PySem.W.OpenRow := PySem.W.OpenLaw.row PySem.Challenge.rw_bothfree_k08_webs_told_and_refused
abbrev hk : PySem.W.Hook := hookB 4 fn ex
abbrev ob (s : PySem.W.SharedT) : AlB := lookB 4 fn ex s
theorem ob_eq (s : PySem.W.SharedT) : ob s = hk.obs s.abs := lookB_eq 4 fn ex s
def loose : List Str := ["_wall", "LotError", "NoThing", "TooMany", "BadPlaces", "BadTies", "LETTERS", "MOST_LETTERS", "MOST_THINGS", "is_name", "MOST_PLACES", "need_places", "is_pair", "Web",
  "_law_source", "_law_draw", "_law_pick", "_law_names", "_law_shuffled", "_law_is_name", "_law_due", "_law_told", "_law_drawn", "_law_spoiled", "_law_ends_refused", "_law_web_right", "_law_right"]
theorem run (w : World) : HandSHeadRun.RunEq R (PySem.W.view R.prog [31]) hk ob 20000 loose w := by
  intro os
  kernel_rfl
end L08
namespace L08
open PySem PySem.Spec PyProof.Rows L2 Evl Bf
theorem SayB.def_ {fn : List He.DefD} {ex : PySem.W.Frag → Bool} {K : PySem.W.Frag} (c : Bf.SayB fn ex K) (i : Nat) {d : He.DefD} (h : fn[i]? = some d) : ∃ fd, FunD K d.name d.qual d.params d.body d.scope (d.dvs K) (d.kws K) (He.fAd K d.at_) fd :=
  c.defs d (List.mem_of_getElem? h)
section
variable {P : Program} {w : World} {K : PySem.W.Frag} {mg : Str → Option Value} {base : Heap}
theorem cal_of {CX : CXT} {k : Nat} {x : Str} {ps : List Str} {sp : Sp} {st : Stmt} {fd : FuncData} (F : FnS K x x st (He.ga K x) fd) (ok : FnOk P w K mg base CX k (He.ga K x) fd ps sp) (g : mg x = some (.ref (He.ga K x)))
    (b : ∀ (kV doc pm : Value) (an : Option Addr) (cdv ct : Value) (us : List Value), us.length = ps.length → bindArgs (PySem.W.fnOf x x (defArgs st) (defBody st) (defScope st) .none kV doc pm an cdv ct) ⟨us, []⟩ = pure (ps.zip us)) :
    Cal P w K mg base CX k x ps sp := ⟨He.ga K x, fd, ok, g, F.kp, F.bindsN b⟩
theorem facts {h : Heap} {f : Addr} (X : K.In h) (G : h.Ns mainGlobals mg) (hfa : mg ("law" : Str) = some (.ref f)) (c : Bf.SayB fn ex K) :
    ∃ fd : FuncData, (∀ (s : Shared) (v : Value), BindsTo s fd ⟨[v], []⟩ [("_law_script", v)]) ∧ ∀ base : Heap, K.In base → base.Ns mainGlobals mg → FnOk P w K mg base CX0 8 f fd ["_law_script"] (spLaw K) := by
  obtain ⟨h1, h'⟩ := Bool.and_eq_true_iff.mp c.more
  obtain ⟨h2, h'⟩ := Bool.and_eq_true_iff.mp h'
  obtain ⟨h3, h'⟩ := Bool.and_eq_true_iff.mp h'
  obtain ⟨h4, h'⟩ := Bool.and_eq_true_iff.mp h'
  obtain ⟨h5, h'⟩ := Bool.and_eq_true_iff.mp h'
  obtain ⟨h6, h'⟩ := Bool.and_eq_true_iff.mp h'
  obtain ⟨h7, h'⟩ := Bool.and_eq_true_iff.mp h'
  obtain ⟨h8, h9⟩ := Bool.and_eq_true_iff.mp h'
  have g : ∀ {x : Str}, x ∈ globs → mg x = some (.ref (He.ga K x)) := fun hx => globB_ok X G h1 hx
  have B : Bl mg := bl_of X G h2
  have a : ∀ {q : He.Fa} (i : Nat), fa[i]? = some q → q.ok K = true := fun i hq => List.all_eq_true.mp h3 _ (List.mem_of_getElem? hq)
  obtain ⟨fd0, F0⟩ := SayB.def_ c 0 (d := dd "is_name" sIsName) rfl
  replace F0 : FnS K "is_name" "is_name" sIsName (He.ga K "is_name") fd0 := F0
  obtain ⟨fd1, F1⟩ := SayB.def_ c 1 (d := dd "need_places" sNeedPlaces) rfl
  replace F1 : FnS K "need_places" "need_places" sNeedPlaces (He.ga K "need_places") fd1 := F1
  obtain ⟨fd2, F2⟩ := SayB.def_ c 2 (d := dd "is_pair" sIsPair) rfl
  replace F2 : FnS K "is_pair" "is_pair" sIsPair (He.ga K "is_pair") fd2 := F2
  obtain ⟨fd3, F3⟩ := SayB.def_ c 3 (d := dd "_law_source" sSource) rfl
  replace F3 : FnS K "_law_source" "_law_source" sSource (He.ga K "_law_source") fd3 := F3
  obtain ⟨fd4, F4⟩ := SayB.def_ c 4 (d := dd "_law_draw" sDraw) rfl
  replace F4 : FnS K "_law_draw" "_law_draw" sDraw (He.ga K "_law_draw") fd4 := F4
  obtain ⟨fd5, F5⟩ := SayB.def_ c 5 (d := dd "_law_pick" sPick) rfl
  replace F5 : FnS K "_law_pick" "_law_pick" sPick (He.ga K "_law_pick") fd5 := F5
  obtain ⟨fd6, F6⟩ := SayB.def_ c 6 (d := dd "_law_names" sNames) rfl
  replace F6 : FnS K "_law_names" "_law_names" sNames (He.ga K "_law_names") fd6 := F6
  obtain ⟨fd7, F7⟩ := SayB.def_ c 7 (d := dd "_law_shuffled" sShuf) rfl
  replace F7 : FnS K "_law_shuffled" "_law_shuffled" sShuf (He.ga K "_law_shuffled") fd7 := F7
  obtain ⟨fd8, F8⟩ := SayB.def_ c 8 (d := dd "_law_is_name" sLawIsName) rfl
  replace F8 : FnS K "_law_is_name" "_law_is_name" sLawIsName (He.ga K "_law_is_name") fd8 := F8
  obtain ⟨fd9, F9⟩ := SayB.def_ c 9 (d := dd "_law_due" sDue) rfl
  replace F9 : FnS K "_law_due" "_law_due" sDue (He.ga K "_law_due") fd9 := F9
  obtain ⟨fd10, F10⟩ := SayB.def_ c 10 (d := dd "_law_told" sTold) rfl
  replace F10 : FnS K "_law_told" "_law_told" sTold (He.ga K "_law_told") fd10 := F10
  obtain ⟨fd11, F11⟩ := SayB.def_ c 11 (d := dd "_law_drawn" sDrawn) rfl
  replace F11 : FnS K "_law_drawn" "_law_drawn" sDrawn (He.ga K "_law_drawn") fd11 := F11
  obtain ⟨fd12, F12⟩ := SayB.def_ c 12 (d := dd "_law_spoiled" sSpoiled) rfl
  replace F12 : FnS K "_law_spoiled" "_law_spoiled" sSpoiled (He.ga K "_law_spoiled") fd12 := F12
  obtain ⟨fd13, F13⟩ := SayB.def_ c 13 (d := dd "_law_ends_refused" sEndsRef) rfl
  replace F13 : FnS K "_law_ends_refused" "_law_ends_refused" sEndsRef (He.ga K "_law_ends_refused") fd13 := F13
  obtain ⟨fd14, F14⟩ := SayB.def_ c 14 (d := dd "_law_web_right" sWebRight) rfl
  replace F14 : FnS K "_law_web_right" "_law_web_right" sWebRight (He.ga K "_law_web_right") fd14 := F14
  obtain ⟨fd15, F15⟩ := SayB.def_ c 15 (d := dd "_law_right" sRight) rfl
  replace F15 : FnS K "_law_right" "_law_right" sRight (He.ga K "_law_right") fd15 := F15
  obtain ⟨fd16, F16⟩ := SayB.def_ c 16 (d := dd "law" sLaw) rfl
  replace F16 : FnS K "law" "law" sLaw (He.ga K "law") fd16 := F16
  obtain ⟨fd17, F17⟩ := SayB.def_ c 17 (d := dm "Web" "__init__" "Web.__init__" sInit) rfl
  replace F17 : FnS K "__init__" "Web.__init__" sInit (He.ma K (He.ga K "Web") "__init__") fd17 := F17
  obtain ⟨fd18, F18⟩ := SayB.def_ c 18 (d := dm "Web" "places" "Web.places" sPlaces) rfl
  replace F18 : FnS K "places" "Web.places" sPlaces (He.ma K (He.ga K "Web") "places") fd18 := F18
  obtain ⟨fd19, F19⟩ := SayB.def_ c 19 (d := dm "Web" "ties" "Web.ties" sTies) rfl
  replace F19 : FnS K "ties" "Web.ties" sTies (He.ma K (He.ga K "Web") "ties") fd19 := F19
  obtain ⟨fd20, F20⟩ := SayB.def_ c 20 (d := dm "Web" "ends" "Web.ends" sEnds) rfl
  replace F20 : FnS K "ends" "Web.ends" sEnds (He.ma K (He.ga K "Web") "ends") fd20 := F20
  obtain ⟨fd21, F21⟩ := SayB.def_ c 21 (d := dm "Web" "__eq__" "Web.__eq__" sEq) rfl
  replace F21 : FnS K "__eq__" "Web.__eq__" sEq (He.ma K (He.ga K "Web") "__eq__") fd21 := F21
  obtain ⟨fd22, F22⟩ := SayB.def_ c 22 (d := dm "NoThing" "__init__" "NoThing.__init__" xNo) rfl
  replace F22 : FnS K "__init__" "NoThing.__init__" xNo (He.ma K (He.ga K "NoThing") "__init__") fd22 := F22
  obtain ⟨fd23, F23⟩ := SayB.def_ c 23 (d := dm "TooMany" "__init__" "TooMany.__init__" xMany) rfl
  replace F23 : FnS K "__init__" "TooMany.__init__" xMany (He.ma K (He.ga K "TooMany") "__init__") fd23 := F23
  obtain ⟨fd24, F24⟩ := SayB.def_ c 24 (d := dm "BadPlaces" "__init__" "BadPlaces.__init__" xPl) rfl
  replace F24 : FnS K "__init__" "BadPlaces.__init__" xPl (He.ma K (He.ga K "BadPlaces") "__init__") fd24 := F24
  obtain ⟨fd25, F25⟩ := SayB.def_ c 25 (d := dm "BadTies" "__init__" "BadTies.__init__" xTi) rfl
  replace F25 : FnS K "__init__" "BadTies.__init__" xTi (He.ma K (He.ga K "BadTies") "__init__") fd25 := F25
  have e := hfa.symm.trans (g (x := "law") (by decide))
  cases e
  have b := FunD.bindsA (ps := ["_law_script"]) F16 (fun _ _ _ _ _ _ us hl => match us, hl with | [_], _ => rfl)
  refine ⟨fd16, fun s v => b s [v] rfl, fun base _ _ => ?_⟩
  have xNoT : ExT P w K mg base "NoThing" "thing" (He.ga K "NoThing") := excB_ok h4 (g (by decide)) (by
    obtain ⟨ps, o⟩ := ok_xinit (P := P) (w := w) (mg := mg) (base := base) (fld := "thing") F22 rfl ⟨rfl, rfl, rfl, by decide +kernel, rfl, by decide +kernel, by decide +kernel⟩ rfl rfl (by decide) (by decide) (fun _ _ _ _ _ _ us hl => match us, hl with | [_, _], _ => rfl)
    exact ⟨fd22, ps, o⟩)
  have xManyT : ExT P w K mg base "TooMany" "limit" (He.ga K "TooMany") := excB_ok h5 (g (by decide)) (by
    obtain ⟨ps, o⟩ := ok_xinit (P := P) (w := w) (mg := mg) (base := base) (fld := "limit") F23 rfl ⟨rfl, rfl, rfl, by decide +kernel, rfl, by decide +kernel, by decide +kernel⟩ rfl rfl (by decide) (by decide) (fun _ _ _ _ _ _ us hl => match us, hl with | [_, _], _ => rfl)
    exact ⟨fd23, ps, o⟩)
  have xPlT : ExT P w K mg base "BadPlaces" "index" (He.ga K "BadPlaces") := excB_ok h6 (g (by decide)) (by
    obtain ⟨ps, o⟩ := ok_xinit (P := P) (w := w) (mg := mg) (base := base) (fld := "index") F24 rfl ⟨rfl, rfl, rfl, by decide +kernel, rfl, by decide +kernel, by decide +kernel⟩ rfl rfl (by decide) (by decide) (fun _ _ _ _ _ _ us hl => match us, hl with | [_, _], _ => rfl)
    exact ⟨fd24, ps, o⟩)
  have xTiT : ExT P w K mg base "BadTies" "name" (He.ga K "BadTies") := excB_ok h7 (g (by decide)) (by
    obtain ⟨ps, o⟩ := ok_xinit (P := P) (w := w) (mg := mg) (base := base) (fld := "name") F25 rfl ⟨rfl, rfl, rfl, by decide +kernel, rfl, by decide +kernel, by decide +kernel⟩ rfl rfl (by decide) (by decide) (fun _ _ _ _ _ _ us hl => match us, hl with | [_, _], _ => rfl)
    exact ⟨fd25, ps, o⟩)
  have cW : Cls K (He.ga K "Web") := He.cls_ok (a 4 rfl)
  have T : WebT K mg := ⟨g (by decide), cW, He.noat_ok (a 5 rfl), He.noat_ok (a 6 rfl), insB_ok h9 cW⟩
  have x3 : Exm3 K := ⟨He.exm_ok (a 11 rfl), He.exm_ok (a 12 rfl), He.exm_ok (a 13 rfl), He.exm_ok (a 14 rfl), He.exm_ok (a 15 rfl), He.exm_ok (a 16 rfl)⟩
  have kML := He.int_ok X G (a 1 rfl)
  have kMT := He.int_ok X G (a 2 rfl)
  have kMP := He.int_ok X G (a 3 rfl)
  have kL := He.str_ok X G (a 0 rfl)
  have c0 := cal_of F0 (ok_isName (P := P) (w := w) (base := base) F0 B kL kML) (g (by decide)) (fun _ _ _ _ _ _ us hl => match us, hl with | [_], _ => rfl)
  have c1 := cal_of F1 (ok_need (P := P) (w := w) (base := base) F1 B kMP xPlT c0) (g (by decide)) (fun _ _ _ _ _ _ us hl => match us, hl with | [_], _ => rfl)
  have c2 := cal_of F2 (ok_pair (P := P) (w := w) (base := base) F2 B) (g (by decide)) (fun _ _ _ _ _ _ us hl => match us, hl with | [_, _], _ => rfl)
  have c3 := cal_of F3 (source_abs rfl (ok_source0 (P := P) (w := w) (base := base) F3 B)) (g (by decide)) (fun _ _ _ _ _ _ us hl => match us, hl with | [_], _ => rfl)
  have c4 := cal_of F4 (draw_abs rfl (ok_draw0 (P := P) (w := w) (base := base) F4 B)) (g (by decide)) (fun _ _ _ _ _ _ us hl => match us, hl with | [_, _], _ => rfl)
  have c5 := cal_of F5 (ok_pick F5 B c4) (g (by decide)) (fun _ _ _ _ _ _ us hl => match us, hl with | [_, _], _ => rfl)
  have c6 := cal_of F6 (ok_names F6 B c4 c5) (g (by decide)) (fun _ _ _ _ _ _ us hl => match us, hl with | [_, _], _ => rfl)
  have c7 := cal_of F7 (ok_shuf F7 B c4) (g (by decide)) (fun _ _ _ _ _ _ us hl => match us, hl with | [_, _], _ => rfl)
  have c8 := cal_of F8 (ok_lawIsName (P := P) (w := w) (base := base) F8 B) (g (by decide)) (fun _ _ _ _ _ _ us hl => match us, hl with | [_], _ => rfl)
  have c9 := cal_of F9 (ok_due F9 B c8) (g (by decide)) (fun _ _ _ _ _ _ us hl => match us, hl with | [_, _], _ => rfl)
  have mkW := He.mkr_ok (a 7 rfl)
  have oI := ok_init F17 B T kMT xTiT xManyT c0 c2 c1
  have bI : Binds K fd17 ["self", "places", "ties"] [] := F17.bindsN (fun _ _ _ _ _ _ us hl => match us, hl with | [_, _, _], _ => rfl)
  have bE : Binds K fd20 ["self", "tie"] [] := F20.bindsN (fun _ _ _ _ _ _ us hl => match us, hl with | [_, _], _ => rfl)
  have c10 := cal_of F10 (ok_told F10 B mkW oI bI (g (by decide)) xPlT xTiT xManyT x3) (g (by decide)) (fun _ _ _ _ _ _ us hl => match us, hl with | [_, _], _ => rfl)
  have c11 := cal_of F11 (ok_drawn F11 B c6 c5) (g (by decide)) (fun _ _ _ _ _ _ us hl => match us, hl with | [_], _ => rfl)
  have c12 := cal_of F12 (ok_spoiled F12 B c4 c5) (g (by decide)) (fun _ _ _ _ _ _ us hl => match us, hl with | [_, _, _], _ => rfl)
  have mE := He.meth_ok (a 10 rfl)
  have oE := ok_ends F20 B T xNoT
  have c13 := cal_of F13 (ok_refused F13 B T mE oE bE xNoT (He.exm_ok (a 17 rfl))) (g (by decide)) (fun _ _ _ _ _ _ us hl => match us, hl with | [_, _], _ => rfl)
  have M : WebM P w K mg base _ _ _ _ _ fd17 fd18 fd19 fd20 fd21 :=
    ⟨mkW, oI, bI, He.meth_ok (a 8 rfl), ok_places F18 B T, F18.bindsN (fun _ _ _ _ _ _ us hl => match us, hl with | [_], _ => rfl), He.meth_ok (a 9 rfl), ok_ties F19 B T, F19.bindsN (fun _ _ _ _ _ _ us hl => match us, hl with | [_], _ => rfl), mE, oE, bE, ownB_ok h8, ok_eq F21 B T, F21.bindsN (fun _ _ _ _ _ _ us hl => match us, hl with | [_, _], _ => rfl)⟩
  have c14 := cal_of F14 (ok_webRight F14 B T M c5 c7 c13) (g (by decide)) (fun _ _ _ _ _ _ us hl => match us, hl with | [_, _, _], _ => rfl)
  have c15 := cal_of F15 (ok_right F15 B c4 c11 c12 c10 c9 c14) (g (by decide)) (fun _ _ _ _ _ _ us hl => match us, hl with | [_], _ => rfl)
  exact ok_law F16 B c3 c15
end
end L08
open PySem PySem.W PySem.Calls PyProof.Rows
theorem PySem.Challenge.cw_bothfree_k08_webs_told_and_refused_holds : PySem.Challenge.rw_bothfree_k08_webs_told_and_refused.Holds := by
  w_on; o_law
  refine HandSHeadRun.head_any (r := OpenLaw.row PySem.Challenge.rw_bothfree_k08_webs_told_and_refused) (q := view (OpenLaw.row PySem.Challenge.rw_bothfree_k08_webs_told_and_refused).prog [31]) (H := L08.hk) (ob := L08.ob) (M := 20000) (loose := L08.loose) (d := HandSHeadRun.topDef (OpenLaw.row PySem.Challenge.rw_bothfree_k08_webs_told_and_refused).prog 31) (kwd := []) L08.ob_eq
    (by kernel_rfl) (fun s => by kernel_rfl) L08.run (by kernel_rfl) (by kernel_rfl) (by kernel_rfl) (by rfl) (by first | assumption | decide +kernel) (by decide +kernel) ⟨rfl, rfl, rfl, rfl, rfl, by decide +kernel⟩ ?hw ?hc
  case hw => w_witness2
  case hc =>
    refine L2.walk_ofE (l := PySem.Challenge.rw_bothfree_k08_webs_told_and_refused) (n := 63) (k := 8) (x := "_law_script") (CX := L2.CX0) rfl (by decide) (by kernel_rfl) ⟨rfl, by decide, by decide⟩ ?F (fun _ _ _ _ z => z)
    intro w mg fa h Y G hmg0
    obtain ⟨K, KX, c⟩ := Y
    have hmg : mg ("law" : PySem.Str) = some (.ref fa) := by
      have e : (HandSHeadRun.topDef (OpenLaw.row PySem.Challenge.rw_bothfree_k08_webs_told_and_refused).prog 31).name = ("law" : PySem.Str) := by kernel_rfl
      rw [← e]
      exact hmg0
    obtain ⟨fd, hb, hF⟩ := L08.facts (P := (PySem.Challenge.rw_bothfree_k08_webs_told_and_refused).prog) (w := w) KX G hmg c
    exact ⟨K, fd, L08.spLaw K, KX, hb, fun H a ns hl _ hS => ⟨a, ns, rfl, hS, fun _ => rfl⟩, hF⟩
