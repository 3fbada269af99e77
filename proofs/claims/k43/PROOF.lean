import PyProof.Rows.All
import Wide.All
import OpenK.AllK
import Wide.FinOn
import KE.KStateDown
import HandS.ForMost
import HandS.ForExc
import HandS.Evl
import HandS.Walk
import HandS.More
import HandS.Flow
import HandS.Style
import HandS.IsInst
import HandS.ExcInit
import HandS.ExcField
import HandS.TryMany
import HandS.Conv
import HandS.DictComp
import HandS.OwnEq
import HandS.Defaults
import HandS.Head0
import HandS.Head1
import HandS.Head2
import HandS.HeadEnd
import HandS.HeadHook1
import HandS.HeadHook2
import HandS.HeadHook3
import HandS.HeadHook4
import HandS.MakeKwOnly
import KE.KExcIs
import HandS.ExcIs
import HandS.Codes
import PySem.Challenge.RW_bothfree_k43_rows_made_and_refused
import HandS.Finally
import HandS.Ends
set_option Elab.async false
set_option linter.all false
set_option maxRecDepth 100000
set_option maxHeartbeats 0
/-! Bf: what all laws share: callees by name, the well as an abstract thing. -/
namespace Bf
open PySem PySem.Spec PyProof.Rows L2
/-! ### a callee of the module, by its name -/
def Cal (P : Program) (w : World) (K : PySem.W.Frag) (mg : Str → Option Value) (base : Heap) (CX : CXT) (k : Nat) (x : Str) (ps : List Str) (sp : Sp) : Prop :=
  ∃ (f : Addr) (fd : FuncData), FnOk P w K mg base CX k f fd ps sp ∧ mg x = some (.ref f) ∧ PySem.W.keepIn K (.ref f) = true ∧ Binds K fd ps []
section
variable {P : Program} {w : World} {K : PySem.W.Frag} {mg : Str → Option Value} {base : Heap} {CX : CXT} {k : Nat} {x : Str} {ps : List Str} {sp sp' : Sp}
theorem Cal.imp (C : Cal P w K mg base CX k x ps sp) (h : ∀ vs H Q E, sp' vs H Q E → sp vs H Q E) : Cal P w K mg base CX k x ps sp' := by
  obtain ⟨f, fd, F, g, kp, b⟩ := C
  exact ⟨f, fd, F.imp h, g, kp, b⟩
theorem Cal.mono {j : Nat} (C : Cal P w K mg base CX j x ps sp) (h : j ≤ k) : Cal P w K mg base CX k x ps sp := by
  obtain ⟨f, fd, F, g, kp, b⟩ := C
  exact ⟨f, fd, F.mono h, g, kp, b⟩
end
section
variable {X : Cx} {CX : CXT} {k : Nat} {ps : List Str} {sp : Sp} {E : XK} {x : Str} {p pos : Pos} {e : Expr} {es : List Expr} {t : TA}
theorem pe_cal (C : Cal X.prog X.w X.K X.mg X.base CX k x ps sp) (hr : Room k X.A) (hx : Passes CX X E) (ha : PA X (e :: es) t) (hg : Gl X x := by rfl)
    (hdb : (x == ("__debug__" : Str)) = false := by decide) (he : starEach (e :: es) X.env = (false, eval e X.env) :: starEach es X.env := by rfl) (hpl : (backTo pos (starEach es X.env)).any (·.1) = false := by rfl) :
    PE X (.Call (.Name x p) (e :: es) [] pos) (tCall sp [] E t) := by
  obtain ⟨f, fd, F, g, kp, b⟩ := C
  exact pe_call F hr hg g kp b .nil hx ha hdb he hpl
theorem pe_calS {E : L2.St → XK} (C : Cal X.prog X.w X.K X.mg X.base CX k x ps sp) (hr : Room k X.A) (hx : ∀ σ, PassesAt CX X σ (E σ)) (ha : PA X (e :: es) t) (hg : Gl X x := by rfl)
    (hdb : (x == ("__debug__" : Str)) = false := by decide) (he : starEach (e :: es) X.env = (false, eval e X.env) :: starEach es X.env := by rfl) (hpl : (backTo pos (starEach es X.env)).any (·.1) = false := by rfl) :
    PE X (.Call (.Name x p) (e :: es) [] pos) (tCallS sp E t) := by
  obtain ⟨f, fd, F, g, kp, b⟩ := C
  exact pe_callS F hr hg g kp b hx ha hdb he hpl
end
/-! ### the well -/
def wellO (a : Addr) : HO := .ext fun h => ∃ (i j k : Int) (t u v : Tok) (n : Nat), h.get? a = some { cls := .type "list", data := .seq #[.int i t, .int j u, .int k v] n }
abbrev wl (i j k : Int) : HO := .lst [.int i, .int j, .int k]
theorem wellO_own {a x : Addr} : wellO a ≠ .own x := fun z => by
  have z' : HO.ext _ = HO.own x := z
  cases z'
theorem wellO_tup {a : Addr} {xs : List V} : wellO a ≠ .tup xs := fun z => by
  have z' : HO.ext _ = HO.tup xs := z
  cases z'
section
variable {P : Program} {w : World} {H : Hp} {h : Heap} {a : Addr}
theorem hok_swap {o o' : HO} (ok : HOk P w H h) (e : H a = some o) (no : ∀ x, o ≠ .own x) (nt : ∀ xs, o ≠ .tup xs) (new : ObjOk P w (upd H a o') h a o') : HOk P w (upd H a o') h := fun b u q => by
  by_cases hb : b = a
  · subst hb; rw [upd_same] at q; cases q; exact new
  · rw [upd_ne hb] at q
    exact (ok b u q).stay (fun c v _ z => z) (fun c hc => by rw [upd_ne (at_ne e hc (no b))]; exact hc) (fun c xs hc => by rw [upd_ne (at_ne e hc (nt xs))]; exact hc)
theorem well_in (ok : HOk P w H h) (e : H a = some (wellO a)) : ∃ i j k, HOk P w (upd H a (wl i j k)) h := by
  have x : ObjOk P w H h a (.ext fun h => ∃ (i j k : Int) (t u v : Tok) (n : Nat), h.get? a = some { cls := .type "list", data := .seq #[.int i t, .int j u, .int k v] n }) := ok a _ e
  obtain ⟨⟨i, j, k, t, u, v, n, q⟩, _, _⟩ := x
  refine ⟨i, j, k, hok_swap ok e (fun _ => wellO_own) (fun _ => wellO_tup) ⟨by show 3 ≤ sizeLine; decide, [.int i t, .int j u, .int k v], n, .cons ⟨t, rfl⟩ (.cons ⟨u, rfl⟩ (.cons ⟨v, rfl⟩ .nil)), q⟩⟩
theorem well_of {i j k : Int} {H' : Hp} (x : ObjOk P w H h a (wl i j k)) : ObjOk P w H' h a (wellO a) := by
  obtain ⟨_, its, n, r, e⟩ := x
  cases r with
  | cons r1 r => cases r with
    | cons r2 r => cases r with
      | cons r3 r => cases r with
        | nil =>
          obtain ⟨t, rfl⟩ := r1
          obtain ⟨u, rfl⟩ := r2
          obtain ⟨v, rfl⟩ := r3
          exact ⟨⟨i, j, k, t, u, v, n, e⟩, ⟨_, e⟩, fun h1 h2 z kk => by
            obtain ⟨i, j, k, t, u, v, n, e⟩ := z
            exact ⟨i, j, k, t, u, v, n, kk _ e⟩⟩
theorem well_out {i j k : Int} (ok : HOk P w (upd H a (wl i j k)) h) : HOk P w (upd H a (wellO a)) h := by
  have q := hok_swap (o' := wellO a) ok upd_same (fun _ z => by cases z) (fun _ z => by cases z) (well_of (ok a _ upd_same))
  rw [upd_upd] at q
  exact q
theorem upd_self {o : HO} (e : H a = some o) : upd H a o = H := by
  funext b
  by_cases hb : b = a
  · rw [hb, upd_same, e]
  · rw [upd_ne hb]
theorem un_back {fs : List Addr} {h' : Heap} {o l1 l2 : HO} (e : H a = some o) (u : Un fs [] (upd H a l1) (upd H a l2) h h') : Un fs [] H H h h' where
  keep := fun b o q n hf hx => u.keep b o q (by rw [upd_ne (ne_of_none e n).symm]; exact n) hf hx
  slot := fun b o q n hf hx => u.slot b o q (by rw [upd_ne (ne_of_none e n).symm]; exact n) hf hx
  free := fun _ _ _ n _ => n
  there := u.there
  tups := fun _ _ q => q
  frzs := fun _ _ _ q => q
  tbls := fun _ _ q => ⟨#[], by rw [q]; simp⟩
theorem un_new {fs : List Addr} {h' : Heap} {l1 l2 : HO} (e : H a = none) (u : Un fs [] H (upd H a l1) h h') : Un fs [] H (upd H a l2) h h' where
  keep := u.keep
  slot := u.slot
  free := fun b o q n hx => by
    have z := u.free b o q n hx
    have hb : b ≠ a := fun hb => by
      rw [hb, upd_same] at z
      cases z
    rw [upd_ne hb]
    exact n
  there := u.there
  tups := fun b xs q => by rw [upd_ne (ne_of_none q e)]; exact q
  frzs := fun b o v q => by rw [upd_ne (ne_of_none q e)]; exact q
  tbls := fun b ps q => ⟨#[], by rw [upd_ne (ne_of_none q e), q]; simp⟩
end
/-- draw, the well told -/
def spDraw0 : Sp := fun vs H Q _ => ∃ (a : Addr) (i j k n : Int), vs = [.ref a, .int n] ∧ H a = some (wl i j k) ∧ 0 < n ∧ n < 1073741824 ∧ ∀ d i' j' k' : Int, 0 ≤ d → d < n → Q (.int d) (upd H a (wl i' j' k'))
/-- draw, the well a thing of its own -/
def spDraw : Sp := fun vs H Q _ => ∃ (a : Addr) (n : Int), vs = [.ref a, .int n] ∧ H a = some (wellO a) ∧ 0 < n ∧ n < 1073741824 ∧ ∀ d : Int, 0 ≤ d → d < n → Q (.int d) H
def spSource0 : Sp := fun vs H Q _ => ∃ n : Int, vs = [.int n] ∧ ∀ (p : Addr) (i j k : Int), H p = none → Q (.ref p) (upd H p (wl i j k))
def spSource : Sp := fun vs H Q _ => ∃ n : Int, vs = [.int n] ∧ ∀ p : Addr, H p = none → Q (.ref p) (upd H p (wellO p))
section
variable {P : Program} {w : World} {K : PySem.W.Frag} {mg : Str → Option Value} {base : Heap} {k : Nat} {f : Addr} {fd : FuncData} {ps : List Str}
theorem draw_abs (hp : ps.length = 2) (F : FnOk P w K mg base CX0 k f fd ps spDraw0) : FnOk P w K mg base CX0 k f fd ps spDraw := by
  refine ⟨fun vs H Q E h => ?_, fun A outer s H args us vs Q E hr e0 hb hv hsp => ?_⟩
  · obtain ⟨a, n, rfl, _⟩ := h
    exact hp.symm
  · obtain ⟨a, n, rfl, ha, h0, h1, q⟩ := hsp
    obtain ⟨i, j, k, hok1⟩ := well_in e0.hok ha
    have na : ∀ {b : Addr}, H b = none → b ≠ a := fun n => (ne_of_none ha n).symm
    have e1 : Env0 P w K mg base A outer s (upd H a (wl i j k)) := ⟨e0.frames, e0.mod, fun b o e => ⟨(e0.bs b o e).1, by rw [upd_ne (na (e0.bs b o e).2)]; exact (e0.bs b o e).2⟩, e0.bsz, e0.funs, fun b hb => by rw [upd_ne (na (e0.frf b hb))]; exact e0.frf b hb, hok1, e0.bare⟩
    refine codeAny_mono (F.run A outer s _ args us _ (fun v H' => ∃ d i' j' k' : Int, v = .int d ∧ 0 ≤ d ∧ d < n ∧ H' = upd H a (wl i' j' k')) E hr e1 hb hv ⟨a, i, j, k, n, rfl, upd_same, h0, h1, fun d i' j' k' d0 d1 => ⟨d, i', j', k', rfl, d0, d1, upd_upd⟩⟩) fun r s' h => ?_
    cases r with
    | error e => exact h
    | ok fl => cases fl with
      | ret u =>
        obtain ⟨v, H', os, bare, un, hok, rv, d, i', j', k', rfl, d0, d1, rfl⟩ := h
        have z := well_out hok
        rw [upd_self ha] at z
        exact ⟨.int d, H, os, bare, un_back ha un, z, rv, q d d0 d1⟩
      | next => exact h
      | brk => exact h
      | cont => exact h
theorem source_abs (hp : ps.length = 1) (F : FnOk P w K mg base CX0 k f fd ps spSource0) : FnOk P w K mg base CX0 k f fd ps spSource := by
  refine ⟨fun vs H Q E h => ?_, fun A outer s H args us vs Q E hr e0 hb hv hsp => ?_⟩
  · obtain ⟨n, rfl, _⟩ := h
    exact hp.symm
  · obtain ⟨n, rfl, q⟩ := hsp
    refine codeAny_mono (F.run A outer s _ args us _ (fun v H' => ∃ (p : Addr) (i j k : Int), v = .ref p ∧ H p = none ∧ H' = upd H p (wl i j k)) E hr e0 hb hv ⟨n, rfl, fun p i j k hp => ⟨p, i, j, k, rfl, hp, rfl⟩⟩) fun r s' h => ?_
    cases r with
    | error e => exact h
    | ok fl => cases fl with
      | ret u =>
        obtain ⟨v, H', os, bare, un, hok, rv, p, i, j, k, rfl, hp, rfl⟩ := h
        exact ⟨.ref p, _, os, bare, un_new hp un, well_out hok, rv, q p hp⟩
      | next => exact h
      | brk => exact h
      | cont => exact h
end
end Bf
/-! Bf, rules that were lacking: several clauses with names, an own == with either answer and its !=, sorted of a tuple of texts, == of dicts of data, a tuple turned about. -/
namespace Bf
open PySem PySem.Spec PyProof.Rows L2
/-! ### try: several clauses, each with a name -/
/-- behind the suite the name's slot i is empty -/
def offA (D : Ends) (i : Nat) : Ends :=
  { nx := fun τ G => D.nx (τ.set i none) G,
    rt := D.rt,
    bk := fun τ G => D.bk (τ.set i none) G,
    ct := fun τ G => D.ct (τ.set i none) G }
abbrev ClA := Value × Nat × (Addr → Value → Option Addr → TS)
def wNam (K : PySem.W.Frag) (Wo : WX) (D : Ends) : List ClA → WX
  | [] => Wo
  | (c, i, ts) :: r => fun cl d τ G =>
      ∃ b, PySem.W.exmOne K cl c = some b ∧
        (b = true → ∀ a, G a = none → ts a cl d (offA D i) (τ.set i (some (.ref a))) G) ∧
        (b = false → wNam K Wo D r cl d τ G)
inductive ClsA (X : Cx) : List ExceptHandler → List ClA → Prop
  | nil : ClsA X [] []
  | cons {x n : Str} {c : Value} {i : Nat} {ts : Addr → Value → Option Addr → TS} {b0 : Stmt} {su : List Stmt} {np ps : Pos} {hs : List ExceptHandler} {l : List ClA}
      (hc : Names X x c) (hi : X.N[i]? = some n) (hl : X.env.kindOf n = some .local)
      (hsu : ∀ (a : Addr) (oe : Obj) (cl : Value) (d : Option Addr) (pn : List (Addr × Obj)), Zc cl d oe → (∃ vs, oe.data = .fields vs) →
        PSs (X.suite a ((a, oe) :: pn)) (b0 :: su) (ts a cl d)) (r : ClsA X hs l) :
      ClsA X (.ExceptHandler (some (.Name x np)) (some n) (b0 :: su) ps :: hs) ((c, i, ts) :: l)
section
variable {X : Cx} {body : List Stmt} {h0 : ExceptHandler} {hds : List ExceptHandler} {l : List ClA} {pos : Pos} {tb : WX → TS} {Wo : WX}
theorem ps_try_nam (hs : X.stack = X.env :: X.outer) (hf : X.env.frame = some X.env.locals) (hN : X.N.Nodup) (tk : Takes X Wo)
    (hb : ∀ (W : WX) (pn : List (Addr × Obj)) (xe : Value → Shared → Prop), Takes (X.tr pn xe) W → PassesOwn (model X.prog X.w) X.A X.env xe →
      PSs (X.tr pn xe) body (tb W)) (hh : ClsA X (h0 :: hds) l) :
    PS X (.Try body (h0 :: hds) [] [] pos) (fun D τ G => tb (wNam X.K Wo D l) D τ G) := by
  refine ⟨fun pins s τ G D I h => wpAny_Try_except ?_⟩
  have ok := I.ok
  have frs_eq : X.A.frames = some (X.env :: X.outer) := by rw [ok.frames, hs]
  refine wpAny_mono ((hb (wNam X.K Wo D l) (X.pn ++ pins) (fun e t1 => wpAny (model X.prog X.w) X.A (noteFrame e X.env) (fun _ t2 =>
      wpAny (model X.prog X.w) X.A (setFlight e none) (fun _ t3 => wpAny (model X.prog X.w) X.A (handleBy e X.env (h0 :: hds)) (SP X pins D) X.xe t3) X.xe t2) X.xe t1)
    (fun u s' xx => ?_) PassesOwn.looking).run [] s τ G D (I.toTry _) h) (fun f t1 hsp => ?_) (fun _ _ he => he)
  · obtain ⟨a, B, sI, pins', τ', G', cl, d, rfl, J0, nb, up, sky, na, os, ag, w⟩ := xx
    have J : Inv X pins τ' G' sI := J0.ofTry ok
    have sky1 : Sky B (X.env :: X.outer) a (Zc cl d) X.env.locals s'.heap := by rw [← hs]; exact sky
    show wpAny (model X.prog X.w) X.A (noteFrame (.ref a) X.env) _ _ _
    refine Sky.land Zc.steady frs_eq hf sky1 fun g3 fl up3 => ?_
    have J3 : Inv X pins τ' G' { s' with heap := g3 } := J.landed nb fl.1 (up.trans up3) os ag
    obtain ⟨o3, v3, q3, z3, d3⟩ := fl.there
    have out : a ∉ frs (X.env :: X.outer) := fun hm => by
      obtain ⟨_, o', e', hnf⟩ := fl.2.2.1.mem hm
      rw [q3] at e'; cases e'
      exact hnf _ d3
    have nL : a ≠ X.env.locals := fun z => out (List.mem_filterMap.mpr ⟨X.env, List.mem_cons_self, by rw [hf, z]⟩)
    have nF : a ∉ X.fs := fun hm => by
      obtain ⟨e, he, q⟩ := List.mem_filterMap.mp hm
      exact out (List.mem_filterMap.mpr ⟨e, List.mem_cons_of_mem _ he, q⟩)
    have S3 := J3.suite q3 d3 na nL nF
    have all : ∀ {hl : List ExceptHandler} {m : List ClA}, ClsA X hl m → wNam X.K Wo D m cl d τ' G' →
        wpAny (model X.prog X.w) X.A (handleBy (.ref a) X.env hl) (SP X pins D) X.xe { s' with heap := g3 } := by
      intro hl m hk
      induction hk with
      | nil =>
        intro w
        refine wpAny_handleBy_nil ?_
        obtain ⟨_, _, _, oe, vs, T, oT, _, he, _, hd, e1, _⟩ := id fl
        unfold PySem.passOn
        refine wpAny_bind (wpAny_field he hd e1 ?_)
        rw [if_neg (show ¬ ((Value.ref T == Value.none) = true) by simp)]
        have last : wpAny (model X.prog X.w) X.A (setFlight (.ref a) X.env.frame) (fun _ t4 =>
            wpAny (model X.prog X.w) X.A (throw (.ref a) : Sem Flow) (SP X pins D) X.xe t4) X.xe { s' with heap := g3 } := by
          rw [hf]
          refine HandSPX.setFlight_upZ fl fun g4 y4 up4 => wpAny_throw (tk _ _ ?_)
          refine ⟨a, B, sI, pins, τ', G', cl, d, rfl, J, nb, (up.trans up3).trans up4, .inr (.inr ?_), na, os, ag, w⟩
          rw [hs]
          exact y4
        first
          | exact wpAny_bind (wpAny_pure (wpAny_bind last))
          | exact wpAny_bind last
      | @cons x n c i ts b0 su np ps hs2 l2 hc hi hl hsu r ih =>
        intro w
        obtain ⟨b, eb, yes, no⟩ := w
        refine wpAny_handleBy_cons (codeAny_handlers_test ?_) (by intro q; cases q)
        have ty : PySem.W.Looks (model X.prog X.w) g3 (typeOf (.ref a)) cl := fun A Q E s k q =>
          wpAny_typeOf_ref (k _ _ q3) (by rw [z3.1]; exact q)
        have hit := PySem.W.exm_one (M := model X.prog X.w) (J3.kIn) ty eb
        have test : ∀ {Q : Value → Shared → Prop} {E : Value → Shared → Prop}, Q c { s' with heap := g3 } →
            wpAny (model X.prog X.w) (X.A.mark (some (.ref a))) (eval (.Name x np) X.env) Q E { s' with heap := g3 } := fun {Q E} q => by
          obtain ⟨hg, dbg, hm | ⟨hm, hv, hnn⟩⟩ := hc
          · exact ld_glob (X := X.suite a ((a, o3) :: (X.pn ++ pins))) S3 hg hm q dbg
          · exact ld_blt (X := X.suite a ((a, o3) :: (X.pn ++ pins))) S3 hg hm hv q hnn dbg
        refine test (hit.here ?_)
        cases b with
        | false => exact ih (no rfl)
        | true =>
          refine codeAny_handlers_suite_as (HandSPX.lands_againZ fl fun g4 fl4 up4 => ?_)
          have J4 : Inv X pins τ' G' { s' with heap := g4 } := J.landed nb fl4.1 ((up.trans up3).trans up4) os ag
          obtain ⟨o4, v4, q4, z4, d4⟩ := fl4.there
          have S4 := J4.suite q4 d4 na nL nF
          refine store_ok (X := X.suite a ((a, o4) :: (X.pn ++ pins))) (v := .ref a) S4 hN hi (.inl hl) rfl (fun t5 S5 => ?_) (.inr hl)
          refine wpAny_mono ((hsu a o4 cl d (X.pn ++ pins) z4 ⟨_, d4⟩).run [] t5 _ G' _ S5 (yes rfl a na)) (fun f t6 hsp => ?_) (fun _ _ z => z.elim)
          have fin : ∀ {σ6 : L2.St} {H6 : Hp} {Q : Shared → Prop}, Inv (X.suite a ((a, o4) :: (X.pn ++ pins))) [] σ6 H6 t6 →
              (∀ t7, Inv X pins (σ6.set i none) H6 t7 → Q t7) →
              wpAny (model X.prog X.w) X.A (do bindName X.env n .none; unbindBehindTheSuite X.env n ps) (fun _ t7 => Q t7) X.xe t6 :=
            fun S6 hq => gone_ok (S6.unsuite ok) hN hi hl hq
          cases f with
          | next => obtain ⟨_, _, S6, q6⟩ := hsp; exact fin S6 fun _ J7 => ⟨_, _, J7, q6⟩
          | brk => obtain ⟨_, _, S6, q6⟩ := hsp; exact fin S6 fun _ J7 => ⟨_, _, J7, q6⟩
          | cont => obtain ⟨_, _, S6, q6⟩ := hsp; exact fin S6 fun _ J7 => ⟨_, _, J7, q6⟩
          | ret u => obtain ⟨_, _, _, S6, r6, q6⟩ := hsp; exact fin S6 fun _ J7 => ⟨_, _, _, J7, r6, q6⟩
    exact all hh w
  · cases f with
    | next => obtain ⟨_, _, J1, q⟩ := hsp; exact wpAny_execs_nil ⟨_, _, J1.ofTry ok, q⟩
    | brk => obtain ⟨_, _, J1, q⟩ := hsp; exact ⟨_, _, J1.ofTry ok, q⟩
    | cont => obtain ⟨_, _, J1, q⟩ := hsp; exact ⟨_, _, J1.ofTry ok, q⟩
    | ret u => obtain ⟨_, _, _, J1, r, q⟩ := hsp; exact ⟨_, _, _, J1.ofTry ok, r, q⟩
end
/-! ### sorted of a tuple of texts -/
def rSortedTS (K : PySem.W.Frag) : List V → Hp → VK → Prop := fun vs H Q => ∃ (a : Addr) (xs : List Str), vs = [V.ref a] ∧ SqT K H a (xs.map V.str) ∧ xs.length < 64 ∧
  ∀ (ys : List Str) (p : Addr), ys.Perm xs → sortedS ys = true → H p = none → Q (.ref p) (upd H p (.lst (ys.map V.str)))
theorem cr_sortedTS {X : Cx} : CallR X (.builtin "sorted") (rSortedTS X.K) := by
  intro pins s σ H vs us Q I r h
  obtain ⟨a, xs, rfl, hs, h64, q⟩ := h
  obtain ⟨its, rv, ⟨o, ho, hc, n, hd⟩, _⟩ := I.tuple hs
  rw [Vals.ref1 r]
  have hl0 : its.length = xs.length := by
    have e := rv.length
    rw [List.length_map] at e
    exact e.symm
  have hS : StrsAre its xs := rv.strs
  refine Calls.call_function_entry PyProof.Rows.kind_sorted PyProof.Rows.plain_sorted PyProof.Rows.entry_sorted (PyProof.Rows.args_sorted1 _) ?_
  unfold Builtin.«sorted»
  refine wpAny_bind (m := checkCount "sorted" 1 1 _) (wpAny_pure (wpAny_bind (wpAny_collect_seq a (.inr rfl) ho hc hd (fun g hk => ?_) (by simp only [List.size_toArray, sizeLine_eq]; omega))))
  have I1 : Inv X pins σ H { s with heap := g, toks := s.toks } := I.kept hk
  refine wpAny_bind (wpAny_newList ?_ (by simp only [sizeLine_eq]; omega))
  have hoL : (g.push (seqObj "list" its.toArray 0)).get? g.objs.size = some (seqObj "list" its.toArray 0) := Heap.get?_push_size _ rfl
  refine wpAny_bind (wpAny_holding (wpAny_call_entry PyProof.Rows.slot_list_sort ⟨_, hoL, rfl⟩ PyProof.Rows.entry_list_sort
    (list_sort_treeK strKind_oneLt (s := { s with heap := g.push (seqObj "list" its.toArray 0) }) hoL hS.keysOf (fun v₁ v₂ rest e => keyKind_strs (by rw [← e]; exact hS)) (by omega) fun st' hp hq => ⟨_, rfl, ?_⟩) (PyProof.Rows.args_list_sort _)))
  obtain ⟨ys, g1, g2, g3⟩ := sorted_out_str hS hp hq
  obtain ⟨e', he'⟩ := PyProof.Rows.sortedHeap_at (vs := its) (out := (arrOf st').map (·.2)) hoL
  have hlen : (ys.map V.str).length ≤ sizeLine := by
    rw [List.length_map, g2.length_eq, sizeLine_eq]
    omega
  refine wpAny_pure ⟨_, rfl, .ref g.objs.size, upd H g.objs.size (.lst (ys.map V.str)), I1.laid (t' := s.toks) (fun b u e => ?_) (Nat.le_refl _)
    ⟨hlen, ((arrOf st').map (·.2)).toList, e', vals_of_strs g1, by rw [Array.toArray_toList]; exact he'⟩, rfl, q ys _ g2 g3 (I1.hok.fresh (Nat.le_refl _))⟩
  have hb : b < g.objs.size := Heap.lt_size e
  rw [PyProof.Rows.sortedHeap_old (Nat.ne_of_lt hb) (by rw [size_push']; exact Nat.lt_succ_of_lt hb)]
  exact Heap.get?_push_of_some _ e
end Bf
namespace Bf
open PySem PySem.Spec PyProof.Rows L2 HT
/-! ### a pair turned about: t[::-1] -/
section
variable {prog : Program} {w : World} {A : Around} {E : Value → Shared → Prop} {s : Shared}
theorem applied_rev {sl : Addr} {vs : Value} {Q : Int × Int × Nat → Shared → Prop} (hs : s.heap.IsSliceOf sl .none .none vs) (ps : IsPart vs (some (-1))) (h : Q ((1 : Int), -1, 2) s) :
    wpAny (model prog w) A (Builtin.Slice.sliceApplied (.ref sl) (pure ((2 : Nat) : Int))) Q E s := by
  obtain ⟨os, e1, e2, e3⟩ := id hs
  unfold Builtin.Slice.sliceApplied Builtin.Slice.sliceFields
  refine wpAny_bind (wpAny_bind (wpAny_field e1 e3 (x := .none) rfl (wpAny_bind (wpAny_field e1 e3 (x := .none) rfl (wpAny_bind (wpAny_field e1 e3 (x := vs) rfl (wpAny_pure ?_)))))))
  refine wpAny_bind (slicePart_ ps ?_)
  show wpAny _ _ (if ((-1 : Int) == 0) = true then _ else _) _ _ s
  rw [if_neg (by decide)]
  refine wpAny_bind (slicePart_ .none (wpAny_bind (slicePart_ .none (wpAny_bind (wpAny_pure ?_)))))
  exact wpAny_pure h
theorem pair_rev {t sl : Addr} {u v vs : Value} {Q : Value → Shared → Prop} (ht : IsTup s.heap t #[u, v]) (hs : s.heap.IsSliceOf sl .none .none vs) (ps : IsPart vs (some (-1)))
    (h : Q (.ref s.heap.objs.size) { s with heap := s.heap.push { cls := .type "tuple", data := .seq #[v, u] } }) : wpAny (model prog w) A (getItem (.ref t) (.ref sl)) Q E s := by
  obtain ⟨os, e1, e2, e3⟩ := id hs
  have ty : s.TypeIs (.ref sl) "slice" := ⟨os, e1, e2⟩
  have two : sizeOk (.seq (#[v, u] : Array Value)) := by show 2 ≤ sizeLine; decide
  unfold getItem
  try with_reducible refine wpAny_holding ?_
  first | refine wpAny_bind (wpAny_pure ?_) | skip
  refine wpAny_bind (wpAny_sequenceKey ht.typeIs (by decide) (wpAny_bind (wpAny_callSpecial?_slot (name := Str.ofString "__getitem__") ht.typeIs PyProof.Rows.slot_tuple_getitem
    (wpAny_call_entry PyProof.Rows.slot_tuple_getitem ht.typeIs entry_tuple_getitem ?_ (args_tuple_getitem _ _)))))
  show wpAny _ _ (Builtin.Tuple.tupleItemsOf (.ref t) >>= _) _ _ s
  refine wpAny_bind (tupleItemsOf_ ht (wpAny_bind (wpAny_typeOf ty ?_)))
  rw [if_pos (by decide)]
  refine wpAny_bind (applied_rev hs ps ?_)
  show wpAny _ _ (if ((1 : Int) == 0 && (-1 : Int) == 1 && (2 : Nat) == 2) = true then _ else _) _ _ s
  rw [if_neg (by decide)]
  first
    | exact wpAny_bind (m := Builtin.Tuple.tupleExact _) (wpAny_newObj_type (wpAny_pure ⟨_, rfl, wpAny_pure h⟩) two)
    | exact wpAny_bind (m := Builtin.Tuple.tupleExact _) (wpAny_newObj_type (wpAny_bind (wpAny_pure (wpAny_pure ⟨_, rfl, wpAny_pure h⟩))) two)
    | exact wpAny_bind (wpAny_bind (m := Builtin.Tuple.tupleExact _) (wpAny_newObj_type (wpAny_pure (wpAny_pure ⟨_, rfl, wpAny_pure h⟩)) two))
    | exact wpAny_bind (wpAny_bind (m := Builtin.Tuple.tupleExact _) (wpAny_newObj_type (wpAny_pure ⟨_, rfl, wpAny_pure h⟩) two))
end
section
variable {X : Cx}
def tRevP (K : PySem.W.Frag) (te : TE) : TE := fun σ H Q => te σ H fun x H1 => ∃ a u v, x = .ref a ∧ SqT K H1 a [u, v] ∧ ∀ p, H1 p = none → Q (.ref p) (upd H1 p (.tup [v, u]))
theorem pe_revP {e : Expr} {te : TE} {k : Nat} {p1 p2 p3 pos : Pos} (he : PE X e te) : PE X (.Subscript e (.Slice none none (some (.UnaryOp .USub (.Constant (.int 1) k p1) p2)) p3) pos) (tRevP X.K te) := by
  refine ⟨fun pins s σ H Q I h => Subscript_ (thn (he.run pins s σ H _ I h) fun v s1 ⟨x, H1, I1, r1, q1⟩ => ?_)⟩
  obtain ⟨a, u1, u2, ex, hx, q⟩ := q1
  subst ex
  cases r1
  have hst : PO X (some (.UnaryOp .USub (.Constant (.int 1) k p1) p2)) (tPart (tUn (rU fun i => .int (-i)) (tC (.int 1)))) := po_some (pe_un un_neg pe_int)
  refine wpAny_Slice (thn (po_none.run pins s1 σ H1 (fun o G => o = none ∧ G = H1) I1 ⟨rfl, rfl⟩) fun vl s2 ⟨l, H2, I2, pl, el, e2⟩ => ?_)
  subst el e2
  refine thn (po_none.run pins s2 σ H2 (fun o G => o = none ∧ G = H2) I2 ⟨rfl, rfl⟩) fun vu s3 ⟨u, H3, I3, pu, eu, e3⟩ => ?_
  subst eu e3
  refine thn (hst.run pins s3 σ H3 (fun o G => o = some (-1) ∧ G = H3) I3 ⟨1, rfl, -1, rfl, rfl, rfl⟩) fun vs s4 ⟨o, H4, I4, ps, eo, e4⟩ => ?_
  subst eo e4
  have I5 : Inv X pins σ H4 { s4 with heap := s4.heap.push { cls := .type "slice", data := .fields #[vl, vu, vs] } } := I4.kept (t' := s4.toks) fun b ob q => Heap.get?_push_of_some _ q
  obtain ⟨its, r, ht, hz⟩ := I5.tuple hx
  cases r with
  | cons ra r => cases r with
    | cons rb r => cases r with
      | nil =>
        cases pl
        cases pu
        refine tail_any (ops := [.ref a, .ref s4.heap.objs.size]) ht.typeIs (PyProof.Rows.slot_tuple_getitem.lookup) ?_ (by with_unfolding_all rfl)
        refine pair_rev ht (Heap.IsSliceOf.new _ _ _ vs) ps ?_
        refine ⟨.ref _, _, I5.laid (t' := s4.toks) (o := .tup [u2, u1]) (fun b ob q => Heap.get?_push_of_some _ q) (Nat.le_refl _) ?_, rfl, q _ (I5.hok.fresh (Nat.le_refl _))⟩
        exact ⟨by show 2 ≤ sizeLine; decide, _, .cons rb (.cons ra .nil), IsTup.new _ _⟩
end
/-! ### == of dicts whose values are data -/
section
variable {X : Cx} {pins : List (Addr × Obj)} {σ : L2.St} {H : Hp} {s : Shared}
/-- the values told as data -/
def KvD (K : PySem.W.Frag) (H : Hp) : List (Key × V) → List (Key × PyData) → Prop := Paired fun p q => p.1 = q.1 ∧ Dp K H p.2 q.2 ∧ SeqAt.shaped q.2 = true
def look (es : List (Key × PyData)) (k : Key) : Option PyData := (es.find? fun e => decide (e.1 = k)).map (·.2)
def hitsD (es : List (Key × PyData)) : List (Key × PyData) → Bool
  | [] => true
  | (k, d) :: r => match look es k with
    | none => false
    | some e => PyData.eqv d e && hitsD es r
def dictEq (ds es : List (Key × PyData)) : Bool := ds.length == es.length && hitsD es ds
theorem KvD.look_none {K : PySem.W.Frag} {ls : List (Key × V)} {es : List (Key × PyData)} {vb : List (Key × Value)} {k : Key} (h : KvD K H ls es) (r : KV ls vb) (e : look es k = none) : valueAt vb k = none := by
  have z : RelO (valV ls k) (valueAt vb k) := r.val k
  have q : valV ls k = none := by
    unfold KvD at h
    unfold valV
    unfold look at e
    clear z r
    induction h with
    | nil => rfl
    | @cons p q ps qs a t ih =>
      rw [List.find?_cons] at e ⊢
      rw [a.1]
      cases c : decide (q.1 = k) with
      | true =>
        rw [c] at e
        cases e
      | false =>
        rw [c] at e
        exact ih e
  rw [q] at z
  cases y : valueAt vb k with
  | none => rfl
  | some u => rw [y] at z; exact z.elim
theorem KvD.look_some {K : PySem.W.Frag} {ls : List (Key × V)} {es : List (Key × PyData)} {vb : List (Key × Value)} {k : Key} {d : PyData} (h : KvD K H ls es) (r : KV ls vb) (e : look es k = some d) :
    ∃ v u, valueAt vb k = some u ∧ RelV v u ∧ Dp K H v d ∧ SeqAt.shaped d = true := by
  have z : RelO (valV ls k) (valueAt vb k) := r.val k
  have q : ∃ v, valV ls k = some v ∧ Dp K H v d ∧ SeqAt.shaped d = true := by
    unfold KvD at h
    unfold valV
    unfold look at e
    clear z r
    induction h with
    | nil => cases e
    | @cons p q ps qs a t ih =>
      rw [List.find?_cons] at e ⊢
      rw [a.1]
      cases c : decide (q.1 = k) with
      | true =>
        rw [c] at e
        have e' : q.2 = d := Option.some.inj e
        exact ⟨p.2, rfl, e' ▸ a.2.1, e' ▸ a.2.2⟩
      | false =>
        rw [c] at e
        exact ih e
  obtain ⟨v, e1, e2, e3⟩ := q
  rw [e1] at z
  obtain ⟨u, hu, ru⟩ := RelO.some_of z
  exact ⟨v, u, hu, ru, e2, e3⟩
theorem hits_run (I : Inv X pins σ H s) {A : Around} (hu : A.units + 64 < cLine) {ls : List (Key × V)} {es : List (Key × PyData)} {vb : List (Key × Value)} (hb : KvD X.K H ls es) (rb : KV ls vb) :
    ∀ {ks : List (Key × V)} {ds : List (Key × PyData)} {va : List (Key × Value)}, KvD X.K H ks ds → KV ks va → PySem.W.KeqHits A s vb va (hitsD es ds) := by
  intro ks ds va h
  unfold KvD at h
  induction h generalizing va with
  | nil =>
    intro r
    cases r
    exact .nil
  | @cons p q ps qs a t ih =>
    intro r
    cases r with
    | @cons _ z _ zs b rt =>
      obtain ⟨k, d⟩ := q
      obtain ⟨k', v'⟩ := z
      obtain ⟨p1, p2⟩ := p
      obtain ⟨a1, a2, a3⟩ := a
      obtain ⟨b1, b2⟩ := b
      dsimp only at a1 a2 a3 b1 b2
      subst a1 b1
      show PySem.W.KeqHits A s vb ((p1, v') :: zs) (match look es p1 with | none => false | some e => PyData.eqv d e && hitsD es qs)
      cases e : look es p1 with
      | none => exact .miss (hb.look_none rb e)
      | some d2 =>
        obtain ⟨v2, u2, e1, r2, h2, s2⟩ := hb.look_some rb e
        obtain ⟨as, g1⟩ := Dp.reads I d _ _ a2 b2
        obtain ⟨bs, g2⟩ := Dp.reads I d2 _ _ h2 r2
        have c1 := (Bool.and_eq_true_iff.mp (show (d.canLay0 && decide (d.depth ≤ 64)) = true from a3))
        have c2 := (Bool.and_eq_true_iff.mp (show (d2.canLay0 && decide (d2.depth ≤ 64)) = true from s2))
        have c3 := of_decide_eq_true c1.2
        exact .hit e1 (SeqAt.eqAt_reads d d2 A s _ _ as bs g1 g2 c1.1 c2.1 (by omega)) (ih rt)
end
section
variable {X : Cx}
def rEqDD (K : PySem.W.Frag) (neg : Bool) : R2 := fun x y H Q => ∃ a b ks ls ds es, x = .ref a ∧ y = .ref b ∧ Rd H a (.dK ks) ∧ Rd H b (.dK ls) ∧ KvD K H ks ds ∧ KvD K H ls es ∧ Q (.bl (if neg then !dictEq ds es else dictEq ds es)) H
theorem KvD.len {K : PySem.W.Frag} {H : Hp} {ks : List (Key × V)} {ds : List (Key × PyData)} (h : KvD K H ks ds) : ks.length = ds.length := Paired.length h
theorem op_eqDD (hu : X.A.units + 65 < cLine) : OpR X (compareOp .Eq) (rEqDD X.K false) := by
  intro pins s σ H x y v u Q I rx ry h
  obtain ⟨a, b, ks, ls, ds, es, rfl, rfl, ha, hb, h1, h2, q⟩ := h
  obtain rfl : v = Value.ref a := rx
  obtain rfl : u = Value.ref b := ry
  obtain ⟨_, ya, va, ra, da⟩ := (show ObjOk X.prog X.w H s.heap a (.dK ks) from ha.ok I.hok)
  obtain ⟨_, yb, vb, rb, db⟩ := (show ObjOk X.prog X.w H s.heap b (.dK ls) from hb.ok I.hok)
  refine PySem.W.keq_eq (knd := mixKind X.prog X.w) (r := hitsD es ds) ya yb da db (by omega) (fun _ => hits_run I (A := X.A.in1) (by show X.A.units + 1 + 64 < cLine; omega) h2 rb h1 ra) ?_
  refine ⟨.bl _, H, I, rfl, ?_⟩
  have e : (va.length == vb.length) = (ds.length == es.length) := by rw [← ra.length, ← rb.length, h1.len, h2.len]
  rw [e]
  exact q
theorem op_neDD (hu : X.A.units + 65 < cLine) : OpR X (compareOp .NotEq) (rEqDD X.K true) := by
  intro pins s σ H x y v u Q I rx ry h
  obtain ⟨a, b, ks, ls, ds, es, rfl, rfl, ha, hb, h1, h2, q⟩ := h
  obtain rfl : v = Value.ref a := rx
  obtain rfl : u = Value.ref b := ry
  obtain ⟨_, ya, va, ra, da⟩ := (show ObjOk X.prog X.w H s.heap a (.dK ks) from ha.ok I.hok)
  obtain ⟨_, yb, vb, rb, db⟩ := (show ObjOk X.prog X.w H s.heap b (.dK ls) from hb.ok I.hok)
  refine PySem.W.keq_ne (knd := mixKind X.prog X.w) (r := hitsD es ds) ya yb da db (by omega) (fun _ => hits_run I (A := X.A.in1) (by show X.A.units + 1 + 64 < cLine; omega) h2 rb h1 ra) ?_
  refine ⟨.bl _, H, I, rfl, ?_⟩
  have e : (va.length == vb.length) = (ds.length == es.length) := by rw [← ra.length, ← rb.length, h1.len, h2.len]
  rw [e]
  exact q
end
end Bf
namespace Bf
open PySem PySem.Spec PyProof.Rows L2
/-! ### a == b, a != b of two instances of one class with its own __eq__: either answer -/
section
open PySem.W
variable {prog : Program} {w : World} {A : Around} {E : Value → Shared → Prop} {s : Shared} {K : Frag} {x y C f : Addr} {ox oy : Obj} {od oe : Option Obj}
theorem special_blt {M : Model} {name : Str} {id : String} {args : List Value} {Q : Option Value → Shared → Prop} (X : K.In s.heap) (I : InstAt s.heap x ox C od) (hs : findIn K (.ref C) name = some (some (.builtin id)))
    (S : Slot "object" name id) (h : wpAny M A (call (.builtin id) (.ref x :: args)) (fun v => Q (some v)) E s) : wpAny M A (callSpecialIfBound? (.ref x) name args) Q E s := by
  simp only [callSpecialIfBound?, bindSpecialIfBound?]
  refine wpAny_holding (wpAny_bind (wpAny_bind (wpAny_bind (I.type.here ((looks_findIn X hs).here ?_)))))
  simp only [S.bind]
  refine wpAny_bind (wpAny_askSetting (wpAny_ite ?_))
  have last : wpAny M A (call (.builtin id) ([.ref x] ++ args) >>= fun v => pure (some v)) Q E s := wpAny_bind (wpAny_mono h (fun _ _ z => wpAny_pure z) fun _ _ z => z)
  split
  · exact wpAny_bind (wpAny_pure (wpAny_pure last))
  · exact wpAny_tryCatch (wpAny_bind (wpAny_pure (wpAny_pure last)))
theorem ne_entry (X : K.In s.heap) (I : InstAt s.heap x ox C od) (hs : findIn K (.ref C) "__eq__" = some (some (.ref f))) (hf : isFn K (.ref f) = true) (hu : A.units < cLine) {Q : Fin → Shared → Prop}
    (hcall : wpAny (model prog w) A (call (.ref f) [.ref x, .ref y]) (fun v s' => ∃ b, v = .bool b ∧ Q (.done (.ret (.bool (!b)))) s') E s) :
    wpAny (model prog w) A (Builtin.«object.__ne__» ⟨[.ref x, .ref y], []⟩) Q E s := by
  unfold Builtin.«object.__ne__»
  repeat (first
    | with_reducible refine wpAny_cRoomFor hu ?_
    | (refine wpAny_bind (m := callSpecialIfBound? (.ref x) (Str.ofString "__eq__") [.ref y]) (ifBound_K X I hs hf (wpAny_mono hcall (fun r s' hr => by
          obtain ⟨b, rfl, hq⟩ := hr
          repeat (first | exact hq | exact wpAny_pure hq | exact wpAny_truthy_bool hq | (refine wpAny_bind (m := truthy (.bool _)) (wpAny_truthy_bool ?_)) | wp_step)) fun _ _ e => e)))
    | wp_step)
theorem try_ne (X : K.In s.heap) (I : InstAt s.heap x ox C od) (hn : findIn K (.ref C) "__ne__" = some (some (.builtin "object.__ne__"))) (ho : subIn K (.ref C) (.type "object") = some true)
    (hs : findIn K (.ref C) "__eq__" = some (some (.ref f))) (hf : isFn K (.ref f) = true) (hu : A.units + 1 < cLine) {Q : Option Value → Shared → Prop}
    (hcall : wpAny (model prog w) A.in1 (call (.ref f) [.ref x, .ref y]) (fun v s' => ∃ b, v = .bool b ∧ Q (some (.bool (!b))) s') E s) :
    wpAny (model prog w) A (tryCompare (.ref x) "__ne__" (.ref y)) Q E s := by
  simp only [tryCompare]
  have sub : Looks (model prog w) s.heap (isInstance (.ref x) (.type "object")) true := I.type.andThen (looks_subIn X ho)
  refine wpAny_bind (special_blt X I hn F.cmp_object.ne (wpAny_call (codeAny_call_builtin F.cmp_object.ne.plain F.cmpEntry_ne
    (check_slot F.cmpKind_ne F.cmpSplit_ne sub (F.cmpArgs_ne _ _) (ne_entry (A := A.in1) X I hs hf hu (wpAny_mono hcall (fun v s' hv => ?_) fun _ _ e => e))))))
  obtain ⟨b, rfl, hq⟩ := hv
  first | exact ⟨b, rfl, wpAny_pure hq⟩ | exact ⟨b, rfl, wpAny_pure (wpAny_pure hq)⟩ | exact ⟨b, rfl, hq⟩
theorem rich_ne (X : K.In s.heap) (I : InstAt s.heap x ox C od) (J : InstAt s.heap y oy C oe) (hn : findIn K (.ref C) "__ne__" = some (some (.builtin "object.__ne__"))) (ho : subIn K (.ref C) (.type "object") = some true)
    (hs : findIn K (.ref C) "__eq__" = some (some (.ref f))) (hf : isFn K (.ref f) = true) (hu : A.units + 1 < cLine) {Q : Value → Shared → Prop}
    (hcall : wpAny (model prog w) A.in1 (call (.ref f) [.ref x, .ref y]) (fun v s' => ∃ b, v = .bool b ∧ Q (.bool (!b)) s') E s) :
    wpAny (model prog w) A (compareOp .NotEq (.ref x) (.ref y)) Q E s := by
  unfold compareOp richCompare
  simp only [oneThing_ref]
  refine wpAny_holding (wpAny_bind (wpAny_cRoomFor (Nat.lt_of_succ_lt hu) ?_))
  rw [cmpInfo_NotEq]
  dsimp only
  refine wpAny_bind (I.type.here (wpAny_bind (J.type.here ?_)))
  rw [show (Value.ref C != Value.ref C) = false by simp]
  simp only [Bool.false_eq_true, if_false]
  refine wpAny_bind (wpAny_pure ?_)
  simp only [Bool.false_eq_true, if_false]
  refine wpAny_bind (try_ne X I hn ho hs hf hu (wpAny_mono hcall (fun v s' hv => ?_) fun _ _ e => e))
  obtain ⟨b, rfl, hq⟩ := hv
  first | exact ⟨b, rfl, wpAny_pure hq⟩ | exact ⟨b, rfl, wpAny_pure (wpAny_pure hq)⟩
end
/-- what the written part says of a class with its own == -/
structure OwnEq (K : PySem.W.Frag) (C f : Addr) : Prop where
  eq : PySem.W.findIn K (.ref C) "__eq__" = some (some (.ref f))
  fn : PySem.W.isFn K (.ref f) = true
  ne : PySem.W.findIn K (.ref C) "__ne__" = some (some (.builtin "object.__ne__"))
  ob : PySem.W.subIn K (.ref C) (.type "object") = some true
def rEqI (C : Addr) (sp : Sp) (neg : Bool) : R2 := fun x y H Q => ∃ a b dx dy fs gs, x = .ref a ∧ y = .ref b ∧ H a = some (.ins C dx fs) ∧ H b = some (.ins C dy gs) ∧
  sp [.ref a, .ref b] H (fun v H' => ∃ k, v = .bl k ∧ Q (.bl (if neg then !k else k)) H') (fun _ _ _ => False)
section
variable {X : Cx} {k : Nat} {C f : Addr} {fd : FuncData} {ps : List Str} {sp : Sp}
theorem op_eqI (T : OwnEq X.K C f) (F : FnOk X.prog X.w X.K X.mg X.base CX0 k f fd ps sp) (hb : Binds X.K fd ps []) (hr : Room k X.A) : OpR X (compareOp .Eq) (rEqI C sp false) := by
  intro pins s σ H x y v u Q I rx ry h
  obtain ⟨a, b, dx, dy, fs, gs, rfl, rfl, ha, hb', hsp⟩ := h
  cases rx
  cases ry
  obtain ⟨_, J, _⟩ := ins_get I.hok ha
  obtain ⟨_, J', _⟩ := ins_get I.hok hb'
  obtain ⟨_, J, _⟩ := J.look
  obtain ⟨_, J', _⟩ := J'.look
  obtain ⟨m, hF⟩ := I.fr
  show wpAny (model X.prog X.w) X.A (richCompare .Eq (.ref a) (.ref b)) (EP X pins σ Q) X.xe s
  refine PySem.W.cmp_K (op := .Eq) (tb := .ref C) hr.units0 hF I.ok.mod.kin J J'.type (by simp [PySem.W.notFirst]) T.eq T.fn ?_
  refine wpAny_mono (run_fn (E := fun _ _ _ => False) (dvs := []) (ds := []) F hr hb .nil pass0 I (vs := [.ref a, .ref b]) (us := [.ref a, .ref b]) (.cons rfl (.cons rfl .nil)) hsp) (fun v s' z => ?_) fun _ _ z => z
  obtain ⟨z, H', I', rz, kk, rfl, q⟩ := z
  cases rz
  exact ⟨.bl kk, H', I', rfl, q⟩
theorem op_neI (T : OwnEq X.K C f) (F : FnOk X.prog X.w X.K X.mg X.base CX0 k f fd ps sp) (hb : Binds X.K fd ps []) (hr : Room (k + 1) X.A) : OpR X (compareOp .NotEq) (rEqI C sp true) := by
  intro pins s σ H x y v u Q I rx ry h
  obtain ⟨a, b, dx, dy, fs, gs, rfl, rfl, ha, hb', hsp⟩ := h
  cases rx
  cases ry
  obtain ⟨_, J, _⟩ := ins_get I.hok ha
  obtain ⟨_, J', _⟩ := ins_get I.hok hb'
  obtain ⟨_, J, _⟩ := J.look
  obtain ⟨_, J', _⟩ := J'.look
  have hl := F.len _ _ _ _ hsp
  have r2 : Vals [V.ref a, V.ref b] [Value.ref a, Value.ref b] := .cons rfl (.cons rfl .nil)
  have e0 := I.env0.in1
  refine rich_ne I.kIn J J' T.ne T.ob T.eq T.fn (hu_of hr) ?_
  refine wpAny_call (codeAny_mono (F.run X.A.in1 X.stack s H ⟨[.ref a, .ref b], []⟩ [.ref a, .ref b] [.ref a, .ref b] _ _ hr.in1 e0 (by
    have := hb s [.ref a, .ref b] I.kIn (by simpa using hl)
    simpa using this) r2 hsp) fun r s' hq => ?_)
  cases r with
  | error e => exact hq.elim
  | ok fl =>
    cases fl with
    | ret w =>
      obtain ⟨z, H', I', rz, kk, rfl, q⟩ := I.after hq
      cases rz
      exact ⟨kk, rfl, .bl (!kk), H', I', rfl, q⟩
    | next => exact False.elim hq
    | brk => exact False.elim hq
    | cont => exact False.elim hq
end
end Bf
namespace Bf
open PySem PySem.Spec PyProof.Rows L2
/-! ### constants of the module -/
section
variable {X : Cx} {x : Str} {pos : Pos}
theorem pe_gi {i : Int} (h : ∃ t, X.mg x = some (.int i t)) (hg : Gl X x := by rfl) (hn : x ≠ "__name__" := by decide) (hd : (x == ("__debug__" : Str)) = false := by decide) : PE X (.Name x pos) (tC (.int i)) := by
  obtain ⟨t, e⟩ := h
  exact pe_glob hg e ⟨t, rfl⟩ hd
theorem pe_gs {z : Str} (h : ∃ t, X.mg x = some (.str z t)) (hg : Gl X x := by rfl) (hn : x ≠ "__name__" := by decide) (hd : (x == ("__debug__" : Str)) = false := by decide) : PE X (.Name x pos) (tC (.str z)) := by
  obtain ⟨t, e⟩ := h
  exact pe_glob hg e ⟨t, rfl⟩ hd
end
/-- the built-in names that the text leaves alone -/
structure Bl (mg : Str → Option Value) : Prop where
  len : mg "len" = none
  isinstance : mg "isinstance" = none
  str : mg "str" = none
  int : mg "int" = none
  bool : mg "bool" = none
  tuple : mg "tuple" = none
  list : mg "list" = none
  dict : mg "dict" = none
  set : mg "set" = none
  sorted : mg "sorted" = none
  all : mg "all" = none
  any : mg "any" = none
  range : mg "range" = none
  enumerate : mg "enumerate" = none
  reversed : mg "reversed" = none
  min : mg "min" = none
  max : mg "max" = none
def blNames : List Str := ["len", "isinstance", "str", "int", "bool", "tuple", "list", "dict", "set", "sorted", "all", "any", "range", "enumerate", "reversed", "min", "max"]
/-! ### exceptions with one field -/
def spInit (K : PySem.W.Frag) (fld : Str) : Sp := fun vs H Q _ => ∃ (a C : Addr) (y : V), vs = [.ref a, y] ∧ H a = some (exo a C none) ∧ OexC K C ∧ PySem.W.findIn K (.ref C) fld = some none ∧
  ∀ dx, H dx = none → dx ≠ a → Q .non (upd (upd H dx (exd dx [(fld, y)])) a (exo a C (some dx)))
/-- what the written part says of an own exception with one field: made, raised, read -/
structure ExT (P : Program) (w : World) (K : PySem.W.Frag) (mg : Str → Option Value) (base : Heap) (x fld : Str) (C : Addr) : Prop where
  g : mg x = some (.ref C)
  o : OexC K C
  xf : XfC K C
  no : PySem.W.findIn K (.ref C) fld = some none
  i : ∃ (f : Addr) (fd : FuncData) (ps : List Str), PySem.W.findIn K (.ref C) "__init__" = some (some (.ref f)) ∧ PySem.W.typeIn K (.ref f) = some (.type "function") ∧ FnOk P w K mg base CX0 1 f fd ps (spInit K fld) ∧ Binds K fd ps []
section
variable {X : Cx} {x fld : Str} {C : Addr} {W : WX} {e : Expr} {ta : TA} {p pos pos2 : Pos}
def tRx (C : Addr) (fld : Str) (W : WX) (ta : TA) : TS := fun _ σ H => ta σ H fun vs H1 => ∃ v, vs = [v] ∧ ∀ d, H1 d = none → W (.ref C) (some d) σ (upd H1 d (.xd [(fld, v)]))
theorem ps_rx (T : ExT X.prog X.w X.K X.mg X.base x fld C) (hc : X.calm = true) (tk : Takes X W) (hr : Room 2 X.A) (ha : PA X [e] ta) (hg : Gl X x := by rfl)
    (hdb : (x == ("__debug__" : Str)) = false := by decide) (he : starEach (e :: []) X.env = (false, eval e X.env) :: starEach [] X.env := by rfl) (hpl : (backTo pos (starEach [] X.env)).any (·.1) = false := by rfl) :
    PS X (.Raise (some (.Call (.Name x p) [e] [] pos)) none pos2) (tRx C fld W ta) := by
  obtain ⟨f, fd, ps, h1, h2, F, b⟩ := T.i
  have ha2 : PA X [e] (fun σ H Q => ∃ G : List V → Hp → Prop, ta σ H G ∧ ∀ vs H1, G vs H1 → Q vs H1) :=
    ⟨fun pos pins s σ H Q I ⟨G, h, m⟩ => thn (ha.run pos pins s σ H G I h) fun us s1 ⟨vs, H1, I1, r1, q⟩ => ⟨vs, H1, I1, r1, m _ _ q⟩⟩
  have z := ps_raise (pos := pos2) hc tk (pmk_oex (p := p) (pos := pos) T.o h1 h2 F hr b .nil pass0 hg T.g ha2 hdb he hpl)
  refine ⟨fun pins s σ H D I h => z.run pins s σ H D I ⟨_, h, ?_⟩⟩
  have key : ∀ vs H1, (∃ v, vs = [v] ∧ ∀ d, H1 d = none → W (.ref C) (some d) σ (upd H1 d (.xd [(fld, v)]))) →
      vs.length ≤ 1000 ∧ ∀ a, H1 a = none → spInit X.K fld (.ref a :: (vs ++ [])) (upd H1 a (exo a C none)) (fun v H2 => v = .non ∧ ∃ (d : Addr) (fs : List (Str × V)), H2 a = some (exo a C (some d)) ∧ H2 d = some (exd d fs) ∧ H1 d = none ∧ (fun cls d H' => W cls d σ H') (.ref C) (some d) (upd (del H2 a) d (.xd fs))) (fun _ _ _ => False) := by
    rintro vs H1 ⟨v, rfl, q⟩
    refine ⟨by show 1 ≤ 1000; decide, fun a na => ⟨a, C, v, rfl, upd_same, T.o, T.no, fun dx ndx ne => ⟨rfl, dx, [(fld, v)], upd_same, ?_, ?_, ?_⟩⟩⟩
    · rw [upd_ne ne, upd_same]
    · rw [upd_ne ne] at ndx
      exact ndx
    · rw [upd_ne ne] at ndx
      have e1 : upd (del (upd (upd (upd H1 a (exo a C none)) dx (exd dx [(fld, v)])) a (exo a C (some dx))) a) dx (.xd [(fld, v)]) = upd H1 dx (.xd [(fld, v)]) := by
        funext b
        by_cases hb : b = dx
        · rw [hb, upd_same, upd_same]
        · rw [upd_ne hb, upd_ne hb]
          by_cases hba : b = a
          · rw [hba, del_same, na]
          · rw [del_ne hba, upd_ne hba, upd_ne hb, upd_ne hba]
      show W (.ref C) (some dx) σ (upd (del (upd (upd (upd H1 a (exo a C none)) dx (exd dx [(fld, v)])) a (exo a C (some dx))) a) dx (.xd [(fld, v)]))
      rw [e1]
      exact q dx ndx
  exact key
end
end Bf
namespace Bf
open PySem PySem.Spec PyProof.Rows L2
/-! ### a def's body -/
abbrev FnS (K : PySem.W.Frag) (x q : Str) (st : Stmt) (f : Addr) (fd : FuncData) : Prop := FunD K x q (defArgs st) (defBody st) (defScope st) [] [] f fd
section
variable {P : Program} {w : World} {K : PySem.W.Frag} {mg : Str → Option Value} {base : Heap} {x q : Str} {st : Stmt} {f : Addr} {fd : FuncData} {N ps : List Str} {k : Nat} {sp : Sp}
/-- a def that lets nothing out -/
theorem okD (F : FnS K x q st f fd) (S : FnScope N ps (defScope st)) (len : ∀ vs H Q E, sp vs H Q E → vs.length = ps.length)
    (hbody : ∀ (cdv : Value) (A : Around) (outer : List Env) (s : Shared) (H : Hp) (vs : List V) (Q : VK) (E : XK),
      Room k (A.deeper (envOfC q (defScope st) s.heap.objs.size f cdv)) → sp vs H Q E →
      ∃ t, PSs (cxOf CX0 P w K mg base N q (defScope st) f cdv A outer s H E).nox (defBody st) t ∧ t { nx := fun _ H' => Q .non H', rt := Q } (start N vs) H) :
    FnOk P w K mg base CX0 (k + 1) f fd ps sp :=
  F.ok S len fun cdv A outer s H vs Q E hr h => let ⟨t, d, r⟩ := hbody cdv A outer s H vs Q E hr h; ⟨t, d.nox, r⟩
/-- a def that may raise -/
theorem okE (F : FnS K x q st f fd) (S : FnScope N ps (defScope st)) (len : ∀ vs H Q E, sp vs H Q E → vs.length = ps.length)
    (hbody : ∀ (cdv : Value) (A : Around) (outer : List Env) (s : Shared) (H : Hp) (vs : List V) (Q : VK) (E : XK),
      Room k (A.deeper (envOfC q (defScope st) s.heap.objs.size f cdv)) → sp vs H Q E →
      Takes (cxOf (L2.CX P w) P w K mg base N q (defScope st) f cdv A outer s H E) (fun cls d _ H => E cls d H) →
      ∃ t, PSs (cxOf (L2.CX P w) P w K mg base N q (defScope st) f cdv A outer s H E) (defBody st) t ∧ t { nx := fun _ H' => Q .non H', rt := Q } (start N vs) H) :
    FnOk P w K mg base (L2.CX P w) (k + 1) f fd ps sp :=
  F.ok S len fun cdv A outer s H vs Q E hr h => hbody cdv A outer s H vs Q E hr h (takes_of rfl rfl rfl rfl)
end
/-! ### __init__ of an exception: self.f = f -/
theorem ok_xinit {P : Program} {w : World} {K : PySem.W.Frag} {mg : Str → Option Value} {base : Heap} {q fld : Str} {st : Stmt} {f : Addr} {fd : FuncData} {p1 p2 p3 p4 : Pos} (F : FnS K "__init__" q st f fd)
    (hb : defBody st = [.Assign [.Attribute (.Name "self" p1) fld p2] (.Name fld p3) p4]) (S : FnScope ["self", fld] ["self", fld] (defScope st))
    (l1 : (defScope st).names.lookup ("self" : Str) = some .local) (l2 : (defScope st).names.lookup fld = some .local) (h1 : (fld == ("__debug__" : Str)) = false) (h2 : (fld == ("__classdict__" : Str)) = false)
    (b : ∀ (kV doc pm : Value) (an : Option Addr) (cdv ct : Value) (us : List Value), us.length = (["self", fld] : List Str).length → bindArgs (PySem.W.fnOf "__init__" q (defArgs st) (defBody st) (defScope st) .none kV doc pm an cdv ct) ⟨us, []⟩ = pure ((["self", fld] : List Str).zip us)) :
    ∃ ps, FnOk P w K mg base CX0 1 f fd ps (spInit K fld) ∧ Binds K fd ps [] := by
  refine ⟨["self", fld], okD F S (fun vs H Q E h => ?_) (fun cdv A outer s H vs Q E hr h => ?_), F.bindsN b⟩
  · obtain ⟨a, C, y, rfl, _⟩ := h
    rfl
  · obtain ⟨a, C, y, rfl, ha, o, no, q⟩ := h
    rw [hb]
    refine ⟨_, pss_one (ps_ost (pe_var (i := 0) rfl (.inl l1)) (pe_var (i := 1) rfl (.inl l2) h1 h2)), ?_⟩
    exact ⟨y, rfl, .ref a, rfl, a, C, rfl, o, no, .inl ⟨ha, fun dx nd ne => q dx nd ne⟩⟩
/-! ### facts of the written part as one Bool -/
def oexB (K : PySem.W.Frag) (C : Addr) : Bool := match K.lookup C with
  | some ⟨.type t, _, .cls cd, sl⟩ => decide (t = "type") && (match cd.mro, sl.toList with
    | .ref D :: bm, [_, _, _, _, some (.builtin n), _] => decide (D = C) && (decide (n = "ValueError.__new__") && (!cd.hasDel && (cd.hasDict && PySem.HandSPX.refsVE bm)))
    | _, _ => false)
  | _ => false
theorem oexB_ok {K : PySem.W.Frag} {C : Addr} (h : oexB K C = true) :
    ∃ nm q N bs bm sn sub ab col dd k0 k1 k2 k3 k5, K.lookup C = some (excClassObj nm q C N bs bm true sn sub ab col dd k0 k1 k2 k3 k5 "ValueError.__new__") ∧ PySem.HandSPX.refsVE bm = true := by
  unfold oexB at h
  split at h
  · rename_i t dd cd sl ho
    have ht := of_decide_eq_true (Bool.and_eq_true_iff.mp h).1
    subst ht
    split at h
    · rename_i D bm k0 k1 k2 k3 n k5 hm hs
      obtain ⟨_, h⟩ := Bool.and_eq_true_iff.mp h
      obtain ⟨h1, h⟩ := Bool.and_eq_true_iff.mp h
      obtain ⟨h2, h⟩ := Bool.and_eq_true_iff.mp h
      obtain ⟨h3, h⟩ := Bool.and_eq_true_iff.mp h
      obtain ⟨h4, h5⟩ := Bool.and_eq_true_iff.mp h
      have h1 := of_decide_eq_true h1
      have h2 := of_decide_eq_true h2
      subst h1 h2
      obtain ⟨nm, bs, mro, ns, qn, hd, sn, sub, ab, col, del⟩ := cd
      dsimp only at hm h3 h4
      subst hm h4
      have h3 : del = false := by simpa using h3
      subst h3
      have hsl : sl = #[k0, k1, k2, k3, some (.builtin "ValueError.__new__"), k5] := by
        obtain ⟨l⟩ := sl
        simp only at hs
        rw [hs]
      subst hsl
      exact ⟨nm, qn, ns, bs, bm, sn, sub, ab, col, dd, k0, k1, k2, k3, k5, ho, h5⟩
    · cases h
  · cases h
def isO (a b : Option (Option Value)) : Bool := decide (a = b)
/-- an exception x with the field f -/
def excB (K : PySem.W.Frag) (x fld : Str) : Bool := oexB K (He.ga K x) && (isO (PySem.W.findIn K (.ref (He.ga K x)) "__setattr__") (some (some (.builtin "object.__setattr__"))) &&
  (decide (PySem.W.subIn K (.ref (He.ga K x)) (.type "BaseException") = some true) && (decide (PySem.W.typeIn K (.ref (He.ga K x)) = some (.type "type")) && (PySem.W.keepIn K (.ref (He.ga K x)) &&
  (xfB K (He.ga K x) && (isO (PySem.W.findIn K (.ref (He.ga K x)) fld) (some none) && (isO (PySem.W.findIn K (.ref (He.ga K x)) "__init__") (some (some (.ref (He.ma K (He.ga K x) "__init__")))) &&
  decide (PySem.W.typeIn K (.ref (He.ma K (He.ga K x) "__init__")) = some (.type "function")))))))))
theorem excB_ok {P : Program} {w : World} {K : PySem.W.Frag} {mg : Str → Option Value} {base : Heap} {x fld : Str} (h : excB K x fld = true) (g : mg x = some (.ref (He.ga K x)))
    (i : ∃ fd ps, FnOk P w K mg base CX0 1 (He.ma K (He.ga K x) "__init__") fd ps (spInit K fld) ∧ Binds K fd ps []) : ExT P w K mg base x fld (He.ga K x) := by
  obtain ⟨h1, h⟩ := Bool.and_eq_true_iff.mp h
  obtain ⟨h2, h⟩ := Bool.and_eq_true_iff.mp h
  obtain ⟨h3, h⟩ := Bool.and_eq_true_iff.mp h
  obtain ⟨h4, h⟩ := Bool.and_eq_true_iff.mp h
  obtain ⟨h5, h⟩ := Bool.and_eq_true_iff.mp h
  obtain ⟨h6, h⟩ := Bool.and_eq_true_iff.mp h
  obtain ⟨h7, h⟩ := Bool.and_eq_true_iff.mp h
  obtain ⟨h8, h9⟩ := Bool.and_eq_true_iff.mp h
  obtain ⟨fd, ps, F, b⟩ := i
  exact ⟨g, ⟨oexB_ok h1, of_decide_eq_true h2, of_decide_eq_true h3, of_decide_eq_true h4, h5⟩, xfB_ok h6, of_decide_eq_true h7, _, fd, ps, of_decide_eq_true h8, of_decide_eq_true h9, F, b⟩
/-- names that stand for objects, names that are free -/
def globB (K : PySem.W.Frag) (l : List Str) : Bool := l.all fun x => isO (PySem.W.nsIn K mainGlobals x) (some (some (.ref (He.ga K x))))
def freeB (K : PySem.W.Frag) (l : List Str) : Bool := l.all fun x => isO (PySem.W.nsIn K mainGlobals x) (some none)
section
variable {K : PySem.W.Frag} {h : Heap} {mg : Str → Option Value}
theorem globB_ok (X : K.In h) (G : h.Ns mainGlobals mg) {l : List Str} (c : globB K l = true) {x : Str} (hx : x ∈ l) : mg x = some (.ref (He.ga K x)) :=
  PySem.W.mg_of X G (of_decide_eq_true (List.all_eq_true.mp c x hx))
theorem freeB_ok (X : K.In h) (G : h.Ns mainGlobals mg) {l : List Str} (c : freeB K l = true) {x : Str} (hx : x ∈ l) : mg x = none :=
  PySem.W.mg_none_of X G (of_decide_eq_true (List.all_eq_true.mp c x hx))
theorem bl_of (X : K.In h) (G : h.Ns mainGlobals mg) (c : freeB K blNames = true) : Bl mg := by
  constructor <;> exact freeB_ok X G c (by decide)
end
/-- a class with its own == -/
def ownB (K : PySem.W.Frag) (C : Addr) : Bool := isO (PySem.W.findIn K (.ref C) "__eq__") (some (some (.ref (He.ma K C "__eq__")))) && (PySem.W.isFn K (.ref (He.ma K C "__eq__")) &&
  (isO (PySem.W.findIn K (.ref C) "__ne__") (some (some (.builtin "object.__ne__"))) && decide (PySem.W.subIn K (.ref C) (.type "object") = some true)))
theorem ownB_ok {K : PySem.W.Frag} {C : Addr} (h : ownB K C = true) : OwnEq K C (He.ma K C "__eq__") := by
  obtain ⟨h1, h⟩ := Bool.and_eq_true_iff.mp h
  obtain ⟨h2, h⟩ := Bool.and_eq_true_iff.mp h
  obtain ⟨h3, h4⟩ := Bool.and_eq_true_iff.mp h
  exact ⟨of_decide_eq_true h1, h2, of_decide_eq_true h3, of_decide_eq_true h4⟩
/-! ### the Hook: the defs, and one Bool -/
abbrev AlB : Type := Bool × List He.FnW
def obB (fn : List He.DefD) (ex : PySem.W.Frag → Bool) (K : PySem.W.Frag) : AlB := (ex K && fn.all fun d => d.ok K, fn.map fun d => He.fnW K d.at_)
structure SayB (fn : List He.DefD) (ex : PySem.W.Frag → Bool) (K : PySem.W.Frag) : Prop where
  more : ex K = true
  defs : ∀ d ∈ fn, ∃ fd, FunD K d.name d.qual d.params d.body d.scope (d.dvs K) (d.kws K) (He.fAd K d.at_) fd
theorem sayB_of {fn : List He.DefD} {ex : PySem.W.Frag → Bool} {K : PySem.W.Frag} (e : obB fn ex K = (true, fn.map He.DefD.val)) : SayB fn ex K := by
  have e1 : (ex K && fn.all fun d => d.ok K) = true := congrArg (fun z : AlB => z.1) e
  have e2 : fn.map (fun d => He.fnW K d.at_) = fn.map He.DefD.val := congrArg (fun z : AlB => z.2) e
  obtain ⟨h1, h2⟩ := Bool.and_eq_true_iff.mp e1
  refine ⟨h1, fun d hd => ?_⟩
  obtain ⟨i, hi, ei⟩ := List.mem_iff_getElem.mp hd
  have e3 : (fn.map fun d => He.fnW K d.at_)[i]? = (fn.map He.DefD.val)[i]? := by rw [e2]
  have e4 : fn[i]? = some d := by rw [List.getElem?_eq_getElem hi, ei]
  rw [List.getElem?_map, List.getElem?_map, e4] at e3
  exact He.DefD.funD (Option.some.inj e3) (List.all_eq_true.mp h2 d hd)
def hookB (n : Nat) (fn : List He.DefD) (ex : PySem.W.Frag → Bool) : PySem.W.Hook where
  α := AlB
  obs := fun s => obB fn ex (He.frG s.heap.get? (He.asD s.heap.get? n))
  val := fun _ => (true, fn.map He.DefD.val)
  says := fun _ h => ∃ K : PySem.W.Frag, K.In h ∧ SayB fn ex K
  of := fun _ _ e => ⟨_, He.frG_in, sayB_of e⟩
  keeps := fun _ _ _ ⟨K, i, c⟩ k => ⟨K, PySem.W.Frag.In.keeps i k, c⟩
def lookB (n : Nat) (fn : List He.DefD) (ex : PySem.W.Frag → Bool) (s : PySem.W.SharedT) : AlB := obB fn ex (He.frG (HandSHeadRun.getT s) (He.asD (HandSHeadRun.getT s) n))
theorem lookB_eq (n : Nat) (fn : List He.DefD) (ex : PySem.W.Frag → Bool) (s : PySem.W.SharedT) : lookB n fn ex s = (hookB n fn ex).obs s.abs := by
  have e : HandSHeadRun.getT s = s.abs.heap.get? := funext (HandSHeadRun.getT_eq s)
  unfold lookB
  rw [e]
  rfl
end Bf
namespace Bf
open PySem PySem.Spec PyProof.Rows L2
/-! ### C(..) and o.m(..) within a try: what is raised is wished for at the slots of here -/
section
variable {X : Cx} {CX : CXT} {k : Nat} {f C : Addr} {fd : FuncData} {ps : List Str} {sp : Sp} {E : L2.St → XK} {x m : Str} {p pos apos : Pos} {e o : Expr} {es : List Expr} {ta : TE} {t : TA}
def tMkS (C : Addr) (sp : Sp) (E : L2.St → XK) (t : TA) : TE := fun σ H Q => t σ H fun vs H1 => ∀ y dy, H1 y = none → H1 dy = none → dy ≠ y →
  sp (.ref y :: vs) (upd (upd H1 dy (.own y)) y (.ins C dy [])) (fun v H2 => v = .non ∧ Q (.ref y) H2) (E σ)
theorem run_mkS {pins : List (Addr × Obj)} {σ : L2.St} {H : Hp} {s : Shared} {Q : VK} {us : List Value} {vs : List V} (M : Mk X.K C f) (F : FnOk X.prog X.w X.K X.mg X.base CX k f fd ps sp)
    (hr : Room (k + 1) X.A) (hb : Binds X.K fd ps []) (hx : PassesAt CX X σ (E σ)) (I : Inv X pins σ H s) (r : Vals vs us)
    (h : ∀ y dy, H y = none → H dy = none → dy ≠ y → sp (.ref y :: vs) (upd (upd H dy (.own y)) y (.ins C dy [])) (fun v H2 => v = .non ∧ Q (.ref y) H2) (E σ)) :
    wpAny (model X.prog X.w) X.A (call (.ref C) us) (EP X pins σ Q) X.xe s := by
  have n1 : H (s.heap.objs.size + 1) = none := I.hok.fresh (Nat.le_succ _)
  have n0 : H s.heap.objs.size = none := I.hok.fresh (Nat.le_refl _)
  have hq := h (s.heap.objs.size + 1) s.heap.objs.size n1 n0 (Nat.ne_of_lt (Nat.lt_succ_self _))
  have J := Inv.made (C := C) I
  have r2 : Vals (V.ref (s.heap.objs.size + 1) :: vs) (Value.ref (s.heap.objs.size + 1) :: us) := .cons rfl r
  have hl : (Value.ref (s.heap.objs.size + 1) :: us).length = ps.length := by rw [← r2.length]; exact F.len _ _ _ _ hq
  have b := hb _ (Value.ref (s.heap.objs.size + 1) :: us) J.kIn (by rw [List.append_nil]; exact hl)
  rw [List.append_nil] at b
  refine wpAny_call (make_map (f := f) I.kIn M.makes M.init (beq_iff_eq.mp M.fn) ?_)
  refine codeAny_mono (F.run _ X.stack _ _ ⟨Value.ref (s.heap.objs.size + 1) :: us, []⟩ _ _ _ (E σ) (hr.make C us []) (J.env0.make C us []) b r2 hq) fun r s' z => ?_
  cases r with
  | error er => exact hx pins _ _ er s' J z
  | ok fl =>
    cases fl with
    | ret u =>
      obtain ⟨v, H', I3, rv, ev, q3⟩ := J.after z
      subst ev
      exact ⟨rv, V.ref (s.heap.objs.size + 1), H', I3, rfl, q3⟩
    | next => exact False.elim z
    | brk => exact False.elim z
    | cont => exact False.elim z
theorem pe_mkS (M : Mk X.K C f) (F : FnOk X.prog X.w X.K X.mg X.base CX k f fd ps sp) (hr : Room (k + 1) X.A) (hm : X.mg x = some (.ref C)) (hb : Binds X.K fd ps []) (hx : ∀ σ, PassesAt CX X σ (E σ)) (ha : PA X (e :: es) t)
    (hg : Gl X x := by rfl) (hdb : (x == ("__debug__" : Str)) = false := by decide) (he : starEach (e :: es) X.env = (false, eval e X.env) :: starEach es X.env := by rfl)
    (hpl : (backTo pos (starEach es X.env)).any (·.1) = false := by rfl) : PE X (.Call (.Name x p) (e :: es) [] pos) (tMkS C sp E t) := by
  refine ⟨fun pins s σ H Q I h => wpAny_Call_Name_kw (ld_glob I hg hm ?_ hdb)⟩
  exact PySem.W.callWith_K (h₀ := X.base) I.ok.mod.kin M.kp (thn (ha.run pos pins s σ H _ I h) fun us s1 ⟨vs, H1, I1, r, q⟩ => ⟨I1.kIn, run_mkS M F hr hb (hx σ) I1 r q⟩) he hpl
def tMtS (C : Addr) (m : Str) (sp : Sp) (E : L2.St → XK) (ta : TE) (t : TA) : TE := fun σ H Q => ta σ H fun x H1 => ∃ a dx fs, x = .ref a ∧ H1 a = some (.ins C dx fs) ∧ fs.lookup m = none ∧
  t σ H1 fun vs H2 => sp (x :: vs) H2 Q (E σ)
theorem pe_mtS {pl : Sem Bool} (he : PE X o ta) (c : Cls X.K C) (hm : Meth X.K C m f) (F : FnOk X.prog X.w X.K X.mg X.base CX k f fd ps sp) (hr : Room k X.A) (hb : Binds X.K fd ps []) (hx : ∀ σ, PassesAt CX X σ (E σ)) (ha : PA X (e :: es) t)
    (h1 : starEach (e :: es) X.env = (false, eval e X.env) :: starEach es X.env := by rfl) (h2 : (backTo pos (starEach es X.env)).any (·.1) = false := by rfl)
    (ht : eval (.Call (.Attribute o m apos) (e :: es) [] pos) X.env = (do
      let ov ← eval o X.env
      standAt apos.atName
      let (g, first) ← holding [ov] (getMethod ov m pl)
      callWith pos g first (backTo pos (starEach (e :: es) X.env)) (backToKw pos (keywordEach [] X.env))) := by rfl) :
    PE X (.Call (.Attribute o m apos) (e :: es) [] pos) (tMtS C m sp E ta t) := by
  refine ⟨fun pins s σ H Q I h => PySem.W.methodCall_KW (pl := pl) (thn (he.run pins s σ H _ I h) fun u s1 ⟨x, H1, I1, rx, a, dx, fs, ex, ea, l, q⟩ => ?_) ht⟩
  subst ex
  obtain rfl : u = Value.ref a := rx
  refine getmeth_ok I1 ea c hm l (PySem.W.callWith_K (first := [.ref a]) (h₀ := X.base) I.ok.mod.kin hm.kp (thn (ha.run pos pins s1 σ H1 _ I1 q) fun us s2 ⟨vs, H2, I2, r, q2⟩ => ⟨I2.kIn, ?_⟩) h1 h2)
  exact run_fnS (us := .ref a :: us) (vs := .ref a :: vs) F hr hb (hx σ) I2 (.cons rfl r) q2
end
end Bf
namespace Bf
open PySem PySem.Spec PyProof.Rows L2 Evl
/-! ### the order of texts; the sorted list -/
def leS (a b : Str) : Bool := !ltCps b.cps.toList a.cps.toList
theorem leS_iff {a b : Str} : leS a b = true ↔ a.cps.toList ≤ b.cps.toList := by
  unfold leS
  rw [ltCps_eq]
  simp
theorem leS_trans (a b c : Str) (h1 : leS a b = true) (h2 : leS b c = true) : leS a c = true := leS_iff.mpr (Std.le_trans (leS_iff.mp h1) (leS_iff.mp h2))
theorem leS_total (a b : Str) : (leS a b || leS b a) = true := by
  rw [Bool.or_eq_true]
  rcases Std.le_total (a := a.cps.toList) (b := b.cps.toList) with h | h
  · exact .inl (leS_iff.mpr h)
  · exact .inr (leS_iff.mpr h)
theorem leS_antisymm {a b : Str} (h1 : leS a b = true) (h2 : leS b a = true) : a = b := by
  have e : a.cps.toList = b.cps.toList := Std.le_antisymm (leS_iff.mp h1) (leS_iff.mp h2)
  cases a with
  | mk x => cases b with
    | mk y =>
      have e2 : x = y := Array.toList_inj.mp e
      rw [e2]
theorem pw_of_rising : ∀ (p : Str) (l : List Str), risingS p l = true → (p :: l).Pairwise (fun a b => leS a b = true)
  | p, [], _ => List.pairwise_singleton _ _
  | p, x :: r, h => by
    obtain ⟨h1, h2⟩ := Bool.and_eq_true_iff.mp (show (!ltCps x.cps.toList p.cps.toList && risingS x r) = true from h)
    have ih := pw_of_rising x r h2
    refine List.pairwise_cons.mpr ⟨fun y hy => ?_, ih⟩
    rcases List.mem_cons.mp hy with rfl | hy
    · exact h1
    · exact leS_trans p x y h1 (List.rel_of_pairwise_cons ih hy)
theorem pw_of_sorted : ∀ {l : List Str}, sortedS l = true → l.Pairwise (fun a b => leS a b = true)
  | [], _ => List.Pairwise.nil
  | x :: r, h => pw_of_rising x r h
def srt (l : List Str) : List Str := l.mergeSort leS
theorem srt_perm (l : List Str) : (srt l).Perm l := List.mergeSort_perm l leS
theorem srt_pw (l : List Str) : (srt l).Pairwise (fun a b => leS a b = true) := List.pairwise_mergeSort leS_trans leS_total l
theorem srt_len (l : List Str) : (srt l).length = l.length := (srt_perm l).length_eq
theorem srt_mem {l : List Str} {x : Str} : x ∈ srt l ↔ x ∈ l := (srt_perm l).mem_iff
theorem srt_eq {l m : List Str} (p : m.Perm l) (s : sortedS m = true) : m = srt l :=
  List.Perm.eq_of_pairwise (le := fun a b => leS a b = true) (fun a b _ _ h1 h2 => leS_antisymm h1 h2) (pw_of_sorted s) (srt_pw l) (p.trans (srt_perm l).symm)
theorem srt_congr {l m : List Str} (p : m.Perm l) : srt m = srt l :=
  List.Perm.eq_of_pairwise (le := fun a b => leS a b = true) (fun a b _ _ h1 h2 => leS_antisymm h1 h2) (srt_pw m) (srt_pw l) ((srt_perm m).trans (p.trans (srt_perm l).symm))
/-! ### names -/
def abc : Str := "abcdefghijklmnopqrstuvwxyz"
def isNm (z : Str) : Bool := decide (1 ≤ z.length) && (decide (z.length ≤ 8) && z.cps.toList.all fun c => decide (c ∈ abc.cps.toList))
/-! ### lists of texts -/
theorem inV_str {x : Str} {xs : List Str} : inV (.str x) (xs.map V.str) = decide (x ∈ xs) := by
  unfold inV
  rw [List.any_map]
  induction xs with
  | nil => rfl
  | cons y r ih =>
    rw [List.any_cons, ih]
    show ((y == x) || _) = _
    by_cases h : y = x
    · subst h
      simp
    · have : (y == x) = false := by simpa using h
      rw [this]
      simp [Ne.symm h]
theorem flat_strs (xs : List Str) : (xs.map V.str).all flatV = true := by
  rw [List.all_map]
  exact List.all_eq_true.mpr fun _ _ => rfl
/-! ### a comprehension whose turns only read -/
theorem lc_pure {J : It} {n : Nat} {G : Hp → Prop} {item : Nat → V} {σ : L2.St} {H : Hp} {D : Addr} {vs : List Nat} {j : Nat} {tt : TT} {te : TE} {Qd : Hp → Prop} (f : Nat → Bool) (v : Nat → V)
    (w : Walk J n G (fun i H x H' => H' = H ∧ x = item i)) (hG : ∀ H', Ex H H' → G H') (hD : H D = none) (hn : n ≤ 40000) (hw : ∀ x, wipe ((wipe σ vs).set j (some x)) vs = wipe σ vs)
    (ht : ∀ i H1, Ex H H1 → i < n → EvT tt ((wipe σ vs).set j (some (item i))) H1 (f i)) (he : ∀ i H1, Ex H H1 → i < n → f i = true → Ev te ((wipe σ vs).set j (some (item i))) H1 (v i))
    (hq : ∀ H', Ex H H' → H' D = some (.lst (given n f v)) → Qd H') :
    ∃ W : Nat → Nat → Hp → Prop, (∃ m, W 0 m (upd H D (.lst []))) ∧ ∀ i m H, W i m H →
      (J.stop i H ∧ Qd H) ∨ (J.go i H ∧ ∃ Nx : Hp → Prop, (∀ H', Nx H' → ∃ m', m' < m ∧ W (i + 1) m' H') ∧ ∀ x H', J.yld i H x H' → gName j x (wipe σ vs) H' fun σ2 H2 => wipe σ2 vs = wipe σ vs ∧ tt σ2 H2 fun b H3 =>
        if b = true then te σ2 H3 fun y H4 => ∃ acc, H4 D = some (.lst acc) ∧ acc.length < sizeLine ∧ Nx (upd H4 D (.lst (acc ++ [y]))) else Nx H3) := by
  refine lc_it w (Cw H f v D) ⟨hD, Ex.new hD, upd_same⟩ (fun i H' _ p => hG H' p.2.1) (fun i x H1 H2 hi p y => ?_) (fun H' p => hq H' p.2.1 p.2.2)
  obtain ⟨rfl, rfl⟩ := y
  exact ⟨hw _, cw_turn p (by omega) (ht i H (Ex.refl H) hi) (fun hf => he i H (Ex.refl H) hi hf)⟩
theorem et_yes {σ : L2.St} {H : Hp} : EvT tYes σ H true := fun H1 _ _ q => q H1 (Ex.refl H1)
theorem given_all (n : Nat) (v : Nat → V) : given n (fun _ => true) v = (List.range n).map v := by
  unfold given
  rw [List.filter_eq_self.mpr fun _ _ => rfl]
theorem range_map_get {α β : Type} (l : List α) (g : α → β) (v : Nat → β) (h : ∀ i x, l[i]? = some x → v i = g x) : (List.range l.length).map v = l.map g := by
  apply List.ext_getElem
  · simp
  · intro i h1 h2
    have hi : i < l.length := by simpa using h1
    simp only [List.getElem_map, List.getElem_range]
    exact h i _ (List.getElem?_eq_getElem hi)
theorem walk_strF {z : Str} : Walk (Its z) z.cps.size (fun _ => True) (fun i H v H' => H' = H ∧ v = .str ⟨#[z.cps.getD i 0]⟩) :=
  walk_str.mono (fun _ h => h) fun i H v H' hi _ ⟨e, c, hc, hv⟩ => ⟨e, by
    rw [hv]
    have : z.cps.getD i 0 = c := by simp [Array.getD, hi, (Array.getElem?_eq_some_iff.mp hc).2]
    rw [this]⟩
theorem walk_listF {K : PySem.W.Frag} {a : Addr} {xs : List V} : Walk (Itl K a) xs.length (fun H => SqL K H a xs) (fun i H v H' => H' = H ∧ v = xs.getD i .non) :=
  walk_list.mono (fun _ h => h) fun i H v H' hi _ ⟨e, h⟩ => ⟨e, by simp [List.getD, h]⟩
theorem walk_tupF {K : PySem.W.Frag} {a : Addr} {xs : List V} : Walk (Itt K a) xs.length (fun H => SqT K H a xs) (fun i H v H' => H' = H ∧ v = xs.getD i .non) :=
  walk_tup.mono (fun _ h => h) fun i H v H' hi _ ⟨e, h⟩ => ⟨e, by simp [List.getD, h]⟩
end Bf
namespace Bf
open PySem PySem.Spec PyProof.Rows L2 Evl
/-! ### drawn names -/
/-- what _law_names draws: one to seven letters, never six -/
def Drawn (z : Str) : Prop := isNm z = true ∧ z.length ≤ 7 ∧ z.length ≠ 6
def NamesOk (xs : List Str) : Prop := xs.Nodup ∧ ∀ x ∈ xs, Drawn x
abbrev sign (c : Nat) : Str := ⟨#[c]⟩
theorem str_ext {a b : Str} (h : a.cps.toList = b.cps.toList) : a = b := by
  cases a with
  | mk x => cases b with
    | mk y =>
      have e2 : x = y := Array.toList_inj.mp h
      rw [e2]
theorem joinL_signs : ∀ cs : List Nat, TL.joinL [] (cs.map fun c => [c]) = cs
  | [] => rfl
  | [_] => rfl
  | a :: b :: r => by
    show [a] ++ ([] ++ TL.joinL [] ((b :: r).map fun c => [c])) = a :: b :: r
    rw [joinL_signs (b :: r)]
    rfl
theorem join_signs (cs : List Nat) : (Txt.join "" (cs.map sign)).cps.toList = cs := by
  rw [TL.join_eq]
  have h := TL.tl_join "" (cs.map sign)
  have e : (cs.map sign).map TL.tl = cs.map fun c => [c] := by
    rw [List.map_map]
    rfl
  rw [e, show TL.tl ("" : Str) = [] from rfl, joinL_signs] at h
  exact h
theorem len_toList (z : Str) : z.cps.toList.length = z.length := Array.length_toList
theorem join_drawn {cs : List Nat} (h1 : 1 ≤ cs.length) (h7 : cs.length ≤ 7) (h6 : cs.length ≠ 6) (ha : ∀ c ∈ cs, c ∈ abc.cps.toList) : Drawn (Txt.join "" (cs.map sign)) := by
  have e := join_signs cs
  have l : (Txt.join "" (cs.map sign)).length = cs.length := by rw [← len_toList, e]
  refine ⟨?_, by omega, by omega⟩
  unfold isNm
  rw [decide_eq_true (by omega), decide_eq_true (by omega), Bool.true_and, Bool.true_and, e]
  exact List.all_eq_true.mpr fun c hc => decide_eq_true (ha c hc)
theorem sign_drawn {c : Nat} (h : c ∈ abc.cps.toList) : Drawn (sign c) := by
  refine ⟨?_, by show 1 ≤ 7; decide, by show 1 ≠ 6; decide⟩
  unfold isNm
  show (decide (1 ≤ 1) && (decide (1 ≤ 8) && [c].all fun c => decide (c ∈ abc.cps.toList))) = true
  simp only [List.all_cons, List.all_nil, decide_eq_true h]
  rfl
theorem cut8 {z : Str} (h : z.length ≤ 8) : cutS z none (some 8) = z := by
  apply str_ext
  unfold cutS
  show ((z.cps.toList.drop (HT.sIx z.length 0 none)).take (HT.sIx z.length z.length (some ((8 : Nat) : Int)) - HT.sIx z.length 0 none)) = z.cps.toList
  rw [HT.sIx_none, HT.sIx_nat, List.drop_zero, Nat.sub_zero]
  exact List.take_of_length_le (by rw [len_toList]; omega)
theorem nodup_sub {α : Type} [DecidableEq α] : ∀ {l m : List α}, l.Nodup → (∀ x ∈ l, x ∈ m) → l.length ≤ m.length
  | [], _, _, _ => Nat.zero_le _
  | a :: r, m, hn, hs => by
    obtain ⟨h1, h2⟩ := List.nodup_cons.mp hn
    have ih := nodup_sub (l := r) (m := m.erase a) h2 fun x hx => (List.mem_erase_of_ne (fun z => h1 (by rw [← z]; exact hx))).mpr (hs x (List.mem_cons_of_mem _ hx))
    have ha : a ∈ m := hs a List.mem_cons_self
    have el := List.length_erase_of_mem ha
    have pos := List.length_pos_of_mem ha
    rw [List.length_cons]
    omega
theorem abc_len : abc.cps.toList.length = 26 := by decide +kernel
theorem abc_nodup : (abc.cps.toList.map sign).Nodup := by decide +kernel
theorem all_in {xs : List Str} (h : ∀ i, i < 26 → sign (abc.cps.getD i 0) ∈ xs) : 26 ≤ xs.length := by
  have hs : ∀ x ∈ abc.cps.toList.map sign, x ∈ xs := fun x hx => by
    obtain ⟨c, hc, rfl⟩ := List.mem_map.mp hx
    obtain ⟨i, hi, e⟩ := List.mem_iff_getElem.mp hc
    have h26 : i < 26 := by rw [← abc_len]; exact hi
    have := h i h26
    have e2 : abc.cps.getD i 0 = c := by
      have hi' : i < abc.cps.size := by simpa using hi
      rw [← e]
      simp [Array.getD, hi']
    rw [e2] at this
    exact this
  have := nodup_sub abc_nodup hs
  rw [List.length_map, abc_len] at this
  exact this
theorem getD_abc {i : Nat} (h : i < abc.cps.size) : abc.cps.getD i 0 ∈ abc.cps.toList := by
  have : abc.cps.getD i 0 = abc.cps[i] := by simp [Array.getD, h]
  rw [this]
  simp
end Bf
namespace Bf
open PySem PySem.Spec PyProof.Rows L2 Evl
/-! ### the first of n -/
def firstOf (b : Nat → Bool) (n : Nat) : Option Nat := (List.range n).find? b
theorem first_some {b : Nat → Bool} {n i : Nat} (hi : i < n) (h : b i = true) (hl : ∀ j, j < i → b j = false) : firstOf b n = some i := by
  unfold firstOf
  rw [List.find?_range_eq_some]
  exact ⟨h, List.mem_range.mpr hi, fun j hj => by rw [hl j hj]; rfl⟩
theorem first_none {b : Nat → Bool} {n : Nat} (h : ∀ j, j < n → b j = false) : firstOf b n = none := by
  unfold firstOf
  rw [List.find?_eq_none]
  intro x hx
  rw [h x (List.mem_range.mp hx)]
  exact Bool.false_ne_true
/-! ### places -/
def badPl (xs : List Str) (i : Nat) : Bool := !isNm (xs.getD i "") || decide (xs.getD i "" ∈ xs.take i)
def plErr (xs : List Str) : Option Int := if 1 ≤ xs.length ∧ xs.length ≤ 16 then (firstOf (badPl xs) xs.length).map (fun i => (i : Int)) else some (-1)
/-! ### ends -/
/-- a value in the place of a tie's ends: a tuple, by its entries (none: no text); or no tuple -/
inductive TVal where
  | tup (es : List (Option Str))
  | oth
def pairOk (kn : List Str) : TVal → Bool
  | .tup [some a, some b] => decide (a ∈ kn) && decide (b ∈ kn)
  | _ => false
def lookT (ties : List (Str × TVal)) (n : Str) : TVal := ((ties.find? fun e => decide (e.1 = n)).map (·.2)).getD .oth
def keysT (ties : List (Str × TVal)) : List Str := ties.map (·.1)
def badTie (xs : List Str) (ties : List (Str × TVal)) (i : Nat) : Bool := !isNm ((srt (keysT ties)).getD i "") || !pairOk xs (lookT ties ((srt (keysT ties)).getD i ""))
/-- what is due: places and a number, ties and a name, too many, nothing -/
inductive Due where
  | pl (i : Int) | ti (n : Str) | many | ok
def dueOf (xs : List Str) (ties : List (Str × TVal)) : Due := match plErr xs with
  | some i => .pl i
  | none => match firstOf (badTie xs ties) ties.length with
    | some i => .ti ((srt (keysT ties)).getD i "")
    | none => if 24 < ties.length then .many else .ok
theorem pairOk_perm {xs ys : List Str} (h : ∀ x, x ∈ xs ↔ x ∈ ys) (t : TVal) : pairOk xs t = pairOk ys t := by
  unfold pairOk
  split
  · rw [decide_eq_decide.mpr (h _), decide_eq_decide.mpr (h _)]
  · rfl
/-! ### values as they stand in the heap -/
/-- a text of some length -/
def StrOk (z : Str) : Prop := z.length ≤ 1000 ∧ PyData.strOk z = true
def EntR (K : PySem.W.Frag) (H : Hp) (v : V) : Option Str → Prop
  | some z => v = .str z ∧ StrOk z
  | none => (∀ z, v ≠ .str z) ∧ ∃ t, TyX K H v (.type t) ∧ kitB t "str" = some false
def TVR (K : PySem.W.Frag) (H : Hp) (v : V) : TVal → Prop
  | .tup es => ∃ p vs, v = .ref p ∧ H p = some (.tup vs) ∧ Paired (EntR K H) vs es ∧ vs.length ≤ 1000
  | .oth => ∃ t, TyX K H v (.type t) ∧ kitB t "tuple" = some false
theorem tyx_mono {K : PySem.W.Frag} {H H' : Hp} {v : V} {t : String} (e : Ex H H') (h : TyX K H v (.type t)) : TyX K H' v (.type t) := by
  cases h with
  | base b =>
    cases b with
    | non => exact .base .non
    | bl x => exact .base (.bl x)
    | int i => exact .base (.int i)
    | str x => exact .base (.str x)
    | flt x => exact .base (.flt x)
    | lst q => exact .base (.lst (e _ _ q))
    | frz q => exact .base (.frz (e _ _ q))
    | tup q => exact .base (.tup (e _ _ q))
    | dK q => exact .base (.dK (e _ _ q))
    | dT q => exact .base (.dT (e _ _ q))
  | byt b => exact .byt b
  | set q => exact .set (e _ _ q)
  | kList q c => exact .kList q c
  | kTuple q c => exact .kTuple q c
  | kDict q c => exact .kDict q c
  | fTuple q => exact .fTuple (e _ _ q)
  | fDict q => exact .fDict (e _ _ q)
theorem entR_mono {K : PySem.W.Frag} {H H' : Hp} {v : V} {o : Option Str} (e : Ex H H') (h : EntR K H v o) : EntR K H' v o := by
  cases o with
  | some z => exact h
  | none =>
    obtain ⟨h1, t, h2, h3⟩ := h
    exact ⟨h1, t, tyx_mono e h2, h3⟩
theorem tvr_mono {K : PySem.W.Frag} {H H' : Hp} {v : V} {t : TVal} (e : Ex H H') (h : TVR K H v t) : TVR K H' v t := by
  cases t with
  | tup es =>
    obtain ⟨p, vs, h1, h2, h3, h4⟩ := h
    exact ⟨p, vs, h1, e _ _ h2, Paired.mapP h3 fun _ _ z => entR_mono e z, h4⟩
  | oth =>
    obtain ⟨t, h1, h2⟩ := h
    exact ⟨t, tyx_mono e h1, h2⟩
/-- the pairs of a dict of ties -/
def TieR (K : PySem.W.Frag) (H : Hp) (kvs : List (Key × V)) (ties : List (Str × TVal)) : Prop := Paired (fun p q => p.1 = Sum.inr q.1 ∧ TVR K H p.2 q.2) kvs ties
theorem tieR_mono {K : PySem.W.Frag} {H H' : Hp} {kvs : List (Key × V)} {ties : List (Str × TVal)} (e : Ex H H') (h : TieR K H kvs ties) : TieR K H' kvs ties := Paired.mapP h fun _ _ z => ⟨z.1, tvr_mono e z.2⟩
theorem tieR_keys {K : PySem.W.Frag} {H : Hp} {kvs : List (Key × V)} {ties : List (Str × TVal)} (h : TieR K H kvs ties) : kvs.map (·.1) = (keysT ties).map Sum.inr := by
  unfold TieR at h
  unfold keysT
  induction h with
  | nil => rfl
  | cons a _ ih => rw [List.map_cons, List.map_cons, List.map_cons, ih, a.1]
theorem tieR_len {K : PySem.W.Frag} {H : Hp} {kvs : List (Key × V)} {ties : List (Str × TVal)} (h : TieR K H kvs ties) : kvs.length = ties.length := Paired.length h
/-- a key's value -/
theorem tieR_get {K : PySem.W.Frag} {H : Hp} {kvs : List (Key × V)} {ties : List (Str × TVal)} {n : Str} (h : TieR K H kvs ties) (hn : n ∈ keysT ties) : ∃ v, valV kvs (Sum.inr n) = some v ∧ TVR K H v (lookT ties n) := by
  unfold TieR at h
  unfold keysT at hn
  unfold lookT valV
  induction h with
  | nil => cases hn
  | @cons p q ps qs a t ih =>
    rw [List.find?_cons, List.find?_cons]
    by_cases c : q.1 = n
    · have c1 : decide (p.1 = Sum.inr n) = true := decide_eq_true (by rw [a.1, c])
      rw [c1, decide_eq_true c]
      exact ⟨p.2, rfl, a.2⟩
    · have c1 : decide (p.1 = Sum.inr n) = false := decide_eq_false (by rw [a.1]; exact fun z => c (Sum.inr.inj z))
      rw [c1, decide_eq_false c]
      exact ih (by
        rcases List.mem_cons.mp hn with z | z
        · exact absurd z.symm c
        · exact z)
end Bf
namespace Bf
open PySem PySem.Spec PyProof.Rows L2 Evl
/-! ### texts as data -/
abbrev strsD (xs : List Str) : List PyData := xs.map .str
theorem canLay_strs : ∀ {xs : List Str}, (∀ x ∈ xs, PyData.strOk x = true) → PyData.canLayAll0 (strsD xs) = true
  | [], _ => rfl
  | x :: r, h => by
    show (PyData.strOk x && PyData.canLayAll0 (strsD r)) = true
    rw [h x List.mem_cons_self, canLay_strs fun y hy => h y (List.mem_cons_of_mem _ hy)]
    rfl
theorem depth_strs : ∀ xs : List Str, PyData.depthAll (strsD xs) = 0
  | [] => rfl
  | x :: r => by
    show max 0 (PyData.depthAll (strsD r)) = 0
    rw [depth_strs r]
    rfl
theorem shaped_tup {xs : List Str} (h : ∀ x ∈ xs, PyData.strOk x = true) : SeqAt.shaped (.tuple (strsD xs)) = true := by
  show (PyData.canLayAll0 (strsD xs) && decide (PyData.depthAll (strsD xs) + 1 ≤ 64)) = true
  rw [canLay_strs h, depth_strs]
  rfl
theorem shaped_lst {xs : List Str} (h : ∀ x ∈ xs, PyData.strOk x = true) : SeqAt.shaped (.list (strsD xs)) = true := by
  show (PyData.canLayAll0 (strsD xs) && decide (PyData.depthAll (strsD xs) + 1 ≤ 64)) = true
  rw [canLay_strs h, depth_strs]
  rfl
theorem eqv_strs : ∀ xs ys : List Str, PyData.eqvAll (strsD xs) (strsD ys) = decide (xs = ys)
  | [], [] => rfl
  | [], _ :: _ => rfl
  | _ :: _, [] => rfl
  | x :: r, y :: s => by
    show ((x == y) && PyData.eqvAll (strsD r) (strsD s)) = decide (x :: r = y :: s)
    rw [eqv_strs r s]
    by_cases h : x = y
    · subst h
      by_cases h2 : r = s
      · subst h2; simp
      · simp [h2]
    · simp [h]
theorem dp_strs {K : PySem.W.Frag} {H : Hp} : ∀ xs : List Str, DpAll K H (xs.map V.str) (strsD xs)
  | [] => .nil
  | x :: r => .cons (.str x) (dp_strs r)
/-! ### ties with their ends as data -/
abbrev enD (en : List (Str × Str × Str)) : List (Key × PyData) := en.map fun q => (Sum.inr q.1, .tuple (strsD [q.2.1, q.2.2]))
theorem look_enD (en : List (Str × Str × Str)) (n : Str) : look (enD en) (Sum.inr n) = ((en.find? fun e => decide (e.1 = n)).map (·.2)).map fun q => .tuple (strsD [q.1, q.2]) := by
  unfold look
  induction en with
  | nil => rfl
  | cons q r ih =>
    show ((List.find? _ ((Sum.inr q.1, PyData.tuple (strsD [q.2.1, q.2.2])) :: enD r)).map (·.2)) = _
    rw [List.find?_cons, List.find?_cons]
    by_cases c : q.1 = n
    · rw [decide_eq_true c, show decide ((Sum.inr q.1 : Key) = Sum.inr n) = true from decide_eq_true (by rw [c])]
      rfl
    · rw [decide_eq_false c, show decide ((Sum.inr q.1 : Key) = Sum.inr n) = false from decide_eq_false fun z => c (Sum.inr.inj z)]
      exact ih
theorem find_self {en : List (Str × Str × Str)} (nd : (en.map (·.1)).Nodup) {q : Str × Str × Str} (h : q ∈ en) : en.find? (fun e => decide (e.1 = q.1)) = some q := by
  induction en with
  | nil => cases h
  | cons p r ih =>
    obtain ⟨n1, n2⟩ := List.nodup_cons.mp (show (p.1 :: r.map (·.1)).Nodup from nd)
    rw [List.find?_cons]
    rcases List.mem_cons.mp h with rfl | h
    · rw [decide_eq_true rfl]
    · have c : ¬ p.1 = q.1 := fun z => n1 (by rw [z]; exact List.mem_map.mpr ⟨q, h, rfl⟩)
      rw [decide_eq_false c]
      exact ih n2 h
theorem hits_self {en : List (Str × Str × Str)} (nd : (en.map (·.1)).Nodup) : ∀ l : List (Str × Str × Str), (∀ q ∈ l, q ∈ en) → hitsD (enD en) (enD l) = true
  | [], _ => rfl
  | q :: r, h => by
    show (match look (enD en) (Sum.inr q.1) with | none => false | some e => PyData.eqv (.tuple (strsD [q.2.1, q.2.2])) e && hitsD (enD en) (enD r)) = true
    rw [look_enD, find_self nd (h q List.mem_cons_self)]
    show (PyData.eqvAll (strsD [q.2.1, q.2.2]) (strsD [q.2.1, q.2.2]) && hitsD (enD en) (enD r)) = true
    rw [eqv_strs, hits_self nd r fun p hp => h p (List.mem_cons_of_mem _ hp)]
    simp
theorem dictEq_self {en : List (Str × Str × Str)} (nd : (en.map (·.1)).Nodup) : dictEq (enD en) (enD en) = true := by
  unfold dictEq
  rw [hits_self nd en fun _ h => h]
  simp
theorem dictEq_len {ds es : List (Key × PyData)} (h : ds.length ≠ es.length) : dictEq ds es = false := by
  unfold dictEq
  rw [show (ds.length == es.length) = false by simpa using h, Bool.false_and]
/-! ### a pair sorted -/
def pairS : TVal → Str × Str
  | .tup [some a, some b] => if leS a b = true then (a, b) else (b, a)
  | _ => ("", "")
theorem srt_pair (a b : Str) : srt [a, b] = [(pairS (.tup [some a, some b])).1, (pairS (.tup [some a, some b])).2] := by
  show srt [a, b] = [(if leS a b = true then (a, b) else (b, a)).1, (if leS a b = true then (a, b) else (b, a)).2]
  by_cases h : leS a b = true
  · rw [if_pos h]
    exact (List.Perm.eq_of_pairwise (le := fun a b => leS a b = true) (fun a b _ _ h1 h2 => leS_antisymm h1 h2) (by simp [h]) (srt_pw [a, b]) (srt_perm [a, b]).symm).symm
  · rw [if_neg h]
    have h2 : leS b a = true := by
      rcases Bool.or_eq_true_iff.mp (leS_total a b) with z | z
      · exact absurd z h
      · exact z
    exact (List.Perm.eq_of_pairwise (le := fun a b => leS a b = true) (fun a b _ _ h1 h2 => leS_antisymm h1 h2) (by simp [h2]) (srt_pw [a, b]) ((List.Perm.swap a b []).trans (srt_perm [a, b]).symm)).symm
def endsOf (ties : List (Str × TVal)) : List (Str × Str × Str) := (srt (keysT ties)).map fun n => (n, pairS (lookT ties n))
theorem endsOf_keys (ties : List (Str × TVal)) : (endsOf ties).map (·.1) = srt (keysT ties) := by
  unfold endsOf
  rw [List.map_map]
  exact List.map_id _
theorem nodup_perm {α : Type} {l m : List α} (p : l.Perm m) (h : m.Nodup) : l.Nodup := p.nodup_iff.mpr h
end Bf
namespace Bf
open PySem PySem.Spec PyProof.Rows L2 Evl
theorem nm_ok {z : Str} (h : isNm z = true) : StrOk z := by
  unfold isNm at h
  obtain ⟨_, h⟩ := Bool.and_eq_true_iff.mp h
  obtain ⟨h8, h⟩ := Bool.and_eq_true_iff.mp h
  refine ⟨by have := of_decide_eq_true h8; omega, ?_⟩
  have all : ∀ c ∈ abc.cps.toList, c < 1114112 := by decide +kernel
  show z.cps.all (· < 1114112) = true
  rw [← Array.all_toList, List.all_eq_true]
  intro c hc
  exact decide_eq_true (all c (of_decide_eq_true (List.all_eq_true.mp h c hc)))
theorem drawn_ok {z : Str} (h : Drawn z) : StrOk z := nm_ok h.1
/-! ### a tie put -/
def putT (ties : List (Str × TVal)) (n : Str) (t : TVal) : List (Str × TVal) :=
  if (ties.any fun e => decide (e.1 = n)) = true then ties.map (fun e => if e.1 = n then (e.1, t) else e) else ties ++ [(n, t)]
theorem pair_snoc {α β : Type} {R : α → β → Prop} : ∀ {l : List α} {m : List β} {a : α} {b : β}, Paired R l m → R a b → Paired R (l ++ [a]) (m ++ [b])
  | _, _, _, _, .nil, h => .cons h .nil
  | _, _, _, _, .cons x t, h => .cons x (pair_snoc t h)
theorem tieR_any {K : PySem.W.Frag} {H : Hp} {kvs : List (Key × V)} {ties : List (Str × TVal)} (n : Str) (h : TieR K H kvs ties) : (kvs.any fun kv => decide (kv.1 = Sum.inr n)) = ties.any fun e => decide (e.1 = n) := by
  unfold TieR at h
  induction h with
  | nil => rfl
  | @cons p q ps qs a t ih =>
    rw [List.any_cons, List.any_cons, ih, a.1]
    congr 1
    exact decide_eq_decide.mpr ⟨fun z => Sum.inr.inj z, fun z => by rw [z]⟩
theorem tieR_put {K : PySem.W.Frag} {H : Hp} {kvs : List (Key × V)} {ties : List (Str × TVal)} {n : Str} {v : V} {t : TVal} (h : TieR K H kvs ties) (ht : TVR K H v t) : TieR K H (putK kvs (Sum.inr n) v) (putT ties n t) := by
  unfold putK putT
  rw [tieR_any n h]
  by_cases c : (ties.any fun e => decide (e.1 = n)) = true
  · rw [if_pos c, if_pos c]
    clear c
    unfold TieR at h ⊢
    induction h with
    | nil => exact .nil
    | @cons p q ps qs a t ih =>
      rw [List.map_cons, List.map_cons]
      refine .cons ?_ ih
      by_cases e : q.1 = n
      · rw [if_pos (by rw [a.1, e]), if_pos e]
        exact ⟨a.1, ht⟩
      · rw [if_neg (by rw [a.1]; exact fun z => e (Sum.inr.inj z)), if_neg e]
        exact a
  · rw [if_neg c, if_neg c]
    exact pair_snoc h ⟨rfl, ht⟩
theorem putT_keys (ties : List (Str × TVal)) (n : Str) (t : TVal) : keysT (putT ties n t) = if n ∈ keysT ties then keysT ties else keysT ties ++ [n] := by
  unfold putT keysT
  by_cases c : (ties.any fun e => decide (e.1 = n)) = true
  · have m : n ∈ ties.map (·.1) := by
      obtain ⟨e, he, hn⟩ := List.any_eq_true.mp c
      exact List.mem_map.mpr ⟨e, he, of_decide_eq_true hn⟩
    rw [if_pos c, if_pos m, List.map_map]
    refine List.map_congr_left fun e _ => ?_
    show (if e.1 = n then (e.1, t) else e).1 = e.1
    by_cases z : e.1 = n
    · rw [if_pos z]
    · rw [if_neg z]
  · have m : n ∉ ties.map (·.1) := fun h => by
      obtain ⟨e, he, hn⟩ := List.mem_map.mp h
      exact c (List.any_eq_true.mpr ⟨e, he, decide_eq_true hn⟩)
    rw [if_neg c, if_neg m, List.map_append]
    rfl
theorem putT_nodup {ties : List (Str × TVal)} {n : Str} {t : TVal} (h : (keysT ties).Nodup) : (keysT (putT ties n t)).Nodup := by
  rw [putT_keys]
  by_cases m : n ∈ keysT ties
  · rw [if_pos m]; exact h
  · rw [if_neg m]
    exact List.nodup_append.mpr ⟨h, by simp, fun x hx y hy => by rw [List.mem_singleton.mp hy]; exact fun z => m (z ▸ hx)⟩
theorem putT_mem {ties : List (Str × TVal)} {n x : Str} {t : TVal} (h : x ∈ keysT (putT ties n t)) : x ∈ keysT ties ∨ x = n := by
  rw [putT_keys] at h
  by_cases m : n ∈ keysT ties
  · rw [if_pos m] at h; exact .inl h
  · rw [if_neg m] at h
    rcases List.mem_append.mp h with h | h
    · exact .inl h
    · exact .inr (List.mem_singleton.mp h)
theorem putT_len (ties : List (Str × TVal)) (n : Str) (t : TVal) : (putT ties n t).length ≤ ties.length + 1 := by
  unfold putT
  by_cases c : (ties.any fun e => decide (e.1 = n)) = true
  · rw [if_pos c, List.length_map]; omega
  · rw [if_neg c, List.length_append]; exact Nat.le_refl _
theorem putT_new {ties : List (Str × TVal)} {n : Str} {t : TVal} (h : n ∉ keysT ties) : putT ties n t = ties ++ [(n, t)] := by
  unfold putT
  refine if_neg fun c => h ?_
  obtain ⟨e, he, hn⟩ := List.any_eq_true.mp c
  exact List.mem_map.mpr ⟨e, he, of_decide_eq_true hn⟩
end Bf
/-! Bf: a list as a thing of its own, told by a property of its entries; a call that writes it alone. Instances made with keywords within a try. -/
namespace Bf
open PySem PySem.Spec PyProof.Rows L2
def absL (a : Addr) (R : List V → Prop) : HO := .ext fun h => ∃ (xs : List V) (its : List Value) (n : Nat), R xs ∧ xs.length ≤ sizeLine ∧ Vals xs its ∧ h.get? a = some { cls := .type "list", data := .seq its.toArray n }
theorem absL_own {a x : Addr} {R : List V → Prop} : absL a R ≠ .own x := fun z => by
  have z' : HO.ext _ = HO.own x := z
  cases z'
theorem absL_tup {a : Addr} {R : List V → Prop} {xs : List V} : absL a R ≠ .tup xs := fun z => by
  have z' : HO.ext _ = HO.tup xs := z
  cases z'
section
variable {P : Program} {w : World} {H : Hp} {h : Heap} {a : Addr} {R : List V → Prop}
theorem abs_in (ok : HOk P w H h) (e : H a = some (absL a R)) : ∃ xs, R xs ∧ HOk P w (upd H a (.lst xs)) h := by
  have x : ObjOk P w H h a (.ext fun h => ∃ (xs : List V) (its : List Value) (n : Nat), R xs ∧ xs.length ≤ sizeLine ∧ Vals xs its ∧ h.get? a = some { cls := .type "list", data := .seq its.toArray n }) := ok a _ e
  obtain ⟨⟨xs, its, n, r, hl, hv, q⟩, _, _⟩ := x
  exact ⟨xs, r, hok_swap ok e (fun _ => absL_own) (fun _ => absL_tup) ⟨hl, its, n, hv, q⟩⟩
theorem abs_of {xs : List V} {H' : Hp} (r : R xs) (x : ObjOk P w H h a (.lst xs)) : ObjOk P w H' h a (absL a R) := by
  obtain ⟨hl, its, n, hv, e⟩ := x
  exact ⟨⟨xs, its, n, r, hl, hv, e⟩, ⟨_, e⟩, fun h1 h2 z kk => by
    obtain ⟨xs, its, n, r, hl, hv, e⟩ := z
    exact ⟨xs, its, n, r, hl, hv, kk _ e⟩⟩
theorem abs_out {xs : List V} (r : R xs) (ok : HOk P w (upd H a (.lst xs)) h) : HOk P w (upd H a (absL a R)) h := by
  have q := hok_swap (o' := absL a R) ok upd_same (fun _ z => by cases z) (fun _ z => by cases z) (abs_of r (ok a _ upd_same))
  rw [upd_upd] at q
  exact q
end
/-- a call that writes the list at a, and leaves the property -/
def absSp (sp0 : Sp) : Sp := fun vs H Q E => ∃ (a : Addr) (R : List V → Prop), H a = some (absL a R) ∧ ∀ xs, R xs → sp0 vs (upd H a (.lst xs)) (fun v H' => ∃ ys, R ys ∧ H' = upd H a (.lst ys) ∧ Q v H) E
/-- a call that makes such a list, last of all -/
def absNew (sp0 : Sp) : Sp := fun vs H Q E => sp0 vs H (fun v H' => ∃ (a : Addr) (R : List V → Prop) (xs : List V) (G : Hp), R xs ∧ G a = none ∧ Evl.Ex H G ∧ H' = upd G a (.lst xs) ∧ v = .ref a ∧ Q (.ref a) (upd G a (absL a R))) E
section
variable {P : Program} {w : World} {K : PySem.W.Frag} {mg : Str → Option Value} {base : Heap} {k : Nat} {f : Addr} {fd : FuncData} {ps : List Str} {sp0 : Sp}
theorem abs_fn {sp : Sp} (len : ∀ vs H Q E, sp vs H Q E → vs.length = ps.length) (imp : ∀ vs H Q E, sp vs H Q E → absSp sp0 vs H Q E) (F : FnOk P w K mg base CX0 k f fd ps sp0) : FnOk P w K mg base CX0 k f fd ps sp := by
  refine ⟨len, fun A outer s H args us vs Q E hr e0 hb hv hsp => ?_⟩
  obtain ⟨a, R, ha, q⟩ := imp _ _ _ _ hsp
  obtain ⟨xs, r, hok1⟩ := abs_in e0.hok ha
  have na : ∀ {b : Addr}, H b = none → b ≠ a := fun n => (ne_of_none ha n).symm
  have e1 : Env0 P w K mg base A outer s (upd H a (.lst xs)) := ⟨e0.frames, e0.mod, fun b o e => ⟨(e0.bs b o e).1, by rw [upd_ne (na (e0.bs b o e).2)]; exact (e0.bs b o e).2⟩, e0.bsz, e0.funs, fun b hb => by rw [upd_ne (na (e0.frf b hb))]; exact e0.frf b hb, hok1, e0.bare⟩
  refine codeAny_mono (F.run A outer s _ args us _ _ E hr e1 hb hv (q xs r)) fun r s' h => ?_
  cases r with
  | error e => exact h
  | ok fl => cases fl with
    | ret u =>
      obtain ⟨v, H', os, bare, un, hok, rv, ys, ry, rfl, hq⟩ := h
      have z := abs_out ry hok
      rw [upd_self ha] at z
      exact ⟨v, H, os, bare, un_back ha un, z, rv, hq⟩
    | next => exact h
    | brk => exact h
    | cont => exact h
theorem un_new2 {fs : List Addr} {H G : Hp} {h h' : Heap} {a : Addr} {l1 l2 : HO} (e : G a = none) (x : Evl.Ex H G) (u : Un fs [] H (upd G a l1) h h') : Un fs [] H (upd G a l2) h h' where
  keep := u.keep
  slot := u.slot
  free := fun b o q n hx => by
    have z := u.free b o q n hx
    have hb : b ≠ a := fun hb => by
      rw [hb, upd_same] at z
      cases z
    rw [upd_ne hb] at z ⊢
    exact z
  there := u.there
  tups := fun b xs q => by
    have hb : b ≠ a := fun hb => by rw [hb] at q; rw [x _ _ q] at e; cases e
    have z := u.tups b xs q
    rw [upd_ne hb] at z ⊢
    exact z
  frzs := fun b o v q => by
    have hb : b ≠ a := fun hb => by rw [hb] at q; rw [x _ _ q] at e; cases e
    have z := u.frzs b o v q
    rw [upd_ne hb] at z ⊢
    exact z
  tbls := fun b ps q => by
    have hb : b ≠ a := fun hb => by rw [hb] at q; rw [x _ _ q] at e; cases e
    have z := u.tbls b ps q
    rw [upd_ne hb] at z ⊢
    exact z
theorem abs_new (len : ∀ vs H Q E, sp0 vs H Q E → vs.length = ps.length) (F : FnOk P w K mg base CX0 k f fd ps sp0) : FnOk P w K mg base CX0 k f fd ps (absNew sp0) := by
  refine ⟨fun vs H Q E h => len vs H _ E h, fun A outer s H args us vs Q E hr e0 hb hv hsp => ?_⟩
  refine codeAny_mono (F.run A outer s _ args us _ _ E hr e0 hb hv hsp) fun r s' h => ?_
  cases r with
  | error e => exact h
  | ok fl => cases fl with
    | ret u =>
      obtain ⟨v, H', os, bare, un, hok, rv, a, R, xs, G, rx, ga, ex, rfl, rfl, hq⟩ := h
      exact ⟨.ref a, _, os, bare, un_new2 ga ex un, abs_out rx hok, rv, hq⟩
    | next => exact h
    | brk => exact h
    | cont => exact h
end
/-! ### C(.., k = v) within a try -/
section
variable {X : Cx} {CX : CXT} {k n : Nat} {f C : Addr} {fd : FuncData} {ps ks : List Str} {sp : Sp} {E : L2.St → XK} {x : Str} {p pos : Pos} {e : Expr} {es : List Expr} {kws : List Keyword} {t tk : TA} {g : List Value → List Value → List Value} {gV : List V → List V → List V}
def tMkKS (C : Addr) (n m : Nat) (sp : Sp) (gV : List V → List V → List V) (E : L2.St → XK) (t tk : TA) : TE := fun σ H Q => t σ H fun vs H1 => tk σ H1 fun zs H2 => vs.length = n ∧ zs.length = m ∧ ∀ y dy, H2 y = none → H2 dy = none → dy ≠ y →
  sp (gV (.ref y :: vs) zs) (upd (upd H2 dy (.own y)) y (.ins C dy [])) (fun v H3 => v = .non ∧ Q (.ref y) H3) (E σ)
theorem run_mkKS {pins : List (Addr × Obj)} {σ : L2.St} {H : Hp} {s : Shared} {Q : VK} {us ws : List Value} {vs zs : List V} (M : Mk X.K C f) (F : FnOk X.prog X.w X.K X.mg X.base CX k f fd ps sp) (hr : Room (k + 1) X.A) (hb : KBn X.K fd ps (n + 1) ks g gV)
    (hx : PassesAt CX X σ (E σ)) (I : Inv X pins σ H s) (r : Vals vs us) (rz : Vals zs ws) (l1 : vs.length = n) (l2 : zs.length = ks.length)
    (h : ∀ y dy, H y = none → H dy = none → dy ≠ y → sp (gV (.ref y :: vs) zs) (upd (upd H dy (.own y)) y (.ins C dy [])) (fun v H2 => v = .non ∧ Q (.ref y) H2) (E σ)) :
    wpAny (model X.prog X.w) X.A (call (.ref C) us (ks.zip ws)) (EP X pins σ Q) X.xe s := by
  have n1 : H (s.heap.objs.size + 1) = none := I.hok.fresh (Nat.le_succ _)
  have n0 : H s.heap.objs.size = none := I.hok.fresh (Nat.le_refl _)
  have hq := h (s.heap.objs.size + 1) s.heap.objs.size n1 n0 (Nat.ne_of_lt (Nat.lt_succ_self _))
  have J := Inv.made (C := C) I
  have q1 : Vals (V.ref (s.heap.objs.size + 1) :: vs) (Value.ref (s.heap.objs.size + 1) :: us) := .cons rfl r
  have q2 := hb.rel q1 rz
  have m1 : (Value.ref (s.heap.objs.size + 1) :: us).length = n + 1 := by rw [List.length_cons, ← r.length, l1]
  have b := hb.to _ (Value.ref (s.heap.objs.size + 1) :: us) ws J.kIn m1 (rz.length.symm.trans l2)
  refine wpAny_call (make_map (f := f) I.kIn M.makes M.init (beq_iff_eq.mp M.fn) ?_)
  refine codeAny_mono (F.run _ X.stack _ _ ⟨Value.ref (s.heap.objs.size + 1) :: us, ks.zip ws⟩ (g (Value.ref (s.heap.objs.size + 1) :: us) ws) _ _ (E σ) (hr.make C us (ks.zip ws)) (J.env0.make C us (ks.zip ws)) b q2 hq) fun r s' z => ?_
  cases r with
  | error er => exact hx pins _ _ er s' J z
  | ok fl =>
    cases fl with
    | ret u =>
      obtain ⟨v, H', I3, rv, ev, q3⟩ := J.after z
      subst ev
      exact ⟨rv, V.ref (s.heap.objs.size + 1), H', I3, rfl, q3⟩
    | next => exact False.elim z
    | brk => exact False.elim z
    | cont => exact False.elim z
theorem pe_mkKS (M : Mk X.K C f) (F : FnOk X.prog X.w X.K X.mg X.base CX k f fd ps sp) (hr : Room (k + 1) X.A) (hm : X.mg x = some (.ref C)) (hb : KBn X.K fd ps (n + 1) ks g gV) (hx : ∀ σ, PassesAt CX X σ (E σ)) (ha : PA X (e :: es) t) (hkw : PK X kws tk) (hg : Gl X x := by rfl)
    (hall : (backToKw pos (keywordEach kws X.env)).all (·.1.isSome) = true := by rfl) (hks : (backToKw pos (keywordEach kws X.env)).filterMap (·.1) = ks := by rfl) (hdb : (x == ("__debug__" : Str)) = false := by decide)
    (he : starEach (e :: es) X.env = (false, eval e X.env) :: starEach es X.env := by rfl) (hpl : ((backTo pos (starEach (e :: es) X.env)).any (·.1) || (backToKw pos (keywordEach kws X.env)).any (·.1.isNone)) = false := by rfl) :
    PE X (.Call (.Name x p) (e :: es) kws pos) (tMkKS C n ks.length sp gV E t tk) := by
  refine ⟨fun pins s σ H Q I h => wpAny_Call_Name_kw (ld_glob I hg hm ?_ hdb)⟩
  refine PySem.W.callWith_KW (h₀ := X.base) I.ok.mod.kin M.kp hall (thn (ha.run pos pins s σ H _ I h) fun us s1 ⟨vs, H1, I1, r, q⟩ => ?_) hpl he
  refine thn (hkw.run pos pins s1 σ H1 _ I1 q) fun ws s2 ⟨zs, H2, I2, rz, l1, l2, q2⟩ => ⟨I2.kIn, ?_⟩
  rw [hks]
  exact run_mkKS M F hr hb (hx σ) I2 r rz l1 l2 q2
end
end Bf
/-! Bf: a text times a number; the least of a list of texts; an own == asked of a value of another kind. -/
namespace Bf
open PySem PySem.Spec PyProof.Rows L2
/-! ### a text times a number -/
def repS (z : Str) (n : Nat) : Str := ⟨(List.replicate n z.cps).foldl (· ++ ·) #[]⟩
theorem foldl_empty (n : Nat) : (List.replicate n (#[] : Array Nat)).foldl (· ++ ·) #[] = #[] := by
  induction n with
  | zero => rfl
  | succ n ih => rw [List.replicate_succ, List.foldl_cons]; simpa using ih
theorem fold_app : ∀ (l : List (Array Nat)) (a : Array Nat), (l.foldl (· ++ ·) a).toList = a.toList ++ (l.map (·.toList)).flatten
  | [], a => by simp
  | b :: r, a => by
    rw [List.foldl_cons, fold_app r, Array.toList_append, List.map_cons, List.flatten_cons, List.append_assoc]
theorem rep_list (z : Str) (n : Nat) : (repS z n).cps.toList = (List.replicate n z.cps.toList).flatten := by
  unfold repS
  rw [fold_app, List.map_replicate]
  simp
theorem rep_len (z : Str) (n : Nat) : (repS z n).length = n * z.length := by
  show (repS z n).cps.size = n * z.cps.size
  rw [← Array.length_toList, rep_list, List.length_flatten, List.map_replicate, List.sum_replicate_nat, Array.length_toList]
theorem op_mulS {X : Cx} : OpR X (binaryOp .Mult) (fun x y H Q => ∃ (z : Str) (n : Nat), x = .str z ∧ y = .int n ∧ n ≤ 1000 ∧ z.length ≤ 1000 ∧ Q (.str (repS z n)) H) := by
  intro pins s σ H x y v u Q I rx ry h
  obtain ⟨z, n, rfl, rfl, hn, hz, q⟩ := h
  obtain ⟨t, rfl⟩ := rx
  obtain ⟨t', rfl⟩ := ry
  refine PySem.P.mul_str ?_ ?_ ?_ ?_
  · have h1 : ¬ ((n : Int) < -(2 ^ 63 : Int)) := by omega
    have h2 : ¬ ((n : Int) ≥ 2 ^ 63) := by omega
    rw [decide_eq_false h1, decide_eq_false h2]
    rfl
  · intro h1 _
    have h2 : (1 : Int) ≤ n := by omega
    have h3 : (1001 : Int) ≤ (2 ^ 63 - 1) / n := by
      rw [Int.le_ediv_iff_mul_le (by omega)]
      have : (1001 : Int) * n ≤ 1001 * 1000 := by omega
      omega
    omega
  · intro _ _
    refine decide_eq_false (p := _ > sizeLine) ?_
    have h1 : z.length * (n : Int).toNat ≤ 1000 * 1000 := Nat.mul_le_mul hz (by rw [Int.toNat_natCast]; exact hn)
    rw [sizeLine_eq]
    omega
  · by_cases h0 : (n : Int) < 1
    · rw [if_pos h0]
      have e : n = 0 := by omega
      subst e
      exact ⟨by decide, .str _, H, I.tok _, ⟨_, rfl⟩, q⟩
    · rw [if_neg h0]
      by_cases h1 : ((n : Int) == 1 || z.length == 0) = true
      · rw [if_pos h1]
        have e : repS z n = z := by
          rcases Bool.or_eq_true_iff.mp h1 with h | h
          · have : n = 1 := by have := eq_of_beq h; omega
            subst this
            show (⟨#[] ++ z.cps⟩ : Str) = z
            simp
          · have hz0 : z.cps = #[] := Array.eq_empty_of_size_eq_zero (eq_of_beq h)
            unfold repS
            rw [hz0, foldl_empty, ← hz0]
        rw [e] at q
        exact ⟨.str _, H, I, ⟨_, rfl⟩, q⟩
      · rw [if_neg h1]
        refine ⟨?_, .str _, H, I.tok _, ⟨_, rfl⟩, q⟩
        have h2 := rep_len z n
        have h3 : n * z.length ≤ 1000 * 1000 := Nat.mul_le_mul hn hz
        show (repS z n).length ≤ sizeLine
        rw [h2, sizeLine_eq]
        omega
/-! ### the least of a list of texts -/
theorem iter_list {prog : Program} {w : World} {A : Around} {E : Value → Shared → Prop} {s : Shared} {l : Addr} {xs : Array Value} {Q : Value → Shared → Prop} (hl : s.heap.IsList l xs)
    (h : ∀ s₂ : Shared, s₂ = { s with heap := s.heap.push { cls := .type "list_iterator", data := .fields #[.ref l, .int 0 0] } } →
      (s₂.heap.IsListIter s.heap.objs.size l 0 ∧ s₂.heap.IsList l xs) → (∀ b ∈ [s.heap.objs.size, l], b < s₂.heap.objs.size) → l ≠ s.heap.objs.size → Q (.ref s.heap.objs.size) s₂) :
    wpAny (model prog w) A (pyIter (.ref l)) Q E s := by
  have hlt : l < s.heap.objs.size := by
    obtain ⟨_, e, _⟩ := hl
    exact Heap.lt_size e
  refine wpAny_pyIter_list hl (h _ rfl ⟨⟨_, Heap.get?_push_size _ rfl, rfl, rfl⟩, hl.push _⟩ (fun b hb => ?_) (Nat.ne_of_lt hlt))
  show b < (s.heap.push _).objs.size
  rw [Heap.size_push]
  rcases List.mem_cons.mp hb with rfl | hb
  · exact Nat.lt_succ_self _
  · rw [List.mem_singleton.mp hb]
    exact Nat.lt_succ_of_lt hlt
theorem best_le (f : Nat → Str) : ∀ k, argBest (fun i j => decide ((f i).cps.toList < (f j).cps.toList)) k ≤ k ∧ ∀ j, j ≤ k → leS (f (argBest (fun i j => decide ((f i).cps.toList < (f j).cps.toList)) k)) (f j) = true
  | 0 => ⟨Nat.le_refl _, fun j hj => by
      have e : j = 0 := by omega
      subst e
      exact leS_iff.mpr (Std.le_refl _)⟩
  | k + 1 => by
    obtain ⟨h1, h2⟩ := best_le f k
    by_cases c : decide ((f (k + 1)).cps.toList < (f (argBest (fun i j => decide ((f i).cps.toList < (f j).cps.toList)) k)).cps.toList) = true
    · have e : argBest (fun i j => decide ((f i).cps.toList < (f j).cps.toList)) (k + 1) = k + 1 := if_pos c
      rw [e]
      refine ⟨Nat.le_refl _, fun j hj => ?_⟩
      by_cases z : j = k + 1
      · rw [z]; exact leS_iff.mpr (Std.le_refl _)
      · have h3 := leS_iff.mp (h2 j (by omega))
        exact leS_iff.mpr (Std.le_trans (Std.le_of_lt (of_decide_eq_true c)) h3)
    · have e : argBest (fun i j => decide ((f i).cps.toList < (f j).cps.toList)) (k + 1) = argBest (fun i j => decide ((f i).cps.toList < (f j).cps.toList)) k := if_neg c
      rw [e]
      refine ⟨by omega, fun j hj => ?_⟩
      by_cases z : j = k + 1
      · rw [z]
        exact leS_iff.mpr (Std.not_lt.mp fun y => c (decide_eq_true y))
      · exact h2 j (by omega)
theorem getDm {xs : List Str} {i : Nat} (h : i < xs.length) : xs.getD i "" ∈ xs := by
  have e : xs.getD i "" = xs[i] := by simp [List.getD, h]
  rw [e]
  exact List.getElem_mem h
theorem strs_at {its : List Value} {xs : List Str} (h : StrsAre its xs) : ∀ {i : Nat} {v : Value}, its[i]? = some v → ∃ t, v = Value.str (xs.getD i "") t := by
  induction h with
  | nil => intro i v h; cases h
  | cons y t r ih =>
    intro i v h
    cases i with
    | zero => exact ⟨t, (Option.some.inj h).symm⟩
    | succ j => exact ih h
def rMinS (K : PySem.W.Frag) : List V → Hp → VK → Prop := fun vs H Q => ∃ (a : Addr) (xs : List Str), vs = [V.ref a] ∧ SqL K H a (xs.map V.str) ∧ xs ≠ [] ∧ ∀ m, m ∈ xs → (∀ y ∈ xs, leS m y = true) → Q (.str m) H
theorem cr_minS {X : Cx} (hc : X.calm = true) : CallR X (.builtin "min") (rMinS X.K) := by
  intro pins s σ H vs us Q I r h
  obtain ⟨a, xs, rfl, hs, hne, q⟩ := h
  obtain ⟨its, rv, hl, _⟩ := I.list hs
  rw [Vals.ref1 r]
  have hS : StrsAre its xs := rv.strs
  have hlen : its.length = xs.length := by
    have e := rv.length
    rw [List.length_map] at e
    exact e.symm
  have pos : 0 < xs.length := List.length_pos_iff.mpr hne
  have at_ : ∀ i v, its.toArray[i]? = some v → ∃ t, v = Value.str (xs.getD i "") t := fun i v h => strs_at hS (by simpa using h)
  refine call_min_walk (iter_list hl.isList fun s2 e st hfp hlI => ?_)
  subst e
  refine ⟨_, _, _, _, _, _, fun i j => decide ((xs.getD i "").cps.toList < (xs.getD j "").cps.toList), rfl, Walks.list (A := X.A.in1) (I.ok.hd hc) _ a hlI its.toArray, st, hfp, by simpa [hlen] using pos, fun i j vi vj s Q E hi hj hq => ?_, fun v h' tk hP hk => ?_⟩
  · obtain ⟨t, rfl⟩ := at_ i vi hi
    obtain ⟨t', rfl⟩ := at_ j vj hj
    exact (PyProof.Rows.lt_str hq : wpAny (model X.prog X.w) X.A.in1 (compareOp .Lt (.str _ t) (.str _ t')) _ _ _)
  · obtain ⟨t, rfl⟩ := at_ _ v hP
    obtain ⟨b1, b2⟩ := best_le (fun i => xs.getD i "") (its.toArray.size - 1)
    have sz : its.toArray.size = xs.length := by simpa using hlen
    refine ⟨.str _, H, I.kept (old_kept hk), ⟨_, rfl⟩, q _ ?_ ?_⟩
    · rw [sz] at b1 ⊢
      have : argBest (fun i j => decide ((xs.getD i "").cps.toList < (xs.getD j "").cps.toList)) (xs.length - 1) < xs.length := by omega
      exact getDm this
    · intro y hy
      obtain ⟨j, hj, rfl⟩ := List.mem_iff_getElem.mp hy
      have := b2 j (by rw [sz]; omega)
      simpa [List.getD, hj] using this
/-! ### an own == asked of a value of another kind -/
def rEqO (K : PySem.W.Frag) (C : Addr) (sp : Sp) : R2 := fun x y H Q => ∃ a dx fs t, x = .ref a ∧ H a = some (.ins C dx fs) ∧ TyX K H y t ∧ PySem.W.notFirst K C t = true ∧
  sp [.ref a, y] H (fun v H' => ∃ k, v = .bl k ∧ Q (.bl k) H') (fun _ _ _ => False)
theorem op_eqO {X : Cx} {k : Nat} {C f : Addr} {fd : FuncData} {ps : List Str} {sp : Sp} (T : OwnEq X.K C f) (F : FnOk X.prog X.w X.K X.mg X.base CX0 k f fd ps sp) (hb : Binds X.K fd ps []) (hr : Room k X.A) : OpR X (compareOp .Eq) (rEqO X.K C sp) := by
  intro pins s σ H x y v u Q I rx ry h
  obtain ⟨a, dx, fs, t, rfl, ha, ty, nf, hsp⟩ := h
  cases rx
  obtain ⟨_, J, _⟩ := ins_get I.hok ha
  obtain ⟨_, J, _⟩ := J.look
  obtain ⟨m, hF⟩ := I.fr
  obtain ⟨Pk, Z, hP, _⟩ := kit_of I ry ty
  show wpAny (model X.prog X.w) X.A (richCompare .Eq (.ref a) u) (EP X pins σ Q) X.xe s
  refine PySem.W.cmp_K (op := .Eq) (tb := t) hr.units0 hF I.ok.mod.kin J (Z.ty _ _ I.kIn hP) nf T.eq T.fn ?_
  refine wpAny_mono (run_fn (E := fun _ _ _ => False) (dvs := []) (ds := []) F hr hb .nil pass0 I (vs := [.ref a, y]) (us := [.ref a, u]) (.cons rfl (.cons ry .nil)) hsp) (fun v s' z => ?_) fun _ _ z => z
  obtain ⟨z, H', I', rz, kk, rfl, q⟩ := z
  cases rz
  exact ⟨.bl kk, H', I', rfl, q⟩
end Bf
/-! Bf: isinstance of a caught error with fields. A call with keyword-only parameters. -/
namespace Bf
open PySem PySem.Spec PyProof.Rows L2
/-- isinstance(e, c) in a suite: cls the error's class (one of S), d its dict -/
def rIsX (K : PySem.W.Frag) (S : Addr → Prop) (a : Addr) (cls : Value) (d : Option Addr) : List V → Hp → VK → Prop := fun xs H Q =>
  ∃ (D dd : Addr) (fs : List (Str × V)) (c : V) (cv : Value) (b : Bool), xs = [.ref a, c] ∧ S D ∧ cls = .ref D ∧ d = some dd ∧ H dd = some (.xd fs) ∧ ClsV c cv ∧ PySem.W.kitOne K (.ref D) cv = some b ∧ Q (.bl b) H
theorem call_isX {X : Cx} {S : Addr → Prop} {a : Addr} {cls : Value} {d : Option Addr} {oe : Obj} {pn : List (Addr × Obj)} (C : ∀ D, S D → ExcC X.K D) (hz : Zc cls d oe) (hf : ∃ vs, oe.data = .fields vs) :
    CallR (X.suite a ((a, oe) :: pn)) (.builtin "isinstance") (rIsX X.K S a cls d) := by
  intro pins s σ H xs us Q I r h
  obtain ⟨D, dd, fs, c, cv, b, rfl, hS, rfl, rfl, hdd, kc, e, q⟩ := h
  obtain ⟨u, v, rfl, ru, rv⟩ := vals2 r
  have eu : u = .ref a := ru
  have ev := kc.eq rv
  subst eu ev
  obtain ⟨got, _⟩ := I.pin (a, oe) (List.mem_append_left _ List.mem_cons_self)
  obtain ⟨vs, dat⟩ := hf
  have c1 := C D hS
  have xd : ObjOk X.prog X.w H s.heap dd (.xd fs) := I.hok dd _ hdd
  obtain ⟨mA, ns, _⟩ := xd
  obtain ⟨od, at_, _⟩ := lookIn_ns ns
  have J : PySem.W.InstAt s.heap a oe D (some od) := ⟨got, hz.1, by unfold PySem.W.notCls; rw [dat] <;> rfl, by rw [hz.2]; exact at_⟩
  have hc : (PySem.W.clsIn X.K D).isSome = true := by
    obtain ⟨cd, z, _⟩ := PySem.W.any_some c1.hd
    rw [z]
    rfl
  exact PySem.W.kia_one (PySem.W.kitx_exc hc c1.hg c1.hk c1.hs c1.ha c1.hn c1.ht c1.hm) I.kIn J e (fun z => nomatch z) fun tk => ⟨.bl b, H, I.kept (t' := tk) fun _ _ z => z, rfl, q⟩
def exIsB (K : PySem.W.Frag) (D : Addr) : Bool := isO (PySem.W.findIn K (.ref D) "__getattribute__") (some (some (.builtin "BaseException.__getattribute__"))) && (isO (PySem.W.findIn K (.ref D) "__getattr__") (some none) && (decide (PySem.W.subIn K (.ref D) (.type "BaseException") = some true) &&
  (PySem.W.hasDictIn K D && (isO (PySem.W.findIn K (.ref D) "__class__") (some (some (.builtin "object.__class__"))) && (isO (PySem.W.specialIn K (.builtin "object.__class__") "__get__") (some (some (.builtin "getset_descriptor.__get__"))) &&
  (decide (PySem.W.takesIn K (.builtin "object.__class__") = some true) && decide (PySem.W.mroIn K D (.type "object") = some true)))))))
theorem exIsB_ok {K : PySem.W.Frag} {D : Addr} (h : exIsB K D = true) : ExcC K D := by
  obtain ⟨h1, h⟩ := Bool.and_eq_true_iff.mp h
  obtain ⟨h2, h⟩ := Bool.and_eq_true_iff.mp h
  obtain ⟨h3, h⟩ := Bool.and_eq_true_iff.mp h
  obtain ⟨h4, h⟩ := Bool.and_eq_true_iff.mp h
  obtain ⟨h5, h⟩ := Bool.and_eq_true_iff.mp h
  obtain ⟨h6, h⟩ := Bool.and_eq_true_iff.mp h
  obtain ⟨h7, h8⟩ := Bool.and_eq_true_iff.mp h
  exact ⟨of_decide_eq_true h1, of_decide_eq_true h2, of_decide_eq_true h3, h4, of_decide_eq_true h5, of_decide_eq_true h6, of_decide_eq_true h7, of_decide_eq_true h8⟩
/-- the keyword-only parameters come last, and all are given -/
theorem kbn_of {K : PySem.W.Frag} {x q : Str} {st : Stmt} {f : Addr} {fd : FuncData} {ps : List Str} {n : Nat} {ks : List Str} (F : FnS K x q st f fd)
    (b : ∀ (kV doc pm : Value) (an : Option Addr) (cdv ct : Value) (us ws : List Value), us.length = n → ws.length = ks.length → bindArgs (PySem.W.fnOf x q (defArgs st) (defBody st) (defScope st) .none kV doc pm an cdv ct) ⟨us, ks.zip ws⟩ = pure (ps.zip (us ++ ws))) :
    KBn K fd ps n ks (fun us ws => us ++ ws) (fun vs zs => vs ++ zs) := by
  obtain ⟨oc, od, dV, kV, doc, pm, an, cdv, ct, osl, rfl, lk, hcd, hD, hK⟩ := F.ex
  rcases hD with ⟨_, rfl⟩ | ⟨e, _⟩
  · exact ⟨fun s us ws _ l1 l2 => .of_eq (b kV doc pm an cdv ct us ws l1 l2), fun r1 r2 => r1.append r2⟩
  · exact absurd rfl e
end Bf
/-! Bf: what the laws share beside the rules (names, heaps that grow, dicts built of pairs, locks, the written part). -/
namespace Bf
open PySem PySem.Spec PyProof.Rows L2 Evl
section
variable {P : Program} {w : World} {K : PySem.W.Frag} {mg : Str → Option Value} {base : Heap} {f fi : Addr} {fd fdi : FuncData}
def NmArg (K : PySem.W.Frag) (H : Hp) (v : V) : Prop := (∃ z, v = .str z ∧ z.length ≤ 1000) ∨ ((∀ z, v ≠ .str z) ∧ ∃ t, TyX K H v (.type t) ∧ kitB t "str" = some false)
def isNmV : V → Bool
  | .str z => isNm z
  | _ => false
def spNm (K : PySem.W.Frag) : Sp := fun vs H Q _ => ∃ v, vs = [v] ∧ NmArg K H v ∧ ∀ H', Ex H H' → Q (.bl (isNmV v)) H'
theorem isNmV_no {v : V} (h : ∀ z, v ≠ .str z) : isNmV v = false := by
  cases v with
  | str z => exact absurd rfl (h z)
  | _ => rfl
theorem all_signs {z : Str} {bs : List Bool} (h : bs = (List.range z.cps.size).map fun i => decide (z.cps.getD i 0 ∈ abc.cps.toList)) : bs.all id = z.cps.toList.all fun c => decide (c ∈ abc.cps.toList) := by
  have e := range_map_get z.cps.toList (fun c => decide (c ∈ abc.cps.toList)) (fun i => decide (z.cps.getD i 0 ∈ abc.cps.toList)) (fun i x hx => by
    have : z.cps.getD i 0 = x := by
      rw [Array.getElem?_toList] at hx
      simp [Array.getD, hx]
      obtain ⟨h1, h2⟩ := Array.getElem?_eq_some_iff.mp hx
      simp [h1, h2]
    rw [this])
  rw [Array.length_toList] at e
  rw [h, e, List.all_map]
  rfl
theorem nm_long {z : Str} (h : 8 < z.length) : isNmV (.str z) = false := by
  show isNm z = false
  unfold isNm
  rw [decide_eq_false (show ¬ z.length ≤ 8 by omega), Bool.false_and, Bool.and_false]
theorem nm_short {z : Str} (h : z.length < 1) : isNmV (.str z) = false := by
  show isNm z = false
  unfold isNm
  rw [decide_eq_false (show ¬ 1 ≤ z.length by omega), Bool.false_and]
theorem nm_okV {z : Str} (h1 : 1 ≤ z.length) (h2 : z.length ≤ 8) : isNmV (.str z) = z.cps.toList.all fun c => decide (c ∈ abc.cps.toList) := by
  show isNm z = _
  unfold isNm
  rw [decide_eq_true h1, decide_eq_true h2, Bool.true_and, Bool.true_and]
theorem iteB {b : Bool} {A B : Prop} (h1 : b = true → A) (h2 : b = false → B) : if b = true then A else B := by
  cases b with
  | true => exact iteT (h1 rfl)
  | false => exact iteF (h2 rfl)
theorem seqIx {m n : Nat} (h : m < n) : seqIndex? (m : Int) n = some m := by
  unfold seqIndex?
  simp
  omega
theorem map_erase {α β : Type} (g : α → β) : ∀ (l : List α) (k : Nat), (l.map g).eraseIdx k = (l.eraseIdx k).map g
  | [], _ => rfl
  | _ :: _, 0 => rfl
  | a :: r, k + 1 => by
    show g a :: (r.map g).eraseIdx k = g a :: (r.eraseIdx k).map g
    rw [map_erase g r k]
theorem perm_erase {α : Type} : ∀ {l : List α} {k : Nat} {x : α}, l[k]? = some x → (x :: l.eraseIdx k).Perm l
  | [], _, _, h => by simp at h
  | a :: r, 0, x, h => by
    have e : a = x := Option.some.inj h
    subst e
    exact List.Perm.refl _
  | a :: r, k + 1, x, h => by
    have ih := perm_erase (l := r) (k := k) (x := x) h
    show (x :: a :: r.eraseIdx k).Perm (a :: r)
    exact (List.Perm.swap a x _).trans (ih.cons a)
def KeysAt (K : PySem.W.Frag) (H : Hp) (p : Addr) (ss : List Str) : Prop := SqL K H p (ss.map V.str) ∨ ∃ kvs : List (Key × V), H p = some (.dK kvs) ∧ kvs.map (·.1) = ss.map Sum.inr
theorem keys_map {kvs : List (Key × V)} {ss : List Str} (h : kvs.map (·.1) = ss.map Sum.inr) : (kvs.map fun kv => kV kv.1) = ss.map V.str := by
  have e : (kvs.map fun kv => kV kv.1) = (kvs.map (·.1)).map kV := by rw [List.map_map]; rfl
  rw [e, h, List.map_map]
  rfl
theorem keys_len {kvs : List (Key × V)} {ss : List Str} (h : kvs.map (·.1) = ss.map Sum.inr) : kvs.length = ss.length := by
  have e := congrArg List.length h
  rwa [List.length_map, List.length_map] at e
theorem KeysAt.mono {H H' : Hp} {p : Addr} {ss : List Str} (h : KeysAt K H p ss) (e : Ex H H') : KeysAt K H' p ss := by
  rcases h with h | ⟨kvs, h, k⟩
  · exact .inl (ex_l e h)
  · exact .inr ⟨kvs, e p _ h, k⟩
theorem cr_listK {X : Cx} (hc : X.calm = true) : CallR X (.type "list") (fun xs H Q => ∃ (p : Addr) (ss : List Str), xs = [.ref p] ∧ KeysAt X.K H p ss ∧ ∀ l, H l = none → Q (.ref l) (upd H l (.lst (ss.map V.str)))) := by
  intro pins s σ H vs us Q I r h
  obtain ⟨p, ss, rfl, hk, q⟩ := h
  rcases hk with h | ⟨kvs, h, hks⟩
  · exact call_list_of pins s σ H _ us Q I r ⟨p, _, rfl, .inl h, q⟩
  · exact call_listD hc pins s σ H _ us Q I r ⟨p, kvs, rfl, .inl h, fun l nl => by rw [keys_map hks]; exact q l nl⟩
theorem cr_lenK {X : Cx} : CallR X (.builtin "len") (fun xs H Q => ∃ (p : Addr) (ss : List Str), xs = [.ref p] ∧ KeysAt X.K H p ss ∧ Q (.int ss.length) H) := by
  intro pins s σ H vs us Q I r h
  obtain ⟨p, ss, rfl, hk, q⟩ := h
  rcases hk with h | ⟨kvs, h, hks⟩
  · exact call_len_seq pins s σ H _ us Q I r ⟨p, _, rfl, .inl h, by rw [List.length_map]; exact q⟩
  · exact call_lenD pins s σ H _ us Q I r ⟨p, kvs, rfl, h, by rw [keys_len hks]; exact q⟩
def Out (K : PySem.W.Frag) (H : Hp) (E : XK) (x f : Str) (v : V) : Prop := ∀ (d : Addr) (G : Hp), Ex H G → H d = none → G d = some (.xd [(f, v)]) → E (.ref (He.ga K x)) (some d) G
theorem Out.go {K : PySem.W.Frag} {H G : Hp} {E : XK} {x f : Str} {v : V} (o : Out K H E x f v) (e : Ex H G) {d : Addr} (hd : G d = none) : E (.ref (He.ga K x)) (some d) (upd G d (.xd [(f, v)])) :=
  o d _ (e.trans (Ex.new hd)) (fresh_back e hd) upd_same
theorem take_map (xs : List Str) (i : Nat) (h : i ≤ xs.length) : cutV (xs.map V.str) none (some (i : Int)) = (xs.take i).map V.str := by
  unfold cutV
  rw [HT.sIx_none, HT.sIx_nat, List.drop_zero, Nat.sub_zero, List.length_map, Nat.min_eq_left h, List.map_take]
theorem getD_map {xs : List Str} {i : Nat} {v : V} (h : (xs.map V.str)[i]? = some v) : v = .str (xs.getD i "") ∧ i < xs.length := by
  rw [List.getElem?_map] at h
  cases e : xs[i]? with
  | none => rw [e] at h; cases h
  | some z =>
    rw [e] at h
    obtain ⟨h1, h2⟩ := List.getElem?_eq_some_iff.mp e
    refine ⟨?_, h1⟩
    rw [← Option.some.inj h]
    simp [List.getD, e]
theorem getD_mem {xs : List Str} {i : Nat} (h : i < xs.length) : xs.getD i "" ∈ xs := by
  have e : xs.getD i "" = xs[i] := by simp [List.getD, h]
  rw [e]
  exact List.getElem_mem h
theorem hu65 {A : Around} {k : Nat} (r : Room k A) : A.units + 65 < cLine := by
  have := r.un
  omega
def ExB (x : Addr) (H G : Hp) : Prop := ∀ b o, b ≠ x → H b = some o → G b = some o
theorem Ex.toB {x : Addr} {H G : Hp} (e : Ex H G) : ExB x H G := fun b o _ h => e b o h
theorem ExB.then {x : Addr} {H G G' : Hp} (a : ExB x H G) (e : Ex G G') : ExB x H G' := fun b o n h => e b o (a b o n h)
theorem ExB.set {x : Addr} {H G : Hp} {o : HO} (a : ExB x H G) : ExB x H (upd G x o) := fun b u n h => by rw [upd_ne n]; exact a b u n h
def OutB (K : PySem.W.Frag) (x : Addr) (H : Hp) (E : XK) (c f : Str) (v : V) : Prop := ∀ (d : Addr) (G : Hp), ExB x H G → d ≠ x → H d = none → G d = some (.xd [(f, v)]) → E (.ref (He.ga K c)) (some d) G
theorem OutB.go {x : Addr} {H G : Hp} {E : XK} {c f : Str} {v : V} {o : HO} (q : OutB K x H E c f v) (e : ExB x H G) (hx : G x = some o) {d : Addr} (hd : G d = none) : E (.ref (He.ga K c)) (some d) (upd G d (.xd [(f, v)])) := by
  have nx : d ≠ x := fun z => by rw [z, hx] at hd; cases hd
  refine q d _ (e.then (Ex.new hd)) nx ?_ upd_same
  cases h : H d with
  | none => rfl
  | some u => rw [e d u nx h] at hd; cases hd
theorem dc_it {J : It} {n : Nat} {G : Hp → Prop} {Y : Nat → Hp → V → Hp → Prop} (w : Walk J n G Y) {g : TG} {tt : TT} {tk tv : TE} {vs : List Nat} {σ : L2.St} {H1 : Hp} {D : Addr} {Qd : Hp → Prop} (Pv : Nat → Hp → Prop)
    (h0 : Pv 0 (upd H1 D (.dK []))) (hG : ∀ i H, i ≤ n → Pv i H → G H)
    (hs : ∀ i x H H', i < n → Pv i H → Y i H x H' → g x (wipe σ vs) H' fun σ2 H2 => wipe σ2 vs = wipe σ vs ∧ tt σ2 H2 fun b H3 =>
      if b = true then tk σ2 H3 fun y H4 => tv σ2 H4 fun z H5 => ∃ kvs k, y = kV k ∧ H5 D = some (.dK kvs) ∧ kvs.length < sizeLine ∧ Pv (i + 1) (upd H5 D (.dK (putK kvs k z))) else Pv (i + 1) H3) (hd : ∀ H, Pv n H → Qd H) :
    ∃ W : Nat → Nat → Hp → Prop, (∃ m, W 0 m (upd H1 D (.dK []))) ∧ ∀ i m H, W i m H →
      (J.stop i H ∧ Qd H) ∨ (J.go i H ∧ ∃ Nx : Hp → Prop, (∀ H', Nx H' → ∃ m', m' < m ∧ W (i + 1) m' H') ∧ ∀ x H', J.yld i H x H' → g x (wipe σ vs) H' fun σ2 H2 => wipe σ2 vs = wipe σ vs ∧ tt σ2 H2 fun b H3 =>
        if b = true then tk σ2 H3 fun y H4 => tv σ2 H4 fun z H5 => ∃ kvs k, y = kV k ∧ H5 D = some (.dK kvs) ∧ kvs.length < sizeLine ∧ Nx (upd H5 D (.dK (putK kvs k z))) else Nx H3) := by
  refine ⟨fun i m H => m = n - i ∧ i ≤ n ∧ Pv i H, ⟨n, by simp, Nat.zero_le _, h0⟩, ?_⟩
  rintro i m H ⟨rfl, hi, p⟩
  by_cases hlt : i < n
  · exact .inr ⟨w.goes i H hlt (hG i H hi p), Pv (i + 1), fun H' p' => ⟨n - (i + 1), by omega, rfl, hlt, p'⟩, fun x H' y => hs i x H H' hlt p (w.yields i H x H' hlt (hG i H hi p) y)⟩
  · have e : i = n := by omega
    subst e
    exact .inl ⟨w.stops H (hG i H hi p), hd H p⟩
theorem paired_snoc {α β : Type} {R : α → β → Prop} : ∀ {l : List α} {m : List β} {a : α} {b : β}, Paired R l m → R a b → Paired R (l ++ [a]) (m ++ [b])
  | _, _, _, _, .nil, h => .cons h .nil
  | _, _, _, _, .cons x t, h => .cons x (paired_snoc t h)
theorem not_in_take {α : Type} {l : List α} (nd : l.Nodup) {i : Nat} {x : α} (h : l[i]? = some x) : x ∉ l.take i := by
  intro hm
  obtain ⟨j, hj, e⟩ := List.mem_iff_getElem.mp hm
  obtain ⟨h1, h2⟩ := List.getElem?_eq_some_iff.mp h
  rw [List.length_take] at hj
  have hj1 : j < l.length := by omega
  rw [List.getElem_take] at e
  exact (List.pairwise_iff_getElem.mp nd) j i hj1 h1 (by omega) (e.trans h2.symm)
def Exm (K : PySem.W.Frag) (x y : Str) (b : Bool) : Prop := PySem.W.exmOne K (.ref (He.ga K x)) (.ref (He.ga K y)) = some b
theorem exb_back {H1 G : Hp} {y dy : Addr} {o o' : HO} (hy : H1 y = none) (hd : H1 dy = none) (e : ExB y (upd (upd H1 dy o) y o') G) : Ex H1 G := fun b u h => by
  have n1 : b ≠ y := fun z => by rw [z, hy] at h; cases h
  have n2 : b ≠ dy := fun z => by rw [z, hd] at h; cases h
  exact e b u n1 (by rw [upd_ne n1, upd_ne n2]; exact h)
theorem ex_new2 {H1 : Hp} {y dy : Addr} {o o' : HO} (hy : H1 y = none) (hd : H1 dy = none) : Ex H1 (upd (upd H1 dy o) y o') := exb_back hy hd (fun b u n h => h)
theorem nope {p : Prop} : ∀ {a b : Bool}, (a != b) = true → a = b → p := fun h z => by subst z; simp at h
theorem natOf {l : List Int} {v : V} (h : v ∈ l.map V.int) (p : ∀ i ∈ l, 0 ≤ i ∧ i ≤ 25) : ∃ m : Nat, v = .int m ∧ (m : Int) ∈ l ∧ m ≤ 25 := by
  obtain ⟨i, hi, rfl⟩ := List.mem_map.mp h
  obtain ⟨h0, h1⟩ := p i hi
  obtain ⟨m, rfl⟩ := Int.eq_ofNat_of_zero_le h0
  exact ⟨m, rfl, hi, by omega⟩
theorem viaC {p : Prop} {C R : V → Hp → Prop} (h1 : (∀ v G, R v G → C v G) → p) (h2 : ∀ v G, R v G → C v G) : p := h1 h2
theorem drop_map (xs : List Str) (k : Nat) (h : k ≤ xs.length) : cutV (xs.map V.str) (some (k : Int)) none = (xs.drop k).map V.str := by
  unfold cutV
  rw [HT.sIx_none, HT.sIx_nat, List.length_map, Nat.min_eq_left h, List.map_drop]
  exact List.take_of_length_le (by rw [List.length_drop, List.length_map]; omega)
theorem tup_upd {H : Hp} {d t : Addr} {o o' : HO} {xs : List V} (hd : H d = some o) (no : ∀ ys, o ≠ .tup ys) (h : H t = some (.tup xs)) : (upd H d o') t = some (.tup xs) := by
  rw [upd_ne fun z => by rw [z, hd] at h; exact no _ (Option.some.inj h)]
  exact h
theorem merge_app : ∀ (kvs acc : List (Key × V)), ((acc ++ kvs).map (·.1)).Nodup → mergeK acc kvs = acc ++ kvs
  | [], acc, _ => by rw [List.append_nil]; rfl
  | p :: r, acc, h => by
    have e : mergeK acc (p :: r) = mergeK (putK acc p.1 p.2) r := rfl
    have no : valV acc p.1 = none := by
      unfold valV
      rw [List.find?_eq_none.mpr]
      · rfl
      · intro q hq z
        rw [List.map_append] at h
        exact (List.nodup_append.mp h).2.2 q.1 (List.mem_map.mpr ⟨q, hq, rfl⟩) p.1 (List.mem_map.mpr ⟨p, List.mem_cons_self, rfl⟩) (of_decide_eq_true z)
    rw [e, putK_new _ no, merge_app r _ (by rw [List.append_assoc]; exact h), List.append_assoc]
    rfl
def PairsAt (H : Hp) (D : Addr) (kvs : List (Key × V)) : Prop := ∃ ps : List Addr, H D = some (.lst (ps.map V.ref)) ∧ Paired (fun p kv => H p = some (.tup [kV kv.1, kv.2])) ps kvs
theorem PairsAt.nil {H : Hp} {D : Addr} : PairsAt (upd H D (.lst [])) D [] := ⟨[], upd_same, .nil⟩
theorem PairsAt.upd {H : Hp} {D d : Addr} {kvs : List (Key × V)} {o o' : HO} (h : PairsAt H D kvs) (hd : H d = some o) (no : ∀ ys, o ≠ .tup ys) (ne : D ≠ d) : PairsAt (upd H d o') D kvs := by
  obtain ⟨ps, h1, h2⟩ := h
  exact ⟨ps, by rw [upd_ne ne]; exact h1, Paired.mapP h2 fun _ _ z => tup_upd hd no z⟩
theorem PairsAt.more {H G : Hp} {D t : Addr} {kvs : List (Key × V)} {k : Key} {v : V} {n : Nat} (h : PairsAt H D kvs) (e : Ex H G) (ht : G t = some (.tup [kV k, v])) (hl : kvs.length ≤ 1000) :
    ∃ acc, G D = some (.lst acc) ∧ acc.length < sizeLine ∧ PairsAt (L2.upd G D (.lst (acc ++ [.ref t]))) D (kvs ++ [(k, v)]) := by
  obtain ⟨ps, h1, h2⟩ := h
  have hD := e D _ h1
  have hlen := Paired.length h2
  refine ⟨_, hD, by rw [List.length_map]; exact sz_lt (by omega), ps ++ [t], by rw [upd_same, List.map_append]; rfl, paired_snoc (Paired.mapP h2 fun _ _ z => tup_upd hD (fun _ z => by cases z) (e _ _ z)) (tup_upd hD (fun _ z => by cases z) ht)⟩
theorem PairsAt.sq {H : Hp} {D : Addr} {kvs : List (Key × V)} (h : PairsAt H D kvs) : ∃ ps : List Addr, SqL K H D (ps.map V.ref) ∧ Paired (fun p kv => SqT K H p [kV kv.1, kv.2]) ps kvs := by
  obtain ⟨ps, h1, h2⟩ := h
  exact ⟨ps, sq_of h1, Paired.mapP h2 fun _ _ z => st_of z⟩
theorem lock_ex {H G : Hp} {d : Addr} {u o : HO} (hd : H d = some u) (e : Ex (upd H d o) G) : Ex H (upd G d u) := fun b v h => by
  by_cases z : b = d
  · rw [z, hd] at h
    rw [z, upd_same, ← h]
  · rw [upd_ne z]
    exact e b v (by rw [upd_ne z]; exact h)
theorem dget_frz {H : Hp} {d : Addr} {kvs : List (Key × V)} {n : Str} {o : Obj} {r : Option V} (h : H d = some (.frz o (.dK kvs))) (e : valV kvs (Sum.inr n) = r) : DGet H d (.str n) r := by
  rw [← e]
  exact .inl ⟨kvs, Sum.inr n, .inr ⟨o, h⟩, rfl, rfl⟩
theorem dget_at {H : Hp} {d : Addr} {kvs : List (Key × V)} {n : Str} {r : Option V} (h : H d = some (.dK kvs)) (e : valV kvs (Sum.inr n) = r) : DGet H d (.str n) r := by
  rw [← e]
  exact DGet.k (k := Sum.inr n) h
def insB (K : PySem.W.Frag) (C : Addr) : Bool := isO (PySem.W.findIn K (.ref C) "__class__") (some (some (.builtin "object.__class__"))) && (isO (PySem.W.specialIn K (.builtin "object.__class__") "__get__") (some (some (.builtin "getset_descriptor.__get__"))) &&
  (decide (PySem.W.takesIn K (.builtin "object.__class__") = some true) && (decide (PySem.W.mroIn K C (.type "object") = some true) && decide (PySem.W.kitOne K (.ref C) (.ref C) = some true))))
theorem insB_ok {K : PySem.W.Frag} {C : Addr} (h : insB K C = true) (cl : Cls K C) : C8.InsC K C := by
  obtain ⟨h1, h⟩ := Bool.and_eq_true_iff.mp h
  obtain ⟨h2, h⟩ := Bool.and_eq_true_iff.mp h
  obtain ⟨h3, h⟩ := Bool.and_eq_true_iff.mp h
  obtain ⟨h4, h5⟩ := Bool.and_eq_true_iff.mp h
  exact ⟨cl, of_decide_eq_true h1, of_decide_eq_true h2, of_decide_eq_true h3, of_decide_eq_true h4, of_decide_eq_true h5⟩
theorem SayB.def_ {fn : List He.DefD} {ex : PySem.W.Frag → Bool} {K : PySem.W.Frag} (c : SayB fn ex K) (i : Nat) {d : He.DefD} (h : fn[i]? = some d) : ∃ fd, FunD K d.name d.qual d.params d.body d.scope (d.dvs K) (d.kws K) (He.fAd K d.at_) fd :=
  c.defs d (List.mem_of_getElem? h)
theorem cal_of {CX : CXT} {k : Nat} {x : Str} {ps : List Str} {sp : Sp} {st : Stmt} {fd : FuncData} (F : FnS K x x st (He.ga K x) fd) (ok : FnOk P w K mg base CX k (He.ga K x) fd ps sp) (g : mg x = some (.ref (He.ga K x)))
    (b : ∀ (kV doc pm : Value) (an : Option Addr) (cdv ct : Value) (us : List Value), us.length = ps.length → bindArgs (PySem.W.fnOf x x (defArgs st) (defBody st) (defScope st) .none kV doc pm an cdv ct) ⟨us, []⟩ = pure (ps.zip us)) :
    Cal P w K mg base CX k x ps sp := ⟨He.ga K x, fd, ok, g, F.kp, F.bindsN b⟩
end
end Bf
namespace L43
open PySem PySem.Spec PyProof.Rows L2 Evl Bf
def top (i : Nat) : Stmt := PySem.Challenge.pw_bothfree_k43_rows_made_and_refused.main.body.getD i (.Pass ⟨0, 0, 0, 0⟩)
abbrev sIsInt : Stmt := (top 9)
abbrev nIsInt : List Str := ["thing"]
theorem scIsInt : FnScope nIsInt ["thing"] (defScope sIsInt) := ⟨rfl, rfl, rfl, by decide +kernel, rfl, by decide +kernel, by decide +kernel⟩
abbrev sIsName : Stmt := (top 10)
abbrev nIsName : List Str := ["thing", "letter"]
theorem scIsName : FnScope nIsName ["thing"] (defScope sIsName) := ⟨rfl, rfl, rfl, by decide +kernel, rfl, by decide +kernel, by decide +kernel⟩
abbrev sIsRow : Stmt := (top 13)
abbrev nIsRow : List Str := ["row", "width", "over", "number"]
theorem scIsRow : FnScope nIsRow ["row", "width", "over"] (defScope sIsRow) := ⟨rfl, rfl, rfl, by decide +kernel, rfl, by decide +kernel, by decide +kernel⟩
abbrev sState : Stmt := (top 16)
abbrev nState : List Str := ["_law_script"]
theorem scState : FnScope nState ["_law_script"] (defScope sState) := ⟨rfl, rfl, rfl, by decide +kernel, rfl, by decide +kernel, by decide +kernel⟩
abbrev sDraw : Stmt := (top 17)
abbrev nDraw : List Str := ["_law_state_here", "_law_many", "_law_digit", "_law_cell", "_law_number"]
theorem scDraw : FnScope nDraw ["_law_state_here", "_law_many"] (defScope sDraw) := ⟨rfl, rfl, rfl, by decide +kernel, rfl, by decide +kernel, by decide +kernel⟩
abbrev sNames : Stmt := (top 18)
abbrev nNames : List Str := ["_law_state_here", "_law_many", "_law_found", "_law_k", "_law_name"]
theorem scNames : FnScope nNames ["_law_state_here", "_law_many"] (defScope sNames) := ⟨rfl, rfl, rfl, by decide +kernel, rfl, by decide +kernel, by decide +kernel⟩
abbrev sField : Stmt := (top 23)
abbrev nField : List Str := ["_law_state_here"]
theorem scField : FnScope nField ["_law_state_here"] (defScope sField) := ⟨rfl, rfl, rfl, by decide +kernel, rfl, by decide +kernel, by decide +kernel⟩
abbrev sLRows : Stmt := (top 24)
abbrev nLRows : List Str := ["_law_state_here", "_law_things", "_law_width", "_law_over", "_law_found", "_law_thing", "_law_k"]
theorem scLRows : FnScope nLRows ["_law_state_here", "_law_things", "_law_width", "_law_over"] (defScope sLRows) := ⟨rfl, rfl, rfl, by decide +kernel, rfl, by decide +kernel, by decide +kernel⟩
abbrev sTold : Stmt := (top 25)
abbrev nTold : List Str := ["_law_rows_here", "_law_over", "_law_found", "e"]
theorem scTold : FnScope nTold ["_law_rows_here", "_law_over"] (defScope sTold) := ⟨rfl, rfl, rfl, by decide +kernel, rfl, by decide +kernel, by decide +kernel⟩
abbrev sWrong : Stmt := (top 26)
abbrev nWrong : List Str := ["_law_state_here", "_law_width", "_law_over", "_law_some"]
theorem scWrong : FnScope nWrong ["_law_state_here", "_law_width", "_law_over"] (defScope sWrong) := ⟨rfl, rfl, rfl, by decide +kernel, rfl, by decide +kernel, by decide +kernel⟩
abbrev sRefused : Stmt := (top 27)
abbrev nRefused : List Str := ["_law_state_here", "_law_rows_here", "_law_width", "_law_over", "_law_things", "_law_found", "_law_bad", "_law_k", "_law_at", "_law_key"]
theorem scRefused : FnScope nRefused ["_law_state_here", "_law_rows_here", "_law_width", "_law_over"] (defScope sRefused) := ⟨rfl, rfl, rfl, by decide +kernel, rfl, by decide +kernel, by decide +kernel⟩
abbrev sLaw : Stmt := (top 28)
abbrev nLaw : List Str := ["_law_script", "_law_state_here", "_law_turn", "_law_over", "_law_things", "_law_width", "_law_rows_here", "_law_passed", "_law_made", "_law_k", "_law_told_here", "_law_again", "_law_less", "_law_odd", "e", "_law_many", "_law_wide", "_law_empty_rows", "_law_thing"]
theorem scLaw : FnScope nLaw ["_law_script"] (defScope sLaw) := ⟨rfl, rfl, rfl, by decide +kernel, rfl, by decide +kernel, by decide +kernel⟩
abbrev sInit : Stmt := (inClass (top 14) 0)
abbrev nInit : List Str := ["self", "rows", "over", "thing"]
theorem scInit : FnScope nInit ["self", "rows", "over"] (defScope sInit) := ⟨rfl, rfl, rfl, by decide +kernel, rfl, by decide +kernel, by decide +kernel⟩
abbrev sThings : Stmt := (inClass (top 14) 1)
abbrev nThings : List Str := ["self"]
theorem scThings : FnScope nThings ["self"] (defScope sThings) := ⟨rfl, rfl, rfl, by decide +kernel, rfl, by decide +kernel, by decide +kernel⟩
abbrev sRows : Stmt := (inClass (top 14) 2)
abbrev nRows : List Str := ["self", "thing"]
theorem scRows : FnScope nRows ["self"] (defScope sRows) := ⟨rfl, rfl, rfl, by decide +kernel, rfl, by decide +kernel, by decide +kernel⟩
abbrev sRow : Stmt := (inClass (top 14) 3)
abbrev nRow : List Str := ["self", "thing"]
theorem scRow : FnScope nRow ["self", "thing"] (defScope sRow) := ⟨rfl, rfl, rfl, by decide +kernel, rfl, by decide +kernel, by decide +kernel⟩
abbrev sWidth : Stmt := (inClass (top 14) 4)
abbrev nWidth : List Str := ["self"]
theorem scWidth : FnScope nWidth ["self"] (defScope sWidth) := ⟨rfl, rfl, rfl, by decide +kernel, rfl, by decide +kernel, by decide +kernel⟩
abbrev sOver : Stmt := (inClass (top 14) 5)
abbrev nOver : List Str := ["self"]
theorem scOver : FnScope nOver ["self"] (defScope sOver) := ⟨rfl, rfl, rfl, by decide +kernel, rfl, by decide +kernel, by decide +kernel⟩
abbrev sEq : Stmt := (inClass (top 14) 6)
abbrev nEq : List Str := ["self", "other"]
theorem scEq : FnScope nEq ["self", "other"] (defScope sEq) := ⟨rfl, rfl, rfl, by decide +kernel, rfl, by decide +kernel, by decide +kernel⟩
end L43
namespace L43
open PySem PySem.Spec PyProof.Rows L2 Evl Bf
section
variable {P : Program} {w : World} {K : PySem.W.Frag} {mg : Str → Option Value} {base : Heap} {f : Addr} {fd : FuncData}
theorem ok_isName (F : FnS K "is_name" "is_name" sIsName f fd) (B : Bl mg) (c_LETTERS : ∃ t, mg "LETTERS" = some (.str abc t)) (c_MOST_LETTERS : ∃ t, mg "MOST_LETTERS" = some (.int 8 t)) :
    FnOk P w K mg base CX0 1 f fd ["thing"] (spNm K) := by
  refine okD F scIsName (fun vs H Q E h => ?_) (fun cdv A outer s H vs Q E hr h => ?_)
  · obtain ⟨v, rfl, _⟩ := h
    rfl
  · obtain ⟨v, rfl, hv, q⟩ := h
    refine ⟨_, (pss_cons (ps_if (PW.pt (pw_or (pt_not (pt_val (pe_callB call_isi (by rfl) B.isinstance (by decide +kernel) (pa_cons (pv 0) (pa_cons (pe_bltn (v := .ty "str") (by rfl) B.str (by decide +kernel) rfl) pa_nil))))) (pw_or1 (pt_not (pt_chain op_le op_le pe_int (pe_callB call_len_str (by rfl) B.len (by decide +kernel) (pa_cons (pv 0) pa_nil)) (pe_gi c_MOST_LETTERS))))))
      (pss_one (ps_ret pe_bl))
      pss_nil)
      (pss_one (ps_ret (pe_callB (cr_all rfl) (by rfl) B.all (by decide +kernel) (pa_cons (pe_lc (own := [("letter", 1)]) (g := (gName 1)) (by rfl) scIsName.nd (pi_str (pv 0)) (blkOk_by (own := [("letter", 1)]) (N := nIsName) (sc := defScope sIsName) (by decide +kernel)) (fun _ _ _ _ _ => (pg_name (i := 1) scIsName.nd rfl (.inl rfl))) (fun _ _ _ _ _ => pts_nil) (fun _ _ _ _ _ => (pe_cmpR op_in_sign (pv 1) (pe_gs c_LETTERS) (by rfl)))) pa_nil))))), ?_⟩
    rcases hv with ⟨z, rfl, hz⟩ | ⟨hn, t, ty, kt⟩
    · refine ⟨_, rfl, _, _, _, _, _, rfl, .ty _, .base (.str z), kit_ty (r := true) (by decide +kernel), _, rfl, ?_⟩
      refine iteF ⟨_, rfl, z, rfl, sz_of (by omega), _, _, rfl, rfl, _, rfl, ?_⟩
      refine iteB (fun h1 => ⟨_, _, rfl, rfl, _, rfl, iteB (fun h2 => ?_) (fun h2 => ?_)⟩) (fun h1 => ⟨_, rfl, iteT ?_⟩)
      · have e : isNmV (.str z) = false := nm_long (by have := of_decide_eq_false ((Bool.not_eq_true' _).mp h2); omega)
        rw [e] at q
        exact q H (Ex.refl H)
      · have g1 := of_decide_eq_true h1
        have g2 : (z.length : Int) ≤ 8 := by simpa using h2
        refine ⟨.str z, rfl, z, rfl, fun D hD => lc_pure (fun _ => true) (fun i => .bl (decide (z.cps.getD i 0 ∈ abc.cps.toList))) walk_strF (fun _ _ => True.intro) hD (by show z.length ≤ 40000; omega) (fun _ => rfl) (fun i H1 _ _ => et_yes)
          (fun i H1 _ _ _ => ev_op (ev_var rfl) ev_c fun H2 _ _ k => ⟨_, _, rfl, rfl, k H2 (Ex.refl H2)⟩) fun H2 e2 h2 => ?_⟩
        rw [given_all] at h2
        refine ⟨D, (List.range z.cps.size).map fun i => decide (z.cps.getD i 0 ∈ abc.cps.toList), rfl, sq_of (by rw [List.map_map]; exact h2), ?_⟩
        rw [all_signs rfl, ← nm_okV (by omega) (by omega)]
        exact q H2 e2
      · have e : isNmV (.str z) = false := nm_short (by have := of_decide_eq_false h1; omega)
        rw [e] at q
        exact q H (Ex.refl H)
    · refine ⟨_, rfl, _, _, _, _, _, rfl, .ty _, ty, kit_ty kt, _, rfl, ?_⟩
      refine iteT (iteT ?_)
      rw [isNmV_no hn] at q
      exact q H (Ex.refl H)
/-! ### is a value an integer? a row? -/
/-- an entry: an integer, or none -/
def ER (K : PySem.W.Frag) (H : Hp) (v : V) : Option Int → Prop
  | some i => v = .int i
  | none => ∃ t b, TyX K H v (.type t) ∧ kitB t "int" = some b ∧ (b = true → kitB t "bool" = some true)
def spInt (K : PySem.W.Frag) : Sp := fun vs H Q _ => ∃ (v : V) (e : Option Int), vs = [v] ∧ ER K H v e ∧ Q (.bl e.isSome) H
theorem ok_isInt (F : FnS K "is_integer" "is_integer" sIsInt f fd) (B : Bl mg) : FnOk P w K mg base CX0 1 f fd ["thing"] (spInt K) := by
  refine okD F scIsInt (fun vs H Q E h => ?_) (fun cdv A outer s H vs Q E hr h => ?_)
  · obtain ⟨v, e, rfl, _⟩ := h
    rfl
  · obtain ⟨v, e, rfl, hv, q⟩ := h
    refine ⟨_, (pss_one (ps_ret (pe_and (pe_callB call_isi (by rfl) B.isinstance (by decide +kernel) (pa_cons (pv 0) (pa_cons (pe_bltn (v := .ty "int") (by rfl) B.int (by decide +kernel) rfl) pa_nil))) (pe_one (pe_not (pe_callB call_isi (by rfl) B.isinstance (by decide +kernel) (pa_cons (pv 0) (pa_cons (pe_bltn (v := .ty "bool") (by rfl) B.bool (by decide +kernel) rfl) pa_nil)))))))), ?_⟩
    cases e with
    | some i =>
      obtain rfl : v = .int i := hv
      refine ⟨_, rfl, _, _, _, _, _, rfl, .ty _, .base (.int i), kit_ty (r := true) (by decide +kernel), _, rfl, iteT ?_⟩
      exact ⟨_, rfl, _, _, _, _, _, rfl, .ty _, .base (.int i), kit_ty (r := false) (by decide +kernel), _, rfl, q⟩
    | none =>
      obtain ⟨t, b, ty, kb, hb⟩ := hv
      refine ⟨_, rfl, _, _, _, _, _, rfl, .ty _, ty, kit_ty kb, _, rfl, ?_⟩
      refine iteB (fun c => ?_) (fun c => q)
      exact ⟨_, rfl, _, _, _, _, _, rfl, .ty _, ty, kit_ty (hb c), _, rfl, q⟩
/-- a row: a list by its entries, or no list -/
inductive RV where
  | lst (es : List (Option Int))
  | oth
def RVR (K : PySem.W.Frag) (H : Hp) (v : V) : RV → Prop
  | .lst es => ∃ p vs, v = .ref p ∧ H p = some (.lst vs) ∧ Paired (ER K H) vs es ∧ vs.length ≤ 1000
  | .oth => ∃ t, TyX K H v (.type t) ∧ kitB t "list" = some false
def bit (e : Option Int) : Bool := decide (e = some 0) || decide (e = some 1)
def wOk : Option Nat → Nat → Bool
  | none, _ => true
  | some n, m => decide (m = n)
def rowOk (wd : Option Nat) (whole : Bool) : RV → Bool
  | .lst es => decide (es.length ≤ 24) && (es.all (·.isSome) && (wOk wd es.length && (whole || es.all bit)))
  | .oth => false
theorem rowOk_lst (wd : Option Nat) (whole : Bool) (es : List (Option Int)) : rowOk wd whole (.lst es) = (decide (es.length ≤ 24) && (es.all (·.isSome) && (wOk wd es.length && (whole || es.all bit)))) := rfl
def wdV : Option Nat → V
  | none => .non
  | some n => .int n
def ovS (whole : Bool) : Str := if whole then "whole" else "two"
theorem er_mono {H G : Hp} {v : V} {e : Option Int} (x : Ex H G) (h : ER K H v e) : ER K G v e := by
  cases e with
  | some i => exact h
  | none =>
    obtain ⟨t, b, ty, k⟩ := h
    exact ⟨t, b, tyx_mono x ty, k⟩
theorem rvr_mono {H G : Hp} {v : V} {r : RV} (x : Ex H G) (h : RVR K H v r) : RVR K G v r := by
  cases r with
  | lst es =>
    obtain ⟨p, vs, h1, h2, h3, h4⟩ := h
    exact ⟨p, vs, h1, x _ _ h2, Paired.mapP h3 fun _ _ z => er_mono x z, h4⟩
  | oth =>
    obtain ⟨t, h1, h2⟩ := h
    exact ⟨t, tyx_mono x h1, h2⟩
theorem paired_at {α β : Type} {R : α → β → Prop} : ∀ {l : List α} {m : List β}, Paired R l m → ∀ {i : Nat} {a : α}, l[i]? = some a → ∃ b, m[i]? = some b ∧ R a b
  | _, _, .nil, _, _, h => by cases h
  | _, _, .cons r t, 0, a, h => ⟨_, rfl, by cases Option.some.inj h; exact r⟩
  | _, _, .cons r t, i + 1, a, h => paired_at t (i := i) h
theorem in01 (j : Int) : inV (.int j) [.int 0, .int 1] = bit (some j) := by
  show ((0 : Int) == j || ((1 : Int) == j || false)) = (decide (some j = some 0) || decide (some j = some 1))
  rw [Bool.or_false]
  by_cases h0 : j = 0
  · subst h0; rfl
  · by_cases h1 : j = 1
    · subst h1; rfl
    · rw [decide_eq_false fun z => h0 (Option.some.inj z), decide_eq_false fun z => h1 (Option.some.inj z), beq_eq_false_iff_ne.mpr (Ne.symm h0), beq_eq_false_iff_ne.mpr (Ne.symm h1)]
def spRow (K : PySem.W.Frag) : Sp := fun vs H Q _ => ∃ (v : V) (r : RV) (wd : Option Nat) (whole : Bool), vs = [v, wdV wd, .str (ovS whole)] ∧ RVR K H v r ∧ ∀ G, Ex H G → Q (.bl (rowOk wd whole r)) G
theorem ok_isRow (F : FnS K "is_row" "is_row" sIsRow f fd) (B : Bl mg) (c_MOST_WIDTH : ∃ t, mg "MOST_WIDTH" = some (.int 24 t)) (c_is_integer : Cal P w K mg base CX0 1 "is_integer" ["thing"] (spInt K)) :
    FnOk P w K mg base CX0 2 f fd ["row", "width", "over"] (spRow K) := by
  refine okD F scIsRow (fun vs H Q E h => ?_) (fun cdv A outer s H vs Q E hr h => ?_)
  · obtain ⟨v, r, wd, whole, rfl, _⟩ := h
    rfl
  · obtain ⟨v, r, wd, whole, rfl, hv, q⟩ := h
    refine ⟨_, (pss_cons (ps_if (PW.pt (pw_or (pt_not (pt_val (pe_callB call_isi (by rfl) B.isinstance (by decide +kernel) (pa_cons (pv 0) (pa_cons (pe_bltn (v := .ty "list") (by rfl) B.list (by decide +kernel) rfl) pa_nil))))) (pw_or (pt_cmpR op_gt (pe_callB call_len (by rfl) B.len (by decide +kernel) (pa_cons (pv 0) pa_nil)) (pe_gi c_MOST_WIDTH) (nomark _)) (pw_or1 (pt_not (pt_val (pe_callB (cr_all rfl) (by rfl) B.all (by decide +kernel) (pa_cons (pe_lc (own := [("number", 3)]) (g := (gName 3)) (by rfl) scIsRow.nd (pi_list (pv 0)) (blkOk_by (own := [("number", 3)]) (N := nIsRow) (sc := defScope sIsRow) (by decide +kernel)) (fun _ _ _ _ _ => (pg_name (i := 3) scIsRow.nd rfl (.inl rfl))) (fun _ _ _ _ _ => pts_nil) (fun _ _ _ _ _ => (pe_cal c_is_integer (hr.mono (by decide)) pass0 (pa_cons (pv 3) pa_nil)))) pa_nil))))))))
      (pss_one (ps_ret pe_bl))
      pss_nil)
      (pss_cons (ps_if (PW.pt (pw_and (pt_cmpR op_notN (pv 1) pe_non (nomark _)) (pw_and1 (pt_cmpR op_ne (pe_callB call_len (by rfl) B.len (by decide +kernel) (pa_cons (pv 0) pa_nil)) (pv 1) (nomark _)))))
      (pss_one (ps_ret pe_bl))
      pss_nil)
      (pss_one (ps_ret (pe_or (pe_cmpR op_eq (pv 2) pe_str (nomark _)) (pe_one (pe_callB (cr_all rfl) (by rfl) B.all (by decide +kernel) (pa_cons (pe_lc (own := [("number", 3)]) (g := (gName 3)) (te := tOp (rIn K false) (tVar 3) (tTup (tCons (tC (.int 0)) (tCons (tC (.int 1)) tNil)))) (by rfl) scIsRow.nd (pi_list (pv 0)) (blkOk_by (own := [("number", 3)]) (N := nIsRow) (sc := defScope sIsRow) (by decide +kernel)) (fun _ _ _ _ _ => (pg_name (i := 3) scIsRow.nd rfl (.inl rfl))) (fun _ _ _ _ _ => pts_nil) (fun _ _ _ _ _ => (pe_cmpR op_in_seq (pv 3) (pe_tup (pa_cons pe_int (pa_cons pe_int pa_nil))) (by rfl)))) pa_nil)))))))), ?_⟩
    cases r with
    | oth =>
      obtain ⟨t, ty, kt⟩ := hv
      refine ⟨_, rfl, _, _, _, _, _, rfl, .ty _, ty, kit_ty kt, _, rfl, iteT (iteT ?_)⟩
      exact q H (Ex.refl H)
    | lst es =>
      obtain ⟨p, vs, rfl, hp, pr, hl⟩ := hv
      have le := Paired.length pr
      refine ⟨_, rfl, _, _, _, _, _, rfl, .ty _, .base (.lst hp), kit_ty (r := true) (by decide +kernel), _, rfl, iteF ?_⟩
      refine ⟨_, rfl, _, _, rfl, .inl ⟨_, sq_of hp, rfl⟩, _, _, rfl, rfl, _, rfl, ?_⟩
      rw [le]
      refine iteB (fun c1 => ?_) (fun c1 => ?_)
      · have e : rowOk wd whole (.lst es) = false := by
          rw [rowOk_lst, decide_eq_false (show ¬ es.length ≤ 24 by have := of_decide_eq_true c1; omega), Bool.false_and]
        rw [e] at q
        exact q H (Ex.refl H)
      · have l24 : es.length ≤ 24 := by have := of_decide_eq_false c1; omega
        refine ⟨_, rfl, p, rfl, ⟨_, sq_of hp⟩, fun D hD => lc_it (walk_list (xs := vs)) (fun i G => Ex H G ∧ G D = some (.lst (((es.take i).map (·.isSome)).map V.bl)))
          ⟨Ex.new hD, upd_same⟩ (fun i G _ hP => sq_of (hP.1 p _ hp)) (fun i x G G' hi hP hy => ?_) (fun G hP => ?_)⟩
        · obtain ⟨e1, hD1⟩ := hP
          obtain ⟨rfl, hx⟩ := hy
          obtain ⟨e, he, re⟩ := paired_at pr hx
          refine ⟨rfl, _, rfl, x, e, rfl, er_mono e1 re, _, hD1, ?_, Ex.mut e1 hD, ?_⟩
          · rw [List.length_map, List.length_map, List.length_take]
            exact sz_lt (by omega)
          · rw [upd_same, List.take_add_one, he, List.map_append, List.map_append]
            rfl
        · obtain ⟨e1, hD1⟩ := hP
          rw [le, List.take_length] at hD1
          refine ⟨D, _, rfl, sq_of hD1, _, rfl, ?_⟩
          have ea : (es.map (·.isSome)).all id = es.all (·.isSome) := by rw [List.all_map]; rfl
          rw [ea]
          refine iteB (fun c2 => ?_) (fun c2 => ?_)
          · have e : rowOk wd whole (.lst es) = false := by
              rw [rowOk_lst, show es.all (·.isSome) = false by simpa using c2, Bool.false_and, Bool.and_false]
            rw [e] at q
            exact q G e1
          · have al : es.all (·.isSome) = true := by simpa using c2
            have hp1 := e1 p _ hp
            -- the width
            have rest : wOk wd es.length = true → tOrV (tOp rEq (tVar 2) (tC (.str "whole"))) (tCB (rAll K) (tCons (tLc (iList K (tVar 0)) (gName 3) tYes (tOp (rIn K false) (tVar 3) (tTup (tCons (tC (.int 0)) (tCons (tC (.int 1)) tNil)))) [3]) tNil)) [some (.ref p), some (wdV wd), some (.str (ovS whole)), none] G Q := fun hw => by
              have qe : rowOk wd whole (.lst es) = (whole || es.all bit) := by rw [rowOk_lst, decide_eq_true l24, al, hw]; rfl
              rw [qe] at q
              cases whole with
              | true => exact ⟨_, rfl, rfl, _, rfl, iteT (q G e1)⟩
              | false =>
                refine ⟨_, rfl, rfl, _, rfl, iteF ⟨_, rfl, p, rfl, ⟨_, sq_of hp1⟩, fun D2 hD2 => lc_it (walk_list (xs := vs)) (fun i G2 => Ex G G2 ∧ G2 D2 = some (.lst (((es.take i).map bit).map V.bl)))
                  ⟨Ex.new hD2, upd_same⟩ (fun i G2 _ hP => sq_of (hP.1 p _ hp1)) (fun i x G2 G' hi hP hy => ?_) (fun G2 hP => ?_)⟩⟩
                · obtain ⟨e2, hD3⟩ := hP
                  obtain ⟨rfl, hx⟩ := hy
                  obtain ⟨e, he, re⟩ := paired_at pr hx
                  have hs : e.isSome = true := List.all_eq_true.mp al e (List.mem_of_getElem? he)
                  obtain ⟨j, rfl⟩ := Option.isSome_iff_exists.mp hs
                  obtain rfl : x = .int j := re
                  refine ⟨rfl, _, rfl, by show 2 ≤ sizeLine; decide, fun tp htp => ⟨tp, _, rfl, .inr (st_of upd_same), rfl, rfl, _, Ex.new htp D2 _ hD3, ?_, Ex.mut (e2.trans (Ex.new htp)) hD2, ?_⟩⟩
                  · rw [List.length_map, List.length_map, List.length_take]
                    exact sz_lt (by omega)
                  · rw [upd_same, List.take_add_one, he, List.map_append, List.map_append]
                    have eb : inV (.int j) [.int 0, .int 1] = bit (some j) := in01 j
                    rw [eb]
                    rfl
                · obtain ⟨e2, hD3⟩ := hP
                  rw [le, List.take_length] at hD3
                  refine ⟨D2, _, rfl, sq_of hD3, ?_⟩
                  have ea : (es.map bit).all id = es.all bit := by rw [List.all_map]; rfl
                  rw [ea]
                  exact q G2 (e1.trans e2)
            cases wd with
            | none =>
              exact ⟨_, rfl, rfl, _, rfl, iteF (iteF (rest rfl))⟩
            | some n =>
              refine ⟨_, rfl, rfl, _, rfl, iteT ⟨_, rfl, _, _, rfl, .inl ⟨_, sq_of hp1, rfl⟩, _, rfl, rfl, _, rfl, ?_⟩⟩
              rw [le]
              by_cases c : es.length = n
              · have e3 : (!decide (V.int (es.length : Int) = wdV (some n))) = false := by rw [c]; show (!decide (V.int n = V.int n)) = false; simp
                rw [e3]
                exact iteF (rest (decide_eq_true c))
              · have e3 : (!decide (V.int (es.length : Int) = wdV (some n))) = true := by
                  show (!decide (V.int (es.length : Int) = V.int n)) = true
                  rw [decide_eq_false fun z => c (by have := V.int.inj z; omega)]
                  rfl
                rw [e3]
                refine iteT ?_
                have e : rowOk (some n) whole (.lst es) = false := by
                  rw [rowOk_lst, show wOk (some n) es.length = false from decide_eq_false c, Bool.false_and, Bool.and_false, Bool.and_false]
                rw [e] at q
                exact q G e1
end
end L43
namespace L43
open PySem PySem.Spec PyProof.Rows L2 Evl Bf
/-! ### rows, plainly -/
abbrev Rws := List (Str × RV)
def keysW (rs : Rws) : List Str := rs.map (·.1)
def lookW (rs : Rws) (n : Str) : RV := ((rs.find? fun e => decide (e.1 = n)).map (·.2)).getD .oth
def rlen : RV → Nat
  | .lst es => es.length
  | .oth => 0
def nums : RV → List Int
  | .lst es => es.map (·.getD 0)
  | .oth => []
def nth (rs : Rws) (i : Nat) : Str := (srt (keysW rs)).getD i ""
def wAt (rs : Rws) : Nat → Option Nat
  | 0 => none
  | i + 1 => some (rlen (lookW rs (nth rs i)))
def badW (rs : Rws) (whole : Bool) (i : Nat) : Bool := !isNm (nth rs i) || !rowOk (wAt rs i) whole (lookW rs (nth rs i))
inductive DueW where
  | many | bad (n : Str) | ok
def dueW (rs : Rws) (whole : Bool) : DueW := if 24 < rs.length then .many else match firstOf (badW rs whole) rs.length with
  | some i => .bad (nth rs i)
  | none => .ok
def keptOf (rs : Rws) : List (Str × List Int) := (srt (keysW rs)).map fun n => (n, nums (lookW rs n))
section
variable {P : Program} {w : World} {K : PySem.W.Frag} {mg : Str → Option Value} {base : Heap} {f : Addr} {fd : FuncData}
/-! ### rows as they stand in the heap -/
def WR (K : PySem.W.Frag) (H : Hp) (kvs : List (Key × V)) (rs : Rws) : Prop := Paired (fun p q => p.1 = Sum.inr q.1 ∧ RVR K H p.2 q.2) kvs rs
theorem wr_mono {H G : Hp} {kvs : List (Key × V)} {rs : Rws} (e : Ex H G) (h : WR K H kvs rs) : WR K G kvs rs := Paired.mapP h fun _ _ z => ⟨z.1, rvr_mono e z.2⟩
theorem wr_keys {H : Hp} {kvs : List (Key × V)} {rs : Rws} (h : WR K H kvs rs) : kvs.map (·.1) = (keysW rs).map Sum.inr := by
  unfold WR at h
  unfold keysW
  induction h with
  | nil => rfl
  | cons a _ ih => rw [List.map_cons, List.map_cons, List.map_cons, ih, a.1]
theorem wr_len {H : Hp} {kvs : List (Key × V)} {rs : Rws} (h : WR K H kvs rs) : kvs.length = rs.length := Paired.length h
theorem wr_get {H : Hp} {kvs : List (Key × V)} {rs : Rws} {n : Str} (h : WR K H kvs rs) (hn : n ∈ keysW rs) : ∃ v, valV kvs (Sum.inr n) = some v ∧ RVR K H v (lookW rs n) := by
  unfold WR at h
  unfold keysW at hn
  unfold lookW valV
  induction h with
  | nil => cases hn
  | @cons p q ps qs a t ih =>
    rw [List.find?_cons, List.find?_cons]
    by_cases c : q.1 = n
    · have c1 : decide (p.1 = Sum.inr n) = true := decide_eq_true (by rw [a.1, c])
      rw [c1, decide_eq_true c]
      exact ⟨p.2, rfl, a.2⟩
    · have c1 : decide (p.1 = Sum.inr n) = false := decide_eq_false (by rw [a.1]; exact fun z => c (Sum.inr.inj z))
      rw [c1, decide_eq_false c]
      exact ih (by
        rcases List.mem_cons.mp hn with z | z
        · exact absurd z.symm c
        · exact z)
theorem keysW_len (rs : Rws) : (keysW rs).length = rs.length := by unfold keysW; rw [List.length_map]
/-- rows kept: tuples of integers -/
def KR (H : Hp) (kvs : List (Key × V)) (kp : List (Str × List Int)) : Prop := Paired (fun p q => p.1 = Sum.inr q.1 ∧ ∃ t, p.2 = .ref t ∧ H t = some (.tup (q.2.map V.int))) kvs kp
theorem kr_mono {H G : Hp} {kvs : List (Key × V)} {kp : List (Str × List Int)} (e : Ex H G) (h : KR H kvs kp) : KR G kvs kp := Paired.mapP h fun _ _ ⟨a, t, b, c⟩ => ⟨a, t, b, e _ _ c⟩
theorem kr_upd {H : Hp} {d : Addr} {o o' : HO} {kvs : List (Key × V)} {kp : List (Str × List Int)} (hd : H d = some o) (no : ∀ ys, o ≠ .tup ys) (h : KR H kvs kp) : KR (upd H d o') kvs kp :=
  Paired.mapP h fun _ _ ⟨a, t, b, c⟩ => ⟨a, t, b, tup_upd hd no c⟩
theorem kr_keys {H : Hp} {kvs : List (Key × V)} {kp : List (Str × List Int)} (h : KR H kvs kp) : kvs.map (·.1) = (kp.map (·.1)).map Sum.inr := by
  unfold KR at h
  induction h with
  | nil => rfl
  | cons a _ ih => rw [List.map_cons, List.map_cons, List.map_cons, ih, a.1]
theorem kr_len {H : Hp} {kvs : List (Key × V)} {kp : List (Str × List Int)} (h : KR H kvs kp) : kvs.length = kp.length := Paired.length h
abbrev rowF (whole : Bool) (e : Addr) (wd : Option Nat) : List (Str × V) := [("field", .str (ovS whole)), ("kept", .ref e), ("long", wdV wd)]
def RowsAt (K : PySem.W.Frag) (H : Hp) (x e : Addr) (whole : Bool) (kp : List (Str × List Int)) (wd : Option Nat) : Prop :=
  ∃ (dx : Addr) (kvs : List (Key × V)), H x = some (.ins (He.ga K "Rows") dx (rowF whole e wd)) ∧ H e = some (.dK kvs) ∧ KR H kvs kp
theorem rowsAt_mono {H G : Hp} {x e : Addr} {whole : Bool} {kp : List (Str × List Int)} {wd : Option Nat} (E : Ex H G) (h : RowsAt K H x e whole kp wd) : RowsAt K G x e whole kp wd := by
  obtain ⟨dx, kvs, h1, h2, h3⟩ := h
  exact ⟨dx, kvs, E _ _ h1, E _ _ h2, kr_mono E h3⟩
structure RowT (K : PySem.W.Frag) (mg : Str → Option Value) : Prop where
  g : mg "Rows" = some (.ref (He.ga K "Rows"))
  cl : Cls K (He.ga K "Rows")
  fi : NoAttr K (He.ga K "Rows") "field"
  ke : NoAttr K (He.ga K "Rows") "kept"
  lo : NoAttr K (He.ga K "Rows") "long"
  ins : C8.InsC K (He.ga K "Rows")
/-- all entries are integers: then the list is the integers' -/
theorem vals_ints {H : Hp} : ∀ {vs : List V} {es : List (Option Int)}, Paired (ER K H) vs es → es.all (·.isSome) = true → vs = (es.map (·.getD 0)).map V.int
  | _, _, .nil, _ => rfl
  | _, _, .cons (b := e) r t, h => by
    obtain ⟨h1, h2⟩ := Bool.and_eq_true_iff.mp (show (e.isSome && _) = true from h)
    obtain ⟨i, rfl⟩ := Option.isSome_iff_exists.mp h1
    obtain rfl := (show _ = V.int i from r)
    rw [vals_ints t h2]
    rfl
theorem rv_ints {H : Hp} {v : V} {r : RV} {wd : Option Nat} {whole : Bool} (h : RVR K H v r) (o : rowOk wd whole r = true) : ∃ p, v = .ref p ∧ H p = some (.lst ((nums r).map V.int)) ∧ (nums r).length = rlen r ∧ rlen r ≤ 24 := by
  cases r with
  | oth => cases o
  | lst es =>
    obtain ⟨p, vs, h1, h2, h3, _⟩ := h
    rw [rowOk_lst] at o
    obtain ⟨o1, o⟩ := Bool.and_eq_true_iff.mp o
    obtain ⟨o2, _⟩ := Bool.and_eq_true_iff.mp o
    rw [vals_ints h3 o2] at h2
    exact ⟨p, h1, h2, List.length_map _, of_decide_eq_true o1⟩
/-! ### Rows(rows, over=..) -/
def WantsW (K : PySem.W.Frag) (x : Addr) (H : Hp) (Q : Hp → Prop) (E : XK) (rs : Rws) (whole : Bool) : DueW → Prop
  | .many => OutB K x H E "TooMany" "limit" (.int 24)
  | .bad n => OutB K x H E "BadRows" "thing" (.str n)
  | .ok => ∀ G e, ExB x H G → H e = none → RowsAt K G x e whole (keptOf rs) (wAt rs rs.length) → Q G
structure RowArg (K : PySem.W.Frag) (H : Hp) (d : Addr) (rs : Rws) : Prop where
  di : ∃ kvs, H d = some (.dK kvs) ∧ WR K H kvs rs
  nd : (keysW rs).Nodup
  len : rs.length ≤ 60
  ok : ∀ n ∈ keysW rs, StrOk n
theorem rowArg_mono {H G : Hp} {d : Addr} {rs : Rws} (e : Ex H G) (a : RowArg K H d rs) : RowArg K G d rs := by
  obtain ⟨kvs, h1, h2⟩ := a.di
  exact ⟨⟨kvs, e _ _ h1, wr_mono e h2⟩, a.nd, a.len, a.ok⟩
def spInitR (K : PySem.W.Frag) : Sp := fun vs H Q E => ∃ (x dx d : Addr) (H0 : Hp) (rs : Rws) (whole : Bool), vs = [.ref x, .ref d, .str (ovS whole)] ∧ H x = some (.ins (He.ga K "Rows") dx []) ∧
  H0 x = none ∧ Ex H0 H ∧ RowArg K H0 d rs ∧ WantsW K x H (Q .non) E rs whole (dueW rs whole)
theorem ok_init (F : FnS K "__init__" "Rows.__init__" sInit f fd) (B : Bl mg) (T : RowT K mg) (c_MOST_THINGS : ∃ t, mg "MOST_THINGS" = some (.int 24 t))
    (x_BadRows : ExT P w K mg base "BadRows" "thing" (He.ga K "BadRows")) (x_TooMany : ExT P w K mg base "TooMany" "limit" (He.ga K "TooMany"))
    (c_is_name : Cal P w K mg base CX0 1 "is_name" ["thing"] (spNm K)) (c_is_row : Cal P w K mg base CX0 2 "is_row" ["row", "width", "over"] (spRow K)) :
    FnOk P w K mg base (L2.CX P w) 3 f fd ["self", "rows", "over"] (spInitR K) := by
  refine okE F scInit (fun vs H Q E h => ?_) (fun cdv A outer s H vs Q E hr h tk => ?_)
  · obtain ⟨x, dx, d, H0, rs, whole, rfl, _⟩ := h
    rfl
  · obtain ⟨x, dx, d, H0, rs, whole, rfl, hx, hx0, e0, ra, qq⟩ := h
    have hu := hu_of hr
    refine ⟨_, (pss_cons (ps_if (pt_cmpR op_gt (pe_callB call_lenD (by rfl) B.len (by decide +kernel) (pa_cons (pv 1) pa_nil)) (pe_gi c_MOST_THINGS) (nomark _))
      (pss_one (ps_rx x_TooMany (by rfl) tk (hr.mono (by decide)) (pa_cons (pe_gi c_MOST_THINGS) pa_nil)))
      pss_nil)
      (pss_cons (ps_fld (pv 0) (pv 2) rfl)
      (pss_cons (ps_fld (pv 0) pe_dnewK rfl)
      (pss_cons (ps_fld (pv 0) pe_non rfl)
      (pss_one (ps_for (passes_of rfl) (by rfl) (pi_list (pe_callB (call_sortedD rfl) (by rfl) B.sorted (by decide +kernel) (pa_cons (pv 1) pa_nil))) (pg_name (i := 3) scInit.nd rfl (.inl rfl))
      (pss_cons (ps_if (PW.pt (pw_or (pt_not (pt_val (pe_cal c_is_name (hr.mono (by decide)) pass0 (pa_cons (pv 3) pa_nil)))) (pw_or1 (pt_not (pt_val (pe_cal c_is_row (hr.mono (by decide)) pass0 (pa_cons (pe_dget hu (pv 1) (pv 3) (fun _ _ => rfl)) (pa_cons (pe_fld (pv 0) rfl) (pa_cons (pv 2) pa_nil)))))))))
      (pss_one (ps_rx x_BadRows (by rfl) tk (hr.mono (by decide)) (pa_cons (pv 3) pa_nil)))
      pss_nil)
      (pss_cons (ps_dput hu (pe_fld (pv 0) rfl) (pv 3) (pe_callTy call_tuple_of (by rfl) B.tuple (by decide +kernel) (pa_cons (pe_dget hu (pv 1) (pv 3) (fun _ _ => rfl)) pa_nil)) rfl)
      (pss_one (ps_fld (pv 0) (pe_callB call_len_seq (by rfl) B.len (by decide +kernel) (pa_cons (pe_dget hu (pv 1) (pv 3) (fun _ _ => rfl)) pa_nil)) rfl)))))))))), ?_⟩
    have ra1 := rowArg_mono e0 ra
    obtain ⟨kvs, d1, t1⟩ := ra1.di
    refine ⟨_, rfl, d, kvs, rfl, d1, _, _, rfl, rfl, _, rfl, ?_⟩
    rw [wr_len t1]
    refine iteB (fun c1 => ?_) (fun c1 => ?_)
    · have g : 24 < rs.length := by have := of_decide_eq_true c1; omega
      have dd : dueW rs whole = .many := if_pos g
      rw [dd] at qq
      exact ⟨_, rfl, fun d' hd => qq.go (fun b o _ h => h) hx hd⟩
    · have g : ¬ 24 < rs.length := by have := of_decide_eq_false c1; omega
      have dd : dueW rs whole = (match firstOf (badW rs whole) rs.length with | some i => .bad (nth rs i) | none => .ok) := if_neg g
      rw [dd] at qq
      -- self.field, self.kept, self.long
      refine ⟨_, rfl, _, rfl, x, _, _, _, rfl, hx, T.cl, T.fi, by decide, ?_⟩
      obtain ⟨G1, eG1⟩ : ∃ G1, G1 = upd H x (.ins (He.ga K "Rows") dx (putF "field" (.str (ovS whole)) [])) := ⟨_, rfl⟩
      rw [← eG1]
      have x1 : G1 x = some (.ins (He.ga K "Rows") dx [("field", .str (ovS whole))]) := by rw [eG1, upd_same]; rfl
      have b1 : ExB x H G1 := by rw [eG1]; exact ExB.set (fun b o _ h => h)
      refine fun e he => ⟨_, rfl, x, _, _, _, rfl, Ex.new he x _ x1, T.cl, T.ke, by show 1 < 1000; decide, ?_⟩
      have ex : e ≠ x := fun z => by rw [z, x1] at he; cases he
      have heH : H e = none := by
        cases hH : H e with
        | none => rfl
        | some o => rw [b1 e o ex hH] at he; cases he
      obtain ⟨G2, eG2⟩ : ∃ G2, G2 = upd (upd G1 e (.dK [])) x (.ins (He.ga K "Rows") dx (putF "kept" (.ref e) [("field", .str (ovS whole))])) := ⟨_, rfl⟩
      rw [← eG2]
      have x2 : G2 x = some (.ins (He.ga K "Rows") dx [("field", .str (ovS whole)), ("kept", .ref e)]) := by rw [eG2, upd_same]; rfl
      have k2 : G2 e = some (.dK []) := by rw [eG2, upd_ne ex, upd_same]
      have b2 : ExB x H G2 := by rw [eG2]; exact (b1.then (Ex.new he)).set
      refine ⟨_, rfl, x, _, _, _, rfl, x2, T.cl, T.lo, by show 2 < 1000; decide, ?_⟩
      obtain ⟨G3, eG3⟩ : ∃ G3, G3 = upd G2 x (.ins (He.ga K "Rows") dx (putF "long" .non [("field", .str (ovS whole)), ("kept", .ref e)])) := ⟨_, rfl⟩
      rw [← eG3]
      have x3 : G3 x = some (.ins (He.ga K "Rows") dx (rowF whole e (wAt rs 0))) := by rw [eG3, upd_same]; rfl
      have k3 : G3 e = some (.dK []) := by rw [eG3, upd_ne ex]; exact k2
      have b3 : ExB x H G3 := by rw [eG3]; exact b2.set
      have e03 : ∀ {G : Hp}, ExB x H G → Ex H0 G := fun b c o h => b c o (ne_of_none h hx0) (e0 c o h)
      obtain ⟨kvs3, d3, t3⟩ := (rowArg_mono (e03 b3) ra).di
      -- sorted(rows)
      refine ⟨_, rfl, d, kvs3, keysW rs, rfl, .inl d3, wr_keys t3, by rw [keysW_len]; omega, fun ys c hp hso hc => ?_⟩
      have ey := srt_eq hp hso
      subst ey
      have cx : c ≠ x := fun z => by rw [z, x3] at hc; cases hc
      have ce : c ≠ e := fun z => by rw [z, k3] at hc; cases hc
      have nd : (srt (keysW rs)).Nodup := nodup_perm (srt_perm _) ra.nd
      refine ⟨c, rfl, ⟨_, sq_of upd_same⟩, for_it (walk_list (xs := (srt (keysW rs)).map V.str)) (fun i σ G => ∃ y3 kvs', σ = [some (.ref x), some (.ref d), some (.str (ovS whole)), y3] ∧ ExB x H G ∧ G c = some (.lst ((srt (keysW rs)).map V.str)) ∧
          G x = some (.ins (He.ga K "Rows") dx (rowF whole e (wAt rs i))) ∧ G e = some (.dK kvs') ∧ KR G kvs' ((keptOf rs).take i) ∧ ∀ j, j < i → badW rs whole j = false)
        ⟨none, [], rfl, b3.then (Ex.new hc), upd_same, Ex.new hc x _ x3, Ex.new hc e _ k3, .nil, fun j hj => absurd hj (Nat.not_lt_zero j)⟩ (fun i σ G _ hP => ?_) (fun i v σ G G' hi hP hy => ?_) (fun σ G hP => ?_)⟩
      · obtain ⟨_, _, rfl, _, h, _⟩ := hP
        exact sq_of h
      · obtain ⟨y3, kvs', rfl, b4, c4, x4, e4, r4, hb⟩ := hP
        obtain ⟨rfl, hv⟩ := hy
        obtain ⟨rfl, hi2⟩ := getD_map hv
        have hn0 : (srt (keysW rs))[i]? = some (nth rs i) := by unfold nth; simp [List.getD, hi2]
        rw [srt_len] at hi2
        have hn : nth rs i ∈ keysW rs := srt_mem.mp (List.mem_of_getElem? hn0)
        rw [keysW_len] at hi2
        have due : badW rs whole i = true → OutB K x H E "BadRows" "thing" (.str (nth rs i)) := fun h => by
          rw [first_some hi2 h hb] at qq
          exact qq
        have bad : ∀ b : Bool, (!isNm (nth rs i) || !rowOk (wAt rs i) whole (lookW rs (nth rs i))) = b → badW rs whole i = b := fun b h => h
        have hE : (keptOf rs)[i]? = some (nth rs i, nums (lookW rs (nth rs i))) := by unfold keptOf; rw [List.getElem?_map, hn0]; rfl
        show gName 3 (.str (nth rs i)) _ _ _
        generalize hN : nth rs i = n at hn hn0 due bad hE
        refine ⟨_, rfl, _, rfl, .inl ⟨n, rfl, (ra.ok n hn).1⟩, fun G5 f5 => ⟨_, rfl, ?_⟩⟩
        have b5 := b4.then f5
        refine iteB (fun c2 => iteT ?_) (fun c2 => ?_)
        · exact ⟨_, rfl, _, rfl, fun d' hd => (due (bad true (by rw [show (!isNm n) = true from c2]; rfl))).go b5 (f5 x _ x4) hd⟩
        · obtain ⟨kv5, d5, t5⟩ := (rowArg_mono (e03 b5) ra).di
          obtain ⟨rv, g1, g2⟩ := wr_get t5 hn
          refine ⟨_, rfl, _, rfl, d, _, rfl, dget_at d5 g1, _, rfl, x, _, _, _, _, rfl, f5 x _ x4, T.cl, T.lo, rfl, _, rfl, rv, lookW rs n, wAt rs i, whole, rfl, g2, fun G6 f6 => ⟨_, rfl, ?_⟩⟩
          have b6 := b5.then f6
          have f56 := f5.trans f6
          refine iteB (fun c3 => ?_) (fun c3 => ?_)
          · exact ⟨_, rfl, _, rfl, fun d' hd => (due (bad true (by rw [show (!rowOk (wAt rs i) whole (lookW rs n)) = true from c3, Bool.or_true]))).go b6 (f56 x _ x4) hd⟩
          · have ro : rowOk (wAt rs i) whole (lookW rs n) = true := by simpa using c3
            obtain ⟨kv6, d6, t6⟩ := (rowArg_mono (e03 b6) ra).di
            obtain ⟨rv2, g3, g4⟩ := wr_get t6 hn
            obtain ⟨rp, rfl, hrp, hrl, hr24⟩ := rv_ints g4 ro
            refine ⟨_, rfl, _, rfl, d, _, rfl, dget_at d6 g3, rp, _, rfl, .inl ⟨sq_of hrp, fun tq htq => ?_⟩⟩
            have f7 : Ex G6 _ := Ex.new (o := .tup ((nums (lookW rs n)).map V.int)) htq
            have k7 : (upd G6 tq (.tup ((nums (lookW rs n)).map V.int))) tq = _ := upd_same
            generalize upd G6 tq (.tup ((nums (lookW rs n)).map V.int)) = G7 at f7 k7
            have f47 := f56.trans f7
            have x7 := f47 x _ x4
            have e7 := f47 e _ e4
            have b7 := b6.then f7
            have ni : n ∉ ((keptOf rs).take i).map (·.1) := by
              rw [List.map_take]
              have : (keptOf rs).map (·.1) = srt (keysW rs) := by unfold keptOf; rw [List.map_map]; exact List.map_id _
              rw [this]
              exact not_in_take nd hn0
            have fresh : valV kvs' (Sum.inr n) = none := by
              unfold valV
              rw [List.find?_eq_none.mpr]
              · rfl
              · intro q hq z
                have hk := kr_keys r4
                have hm : q.1 ∈ (((keptOf rs).take i).map (·.1)).map Sum.inr := by rw [← hk]; exact List.mem_map.mpr ⟨q, hq, rfl⟩
                obtain ⟨m, hm, em⟩ := List.mem_map.mp hm
                have : Sum.inr m = (Sum.inr n : Key) := em.trans (of_decide_eq_true z)
                rw [Sum.inr.inj this] at hm
                exact ni hm
            have len4 := kr_len r4
            rw [List.length_take] at len4
            refine ⟨_, rfl, x, _, _, _, _, rfl, x7, T.cl, T.ke, rfl, _, rfl, e, _, rfl, DPut.k (k := Sum.inr n) e7 (sz_lt (by omega)), ?_⟩
            rw [putK_new _ fresh]
            have b8 : ExB x H (upd G7 e (.dK (kvs' ++ [(Sum.inr n, .ref tq)]))) := fun c o nx h => by
              have nc : c ≠ e := fun z => by rw [z, heH] at h; cases h
              rw [upd_ne nc]
              exact b7 c o nx h
            have x8 : (upd G7 e (.dK (kvs' ++ [(Sum.inr n, .ref tq)]))) x = _ := (upd_ne ex.symm).trans x7
            have c8 : (upd G7 e (.dK (kvs' ++ [(Sum.inr n, .ref tq)]))) c = some (.lst ((srt (keysW rs)).map V.str)) := by rw [upd_ne ce]; exact f47 c _ c4
            have k8 : (upd G7 e (.dK (kvs' ++ [(Sum.inr n, .ref tq)]))) e = _ := upd_same
            have r8 : KR (upd G7 e (.dK (kvs' ++ [(Sum.inr n, .ref tq)]))) (kvs' ++ [(Sum.inr n, .ref tq)]) ((keptOf rs).take (i + 1)) := by
              rw [List.take_add_one, hE]
              exact paired_snoc (kr_upd e7 (fun _ z => by cases z) (kr_mono f47 r4)) ⟨rfl, tq, rfl, tup_upd e7 (fun _ z => by cases z) k7⟩
            generalize upd G7 e (.dK (kvs' ++ [(Sum.inr n, .ref tq)])) = G8 at b8 x8 c8 k8 r8
            obtain ⟨kv8, d8, t8⟩ := (rowArg_mono (e03 b8) ra).di
            obtain ⟨rv3, g5, g6⟩ := wr_get t8 hn
            obtain ⟨rp3, rfl, hrp3, hrl3, _⟩ := rv_ints g6 ro
            refine ⟨_, rfl, _, rfl, d, _, rfl, dget_at d8 g5, rp3, _, rfl, .inl (sq_of hrp3), _, rfl, x, _, _, _, rfl, x8, T.cl, T.lo, by show 3 < 1000; decide, ?_⟩
            rw [List.length_map, hrl3]
            have exw : wAt rs (i + 1) = some (rlen (lookW rs n)) := by show some (rlen (lookW rs (nth rs i))) = _; rw [hN]
            refine ⟨_, _, rfl, b8.set, by rw [upd_ne cx]; exact c8, ?_, by rw [upd_ne ex]; exact k8, kr_upd x8 (fun _ z => by cases z) r8, fun j hj => ?_⟩
            · rw [upd_same, exw]
              rfl
            · by_cases ej : j = i
              · rw [ej]
                exact bad false (by rw [show (!isNm n) = false from c2, ro]; rfl)
              · exact hb j (by omega)
      · obtain ⟨y3, kvs', rfl, b4, c4, x4, e4, r4, hb⟩ := hP
        rw [List.length_map, srt_len, keysW_len] at r4 x4 hb
        rw [first_none hb] at qq
        have full : (keptOf rs).take rs.length = keptOf rs := List.take_of_length_le (by unfold keptOf; rw [List.length_map, srt_len, keysW_len]; exact Nat.le_refl _)
        rw [full] at r4
        exact qq G e b4 heH ⟨dx, kvs', x4, e4, r4⟩
end
end L43
namespace L43
open PySem PySem.Spec PyProof.Rows L2 Evl Bf
section
variable {P : Program} {w : World} {K : PySem.W.Frag} {mg : Str → Option Value} {base : Heap} {f : Addr} {fd : FuncData}
def spThings (K : PySem.W.Frag) : Sp := fun vs H Q _ => ∃ (x e : Addr) (whole : Bool) (kp : List (Str × List Int)) (wd : Option Nat), vs = [.ref x] ∧ RowsAt K H x e whole kp wd ∧ ∀ p, H p = none → Q (.ref p) (upd H p (.lst ((kp.map (·.1)).map V.str)))
theorem ok_things (F : FnS K "things" "Rows.things" sThings f fd) (B : Bl mg) (T : RowT K mg) : FnOk P w K mg base CX0 1 f fd ["self"] (spThings K) := by
  refine okD F scThings (fun vs H Q E h => ?_) (fun cdv A outer s H vs Q E hr h => ?_)
  · obtain ⟨x, e, whole, kp, wd, rfl, _⟩ := h
    rfl
  · obtain ⟨x, e, whole, kp, wd, rfl, ⟨dx, kvs, h1, h2, h3⟩, q⟩ := h
    refine ⟨_, (pss_one (ps_ret (pe_callTy (call_listD rfl) (by rfl) B.list (by decide +kernel) (pa_cons (pe_fld (pv 0) rfl) pa_nil)))), ?_⟩
    refine ⟨_, rfl, x, _, _, _, _, rfl, h1, T.cl, T.ke, rfl, e, kvs, rfl, .inl h2, fun p hp => ?_⟩
    rw [keys_map (kr_keys h3)]
    exact q p hp
/-- lists of integers by names -/
def LR (H : Hp) (kvs : List (Key × V)) (kp : List (Str × List Int)) : Prop := Paired (fun p q => p.1 = Sum.inr q.1 ∧ ∃ l, p.2 = .ref l ∧ H l = some (.lst (q.2.map V.int))) kvs kp
def rLstOf (K : PySem.W.Frag) : List V → Hp → VK → Prop := fun xs H Q => ∃ p ys, xs = [.ref p] ∧ (SqL K H p ys ∨ SqT K H p ys) ∧ ∀ l, H l = none → Q (.ref l) (upd H l (.lst ys))
/-- all lists of a dict are new -/
def NewL (H : Hp) (kvs : List (Key × V)) : Prop := ∀ q ∈ kvs, ∃ l, q.2 = .ref l ∧ H l = none
def spRows (K : PySem.W.Frag) : Sp := fun vs H Q _ => ∃ (x e : Addr) (whole : Bool) (kp : List (Str × List Int)) (wd : Option Nat), vs = [.ref x] ∧ RowsAt K H x e whole kp wd ∧ (kp.map (·.1)).Nodup ∧ kp.length ≤ 60 ∧
  ∀ p kvs G, H p = none → Ex H G → G p = some (.dK kvs) → LR G kvs kp → NewL H kvs → (∀ q ∈ kvs, q.2 ≠ .ref p) → Q (.ref p) G
theorem kr_at {H : Hp} {kvs : List (Key × V)} {kp : List (Str × List Int)} (r : KR H kvs kp) {i : Nat} {k : Key} {v : V} (h : kvs[i]? = some (k, v)) : ∃ q, kp[i]? = some q ∧ k = Sum.inr q.1 ∧ ∃ t, v = .ref t ∧ H t = some (.tup (q.2.map V.int)) := by
  unfold KR at r
  induction r generalizing i with
  | nil => cases h
  | @cons p q ps qs a t ih =>
    cases i with
    | zero =>
      have e : p = (k, v) := Option.some.inj h
      subst e
      exact ⟨q, rfl, a.1, a.2⟩
    | succ j => exact ih h
def lookI (kp : List (Str × List Int)) (n : Str) : Option (List Int) := (kp.find? fun e => decide (e.1 = n)).map (·.2)
theorem kr_look {H : Hp} {kvs : List (Key × V)} {kp : List (Str × List Int)} {n : Str} (h : KR H kvs kp) :
    (lookI kp n = none ∧ valV kvs (Sum.inr n) = none) ∨ ∃ is t, lookI kp n = some is ∧ valV kvs (Sum.inr n) = some (.ref t) ∧ H t = some (.tup (is.map V.int)) := by
  unfold KR at h
  unfold lookI valV
  induction h with
  | nil => exact .inl ⟨rfl, rfl⟩
  | @cons p q ps qs a _ ih =>
    rw [List.find?_cons, List.find?_cons]
    obtain ⟨a1, t, a2, a3⟩ := a
    by_cases c : q.1 = n
    · have c1 : decide (p.1 = Sum.inr n) = true := decide_eq_true (by rw [a1, c])
      rw [c1, decide_eq_true c]
      exact .inr ⟨q.2, t, rfl, by rw [← a2]; rfl, a3⟩
    · have c1 : decide (p.1 = Sum.inr n) = false := decide_eq_false (by rw [a1]; exact fun z => c (Sum.inr.inj z))
      rw [c1, decide_eq_false c]
      exact ih
theorem lookI_in {kp : List (Str × List Int)} (nd : (kp.map (·.1)).Nodup) {q : Str × List Int} (h : q ∈ kp) : lookI kp q.1 = some q.2 := by
  unfold lookI
  induction kp with
  | nil => cases h
  | cons p r ih =>
    obtain ⟨n1, n2⟩ := List.nodup_cons.mp (show (p.1 :: r.map (·.1)).Nodup from nd)
    rw [List.find?_cons]
    rcases List.mem_cons.mp h with rfl | h
    · rw [decide_eq_true rfl]; rfl
    · have c : ¬ p.1 = q.1 := fun z => n1 (by rw [z]; exact List.mem_map.mpr ⟨q, h, rfl⟩)
      rw [decide_eq_false c]
      exact ih n2 h
theorem lookI_no {kp : List (Str × List Int)} {n : Str} (h : n ∉ kp.map (·.1)) : lookI kp n = none := by
  unfold lookI
  rw [List.find?_eq_none.mpr fun q hq z => h (List.mem_map.mpr ⟨q, hq, of_decide_eq_true z⟩)]
  rfl
theorem lr_mono {H G : Hp} {kvs : List (Key × V)} {kp : List (Str × List Int)} (e : Ex H G) (h : LR H kvs kp) : LR G kvs kp := Paired.mapP h fun _ _ ⟨a, t, b, c⟩ => ⟨a, t, b, e _ _ c⟩
theorem lr_keys {H : Hp} {kvs : List (Key × V)} {kp : List (Str × List Int)} (h : LR H kvs kp) : kvs.map (·.1) = (kp.map (·.1)).map Sum.inr := by
  unfold LR at h
  induction h with
  | nil => rfl
  | cons a _ ih => rw [List.map_cons, List.map_cons, List.map_cons, ih, a.1]
theorem lr_len {H : Hp} {kvs : List (Key × V)} {kp : List (Str × List Int)} (h : LR H kvs kp) : kvs.length = kp.length := Paired.length h
theorem val_none {kvs : List (Key × V)} {ks : List Str} {n : Str} (hk : kvs.map (·.1) = ks.map Sum.inr) (h : n ∉ ks) : valV kvs (Sum.inr n) = none := by
  unfold valV
  rw [List.find?_eq_none.mpr]
  · rfl
  · intro q hq z
    have hm : q.1 ∈ ks.map Sum.inr := by rw [← hk]; exact List.mem_map.mpr ⟨q, hq, rfl⟩
    obtain ⟨m, hm, em⟩ := List.mem_map.mp hm
    have : Sum.inr m = (Sum.inr n : Key) := em.trans (of_decide_eq_true z)
    rw [Sum.inr.inj this] at hm
    exact h hm
theorem ok_rows (F : FnS K "rows" "Rows.rows" sRows f fd) (B : Bl mg) (T : RowT K mg) : FnOk P w K mg base CX0 1 f fd ["self"] (spRows K) := by
  refine okD F scRows (fun vs H Q E h => ?_) (fun cdv A outer s H vs Q E hr h => ?_)
  · obtain ⟨x, e, whole, kp, wd, rfl, _⟩ := h
    rfl
  · obtain ⟨x, e, whole, kp, wd, rfl, ⟨dx, kvs, h1, h2, h3⟩, nd, hl, q⟩ := h
    have hu := hu_of hr
    refine ⟨_, (pss_one (ps_ret (pe_lock (pe_dc (own := [("thing", 1)]) (g := (gName 1)) (tv := tCB (rLstOf K) (tCons (tDGet (tFld K (tVar 0) "kept") (tVar 1)) tNil)) (by rfl) scRows.nd (pi_keys (pe_fld (pv 0) rfl)) (blkOk_by (own := [("thing", 1)]) (N := nRows) (sc := defScope sRows) (by decide +kernel)) (fun _ _ _ _ _ => (pg_name (i := 1) scRows.nd rfl (.inl rfl))) (fun _ _ _ _ _ => pts_nil) (fun _ _ _ _ _ => (pv 1)) (fun _ _ _ _ _ => (pe_callTy call_list_of (by rfl) B.list (by decide +kernel) (pa_cons (pe_dget hu (pe_fld (pv 0) rfl) (pv 1) (fun _ _ => rfl)) pa_nil))))))), ?_⟩
    have xe : x ≠ e := fun z => by rw [z, h2] at h1; cases h1
    refine ⟨e, .dK kvs, h2, trivial, fun od => ?_⟩
    have hL : (upd H e (.frz od (.dK kvs))) e = some (.frz od (.dK kvs)) := upd_same
    have xL : (upd H e (.frz od (.dK kvs))) x = _ := (upd_ne xe).trans h1
    have rL : KR (upd H e (.frz od (.dK kvs))) kvs kp := kr_upd h2 (fun _ z => by cases z) h3
    refine ⟨_, rfl, x, _, _, _, _, rfl, xL, T.cl, T.ke, rfl, e, od, rfl, .inl ⟨kvs, hL, fun D hD => dc_it walk_keys (fun i G => ∃ kvs', Ex (upd H e (.frz od (.dK kvs))) G ∧ G D = some (.dK kvs') ∧ LR G kvs' (kp.take i) ∧ NewL H kvs' ∧ (∀ q ∈ kvs', q.2 ≠ .ref D))
      ⟨[], Ex.new hD, upd_same, .nil, (fun q hq => by cases hq), (fun q hq => by cases hq)⟩ (fun i G _ hP => ?_) (fun i v G G' hi hP hy => ?_) (fun G hP => ?_)⟩⟩
    · obtain ⟨kvs', e7, _⟩ := hP
      exact e7 e _ hL
    · obtain ⟨kvs', e7, D7, r7, n7, m7⟩ := hP
      obtain ⟨rfl, k, v', hk, rfl⟩ := hy
      obtain ⟨q0, hq0, rfl, t0, rfl, ht0⟩ := kr_at (kr_mono e7 rL) hk
      have hq : q0 ∈ kp := List.mem_of_getElem? hq0
      obtain ⟨t1, lk, ht1⟩ : ∃ t1, valV kvs (Sum.inr q0.1) = some (.ref t1) ∧ G' t1 = some (.tup (q0.2.map V.int)) := by
        rcases kr_look (n := q0.1) (kr_mono e7 rL) with ⟨z, _⟩ | ⟨is, t, z, z2, z3⟩
        · rw [lookI_in nd hq] at z; cases z
        · rw [lookI_in nd hq] at z
          have e := Option.some.inj z
          rw [← e] at z3
          exact ⟨t, z2, z3⟩
      refine ⟨rfl, _, rfl, _, rfl, x, _, _, _, _, rfl, e7 x _ xL, T.cl, T.ke, rfl, _, rfl, e, _, rfl, dget_frz (e7 e _ hL) lk, t1, _, rfl, .inr (st_of ht1), fun l hl2 => ?_⟩
      have e8 : Ex G' _ := Ex.new (o := .lst (q0.2.map V.int)) hl2
      have k8 : (upd G' l (.lst (q0.2.map V.int))) l = _ := upd_same
      have lD : l ≠ D := fun z => by rw [z, D7] at hl2; cases hl2
      generalize upd G' l (.lst (q0.2.map V.int)) = G8 at e8 k8
      have D8 := e8 D _ D7
      have len7 := lr_len r7
      rw [List.length_take] at len7
      have fresh : valV kvs' (Sum.inr q0.1) = none := val_none (lr_keys r7) (by
        rw [List.map_take]
        exact not_in_take nd (by rw [List.getElem?_map, hq0]; rfl))
      have lH : H l = none := by
        by_cases z : l = e
        · rw [z, e7 e _ hL] at hl2; cases hl2
        · have := fresh_back e7 hl2
          rw [upd_ne z] at this
          exact this
      refine ⟨kvs', Sum.inr q0.1, rfl, D8, sz_lt (by omega), ?_⟩
      rw [putK_new _ fresh]
      refine ⟨_, Ex.mut (e7.trans e8) hD, upd_same, ?_, fun q hq => ?_, fun q hq => ?_⟩
      · rw [List.take_add_one, hq0]
        refine paired_snoc (Paired.mapP r7 fun p q ⟨a, t, b, c⟩ => ⟨a, t, b, ?_⟩) ⟨rfl, l, rfl, ?_⟩
        · rw [upd_ne fun z => by rw [z, D7] at c; cases c]
          exact e8 _ _ c
        · rw [upd_ne lD]; exact k8
      · rcases List.mem_append.mp hq with h | h
        · exact n7 q h
        · rw [List.mem_singleton.mp h]; exact ⟨l, rfl, lH⟩
      · rcases List.mem_append.mp hq with h | h
        · exact m7 q h
        · rw [List.mem_singleton.mp h]; exact fun z => lD (V.ref.inj z)
    · obtain ⟨kvs', e7, D7, r7, n7, m7⟩ := hP
      rw [kr_len h3, List.take_length] at r7
      have nD : D ≠ e := fun z => by rw [z, hL] at hD; cases hD
      have DH : H D = none := by rw [upd_ne nD] at hD; exact hD
      refine ⟨e7 e _ hL, q D kvs' _ DH (lock_ex h2 e7) (by rw [upd_ne nD]; exact D7) ?_ n7 m7⟩
      refine Paired.mapP r7 fun _ _ ⟨a, t, b, c⟩ => ⟨a, t, b, ?_⟩
      rw [upd_ne fun z => by rw [z, e7 e _ hL] at c; cases c]
      exact c
def spRowM (K : PySem.W.Frag) : Sp := fun vs H Q E => ∃ (x e : Addr) (n : Str) (whole : Bool) (kp : List (Str × List Int)) (wd : Option Nat), vs = [.ref x, .str n] ∧ RowsAt K H x e whole kp wd ∧
  (lookI kp n = none → Out K H E "NoThing" "thing" (.str n)) ∧ ∀ is p, lookI kp n = some is → H p = none → Q (.ref p) (upd H p (.lst (is.map V.int)))
theorem ok_row (F : FnS K "row" "Rows.row" sRow f fd) (B : Bl mg) (T : RowT K mg) (x_NoThing : ExT P w K mg base "NoThing" "thing" (He.ga K "NoThing")) : FnOk P w K mg base (L2.CX P w) 3 f fd ["self", "thing"] (spRowM K) := by
  refine okE F scRow (fun vs H Q E h => ?_) (fun cdv A outer s H vs Q E hr h tk => ?_)
  · obtain ⟨x, e, n, whole, kp, wd, rfl, _⟩ := h
    rfl
  · obtain ⟨x, e, n, whole, kp, wd, rfl, ⟨dx, kvs, h1, h2, h3⟩, q1, q2⟩ := h
    have hu := hu_of hr
    refine ⟨_, (pss_cons (ps_if (pt_cmp (pc_dnotin hu (pv 1) (pe_fld (pv 0) rfl)))
      (pss_one (ps_rx x_NoThing (by rfl) tk (hr.mono (by decide)) (pa_cons (pv 1) pa_nil)))
      pss_nil)
      (pss_one (ps_ret (pe_callTy call_list_of (by rfl) B.list (by decide +kernel) (pa_cons (pe_dget hu (pe_fld (pv 0) rfl) (pv 1) (fun _ _ => rfl)) pa_nil))))), ?_⟩
    rcases kr_look (n := n) h3 with ⟨z, z2⟩ | ⟨is, t, z, z2, z3⟩
    · refine ⟨_, rfl, _, rfl, x, _, _, _, _, rfl, h1, T.cl, T.ke, rfl, e, none, rfl, dget_at h2 z2, _, rfl, iteT ?_⟩
      exact ⟨_, rfl, _, rfl, fun d hd => (q1 z).go (Ex.refl H) hd⟩
    · refine ⟨_, rfl, _, rfl, x, _, _, _, _, rfl, h1, T.cl, T.ke, rfl, e, some (.ref t), rfl, dget_at h2 z2, _, rfl, iteF ?_⟩
      exact ⟨_, rfl, x, _, _, _, _, rfl, h1, T.cl, T.ke, rfl, _, rfl, e, _, rfl, dget_at h2 z2, t, _, rfl, .inr (st_of z3), fun p hp => q2 is p z hp⟩
def spWidth (K : PySem.W.Frag) : Sp := fun vs H Q _ => ∃ (x e : Addr) (whole : Bool) (kp : List (Str × List Int)) (wd : Option Nat), vs = [.ref x] ∧ RowsAt K H x e whole kp wd ∧ Q (.int ((wd.getD 0 : Nat) : Int)) H
theorem ok_width (F : FnS K "width" "Rows.width" sWidth f fd) (B : Bl mg) (T : RowT K mg) : FnOk P w K mg base CX0 1 f fd ["self"] (spWidth K) := by
  refine okD F scWidth (fun vs H Q E h => ?_) (fun cdv A outer s H vs Q E hr h => ?_)
  · obtain ⟨x, e, whole, kp, wd, rfl, _⟩ := h
    rfl
  · obtain ⟨x, e, whole, kp, wd, rfl, ⟨dx, kvs, h1, h2, h3⟩, q⟩ := h
    refine ⟨_, (pss_one (ps_ret (pe_ifExp (pt_cmpR op_isN (pe_fld (pv 0) rfl) pe_non (nomark _)) pe_int (pe_fld (pv 0) rfl)))), ?_⟩
    cases wd with
    | none => exact ⟨_, rfl, x, _, _, _, _, rfl, h1, T.cl, T.lo, rfl, rfl, _, rfl, iteT q⟩
    | some n => exact ⟨_, rfl, x, _, _, _, _, rfl, h1, T.cl, T.lo, rfl, rfl, _, rfl, iteF ⟨_, rfl, x, _, _, _, _, rfl, h1, T.cl, T.lo, rfl, q⟩⟩
def spOver (K : PySem.W.Frag) : Sp := fun vs H Q _ => ∃ (x e : Addr) (whole : Bool) (kp : List (Str × List Int)) (wd : Option Nat), vs = [.ref x] ∧ RowsAt K H x e whole kp wd ∧ Q (.str (ovS whole)) H
theorem ok_over (F : FnS K "over" "Rows.over" sOver f fd) (B : Bl mg) (T : RowT K mg) : FnOk P w K mg base CX0 1 f fd ["self"] (spOver K) := by
  refine okD F scOver (fun vs H Q E h => ?_) (fun cdv A outer s H vs Q E hr h => ?_)
  · obtain ⟨x, e, whole, kp, wd, rfl, _⟩ := h
    rfl
  · obtain ⟨x, e, whole, kp, wd, rfl, ⟨dx, kvs, h1, h2, h3⟩, q⟩ := h
    refine ⟨_, (pss_one (ps_ret (pe_fld (pv 0) rfl))), ?_⟩
    exact ⟨_, rfl, x, _, _, _, _, rfl, h1, T.cl, T.fi, rfl, q⟩
/-! ### == -/
abbrev intsD (is : List Int) : List PyData := is.map .int
theorem dp_ints {H : Hp} : ∀ is : List Int, DpAll K H (is.map V.int) (intsD is)
  | [] => .nil
  | x :: r => .cons (.int x) (dp_ints r)
theorem canLay_ints : ∀ is : List Int, PyData.canLayAll0 (intsD is) = true
  | [] => rfl
  | _ :: r => canLay_ints r
theorem depth_ints : ∀ is : List Int, PyData.depthAll (intsD is) = 0
  | [] => rfl
  | x :: r => by
    show max 0 (PyData.depthAll (intsD r)) = 0
    rw [depth_ints r]
    rfl
theorem shaped_it (is : List Int) : SeqAt.shaped (.tuple (intsD is)) = true := by
  show (PyData.canLayAll0 (intsD is) && decide (PyData.depthAll (intsD is) + 1 ≤ 64)) = true
  rw [canLay_ints, depth_ints]
  rfl
theorem shaped_il (is : List Int) : SeqAt.shaped (.list (intsD is)) = true := by
  show (PyData.canLayAll0 (intsD is) && decide (PyData.depthAll (intsD is) + 1 ≤ 64)) = true
  rw [canLay_ints, depth_ints]
  rfl
theorem eqv_ints : ∀ xs ys : List Int, PyData.eqvAll (intsD xs) (intsD ys) = decide (xs = ys)
  | [], [] => rfl
  | [], _ :: _ => rfl
  | _ :: _, [] => rfl
  | x :: xs, y :: ys => by
    show ((x == y) && PyData.eqvAll (intsD xs) (intsD ys)) = _
    rw [eqv_ints xs ys]
    by_cases h : x = y
    · subst h
      by_cases h2 : xs = ys
      · subst h2; simp
      · simp [h2]
    · simp [h]
abbrev kpD (g : List PyData → PyData) (kp : List (Str × List Int)) : List (Key × PyData) := kp.map fun q => (Sum.inr q.1, g (intsD q.2))
theorem kr_data {H : Hp} {kvs : List (Key × V)} {kp : List (Str × List Int)} (h : KR H kvs kp) : KvD K H kvs (kpD .tuple kp) := by
  unfold KR at h
  unfold KvD
  induction h with
  | nil => exact .nil
  | @cons p q ps qs a t ih =>
    obtain ⟨a1, t', a2, a3⟩ := a
    refine .cons ⟨a1, ?_, shaped_it _⟩ ih
    rw [a2]
    exact .tup (st_of a3) (dp_ints q.2)
theorem lr_data {H : Hp} {kvs : List (Key × V)} {kp : List (Str × List Int)} (h : LR H kvs kp) : KvD K H kvs (kpD .list kp) := by
  unfold LR at h
  unfold KvD
  induction h with
  | nil => exact .nil
  | @cons p q ps qs a t ih =>
    obtain ⟨a1, t', a2, a3⟩ := a
    refine .cons ⟨a1, ?_, shaped_il _⟩ ih
    rw [a2]
    exact .lst (sq_of a3) (dp_ints q.2)
def eqR (whole whole' : Bool) (kp kp' : List (Str × List Int)) : Bool := decide (whole = whole') && dictEq (kpD .tuple kp) (kpD .tuple kp')
def spEqR (K : PySem.W.Frag) : Sp := fun vs H Q _ => ∃ (x e : Addr) (y : V) (whole : Bool) (kp : List (Str × List Int)) (wd : Option Nat), vs = [.ref x, y] ∧ RowsAt K H x e whole kp wd ∧
  ((∃ (z e' : Addr) (whole' : Bool) (kp' : List (Str × List Int)) (wd' : Option Nat), y = .ref z ∧ RowsAt K H z e' whole' kp' wd' ∧ Q (.bl (eqR whole whole' kp kp')) H) ∨
   (∃ t, TyX K H y t ∧ PySem.W.kitOne K t (.ref (He.ga K "Rows")) = some false ∧ Q (.bl false) H))
theorem ok_eq (F : FnS K "__eq__" "Rows.__eq__" sEq f fd) (B : Bl mg) (T : RowT K mg) : FnOk P w K mg base CX0 1 f fd ["self", "other"] (spEqR K) := by
  refine okD F scEq (fun vs H Q E h => ?_) (fun cdv A outer s H vs Q E hr h => ?_)
  · obtain ⟨x, e, y, whole, kp, wd, rfl, _⟩ := h
    rfl
  · obtain ⟨x, e, y, whole, kp, wd, rfl, ⟨dx, kvs, h1, h2, h3⟩, h⟩ := h
    have g_Rows := T.g
    have huD := hu65 hr
    refine ⟨_, (pss_one (ps_ret (pe_and (pe_callB call_isi (by rfl) B.isinstance (by decide +kernel) (pa_cons (pv 1) (pa_cons (pe_glob (v := .ref (He.ga K "Rows")) (by rfl) g_Rows rfl) pa_nil))) (pe_and (pe_cmpR op_eq (pe_fld (pv 0) rfl) (pe_fld (pv 1) rfl) (nomark _)) (pe_one (pe_cmpR (op_eqDD huD) (pe_fld (pv 0) rfl) (pe_fld (pv 1) rfl) (nomark _))))))), ?_⟩
    rcases h with ⟨z, e', whole', kp', wd', rfl, ⟨dz, kvs', g1, g2, g3⟩, q⟩ | ⟨t, ty, kt, q⟩
    · refine ⟨_, rfl, _, _, _, _, _, rfl, .own _, .base (.ins g1 T.ins.cl T.ins.ha T.ins.hn T.ins.htk T.ins.hm), T.ins.me, _, rfl, iteT ?_⟩
      refine ⟨_, rfl, x, _, _, _, _, rfl, h1, T.cl, T.fi, rfl, _, rfl, z, _, _, _, _, rfl, g1, T.cl, T.fi, rfl, rfl, _, rfl, ?_⟩
      have ew : decide (V.str (ovS whole) = V.str (ovS whole')) = decide (whole = whole') := by
        cases whole <;> cases whole' <;> decide +kernel
      rw [ew]
      refine iteB (fun c => ?_) (fun c => ?_)
      · refine ⟨_, rfl, x, _, _, _, _, rfl, h1, T.cl, T.ke, rfl, _, rfl, z, _, _, _, _, rfl, g1, T.cl, T.ke, rfl, e, e', kvs, kvs', _, _, rfl, rfl, .inl h2, .inl g2, kr_data h3, kr_data g3, ?_⟩
        unfold eqR at q
        rw [c, Bool.true_and] at q
        exact q
      · unfold eqR at q
        rw [c, Bool.false_and] at q
        exact q
    · exact ⟨_, rfl, _, _, _, _, _, rfl, .own _, ty, kt, _, rfl, iteF q⟩
end
end L43
namespace L43
open PySem PySem.Spec PyProof.Rows L2 Evl Bf
section
variable {P : Program} {w : World} {K : PySem.W.Frag} {mg : Str → Option Value} {base : Heap} {f : Addr} {fd : FuncData}
theorem via0 {p C : Prop} (h1 : C → p) (h2 : C) : p := h1 h2
/-! ### the well -/
abbrev wst (s : Addr) (n i j k l : Int) : List V := [.ref s, .int n, .int i, .int j, .int k, .int l]
def Well (s : Addr) (xs : List V) : Prop := ∃ n i j k l : Int, xs = wst s n i j k l ∧ 0 ≤ n
def spState0 (K : PySem.W.Frag) : Sp := fun vs H Q _ => ∃ (p : Addr) (ns : List Int), vs = [.ref p] ∧ SqL K H p (ns.map V.int) ∧ ∀ a s, H s = none → (upd H s (.lst (ns.map V.int))) a = none → Q (.ref a) (upd (upd H s (.lst (ns.map V.int))) a (.lst (wst s 0 0 0 0 0)))
theorem ok_state0 (F : FnS K "_law_state" "_law_state" sState f fd) (B : Bl mg) : FnOk P w K mg base CX0 1 f fd ["_law_script"] (spState0 K) := by
  refine okD F scState (fun vs H Q E h => ?_) (fun cdv A outer s H vs Q E hr h => ?_)
  · obtain ⟨p, ns, rfl, _⟩ := h
    rfl
  · obtain ⟨p, ns, rfl, hp, q⟩ := h
    refine ⟨_, (pss_one (ps_ret (pe_lst (pa_cons (pe_callTy call_list_of (by rfl) B.list (by decide +kernel) (pa_cons (pv 0) pa_nil)) (pa_cons pe_int (pa_cons pe_int (pa_cons pe_int (pa_cons pe_int (pa_cons pe_int pa_nil))))))))), ?_⟩
    exact ⟨_, rfl, p, _, rfl, .inl hp, fun s hs => ⟨by show 6 ≤ sizeLine; decide, fun a ha => q a s hs ha⟩⟩
def spDraw0 : Sp := fun vs H Q _ => ∃ (a s : Addr) (ns : List Int) (n i j k l m : Int), vs = [.ref a, .int m] ∧ H a = some (.lst (wst s n i j k l)) ∧ 0 ≤ n ∧ H s = some (.lst (ns.map V.int)) ∧ 0 < m ∧ m < 1073741824 ∧
  ∀ d n' i' j' k' l' : Int, 0 ≤ d → d < m → 0 ≤ n' → Q (.int d) (upd H a (.lst (wst s n' i' j' k' l')))
theorem ok_draw0 (F : FnS K "_law_draw" "_law_draw" sDraw f fd) (B : Bl mg) : FnOk P w K mg base CX0 1 f fd ["_law_state_here", "_law_many"] spDraw0 := by
  refine okD F scDraw (fun vs H Q E h => ?_) (fun cdv A outer s H vs Q E hr h => ?_)
  · obtain ⟨a, s, ns, n, i, j, k, l, m, rfl, _⟩ := h
    rfl
  · obtain ⟨a, s, ns, n, i, j, k, l, m, rfl, ha, n0, hs, m0, m1, q⟩ := h
    refine ⟨_, (pss_cons (ps_if (PW.pt (pw_and (pt_cmpR op_gt (pe_ix ix_list (pv 0) pe_int (fun _ _ => rfl)) pe_int (nomark _)) (pw_and1 (pt_cmpR op_lt (pe_ix ix_list (pv 0) pe_int (fun _ _ => rfl)) pe_int (nomark _)))))
      (pss_cons (ps_set (i := 2) scDraw.nd rfl (.inl rfl) (pe_op op_modN (pe_callTy call_int1 (by rfl) B.int (by decide +kernel) (pa_cons (pe_ix ix_list (pv 0) pe_int (fun _ _ => rfl)) pa_nil)) (pv 1)))
      (pss_cons (ps_asg (pe_op op_fdivN (pe_ix ix_list (pv 0) pe_int (fun _ _ => rfl)) (pv 1)) (pg_sub (pv 0) pe_int set_list))
      (pss_cons (ps_asg (pe_op op_add (pe_ix ix_list (pv 0) pe_int (fun _ _ => rfl)) pe_int) (pg_sub (pv 0) pe_int set_list))
      (pss_one (ps_ret (pv 2))))))
      pss_nil)
      (pss_cons (ps_asg (pe_op op_add (pe_ix ix_list (pv 0) pe_int (fun _ _ => rfl)) pe_int) (pg_sub (pv 0) pe_int set_list))
      (pss_cons (ps_if (pt_cmpR op_lt (pe_ix ix_list (pv 0) pe_int (fun _ _ => rfl)) (pe_callB call_len_seq (by rfl) B.len (by decide +kernel) (pa_cons (pe_ix ix_list (pv 0) pe_int (fun _ _ => rfl)) pa_nil)) (nomark _))
      (pss_cons (ps_set (i := 3) scDraw.nd rfl (.inl rfl) (pe_ix ix_list (pe_ix ix_list (pv 0) pe_int (fun _ _ => rfl)) (pe_ix ix_list (pv 0) pe_int (fun _ _ => rfl)) (fun _ _ => rfl)))
      (pss_cons (ps_asg (pe_op op_add (pe_ix ix_list (pv 0) pe_int (fun _ _ => rfl)) pe_int) (pg_sub (pv 0) pe_int set_list))
      (pss_cons (ps_asg (pe_op op_modN (pe_op op_add (pe_op op_mul (pe_ix ix_list (pv 0) pe_int (fun _ _ => rfl)) pe_int) (pe_callTy call_int1 (by rfl) B.int (by decide +kernel) (pa_cons (pv 3) pa_nil))) (pe_op op_pow pe_int pe_int)) (pg_sub (pv 0) pe_int set_list))
      (pss_one (ps_if (pt_cmpR op_ge (pv 3) (pe_op op_pow pe_int pe_int) (nomark _))
      (pss_cons (ps_asg (pe_op op_fdivN (pv 3) (pv 1)) (pg_sub (pv 0) pe_int set_list))
      (pss_cons (ps_asg pe_int (pg_sub (pv 0) pe_int set_list))
      (pss_one (ps_ret (pe_op op_modN (pe_callTy call_int1 (by rfl) B.int (by decide +kernel) (pa_cons (pv 3) pa_nil)) (pv 1))))))
      pss_nil)))))
      pss_nil)
      (pss_cons (ps_set (i := 4) scDraw.nd rfl (.inl rfl) (pe_op op_modN (pe_op op_mul (pe_op op_add (pe_op op_add (pe_op op_mul (pe_callTy call_int1 (by rfl) B.int (by decide +kernel) (pa_cons (pe_ix ix_list (pv 0) pe_int (fun _ _ => rfl)) pa_nil)) pe_int) (pe_op op_mul pe_int (pe_ix ix_list (pv 0) pe_int (fun _ _ => rfl)))) pe_int) pe_int) pe_int))
      (pss_cons (ps_set (i := 4) scDraw.nd rfl (.inl rfl) (pe_op op_modN (pe_op op_mul (pv 4) (pe_op op_add (pe_op op_fdivN (pv 4) pe_int) pe_int)) pe_int))
      (pss_cons (ps_set (i := 4) scDraw.nd rfl (.inl rfl) (pe_op op_modN (pe_op op_mul (pv 4) (pe_op op_add (pe_op op_fdivN (pv 4) pe_int) pe_int)) pe_int))
      (pss_one (ps_ret (pe_op op_modN (pe_callTy call_int1 (by rfl) B.int (by decide +kernel) (pa_cons (pv 4) pa_nil)) (pv 1)))))))))), ?_⟩
    have L0 : SqL K H a (wst s n i j k l) := sq_of ha
    have sa : s ≠ a := fun z => by rw [z, ha] at hs; have := Option.some.inj hs; injection this with h1; cases ns <;> cases h1
    apply via0
    · intro key
      refine ⟨_, rfl, a, _, 2, _, rfl, rfl, L0, rfl, _, _, rfl, rfl, _, rfl, iteB (fun c1 => ?_) (fun c1 => ?_)⟩
      · refine ⟨_, rfl, a, _, 3, _, rfl, rfl, L0, rfl, _, _, rfl, rfl, _, rfl, iteB (fun c2 => ?_) (fun c2 => key)⟩
        refine ⟨_, rfl, a, _, 2, _, rfl, rfl, L0, rfl, .inl ⟨_, rfl, _, rfl, _, _, rfl, rfl, (by omega : m ≠ 0), ?_⟩⟩
        refine ⟨_, rfl, a, _, 2, _, rfl, rfl, L0, rfl, _, rfl, _, _, rfl, rfl, ⟨by omega, by omega⟩, _, rfl, a, _, 2, 2, rfl, rfl, ha, rfl, ?_⟩
        have L1 : SqL K (upd H a (.lst (wst s n (i.fdiv m) j k l))) a (wst s n (i.fdiv m) j k l) := sq_of upd_same
        refine ⟨_, rfl, a, _, 3, _, rfl, rfl, L1, rfl, _, _, rfl, rfl, _, rfl, a, _, 3, 3, rfl, rfl, upd_same, rfl, _, rfl, ?_⟩
        have := q _ _ (i.fdiv m) (j + 1) k l (Int.fmod_nonneg_of_pos i m0) (Int.fmod_lt_of_pos i m0) n0
        rw [← upd_upd (o := .lst (wst s n (i.fdiv m) j k l))] at this
        exact this
      · exact key
    · refine ⟨_, rfl, a, _, 4, _, rfl, rfl, L0, rfl, _, _, rfl, rfl, _, rfl, a, _, 4, 4, rfl, rfl, ha, rfl, ?_⟩
      have h1 : (upd H a (.lst (wst s n i j (k + 1) l))) a = some (.lst (wst s n i j (k + 1) l)) := upd_same
      have s1 : (upd H a (.lst (wst s n i j (k + 1) l))) s = some (.lst (ns.map V.int)) := by rw [upd_ne sa]; exact hs
      have q1 : ∀ d n' i' j' k' l' : Int, 0 ≤ d → d < m → 0 ≤ n' → Q (.int d) (upd (upd H a (.lst (wst s n i j (k + 1) l))) a (.lst (wst s n' i' j' k' l'))) := fun d n' i' j' k' l' a1 a2 a3 => by
        rw [upd_upd]
        exact q d n' i' j' k' l' a1 a2 a3
      have L1 : SqL K (upd H a (.lst (wst s n i j (k + 1) l))) a (wst s n i j (k + 1) l) := sq_of upd_same
      have b1 : ∀ x : Int, 0 ≤ x.fmod 2147483647 ∧ x.fmod 2147483647 < 2147483647 := fun x => ⟨Int.fmod_nonneg_of_pos _ (by decide), Int.fmod_lt_of_pos _ (by decide)⟩
      refine ⟨_, rfl, a, _, 1, _, rfl, rfl, L1, rfl, _, rfl, a, _, 0, _, rfl, rfl, L1, rfl, s, _, rfl, .inl (sq_of s1), _, _, rfl, rfl, _, rfl, iteB (fun c3 => ?_) (fun c3 => ?_)⟩
      · obtain ⟨x, rfl⟩ := Int.eq_ofNat_of_zero_le n0
        have hx : x < ns.length := by
          have := of_decide_eq_true c3
          rw [List.length_map] at this
          omega
        have gx : (ns.map V.int)[x]? = some (.int ns[x]) := by rw [List.getElem?_map, List.getElem?_eq_getElem hx]; rfl
        refine ⟨_, rfl, a, _, 0, _, rfl, rfl, L1, rfl, _, rfl, a, _, 1, _, rfl, rfl, L1, rfl, s, _, _, _, rfl, rfl, sq_of s1, atI_nat gx, ?_⟩
        generalize ns[x] = cell
        refine ⟨_, rfl, a, _, 1, _, rfl, rfl, L1, rfl, _, _, rfl, rfl, _, rfl, a, _, 1, 1, rfl, rfl, upd_same, rfl, ?_⟩
        rw [upd_upd]
        have L2 : SqL K (upd H a (.lst (wst s ((x : Int) + 1) i j (k + 1) l))) a (wst s ((x : Int) + 1) i j (k + 1) l) := sq_of upd_same
        refine ⟨_, rfl, a, _, 5, _, rfl, rfl, L2, rfl, _, _, rfl, rfl, .inr (by decide), _, rfl, .inl ⟨_, rfl, _, _, rfl, rfl, 10, 18, rfl, rfl, ⟨by decide, by decide, by decide⟩, _, _, rfl, rfl, (by decide : (10 : Int) ^ (18 : Int).toNat ≠ 0), ?_⟩⟩
        refine ⟨_, rfl, a, _, 5, 5, rfl, rfl, upd_same, rfl, ?_⟩
        rw [upd_upd]
        have L3 : SqL K (upd H a (.lst (wst s ((x : Int) + 1) i j (k + 1) ((l * 31 + cell).fmod ((10 : Int) ^ (18 : Int).toNat))))) a (wst s ((x : Int) + 1) i j (k + 1) ((l * 31 + cell).fmod ((10 : Int) ^ (18 : Int).toNat))) := sq_of upd_same
        refine ⟨_, rfl, 10, 18, rfl, rfl, ⟨by decide, by decide, by decide⟩, _, _, rfl, rfl, _, rfl, iteB (fun c4 => ?_) (fun c4 => ?_)⟩
        · refine ⟨_, rfl, _, rfl, _, _, rfl, rfl, ⟨by omega, by omega⟩, _, rfl, a, _, 2, 2, rfl, rfl, upd_same, rfl, ?_⟩
          rw [upd_upd]
          refine ⟨_, rfl, a, _, 3, 3, rfl, rfl, upd_same, rfl, ?_⟩
          rw [upd_upd]
          exact ⟨_, rfl, .inl ⟨_, rfl, _, rfl, _, _, rfl, rfl, (by omega : m ≠ 0), q _ _ _ _ _ _ (Int.fmod_nonneg_of_pos _ m0) (Int.fmod_lt_of_pos _ m0) (by omega)⟩⟩
        · refine ⟨_, rfl, a, _, 5, _, rfl, rfl, L3, rfl, .inl ⟨_, rfl, _, _, rfl, rfl, .inr (by decide), _, rfl, a, _, 4, _, rfl, rfl, L3, rfl, _, _, rfl, rfl, .inl (by decide), _, _, rfl, rfl, _, _, rfl, rfl, _, _, rfl, rfl, .inr (by decide), _, _, rfl, rfl, (by decide : (2147483647 : Int) ≠ 0), ?_⟩⟩
          refine ⟨_, rfl, _, rfl, _, _, rfl, rfl, ⟨by decide, by decide⟩, _, _, rfl, rfl, _, _, rfl, rfl, .inl ?_, _, _, rfl, rfl, (by decide : (2147483647 : Int) ≠ 0), ?_⟩
          · have := b1 ((((l * 31 + cell).fmod ((10 : Int) ^ (18 : Int).toNat)) * 1000003 + 7919 * (k + 1) + 1) * 48271)
            constructor <;> omega
          refine ⟨_, rfl, _, rfl, _, _, rfl, rfl, ⟨by decide, by decide⟩, _, _, rfl, rfl, _, _, rfl, rfl, .inl ?_, _, _, rfl, rfl, (by decide : (2147483399 : Int) ≠ 0), ?_⟩
          · have := b1 (((((l * 31 + cell).fmod ((10 : Int) ^ (18 : Int).toNat)) * 1000003 + 7919 * (k + 1) + 1) * 48271).fmod 2147483647 * ((((((l * 31 + cell).fmod ((10 : Int) ^ (18 : Int).toNat)) * 1000003 + 7919 * (k + 1) + 1) * 48271).fmod 2147483647).fdiv 1009 + 69621))
            constructor <;> omega
          exact ⟨_, rfl, .inl ⟨_, rfl, _, rfl, _, _, rfl, rfl, (by omega : m ≠ 0), q _ _ _ _ _ _ (Int.fmod_nonneg_of_pos _ m0) (Int.fmod_lt_of_pos _ m0) (by omega)⟩⟩
      · refine ⟨_, rfl, a, _, 5, _, rfl, rfl, L1, rfl, .inl ⟨_, rfl, _, _, rfl, rfl, .inr (by decide), _, rfl, a, _, 4, _, rfl, rfl, L1, rfl, _, _, rfl, rfl, .inl (by decide), _, _, rfl, rfl, _, _, rfl, rfl, _, _, rfl, rfl, .inr (by decide), _, _, rfl, rfl, (by decide : (2147483647 : Int) ≠ 0), ?_⟩⟩
        refine ⟨_, rfl, _, rfl, _, _, rfl, rfl, ⟨by decide, by decide⟩, _, _, rfl, rfl, _, _, rfl, rfl, .inl ?_, _, _, rfl, rfl, (by decide : (2147483647 : Int) ≠ 0), ?_⟩
        · have := b1 ((l * 1000003 + 7919 * (k + 1) + 1) * 48271)
          constructor <;> omega
        refine ⟨_, rfl, _, rfl, _, _, rfl, rfl, ⟨by decide, by decide⟩, _, _, rfl, rfl, _, _, rfl, rfl, .inl ?_, _, _, rfl, rfl, (by decide : (2147483399 : Int) ≠ 0), ?_⟩
        · have := b1 (((l * 1000003 + 7919 * (k + 1) + 1) * 48271).fmod 2147483647 * ((((l * 1000003 + 7919 * (k + 1) + 1) * 48271).fmod 2147483647).fdiv 1009 + 69621))
          constructor <;> omega
        exact ⟨_, rfl, .inl ⟨_, rfl, _, rfl, _, _, rfl, rfl, (by omega : m ≠ 0), q _ _ _ _ _ _ (Int.fmod_nonneg_of_pos _ m0) (Int.fmod_lt_of_pos _ m0) n0⟩⟩
end
end L43
namespace L43
open PySem PySem.Spec PyProof.Rows L2 Evl Bf
theorem viaT {p : Prop} {C R : Str → Prop} (h1 : (∀ z, R z → C z) → p) (h2 : ∀ z, R z → C z) : p := h1 h2
/-! ### names, plainly -/
def low : List Nat := ("abcdefghijklm" : Str).cps.toList
def hi9 : List Nat := ("qrstuvwxy" : Str).cps.toList
def HeadOk (i : Nat) (z : Str) : Prop := ∃ h t, z.cps.toList = h :: t ∧ (h ∈ low ∨ ∃ j, j < i ∧ hi9[j]? = some h)
theorem isNm_of {z : Str} (h1 : 1 ≤ z.cps.toList.length) (h8 : z.cps.toList.length ≤ 8) (ha : ∀ c ∈ z.cps.toList, c ∈ abc.cps.toList) : isNm z = true := by
  unfold isNm
  rw [len_toList] at h1 h8
  rw [decide_eq_true h1, decide_eq_true h8]
  exact List.all_eq_true.mpr fun c hc => decide_eq_true (ha c hc)
theorem app_list (a b : Str) : (a ++ b).cps.toList = a.cps.toList ++ b.cps.toList := Array.toList_append
theorem cut6 (z : Str) : (cutS z none (some 6)).cps.toList = z.cps.toList.take 6 := by
  unfold cutS
  show ((z.cps.toList.drop (HT.sIx z.length 0 none)).take (HT.sIx z.length z.length (some ((6 : Nat) : Int)) - HT.sIx z.length 0 none)) = z.cps.toList.take 6
  rw [HT.sIx_none, HT.sIx_nat, List.drop_zero, Nat.sub_zero, List.take_eq_take_iff, len_toList]
  omega
theorem low_abc : ∀ c ∈ low, c ∈ abc.cps.toList := by decide +kernel
theorem hi_abc : ∀ c ∈ hi9, c ∈ abc.cps.toList := by decide +kernel
theorem nopz_abc : ∀ c ∈ ("nopz" : Str).cps.toList, c ∈ abc.cps.toList := by decide +kernel
theorem hi_low : ∀ c ∈ hi9, c ∉ low := by decide +kernel
theorem hi_nodup : hi9.Nodup := by decide +kernel
theorem hi_len : hi9.length = 9 := by decide +kernel
structure Nm1 (i : Nat) (z : Str) : Prop where
  nm : isNm z = true
  hd : HeadOk i z
theorem nm1_mono {i j : Nat} {z : Str} (h : i ≤ j) (n : Nm1 i z) : Nm1 j z := by
  obtain ⟨a, b, t, e, c⟩ := n
  refine ⟨a, b, t, e, ?_⟩
  rcases c with c | ⟨k, hk, c⟩
  · exact .inl c
  · exact .inr ⟨k, by omega, c⟩
theorem nm_one {c : Nat} (hc : c ∈ low) : Nm1 0 (sign c) :=
  ⟨isNm_of (by show 1 ≤ 1; decide) (by show 1 ≤ 8; decide) (fun d hd => by rw [List.mem_singleton.mp (show d ∈ [c] from hd)]; exact low_abc c hc), c, [], rfl, .inl hc⟩
theorem nm_more {c d : Nat} {n : Nat} (hc : c ∈ low) (hd : d ∈ ("nopz" : Str).cps.toList) (hn : n ≤ 7) : Nm1 0 (sign c ++ repS (sign d) n) := by
  have e : (sign c ++ repS (sign d) n).cps.toList = c :: List.replicate n d := by
    rw [app_list, rep_list]
    show [c] ++ (List.replicate n [d]).flatten = _
    rw [List.flatten_replicate_singleton]
    rfl
  refine ⟨isNm_of ?_ ?_ fun x hx => ?_, c, _, e, .inl hc⟩
  · rw [e, List.length_cons]; omega
  · rw [e, List.length_cons, List.length_replicate]; omega
  · rw [e] at hx
    rcases List.mem_cons.mp hx with rfl | hx
    · exact low_abc _ hc
    · rw [List.eq_of_mem_replicate hx]; exact nopz_abc d hd
theorem nm_moved {z : Str} {i h : Nat} (n : isNm z = true) (hh : hi9[i]? = some h) : Nm1 (i + 1) (sign h ++ cutS z none (some 6)) ∧ ∀ y, Nm1 i y → y ≠ sign h ++ cutS z none (some 6) := by
  have e : (sign h ++ cutS z none (some 6)).cps.toList = h :: z.cps.toList.take 6 := by
    rw [app_list, cut6]
    rfl
  have hm := List.mem_of_getElem? hh
  refine ⟨⟨isNm_of ?_ ?_ fun x hx => ?_, h, _, e, .inr ⟨i, Nat.lt_succ_self i, hh⟩⟩, fun y hy z' => ?_⟩
  · rw [e, List.length_cons]; omega
  · rw [e, List.length_cons, List.length_take]; omega
  · rw [e] at hx
    rcases List.mem_cons.mp hx with rfl | hx
    · exact hi_abc _ hm
    · have := List.all_eq_true.mp (Bool.and_eq_true_iff.mp (Bool.and_eq_true_iff.mp n).2).2 x (List.mem_of_mem_take hx)
      exact of_decide_eq_true this
  · obtain ⟨g, t, e2, c⟩ := hy.hd
    rw [z', e] at e2
    have eh : h = g := (List.cons.inj e2).1
    subst eh
    rcases c with c | ⟨j, hj, c⟩
    · exact hi_low _ hm c
    · have := (List.getElem?_inj (by have := (List.getElem?_eq_some_iff.mp c).1; exact this) hi_nodup).mp (c.trans hh.symm)
      omega
section
variable {P : Program} {w : World} {K : PySem.W.Frag} {mg : Str → Option Value} {base : Heap} {f : Addr} {fd : FuncData}
def WellAt (H : Hp) (a : Addr) : Prop := ∃ (s : Addr) (ns : List Int), H a = some (absL a (Well s)) ∧ H s = some (.lst (ns.map V.int))
theorem wellAt_mono {H G : Hp} {a : Addr} (e : Ex H G) (h : WellAt H a) : WellAt G a := by
  obtain ⟨s, ns, h1, h2⟩ := h
  exact ⟨s, ns, e _ _ h1, e _ _ h2⟩
theorem absL_lst {a : Addr} {R : List V → Prop} {xs : List V} : absL a R ≠ .lst xs := fun z => by
  have z' : HO.ext _ = HO.lst xs := z
  cases z'
def spDraw : Sp := fun vs H Q _ => ∃ (a : Addr) (m : Int), vs = [.ref a, .int m] ∧ WellAt H a ∧ 0 < m ∧ m < 1073741824 ∧ ∀ d : Int, 0 ≤ d → d < m → Q (.int d) H
theorem ok_draw (F : FnOk P w K mg base CX0 1 f fd ["_law_state_here", "_law_many"] spDraw0) : FnOk P w K mg base CX0 1 f fd ["_law_state_here", "_law_many"] spDraw := by
  refine abs_fn (fun vs H Q E h => ?_) (fun vs H Q E h => ?_) F
  · obtain ⟨a, m, rfl, _⟩ := h
    rfl
  · obtain ⟨a, m, rfl, ⟨s, ns, h1, h2⟩, m0, m1, q⟩ := h
    refine ⟨a, Well s, h1, fun xs hx => ?_⟩
    obtain ⟨n, i, j, k, l, rfl, n0⟩ := hx
    have sa : s ≠ a := fun z => by rw [z, h1] at h2; exact absL_lst (Option.some.inj h2)
    exact ⟨a, s, ns, n, i, j, k, l, m, rfl, upd_same, n0, by rw [upd_ne sa]; exact h2, m0, m1, fun d n' i' j' k' l' d0 d1 n0' => ⟨_, ⟨n', i', j', k', l', rfl, n0'⟩, upd_upd, q d d0 d1⟩⟩
def spState (K : PySem.W.Frag) : Sp := fun vs H Q _ => ∃ (p : Addr) (ns : List Int), vs = [.ref p] ∧ SqL K H p (ns.map V.int) ∧ ∀ a G, H a = none → Ex H G → WellAt G a → Q (.ref a) G
theorem ok_state (F : FnOk P w K mg base CX0 1 f fd ["_law_script"] (spState0 K)) : FnOk P w K mg base CX0 1 f fd ["_law_script"] (spState K) := by
  have F2 := abs_new (fun vs H Q E h => by obtain ⟨p, ns, rfl, _⟩ := h; rfl) F
  refine F2.imp fun vs H Q E h => ?_
  obtain ⟨p, ns, rfl, hp, q⟩ := h
  refine ⟨p, ns, rfl, hp, fun a s hs ha => ⟨a, Well s, _, _, ⟨0, 0, 0, 0, 0, rfl, Int.le_refl 0⟩, ha, Ex.new hs, rfl, rfl, ?_⟩⟩
  have sa : s ≠ a := fun z => by rw [z, upd_same] at ha; cases ha
  refine q a _ (fresh_back (Ex.new hs) ha) ((Ex.new hs).trans (Ex.new ha)) ⟨s, ns, upd_same, ?_⟩
  rw [upd_ne sa, upd_same]
def spNames : Sp := fun vs H Q _ => ∃ (a : Addr) (m : Nat), vs = [.ref a, .int m] ∧ WellAt H a ∧ m ≤ 9 ∧
  ∀ xs p G, xs.length = m → xs.Nodup → (∀ x ∈ xs, Nm1 9 x) → srt xs = xs → H p = none → Ex H G → G p = some (.lst (xs.map V.str)) → Q (.ref p) G
theorem srt_srt (l : List Str) : srt (srt l) = srt l := srt_congr (srt_perm l)
theorem ok_names (F : FnS K "_law_names" "_law_names" sNames f fd) (B : Bl mg) (c__law_draw : Cal P w K mg base CX0 1 "_law_draw" ["_law_state_here", "_law_many"] spDraw) :
    FnOk P w K mg base CX0 2 f fd ["_law_state_here", "_law_many"] spNames := by
  refine okD F scNames (fun vs H Q E h => ?_) (fun cdv A outer s H vs Q E hr h => ?_)
  · obtain ⟨a, m, rfl, _⟩ := h
    rfl
  · obtain ⟨a, m, rfl, hw, hm, q⟩ := h
    refine ⟨_, (pss_cons (ps_set (i := 2) scNames.nd rfl (.inl rfl) (pe_lst pa_nil))
      (pss_cons (ps_for PassesOwn.never (by rfl) (pi_range1 (by rfl) B.range (pa_cons (pv 1) pa_nil)) (pg_name (i := 3) scNames.nd rfl (.inl rfl))
      (pss_cons (ps_set (i := 4) scNames.nd rfl (.inl rfl) (pe_ix ix_str pe_str (pe_cal c__law_draw (hr.mono (by decide)) pass0 (pa_cons (pv 0) (pa_cons pe_int pa_nil))) (fun _ _ => rfl)))
      (pss_cons (ps_if (pt_cmpR op_eq (pe_cal c__law_draw (hr.mono (by decide)) pass0 (pa_cons (pv 0) (pa_cons pe_int pa_nil))) pe_int (nomark _))
      (pss_one (ps_set (i := 4) scNames.nd rfl (.inl rfl) (pe_op op_add_str (pv 4) (pe_op op_mulS (pe_ix ix_str pe_str (pe_cal c__law_draw (hr.mono (by decide)) pass0 (pa_cons (pv 0) (pa_cons pe_int pa_nil))) (fun _ _ => rfl)) (pe_op op_add pe_int (pe_cal c__law_draw (hr.mono (by decide)) pass0 (pa_cons (pv 0) (pa_cons pe_int pa_nil))))))))
      pss_nil)
      (pss_cons (ps_if (pt_cmpR op_in_seq (pv 4) (pv 2) (by rfl))
      (pss_one (ps_set (i := 4) scNames.nd rfl (.inl rfl) (pe_op op_add_str (pe_ix ix_str pe_str (pv 3) (fun _ _ => rfl)) (pe_slice sl_str (pv 4) po_none (po_some pe_int)))))
      pss_nil)
      (pss_one (ps_expr (pe_bm PySem.F.plainAttrs_list PySem.F.slot_list_append PySem.F.type_list_append mt_append (pv 2) (pa_cons (pv 4) pa_nil))))))))
      (pss_one (ps_ret (pe_callB cr_sortedS (by rfl) B.sorted (by decide +kernel) (pa_cons (pv 2) pa_nil)))))), ?_⟩
    refine ⟨Nat.zero_le _, fun p hp => ?_⟩
    refine ⟨_, rfl, m, rfl, by omega, by omega, for_range (lo := 0) (n := m)
      (fun i σ G => ∃ xs y3 y4, σ = [some (.ref a), some (.int m), some (.ref p), y3, y4] ∧ xs.length = i ∧ xs.Nodup ∧ (∀ x ∈ xs, Nm1 i x) ∧ Ex H G ∧ G p = some (.lst (xs.map V.str)))
      ⟨[], none, none, rfl, rfl, List.nodup_nil, (fun x hx => by cases hx), Ex.new hp, upd_same⟩ (fun i σ G hi hP => ?_) (fun σ G hP => ?_)⟩
    · obtain ⟨xs, y3, y4, rfl, hl, nd, hN, hE, hL⟩ := hP
      have z0 : (0 : Int) + (i : Int) = (i : Int) := Int.zero_add _
      rw [z0]
      have hw1 := wellAt_mono hE hw
      refine ⟨_, rfl, a, 13, rfl, hw1, by decide, by decide, fun d d0 d1 => ?_⟩
      obtain ⟨d, rfl⟩ := Int.eq_ofNat_of_zero_le d0
      have hd : d < low.length := by have : low.length = 13 := by decide +kernel
                                     omega
      refine ⟨_, _, low[d], rfl, rfl, by decide +kernel, atI_nat (List.getElem?_eq_getElem hd), ?_⟩
      have hc : low[d] ∈ low := List.getElem_mem hd
      generalize low[d] = c at hc
      apply viaT (R := fun z => Nm1 0 z)
      · intro key
        refine ⟨_, rfl, a, 3, rfl, hw1, by decide, by decide, fun e e0 e1 => ⟨rfl, _, rfl, iteB (fun c1 => ?_) (fun c1 => ?_)⟩⟩
        rotate_left
        · have hz : Nm1 0 ({ cps := #[c] } : Str) := nm_one hc
          generalize ({ cps := #[c] } : Str) = z at hz
          exact key z hz
        · refine ⟨_, rfl, _, rfl, a, 4, rfl, hw1, by decide, by decide, fun d2 d20 d21 => ?_⟩
          obtain ⟨d2, rfl⟩ := Int.eq_ofNat_of_zero_le d20
          have hd2 : d2 < ("nopz" : Str).cps.toList.length := by
            have : ("nopz" : Str).cps.toList.length = 4 := by decide +kernel
            omega
          refine ⟨_, _, ("nopz" : Str).cps.toList[d2], rfl, rfl, by decide +kernel, atI_nat (List.getElem?_eq_getElem hd2), ?_⟩
          have hc2 : ("nopz" : Str).cps.toList[d2] ∈ ("nopz" : Str).cps.toList := List.getElem_mem hd2
          generalize ("nopz" : Str).cps.toList[d2] = c2 at hc2
          refine ⟨_, rfl, a, 7, rfl, hw1, by decide, by decide, fun n n0 n1 => ?_⟩
          obtain ⟨n, rfl⟩ := Int.eq_ofNat_of_zero_le n0
          refine ⟨_, _, rfl, rfl, sign c2, n + 1, rfl, by show V.int (1 + (n : Int)) = _; rw [Int.add_comm]; rfl, by omega, by show 1 ≤ 1000; decide, ?_⟩
          refine ⟨_, _, rfl, rfl, ?_, ?_⟩
          · rw [rep_len]
            exact sz_of (by show 1 + (n + 1) * 1 ≤ _; omega)
          · have hz := nm_more (n := n + 1) hc hc2 (by omega)
            exact key _ hz
      · intro z hz
        refine ⟨_, rfl, _, rfl, p, _, rfl, .inl (sq_of hL), rfl, flat_strs xs, _, rfl, ?_⟩
        rw [if_neg (by decide), inV_str]
        have fin : ∀ y, Nm1 (i + 1) y → y ∉ xs → (xs ++ [y]).length = i + 1 ∧ (xs ++ [y]).Nodup ∧ ∀ x ∈ xs ++ [y], Nm1 (i + 1) x := fun y hy ny => by
          refine ⟨by rw [List.length_append, hl]; rfl, List.nodup_append.mpr ⟨nd, by simp, fun x hx y' hy' => by rw [List.mem_singleton.mp hy']; exact fun e => ny (e ▸ hx)⟩, fun x hx => ?_⟩
          rcases List.mem_append.mp hx with h | h
          · exact nm1_mono (by omega) (hN x h)
          · rw [List.mem_singleton.mp h]; exact hy
        have szl : (xs.map V.str).length < sizeLine := by rw [List.length_map]; exact sz_lt (by omega)
        refine iteB (fun c3 => ?_) (fun c3 => ?_)
        · have hi9' : i < hi9.length := by rw [hi_len]; omega
          have hh : hi9[i]? = some hi9[i] := List.getElem?_eq_getElem hi9'
          refine ⟨_, rfl, _, _, hi9[i], rfl, rfl, by decide +kernel, atI_nat hh, ?_⟩
          obtain ⟨n1, n2⟩ := nm_moved (z := z) hz.nm hh
          generalize hi9[i] = h at hh n1 n2
          have zl : z.length ≤ 8 := by
            have := (Bool.and_eq_true_iff.mp (Bool.and_eq_true_iff.mp hz.nm).2).1
            exact of_decide_eq_true this
          have cl : (cutS z none (some 6)).length ≤ 8 := by
            show (cutS z none (some 6)).cps.size ≤ 8
            rw [← Array.length_toList, cut6, List.length_take]
            omega
          refine ⟨_, rfl, _, rfl, z, rfl, sz_of (by omega), _, _, rfl, rfl, sz_of (by show 1 + (cutS z none (some 6)).length ≤ _; omega), ?_⟩
          refine ⟨_, rfl, .inl ⟨rfl, _, sq_of hL⟩, _, rfl, p, _, _, rfl, rfl, hL, szl, ?_⟩
          obtain ⟨f1, f2, f3⟩ := fin _ n1 (fun hm => n2 _ (hN _ hm) rfl)
          exact ⟨_, _, _, rfl, f1, f2, f3, Ex.mut hE hp, by rw [upd_same, List.map_append]; rfl⟩
        · refine ⟨_, rfl, .inl ⟨rfl, _, sq_of hL⟩, _, rfl, p, _, _, rfl, rfl, hL, szl, ?_⟩
          obtain ⟨f1, f2, f3⟩ := fin z (nm1_mono (Nat.zero_le _) hz) (of_decide_eq_false c3)
          exact ⟨_, _, _, rfl, f1, f2, f3, Ex.mut hE hp, by rw [upd_same, List.map_append]; rfl⟩
    · obtain ⟨xs, y3, y4, rfl, hl, nd, hN, hE, hL⟩ := hP
      refine ⟨_, rfl, p, xs, rfl, sq_of hL, by omega, fun ys c hp2 hso hc => ?_⟩
      have ey := srt_eq hp2 hso
      subst ey
      exact q (srt xs) c _ (by rw [srt_len]; exact hl) (nodup_perm (srt_perm _) nd) (fun x hx => nm1_mono hm (hN x (srt_mem.mp hx))) (srt_srt xs) (fresh_back hE hc) (hE.trans (Ex.new hc)) upd_same
end
end L43
namespace L43
open PySem PySem.Spec PyProof.Rows L2 Evl Bf
section
variable {P : Program} {w : World} {K : PySem.W.Frag} {mg : Str → Option Value} {base : Heap} {f fi : Addr} {fd fdi : FuncData}
def spField : Sp := fun vs H Q _ => ∃ a : Addr, vs = [.ref a] ∧ WellAt H a ∧ ∀ whole G, Ex H G → Q (.str (ovS whole)) G
theorem ok_field (F : FnS K "_law_field" "_law_field" sField f fd) (B : Bl mg) (c__law_draw : Cal P w K mg base CX0 1 "_law_draw" ["_law_state_here", "_law_many"] spDraw) : FnOk P w K mg base CX0 2 f fd ["_law_state_here"] spField := by
  refine okD F scField (fun vs H Q E h => ?_) (fun cdv A outer s H vs Q E hr h => ?_)
  · obtain ⟨a, rfl, _⟩ := h
    rfl
  · obtain ⟨a, rfl, hw, q⟩ := h
    refine ⟨_, (pss_one (ps_ret (pe_ix ix_list (pe_lst (pa_cons pe_str (pa_cons pe_str pa_nil))) (pe_cal c__law_draw (hr.mono (by decide)) pass0 (pa_cons (pv 0) (pa_cons pe_int pa_nil))) (fun _ _ => rfl)))), ?_⟩
    refine ⟨by show 2 ≤ sizeLine; decide, fun c hc => ⟨_, rfl, a, 2, rfl, wellAt_mono (Ex.new hc) hw, by decide, by decide, fun d d0 d1 => ?_⟩⟩
    have hd : d = 0 ∨ d = 1 := by omega
    rcases hd with rfl | rfl
    · exact ⟨c, _, 0, _, rfl, rfl, sq_of upd_same, rfl, q false _ (Ex.new hc)⟩
    · exact ⟨c, _, 1, _, rfl, rfl, sq_of upd_same, rfl, q true _ (Ex.new hc)⟩
/-! ### rows drawn -/
def RowsOk (xs : List Str) (wd : Nat) (whole : Bool) (kp : List (Str × List Int)) : Prop := kp.map (·.1) = xs ∧ ∀ q ∈ kp, q.2.length = wd ∧ (whole = false → ∀ i ∈ q.2, i = 0 ∨ i = 1)
def spLRows (K : PySem.W.Frag) : Sp := fun vs H Q _ => ∃ (a p : Addr) (xs : List Str) (wd : Nat) (whole : Bool), vs = [.ref a, .ref p, .int wd, .str (ovS whole)] ∧ WellAt H a ∧ H p = some (.lst (xs.map V.str)) ∧ xs.Nodup ∧ xs.length ≤ 9 ∧ wd ≤ 9 ∧
  ∀ d kvs kp G, H d = none → Ex H G → G d = some (.dK kvs) → LR G kvs kp → RowsOk xs wd whole kp → Q (.ref d) G
theorem ok_lrows (F : FnS K "_law_rows" "_law_rows" sLRows f fd) (B : Bl mg) (c__law_draw : Cal P w K mg base CX0 1 "_law_draw" ["_law_state_here", "_law_many"] spDraw) :
    FnOk P w K mg base CX0 2 f fd ["_law_state_here", "_law_things", "_law_width", "_law_over"] (spLRows K) := by
  refine okD F scLRows (fun vs H Q E h => ?_) (fun cdv A outer s H vs Q E hr h => ?_)
  · obtain ⟨a, p, xs, wd, whole, rfl, _⟩ := h
    rfl
  · obtain ⟨a, p, xs, wd, whole, rfl, hw, hp, nd, hl, hwd, q⟩ := h
    have hu := hu_of hr
    refine ⟨_, (pss_cons (ps_set (i := 4) scLRows.nd rfl (.inl rfl) pe_dnewK)
      (pss_cons (ps_for PassesOwn.never (by rfl) (pi_list (pv 1)) (pg_name (i := 5) scLRows.nd rfl (.inl rfl))
      (pss_one (ps_if (pt_cmpR op_eq (pv 3) pe_str (nomark _))
      (pss_one (ps_dput hu (pv 4) (pv 5) (pe_lc (own := [("_law_k", 6)]) (g := (gName 6)) (by rfl) scLRows.nd (pi_range1 (by rfl) B.range (pa_cons (pv 2) pa_nil)) (blkOk_by (own := [("_law_k", 6)]) (N := nLRows) (sc := defScope sLRows) (by decide +kernel)) (fun _ _ _ _ _ => (pg_name (i := 6) scLRows.nd rfl (.inl rfl))) (fun _ _ _ _ _ => pts_nil) (fun _ _ _ _ _ => (pe_cal c__law_draw (hr.mono (by decide)) pass0 (pa_cons (pv 0) (pa_cons pe_int pa_nil))))) rfl))
      (pss_one (ps_dput hu (pv 4) (pv 5) (pe_lc (own := [("_law_k", 6)]) (g := (gName 6)) (te := tOp (rI CMul fun i j => .int (i * j)) (tOp (rI0 fun i j => .int (i - j)) (tCall spDraw [] E0 (tCons (tVar 0) (tCons (tC (.int 7)) tNil))) (tC (.int 3))) (tOp (rIxL K) (tLst (tCons (tC (.int 1)) (tCons (tC (.int 1)) (tCons (tC (.int 1)) (tCons (tOp (rI CPow fun i j => .int (i ^ j.toNat)) (tC (.int 10)) (tC (.int 20))) tNil))))) (tCall spDraw [] E0 (tCons (tVar 0) (tCons (tC (.int 4)) tNil))))) (by rfl) scLRows.nd (pi_range1 (by rfl) B.range (pa_cons (pv 2) pa_nil)) (blkOk_by (own := [("_law_k", 6)]) (N := nLRows) (sc := defScope sLRows) (by decide +kernel)) (fun _ _ _ _ _ => (pg_name (i := 6) scLRows.nd rfl (.inl rfl))) (fun _ _ _ _ _ => pts_nil) (fun _ _ _ _ _ => (pe_op op_mul (pe_op op_sub (pe_cal c__law_draw (hr.mono (by decide)) pass0 (pa_cons (pv 0) (pa_cons pe_int pa_nil))) pe_int) (pe_ix ix_list (pe_lst (pa_cons pe_int (pa_cons pe_int (pa_cons pe_int (pa_cons (pe_op op_pow pe_int pe_int) pa_nil))))) (pe_cal c__law_draw (hr.mono (by decide)) pass0 (pa_cons (pv 0) (pa_cons pe_int pa_nil))) (fun _ _ => rfl))))) rfl)))))
      (pss_one (ps_ret (pv 4))))), ?_⟩
    refine fun d hd => ?_
    have pd : p ≠ d := fun z => by rw [z, hd] at hp; cases hp
    refine ⟨_, rfl, p, rfl, ⟨_, sq_of (Ex.new hd p _ hp)⟩, for_it (walk_list (xs := xs.map V.str)) (fun i σ G => ∃ y5 y6 kvs kp, σ = [some (.ref a), some (.ref p), some (.int wd), some (.str (ovS whole)), some (.ref d), y5, y6] ∧ Ex H G ∧ G d = some (.dK kvs) ∧ LR G kvs kp ∧ RowsOk (xs.take i) wd whole kp)
      ⟨_, _, [], [], rfl, Ex.new hd, upd_same, .nil, rfl, (fun q hq => by cases hq)⟩ (fun i σ G _ hP => ?_) (fun i v σ G G' hi hP hy => ?_) (fun σ G hP => ?_)⟩
    · obtain ⟨_, _, _, _, rfl, e, _⟩ := hP
      exact sq_of (e p _ hp)
    · obtain ⟨y5, y6, kvs, kp, rfl, e, hd1, lr, ro⟩ := hP
      obtain ⟨rfl, hv⟩ := hy
      obtain ⟨rfl, hi2⟩ := getD_map hv
      have hn0 : xs[i]? = some (xs.getD i "") := by simp [List.getD, hi2]
      generalize xs.getD i "" = n at hn0 hv
      have len := lr_len lr
      have lk : kp.length = i := by
        have := congrArg List.length ro.1
        rw [List.length_map, List.length_take] at this
        omega
      have fresh : valV kvs (Sum.inr n) = none := val_none (lr_keys lr) (by rw [ro.1]; exact not_in_take nd hn0)
      -- behind the new list
      have fin : ∀ (is : List Int) (D : Addr) (G2 : Hp), Ex G' G2 → G2 D = some (.lst (is.map V.int)) → G' D = none → is.length = wd → (whole = false → ∀ i ∈ is, i = 0 ∨ i = 1) →
          ∃ H4, DPut G2 d (.str n) (.ref D) H4 ∧ ∃ kvs kp, Ex H H4 ∧ H4 d = some (.dK kvs) ∧ LR H4 kvs kp ∧ RowsOk (xs.take (i + 1)) wd whole kp := fun is D G2 x2 hD hD0 hl2 hb => by
        have d2 := x2 d _ hd1
        have Dd : D ≠ d := fun z => by rw [z, hd1] at hD0; cases hD0
        refine ⟨_, DPut.k (k := Sum.inr n) d2 (sz_lt (by omega)), ?_⟩
        rw [putK_new _ fresh]
        refine ⟨_, kp ++ [(n, is)], Ex.mut (e.trans x2) hd, upd_same, ?_, ?_, fun q hq => ?_⟩
        · refine paired_snoc (Paired.mapP lr fun p q ⟨a, t, b, c⟩ => ⟨a, t, b, ?_⟩) ⟨rfl, D, rfl, ?_⟩
          · rw [upd_ne fun z => by rw [z, hd1] at c; cases c]
            exact x2 _ _ c
          · rw [upd_ne Dd]; exact hD
        · rw [List.map_append, ro.1, List.take_add_one, hn0]
          rfl
        · rcases List.mem_append.mp hq with h | h
          · exact ro.2 q h
          · rw [List.mem_singleton.mp h]; exact ⟨hl2, hb⟩
      have hw1 := wellAt_mono e hw
      cases whole with
      | false =>
        refine ⟨_, rfl, rfl, _, rfl, iteT ?_⟩
        refine ⟨_, rfl, wd, rfl, by omega, by omega, fun D hD => ?_⟩
        refine lc_range (lo := 0) (n := wd) (fun j G2 => ∃ is : List Int, Ex G' G2 ∧ G2 D = some (.lst (is.map V.int)) ∧ is.length = j ∧ ∀ i ∈ is, i = 0 ∨ i = 1)
          ⟨[], Ex.new hD, upd_same, rfl, fun i hi => by cases hi⟩ (fun j G2 hj hP => ?_) (fun G2 hP => ?_)
        · obtain ⟨is, x2, hD1, il, ib⟩ := hP
          refine ⟨rfl, _, rfl, a, 2, rfl, wellAt_mono x2 hw1, by decide, by decide, fun d2 d20 d21 => ⟨_, hD1, ?_, is ++ [d2], Ex.mut x2 hD, ?_, ?_, fun i hi => ?_⟩⟩
          · rw [List.length_map]; exact sz_lt (by omega)
          · rw [upd_same, List.map_append]; rfl
          · rw [List.length_append, il]; rfl
          · rcases List.mem_append.mp hi with h | h
            · exact ib i h
            · rw [List.mem_singleton.mp h]; omega
        · obtain ⟨is, x2, hD1, il, ib⟩ := hP
          obtain ⟨H4, dp, kvs2, kp2, f1, f2, f3, f4⟩ := fin is D G2 x2 hD1 hD il (fun _ => ib)
          exact ⟨_, rfl, _, rfl, d, H4, rfl, dp, _, _, kvs2, kp2, rfl, f1, f2, f3, f4⟩
      | true =>
        refine ⟨_, rfl, rfl, _, rfl, iteF ?_⟩
        refine ⟨_, rfl, wd, rfl, by omega, by omega, fun D hD => ?_⟩
        refine lc_range (lo := 0) (n := wd) (fun j G2 => ∃ is : List Int, Ex G' G2 ∧ G2 D = some (.lst (is.map V.int)) ∧ is.length = j)
          ⟨[], Ex.new hD, upd_same, rfl⟩ (fun j G2 hj hP => ?_) (fun G2 hP => ?_)
        · obtain ⟨is, x2, hD1, il⟩ := hP
          have hw2 := wellAt_mono x2 hw1
          refine ⟨rfl, _, rfl, a, 7, rfl, hw2, by decide, by decide, fun d2 d20 d21 => ⟨_, _, rfl, rfl, 10, 20, rfl, rfl, ⟨by decide, by decide, by decide⟩, by show 4 ≤ sizeLine; decide, fun c hc => ?_⟩⟩
          refine ⟨_, rfl, a, 4, rfl, wellAt_mono (Ex.new hc) hw2, by decide, by decide, fun d3 d30 d31 => ?_⟩
          have fin2 : ∀ z : Int, ∃ acc, (upd G2 c (.lst [.int 1, .int 1, .int 1, .int (10 ^ (20 : Int).toNat)])) D = some (.lst acc) ∧ acc.length < sizeLine ∧ ∃ is : List Int, Ex G' (upd (upd G2 c (.lst [.int 1, .int 1, .int 1, .int (10 ^ (20 : Int).toNat)])) D (.lst (acc ++ [.int ((d2 - 3) * z)]))) ∧
              (upd (upd G2 c (.lst [.int 1, .int 1, .int 1, .int (10 ^ (20 : Int).toNat)])) D (.lst (acc ++ [.int ((d2 - 3) * z)]))) D = some (.lst (is.map V.int)) ∧ is.length = j + 1 := fun z =>
            ⟨_, Ex.new hc D _ hD1, by rw [List.length_map]; exact sz_lt (by omega), is ++ [(d2 - 3) * z], Ex.mut (x2.trans (Ex.new hc)) hD, by rw [upd_same, List.map_append]; rfl, by rw [List.length_append, il]; rfl⟩
          have hd3 : d3 = 0 ∨ d3 = 1 ∨ d3 = 2 ∨ d3 = 3 := by omega
          rcases hd3 with rfl | rfl | rfl | rfl
          · exact ⟨c, _, 0, _, rfl, rfl, sq_of upd_same, rfl, _, _, rfl, rfl, .inr (by decide), fin2 1⟩
          · exact ⟨c, _, 1, _, rfl, rfl, sq_of upd_same, rfl, _, _, rfl, rfl, .inr (by decide), fin2 1⟩
          · exact ⟨c, _, 2, _, rfl, rfl, sq_of upd_same, rfl, _, _, rfl, rfl, .inr (by decide), fin2 1⟩
          · exact ⟨c, _, 3, _, rfl, rfl, sq_of upd_same, rfl, _, _, rfl, rfl, .inl (by constructor <;> omega), fin2 _⟩
        · obtain ⟨is, x2, hD1, il⟩ := hP
          obtain ⟨H4, dp, kvs2, kp2, f1, f2, f3, f4⟩ := fin is D G2 x2 hD1 hD il (fun z => by cases z)
          exact ⟨_, rfl, _, rfl, d, H4, rfl, dp, _, _, kvs2, kp2, rfl, f1, f2, f3, f4⟩
    · obtain ⟨_, _, kvs, kp, rfl, e, hd1, lr, ro⟩ := hP
      rw [List.length_map, List.take_length] at ro
      exact ⟨_, rfl, q d kvs kp G hd e hd1 lr ro⟩
end
end L43
namespace L43
open PySem PySem.Spec PyProof.Rows L2 Evl Bf
section
variable {P : Program} {w : World} {K : PySem.W.Frag} {mg : Str → Option Value} {base : Heap} {f fi : Addr} {fd fdi : FuncData}
def tbTold (K : PySem.W.Frag) (W : WX) : TS := tAsg (tTup (tCons (tC (.str "made")) (tCons (tMkKS (He.ga K "Rows") 1 1 (spInitR K) (fun vs zs => vs ++ zs) (WE W) (tCons (tVar 0) tNil) (tCons (tVar 1) tNil)) tNil))) (gName 2)
/-- what is told, by what is due -/
def RetT (K : PySem.W.Frag) (H : Hp) (Q : VK) (rs : Rws) (whole : Bool) : DueW → Prop
  | .many => ∀ q G, Ex H G → G q = some (.tup [.str "many", .int 24]) → Q (.ref q) G
  | .bad n => ∀ q G, Ex H G → G q = some (.tup [.str "rows", .str n, .bl true]) → Q (.ref q) G
  | .ok => ∀ q y e G, Ex H G → G q = some (.tup [.str "made", .ref y]) → H e = none → RowsAt K G y e whole (keptOf rs) (wAt rs rs.length) → Q (.ref q) G
def spTold (K : PySem.W.Frag) : Sp := fun vs H Q _ => ∃ (d : Addr) (rs : Rws) (whole : Bool), vs = [.ref d, .str (ovS whole)] ∧ RowArg K H d rs ∧ RetT K H Q rs whole (dueW rs whole)
theorem ok_told (F : FnS K "_law_told" "_law_told" sTold f fd) (B : Bl mg) (mk_Rows : Mk K (He.ga K "Rows") fi) (f_Rows : FnOk P w K mg base (L2.CX P w) 3 fi fdi ["self", "rows", "over"] (spInitR K))
    (b_Rows : KBn K fdi ["self", "rows", "over"] 2 ["over"] (fun us ws => us ++ ws) (fun vs zs => vs ++ zs)) (g_Rows : mg "Rows" = some (.ref (He.ga K "Rows"))) (g_LotError : mg "LotError" = some (.ref (He.ga K "LotError")))
    (x_BadRows : ExT P w K mg base "BadRows" "thing" (He.ga K "BadRows")) (x_TooMany : ExT P w K mg base "TooMany" "limit" (He.ga K "TooMany"))
    (i_BadRows : ∀ D, D = He.ga K "BadRows" → ExcC K D) (lot : PySem.W.kitOne K (.ref (He.ga K "BadRows")) (.ref (He.ga K "LotError")) = some true)
    (m1 : Exm K "BadRows" "BadRows" true) (m2 : Exm K "TooMany" "BadRows" false) (m3 : Exm K "TooMany" "TooMany" true) :
    FnOk P w K mg base CX0 5 f fd ["_law_rows_here", "_law_over"] (spTold K) := by
  refine okD F scTold (fun vs H Q E h => ?_) (fun cdv A outer s H vs Q E hr h => ?_)
  · obtain ⟨d, rs, whole, rfl, _⟩ := h
    rfl
  · obtain ⟨d, rs, whole, rfl, ra, q⟩ := h
    refine ⟨_, (pss_cons (ps_try_nam (tb := tbTold K) rfl rfl scTold.nd takes0 (fun W pn xe tk _ => (pss_one (ps_set (i := 2) scTold.nd rfl (.inl rfl) (pe_tup (pa_cons pe_str (pa_cons (pe_mkKS mk_Rows f_Rows (hr.mono (by decide)) g_Rows b_Rows (fun σ => passAt tk σ) (pa_cons (pv 0) pa_nil) (pk_cons (pv 1) pk_nil)) pa_nil))))))
      (.cons ⟨rfl, by decide, .inl x_BadRows.g⟩ (i := 3) rfl rfl (fun a oe cl d pn hz hf => (pss_one (ps_set (i := 2) scTold.nd rfl (.inl rfl) (pe_tup (pa_cons pe_str (pa_cons (pe_xf x_BadRows.xf x_BadRows.no hz hf (pv 3)) (pa_cons (pe_callB (call_isX i_BadRows hz hf) (by rfl) B.isinstance (by decide +kernel) (pa_cons (pv 3) (pa_cons (pe_glob (v := .ref (He.ga K "LotError")) (by rfl) g_LotError rfl) pa_nil))) pa_nil)))))))
      (.cons ⟨rfl, by decide, .inl x_TooMany.g⟩ (i := 3) rfl rfl (fun a oe cl d pn hz hf => (pss_one (ps_set (i := 2) scTold.nd rfl (.inl rfl) (pe_tup (pa_cons pe_str (pa_cons (pe_xf x_TooMany.xf x_TooMany.no hz hf (pv 3)) pa_nil))))))
      .nil)))
      (pss_one (ps_ret (pv 2)))), ?_⟩
    refine ⟨_, rfl, _, rfl, rfl, rfl, fun y dy hy hd hne => ⟨y, dy, d, H, rs, whole, rfl, upd_same, hy, ex_new2 hy hd, ra, ?_⟩⟩
    generalize hD : dueW rs whole = D at q
    cases D with
    | many =>
      refine fun d2 G e nx hn hg => ⟨false, m2, (fun z => nope rfl z), fun _ => ⟨true, m3, fun _ a na => ?_, (fun z => nope rfl z)⟩⟩
      refine ⟨_, rfl, rfl, rfl, d2, _, _, rfl, hg, rfl, by show 2 ≤ sizeLine; decide, fun q' hq => ?_⟩
      exact ⟨_, rfl, q q' _ ((exb_back hy hd e).trans (Ex.new hq)) upd_same⟩
    | bad n =>
      refine fun d2 G e nx hn hg => ⟨true, m1, fun _ a na => ?_, (fun z => nope rfl z)⟩
      refine ⟨_, rfl, rfl, rfl, d2, _, _, rfl, hg, rfl, _, rfl, _, d2, _, _, _, _, rfl, rfl, rfl, rfl, hg, .own _, lot, by show 3 ≤ sizeLine; decide, fun q' hq => ?_⟩
      exact ⟨_, rfl, q q' _ ((exb_back hy hd e).trans (Ex.new hq)) upd_same⟩
    | ok =>
      refine fun G e b fe wt => ⟨rfl, by show 2 ≤ sizeLine; decide, fun q' hq => ?_⟩
      exact ⟨_, rfl, q q' y e _ ((exb_back hy hd b).trans (Ex.new hq)) upd_same (fresh_back (ex_new2 hy hd) fe) (rowsAt_mono (Ex.new hq) wt)⟩
end
end L43
namespace L43
open PySem PySem.Spec PyProof.Rows L2 Evl Bf
/-! ### the least name at fault -/
def GoodR (wd : Nat) (whole : Bool) (r : RV) : Prop := ∃ es, r = .lst es ∧ es.length = wd ∧ es.all (·.isSome) = true ∧ (whole || es.all bit) = true
theorem good_ok {wd : Nat} {whole : Bool} {r : RV} (h : GoodR wd whole r) (hw : wd ≤ 24) : rowOk none whole r = true ∧ rowOk (some wd) whole r = true ∧ rlen r = wd := by
  obtain ⟨es, rfl, h1, h2, h3⟩ := h
  refine ⟨?_, ?_, h1⟩
  · rw [rowOk_lst, decide_eq_true (by omega), h2, h3]; rfl
  · rw [rowOk_lst, decide_eq_true (by omega), h2, h3, show wOk (some wd) es.length = true from decide_eq_true h1]; rfl
structure Bads (rs : Rws) (wd : Nat) (whole : Bool) (Bs : List Str) : Prop where
  nd : (keysW rs).Nodup
  len : rs.length ≤ 24
  w24 : wd ≤ 24
  sub : ∀ n ∈ Bs, n ∈ keysW rs
  good : ∀ n ∈ keysW rs, n ∉ Bs → isNm n = true ∧ GoodR wd whole (lookW rs n)
  bad : ∀ n ∈ Bs, isNm n = false ∨ rowOk (some wd) whole (lookW rs n) = false
  first : ∀ m ∈ Bs, (∀ n ∈ keysW rs, leS m n = true) → isNm m = false
theorem due_bad {rs : Rws} {wd : Nat} {whole : Bool} {Bs : List Str} (h : Bads rs wd whole Bs) {m : Str} (hm : m ∈ Bs) (hmin : ∀ y ∈ Bs, leS m y = true) : dueW rs whole = .bad m := by
  obtain ⟨i, hi, ei⟩ := List.mem_iff_getElem.mp (srt_mem.mpr (h.sub m hm))
  have hi2 : i < rs.length := by rw [srt_len, keysW_len] at hi; exact hi
  have nthE : ∀ j (hj : j < (srt (keysW rs)).length), nth rs j = (srt (keysW rs))[j] := fun j hj => by unfold nth; simp [List.getD, hj]
  have ni : nth rs i = m := (nthE i hi).trans ei
  have pw := List.pairwise_iff_getElem.mp (srt_pw (keysW rs))
  have nd : (srt (keysW rs)).Nodup := nodup_perm (srt_perm _) h.nd
  have low : ∀ j, j < i → nth rs j ∈ keysW rs ∧ nth rs j ∉ Bs := fun j hj => by
    have hj' : j < (srt (keysW rs)).length := by omega
    refine ⟨?_, fun hb => ?_⟩
    · rw [nthE j hj']; exact srt_mem.mp (List.getElem_mem hj')
    · have h1 := hmin _ hb
      have h2 := pw j i hj' hi hj
      rw [← nthE j hj', ei] at h2
      have e := leS_antisymm h1 h2
      rw [nthE j hj', ← ei] at e
      exact (List.pairwise_iff_getElem.mp nd) j i hj' hi hj e.symm
  have wat : ∀ j, j ≤ i → (j = 0 ∧ wAt rs j = none) ∨ wAt rs j = some wd := fun j hj => by
    cases j with
    | zero => exact .inl ⟨rfl, rfl⟩
    | succ k =>
      obtain ⟨l1, l2⟩ := low k (by omega)
      obtain ⟨_, _, e⟩ := good_ok (h.good _ l1 l2).2 h.w24
      refine .inr ?_
      show some (rlen (lookW rs (nth rs k))) = some wd
      rw [e]
  unfold dueW
  rw [if_neg (by have := h.len; omega), first_some hi2 (i := i)]
  · show DueW.bad (nth rs i) = _
    rw [ni]
  · unfold badW
    rw [ni]
    rcases h.bad m hm with hb | hb
    · rw [hb]; rfl
    · rcases wat i (Nat.le_refl i) with ⟨i0, _⟩ | e
      · have := h.first m hm fun n hn => by
          obtain ⟨k, hk, ek⟩ := List.mem_iff_getElem.mp (srt_mem.mpr hn)
          by_cases k0 : k = 0
          · have : n = m := by rw [← ek, ← ei]; congr 1; omega
            rw [this]; exact leS_iff.mpr (Std.le_refl _)
          · have h2 := pw i k hi hk (by omega)
            rw [ei, ek] at h2
            exact h2
        rw [this]; rfl
      · rw [e, hb, Bool.not_false, Bool.or_true]
  · intro j hj
    obtain ⟨l1, l2⟩ := low j hj
    obtain ⟨g1, g2⟩ := h.good _ l1 l2
    obtain ⟨o1, o2, _⟩ := good_ok g2 h.w24
    unfold badW
    rw [g1]
    rcases wat j (by omega) with ⟨_, e⟩ | e
    · rw [e, o1]; rfl
    · rw [e, o2]; rfl
/-! ### rows at fault -/
theorem bad_len {es : List (Option Int)} {wd : Nat} {whole : Bool} (h : es.length ≠ wd) : rowOk (some wd) whole (.lst es) = false := by
  rw [rowOk_lst, show wOk (some wd) es.length = false from decide_eq_false h, Bool.false_and, Bool.and_false, Bool.and_false]
theorem bad_int {es : List (Option Int)} {wd : Nat} {whole : Bool} (h : none ∈ es) : rowOk (some wd) whole (.lst es) = false := by
  have e : es.all (·.isSome) = false := by
    refine Bool.eq_false_iff.mpr fun z => ?_
    have := List.all_eq_true.mp z none h
    cases this
  rw [rowOk_lst, e, Bool.false_and, Bool.and_false]
theorem bad_bit {es : List (Option Int)} {wd : Nat} {i : Int} (h : some i ∈ es) (hi : bit (some i) = false) : rowOk (some wd) false (.lst es) = false := by
  have e : es.all bit = false := by
    refine Bool.eq_false_iff.mpr fun z => ?_
    have := List.all_eq_true.mp z (some i) h
    rw [hi] at this
    cases this
  rw [rowOk_lst, e, Bool.false_or, Bool.and_false, Bool.and_false, Bool.and_false]
section
variable {P : Program} {w : World} {K : PySem.W.Frag} {mg : Str → Option Value} {base : Heap} {f fi : Addr} {fd fdi : FuncData}
def WrongV (K : PySem.W.Frag) (wd : Nat) (whole : Bool) (G : Hp) (v : V) : Prop := ∃ r, RVR K G v r ∧ rowOk (some wd) whole r = false
theorem wrong_mono {wd : Nat} {whole : Bool} {H G : Hp} {v : V} (e : Ex H G) (h : WrongV K wd whole H v) : WrongV K wd whole G v := by
  obtain ⟨r, h1, h2⟩ := h
  exact ⟨r, rvr_mono e h1, h2⟩
theorem wrong_oth {wd : Nat} {whole : Bool} {G : Hp} {v : V} {t : String} (ty : TyX K G v (.type t)) (k : kitB t "list" = some false) : WrongV K wd whole G v := ⟨.oth, ⟨t, ty, k⟩, rfl⟩
theorem paired_rep {G : Hp} {x : V} {e : Option Int} (h : ER K G x e) : ∀ n : Nat, Paired (ER K G) (List.replicate n x) (List.replicate n e)
  | 0 => .nil
  | n + 1 => .cons h (paired_rep h n)
theorem flat_rep (n : Nat) (x : V) : (List.replicate n [x]).flatten = List.replicate n x := List.flatten_replicate_singleton
theorem wrong_lst {wd : Nat} {whole : Bool} {G : Hp} {p : Addr} {vs : List V} {es : List (Option Int)} (hp : G p = some (.lst vs)) (pr : Paired (ER K G) vs es) (hl : vs.length ≤ 1000) (b : rowOk (some wd) whole (.lst es) = false) : WrongV K wd whole G (.ref p) :=
  ⟨.lst es, ⟨p, vs, rfl, hp, pr, hl⟩, b⟩
/-- nothing that H knows -/
def NewV (H : Hp) (v : V) : Prop := ∀ p, v = .ref p → H p = none
def spWrong (K : PySem.W.Frag) : Sp := fun vs H Q _ => ∃ (a : Addr) (wd : Nat) (whole : Bool), vs = [.ref a, .int wd, .str (ovS whole)] ∧ WellAt H a ∧ wd ≤ 9 ∧ ∀ v G, Ex H G → WrongV K wd whole G v → NewV H v → Q v G
end
end L43
namespace L43
open PySem PySem.Spec PyProof.Rows L2 Evl Bf
section
variable {P : Program} {w : World} {K : PySem.W.Frag} {mg : Str → Option Value} {base : Heap} {f fi : Addr} {fd fdi : FuncData}
theorem ok_wrong (F : FnS K "_law_wrong_row" "_law_wrong_row" sWrong f fd) (B : Bl mg) (c__law_draw : Cal P w K mg base CX0 1 "_law_draw" ["_law_state_here", "_law_many"] spDraw) :
    FnOk P w K mg base CX0 2 f fd ["_law_state_here", "_law_width", "_law_over"] (spWrong K) := by
  refine okD F scWrong (fun vs H Q E h => ?_) (fun cdv A outer s H vs Q E hr h => ?_)
  · obtain ⟨a, wd, whole, rfl, _⟩ := h
    rfl
  · obtain ⟨a, wd, whole, rfl, hw, hwd, q⟩ := h
    refine ⟨_, (pss_cons (ps_set (i := 3) scWrong.nd rfl (.inl rfl) (pe_lst (pa_cons pe_non (pa_cons pe_int (pa_cons pe_str (pa_cons (pe_tup (pa_cons pe_int (pa_cons pe_int pa_nil))) (pa_cons pe_dnewK (pa_cons (pe_op op_rep (pe_lst (pa_cons pe_int pa_nil)) (pe_op op_add (pv 1) pe_int)) (pa_cons (pe_op op_rep (pe_lst (pa_cons pe_int pa_nil)) pe_int) (pa_cons (pe_op op_cat (pe_op op_rep (pe_lst (pa_cons pe_str pa_nil)) (pv 1)) (pe_lst (pa_cons pe_str pa_nil))) (pa_cons (pe_op op_rep (pe_lst (pa_cons pe_non pa_nil)) (pe_op op_add (pv 1) pe_int)) (pa_cons (pe_op op_rep (pe_lst (pa_cons pe_bl pa_nil)) (pe_op op_add (pv 1) pe_int)) pa_nil))))))))))))
      (pss_cons (ps_if (pt_cmpR op_gt (pv 1) pe_int (nomark _))
      (pss_cons (ps_set (i := 3) scWrong.nd rfl (.inl rfl) (pe_op op_cat (pv 3) (pe_lst (pa_cons (pe_op op_rep (pe_lst (pa_cons pe_int pa_nil)) (pe_op op_sub (pv 1) pe_int)) (pa_cons (pe_op op_cat (pe_lst (pa_cons pe_bl pa_nil)) (pe_op op_rep (pe_lst (pa_cons pe_int pa_nil)) (pe_op op_sub (pv 1) pe_int))) (pa_cons (pe_op op_rep (pe_lst (pa_cons pe_non pa_nil)) (pv 1)) (pa_cons (pe_op op_rep (pe_lst (pa_cons (pe_lst (pa_cons pe_int pa_nil)) pa_nil)) (pv 1)) pa_nil)))))))
      (pss_one (ps_if (pt_cmpR op_eq (pv 2) pe_str (nomark _))
      (pss_one (ps_set (i := 3) scWrong.nd rfl (.inl rfl) (pe_op op_cat (pv 3) (pe_lst (pa_cons (pe_op op_rep (pe_lst (pa_cons pe_int pa_nil)) (pv 1)) (pa_cons (pe_op op_cat (pe_lst (pa_cons (pe_un un_neg pe_int) pa_nil)) (pe_op op_rep (pe_lst (pa_cons pe_int pa_nil)) (pe_op op_sub (pv 1) pe_int))) pa_nil))))))
      pss_nil)))
      pss_nil)
      (pss_one (ps_ret (pe_ix ix_list (pv 3) (pe_cal c__law_draw (hr.mono (by decide)) pass0 (pa_cons (pv 0) (pa_cons (pe_callB call_len_seq (by rfl) B.len (by decide +kernel) (pa_cons (pv 3) pa_nil)) pa_nil))) (fun _ _ => rfl)))))), ?_⟩
    have tail : ∀ (l : Addr) (vs : List V) (G : Hp), Ex H G → G l = some (.lst vs) → vs ≠ [] → vs.length ≤ 100 → (∀ v ∈ vs, WrongV K wd whole G v ∧ NewV H v) →
        tRet (tOp (rIxL K) (tVar 3) (tCall spDraw [] E0 (tCons (tVar 0) (tCons (tCB (fun xs H Q => ∃ p ys, xs = [.ref p] ∧ (SqL K H p ys ∨ SqT K H p ys) ∧ Q (.int ys.length) H) (tCons (tVar 3) tNil)) tNil)))) { nx := fun _ H' => Q .non H', rt := Q } [some (.ref a), some (.int wd), some (.str (ovS whole)), some (.ref l)] G := fun l vs G e hl ne le all => by
      have pos : 0 < vs.length := List.length_pos_iff.mpr ne
      refine ⟨_, rfl, _, rfl, _, rfl, l, vs, rfl, .inl (sq_of hl), a, _, rfl, wellAt_mono e hw, by omega, by omega, fun d d0 d1 => ?_⟩
      obtain ⟨d, rfl⟩ := Int.eq_ofNat_of_zero_le d0
      have hd : d < vs.length := by omega
      exact ⟨l, vs, _, vs[d], rfl, rfl, sq_of hl, atI_nat (List.getElem?_eq_getElem hd), q _ G e (all _ (List.getElem_mem hd)).1 (all _ (List.getElem_mem hd)).2⟩
    obtain ⟨G0, hG0⟩ : ∃ G0, G0 = H := ⟨_, rfl⟩
    rw [← hG0]
    have F0 : Ex H G0 := by rw [hG0]; exact Ex.refl H
    refine ⟨by show 2 ≤ sizeLine; decide, fun t4 ht4 => ?_⟩
    have f1 : Ex G0 _ := Ex.new (o := .tup [.int 0, .int 1]) ht4
    have kt4 : (upd G0 t4 (.tup [.int 0, .int 1])) t4 = _ := upd_same
    generalize upd G0 t4 (.tup [.int 0, .int 1]) = G1 at f1 kt4
    have F1 := F0.trans f1
    have nt4 : H t4 = none := fresh_back F0 ht4
    refine fun d5 hd5 => ?_
    have f2 : Ex G1 _ := Ex.new (o := .dK []) hd5
    have kd5 : (upd G1 d5 (.dK [])) d5 = _ := upd_same
    generalize upd G1 d5 (.dK []) = G2 at f2 kd5
    have F2 := F1.trans f2
    have nd5 : H d5 = none := fresh_back F1 hd5
    refine ⟨by show 1 ≤ sizeLine; decide, fun bp6 hbp6 => ?_⟩
    have f3 : Ex G2 _ := Ex.new (o := .lst [.int 0]) hbp6
    have kbp6 : (upd G2 bp6 (.lst [.int 0])) bp6 = _ := upd_same
    generalize upd G2 bp6 (.lst [.int 0]) = G3 at f3 kbp6
    have F3 := F2.trans f3
    have nbp6 : H bp6 = none := fresh_back F2 hbp6
    refine ⟨_, rfl, _, _, rfl, rfl, bp6, ((wd : Int) + 1), _, rfl, rfl, kbp6, by omega, by omega, sz_of (by show 1 * (((wd : Int) + 1) : Int).toNat ≤ _; omega), fun p6 hp6 => ?_⟩
    rw [show (((wd : Int) + 1) : Int).toNat = wd + 1 by omega, flat_rep]
    have f4 : Ex G3 _ := Ex.new (o := .lst (List.replicate (wd + 1) (.int 0))) hp6
    have kp6 : (upd G3 p6 (.lst (List.replicate (wd + 1) (.int 0)))) p6 = _ := upd_same
    generalize upd G3 p6 (.lst (List.replicate (wd + 1) (.int 0))) = G4 at f4 kp6
    have F4 := F3.trans f4
    have np6 : H p6 = none := fresh_back F3 hp6
    refine ⟨by show 1 ≤ sizeLine; decide, fun bp7 hbp7 => ?_⟩
    have f5 : Ex G4 _ := Ex.new (o := .lst [.int 0]) hbp7
    have kbp7 : (upd G4 bp7 (.lst [.int 0])) bp7 = _ := upd_same
    generalize upd G4 bp7 (.lst [.int 0]) = G5 at f5 kbp7
    have F5 := F4.trans f5
    have nbp7 : H bp7 = none := fresh_back F4 hbp7
    refine ⟨bp7, (25 : Int), _, rfl, rfl, kbp7, by omega, by omega, sz_of (by show 1 * ((25 : Int) : Int).toNat ≤ _; omega), fun p7 hp7 => ?_⟩
    rw [show ((25 : Int) : Int).toNat = 25 by omega, flat_rep]
    have f6 : Ex G5 _ := Ex.new (o := .lst (List.replicate (25) (.int 0))) hp7
    have kp7 : (upd G5 p7 (.lst (List.replicate (25) (.int 0)))) p7 = _ := upd_same
    generalize upd G5 p7 (.lst (List.replicate (25) (.int 0))) = G6 at f6 kp7
    have F6 := F5.trans f6
    have np7 : H p7 = none := fresh_back F5 hp7
    refine ⟨by show 1 ≤ sizeLine; decide, fun bp8 hbp8 => ?_⟩
    have f7 : Ex G6 _ := Ex.new (o := .lst [.str "a"]) hbp8
    have kbp8 : (upd G6 bp8 (.lst [.str "a"])) bp8 = _ := upd_same
    generalize upd G6 bp8 (.lst [.str "a"]) = G7 at f7 kbp8
    have F7 := F6.trans f7
    have nbp8 : H bp8 = none := fresh_back F6 hbp8
    refine ⟨_, rfl, bp8, (wd : Int), _, rfl, rfl, kbp8, by omega, by omega, sz_of (by show 1 * ((wd : Int) : Int).toNat ≤ _; omega), fun p8 hp8 => ?_⟩
    rw [show ((wd : Int) : Int).toNat = wd by omega, flat_rep]
    have f8 : Ex G7 _ := Ex.new (o := .lst (List.replicate (wd) (.str "a"))) hp8
    have kp8 : (upd G7 p8 (.lst (List.replicate (wd) (.str "a")))) p8 = _ := upd_same
    generalize upd G7 p8 (.lst (List.replicate (wd) (.str "a"))) = G8 at f8 kp8
    have F8 := F7.trans f8
    have np8 : H p8 = none := fresh_back F7 hp8
    refine ⟨by show 1 ≤ sizeLine; decide, fun b9 hb9 => ?_⟩
    have f9 : Ex G8 _ := Ex.new (o := .lst [.str "a"]) hb9
    have kb9 : (upd G8 b9 (.lst [.str "a"])) b9 = _ := upd_same
    generalize upd G8 b9 (.lst [.str "a"]) = G9 at f9 kb9
    have F9 := F8.trans f9
    have nb9 : H b9 = none := fresh_back F8 hb9
    refine ⟨p8, b9, _, _, rfl, rfl, (f9 p8 _ kp8), kb9, sz_of (by simp; omega), fun p9 hp9 => ?_⟩
    have f10 : Ex G9 _ := Ex.new (o := .lst (List.replicate (wd) (.str "a") ++ [.str "a"])) hp9
    have kp9 : (upd G9 p9 (.lst (List.replicate (wd) (.str "a") ++ [.str "a"]))) p9 = _ := upd_same
    generalize upd G9 p9 (.lst (List.replicate (wd) (.str "a") ++ [.str "a"])) = G10 at f10 kp9
    have F10 := F9.trans f10
    have np9 : H p9 = none := fresh_back F9 hp9
    refine ⟨by show 1 ≤ sizeLine; decide, fun bp10 hbp10 => ?_⟩
    have f11 : Ex G10 _ := Ex.new (o := .lst [.non]) hbp10
    have kbp10 : (upd G10 bp10 (.lst [.non])) bp10 = _ := upd_same
    generalize upd G10 bp10 (.lst [.non]) = G11 at f11 kbp10
    have F11 := F10.trans f11
    have nbp10 : H bp10 = none := fresh_back F10 hbp10
    refine ⟨_, rfl, _, _, rfl, rfl, bp10, ((wd : Int) + 1), _, rfl, rfl, kbp10, by omega, by omega, sz_of (by show 1 * (((wd : Int) + 1) : Int).toNat ≤ _; omega), fun p10 hp10 => ?_⟩
    rw [show (((wd : Int) + 1) : Int).toNat = wd + 1 by omega, flat_rep]
    have f12 : Ex G11 _ := Ex.new (o := .lst (List.replicate (wd + 1) .non)) hp10
    have kp10 : (upd G11 p10 (.lst (List.replicate (wd + 1) .non))) p10 = _ := upd_same
    generalize upd G11 p10 (.lst (List.replicate (wd + 1) .non)) = G12 at f12 kp10
    have F12 := F11.trans f12
    have np10 : H p10 = none := fresh_back F11 hp10
    refine ⟨by show 1 ≤ sizeLine; decide, fun bp11 hbp11 => ?_⟩
    have f13 : Ex G12 _ := Ex.new (o := .lst [.bl true]) hbp11
    have kbp11 : (upd G12 bp11 (.lst [.bl true])) bp11 = _ := upd_same
    generalize upd G12 bp11 (.lst [.bl true]) = G13 at f13 kbp11
    have F13 := F12.trans f13
    have nbp11 : H bp11 = none := fresh_back F12 hbp11
    refine ⟨_, rfl, _, _, rfl, rfl, bp11, ((wd : Int) + 1), _, rfl, rfl, kbp11, by omega, by omega, sz_of (by show 1 * (((wd : Int) + 1) : Int).toNat ≤ _; omega), fun p11 hp11 => ?_⟩
    rw [show (((wd : Int) + 1) : Int).toNat = wd + 1 by omega, flat_rep]
    have f14 : Ex G13 _ := Ex.new (o := .lst (List.replicate (wd + 1) (.bl true))) hp11
    have kp11 : (upd G13 p11 (.lst (List.replicate (wd + 1) (.bl true)))) p11 = _ := upd_same
    generalize upd G13 p11 (.lst (List.replicate (wd + 1) (.bl true))) = G14 at f14 kp11
    have F14 := F13.trans f14
    have np11 : H p11 = none := fresh_back F13 hp11
    refine ⟨by show 10 ≤ sizeLine; decide, fun L hL => ?_⟩
    have f15 : Ex G14 _ := Ex.new (o := .lst [.non, .int 5, .str "ab", .ref t4, .ref d5, .ref p6, .ref p7, .ref p9, .ref p10, .ref p11]) hL
    have kL : (upd G14 L (.lst [.non, .int 5, .str "ab", .ref t4, .ref d5, .ref p6, .ref p7, .ref p9, .ref p10, .ref p11])) L = _ := upd_same
    generalize upd G14 L (.lst [.non, .int 5, .str "ab", .ref t4, .ref d5, .ref p6, .ref p7, .ref p9, .ref p10, .ref p11]) = G15 at f15 kL
    have F15 := F14.trans f15
    have nL : H L = none := fresh_back F14 hL
    have E1 := F15
    have zi : ∀ (i : Int) (G : Hp), ER K G (.int i) (some i) := fun _ _ => rfl
    have zs : ∀ (z : Str) (G : Hp), ER K G (.str z) none := fun z _ => ⟨_, false, .base (.str z), by decide +kernel, fun h => by cases h⟩
    have zn : ∀ (G : Hp), ER K G .non none := fun _ => ⟨_, false, .base .non, by decide +kernel, fun h => by cases h⟩
    have zb : ∀ (b : Bool) (G : Hp), ER K G (.bl b) none := fun b _ => ⟨_, true, .base (.bl b), by decide +kernel, fun _ => by decide +kernel⟩
    have all1 : ∀ v ∈ ([.non, .int 5, .str "ab", .ref t4, .ref d5, .ref p6, .ref p7, .ref p9, .ref p10, .ref p11] : List V), WrongV K wd whole G15 v ∧ NewV H v := by
      intro v hv
      simp only [List.mem_cons, List.not_mem_nil, or_false] at hv
      rcases hv with rfl | rfl | rfl | rfl | rfl | rfl | rfl | rfl | rfl | rfl
      · exact ⟨wrong_oth (.base .non) (by decide +kernel), (fun p z => by cases z)⟩
      · exact ⟨wrong_oth (.base (.int 5)) (by decide +kernel), (fun p z => by cases z)⟩
      · exact ⟨wrong_oth (.base (.str _)) (by decide +kernel), (fun p z => by cases z)⟩
      · exact ⟨wrong_oth (.base (.tup ((((((((((((((f2.trans f3).trans f4).trans f5).trans f6).trans f7).trans f8).trans f9).trans f10).trans f11).trans f12).trans f13).trans f14).trans f15) t4 _ kt4))) (by decide +kernel), (fun p z => by cases z; exact nt4)⟩
      · exact ⟨wrong_oth (.base (.dK (((((((((((((f3.trans f4).trans f5).trans f6).trans f7).trans f8).trans f9).trans f10).trans f11).trans f12).trans f13).trans f14).trans f15) d5 _ kd5))) (by decide +kernel), (fun p z => by cases z; exact nd5)⟩
      · exact ⟨wrong_lst (((((((((((f5.trans f6).trans f7).trans f8).trans f9).trans f10).trans f11).trans f12).trans f13).trans f14).trans f15) p6 _ kp6) (paired_rep (zi 0 _) _) (by rw [List.length_replicate]; omega) (bad_len (by rw [List.length_replicate]; omega)), (fun p z => by cases z; exact np6)⟩
      · exact ⟨wrong_lst (((((((((f7.trans f8).trans f9).trans f10).trans f11).trans f12).trans f13).trans f14).trans f15) p7 _ kp7) (paired_rep (zi 0 _) _) (by rw [List.length_replicate]; omega) (bad_len (by rw [List.length_replicate]; omega)), (fun p z => by cases z; exact np7)⟩
      · exact ⟨wrong_lst (((((f11.trans f12).trans f13).trans f14).trans f15) p9 _ kp9) (paired_snoc (paired_rep (zs _ _) _) (zs _ _)) (by rw [List.length_append, List.length_replicate]; show _ + 1 ≤ _; omega) (bad_int (List.mem_append_right _ (List.mem_singleton.mpr rfl))), (fun p z => by cases z; exact np9)⟩
      · exact ⟨wrong_lst (((f13.trans f14).trans f15) p10 _ kp10) (paired_rep (zn _) _) (by rw [List.length_replicate]; omega) (bad_len (by rw [List.length_replicate]; omega)), (fun p z => by cases z; exact np10)⟩
      · exact ⟨wrong_lst (f15 p11 _ kp11) (paired_rep (zb _ _) _) (by rw [List.length_replicate]; omega) (bad_len (by rw [List.length_replicate]; omega)), (fun p z => by cases z; exact np11)⟩
    clear hG0
    refine ⟨_, rfl, _, _, rfl, rfl, _, rfl, iteB (fun c1 => ?_) (fun c1 => tail L _ _ E1 kL (by simp) (by simp) all1)⟩
    have w0 : 0 < wd := by have := of_decide_eq_true c1; omega
    refine ⟨_, rfl, ?_⟩
    refine ⟨by show 1 ≤ sizeLine; decide, fun bq1 hbq1 => ?_⟩
    have f16 : Ex G15 _ := Ex.new (o := .lst [.int 0]) hbq1
    have kbq1 : (upd G15 bq1 (.lst [.int 0])) bq1 = _ := upd_same
    generalize upd G15 bq1 (.lst [.int 0]) = G16 at f16 kbq1
    have F16 := F15.trans f16
    have nbq1 : H bq1 = none := fresh_back F15 hbq1
    refine ⟨_, rfl, _, _, rfl, rfl, bq1, ((wd : Int) - 1), _, rfl, rfl, kbq1, by omega, by omega, sz_of (by show 1 * (((wd : Int) - 1) : Int).toNat ≤ _; omega), fun q1 hq1 => ?_⟩
    rw [show (((wd : Int) - 1) : Int).toNat = wd - 1 by omega, flat_rep]
    have f17 : Ex G16 _ := Ex.new (o := .lst (List.replicate (wd - 1) (.int 0))) hq1
    have kq1 : (upd G16 q1 (.lst (List.replicate (wd - 1) (.int 0)))) q1 = _ := upd_same
    generalize upd G16 q1 (.lst (List.replicate (wd - 1) (.int 0))) = G17 at f17 kq1
    have F17 := F16.trans f17
    have nq1 : H q1 = none := fresh_back F16 hq1
    refine ⟨by show 1 ≤ sizeLine; decide, fun b12 hb12 => ?_⟩
    have f18 : Ex G17 _ := Ex.new (o := .lst [.bl true]) hb12
    have kb12 : (upd G17 b12 (.lst [.bl true])) b12 = _ := upd_same
    generalize upd G17 b12 (.lst [.bl true]) = G18 at f18 kb12
    have F18 := F17.trans f18
    have nb12 : H b12 = none := fresh_back F17 hb12
    refine ⟨by show 1 ≤ sizeLine; decide, fun bq2 hbq2 => ?_⟩
    have f19 : Ex G18 _ := Ex.new (o := .lst [.int 0]) hbq2
    have kbq2 : (upd G18 bq2 (.lst [.int 0])) bq2 = _ := upd_same
    generalize upd G18 bq2 (.lst [.int 0]) = G19 at f19 kbq2
    have F19 := F18.trans f19
    have nbq2 : H bq2 = none := fresh_back F18 hbq2
    refine ⟨_, rfl, _, _, rfl, rfl, bq2, ((wd : Int) - 1), _, rfl, rfl, kbq2, by omega, by omega, sz_of (by show 1 * (((wd : Int) - 1) : Int).toNat ≤ _; omega), fun q2 hq2 => ?_⟩
    rw [show (((wd : Int) - 1) : Int).toNat = wd - 1 by omega, flat_rep]
    have f20 : Ex G19 _ := Ex.new (o := .lst (List.replicate (wd - 1) (.int 0))) hq2
    have kq2 : (upd G19 q2 (.lst (List.replicate (wd - 1) (.int 0)))) q2 = _ := upd_same
    generalize upd G19 q2 (.lst (List.replicate (wd - 1) (.int 0))) = G20 at f20 kq2
    have F20 := F19.trans f20
    have nq2 : H q2 = none := fresh_back F19 hq2
    refine ⟨b12, q2, _, _, rfl, rfl, ((f19.trans f20) b12 _ kb12), kq2, sz_of (by simp; omega), fun q3 hq3 => ?_⟩
    have f21 : Ex G20 _ := Ex.new (o := .lst ([.bl true] ++ List.replicate (wd - 1) (.int 0))) hq3
    have kq3 : (upd G20 q3 (.lst ([.bl true] ++ List.replicate (wd - 1) (.int 0)))) q3 = _ := upd_same
    generalize upd G20 q3 (.lst ([.bl true] ++ List.replicate (wd - 1) (.int 0))) = G21 at f21 kq3
    have F21 := F20.trans f21
    have nq3 : H q3 = none := fresh_back F20 hq3
    refine ⟨by show 1 ≤ sizeLine; decide, fun bq4 hbq4 => ?_⟩
    have f22 : Ex G21 _ := Ex.new (o := .lst [.non]) hbq4
    have kbq4 : (upd G21 bq4 (.lst [.non])) bq4 = _ := upd_same
    generalize upd G21 bq4 (.lst [.non]) = G22 at f22 kbq4
    have F22 := F21.trans f22
    have nbq4 : H bq4 = none := fresh_back F21 hbq4
    refine ⟨_, rfl, bq4, (wd : Int), _, rfl, rfl, kbq4, by omega, by omega, sz_of (by show 1 * ((wd : Int) : Int).toNat ≤ _; omega), fun q4 hq4 => ?_⟩
    rw [show ((wd : Int) : Int).toNat = wd by omega, flat_rep]
    have f23 : Ex G22 _ := Ex.new (o := .lst (List.replicate (wd) .non)) hq4
    have kq4 : (upd G22 q4 (.lst (List.replicate (wd) .non))) q4 = _ := upd_same
    generalize upd G22 q4 (.lst (List.replicate (wd) .non)) = G23 at f23 kq4
    have F23 := F22.trans f23
    have nq4 : H q4 = none := fresh_back F22 hq4
    refine ⟨by show 1 ≤ sizeLine; decide, fun b15 hb15 => ?_⟩
    have f24 : Ex G23 _ := Ex.new (o := .lst [.int 0]) hb15
    have kb15 : (upd G23 b15 (.lst [.int 0])) b15 = _ := upd_same
    generalize upd G23 b15 (.lst [.int 0]) = G24 at f24 kb15
    have F24 := F23.trans f24
    have nb15 : H b15 = none := fresh_back F23 hb15
    refine ⟨by show 1 ≤ sizeLine; decide, fun bq5 hbq5 => ?_⟩
    have f25 : Ex G24 _ := Ex.new (o := .lst [.ref b15]) hbq5
    have kbq5 : (upd G24 bq5 (.lst [.ref b15])) bq5 = _ := upd_same
    generalize upd G24 bq5 (.lst [.ref b15]) = G25 at f25 kbq5
    have F25 := F24.trans f25
    have nbq5 : H bq5 = none := fresh_back F24 hbq5
    refine ⟨_, rfl, bq5, (wd : Int), _, rfl, rfl, kbq5, by omega, by omega, sz_of (by show 1 * ((wd : Int) : Int).toNat ≤ _; omega), fun q5 hq5 => ?_⟩
    rw [show ((wd : Int) : Int).toNat = wd by omega, flat_rep]
    have f26 : Ex G25 _ := Ex.new (o := .lst (List.replicate (wd) (.ref b15))) hq5
    have kq5 : (upd G25 q5 (.lst (List.replicate (wd) (.ref b15)))) q5 = _ := upd_same
    generalize upd G25 q5 (.lst (List.replicate (wd) (.ref b15))) = G26 at f26 kq5
    have F26 := F25.trans f26
    have nq5 : H q5 = none := fresh_back F25 hq5
    refine ⟨by show 4 ≤ sizeLine; decide, fun M hM => ?_⟩
    have f27 : Ex G26 _ := Ex.new (o := .lst [.ref q1, .ref q3, .ref q4, .ref q5]) hM
    have kM : (upd G26 M (.lst [.ref q1, .ref q3, .ref q4, .ref q5])) M = _ := upd_same
    generalize upd G26 M (.lst [.ref q1, .ref q3, .ref q4, .ref q5]) = G27 at f27 kM
    have F27 := F26.trans f27
    have nM : H M = none := fresh_back F26 hM
    refine ⟨L, M, _, _, rfl, rfl, ((((((((((((f16.trans f17).trans f18).trans f19).trans f20).trans f21).trans f22).trans f23).trans f24).trans f25).trans f26).trans f27) L _ kL), kM, sz_of (by simp), fun R hR => ?_⟩
    have f28 : Ex G27 _ := Ex.new (o := .lst ([.non, .int 5, .str "ab", .ref t4, .ref d5, .ref p6, .ref p7, .ref p9, .ref p10, .ref p11] ++ [.ref q1, .ref q3, .ref q4, .ref q5])) hR
    have kR : (upd G27 R (.lst ([.non, .int 5, .str "ab", .ref t4, .ref d5, .ref p6, .ref p7, .ref p9, .ref p10, .ref p11] ++ [.ref q1, .ref q3, .ref q4, .ref q5]))) R = _ := upd_same
    generalize upd G27 R (.lst ([.non, .int 5, .str "ab", .ref t4, .ref d5, .ref p6, .ref p7, .ref p9, .ref p10, .ref p11] ++ [.ref q1, .ref q3, .ref q4, .ref q5])) = G28 at f28 kR
    have F28 := F27.trans f28
    have nR : H R = none := fresh_back F27 hR
    have x2 : Ex G15 G28 := ((((((((((((f16.trans f17).trans f18).trans f19).trans f20).trans f21).trans f22).trans f23).trans f24).trans f25).trans f26).trans f27).trans f28)
    have zl : ER K G28 (.ref b15) none := ⟨_, false, .base (.lst ((((f25.trans f26).trans f27).trans f28) b15 _ kb15)), by decide +kernel, fun h => by cases h⟩
    have all2 : ∀ v ∈ ([.non, .int 5, .str "ab", .ref t4, .ref d5, .ref p6, .ref p7, .ref p9, .ref p10, .ref p11] ++ [.ref q1, .ref q3, .ref q4, .ref q5] : List V), WrongV K wd whole G28 v ∧ NewV H v := by
      intro v hv
      rcases List.mem_append.mp hv with hv | hv
      · exact ⟨wrong_mono x2 (all1 v hv).1, (all1 v hv).2⟩
      simp only [List.mem_cons, List.not_mem_nil, or_false] at hv
      rcases hv with rfl | rfl | rfl | rfl
      · exact ⟨wrong_lst (((((((((((f18.trans f19).trans f20).trans f21).trans f22).trans f23).trans f24).trans f25).trans f26).trans f27).trans f28) q1 _ kq1) (paired_rep (zi 0 _) _) (by rw [List.length_replicate]; omega) (bad_len (by rw [List.length_replicate]; omega)), (fun p z => by cases z; exact nq1)⟩
      · exact ⟨wrong_lst (((((((f22.trans f23).trans f24).trans f25).trans f26).trans f27).trans f28) q3 _ kq3) (.cons (zb _ _) (paired_rep (zi 0 _) _)) (by rw [List.length_append, List.length_replicate]; show 1 + _ ≤ _; omega) (bad_int List.mem_cons_self), (fun p z => by cases z; exact nq3)⟩
      · exact ⟨wrong_lst (((((f24.trans f25).trans f26).trans f27).trans f28) q4 _ kq4) (paired_rep (zn _) _) (by rw [List.length_replicate]; omega) (bad_int (List.mem_replicate.mpr ⟨by omega, rfl⟩)), (fun p z => by cases z; exact nq4)⟩
      · exact ⟨wrong_lst ((f27.trans f28) q5 _ kq5) (paired_rep zl _) (by rw [List.length_replicate]; omega) (bad_int (List.mem_replicate.mpr ⟨by omega, rfl⟩)), (fun p z => by cases z; exact nq5)⟩
    cases whole with
    | true => exact ⟨_, rfl, rfl, _, rfl, iteF (tail R _ _ (E1.trans x2) kR (by simp) (by simp) all2)⟩
    | false =>
      refine ⟨_, rfl, rfl, _, rfl, iteT ⟨_, rfl, ?_⟩⟩
      refine ⟨by show 1 ≤ sizeLine; decide, fun br1 hbr1 => ?_⟩
      have f29 : Ex G28 _ := Ex.new (o := .lst [.int 2]) hbr1
      have kbr1 : (upd G28 br1 (.lst [.int 2])) br1 = _ := upd_same
      generalize upd G28 br1 (.lst [.int 2]) = G29 at f29 kbr1
      have F29 := F28.trans f29
      have nbr1 : H br1 = none := fresh_back F28 hbr1
      refine ⟨_, rfl, br1, (wd : Int), _, rfl, rfl, kbr1, by omega, by omega, sz_of (by show 1 * ((wd : Int) : Int).toNat ≤ _; omega), fun r1 hr1 => ?_⟩
      rw [show ((wd : Int) : Int).toNat = wd by omega, flat_rep]
      have f30 : Ex G29 _ := Ex.new (o := .lst (List.replicate (wd) (.int 2))) hr1
      have kr1 : (upd G29 r1 (.lst (List.replicate (wd) (.int 2)))) r1 = _ := upd_same
      generalize upd G29 r1 (.lst (List.replicate (wd) (.int 2))) = G30 at f30 kr1
      have F30 := F29.trans f30
      have nr1 : H r1 = none := fresh_back F29 hr1
      refine ⟨1, rfl, ?_⟩
      refine ⟨by show 1 ≤ sizeLine; decide, fun b22 hb22 => ?_⟩
      have f31 : Ex G30 _ := Ex.new (o := .lst [.int (-1)]) hb22
      have kb22 : (upd G30 b22 (.lst [.int (-1)])) b22 = _ := upd_same
      generalize upd G30 b22 (.lst [.int (-1)]) = G31 at f31 kb22
      have F31 := F30.trans f31
      have nb22 : H b22 = none := fresh_back F30 hb22
      refine ⟨by show 1 ≤ sizeLine; decide, fun br2 hbr2 => ?_⟩
      have f32 : Ex G31 _ := Ex.new (o := .lst [.int 0]) hbr2
      have kbr2 : (upd G31 br2 (.lst [.int 0])) br2 = _ := upd_same
      generalize upd G31 br2 (.lst [.int 0]) = G32 at f32 kbr2
      have F32 := F31.trans f32
      have nbr2 : H br2 = none := fresh_back F31 hbr2
      refine ⟨_, rfl, _, _, rfl, rfl, br2, ((wd : Int) - 1), _, rfl, rfl, kbr2, by omega, by omega, sz_of (by show 1 * (((wd : Int) - 1) : Int).toNat ≤ _; omega), fun r2 hr2 => ?_⟩
      rw [show (((wd : Int) - 1) : Int).toNat = wd - 1 by omega, flat_rep]
      have f33 : Ex G32 _ := Ex.new (o := .lst (List.replicate (wd - 1) (.int 0))) hr2
      have kr2 : (upd G32 r2 (.lst (List.replicate (wd - 1) (.int 0)))) r2 = _ := upd_same
      generalize upd G32 r2 (.lst (List.replicate (wd - 1) (.int 0))) = G33 at f33 kr2
      have F33 := F32.trans f33
      have nr2 : H r2 = none := fresh_back F32 hr2
      refine ⟨b22, r2, _, _, rfl, rfl, ((f32.trans f33) b22 _ kb22), kr2, sz_of (by simp; omega), fun r3 hr3 => ?_⟩
      have f34 : Ex G33 _ := Ex.new (o := .lst ([.int (-1)] ++ List.replicate (wd - 1) (.int 0))) hr3
      have kr3 : (upd G33 r3 (.lst ([.int (-1)] ++ List.replicate (wd - 1) (.int 0)))) r3 = _ := upd_same
      generalize upd G33 r3 (.lst ([.int (-1)] ++ List.replicate (wd - 1) (.int 0))) = G34 at f34 kr3
      have F34 := F33.trans f34
      have nr3 : H r3 = none := fresh_back F33 hr3
      refine ⟨by show 2 ≤ sizeLine; decide, fun M3 hM3 => ?_⟩
      have f35 : Ex G34 _ := Ex.new (o := .lst [.ref r1, .ref r3]) hM3
      have kM3 : (upd G34 M3 (.lst [.ref r1, .ref r3])) M3 = _ := upd_same
      generalize upd G34 M3 (.lst [.ref r1, .ref r3]) = G35 at f35 kM3
      have F35 := F34.trans f35
      have nM3 : H M3 = none := fresh_back F34 hM3
      refine ⟨R, M3, _, _, rfl, rfl, (((((((f29.trans f30).trans f31).trans f32).trans f33).trans f34).trans f35) R _ kR), kM3, sz_of (by simp), fun S hS => ?_⟩
      have f36 : Ex G35 _ := Ex.new (o := .lst ([.non, .int 5, .str "ab", .ref t4, .ref d5, .ref p6, .ref p7, .ref p9, .ref p10, .ref p11] ++ [.ref q1, .ref q3, .ref q4, .ref q5] ++ [.ref r1, .ref r3])) hS
      have kS : (upd G35 S (.lst ([.non, .int 5, .str "ab", .ref t4, .ref d5, .ref p6, .ref p7, .ref p9, .ref p10, .ref p11] ++ [.ref q1, .ref q3, .ref q4, .ref q5] ++ [.ref r1, .ref r3]))) S = _ := upd_same
      generalize upd G35 S (.lst ([.non, .int 5, .str "ab", .ref t4, .ref d5, .ref p6, .ref p7, .ref p9, .ref p10, .ref p11] ++ [.ref q1, .ref q3, .ref q4, .ref q5] ++ [.ref r1, .ref r3])) = G36 at f36 kS
      have F36 := F35.trans f36
      have nS : H S = none := fresh_back F35 hS
      have x3 : Ex G28 G36 := (((((((f29.trans f30).trans f31).trans f32).trans f33).trans f34).trans f35).trans f36)
      refine tail S _ _ ((E1.trans x2).trans x3) kS (by simp) (by simp) fun v hv => ?_
      rcases List.mem_append.mp hv with hv | hv
      · exact ⟨wrong_mono x3 (all2 v hv).1, (all2 v hv).2⟩
      simp only [List.mem_cons, List.not_mem_nil, or_false] at hv
      rcases hv with rfl | rfl
      · exact ⟨wrong_lst ((((((f31.trans f32).trans f33).trans f34).trans f35).trans f36) r1 _ kr1) (paired_rep (zi 2 _) _) (by rw [List.length_replicate]; omega) (bad_bit (List.mem_replicate.mpr ⟨by omega, rfl⟩) (by decide)), (fun p z => by cases z; exact nr1)⟩
      · exact ⟨wrong_lst ((f35.trans f36) r3 _ kr3) (.cons (zi (-1) _) (paired_rep (zi 0 _) _)) (by rw [List.length_append, List.length_replicate]; show 1 + _ ≤ _; omega) (bad_bit List.mem_cons_self (by decide)), (fun p z => by cases z; exact nr3)⟩
end
end L43
namespace L43
open PySem PySem.Spec PyProof.Rows L2 Evl Bf
def rsOf (kp : List (Str × List Int)) : Rws := kp.map fun q => (q.1, .lst (q.2.map some))
theorem keys_rsOf (kp : List (Str × List Int)) : keysW (rsOf kp) = kp.map (·.1) := by
  unfold keysW rsOf
  rw [List.map_map]
  rfl
def putW (rs : Rws) (n : Str) (r : RV) : Rws := if (rs.any fun e => decide (e.1 = n)) = true then rs.map (fun e => if e.1 = n then (e.1, r) else e) else rs ++ [(n, r)]
theorem any_keys (rs : Rws) (n : Str) : (rs.any fun e => decide (e.1 = n)) = decide (n ∈ keysW rs) := by
  unfold keysW
  by_cases h : n ∈ rs.map (·.1)
  · rw [decide_eq_true h]
    obtain ⟨e, he, hn⟩ := List.mem_map.mp h
    exact List.any_eq_true.mpr ⟨e, he, decide_eq_true hn⟩
  · rw [decide_eq_false h]
    refine Bool.eq_false_iff.mpr fun z => h ?_
    obtain ⟨e, he, hn⟩ := List.any_eq_true.mp z
    exact List.mem_map.mpr ⟨e, he, of_decide_eq_true hn⟩
theorem put_keys {rs : Rws} {n : Str} {r : RV} (h : n ∈ keysW rs) : keysW (putW rs n r) = keysW rs := by
  unfold putW
  rw [if_pos (by rw [any_keys]; exact decide_eq_true h)]
  unfold keysW
  rw [List.map_map]
  refine List.map_congr_left fun e _ => ?_
  show (if e.1 = n then (e.1, r) else e).1 = e.1
  by_cases z : e.1 = n
  · rw [if_pos z]
  · rw [if_neg z]
theorem put_new {rs : Rws} {n : Str} {r : RV} (h : n ∉ keysW rs) : putW rs n r = rs ++ [(n, r)] := by
  unfold putW
  rw [if_neg (by rw [any_keys]; simpa using h)]
theorem look_put {rs : Rws} {n m : Str} {r : RV} : lookW (putW rs n r) m = if m = n then r else lookW rs m := by
  by_cases h : n ∈ keysW rs
  · unfold putW
    rw [if_pos (by rw [any_keys]; exact decide_eq_true h)]
    unfold keysW at h
    unfold lookW
    induction rs with
    | nil => cases h
    | cons p t ih =>
      rw [List.map_cons, List.find?_cons, List.find?_cons]
      by_cases c : p.1 = n
      · rw [if_pos c]
        by_cases d : m = n
        · subst d
          rw [decide_eq_true c, if_pos rfl]
          rfl
        · have d' : ¬ p.1 = m := fun z => d (z ▸ c)
          rw [decide_eq_false d', if_neg d]
          by_cases hm : n ∈ t.map (·.1)
          · have := ih hm
            rw [if_neg d] at this
            exact this
          · have e : t.map (fun e => if e.1 = n then (e.1, r) else e) = t := by
              refine (List.map_congr_left fun e he => ?_).trans (List.map_id t)
              rw [if_neg fun z => hm (List.mem_map.mpr ⟨e, he, z⟩)]
              rfl
            rw [e]
      · rw [if_neg c]
        have hm : n ∈ t.map (·.1) := by
          rcases List.mem_cons.mp h with z | z
          · exact absurd z.symm c
          · exact z
        by_cases d : p.1 = m
        · rw [decide_eq_true d, if_neg (fun z => c (d.trans z))]
        · rw [decide_eq_false d]
          exact ih hm
  · rw [put_new h]
    unfold lookW
    rw [List.find?_append]
    by_cases d : m = n
    · subst d
      rw [if_pos rfl]
      have : rs.find? (fun e => decide (e.1 = m)) = none := List.find?_eq_none.mpr fun e he z => h (List.mem_map.mpr ⟨e, he, of_decide_eq_true z⟩)
      rw [this]
      rw [Option.none_or, List.find?_cons, decide_eq_true rfl]
      rfl
    · rw [if_neg d]
      cases e : rs.find? (fun e => decide (e.1 = m)) with
      | some x => rfl
      | none =>
        rw [Option.none_or, List.find?_cons, decide_eq_false (fun z => d z.symm)]
        rfl
section
variable {P : Program} {w : World} {K : PySem.W.Frag} {mg : Str → Option Value} {base : Heap} {f fi : Addr} {fd fdi : FuncData}
theorem tyx_updD {H : Hp} {v : V} {t : String} {d : Addr} {kvs kvs' : List (Key × V)} (hd : H d = some (.dK kvs)) (h : TyX K H v (.type t)) : TyX K (upd H d (.dK kvs')) v (.type t) := by
  have ne : ∀ {a : Addr} {o : HO}, H a = some o → (∀ q, o ≠ .dK q) → (upd H d (.dK kvs')) a = some o := fun {a o} h n => by
    by_cases z : a = d
    · rw [z, hd] at h
      exact absurd (Option.some.inj h).symm (n _)
    · rw [upd_ne z]; exact h
  cases h with
  | base b =>
    cases b with
    | non => exact .base .non
    | bl x => exact .base (.bl x)
    | int i => exact .base (.int i)
    | str x => exact .base (.str x)
    | flt x => exact .base (.flt x)
    | lst q => exact .base (.lst (ne q fun _ z => by cases z))
    | frz q => exact .base (.frz (ne q fun _ z => by cases z))
    | tup q => exact .base (.tup (ne q fun _ z => by cases z))
    | @dK a kv q =>
      by_cases z : a = d
      · subst z; exact .base (.dK upd_same)
      · exact .base (.dK (by rw [upd_ne z]; exact q))
    | dT q => exact .base (.dT (ne q fun _ z => by cases z))
  | byt b => exact .byt b
  | set q => exact .set (ne q fun _ z => by cases z)
  | kList q c => exact .kList q c
  | kTuple q c => exact .kTuple q c
  | kDict q c => exact .kDict q c
  | fTuple q => exact .fTuple (ne q fun _ z => by cases z)
  | fDict q => exact .fDict (ne q fun _ z => by cases z)
theorem er_ints {H : Hp} : ∀ is : List Int, Paired (ER K H) (is.map V.int) (is.map some)
  | [] => .nil
  | _ :: r => .cons rfl (er_ints r)
theorem wr_of {H : Hp} {kvs : List (Key × V)} {kp : List (Str × List Int)} (h : LR H kvs kp) (hl : ∀ q ∈ kp, q.2.length ≤ 1000) : WR K H kvs (rsOf kp) := by
  unfold LR at h
  unfold WR rsOf
  induction h with
  | nil => exact .nil
  | @cons p q ps qs a t ih =>
    obtain ⟨a1, l, a2, a3⟩ := a
    exact .cons ⟨a1, l, _, a2, a3, er_ints q.2, by rw [List.length_map]; exact hl q List.mem_cons_self⟩ (ih fun q hq => hl q (List.mem_cons_of_mem _ hq))
theorem wr_put {H : Hp} {kvs : List (Key × V)} {rs : Rws} {n : Str} {v : V} {r : RV} (h : WR K H kvs rs) (ht : RVR K H v r) : WR K H (putK kvs (Sum.inr n) v) (putW rs n r) := by
  have ha : (kvs.any fun kv => decide (kv.1 = Sum.inr n)) = rs.any fun e => decide (e.1 = n) := by
    unfold WR at h
    clear ht
    induction h with
    | nil => rfl
    | @cons p q ps qs a t ih =>
      rw [List.any_cons, List.any_cons, ih, a.1]
      congr 1
      exact decide_eq_decide.mpr ⟨fun z => Sum.inr.inj z, fun z => by rw [z]⟩
  unfold putK putW
  rw [ha]
  by_cases c : (rs.any fun e => decide (e.1 = n)) = true
  · rw [if_pos c, if_pos c]
    clear c ha
    unfold WR at h ⊢
    induction h with
    | nil => exact .nil
    | @cons p q ps qs a t ih =>
      rw [List.map_cons, List.map_cons]
      refine .cons ?_ ih
      by_cases e : q.1 = n
      · rw [if_pos (by rw [a.1, e]), if_pos e]
        exact ⟨a.1, ht⟩
      · rw [if_neg (by rw [a.1]; exact fun z => e (Sum.inr.inj z)), if_neg e]
        exact a
  · rw [if_neg c, if_neg c]
    exact paired_snoc h ⟨rfl, ht⟩
/-- a dict changes: rows stay -/
theorem er_updD {H : Hp} {v : V} {e : Option Int} {d : Addr} {kvs kvs' : List (Key × V)} (hd : H d = some (.dK kvs)) (h : ER K H v e) : ER K (upd H d (.dK kvs')) v e := by
  cases e with
  | some i => exact h
  | none =>
    obtain ⟨t, b, ty, k⟩ := h
    exact ⟨t, b, tyx_updD hd ty, k⟩
theorem rvr_updD {H : Hp} {v : V} {r : RV} {d : Addr} {kvs kvs' : List (Key × V)} (hd : H d = some (.dK kvs)) (h : RVR K H v r) : RVR K (upd H d (.dK kvs')) v r := by
  cases r with
  | lst es =>
    obtain ⟨p, vs, h1, h2, h3, h4⟩ := h
    exact ⟨p, vs, h1, by rw [upd_ne fun z => by rw [z, hd] at h2; cases h2]; exact h2, Paired.mapP h3 fun _ _ z => er_updD hd z, h4⟩
  | oth =>
    obtain ⟨t, h1, h2⟩ := h
    exact ⟨t, tyx_updD hd h1, h2⟩
theorem wr_updD {H : Hp} {d : Addr} {kvs kvs' ks : List (Key × V)} {rs : Rws} (hd : H d = some (.dK kvs)) (h : WR K H ks rs) : WR K (upd H d (.dK kvs')) ks rs := Paired.mapP h fun _ _ z => ⟨z.1, rvr_updD hd z.2⟩
theorem tyx_updL {H : Hp} {v : V} {t : String} {d : Addr} {xs ys : List V} (hd : H d = some (.lst xs)) (h : TyX K H v (.type t)) : TyX K (upd H d (.lst ys)) v (.type t) := by
  have ne : ∀ {a : Addr} {o : HO}, H a = some o → (∀ q, o ≠ .lst q) → (upd H d (.lst ys)) a = some o := fun {a o} h n => by
    by_cases z : a = d
    · rw [z, hd] at h
      exact absurd (Option.some.inj h).symm (n _)
    · rw [upd_ne z]; exact h
  cases h with
  | base b =>
    cases b with
    | non => exact .base .non
    | bl x => exact .base (.bl x)
    | int i => exact .base (.int i)
    | str x => exact .base (.str x)
    | flt x => exact .base (.flt x)
    | @lst a kv q =>
      by_cases z : a = d
      · subst z; exact .base (.lst upd_same)
      · exact .base (.lst (by rw [upd_ne z]; exact q))
    | frz q => exact .base (.frz (ne q fun _ z => by cases z))
    | tup q => exact .base (.tup (ne q fun _ z => by cases z))
    | dK q => exact .base (.dK (ne q fun _ z => by cases z))
    | dT q => exact .base (.dT (ne q fun _ z => by cases z))
  | byt b => exact .byt b
  | set q => exact .set (ne q fun _ z => by cases z)
  | kList q c => exact .kList q c
  | kTuple q c => exact .kTuple q c
  | kDict q c => exact .kDict q c
  | fTuple q => exact .fTuple (ne q fun _ z => by cases z)
  | fDict q => exact .fDict (ne q fun _ z => by cases z)
theorem rvr_updL {H : Hp} {v : V} {r : RV} {d : Addr} {xs ys : List V} (hd : H d = some (.lst xs)) (nv : v ≠ .ref d) (h : RVR K H v r) : RVR K (upd H d (.lst ys)) v r := by
  cases r with
  | lst es =>
    obtain ⟨p, vs, h1, h2, h3, h4⟩ := h
    refine ⟨p, vs, h1, by rw [upd_ne fun z => nv (by rw [h1, z])]; exact h2, Paired.mapP h3 fun v e z => ?_, h4⟩
    cases e with
    | some i => exact z
    | none =>
      obtain ⟨t, b, ty, k⟩ := z
      exact ⟨t, b, tyx_updL hd ty, k⟩
  | oth =>
    obtain ⟨t, h1, h2⟩ := h
    exact ⟨t, tyx_updL hd h1, h2⟩
theorem wr_updL {H : Hp} {d : Addr} {xs ys : List V} {rs : Rws} : ∀ {ks : List (Key × V)} {rs : Rws}, H d = some (.lst xs) → (∀ q ∈ ks, q.2 ≠ .ref d) → WR K H ks rs → WR K (upd H d (.lst ys)) ks rs
  | _, _, _, _, .nil => .nil
  | _, _, hd, nv, .cons z t => .cons ⟨z.1, rvr_updL hd (nv _ List.mem_cons_self) z.2⟩ (wr_updL (rs := rs) hd (fun q hq => nv q (List.mem_cons_of_mem _ hq)) t)
theorem put_mem {kvs : List (Key × V)} {k : Key} {v : V} {q : Key × V} (h : q ∈ putK kvs k v) : q.2 = v ∨ q ∈ kvs := by
  unfold putK at h
  split at h
  · obtain ⟨p, hp, e⟩ := List.mem_map.mp h
    by_cases c : p.1 = k
    · rw [if_pos c] at e
      rw [← e]
      exact .inl rfl
    · rw [if_neg c] at e
      rw [← e]
      exact .inr hp
  · rcases List.mem_append.mp h with h | h
    · exact .inr h
    · rw [List.mem_singleton.mp h]; exact .inl rfl
def KpOk (wd : Nat) (whole : Bool) (kp : List (Str × List Int)) : Prop := ∀ q ∈ kp, q.2.length = wd ∧ (whole = false → ∀ i ∈ q.2, i = 0 ∨ i = 1)
theorem good_of {wd : Nat} {whole : Bool} {kp : List (Str × List Int)} (ok : KpOk wd whole kp) (nd : (kp.map (·.1)).Nodup) {n : Str} (hn : n ∈ kp.map (·.1)) : GoodR wd whole (lookW (rsOf kp) n) := by
  obtain ⟨q, hq, rfl⟩ := List.mem_map.mp hn
  have e : lookW (rsOf kp) q.1 = .lst (q.2.map some) := by
    unfold lookW rsOf
    rw [List.find?_map]
    have e1 : ((fun e : Str × RV => decide (e.1 = q.1)) ∘ fun q : Str × List Int => (q.1, RV.lst (q.2.map some))) = fun e => decide (e.1 = q.1) := rfl
    rw [e1]
    have h := lookI_in nd hq
    unfold lookI at h
    cases z : kp.find? (fun e => decide (e.1 = q.1)) with
    | none => rw [z] at h; cases h
    | some x =>
      rw [z] at h
      have : x.2 = q.2 := Option.some.inj h
      show RV.lst (x.2.map some) = _
      rw [this]
  obtain ⟨o1, o2⟩ := ok q hq
  refine ⟨_, e, by rw [List.length_map]; exact o1, List.all_eq_true.mpr fun x hx => ?_, ?_⟩
  · obtain ⟨i, _, rfl⟩ := List.mem_map.mp hx
    rfl
  · cases whole with
    | true => rfl
    | false =>
      refine List.all_eq_true.mpr fun x hx => ?_
      obtain ⟨i, hi, rfl⟩ := List.mem_map.mp hx
      rcases o2 rfl i hi with rfl | rfl <;> rfl
def spRefused (K : PySem.W.Frag) : Sp := fun vs H Q _ => ∃ (a d : Addr) (kvs : List (Key × V)) (kp : List (Str × List Int)) (wd : Nat) (whole : Bool), vs = [.ref a, .ref d, .int wd, .str (ovS whole)] ∧ WellAt H a ∧ H d = some (.dK kvs) ∧ LR H kvs kp ∧ KpOk wd whole kp ∧
  (kp.map (·.1)).Nodup ∧ (∀ n ∈ kp.map (·.1), isNm n = true) ∧ 2 ≤ kp.length ∧ kp.length ≤ 9 ∧ wd ≤ 9 ∧ ∀ G, Ex H G → Q (.bl true) G
def oddK : List Str := ["", "A", "a1", "a b", "toolongna", repS "z" 9, "zz-"]
instance (z : Str) : Decidable (StrOk z) := inferInstanceAs (Decidable (_ ∧ _))
theorem odd_no : ∀ z ∈ oddK, isNm z = false ∧ StrOk z := by decide +kernel
theorem min_head {Bs : List Str} (h : Bs ≠ []) : ∃ m ∈ Bs, ∀ y ∈ Bs, leS m y = true := by
  have pos : 0 < (srt Bs).length := by rw [srt_len]; exact List.length_pos_iff.mpr h
  refine ⟨(srt Bs)[0], srt_mem.mp (List.getElem_mem pos), fun y hy => ?_⟩
  obtain ⟨j, hj, rfl⟩ := List.mem_iff_getElem.mp (srt_mem.mpr hy)
  by_cases c : j = 0
  · subst c; exact leS_iff.mpr (Std.le_refl _)
  · exact (List.pairwise_iff_getElem.mp (srt_pw Bs)) 0 j pos hj (by omega)
theorem ok_refused (F : FnS K "_law_refused" "_law_refused" sRefused f fd) (B : Bl mg) (c__law_draw : Cal P w K mg base CX0 1 "_law_draw" ["_law_state_here", "_law_many"] spDraw)
    (c__law_wrong_row : Cal P w K mg base CX0 2 "_law_wrong_row" ["_law_state_here", "_law_width", "_law_over"] (spWrong K)) (c__law_told : Cal P w K mg base CX0 5 "_law_told" ["_law_rows_here", "_law_over"] (spTold K)) :
    FnOk P w K mg base CX0 6 f fd ["_law_state_here", "_law_rows_here", "_law_width", "_law_over"] (spRefused K) := by
  refine okD F scRefused (fun vs H Q E h => ?_) (fun cdv A outer s H vs Q E hr h => ?_)
  · obtain ⟨a, d, kvs, kp, wd, whole, rfl, _⟩ := h
    rfl
  · obtain ⟨a, d, kvs, kp, wd, whole, rfl, hw, hd, lr, kok, nd, nm, l2, l9, hwd, q⟩ := h
    have hu := hu_of hr
    refine ⟨_, (pss_cons (ps_set (i := 4) scRefused.nd rfl (.inl rfl) (pe_callB (call_sortedD rfl) (by rfl) B.sorted (by decide +kernel) (pa_cons (pv 1) pa_nil)))
      (pss_cons (ps_set (i := 5) scRefused.nd rfl (.inl rfl) (pe_callTy call_dictD (by rfl) B.dict (by decide +kernel) (pa_cons (pv 1) pa_nil)))
      (pss_cons (ps_set (i := 6) scRefused.nd rfl (.inl rfl) (pe_lst pa_nil))
      (pss_cons (ps_for PassesOwn.never (by rfl) (pi_range1 (by rfl) B.range (pa_cons (pe_op op_add pe_int (pe_cal c__law_draw (hr.mono (by decide)) pass0 (pa_cons (pv 0) (pa_cons pe_int pa_nil)))) pa_nil)) (pg_name (i := 7) scRefused.nd rfl (.inl rfl))
      (pss_cons (ps_set (i := 8) scRefused.nd rfl (.inl rfl) (pe_op op_add pe_int (pe_cal c__law_draw (hr.mono (by decide)) pass0 (pa_cons (pv 0) (pa_cons (pe_op op_sub (pe_callB call_len_seq (by rfl) B.len (by decide +kernel) (pa_cons (pv 4) pa_nil)) pe_int) pa_nil)))))
      (pss_cons (ps_dput hu (pv 5) (pe_ix ix_list (pv 4) (pv 8) (fun _ _ => rfl)) (pe_cal c__law_wrong_row (hr.mono (by decide)) pass0 (pa_cons (pv 0) (pa_cons (pv 2) (pa_cons (pv 3) pa_nil)))) rfl)
      (pss_one (ps_expr (pe_bm PySem.F.plainAttrs_list PySem.F.slot_list_append PySem.F.type_list_append mt_append (pv 6) (pa_cons (pe_ix ix_list (pv 4) (pv 8) (fun _ _ => rfl)) pa_nil)))))))
      (pss_cons (ps_if (pt_cmpR op_eq (pe_cal c__law_draw (hr.mono (by decide)) pass0 (pa_cons (pv 0) (pa_cons pe_int pa_nil))) pe_int (nomark _))
      (pss_cons (ps_set (i := 9) scRefused.nd rfl (.inl rfl) (pe_ix ix_list (pe_lst (pa_cons pe_str (pa_cons pe_str (pa_cons pe_str (pa_cons pe_str (pa_cons pe_str (pa_cons (pe_op op_mulS pe_str pe_int) (pa_cons pe_str pa_nil)))))))) (pe_cal c__law_draw (hr.mono (by decide)) pass0 (pa_cons (pv 0) (pa_cons pe_int pa_nil))) (fun _ _ => rfl)))
      (pss_cons (ps_dput hu (pv 5) (pv 9) (pe_op op_rep (pe_lst (pa_cons pe_int pa_nil)) (pv 2)) rfl)
      (pss_one (ps_expr (pe_bm PySem.F.plainAttrs_list PySem.F.slot_list_append PySem.F.type_list_append mt_append (pv 6) (pa_cons (pv 9) pa_nil))))))
      pss_nil)
      (pss_one (ps_ret (pe_cmpR (op_eqD hr.units) (pe_cal c__law_told (hr.mono (by decide)) pass0 (pa_cons (pv 5) (pa_cons (pv 3) pa_nil))) (pe_tup (pa_cons pe_str (pa_cons (pe_callB (cr_minS rfl) (by rfl) B.min (by decide +kernel) (pa_cons (pv 6) pa_nil)) (pa_cons pe_bl pa_nil)))) (nomark _))))))))), ?_⟩
    have kl : (kp.map (·.1)).length = kp.length := List.length_map _
    -- things
    refine ⟨_, rfl, d, kvs, kp.map (·.1), rfl, .inl hd, lr_keys lr, by omega, fun T tl pT sT htl => ?_⟩
    have eT := srt_eq pT sT
    subst eT
    have f1 : Ex H _ := Ex.new (o := .lst ((srt (kp.map (·.1))).map V.str)) htl
    have ktl : (upd H tl (.lst ((srt (kp.map (·.1))).map V.str))) tl = _ := upd_same
    generalize upd H tl (.lst ((srt (kp.map (·.1))).map V.str)) = G1 at f1 ktl
    refine ⟨_, rfl, d, kvs, rfl, .inl (f1 d _ hd), fun fo hfo => ?_⟩
    have f2 : Ex G1 _ := Ex.new (o := .dK kvs) hfo
    have kfo : (upd G1 fo (.dK kvs)) fo = _ := upd_same
    generalize upd G1 fo (.dK kvs) = G2 at f2 kfo
    refine ⟨Nat.zero_le _, fun bl hbl => ?_⟩
    have f3 : Ex G2 _ := Ex.new (o := .lst []) hbl
    have kbl : (upd G2 bl (.lst [])) bl = _ := upd_same
    generalize upd G2 bl (.lst []) = G3 at f3 kbl
    have F3 := (f1.trans f2).trans f3
    have ktl3 := (f2.trans f3) tl _ ktl
    have kfo3 := f3 fo _ kfo
    have fob : fo ≠ bl := fun z => by rw [z, kbl] at kfo3; cases kfo3
    have wr0 : WR K G3 kvs (rsOf kp) := wr_of (lr_mono F3 lr) (fun q hq => by rw [(kok q hq).1]; omega)
    have foH : G1 fo = none := hfo
    have b1n : G1 bl = none := fresh_back f2 hbl
    have nb0 : ∀ q ∈ kvs, q.2 ≠ .ref bl := fun q hq z => by
      obtain ⟨i, hi, ei⟩ := List.mem_iff_getElem.mp hq
      obtain ⟨q', _, _, l, h1, h2⟩ := paired_at lr (List.getElem?_eq_getElem hi)
      rw [ei, z] at h1
      have e := V.ref.inj h1
      rw [← e] at h2
      rw [f1 _ _ h2] at b1n
      cases b1n
    refine ⟨_, rfl, a, 2, rfl, wellAt_mono F3 hw, by decide, by decide, fun k k0 k1 => ⟨_, _, rfl, rfl, ?_⟩⟩
    obtain ⟨m, hm⟩ := Int.eq_ofNat_of_zero_le (show 0 ≤ 1 + k by omega)
    have m12 : 1 ≤ m ∧ m ≤ 2 := by omega
    refine ⟨m, by show [V.int (1 + k)] = _; rw [hm], by omega, by omega, for_range (lo := 0) (n := m) (fun i σ G => ∃ y7 y8 y9 kvs' rs Bs, σ = [some (.ref a), some (.ref d), some (.int wd), some (.str (ovS whole)), some (.ref tl), some (.ref fo), some (.ref bl), y7, y8, y9] ∧
        Ex G1 G ∧ G fo = some (.dK kvs') ∧ G bl = some (.lst (Bs.map V.str)) ∧ WR K G kvs' rs ∧ (∀ q ∈ kvs', q.2 ≠ .ref bl) ∧ keysW rs = kp.map (·.1) ∧ Bs.length = i ∧ (∀ n ∈ Bs, n ∈ kp.map (·.1) ∧ n ≠ (srt (kp.map (·.1))).getD 0 "") ∧
        (∀ n ∈ kp.map (·.1), n ∉ Bs → GoodR wd whole (lookW rs n)) ∧ ∀ n ∈ Bs, rowOk (some wd) whole (lookW rs n) = false)
      ⟨_, _, _, kvs, rsOf kp, [], rfl, f2.trans f3, kfo3, kbl, wr0, nb0, keys_rsOf kp, rfl, (fun n hn => by cases hn), (fun n hn _ => good_of kok nd hn), (fun n hn => by cases hn)⟩ (fun i σ G hi hP => ?_) (fun σ G hP => ?_)⟩
    · obtain ⟨y7, y8, y9, kvs', rs, Bs, rfl, e1, hfo1, hbl1, wr, nb, kw, lB, sB, gB, bB⟩ := hP
      have FF := f1.trans e1
      have htl1 := e1 tl _ ktl
      refine ⟨_, rfl, _, rfl, tl, _, rfl, .inl (sq_of htl1), _, _, rfl, rfl, a, _, rfl, wellAt_mono FF hw, by rw [List.length_map, srt_len]; omega, by rw [List.length_map, srt_len]; omega, fun d2 d20 d21 => ⟨_, _, rfl, rfl, ?_⟩⟩
      rw [List.length_map, srt_len, kl] at d21
      obtain ⟨x, hx⟩ := Int.eq_ofNat_of_zero_le (show 0 ≤ 1 + d2 by omega)
      have x1 : 1 ≤ x ∧ x < kp.length := by omega
      show gName 8 (V.int (1 + d2)) _ _ _
      rw [hx]
      have hxT : x < (srt (kp.map (·.1))).length := by rw [srt_len, kl]; exact x1.2
      have at_ : atI ((srt (kp.map (·.1))).map V.str) (x : Int) = some (.str ((srt (kp.map (·.1)))[x])) := atI_nat (by rw [List.getElem?_map, List.getElem?_eq_getElem hxT]; rfl)
      have nT : (srt (kp.map (·.1)))[x] ∈ kp.map (·.1) := srt_mem.mp (List.getElem_mem hxT)
      have n0 : (srt (kp.map (·.1)))[x] ≠ (srt (kp.map (·.1))).getD 0 "" := fun z => by
        have h0 : 0 < (srt (kp.map (·.1))).length := by omega
        have e : (srt (kp.map (·.1))).getD 0 "" = (srt (kp.map (·.1)))[0] := by simp [List.getD, h0]
        rw [e] at z
        exact (List.pairwise_iff_getElem.mp (nodup_perm (srt_perm _) nd)) 0 x h0 hxT (by omega) z.symm
      generalize (srt (kp.map (·.1)))[x] = n at at_ nT n0
      refine ⟨_, rfl, _, rfl, _, rfl, a, wd, whole, rfl, wellAt_mono FF hw, hwd, fun v G5 x5 wv nv => ?_⟩
      have hfo5 := x5 fo _ hfo1
      have len5 := wr_len wr
      have lrs : rs.length = kp.length := by rw [← keysW_len, kw, kl]
      refine ⟨_, rfl, _, rfl, _, rfl, tl, _, _, _, rfl, rfl, sq_of (x5 tl _ htl1), at_, fo, _, rfl, DPut.k (k := Sum.inr n) hfo5 (sz_lt (by omega)), ?_⟩
      obtain ⟨r, rv, ro⟩ := wv
      have e6 : Ex G1 (upd G5 fo (.dK (putK kvs' (Sum.inr n) v))) := Ex.mut (e1.trans x5) foH
      have w6 : WR K (upd G5 fo (.dK (putK kvs' (Sum.inr n) v))) (putK kvs' (Sum.inr n) v) (putW rs n r) := wr_put (wr_updD hfo5 (wr_mono x5 wr)) (rvr_updD hfo5 rv)
      have h6 : (upd G5 fo (.dK (putK kvs' (Sum.inr n) v))) fo = _ := upd_same
      have b6 : (upd G5 fo (.dK (putK kvs' (Sum.inr n) v))) bl = some (.lst (Bs.map V.str)) := by rw [upd_ne fob.symm]; exact x5 bl _ hbl1
      generalize upd G5 fo (.dK (putK kvs' (Sum.inr n) v)) = G6 at e6 w6 h6 b6
      have szl : (Bs.map V.str).length < sizeLine := by rw [List.length_map]; exact sz_lt (by omega)
      refine ⟨_, rfl, .inl ⟨rfl, _, sq_of b6⟩, _, rfl, _, rfl, tl, _, _, _, rfl, rfl, sq_of (e6 tl _ ktl), at_, bl, _, _, rfl, rfl, b6, szl, ?_⟩
      have nk : n ∈ keysW rs := by rw [kw]; exact nT
      have nb6 : ∀ q ∈ putK kvs' (Sum.inr n) v, q.2 ≠ .ref bl := fun q hq z => by
        rcases put_mem hq with h | h
        · rw [h] at z
          rw [nv bl z] at hbl1
          cases hbl1
        · exact nb q h z
      refine ⟨_, _, _, _, putW rs n r, Bs ++ [n], rfl, Ex.mut e6 b1n, by rw [upd_ne fob]; exact h6, by rw [upd_same, List.map_append]; rfl, wr_updL (rs := rs) b6 nb6 w6, nb6, by rw [put_keys nk, kw], by rw [List.length_append, lB]; rfl, fun y hy => ?_, fun y hy hn => ?_, fun y hy => ?_⟩
      · rcases List.mem_append.mp hy with h | h
        · exact sB y h
        · rw [List.mem_singleton.mp h]; exact ⟨nT, n0⟩
      · have h1 : y ∉ Bs := fun z => hn (List.mem_append_left _ z)
        have h2 : y ≠ n := fun z => hn (List.mem_append_right _ (List.mem_singleton.mpr z))
        rw [look_put, if_neg h2]
        exact gB y hy h1
      · rw [look_put]
        by_cases c : y = n
        · rw [if_pos c]; exact ro
        · rw [if_neg c]
          rcases List.mem_append.mp hy with h | h
          · exact bB y h
          · exact absurd (List.mem_singleton.mp h) c
    · obtain ⟨y7, y8, y9, kvs', rs, Bs, rfl, e1, hfo1, hbl1, wr, nb, kw, lB, sB, gB, bB⟩ := hP
      have FF := f1.trans e1
      have lrs : rs.length = kp.length := by rw [← keysW_len, kw, kl]
      have nmOk : ∀ n ∈ kp.map (·.1), StrOk n := fun n hn => Bf.nm_ok (nm n hn)
      -- told, and the least
      have tail : ∀ (kvs' : List (Key × V)) (rs : Rws) (Bs : List Str) (G : Hp) (y9 : Option V), Ex H G → G fo = some (.dK kvs') → G bl = some (.lst (Bs.map V.str)) → WR K G kvs' rs → Bads rs wd whole Bs → Bs ≠ [] → (∀ n ∈ keysW rs, StrOk n) →
          tRet (tOp (rEqD K) (tCall (spTold K) [] E0 (tCons (tVar 5) (tCons (tVar 3) tNil))) (tTup (tCons (tC (.str "rows")) (tCons (tCB (rMinS K) (tCons (tVar 6) tNil)) (tCons (tC (.bl true)) tNil))))) { nx := fun _ H' => Q .non H', rt := Q }
            [some (.ref a), some (.ref d), some (.int wd), some (.str (ovS whole)), some (.ref tl), some (.ref fo), some (.ref bl), y7, y8, y9] G := fun kvs' rs Bs G y9 e hf hb wr bd ne so => by
        obtain ⟨m, hm, hmin⟩ := min_head ne
        refine ⟨_, rfl, _, rfl, fo, rs, whole, rfl, ⟨⟨kvs', hf, wr⟩, bd.nd, by have := bd.len; omega, so⟩, ?_⟩
        rw [due_bad bd hm hmin]
        refine fun qt G2 x2 hq => ⟨_, rfl, bl, Bs, rfl, sq_of (x2 bl _ hb), ne, fun m2 hm2 hmin2 => ?_⟩
        have em : m2 = m := leS_antisymm (hmin2 m hm) (hmin m2 hm2)
        subst em
        refine ⟨by show 3 ≤ sizeLine; decide, fun t ht => ?_⟩
        have sm := (so m2 (bd.sub m2 hm)).2
        have sh : SeqAt.shaped (.tuple [.str "rows", .str m2, .bool true]) = true := by
          show ((PyData.strOk "rows" && (PyData.strOk m2 && (true && true))) && decide (max 0 (max 0 (max 0 0)) + 1 ≤ 64)) = true
          rw [sm, show PyData.strOk "rows" = true by decide +kernel]
          rfl
        refine ⟨_, _, .tup (st_of (Ex.new ht qt _ hq)) (.cons (.str _) (.cons (.str m2) (.cons (.bl true) .nil))), .tup (st_of upd_same) (.cons (.str _) (.cons (.str m2) (.cons (.bl true) .nil))), sh, sh, ?_⟩
        have ee : PyData.eqv (.tuple [.str "rows", .str m2, .bool true]) (.tuple [.str "rows", .str m2, .bool true]) = true := by
          show ((("rows" : Str) == "rows") && ((m2 == m2) && ((true == true) && true))) = true
          simp
        rw [ee]
        exact q _ (e.trans (x2.trans (Ex.new ht)))
      have bd : Bads rs wd whole Bs := ⟨by rw [kw]; exact nd, by omega, by omega, fun n hn => by rw [kw]; exact (sB n hn).1, fun n hn hB => by rw [kw] at hn; exact ⟨nm n hn, gB n hn hB⟩, fun n hn => .inr (bB n hn), fun m hm hl => by
        have h0 : 0 < (srt (kp.map (·.1))).length := by rw [srt_len, kl]; omega
        have e0 : (srt (kp.map (·.1))).getD 0 "" = (srt (kp.map (·.1)))[0] := by simp [List.getD, h0]
        have k0 : (srt (kp.map (·.1)))[0] ∈ kp.map (·.1) := srt_mem.mp (List.getElem_mem h0)
        obtain ⟨j, hj, ej⟩ := List.mem_iff_getElem.mp (srt_mem.mpr (sB m hm).1)
        have h1 := hl _ (by rw [kw]; exact k0)
        have h2 : leS (srt (kp.map (·.1)))[0] m = true := by
          by_cases c : j = 0
          · subst c; rw [ej]; exact leS_iff.mpr (Std.le_refl _)
          · have := (List.pairwise_iff_getElem.mp (srt_pw (kp.map (·.1)))) 0 j h0 hj (by omega)
            rw [ej] at this
            exact this
        exact absurd ((leS_antisymm h1 h2).trans e0.symm) (sB m hm).2⟩
      have ne : Bs ≠ [] := fun z => by rw [z] at lB; simp at lB; omega
      refine ⟨_, rfl, a, 2, rfl, wellAt_mono FF hw, by decide, by decide, fun c c0 c1 => ⟨rfl, _, rfl, iteB (fun c2 => ?_) (fun c2 => tail kvs' rs Bs G _ FF hfo1 hbl1 wr bd ne (fun n hn => by rw [kw] at hn; exact nmOk n hn))⟩⟩
      refine ⟨"z", 9, rfl, rfl, by decide, by decide +kernel, by show 7 ≤ sizeLine; decide, fun kl2 hkl2 => ?_⟩
      have f5 : Ex G _ := Ex.new (o := .lst [.str "", .str "A", .str "a1", .str "a b", .str "toolongna", .str (repS "z" 9), .str "zz-"]) hkl2
      have kkl : (upd G kl2 (.lst [.str "", .str "A", .str "a1", .str "a b", .str "toolongna", .str (repS "z" 9), .str "zz-"])) kl2 = _ := upd_same
      refine ⟨_, rfl, a, 7, rfl, wellAt_mono (FF.trans f5) hw, by decide, by decide, fun e e0 e1x => ?_⟩
      obtain ⟨e, rfl⟩ := Int.eq_ofNat_of_zero_le e0
      have he : e < oddK.length := by show e < 7; omega
      refine ⟨kl2, oddK.map V.str, _, _, rfl, rfl, sq_of kkl, atI_nat (by rw [List.getElem?_map, List.getElem?_eq_getElem he]; rfl), ?_⟩
      have hk := odd_no _ (List.getElem_mem he)
      generalize oddK[e] = key at hk
      generalize upd G kl2 (.lst [.str "", .str "A", .str "a1", .str "a b", .str "toolongna", .str (repS "z" 9), .str "zz-"]) = G5 at f5 kkl
      refine ⟨by show 1 ≤ sizeLine; decide, fun zb hzb => ?_⟩
      have f6 : Ex G5 _ := Ex.new (o := .lst [.int 0]) hzb
      have kzb : (upd G5 zb (.lst [.int 0])) zb = _ := upd_same
      generalize upd G5 zb (.lst [.int 0]) = G6 at f6 kzb
      refine ⟨_, rfl, zb, (wd : Int), _, rfl, rfl, kzb, by omega, by omega, sz_of (by show 1 * (wd : Int).toNat ≤ _; omega), fun zl hzl => ?_⟩
      rw [show (wd : Int).toNat = wd by omega, flat_rep]
      have f7 : Ex G6 _ := Ex.new (o := .lst (List.replicate wd (.int 0))) hzl
      have kzl : (upd G6 zl (.lst (List.replicate wd (.int 0)))) zl = _ := upd_same
      generalize upd G6 zl (.lst (List.replicate wd (.int 0))) = G7 at f7 kzl
      have x7 := (f5.trans f6).trans f7
      have hfo7 := x7 fo _ hfo1
      have len5 := wr_len wr
      refine ⟨_, rfl, _, rfl, fo, _, rfl, DPut.k (k := Sum.inr key) hfo7 (sz_lt (by omega)), ?_⟩
      have rv : RVR K G7 (.ref zl) (.lst (List.replicate wd (some 0))) := ⟨zl, _, rfl, kzl, paired_rep (e := some 0) rfl wd, by rw [List.length_replicate]; omega⟩
      have e8 : Ex H (upd G7 fo (.dK (putK kvs' (Sum.inr key) (.ref zl)))) := Ex.mut (FF.trans x7) (fresh_back f1 foH)
      have w8 : WR K (upd G7 fo (.dK (putK kvs' (Sum.inr key) (.ref zl)))) (putK kvs' (Sum.inr key) (.ref zl)) (putW rs key (.lst (List.replicate wd (some 0)))) := wr_put (wr_updD hfo7 (wr_mono x7 wr)) (rvr_updD hfo7 rv)
      have h8 : (upd G7 fo (.dK (putK kvs' (Sum.inr key) (.ref zl)))) fo = _ := upd_same
      have b8 : (upd G7 fo (.dK (putK kvs' (Sum.inr key) (.ref zl)))) bl = some (.lst (Bs.map V.str)) := by rw [upd_ne fob.symm]; exact x7 bl _ hbl1
      have zlb : zl ≠ bl := fun z => by rw [z, (f5.trans f6) bl _ hbl1] at hzl; cases hzl
      generalize upd G7 fo (.dK (putK kvs' (Sum.inr key) (.ref zl))) = G8 at e8 w8 h8 b8
      have nb8 : ∀ q ∈ putK kvs' (Sum.inr key) (.ref zl), q.2 ≠ .ref bl := fun q hq z => by
        rcases put_mem hq with h | h
        · rw [h] at z; exact zlb (V.ref.inj z)
        · exact nb q h z
      have szl : (Bs.map V.str).length < sizeLine := by rw [List.length_map]; exact sz_lt (by omega)
      refine ⟨_, rfl, .inl ⟨rfl, _, sq_of b8⟩, _, rfl, bl, _, _, rfl, rfl, b8, szl, ?_⟩
      have kn : key ∉ keysW rs := fun h => by
        rw [kw] at h
        have := nm key h
        rw [hk.1] at this
        cases this
      have ks : keysW (putW rs key (.lst (List.replicate wd (some 0)))) = keysW rs ++ [key] := by
        rw [put_new kn]
        unfold keysW
        rw [List.map_append]
        rfl
      have mem : ∀ n, n ∈ keysW (putW rs key (.lst (List.replicate wd (some 0)))) → n ∈ kp.map (·.1) ∨ n = key := fun n hn => by
        rw [ks, kw] at hn
        rcases List.mem_append.mp hn with h | h
        · exact .inl h
        · exact .inr (List.mem_singleton.mp h)
      refine tail _ (putW rs key (.lst (List.replicate wd (some 0)))) (Bs ++ [key]) _ _ (Ex.mut e8 (fresh_back f1 b1n)) (by rw [upd_ne fob]; exact h8) (by rw [upd_same, List.map_append]; rfl) (wr_updL (rs := rs) b8 nb8 w8) ?_ (by simp) (fun n hn => ?_)
      · refine ⟨?_, ?_, by omega, fun n hn => ?_, fun n hn hB => ?_, fun n hn => ?_, fun m hm hl => ?_⟩
        · rw [ks]
          exact List.nodup_append.mpr ⟨by rw [kw]; exact nd, by simp, fun x hx y hy => by rw [List.mem_singleton.mp hy]; exact fun z => kn (z ▸ hx)⟩
        · rw [put_new kn, List.length_append]
          show _ + 1 ≤ 24
          omega
        · rw [ks]
          rcases List.mem_append.mp hn with h | h
          · exact List.mem_append_left _ (bd.sub n h)
          · exact List.mem_append_right _ h
        · have h1 : n ∉ Bs := fun z => hB (List.mem_append_left _ z)
          have h2 : n ≠ key := fun z => hB (List.mem_append_right _ (List.mem_singleton.mpr z))
          rcases mem n hn with h | h
          · rw [look_put, if_neg h2]
            exact ⟨nm n h, gB n h h1⟩
          · exact absurd h h2
        · rcases List.mem_append.mp hn with h | h
          · have h2 : n ≠ key := fun z => kn (z ▸ bd.sub n h)
            rw [look_put, if_neg h2]
            exact .inr (bB n h)
          · rw [List.mem_singleton.mp h]; exact .inl hk.1
        · rcases List.mem_append.mp hm with h | h
          · refine bd.first m h fun n hn => hl n ?_
            rw [ks]
            exact List.mem_append_left _ hn
          · rw [List.mem_singleton.mp h]; exact hk.1
      · rcases mem n hn with h | h
        · exact nmOk n h
        · rw [h]; exact hk.2
end
end L43
namespace L43
open PySem PySem.Spec PyProof.Rows L2 Evl Bf
theorem viaH {p : Prop} {C R : Hp → Prop} (h1 : (∀ G, R G → C G) → p) (h2 : ∀ G, R G → C G) : p := h1 h2
abbrev Kp := List (Str × List Int)
structure GoodK (kp : Kp) (wd : Nat) (whole : Bool) : Prop where
  nd : (kp.map (·.1)).Nodup
  nm : ∀ n ∈ kp.map (·.1), isNm n = true
  ok : KpOk wd whole kp
  w24 : wd ≤ 24
  l24 : kp.length ≤ 24
theorem rs_len (kp : Kp) : (rsOf kp).length = kp.length := by unfold rsOf; rw [List.length_map]
theorem nth_mem {rs : Rws} {j : Nat} (h : j < rs.length) : nth rs j ∈ keysW rs := by
  unfold nth
  exact srt_mem.mp (getD_mem (by rw [srt_len, keysW_len]; exact h))
theorem wat_good {kp : Kp} {wd : Nat} {whole : Bool} (g : GoodK kp wd whole) {j : Nat} (hj : j ≤ kp.length) : wAt (rsOf kp) j = if j = 0 then none else some wd := by
  cases j with
  | zero => rfl
  | succ k =>
    rw [if_neg (by omega)]
    show some (rlen (lookW (rsOf kp) (nth (rsOf kp) k))) = some wd
    have hm := nth_mem (rs := rsOf kp) (j := k) (by rw [rs_len]; omega)
    rw [keys_rsOf] at hm
    rw [(good_ok (good_of g.ok g.nd hm) g.w24).2.2]
theorem due_good {kp : Kp} {wd : Nat} {whole : Bool} (g : GoodK kp wd whole) : dueW (rsOf kp) whole = .ok := by
  unfold dueW
  rw [if_neg (by rw [rs_len]; have := g.l24; omega), first_none]
  intro j hj
  rw [rs_len] at hj
  have hm := nth_mem (rs := rsOf kp) (j := j) (by rw [rs_len]; exact hj)
  rw [keys_rsOf] at hm
  obtain ⟨o1, o2, _⟩ := good_ok (good_of g.ok g.nd hm) g.w24
  unfold badW
  rw [g.nm _ hm, wat_good g (Nat.le_of_lt hj)]
  by_cases c : j = 0
  · rw [if_pos c, o1]; rfl
  · rw [if_neg c, o2]; rfl
theorem nums_in {kp : Kp} (nd : (kp.map (·.1)).Nodup) {q : Str × List Int} (hq : q ∈ kp) : nums (lookW (rsOf kp) q.1) = q.2 := by
  unfold lookW rsOf
  rw [List.find?_map]
  have e1 : ((fun e : Str × RV => decide (e.1 = q.1)) ∘ fun q : Str × List Int => (q.1, RV.lst (q.2.map some))) = fun e => decide (e.1 = q.1) := rfl
  rw [e1]
  have h := lookI_in nd hq
  unfold lookI at h
  cases z : kp.find? (fun e => decide (e.1 = q.1)) with
  | none => rw [z] at h; cases h
  | some x =>
    rw [z] at h
    have e : x.2 = q.2 := Option.some.inj h
    show (x.2.map some).map (·.getD 0) = q.2
    rw [e, List.map_map]
    exact List.map_id _
theorem kept_sorted {kp : Kp} (nd : (kp.map (·.1)).Nodup) (hs : srt (kp.map (·.1)) = kp.map (·.1)) : keptOf (rsOf kp) = kp := by
  unfold keptOf
  rw [keys_rsOf, hs, List.map_map]
  refine (List.map_congr_left fun q hq => ?_).trans (List.map_id kp)
  show (q.1, nums (lookW (rsOf kp) q.1)) = q
  rw [nums_in nd hq]
theorem kept_perm {kp kp' : Kp} (nd : (kp.map (·.1)).Nodup) (p : kp'.Perm kp) : keptOf (rsOf kp') = keptOf (rsOf kp) := by
  have nd' : (kp'.map (·.1)).Nodup := nodup_perm (p.map _) nd
  unfold keptOf
  rw [keys_rsOf, keys_rsOf, srt_congr (p.map _)]
  refine List.map_congr_left fun n hn => ?_
  obtain ⟨q, hq, rfl⟩ := List.mem_map.mp (srt_mem.mp hn)
  rw [nums_in nd hq, nums_in nd' (p.mem_iff.mpr hq)]
theorem look_kpD (g : List PyData → PyData) (kp : Kp) (n : Str) : look (kpD g kp) (Sum.inr n) = (lookI kp n).map fun is => g (intsD is) := by
  unfold look lookI
  induction kp with
  | nil => rfl
  | cons q r ih =>
    show ((List.find? _ ((Sum.inr q.1, g (intsD q.2)) :: kpD g r)).map (·.2)) = _
    rw [List.find?_cons, List.find?_cons]
    by_cases c : q.1 = n
    · rw [decide_eq_true c, show decide ((Sum.inr q.1 : Key) = Sum.inr n) = true from decide_eq_true (by rw [c])]
      rfl
    · rw [decide_eq_false c, show decide ((Sum.inr q.1 : Key) = Sum.inr n) = false from decide_eq_false fun z => c (Sum.inr.inj z)]
      exact ih
theorem hits_kp {g : List PyData → PyData} (hg : ∀ is : List Int, PyData.eqv (g (intsD is)) (g (intsD is)) = true) {kp : Kp} (nd : (kp.map (·.1)).Nodup) : ∀ l : Kp, (∀ q ∈ l, q ∈ kp) → hitsD (kpD g kp) (kpD g l) = true
  | [], _ => rfl
  | q :: r, h => by
    show (match look (kpD g kp) (Sum.inr q.1) with | none => false | some e => PyData.eqv (g (intsD q.2)) e && hitsD (kpD g kp) (kpD g r)) = true
    rw [look_kpD, lookI_in nd (h q List.mem_cons_self)]
    show (PyData.eqv (g (intsD q.2)) (g (intsD q.2)) && hitsD (kpD g kp) (kpD g r)) = true
    rw [hg, hits_kp hg nd r fun p hp => h p (List.mem_cons_of_mem _ hp)]
    rfl
theorem eqT (is : List Int) : PyData.eqv (.tuple (intsD is)) (.tuple (intsD is)) = true := (eqv_ints is is).trans (decide_eq_true rfl)
theorem eqL (is : List Int) : PyData.eqv (.list (intsD is)) (.list (intsD is)) = true := (eqv_ints is is).trans (decide_eq_true rfl)
theorem dict_kp {g : List PyData → PyData} (hg : ∀ is : List Int, PyData.eqv (g (intsD is)) (g (intsD is)) = true) {kp : Kp} (nd : (kp.map (·.1)).Nodup) : dictEq (kpD g kp) (kpD g kp) = true := by
  unfold dictEq
  rw [hits_kp hg nd kp fun _ h => h]
  simp
theorem eqR_self {kp : Kp} (nd : (kp.map (·.1)).Nodup) (whole : Bool) : eqR whole whole kp kp = true := by
  unfold eqR
  rw [decide_eq_true rfl, dict_kp eqT nd]
  rfl
theorem eqR_len {kp kp' : Kp} {whole whole' : Bool} (h : kp.length ≠ kp'.length) : eqR whole whole' kp kp' = false := by
  unfold eqR
  rw [dictEq_len (by rw [List.length_map, List.length_map]; exact h), Bool.and_false]
section
variable {P : Program} {w : World} {K : PySem.W.Frag} {mg : Str → Option Value} {base : Heap} {f fi : Addr} {fd fdi : FuncData}
theorem rowArg_of {H : Hp} {d : Addr} {kvs : List (Key × V)} {kp : Kp} {wd : Nat} {whole : Bool} (g : GoodK kp wd whole) (hd : H d = some (.dK kvs)) (lr : LR H kvs kp) : RowArg K H d (rsOf kp) :=
  ⟨⟨kvs, hd, wr_of lr fun q hq => by rw [(g.ok q hq).1]; have := g.w24; omega⟩, by rw [keys_rsOf]; exact g.nd, by rw [rs_len]; have := g.l24; omega, fun n hn => by rw [keys_rsOf] at hn; exact Bf.nm_ok (g.nm n hn)⟩
def wdOf (kp : Kp) (wd : Nat) : Option Nat := if kp.length = 0 then none else some wd
theorem rows_made {H : Hp} {d y dy : Addr} {kvs : List (Key × V)} {kp : Kp} {wd : Nat} {whole : Bool} {Q : VK} {E : XK} (g : GoodK kp wd whole) (hd : H d = some (.dK kvs)) (lr : LR H kvs kp) (hy : H y = none) (hdy : H dy = none)
    (q : ∀ G e, Ex H G → H e = none → RowsAt K G y e whole (keptOf (rsOf kp)) (wdOf kp wd) → Q .non G) :
    spInitR K [.ref y, .ref d, .str (ovS whole)] (upd (upd H dy (.own y)) y (.ins (He.ga K "Rows") dy [])) Q E := by
  refine ⟨y, dy, d, H, rsOf kp, whole, rfl, upd_same, hy, ex_new2 hy hdy, rowArg_of g hd lr, ?_⟩
  rw [due_good g]
  refine fun G e b fe wt => q G e (exb_back hy hdy b) (fresh_back (ex_new2 hy hdy) fe) ?_
  rw [rs_len, wat_good g (Nat.le_refl _)] at wt
  exact wt
theorem rowsAt_upd {H : Hp} {x e d : Addr} {o o' : HO} {whole : Bool} {kp : Kp} {wd : Option Nat} (h : RowsAt K H x e whole kp wd) (hd : H d = some o) (nt : ∀ ys, o ≠ .tup ys) (ni : ∀ C dx fs, o ≠ .ins C dx fs) (ne : d ≠ e) : RowsAt K (upd H d o') x e whole kp wd := by
  obtain ⟨dx, kvs, h1, h2, h3⟩ := h
  refine ⟨dx, kvs, ?_, by rw [upd_ne ne.symm]; exact h2, kr_upd hd nt h3⟩
  rw [upd_ne fun z => by rw [z, hd] at h1; exact ni _ _ _ (Option.some.inj h1)]
  exact h1
theorem lr_at {H : Hp} {kvs : List (Key × V)} {kp : Kp} (r : LR H kvs kp) (nd : (kp.map (·.1)).Nodup) {q : Str × List Int} (hq : q ∈ kp) : ∃ l, valV kvs (Sum.inr q.1) = some (.ref l) ∧ H l = some (.lst (q.2.map V.int)) := by
  unfold LR at r
  unfold valV
  induction r with
  | nil => cases hq
  | @cons p s ps qs a t ih =>
    obtain ⟨a1, l, a2, a3⟩ := a
    obtain ⟨n1, n2⟩ := List.nodup_cons.mp (show (s.1 :: qs.map (·.1)).Nodup from nd)
    rw [List.find?_cons]
    rcases List.mem_cons.mp hq with rfl | hq
    · rw [decide_eq_true (by rw [a1])]
      exact ⟨l, by rw [← a2]; rfl, a3⟩
    · have c : ¬ p.1 = Sum.inr q.1 := fun z => n1 (by rw [a1] at z; rw [Sum.inr.inj z]; exact List.mem_map.mpr ⟨q, hq, rfl⟩)
      rw [decide_eq_false c]
      exact ih n2 hq
theorem lr_updL {H G : Hp} {D : Addr} {o : HO} : ∀ {kvs : List (Key × V)} {kp : Kp}, (∀ q ∈ kvs, ∃ l, q.2 = .ref l ∧ G l = none ∧ l ≠ D) → LR H kvs kp → LR (upd H D o) kvs kp
  | _, _, _, .nil => .nil
  | _, _, n, .cons ⟨a, l, b, c⟩ t => by
    obtain ⟨l', h1, _, h3⟩ := n _ List.mem_cons_self
    have e : l = l' := V.ref.inj (b.symm.trans h1)
    exact .cons ⟨a, l, b, by rw [upd_ne (e ▸ h3)]; exact c⟩ (lr_updL (fun q hq => n q (List.mem_cons_of_mem _ hq)) t)
theorem merge_app' : ∀ (kvs acc : List (Key × V)), ((acc ++ kvs).map (·.1)).Nodup → mergeK acc kvs = acc ++ kvs := merge_app
theorem merge_lr {H : Hp} {kvs : List (Key × V)} {kp : Kp} (r : LR H kvs kp) (nd : (kp.map (·.1)).Nodup) : mergeK [] kvs = kvs := by
  refine merge_app kvs [] ?_
  rw [List.nil_append, lr_keys r]
  exact List.Pairwise.map _ (fun a b h z => h (Sum.inr.inj z)) nd
theorem kp_at {kp : Kp} {xs : List Str} (h : kp.map (·.1) = xs) {i : Nat} (hi : i < xs.length) : ∃ q0, kp[i]? = some q0 ∧ q0.1 = xs.getD i "" := by
  subst h
  rw [List.length_map] at hi
  exact ⟨kp[i], List.getElem?_eq_getElem hi, by simp [List.getD, hi]⟩
theorem at_first {xs : List Str} (h : 0 < xs.length) : atI (xs.map V.str) 0 = some (.str (xs.getD 0 "")) :=
  atI_nat (j := 0) (by rw [List.getElem?_map]; simp [List.getD, h])
theorem at_last {xs : List Str} {m : Nat} (h : 1 ≤ m) (hl : xs.length = m) : atI (xs.map V.str) (-1) = some (.str (xs.getD (m - 1) "")) := by
  unfold atI ixN
  rw [if_neg (by omega), List.length_map, hl, if_pos (by omega)]
  have e : ((-1 : Int) + m).toNat = m - 1 := by omega
  show (xs.map V.str)[((-1 : Int) + m).toNat]? = _
  rw [e, List.getElem?_map]
  simp [List.getD, show m - 1 < xs.length by omega]
theorem val_mem {kvs : List (Key × V)} {k : Key} {v : V} (h : valV kvs k = some v) : ∃ q ∈ kvs, q.2 = v := by
  unfold valV at h
  cases e : kvs.find? (fun kv => decide (kv.1 = k)) with
  | none => rw [e] at h; cases h
  | some x =>
    rw [e] at h
    exact ⟨x, List.mem_of_find?_eq_some e, Option.some.inj h⟩
abbrev llD (kp : Kp) : List PyData := kp.map fun q => .list (intsD q.2)
theorem dp_rows {G : Hp} : ∀ {rfs : List Addr} {kp : Kp}, Paired (fun l q => G l = some (.lst (q.2.map V.int))) rfs kp → DpAll K G (rfs.map V.ref) (llD kp)
  | _, _, .nil => .nil
  | _, _, .cons h t => .cons (.lst (sq_of h) (dp_ints _)) (dp_rows t)
theorem canLay_ll : ∀ kp : Kp, PyData.canLayAll0 (llD kp) = true
  | [] => rfl
  | q :: r => by
    show (PyData.canLayAll0 (intsD q.2) && PyData.canLayAll0 (llD r)) = true
    rw [canLay_ints, canLay_ll r]
    rfl
theorem depth_ll : ∀ kp : Kp, PyData.depthAll (llD kp) ≤ 1
  | [] => Nat.zero_le _
  | q :: r => by
    show max (PyData.depthAll (intsD q.2) + 1) (PyData.depthAll (llD r)) ≤ 1
    have := depth_ll r
    rw [depth_ints]
    omega
theorem shaped_ll (kp : Kp) : SeqAt.shaped (.list (llD kp)) = true := by
  show (PyData.canLayAll0 (llD kp) && decide (PyData.depthAll (llD kp) + 1 ≤ 64)) = true
  rw [canLay_ll, decide_eq_true (by have := depth_ll kp; omega)]
  rfl
theorem eqv_ll : ∀ kp : Kp, PyData.eqvAll (llD kp) (llD kp) = true
  | [] => rfl
  | q :: r => by
    show (PyData.eqvAll (intsD q.2) (intsD q.2) && PyData.eqvAll (llD r) (llD r)) = true
    rw [eqv_ints, decide_eq_true rfl, eqv_ll r]
    rfl
end
end L43
namespace L43
open PySem PySem.Spec PyProof.Rows L2 Evl Bf
def odds (n : Str) : List Str := ["", "zzzzzzzz", "A", n ++ " "]
theorem odds_no {n : Str} {xs : List Str} {i : Nat} (h : ∀ x ∈ xs, Nm1 i x) {o : Str} (ho : o ∈ odds n) : o ∉ xs := by
  intro hx
  obtain ⟨nm, c, t, e, hc⟩ := h o hx
  have l0 : (122 : Nat) ∉ low := by decide +kernel
  have h0 : (122 : Nat) ∉ hi9 := by decide +kernel
  rcases List.mem_cons.mp ho with rfl | ho
  · revert nm; decide +kernel
  rcases List.mem_cons.mp ho with rfl | ho
  · have e2 : ("zzzzzzzz" : Str).cps.toList = [122, 122, 122, 122, 122, 122, 122, 122] := by decide +kernel
    rw [e2] at e
    have e3 := (List.cons.inj e).1
    subst e3
    rcases hc with z | ⟨j, _, z⟩
    · exact l0 z
    · exact h0 (List.mem_of_getElem? z)
  rcases List.mem_cons.mp ho with rfl | ho
  · revert nm; decide +kernel
  rw [List.mem_singleton.mp ho] at nm
  have a := List.all_eq_true.mp (Bool.and_eq_true_iff.mp (Bool.and_eq_true_iff.mp nm).2).2 32 (by
    rw [app_list]
    exact List.mem_append_right _ (by decide +kernel))
  revert a
  decide +kernel
def wideK (m : Nat) : Kp := (List.range m).map fun i => (({ cps := #[abc.cps.toList.getD i 0] } : Str), List.replicate 24 1)
theorem wide_take {m : Nat} (h : m ≤ 25) : wideK m = (wideK 25).take m := by
  unfold wideK
  rw [← List.map_take, List.take_range, Nat.min_eq_left h]
theorem wide_len (m : Nat) : (wideK m).length = m := by unfold wideK; rw [List.length_map, List.length_range]
theorem wide_sub {m : Nat} (h : m ≤ 25) : ((wideK m).map (·.1)).Sublist ((wideK 25).map (·.1)) := by
  rw [wide_take h]
  exact (List.take_sublist _ _).map _
theorem wide_nd {m : Nat} (h : m ≤ 25) : ((wideK m).map (·.1)).Nodup := List.Nodup.sublist (wide_sub h) (by decide +kernel)
theorem wide_nm {m : Nat} (h : m ≤ 25) : ∀ n ∈ (wideK m).map (·.1), isNm n = true := fun n hn => by
  have a : ∀ n ∈ (wideK 25).map (·.1), isNm n = true := by decide +kernel
  exact a n ((wide_sub h).subset hn)
theorem wide_ok (m : Nat) : KpOk 24 false (wideK m) := fun q hq => by
  obtain ⟨i, _, rfl⟩ := List.mem_map.mp hq
  exact ⟨List.length_replicate, fun _ x hx => .inr (List.eq_of_mem_replicate hx)⟩
theorem wide_good {m : Nat} (h : m ≤ 24) : GoodK (wideK m) 24 false := ⟨wide_nd (by omega), wide_nm (by omega), wide_ok m, by omega, by rw [wide_len]; exact h⟩
theorem wide_step (m : Nat) : wideK (m + 1) = wideK m ++ [(({ cps := #[abc.cps.toList.getD m 0] } : Str), List.replicate 24 1)] := by
  unfold wideK
  rw [List.range_succ, List.map_append]
  rfl
theorem abc_at {j : Nat} (h : j < 26) : atI ("abcdefghijklmnopqrstuvwxyz" : Str).cps.toList (0 + (j : Int)) = some (abc.cps.toList.getD j 0) := by
  have e : abc.cps.toList.length = 26 := by decide +kernel
  rw [Int.zero_add]
  refine atI_nat ?_
  show abc.cps.toList[j]? = _
  rw [List.getD_eq_getElem?_getD, List.getElem?_eq_getElem (by omega)]
  rfl
theorem wide_many : dueW (rsOf (wideK 25)) false = .many := by
  unfold dueW
  rw [if_pos (by rw [rs_len, wide_len]; decide)]
section
variable {K : PySem.W.Frag}
theorem wide_arg {H : Hp} {d : Addr} {kvs : List (Key × V)} {m : Nat} (h : m ≤ 25) (hd : H d = some (.dK kvs)) (lr : LR H kvs (wideK m)) : RowArg K H d (rsOf (wideK m)) :=
  ⟨⟨kvs, hd, wr_of lr fun q hq => by rw [(wide_ok m q hq).1]; omega⟩, by rw [keys_rsOf]; exact wide_nd h, by rw [rs_len, wide_len]; omega, fun n hn => by rw [keys_rsOf] at hn; exact Bf.nm_ok (wide_nm h n hn)⟩
end
end L43
namespace L43
open PySem PySem.Spec PyProof.Rows L2 Evl Bf
section
variable {P : Program} {w : World} {K : PySem.W.Frag} {mg : Str → Option Value} {base : Heap} {f fi ft fr fo fw fv fq : Addr} {fd fdi fdt fdr fdo fdw fdv fdq : FuncData}
structure RowM (P : Program) (w : World) (K : PySem.W.Frag) (mg : Str → Option Value) (base : Heap) (fi ft fr fo fw fv fq : Addr) (fdi fdt fdr fdo fdw fdv fdq : FuncData) : Prop where
  make : Mk K (He.ga K "Rows") fi
  okI : FnOk P w K mg base (L2.CX P w) 3 fi fdi ["self", "rows", "over"] (spInitR K)
  bI : KBn K fdi ["self", "rows", "over"] 2 ["over"] (fun us ws => us ++ ws) (fun vs zs => vs ++ zs)
  mT : Meth K (He.ga K "Rows") "things" ft
  okT : FnOk P w K mg base CX0 1 ft fdt ["self"] (spThings K)
  bT : Binds K fdt ["self"] []
  mR : Meth K (He.ga K "Rows") "rows" fr
  okR : FnOk P w K mg base CX0 1 fr fdr ["self"] (spRows K)
  bR : Binds K fdr ["self"] []
  mO : Meth K (He.ga K "Rows") "row" fo
  okO : FnOk P w K mg base (L2.CX P w) 3 fo fdo ["self", "thing"] (spRowM K)
  bO : Binds K fdo ["self", "thing"] []
  mW : Meth K (He.ga K "Rows") "width" fw
  okW : FnOk P w K mg base CX0 1 fw fdw ["self"] (spWidth K)
  bW : Binds K fdw ["self"] []
  mV : Meth K (He.ga K "Rows") "over" fv
  okV : FnOk P w K mg base CX0 1 fv fdv ["self"] (spOver K)
  bV : Binds K fdv ["self"] []
  own : OwnEq K (He.ga K "Rows") fq
  okQ : FnOk P w K mg base CX0 1 fq fdq ["self", "other"] (spEqR K)
  bQ : Binds K fdq ["self", "other"] []
  nfI : PySem.W.notFirst K (He.ga K "Rows") (.type "int") = true
  nfD : PySem.W.notFirst K (He.ga K "Rows") (.type "dict") = true
  kI : PySem.W.kitOne K (.type "int") (.ref (He.ga K "Rows")) = some false
  kD : PySem.W.kitOne K (.type "dict") (.ref (He.ga K "Rows")) = some false
def tbLaw (K : PySem.W.Frag) (W : WX) : TS := tDrop (tMtS (He.ga K "Rows") "row" (spRowM K) (WE W) (tVar 8) (tCons (tVar 13) tNil))
def spLaw (K : PySem.W.Frag) : Sp := fun vs H Q _ => ∃ (p : Addr) (ns : List Int), vs = [.ref p] ∧ SqL K H p (ns.map V.int) ∧ ∀ G, Q (.bl true) G
theorem ok_law (F : FnS K "law" "law" sLaw f fd) (B : Bl mg) (T : RowT K mg) (M : RowM P w K mg base fi ft fr fo fw fv fq fdi fdt fdr fdo fdw fdv fdq) (x_NoThing : ExT P w K mg base "NoThing" "thing" (He.ga K "NoThing")) (nn : Exm K "NoThing" "NoThing" true)
    (c__law_draw : Cal P w K mg base CX0 1 "_law_draw" ["_law_state_here", "_law_many"] spDraw) (c__law_state : Cal P w K mg base CX0 1 "_law_state" ["_law_script"] (spState K)) (c__law_field : Cal P w K mg base CX0 2 "_law_field" ["_law_state_here"] spField)
    (c__law_names : Cal P w K mg base CX0 2 "_law_names" ["_law_state_here", "_law_many"] spNames) (c__law_rows : Cal P w K mg base CX0 2 "_law_rows" ["_law_state_here", "_law_things", "_law_width", "_law_over"] (spLRows K))
    (c__law_told : Cal P w K mg base CX0 5 "_law_told" ["_law_rows_here", "_law_over"] (spTold K)) (c__law_refused : Cal P w K mg base CX0 6 "_law_refused" ["_law_state_here", "_law_rows_here", "_law_width", "_law_over"] (spRefused K)) :
    FnOk P w K mg base CX0 7 f fd ["_law_script"] (spLaw K) := by
  have mk_Rows := M.make
  have f_Rows := M.okI
  have b_Rows := M.bI
  have g_Rows := T.g
  have m_things := M.mT
  have f_things := M.okT
  have b_things := M.bT
  have m_rows := M.mR
  have f_rows := M.okR
  have b_rows := M.bR
  have m_row := M.mO
  have f_row := M.okO
  have b_row := M.bO
  have m_width := M.mW
  have f_width := M.okW
  have b_width := M.bW
  have m_over := M.mV
  have f_over := M.okV
  have b_over := M.bV
  have own := M.own
  have f_eq := M.okQ
  have b_eq := M.bQ
  refine okD F scLaw (fun vs H Q E h => ?_) (fun cdv A outer s H vs Q E hr h => ?_)
  · obtain ⟨p, ns, rfl, _⟩ := h
    rfl
  · obtain ⟨p, ns, rfl, hp, q⟩ := h
    have hu := hu_of hr
    have huD := hu65 hr
    refine ⟨_, (pss_cons (ps_set (i := 1) scLaw.nd rfl (.inl rfl) (pe_cal c__law_state (hr.mono (by decide)) pass0 (pa_cons (pv 0) pa_nil)))
      (pss_cons (ps_for PassesOwn.never (by rfl) (pi_range1 (by rfl) B.range (pa_cons pe_int pa_nil)) (pg_name (i := 2) scLaw.nd rfl (.inl rfl))
      (pss_cons (ps_set (i := 3) scLaw.nd rfl (.inl rfl) (pe_cal c__law_field (hr.mono (by decide)) pass0 (pa_cons (pv 1) pa_nil)))
      (pss_cons (ps_set (i := 4) scLaw.nd rfl (.inl rfl) (pe_cal c__law_names (hr.mono (by decide)) pass0 (pa_cons (pv 1) (pa_cons (pe_op op_add pe_int (pe_cal c__law_draw (hr.mono (by decide)) pass0 (pa_cons (pv 1) (pa_cons pe_int pa_nil)))) pa_nil))))
      (pss_cons (ps_set (i := 5) scLaw.nd rfl (.inl rfl) (pe_cal c__law_draw (hr.mono (by decide)) pass0 (pa_cons (pv 1) (pa_cons pe_int pa_nil))))
      (pss_cons (ps_set (i := 6) scLaw.nd rfl (.inr rfl) (pe_cal c__law_rows (hr.mono (by decide)) pass0 (pa_cons (pv 1) (pa_cons (pv 4) (pa_cons (pv 5) (pa_cons (pv 3) pa_nil))))))
      (pss_cons (ps_set (i := 7) scLaw.nd rfl (.inl rfl) (pe_callTy (call_dictP rfl) (by rfl) B.dict (by decide +kernel) (pa_cons (pe_lc (own := [("_law_thing", 18)]) (g := (gName 18)) (te := tTup (tCons (tVar 18) (tCons (tCB (rLstOf K) (tCons (tDGet (tVar 6) (tVar 18)) tNil)) tNil))) (by rfl) scLaw.nd (pi_list (pv 4)) (blkOk_by (own := [("_law_thing", 18)]) (N := nLaw) (sc := defScope sLaw) (by decide +kernel)) (fun _ _ _ _ _ => (pg_name (i := 18) scLaw.nd rfl (.inl rfl))) (fun _ _ _ _ _ => pts_nil) (fun _ _ _ _ _ => (pe_tup (pa_cons (pv 18) (pa_cons (pe_callTy call_list_of (by rfl) B.list (by decide +kernel) (pa_cons (pe_dget hu (pv 6) (pv 18) (fun _ _ => rfl)) pa_nil)) pa_nil))))) pa_nil)))
      (pss_cons (ps_set (i := 8) scLaw.nd rfl (.inr rfl) (pe_makeK mk_Rows f_Rows (hr.mono (by decide)) (by rfl) g_Rows b_Rows passL (pa_cons (pv 7) pa_nil) (pk_cons (pv 3) pk_nil)))
      (pss_cons (ps_expr (pe_bm PySem.F.plainAttrs_list PySem.F.slot_list_append PySem.F.type_list_append mt_append (pe_dget hu (pv 7) (pe_ix ix_list (pv 4) pe_int (fun _ _ => rfl)) (fun _ _ => rfl)) (pa_cons pe_int pa_nil)))
      (pss_cons (ps_expr (pe_dpop1 (pv 7) (pe_ix ix_list (pv 4) (pe_un un_neg pe_int) (fun _ _ => rfl)) ⟨by rfl, by rfl, by rfl, by rfl⟩))
      (pss_cons (ps_for PassesOwn.never (by rfl) (pi_range1 (by rfl) B.range (pa_cons pe_int pa_nil)) (pg_name (i := 9) scLaw.nd rfl (.inl rfl))
      (pss_cons (ps_if (PW.pt (pw_or (pt_cmpR (op_neD hr.units) (pe_meth0 (pv 8) T.cl m_things f_things (hr.mono (by decide)) b_things .nil pass0) (pv 4) (nomark _)) (pw_or (pt_cmpR (op_neDD huD) (pe_meth0 (pv 8) T.cl m_rows f_rows (hr.mono (by decide)) b_rows .nil pass0) (pv 6) (nomark _)) (pw_or (pt_cmpR op_ne (pe_meth0 (pv 8) T.cl m_width f_width (hr.mono (by decide)) b_width .nil pass0) (pv 5) (nomark _)) (pw_or1 (pt_cmpR op_ne (pe_meth0 (pv 8) T.cl m_over f_over (hr.mono (by decide)) b_over .nil pass0) (pv 3) (nomark _)))))))
      (pss_one (ps_ret pe_bl))
      pss_nil)
      (pss_cons (ps_set (i := 10) scLaw.nd rfl (.inl rfl) (pe_meth0 (pv 8) T.cl m_things f_things (hr.mono (by decide)) b_things .nil pass0))
      (pss_cons (ps_expr (pe_bm0 PySem.F.plainAttrs_list PySem.F.slot_list_clear PySem.F.type_list_clear mt_clear (pv 10)))
      (pss_cons (ps_set (i := 10) scLaw.nd rfl (.inl rfl) (pe_meth0 (pv 8) T.cl m_rows f_rows (hr.mono (by decide)) b_rows .nil pass0))
      (pss_cons (ps_expr (pe_bm PySem.F.plainAttrs_list PySem.F.slot_list_append PySem.F.type_list_append mt_append (pe_dget hu (pv 10) (pe_ix ix_list (pv 4) pe_int (fun _ _ => rfl)) (fun _ _ => rfl)) (pa_cons pe_int pa_nil)))
      (pss_cons (ps_expr (pe_dpop1 (pv 10) (pe_ix ix_list (pv 4) (pe_un un_neg pe_int) (fun _ _ => rfl)) ⟨by rfl, by rfl, by rfl, by rfl⟩))
      (pss_cons (ps_set (i := 10) scLaw.nd rfl (.inl rfl) (pe_meth (pv 8) T.cl m_row f_row (hr.mono (by decide)) b_row .nil passL (pa_cons (pe_ix ix_list (pv 4) pe_int (fun _ _ => rfl)) pa_nil)))
      (pss_cons (ps_expr (pe_bm PySem.F.plainAttrs_list PySem.F.slot_list_append PySem.F.type_list_append mt_append (pv 10) (pa_cons pe_int pa_nil)))
      (pss_one (ps_if (pt_cmpR (op_neD hr.units) (pe_lc (own := [("_law_thing", 18)]) (g := (gName 18)) (te := tMeth (He.ga K "Rows") "row" (spRowM K) [] E0 (tVar 8) (tCons (tVar 18) tNil)) (by rfl) scLaw.nd (pi_list (pv 4)) (blkOk_by (own := [("_law_thing", 18)]) (N := nLaw) (sc := defScope sLaw) (by decide +kernel)) (fun _ _ _ _ _ => (pg_name (i := 18) scLaw.nd rfl (.inl rfl))) (fun _ _ _ _ _ => pts_nil) (fun _ _ _ _ _ => (pe_meth (pv 8) T.cl m_row f_row (hr.mono (by decide)) b_row .nil passL (pa_cons (pv 18) pa_nil)))) (pe_lc (own := [("_law_thing", 18)]) (g := (gName 18)) (by rfl) scLaw.nd (pi_list (pv 4)) (blkOk_by (own := [("_law_thing", 18)]) (N := nLaw) (sc := defScope sLaw) (by decide +kernel)) (fun _ _ _ _ _ => (pg_name (i := 18) scLaw.nd rfl (.inl rfl))) (fun _ _ _ _ _ => pts_nil) (fun _ _ _ _ _ => (pe_dget hu (pv 6) (pv 18) (fun _ _ => rfl)))) (nomark _))
      (pss_one (ps_ret pe_bl))
      pss_nil)))))))))))
      (pss_cons (ps_set (i := 11) scLaw.nd rfl (.inl rfl) (pe_makeK mk_Rows f_Rows (hr.mono (by decide)) (by rfl) g_Rows b_Rows passL (pa_cons (pe_callTy (call_dictP rfl) (by rfl) B.dict (by decide +kernel) (pa_cons (pe_lc (own := [("_law_thing", 18)]) (g := (gName 18)) (te := tTup (tCons (tVar 18) (tCons (tCB (rLstOf K) (tCons (tDGet (tVar 6) (tVar 18)) tNil)) tNil))) (by rfl) scLaw.nd (pi_list (pe_revL (pv 4))) (blkOk_by (own := [("_law_thing", 18)]) (N := nLaw) (sc := defScope sLaw) (by decide +kernel)) (fun _ _ _ _ _ => (pg_name (i := 18) scLaw.nd rfl (.inl rfl))) (fun _ _ _ _ _ => pts_nil) (fun _ _ _ _ _ => (pe_tup (pa_cons (pv 18) (pa_cons (pe_callTy call_list_of (by rfl) B.list (by decide +kernel) (pa_cons (pe_dget hu (pv 6) (pv 18) (fun _ _ => rfl)) pa_nil)) pa_nil))))) pa_nil)) pa_nil) (pk_cons (pv 3) pk_nil)))
      (pss_cons (ps_set (i := 12) scLaw.nd rfl (.inl rfl) (pe_makeK mk_Rows f_Rows (hr.mono (by decide)) (by rfl) g_Rows b_Rows passL (pa_cons (pe_callTy (call_dictP rfl) (by rfl) B.dict (by decide +kernel) (pa_cons (pe_lc (own := [("_law_thing", 18)]) (g := (gName 18)) (by rfl) scLaw.nd (pi_list (pe_slice sl_list (pv 4) (po_some pe_int) po_none)) (blkOk_by (own := [("_law_thing", 18)]) (N := nLaw) (sc := defScope sLaw) (by decide +kernel)) (fun _ _ _ _ _ => (pg_name (i := 18) scLaw.nd rfl (.inl rfl))) (fun _ _ _ _ _ => pts_nil) (fun _ _ _ _ _ => (pe_tup (pa_cons (pv 18) (pa_cons (pe_dget hu (pv 6) (pv 18) (fun _ _ => rfl)) pa_nil))))) pa_nil)) pa_nil) (pk_cons (pv 3) pk_nil)))
      (pss_cons (ps_if (PW.pt (pw_or (pt_not (pt_cmpR (op_eqI own f_eq b_eq (hr.mono (by decide))) (pv 8) (pv 11) (nomark _))) (pw_or (pt_cmpR (op_neI own f_eq b_eq (hr.mono (by decide))) (pv 8) (pv 11) (nomark _)) (pw_or (pt_cmpR (op_eqI own f_eq b_eq (hr.mono (by decide))) (pv 8) (pv 12) (nomark _)) (pw_or (pt_not (pt_cmpR (op_neI own f_eq b_eq (hr.mono (by decide))) (pv 8) (pv 12) (nomark _))) (pw_or (pt_cmpR (op_eqO own f_eq b_eq (hr.mono (by decide))) (pv 8) (pv 6) (nomark _)) (pw_or1 (pt_cmpR (op_eqO own f_eq b_eq (hr.mono (by decide))) (pv 8) pe_int (nomark _)))))))))
      (pss_one (ps_ret pe_bl))
      pss_nil)
      (pss_cons (ps_if (PW.pt (pw_and (pt_cmpR op_eq (pv 3) pe_str (nomark _)) (pw_and1 (pt_cmpR (op_eqI own f_eq b_eq (hr.mono (by decide))) (pv 8) (pe_makeK mk_Rows f_Rows (hr.mono (by decide)) (by rfl) g_Rows b_Rows passL (pa_cons (pv 6) pa_nil) (pk_cons pe_str pk_nil)) (nomark _)))))
      (pss_one (ps_ret pe_bl))
      pss_nil)
      (pss_cons (ps_for PassesOwn.never (by rfl) (pi_list (pe_lst (pa_cons pe_str (pa_cons pe_str (pa_cons pe_str (pa_cons (pe_op op_add_str (pe_ix ix_list (pv 4) pe_int (fun _ _ => rfl)) pe_str) pa_nil)))))) (pg_name (i := 13) scLaw.nd rfl (.inl rfl))
      (pss_cons (ps_set (i := 10) scLaw.nd rfl (.inl rfl) pe_non)
      (pss_cons (ps_try_nam (tb := tbLaw K) rfl rfl scLaw.nd takes0 (fun W pn xe tk _ => (pss_one (ps_expr (pe_mtS (pv 8) T.cl m_row f_row (hr.mono (by decide)) b_row (fun σ => passAt tk σ) (pa_cons (pv 13) pa_nil)))))
      (.cons ⟨rfl, by decide, .inl x_NoThing.g⟩ (i := 14) rfl rfl (fun a oe cl d pn hz hf => (pss_one (ps_set (i := 10) scLaw.nd rfl (.inl rfl) (pe_xf x_NoThing.xf x_NoThing.no hz hf (pv 14)))))
      .nil))
      (pss_one (ps_if (pt_cmpR op_ne (pv 10) (pv 13) (nomark _))
      (pss_one (ps_ret pe_bl))
      pss_nil)))))
      (pss_one (ps_if (pt_not (pt_val (pe_cal c__law_refused (hr.mono (by decide)) pass0 (pa_cons (pv 1) (pa_cons (pv 6) (pa_cons (pv 5) (pa_cons (pv 3) pa_nil)))))))
      (pss_one (ps_ret pe_bl))
      pss_nil)))))))))))))))))
      (pss_cons (ps_set (i := 15) scLaw.nd rfl (.inl rfl) (pe_op op_add pe_int (pe_cal c__law_draw (hr.mono (by decide)) pass0 (pa_cons (pv 1) (pa_cons pe_int pa_nil)))))
      (pss_cons (ps_set (i := 16) scLaw.nd rfl (.inl rfl) (pe_callTy (call_dictP rfl) (by rfl) B.dict (by decide +kernel) (pa_cons (pe_lc (own := [("_law_k", 9)]) (g := (gName 9)) (by rfl) scLaw.nd (pi_range1 (by rfl) B.range (pa_cons (pv 15) pa_nil)) (blkOk_by (own := [("_law_k", 9)]) (N := nLaw) (sc := defScope sLaw) (by decide +kernel)) (fun _ _ _ _ _ => (pg_name (i := 9) scLaw.nd rfl (.inl rfl))) (fun _ _ _ _ _ => pts_nil) (fun _ _ _ _ _ => (pe_tup (pa_cons (pe_ix ix_str pe_str (pv 9) (fun _ _ => rfl)) (pa_cons (pe_op op_rep (pe_lst (pa_cons pe_int pa_nil)) pe_int) pa_nil))))) pa_nil)))
      (pss_cons (ps_set (i := 10) scLaw.nd rfl (.inl rfl) (pe_cal c__law_told (hr.mono (by decide)) pass0 (pa_cons (pv 16) (pa_cons pe_str pa_nil))))
      (pss_cons (ps_if (pt_cmpR op_gt (pv 15) pe_int (nomark _))
      (pss_one (ps_ret (pe_cmpR (op_eqD hr.units) (pv 10) (pe_tup (pa_cons pe_str (pa_cons pe_int pa_nil))) (nomark _))))
      pss_nil)
      (pss_cons (ps_set (i := 17) scLaw.nd rfl (.inl rfl) (pe_makeK mk_Rows f_Rows (hr.mono (by decide)) (by rfl) g_Rows b_Rows passL (pa_cons pe_dnewK pa_nil) (pk_cons (pe_cal c__law_field (hr.mono (by decide)) pass0 (pa_cons (pv 1) pa_nil)) pk_nil)))
      (pss_one (ps_ret (pe_and (pe_cmpR op_eq (pe_ix ix_tup (pv 10) pe_int (fun _ _ => rfl)) pe_str (nomark _)) (pe_and (pe_cmpR op_eq (pe_meth0 (pe_ix ix_tup (pv 10) pe_int (fun _ _ => rfl)) T.cl m_width f_width (hr.mono (by decide)) b_width .nil pass0) pe_int (nomark _)) (pe_and (pe_cmpR op_eq (pe_meth0 (pv 17) T.cl m_width f_width (hr.mono (by decide)) b_width .nil pass0) pe_int (nomark _)) (pe_one (pe_cmpR (op_eqD hr.units) (pe_meth0 (pv 17) T.cl m_things f_things (hr.mono (by decide)) b_things .nil pass0) (pe_lst pa_nil) (nomark _))))))))))))))), ?_⟩
    refine ⟨_, rfl, p, ns, rfl, hp, fun a G0 _ f0 wa => ?_⟩
    refine ⟨4, rfl, by omega, by omega, for_range (lo := 0) (n := 4) (fun i σ G => ∃ y2 y3 y4 y5 y6 y7 y8 y9 y10 y11 y12 y13 y14 y15 y16 y17 y18, σ = [some (.ref p), some (.ref a), y2, y3, y4, y5, y6, y7, y8, y9, y10, y11, y12, y13, y14, y15, y16, y17, y18] ∧ Ex G0 G)
      ⟨_, _, _, _, _, _, _, _, _, _, _, _, _, _, _, _, _, rfl, Ex.refl G0⟩ (fun i σ G hi hP => ?_) (fun σ G hP => ?_)⟩
    rotate_left
    · obtain ⟨y2, y3, y4, y5, y6, y7, y8, y9, y10, y11, y12, y13, y14, y15, y16, y17, y18, rfl, e0⟩ := hP
      have wa0 := wellAt_mono e0 wa
      refine ⟨_, rfl, a, 3, rfl, wa0, by decide, by decide, fun k k0 k1 => ⟨_, _, rfl, rfl, ?_⟩⟩
      obtain ⟨m, hm⟩ := Int.eq_ofNat_of_zero_le (show 0 ≤ 23 + k by omega)
      have mm : 23 ≤ m ∧ m ≤ 25 := by omega
      refine ⟨_, rfl, m, by show [V.int (23 + k)] = _; rw [hm], by omega, by omega, fun D hD => lc_range (lo := 0) (n := m) (fun j G2 => ∃ kvs', Ex G G2 ∧ PairsAt G2 D kvs' ∧ LR G2 kvs' (wideK j) ∧ ∀ q ∈ kvs', ∃ l, q.2 = .ref l ∧ G l = none ∧ l ≠ D)
        ⟨[], Ex.new hD, PairsAt.nil, .nil, fun q hq => by cases hq⟩ (fun j G2 hj hP => ?_) (fun G2 hP => ?_)⟩
      · obtain ⟨kvs', x2, pa, lr, nl⟩ := hP
        refine ⟨rfl, _, rfl, _, _, abc.cps.toList.getD j 0, rfl, rfl, by decide +kernel, abc_at (by omega), by show 1 ≤ sizeLine; decide, fun b1 hb1 => ?_⟩
        have f3 : Ex G2 _ := Ex.new (o := .lst [.int 1]) hb1
        have kb1 : (upd G2 b1 (.lst [.int 1])) b1 = _ := upd_same
        generalize upd G2 b1 (.lst [.int 1]) = G3 at f3 kb1
        refine ⟨b1, 24, _, rfl, rfl, kb1, by omega, by omega, sz_of (by show 1 * (24 : Int).toNat ≤ _; omega), fun l2 hl2 => ?_⟩
        rw [show (24 : Int).toNat = 24 by omega, flat_rep]
        have f4 : Ex G3 _ := Ex.new (o := .lst (List.replicate 24 (.int 1))) hl2
        have kl2 : (upd G3 l2 (.lst (List.replicate 24 (.int 1)))) l2 = _ := upd_same
        have l2D : l2 ≠ D := fun z => by
          obtain ⟨ps, h1, _⟩ := pa
          rw [z, f3 D _ h1] at hl2
          cases hl2
        generalize upd G3 l2 (.lst (List.replicate 24 (.int 1))) = G4 at f4 kl2
        refine ⟨by show 2 ≤ sizeLine; decide, fun t9 ht9 => ?_⟩
        have f5 : Ex G4 _ := Ex.new (o := .tup [.str ({ cps := #[abc.cps.toList.getD j 0] } : Str), .ref l2]) ht9
        have kt9 : (upd G4 t9 (.tup [.str ({ cps := #[abc.cps.toList.getD j 0] } : Str), .ref l2])) t9 = _ := upd_same
        generalize upd G4 t9 (.tup [.str ({ cps := #[abc.cps.toList.getD j 0] } : Str), .ref l2]) = G5 at f5 kt9
        have hlen : kvs'.length ≤ 1000 := by
          have h1 := lr_len lr
          rw [wide_len] at h1
          omega
        have g25 := f3.trans (f4.trans f5)
        obtain ⟨acc, a1, a2, a3⟩ := PairsAt.more (n := 0) (k := Sum.inr ({ cps := #[abc.cps.toList.getD j 0] } : Str)) (v := .ref l2) pa g25 kt9 hlen
        refine ⟨acc, a1, a2, _, Ex.mut (x2.trans g25) hD, a3, ?_, fun q hq => ?_⟩
        · rw [wide_step]
          refine paired_snoc ?_ ⟨rfl, l2, rfl, by rw [upd_ne l2D, List.map_replicate]; exact f5 l2 _ kl2⟩
          exact lr_updL nl (lr_mono g25 lr)
        · rcases List.mem_append.mp hq with h | h
          · exact nl q h
          · rw [List.mem_singleton.mp h]; exact ⟨l2, rfl, fresh_back (x2.trans f3) hl2, l2D⟩
      obtain ⟨kvs', x2, pa, lr, nl⟩ := hP
      have wnd : ((wideK m).map (·.1)).Nodup := wide_nd mm.2
      obtain ⟨ps5, sq5, pp5⟩ := pa.sq (K := K)
      refine ⟨D, ps5, kvs', rfl, sq5, pp5, fun pd hpd => ?_⟩
      rw [merge_lr lr wnd]
      have f4 : Ex G2 _ := Ex.new (o := .dK kvs') hpd
      have kpd : (upd G2 pd (.dK kvs')) pd = _ := upd_same
      generalize upd G2 pd (.dK kvs') = G4 at f4 kpd
      have lr4 := lr_mono f4 lr
      refine ⟨_, rfl, pd, rsOf (wideK m), false, rfl, wide_arg mm.2 kpd lr4, ?_⟩
      by_cases c : m = 25
      · subst c
        rw [wide_many]
        refine fun q5 G5 f5 k5 => ⟨_, rfl, _, _, rfl, rfl, _, rfl, iteB (fun _ => ?_) (fun c1 => absurd (of_decide_eq_false c1) (fun z => z (by omega)))⟩
        refine ⟨_, rfl, by show 2 ≤ sizeLine; decide, fun t6 ht6 => ?_⟩
        have f6 : Ex G5 _ := Ex.new (o := .tup [.str "many", .int 24]) ht6
        have kt6 : (upd G5 t6 (.tup [.str "many", .int 24])) t6 = _ := upd_same
        generalize upd G5 t6 (.tup [.str "many", .int 24]) = G6 at f6 kt6
        refine ⟨.tuple [.str "many", .int 24], .tuple [.str "many", .int 24], .tup (st_of (f6 q5 _ k5)) (.cons (.str _) (.cons (.int 24) .nil)), .tup (st_of kt6) (.cons (.str _) (.cons (.int 24) .nil)), by decide +kernel, by decide +kernel, ?_⟩
        rw [show PyData.eqv (.tuple [.str "many", .int 24]) (.tuple [.str "many", .int 24]) = true by decide +kernel]
        exact q G6
      · have gw := wide_good (m := m) (by omega)
        rw [due_good gw]
        refine fun q5 y5 e5 G5 f5 k5 ne5 wt5 => ⟨_, rfl, _, _, rfl, rfl, _, rfl, iteB (fun c1 => absurd (of_decide_eq_true c1) (by omega)) (fun _ => ?_)⟩
        rw [rs_len, wat_good gw (Nat.le_refl _), if_neg (by rw [wide_len]; omega)] at wt5
        have g5 : Ex G G5 := x2.trans (f4.trans f5)
        refine fun d6 hd6 => ?_
        have f6 : Ex G5 _ := Ex.new (o := .dK []) hd6
        have kd6 : (upd G5 d6 (.dK [])) d6 = _ := upd_same
        generalize upd G5 d6 (.dK []) = G6 at f6 kd6
        refine ⟨_, rfl, a, rfl, wellAt_mono (g5.trans f6) wa0, fun whole G7 f7 => ⟨rfl, rfl, fun y dy hy hdy _ => rows_made (kp := []) (kvs := []) (wd := 0) ⟨.nil, (fun n hn => by cases hn), (fun q hq => by cases hq), by omega, by show 0 ≤ 24; omega⟩ (f7 d6 _ kd6) .nil hy hdy (fun G8 e8 f8 _ wt8 => ⟨rfl, ?_⟩)⟩⟩
        rw [kept_sorted (kp := []) .nil (by decide +kernel)] at wt8
        have g58 := f6.trans (f7.trans f8)
        obtain ⟨vdx, vkv, v1, v2, v3⟩ := id (rowsAt_mono g58 wt5)
        obtain ⟨udx, ukv, u1, u2, u3⟩ := id wt8
        refine ⟨_, rfl, q5, _, 0, _, rfl, rfl, st_of (g58 q5 _ k5), rfl, rfl, _, rfl, ?_⟩
        refine iteB (fun _ => ?_) (fun c1 => absurd (of_decide_eq_false c1) (fun z => z rfl))
        refine ⟨_, rfl, q5, _, 1, _, rfl, rfl, st_of (g58 q5 _ k5), rfl, y5, _, _, rfl, v1, rfl, y5, e5, _, _, _, rfl, rowsAt_mono g58 wt5, rfl, _, rfl, ?_⟩
        refine iteB (fun _ => ?_) (fun c1 => absurd (of_decide_eq_false c1) (fun z => z rfl))
        refine ⟨_, rfl, y, _, _, rfl, u1, rfl, y, e8, _, _, _, rfl, wt8, rfl, _, rfl, ?_⟩
        refine iteB (fun _ => ?_) (fun c1 => absurd (of_decide_eq_false c1) (fun z => z rfl))
        refine ⟨_, rfl, y, _, _, rfl, u1, rfl, y, e8, _, _, _, rfl, wt8, fun l9 hl9 => ?_⟩
        have f9 : Ex G8 _ := Ex.new (o := .lst []) hl9
        have kl9 : (upd G8 l9 (.lst [])) l9 = _ := upd_same
        refine ⟨by show 0 ≤ sizeLine; decide, fun l10 hl10 => ?_⟩
        refine ⟨.list [], .list [], .lst (sq_of (Ex.new hl10 l9 _ kl9)) .nil, .lst (sq_of upd_same) .nil, by decide +kernel, by decide +kernel, ?_⟩
        rw [show PyData.eqv (.list []) (.list []) = true by decide +kernel]
        exact q _
    obtain ⟨y2, y3, y4, y5, y6, y7, y8, y9, y10, y11, y12, y13, y14, y15, y16, y17, y18, rfl, e0⟩ := hP
    have wa0 := wellAt_mono e0 wa
    refine ⟨_, rfl, a, rfl, wa0, fun whole G1 f1 => ?_⟩
    have wa1 := wellAt_mono f1 wa0
    refine ⟨_, rfl, _, rfl, a, 4, rfl, wa1, by decide, by decide, fun k k0 k1 => ⟨_, _, rfl, rfl, ?_⟩⟩
    obtain ⟨m, hm⟩ := Int.eq_ofNat_of_zero_le (show 0 ≤ 2 + k by omega)
    have m25 : 2 ≤ m ∧ m ≤ 5 := by omega
    refine ⟨a, m, by show [V.ref a, V.int (2 + k)] = _; rw [hm], wa1, by omega, fun xs tl G2 xl nd nm1 ss _ f2 ktl => ?_⟩
    have wa2 := wellAt_mono f2 wa1
    refine ⟨_, rfl, a, 5, rfl, wa2, by decide, by decide, fun wd wd0 wd1 => ?_⟩
    obtain ⟨wd, rfl⟩ := Int.eq_ofNat_of_zero_le wd0
    refine ⟨_, rfl, _, rfl, _, rfl, _, rfl, a, tl, xs, wd, whole, rfl, wa2, ktl, nd, by omega, by omega, fun d kvs kp G3 hd0 f3 kd lr ro => ?_⟩
    have kx : kp.map (·.1) = xs := ro.1
    have kpl : kp.length = m := by rw [← xl, ← kx, List.length_map]
    have gk : GoodK kp wd whole := ⟨by rw [kx]; exact nd, fun n hn => (nm1 n (by rw [← kx]; exact hn)).nm, ro.2, by omega, by omega⟩
    have ks : keptOf (rsOf kp) = kp := kept_sorted gk.nd (by rw [kx]; exact ss)
    have ktl3 := f3 tl _ ktl
    have wa3 := wellAt_mono f3 wa2
    -- passed
    refine ⟨_, rfl, tl, rfl, ⟨_, sq_of ktl3⟩, fun D hD => lc_it (walk_list (xs := xs.map V.str)) (fun i G => ∃ kvs', Ex G3 G ∧ PairsAt G D kvs' ∧ LR G kvs' (kp.take i) ∧ ∀ q ∈ kvs', ∃ l, q.2 = .ref l ∧ G3 l = none ∧ l ≠ D)
      ⟨[], Ex.new hD, PairsAt.nil, .nil, fun q hq => by cases hq⟩ (fun i G _ hP => ?_) (fun i v G G' hi hP hy => ?_) (fun G hP => ?_)⟩
    · obtain ⟨kvs', e7, _⟩ := hP
      exact sq_of (e7 tl _ ktl3)
    · obtain ⟨kvs', e7, pa, r7, n7⟩ := hP
      obtain ⟨rfl, hv⟩ := hy
      obtain ⟨rfl, hi2⟩ := getD_map hv
      obtain ⟨q0, hq0, hN⟩ := kp_at kx hi2
      have hq : q0 ∈ kp := List.mem_of_getElem? hq0
      rw [← hN]
      obtain ⟨l0, hl0, hl1⟩ := lr_at (lr_mono e7 lr) gk.nd hq
      refine ⟨rfl, _, rfl, _, rfl, _, rfl, d, _, rfl, dget_at (e7 d _ kd) hl0, l0, _, rfl, .inl (sq_of hl1), fun l2 hl2 => ?_⟩
      have e8 : Ex G' _ := Ex.new (o := .lst (q0.2.map V.int)) hl2
      have k8 : (upd G' l2 (.lst (q0.2.map V.int))) l2 = _ := upd_same
      have l2D : l2 ≠ D := fun z => by
        obtain ⟨ps, h1, _⟩ := pa
        rw [z, h1] at hl2
        cases hl2
      generalize upd G' l2 (.lst (q0.2.map V.int)) = G8 at e8 k8
      refine ⟨by show 2 ≤ sizeLine; decide, fun t9 ht9 => ?_⟩
      have e9 : Ex G8 _ := Ex.new (o := .tup [.str q0.1, .ref l2]) ht9
      have k9 : (upd G8 t9 (.tup [.str q0.1, .ref l2])) t9 = _ := upd_same
      generalize upd G8 t9 (.tup [.str q0.1, .ref l2]) = G9 at e9 k9
      have hlen : kvs'.length ≤ 1000 := by
        have h1 := lr_len r7
        rw [List.length_take] at h1
        omega
      obtain ⟨acc, a1, a2, a3⟩ := PairsAt.more (n := 0) (k := Sum.inr q0.1) (v := .ref l2) pa (e8.trans e9) k9 hlen
      refine ⟨acc, a1, a2, _, Ex.mut (e7.trans (e8.trans e9)) hD, a3, ?_, fun q hq => ?_⟩
      · rw [List.take_add_one, hq0]
        refine paired_snoc ?_ ⟨rfl, l2, rfl, by rw [upd_ne l2D]; exact e9 l2 _ k8⟩
        exact lr_updL n7 (lr_mono (e8.trans e9) r7)
      · rcases List.mem_append.mp hq with h | h
        · exact n7 q h
        · rw [List.mem_singleton.mp h]; exact ⟨l2, rfl, fresh_back e7 hl2, l2D⟩
    obtain ⟨kvs1, e7, pa, r7, n7⟩ := hP
    rw [List.length_map, xl, ← kpl, List.take_length] at r7
    obtain ⟨ps5, sq5, pp5⟩ := pa.sq (K := K)
    refine ⟨D, ps5, kvs1, rfl, sq5, pp5, fun pd hpd => ?_⟩
    rw [merge_lr r7 gk.nd]
    have f4 : Ex G _ := Ex.new (o := .dK kvs1) hpd
    have kpd : (upd G pd (.dK kvs1)) pd = _ := upd_same
    generalize upd G pd (.dK kvs1) = G4 at f4 kpd
    have r4 := lr_mono f4 r7
    have g34 := e7.trans f4
    -- made
    refine ⟨_, rfl, _, rfl, rfl, rfl, fun y dy hy hdy _ => rows_made gk kpd r4 hy hdy (fun G5 e0' f5 fe wt => ⟨rfl, ?_⟩)⟩
    rw [ks] at wt
    have ex5 := g34.trans f5
    have r5 := lr_mono f5 r4
    have kpd5 := f5 pd _ kpd
    have ktl5 := ex5 tl _ ktl3
    have pde : pd ≠ e0' := fun z => by rw [← z, kpd] at fe; cases fe
    have m0 : 0 < kp.length := by omega
    obtain ⟨qa, hqa, hNa⟩ := kp_at kx (i := 0) (by omega)
    have hqam : qa ∈ kp := List.mem_of_getElem? hqa
    obtain ⟨qz, hqz, hNz⟩ := kp_at kx (i := m - 1) (by omega)
    have hqzm : qz ∈ kp := List.mem_of_getElem? hqz
    have at0 : atI (xs.map V.str) 0 = some (.str qa.1) := by
      rw [hNa]
      exact at_first (by omega)
    have atz : atI (xs.map V.str) (-1) = some (.str qz.1) := by
      rw [hNz]
      exact at_last (by omega) xl
    obtain ⟨l0, hl0, hl0'⟩ := lr_at r5 gk.nd hqam
    have nl0 : G3 l0 = none := by
      obtain ⟨q', hq', e'⟩ := val_mem hl0
      obtain ⟨l', h1, h2, _⟩ := n7 q' hq'
      rw [e'] at h1
      rw [V.ref.inj h1]
      exact h2
    have qal : qa.2.length ≤ 9 := by rw [(ro.2 qa hqam).1]; omega
    refine ⟨_, rfl, _, rfl, tl, _, 0, _, rfl, rfl, sq_of ktl5, at0, pd, _, rfl, dget_at kpd5 hl0, .inl ⟨rfl, _, sq_of hl0'⟩, l0, _, _, rfl, rfl, hl0', by rw [List.length_map]; exact sz_lt (by omega), ?_⟩
    have l0e : l0 ≠ e0' := fun z => by
      obtain ⟨_, _, _, h2, _⟩ := wt
      rw [z, h2] at hl0'
      cases hl0'
    have wt6 := rowsAt_upd (o' := .lst (qa.2.map V.int ++ [.int 1])) wt hl0' (fun _ z => by cases z) (fun _ _ _ z => by cases z) l0e
    have ex6 : Ex G3 (upd G5 l0 (.lst (qa.2.map V.int ++ [.int 1]))) := Ex.mut ex5 nl0
    have l0p : pd ≠ l0 := fun z => by rw [z, hl0'] at kpd5; cases kpd5
    have kpd6 : (upd G5 l0 (.lst (qa.2.map V.int ++ [.int 1]))) pd = some (.dK kvs1) := by rw [upd_ne l0p]; exact kpd5
    generalize upd G5 l0 (.lst (qa.2.map V.int ++ [.int 1])) = G6 at wt6 ex6 kpd6
    obtain ⟨lz, hlz, _⟩ := lr_at r5 gk.nd hqzm
    refine ⟨_, rfl, pd, rfl, .inl ⟨_, .inl kpd6⟩, _, rfl, 1, rfl, tl, _, -1, _, rfl, rfl, sq_of (ex6 tl _ ktl3), atz, kvs1, Sum.inr qz.1, _, kpd6, rfl, hlz, ?_⟩
    have wt7 := rowsAt_upd (o' := .dK (dropK kvs1 (Sum.inr qz.1))) wt6 kpd6 (fun _ z => by cases z) (fun _ _ _ z => by cases z) pde
    have npd : G3 pd = none := fresh_back e7 hpd
    have ex7 : Ex G3 (upd G6 pd (.dK (dropK kvs1 (Sum.inr qz.1)))) := Ex.mut ex6 npd
    generalize upd G6 pd (.dK (dropK kvs1 (Sum.inr qz.1))) = G7 at wt7 ex7
    have wdE : wdOf kp wd = some wd := by unfold wdOf; rw [if_neg (by omega)]
    rw [wdE] at wt7
    have kd7 := ex7 d _ kd
    have lr7 := lr_mono ex7 lr
    have ktl7 := ex7 tl _ ktl3
    have wa7 := wellAt_mono ex7 wa3
    have okX : ∀ x ∈ xs, PyData.strOk x = true := fun x hx => (Bf.nm_ok (nm1 x hx).nm).2
    have eX : PyData.eqv (.list (strsD xs)) (.list (strsD xs)) = true := (eqv_strs xs xs).trans (decide_eq_true rfl)
    -- for k in range(2)
    refine ⟨2, rfl, by omega, by omega, for_range (lo := 0) (n := 2) (fun j σ G => ∃ z9 z10 z18, σ = [some (.ref p), some (.ref a), some (.int (0 + (i : Int))), some (.str (ovS whole)), some (.ref tl), some (.int wd), some (.ref d), some (.ref pd), some (.ref y), z9, z10, y11, y12, y13, y14, y15, y16, y17, z18] ∧ Ex G7 G)
      ⟨_, _, _, rfl, Ex.refl G7⟩ (fun j σ G hj hP => ?_) (fun σ G hP => ?_)⟩
    · obtain ⟨z9, z10, z18, rfl, e8⟩ := hP
      have wt8 := rowsAt_mono e8 wt7
      obtain ⟨ydx, ykv, y1, y2', y3'⟩ := id wt8
      -- things
      refine ⟨_, rfl, y, _, _, rfl, y1, rfl, y, e0', whole, kp, some wd, rfl, wt8, fun l1 hl1 => ?_⟩
      rw [kx]
      have f9 : Ex G _ := Ex.new (o := .lst (xs.map V.str)) hl1
      have k9 : (upd G l1 (.lst (xs.map V.str))) l1 = _ := upd_same
      generalize upd G l1 (.lst (xs.map V.str)) = G9 at f9 k9
      have e9 := e8.trans f9
      refine ⟨_, rfl, _, _, .lst (sq_of k9) (dp_strs xs), .lst (sq_of (e9 tl _ ktl7)) (dp_strs xs), shaped_lst okX, shaped_lst okX, _, rfl, ?_⟩
      rw [eX]
      refine iteF ?_
      -- rows
      refine ⟨_, rfl, y, _, _, rfl, f9 y _ y1, rfl, y, e0', whole, kp, some wd, rfl, rowsAt_mono f9 wt8, gk.nd, by omega, fun rd kv1 G10 _ f10 krd lr1 _ _ => ?_⟩
      have e10 := e9.trans f10
      refine ⟨_, rfl, rd, d, kv1, kvs, _, _, rfl, rfl, .inl krd, .inl (e10 d _ kd7), lr_data lr1, lr_data (lr_mono e10 lr7), _, rfl, ?_⟩
      rw [if_pos rfl, dict_kp eqL gk.nd]
      refine iteF ?_
      have wt10 := rowsAt_mono (f9.trans f10) wt8
      refine ⟨_, rfl, y, _, _, rfl, (f9.trans f10) y _ y1, rfl, y, e0', whole, kp, some wd, rfl, wt10, _, rfl, rfl, _, rfl, ?_⟩
      have dE : (!decide (V.int (((some wd).getD 0 : Nat) : Int) = V.int (wd : Int))) = false := by
        rw [decide_eq_true (show V.int (((some wd).getD 0 : Nat) : Int) = V.int (wd : Int) from rfl)]
        rfl
      rw [dE]
      refine iteF ?_
      refine ⟨_, rfl, y, _, _, rfl, (f9.trans f10) y _ y1, rfl, y, e0', whole, kp, some wd, rfl, wt10, _, rfl, rfl, _, rfl, ?_⟩
      have dO : (!decide (V.str (ovS whole) = V.str (ovS whole))) = false := by
        rw [decide_eq_true rfl]
        rfl
      rw [dO]
      refine iteF ?_
      -- told = made.things(); told.clear()
      refine ⟨_, rfl, y, _, _, rfl, (f9.trans f10) y _ y1, rfl, y, e0', whole, kp, some wd, rfl, wt10, fun l2 hl2 => ?_⟩
      refine ⟨_, rfl, .inl ⟨rfl, _, sq_of upd_same⟩, l2, _, rfl, rfl, upd_same, ?_⟩
      rw [upd_upd]
      have f11 : Ex G10 _ := Ex.new (o := .lst []) hl2
      generalize upd G10 l2 (.lst []) = G11 at f11
      have e11 := e10.trans f11
      have wt11 := rowsAt_mono f11 wt10
      obtain ⟨vdx, vkv, v1, v2, v3⟩ := id wt11
      -- told = made.rows(); ..
      refine ⟨_, rfl, y, _, _, rfl, v1, rfl, y, e0', whole, kp, some wd, rfl, wt11, gk.nd, by omega, fun rd2 kv2 G12 hrd f12 krd2 lr2 nw2 np2 => ?_⟩
      obtain ⟨la, hla, hla'⟩ := lr_at lr2 gk.nd hqam
      obtain ⟨lz2, hlz2, _⟩ := lr_at lr2 gk.nd hqzm
      have nla : G11 la = none := by
        obtain ⟨q', hq', e'⟩ := val_mem hla
        obtain ⟨l', h1, h2⟩ := nw2 q' hq'
        rw [e'] at h1
        rw [V.ref.inj h1]
        exact h2
      refine ⟨_, rfl, _, rfl, tl, _, 0, _, rfl, rfl, sq_of ((e11.trans f12) tl _ ktl7), at0, rd2, _, rfl, dget_at krd2 hla, .inl ⟨rfl, _, sq_of hla'⟩, la, _, _, rfl, rfl, hla', by rw [List.length_map]; exact sz_lt (by omega), ?_⟩
      have f13 : Ex G11 (upd G12 la (.lst (qa.2.map V.int ++ [.int 1]))) := Ex.mut f12 nla
      have rdla : rd2 ≠ la := fun z => by rw [z, hla'] at krd2; cases krd2
      have krd3 : (upd G12 la (.lst (qa.2.map V.int ++ [.int 1]))) rd2 = some (.dK kv2) := by rw [upd_ne rdla]; exact krd2
      generalize upd G12 la (.lst (qa.2.map V.int ++ [.int 1])) = G13 at f13 krd3
      refine ⟨_, rfl, rd2, rfl, .inl ⟨_, .inl krd3⟩, _, rfl, 1, rfl, tl, _, -1, _, rfl, rfl, sq_of ((e11.trans f13) tl _ ktl7), atz, kv2, Sum.inr qz.1, _, krd3, rfl, hlz2, ?_⟩
      have f14 : Ex G11 (upd G13 rd2 (.dK (dropK kv2 (Sum.inr qz.1)))) := Ex.mut f13 hrd
      generalize upd G13 rd2 (.dK (dropK kv2 (Sum.inr qz.1))) = G14 at f14
      have e14 := e11.trans f14
      have wt14 := rowsAt_mono f14 wt11
      have lkA := lookI_in gk.nd hqam
      -- told = made.row(things[0]); told.append(1)
      refine ⟨_, rfl, y, _, _, rfl, f14 y _ v1, rfl, _, rfl, tl, _, 0, _, rfl, rfl, sq_of (e14 tl _ ktl7), at0, y, e0', qa.1, whole, kp, some wd, rfl, wt14, (fun z => by rw [lkA] at z; cases z), fun is p2 hz hp2 => ?_⟩
      rw [lkA] at hz
      have eis := Option.some.inj hz
      subst eis
      refine ⟨_, rfl, .inl ⟨rfl, _, sq_of upd_same⟩, p2, _, _, rfl, rfl, upd_same, by rw [List.length_map]; exact sz_lt (by omega), ?_⟩
      rw [upd_upd]
      have f15 : Ex G14 _ := Ex.new (o := .lst (qa.2.map V.int ++ [.int 1])) hp2
      generalize upd G14 p2 (.lst (qa.2.map V.int ++ [.int 1])) = G15 at f15
      have e15 := e14.trans f15
      have wt15 := rowsAt_mono f15 wt14
      obtain ⟨udx, ukv, u1, u2, u3⟩ := id wt15
      refine ⟨_, rfl, tl, rfl, ⟨_, sq_of (e15 tl _ ktl7)⟩, fun D1 hD1 => lc_it (walk_list (xs := xs.map V.str)) (fun i G => ∃ rfs : List Addr, Ex G15 G ∧ G D1 = some (.lst (rfs.map V.ref)) ∧ Paired (fun l q => G l = some (.lst (q.2.map V.int)) ∧ l ≠ D1) rfs (kp.take i))
        ⟨[], Ex.new hD1, upd_same, .nil⟩ (fun i G _ hP => ?_) (fun i v G G' hi hP hy => ?_) (fun G hP => ?_)⟩
      · obtain ⟨_, x, _⟩ := hP
        exact sq_of ((e15.trans x) tl _ ktl7)
      · obtain ⟨rfs, x, hD, pr⟩ := hP
        obtain ⟨rfl, hv⟩ := hy
        obtain ⟨rfl, hi2⟩ := getD_map hv
        obtain ⟨q0, hq0, hN⟩ := kp_at kx hi2
        have hq : q0 ∈ kp := List.mem_of_getElem? hq0
        have lkq := lookI_in gk.nd hq
        rw [← hN]
        refine ⟨rfl, _, rfl, y, _, _, rfl, x y _ u1, rfl, _, rfl, y, e0', q0.1, whole, kp, some wd, rfl, rowsAt_mono x wt15, (fun z => by rw [lkq] at z; cases z), fun is p3 hz3 hp3 => ?_⟩
        rw [lkq] at hz3
        have eis3 := Option.some.inj hz3
        subst eis3
        have p3D : p3 ≠ D1 := fun z => by rw [z, hD] at hp3; cases hp3
        have lenr := Paired.length pr
        rw [List.length_take] at lenr
        refine ⟨_, Ex.new hp3 D1 _ hD, by rw [List.length_map]; exact sz_lt (by omega), rfs ++ [p3], Ex.mut (x.trans (Ex.new hp3)) hD1, by rw [upd_same, List.map_append]; rfl, ?_⟩
        rw [List.take_add_one, hq0]
        refine paired_snoc (Paired.mapP pr fun l q ⟨h1, h2⟩ => ⟨by rw [upd_ne h2]; exact Ex.new hp3 l _ h1, h2⟩) ⟨by rw [upd_ne p3D, upd_same], p3D⟩
      obtain ⟨rfs1, x1, hD1', pr1⟩ := hP
      rw [List.length_map, xl, ← kpl, List.take_length] at pr1
      have e16 := e15.trans x1
      refine ⟨_, rfl, tl, rfl, ⟨_, sq_of (e16 tl _ ktl7)⟩, fun D2 hD2 => lc_it (walk_list (xs := xs.map V.str)) (fun i G2 => ∃ rfs : List Addr, Ex G G2 ∧ G2 D2 = some (.lst (rfs.map V.ref)) ∧ Paired (fun l q => G2 l = some (.lst (q.2.map V.int)) ∧ l ≠ D2) rfs (kp.take i))
        ⟨[], Ex.new hD2, upd_same, .nil⟩ (fun i G2 _ hP => ?_) (fun i v G2 G' hi hP hy => ?_) (fun G2 hP => ?_)⟩
      · obtain ⟨_, x, _⟩ := hP
        exact sq_of ((e16.trans x) tl _ ktl7)
      · obtain ⟨rfs, x, hD, pr⟩ := hP
        obtain ⟨rfl, hv⟩ := hy
        obtain ⟨rfl, hi2⟩ := getD_map hv
        obtain ⟨q0, hq0, hN⟩ := kp_at kx hi2
        have hq : q0 ∈ kp := List.mem_of_getElem? hq0
        rw [← hN]
        obtain ⟨l4, hl4, hl4'⟩ := lr_at (lr_mono e16 lr7) gk.nd hq
        have l4D : l4 ≠ D2 := fun z => by rw [z, hD2] at hl4'; cases hl4'
        have lenr := Paired.length pr
        rw [List.length_take] at lenr
        refine ⟨rfl, _, rfl, _, rfl, d, _, rfl, dget_at ((e16.trans x) d _ kd7) hl4, _, hD, by rw [List.length_map]; exact sz_lt (by omega), rfs ++ [l4], Ex.mut x hD2, by rw [upd_same, List.map_append]; rfl, ?_⟩
        rw [List.take_add_one, hq0]
        refine paired_snoc (Paired.mapP pr fun l q ⟨h1, h2⟩ => ⟨by rw [upd_ne h2]; exact h1, h2⟩) ⟨by rw [upd_ne l4D]; exact x _ _ hl4', l4D⟩
      obtain ⟨rfs2, x2, hD2', pr2⟩ := hP
      rw [List.length_map, xl, ← kpl, List.take_length] at pr2
      refine ⟨_, _, .lst (sq_of (x2 D1 _ hD1')) (dp_rows (Paired.mapP pr1 fun l q ⟨h1, _⟩ => x2 l _ h1)), .lst (sq_of hD2') (dp_rows (Paired.mapP pr2 fun l q ⟨h1, _⟩ => h1)), shaped_ll kp, shaped_ll kp, _, rfl, ?_⟩
      have ell : PyData.eqv (.list (llD kp)) (.list (llD kp)) = true := eqv_ll kp
      rw [ell]
      exact iteF ⟨_, _, _, rfl, e16.trans x2⟩
    · obtain ⟨z9, z10, z18, rfl, e8⟩ := hP
      have wt8 := rowsAt_mono e8 wt7
      have kd8 := e8 d _ kd7
      have lr8 := lr_mono e8 lr7
      have ktl8 := e8 tl _ ktl7
      have wa8 := wellAt_mono e8 wa7
      -- again
      refine ⟨_, rfl, tl, _, rfl, sq_of ktl8, fun rv hrv => ?_⟩
      rw [← List.map_reverse]
      have f20 : Ex G _ := Ex.new (o := .lst (xs.reverse.map V.str)) hrv
      have krv : (upd G rv (.lst (xs.reverse.map V.str))) rv = _ := upd_same
      generalize upd G rv (.lst (xs.reverse.map V.str)) = G20 at f20 krv
      have kx2 : kp.reverse.map (·.1) = xs.reverse := by rw [List.map_reverse, kx]
      refine ⟨rv, rfl, ⟨_, sq_of krv⟩, fun D hD => lc_it (walk_list (xs := xs.reverse.map V.str)) (fun i G => ∃ kvs', Ex G20 G ∧ PairsAt G D kvs' ∧ LR G kvs' (kp.reverse.take i) ∧ ∀ q ∈ kvs', ∃ l, q.2 = .ref l ∧ G20 l = none ∧ l ≠ D)
        ⟨[], Ex.new hD, PairsAt.nil, .nil, fun q hq => by cases hq⟩ (fun i G _ hP => ?_) (fun i v G G' hi hP hy => ?_) (fun G hP => ?_)⟩
      · obtain ⟨kvs', e7, _⟩ := hP
        exact sq_of (e7 rv _ krv)
      · obtain ⟨kvs', e7, pa, r7, n7⟩ := hP
        obtain ⟨rfl, hv⟩ := hy
        obtain ⟨rfl, hi2⟩ := getD_map hv
        obtain ⟨q0, hq0, hN⟩ := kp_at kx2 hi2
        have hq : q0 ∈ kp := List.mem_reverse.mp (List.mem_of_getElem? hq0)
        rw [← hN]
        obtain ⟨l0, hl0, hl1⟩ := lr_at (lr_mono (f20.trans e7) lr8) gk.nd hq
        refine ⟨rfl, _, rfl, _, rfl, _, rfl, d, _, rfl, dget_at ((f20.trans e7) d _ kd8) hl0, l0, _, rfl, .inl (sq_of hl1), fun l2 hl2 => ?_⟩
        have e8 : Ex G' _ := Ex.new (o := .lst (q0.2.map V.int)) hl2
        have k8 : (upd G' l2 (.lst (q0.2.map V.int))) l2 = _ := upd_same
        have l2D : l2 ≠ D := fun z => by
          obtain ⟨ps, h1, _⟩ := pa
          rw [z, h1] at hl2
          cases hl2
        generalize upd G' l2 (.lst (q0.2.map V.int)) = G8 at e8 k8
        refine ⟨by show 2 ≤ sizeLine; decide, fun t9 ht9 => ?_⟩
        have e9 : Ex G8 _ := Ex.new (o := .tup [.str q0.1, .ref l2]) ht9
        have k9 : (upd G8 t9 (.tup [.str q0.1, .ref l2])) t9 = _ := upd_same
        generalize upd G8 t9 (.tup [.str q0.1, .ref l2]) = G9 at e9 k9
        have hlen : kvs'.length ≤ 1000 := by
          have h1 := lr_len r7
          rw [List.length_take, List.length_reverse] at h1
          omega
        obtain ⟨acc, a1, a2, a3⟩ := PairsAt.more (n := 0) (k := Sum.inr q0.1) (v := .ref l2) pa (e8.trans e9) k9 hlen
        refine ⟨acc, a1, a2, _, Ex.mut (e7.trans (e8.trans e9)) hD, a3, ?_, fun q hq => ?_⟩
        · rw [List.take_add_one, hq0]
          refine paired_snoc ?_ ⟨rfl, l2, rfl, by rw [upd_ne l2D]; exact e9 l2 _ k8⟩
          exact lr_updL n7 (lr_mono (e8.trans e9) r7)
        · rcases List.mem_append.mp hq with h | h
          · exact n7 q h
          · rw [List.mem_singleton.mp h]; exact ⟨l2, rfl, fresh_back e7 hl2, l2D⟩
      obtain ⟨kvs5, e21, pa5, r21, n21⟩ := hP
      have gk2 : GoodK kp.reverse wd whole := ⟨by rw [kx2]; exact nodup_perm (List.reverse_perm xs) nd, fun n hn => gk.nm n (by rw [List.map_reverse] at hn; exact List.mem_reverse.mp hn), fun q hq => gk.ok q (List.mem_reverse.mp hq), gk.w24, by rw [List.length_reverse]; exact gk.l24⟩
      rw [List.length_map, List.length_reverse, xl, ← kpl, List.take_of_length_le (by rw [List.length_reverse]; exact Nat.le_refl _)] at r21
      obtain ⟨ps6, sq6, pp6⟩ := pa5.sq (K := K)
      refine ⟨D, ps6, kvs5, rfl, sq6, pp6, fun ad had => ?_⟩
      rw [merge_lr r21 gk2.nd]
      have f22 : Ex G _ := Ex.new (o := .dK kvs5) had
      have kad : (upd G ad (.dK kvs5)) ad = _ := upd_same
      generalize upd G ad (.dK kvs5) = G22 at f22 kad
      refine ⟨_, rfl, rfl, rfl, fun ya dya hya hdya _ => rows_made gk2 kad (lr_mono f22 r21) hya hdya (fun G23 ea f23 _ wta => ⟨rfl, ?_⟩)⟩
      rw [kept_perm gk.nd (List.reverse_perm kp), ks] at wta
      have e23 := e8.trans (f20.trans (e21.trans (f22.trans f23)))
      -- less
      have kd23 := e23 d _ kd7
      have lr23 := lr_mono e23 lr7
      refine ⟨_, rfl, 1, rfl, tl, _, rfl, sq_of (e23 tl _ ktl7), fun sl hsl => ?_⟩
      have c1 : cutV (xs.map V.str) (some 1) none = (xs.drop 1).map V.str := drop_map xs 1 (by omega)
      rw [c1]
      have f24 : Ex G23 _ := Ex.new (o := .lst ((xs.drop 1).map V.str)) hsl
      have ksl : (upd G23 sl (.lst ((xs.drop 1).map V.str))) sl = _ := upd_same
      generalize upd G23 sl (.lst ((xs.drop 1).map V.str)) = G24 at f24 ksl
      have kx3 : (kp.drop 1).map (·.1) = xs.drop 1 := by rw [List.map_drop, kx]
      refine ⟨sl, rfl, ⟨_, sq_of ksl⟩, fun D hD => lc_it (walk_list (xs := (xs.drop 1).map V.str)) (fun i G => ∃ kvs', Ex G24 G ∧ PairsAt G D kvs' ∧ LR G kvs' ((kp.drop 1).take i) ∧ ∀ q ∈ kvs', ∃ l, q.2 = .ref l ∧ l ≠ D)
        ⟨[], Ex.new hD, PairsAt.nil, .nil, fun q hq => by cases hq⟩ (fun i G _ hP => ?_) (fun i v G G' hi hP hy => ?_) (fun G hP => ?_)⟩
      · obtain ⟨kvs', e7, _⟩ := hP
        exact sq_of (e7 sl _ ksl)
      · obtain ⟨kvs', e7, pa, r7, n7⟩ := hP
        obtain ⟨rfl, hv⟩ := hy
        obtain ⟨rfl, hi2⟩ := getD_map hv
        obtain ⟨q0, hq0, hN⟩ := kp_at kx3 hi2
        have hq : q0 ∈ kp := List.mem_of_mem_drop (List.mem_of_getElem? hq0)
        rw [← hN]
        obtain ⟨l0, hl0, hl1⟩ := lr_at (lr_mono (f24.trans e7) lr23) gk.nd hq
        have l0D : l0 ≠ D := fun z => by
          obtain ⟨l9, h9, h9'⟩ := lr_at (lr_mono f24 lr23) gk.nd hq
          rw [hl0] at h9
          have := V.ref.inj (Option.some.inj h9)
          rw [← this, z, hD] at h9'
          cases h9'
        refine ⟨rfl, _, rfl, _, rfl, _, rfl, d, _, rfl, dget_at ((f24.trans e7) d _ kd23) hl0, by show 2 ≤ sizeLine; decide, fun t9 ht9 => ?_⟩
        have e9 : Ex G' _ := Ex.new (o := .tup [.str q0.1, .ref l0]) ht9
        have k9 : (upd G' t9 (.tup [.str q0.1, .ref l0])) t9 = _ := upd_same
        generalize upd G' t9 (.tup [.str q0.1, .ref l0]) = G9 at e9 k9
        have hlen : kvs'.length ≤ 1000 := by
          have h1 := lr_len r7
          rw [List.length_take, List.length_drop] at h1
          omega
        obtain ⟨acc, a1, a2, a3⟩ := PairsAt.more (n := 0) (k := Sum.inr q0.1) (v := .ref l0) pa e9 k9 hlen
        refine ⟨acc, a1, a2, _, Ex.mut (e7.trans e9) hD, a3, ?_, fun q hq => ?_⟩
        · rw [List.take_add_one, hq0]
          refine paired_snoc ?_ ⟨rfl, l0, rfl, by rw [upd_ne l0D]; exact e9 l0 _ hl1⟩
          exact lr_updL (G := fun _ => none) (fun q hq => by obtain ⟨l, h1, h2⟩ := n7 q hq; exact ⟨l, h1, rfl, h2⟩) (lr_mono e9 r7)
        · rcases List.mem_append.mp hq with h | h
          · exact n7 q h
          · rw [List.mem_singleton.mp h]; exact ⟨l0, rfl, l0D⟩
      obtain ⟨kvs6, e25, pa6, r25, _⟩ := hP
      have gk3 : GoodK (kp.drop 1) wd whole := ⟨List.Nodup.sublist ((List.drop_sublist 1 kp).map _) gk.nd, fun n hn => gk.nm n (((List.drop_sublist 1 kp).map _).subset hn), fun q hq => gk.ok q (List.mem_of_mem_drop hq), gk.w24, by rw [List.length_drop]; have := gk.l24; omega⟩
      rw [List.length_map, List.length_drop, xl, List.take_of_length_le (by rw [List.length_drop]; omega)] at r25
      obtain ⟨ps7, sq7, pp7⟩ := pa6.sq (K := K)
      refine ⟨D, ps7, kvs6, rfl, sq7, pp7, fun ld hld => ?_⟩
      rw [merge_lr r25 gk3.nd]
      have f26 : Ex G _ := Ex.new (o := .dK kvs6) hld
      have kld : (upd G ld (.dK kvs6)) ld = _ := upd_same
      generalize upd G ld (.dK kvs6) = G26 at f26 kld
      refine ⟨_, rfl, rfl, rfl, fun yl dyl hyl hdyl _ => rows_made gk3 kld (lr_mono f26 r25) hyl hdyl (fun G27 el f27 _ wtl => ⟨rfl, ?_⟩)⟩
      have g2327 := f24.trans (e25.trans (f26.trans f27))
      have e27 := e23.trans g2327
      have wt27 := rowsAt_mono e27 wt7
      have wta27 := rowsAt_mono g2327 wta
      have lenK : (keptOf (rsOf (kp.drop 1))).length ≠ kp.length := by
        unfold keptOf
        rw [List.length_map, srt_len, keysW_len, rs_len, List.length_drop]
        omega
      obtain ⟨odx, okv, o1, o2, o3⟩ := id wt27
      obtain ⟨adx, akv, p1, p2', p3'⟩ := id wta27
      obtain ⟨qdx, qkv, q1, q2', q3'⟩ := id wtl
      have same : eqR whole whole kp kp = true := eqR_self gk.nd whole
      have less : eqR whole whole kp (keptOf (rsOf (kp.drop 1))) = false := eqR_len (fun z => lenK z.symm)
      refine ⟨_, rfl, _, rfl, y, ya, _, _, _, _, rfl, rfl, o1, p1, y, e0', _, whole, kp, some wd, rfl, wt27, .inl ⟨ya, ea, whole, kp, _, rfl, wta27, _, rfl, _, rfl, ?_⟩⟩
      rw [same]
      refine iteF ?_
      refine ⟨_, rfl, _, rfl, y, ya, _, _, _, _, rfl, rfl, o1, p1, y, e0', _, whole, kp, some wd, rfl, wt27, .inl ⟨ya, ea, whole, kp, _, rfl, wta27, _, rfl, _, rfl, ?_⟩⟩
      rw [same]
      refine iteF ?_
      refine ⟨_, rfl, _, rfl, y, yl, _, _, _, _, rfl, rfl, o1, q1, y, e0', _, whole, kp, some wd, rfl, wt27, .inl ⟨yl, el, whole, _, _, rfl, wtl, _, rfl, _, rfl, ?_⟩⟩
      rw [less]
      refine iteF ?_
      refine ⟨_, rfl, _, rfl, y, yl, _, _, _, _, rfl, rfl, o1, q1, y, e0', _, whole, kp, some wd, rfl, wt27, .inl ⟨yl, el, whole, _, _, rfl, wtl, _, rfl, _, rfl, ?_⟩⟩
      rw [less]
      refine iteF ?_
      have kd27 := e27 d _ kd7
      refine ⟨_, rfl, _, rfl, y, _, _, .type "dict", rfl, o1, .base (.dK kd27), M.nfD, y, e0', _, whole, kp, some wd, rfl, wt27, .inr ⟨_, .base (.dK kd27), M.kD, _, rfl, _, rfl, iteF ?_⟩⟩
      refine ⟨_, rfl, y, _, _, .type "int", rfl, o1, .base (.int 5), M.nfI, y, e0', _, whole, kp, some wd, rfl, wt27, .inr ⟨_, .base (.int 5), M.kI, _, rfl, _, rfl, iteF ?_⟩⟩
      -- over == 'two' and ..
      apply viaH (R := fun G => Ex G27 G)
      · intro key
        have two : ∀ b : Bool, decide (V.str (ovS b) = V.str "two") = !b := fun b => by cases b <;> decide +kernel
        refine ⟨_, rfl, rfl, _, rfl, ?_⟩
        rw [two]
        refine iteB (fun cw => ?_) (fun cw => ?_)
        rotate_left
        · generalize hG : G27 = G28
          exact iteF (key G28 (by rw [← hG]; exact Ex.refl G27))
        refine ⟨_, rfl, _, rfl, rfl, rfl, fun yw dyw hyw hdyw _ => rows_made (whole := true) ⟨gk.nd, gk.nm, fun q hq => ⟨(gk.ok q hq).1, fun z => by cases z⟩, gk.w24, gk.l24⟩ kd27 (lr_mono e27 lr7) hyw hdyw (fun G28 ew f28 _ wtw => ⟨rfl, ?_⟩)⟩
        obtain ⟨wdx, wkv, w1, w2, w3⟩ := id wtw
        refine ⟨y, yw, _, _, _, _, rfl, rfl, f28 y _ o1, w1, y, e0', _, whole, kp, some wd, rfl, rowsAt_mono f28 wt27, .inl ⟨yw, ew, true, _, _, rfl, wtw, _, rfl, _, rfl, ?_⟩⟩
        have no : eqR whole true kp (keptOf (rsOf kp)) = false := by
          unfold eqR
          rw [show whole = false by simpa using cw]
          rfl
        rw [no]
        exact iteF (key G28 f28)
      · intro G28 f28
        have e28 := e27.trans f28
        have wt28 := rowsAt_mono f28 wt27
        obtain ⟨rdx, rkv, r1, r2, r3⟩ := id wt28
        have qaNm : isNm qa.1 = true := gk.nm _ (List.mem_map.mpr ⟨qa, hqam, rfl⟩)
        have qa8 : qa.1.length ≤ 8 := of_decide_eq_true (Bool.and_eq_true_iff.mp (Bool.and_eq_true_iff.mp qaNm).2).1
        -- the odd names
        refine ⟨_, rfl, tl, _, 0, _, rfl, rfl, sq_of (e28 tl _ ktl7), at0, _, _, rfl, rfl, sz_of (by show qa.1.length + 1 ≤ _; omega), by show 4 ≤ sizeLine; decide, fun ol hol => ?_⟩
        have f29 : Ex G28 _ := Ex.new (o := .lst ((odds qa.1).map V.str)) hol
        have kol : (upd G28 ol (.lst ((odds qa.1).map V.str))) ol = _ := upd_same
        refine ⟨ol, rfl, ⟨_, sq_of kol⟩, for_list (xs := (odds qa.1).map V.str) (fun j σ G => ∃ z10 z13 z14, σ = [some (.ref p), some (.ref a), some (.int (0 + (i : Int))), some (.str (ovS whole)), some (.ref tl), some (.int wd), some (.ref d), some (.ref pd), some (.ref y), z9, z10, some (.ref ya), some (.ref yl), z13, z14, y15, y16, y17, z18] ∧ Ex (upd G28 ol (.lst ((odds qa.1).map V.str))) G)
          ⟨_, _, _, rfl, Ex.refl _⟩ (fun j σ G hj hP => ?_) (fun j x σ G hx hP => ?_) (fun σ G hP => ?_)⟩
        · obtain ⟨_, _, _, _, x⟩ := hP
          exact sq_of (x ol _ kol)
        · obtain ⟨z10, z13, z14, rfl, x30⟩ := hP
          obtain ⟨o, ho, rfl⟩ := List.mem_map.mp (List.mem_of_getElem? hx)
          have g30 := f29.trans x30
          have lkO : lookI kp o = none := lookI_no (by rw [kx]; exact odds_no nm1 ho)
          refine ⟨_, rfl, y, _, _, rfl, g30 y _ r1, rfl, _, rfl, y, e0', o, whole, kp, some wd, rfl, rowsAt_mono g30 wt28, fun _ => ?_, fun is p2 z => by rw [lkO] at z; cases z⟩
          refine fun d2 G31 f31 hd2 hg2 => ⟨true, nn, fun _ a2 na => ?_, fun z => nope rfl z⟩
          refine ⟨_, rfl, rfl, rfl, d2, _, _, rfl, hg2, rfl, ?_⟩
          refine ⟨_, rfl, _, rfl, rfl, _, rfl, ?_⟩
          have dO : (!decide (V.str o = V.str o)) = false := by
            rw [decide_eq_true rfl]
            rfl
          rw [dO]
          exact iteF ⟨_, _, _, rfl, x30.trans f31⟩
        obtain ⟨z10', z13, z14, rfl, x30⟩ := hP
        have e30 := e28.trans (f29.trans x30)
        refine ⟨_, rfl, _, rfl, _, rfl, _, rfl, a, d, kvs, kp, wd, whole, rfl, wellAt_mono e30 wa7, e30 d _ kd7, lr_mono e30 lr7, gk.ok, gk.nd, gk.nm, by omega, by omega, by omega, fun G32 f32 => ⟨true, rfl, iteF ?_⟩⟩
        exact ⟨_, _, _, _, _, _, _, _, _, _, _, _, _, _, _, _, _, rfl, e0.trans (f1.trans (f2.trans (f3.trans (ex7.trans (e30.trans f32)))))⟩
end
end L43
namespace L43
open PySem PySem.Spec PyProof.Rows L2 Evl Bf
def dd (n : Str) (st : Stmt) : He.DefD := ⟨(n, none), n, n, defArgs st, defBody st, defScope st, [], []⟩
def dm (c n q : Str) (st : Stmt) : He.DefD := ⟨(c, some n), n, q, defArgs st, defBody st, defScope st, [], []⟩
abbrev xNoThing : Stmt := inClass (top 2) 0
abbrev xTooMany : Stmt := inClass (top 3) 0
abbrev xBadRows : Stmt := inClass (top 4) 0
def fn : List He.DefD := [dd "is_integer" sIsInt, dd "is_name" sIsName, dd "is_row" sIsRow, dd "_law_state" sState, dd "_law_draw" sDraw, dd "_law_names" sNames, dd "_law_field" sField, dd "_law_rows" sLRows, dd "_law_told" sTold, dd "_law_wrong_row" sWrong, dd "_law_refused" sRefused, dd "law" sLaw, dm "Rows" "__init__" "Rows.__init__" sInit, dm "Rows" "things" "Rows.things" sThings, dm "Rows" "rows" "Rows.rows" sRows, dm "Rows" "row" "Rows.row" sRow, dm "Rows" "width" "Rows.width" sWidth, dm "Rows" "over" "Rows.over" sOver, dm "Rows" "__eq__" "Rows.__eq__" sEq, dm "NoThing" "__init__" "NoThing.__init__" xNoThing, dm "TooMany" "__init__" "TooMany.__init__" xTooMany, dm "BadRows" "__init__" "BadRows.__init__" xBadRows]
def globs : List Str := ["is_integer", "is_name", "is_row", "_law_state", "_law_draw", "_law_names", "_law_field", "_law_rows", "_law_told", "_law_wrong_row", "_law_refused", "law", "Rows", "NoThing", "TooMany", "BadRows", "LotError"]
def fa : List He.Fa := [.str "LETTERS" abc, .int "MOST_LETTERS" 8, .int "MOST_THINGS" 24, .int "MOST_WIDTH" 24, .cls "Rows", .noat "Rows" "field", .noat "Rows" "kept", .noat "Rows" "long", .mkr "Rows", .meth "Rows" "things", .meth "Rows" "rows", .meth "Rows" "row", .meth "Rows" "width", .meth "Rows" "over", .exm "BadRows" "BadRows" true, .exm "TooMany" "BadRows" false, .exm "TooMany" "TooMany" true, .exm "NoThing" "NoThing" true]
def ex (K : PySem.W.Frag) : Bool := globB K globs && (freeB K blNames && ((fa.all fun f => f.ok K) && (excB K "NoThing" "thing" && (excB K "TooMany" "limit" && (excB K "BadRows" "thing" && (ownB K (He.ga K "Rows") && (insB K (He.ga K "Rows") && (exIsB K (He.ga K "BadRows") && (decide (PySem.W.kitOne K (.ref (He.ga K "BadRows")) (.ref (He.ga K "LotError")) = some true) && (PySem.W.notFirst K (He.ga K "Rows") (.type "int") && (PySem.W.notFirst K (He.ga K "Rows") (.type "dict") && (decide (PySem.W.kitOne K (.type "int") (.ref (He.ga K "Rows")) = some false) && (decide (PySem.W.kitOne K (.type "dict") (.ref (He.ga K "Rows")) = some false))))))))))))))
abbrev R : PySem.W.OpenRow := PySem.W.OpenLaw.row PySem.Challenge.rw_bothfree_k43_rows_made_and_refused
abbrev hk : PySem.W.Hook := hookB 4 fn ex
abbrev ob (s : PySem.W.SharedT) : AlB := lookB 4 fn ex s
theorem ob_eq (s : PySem.W.SharedT) : ob s = hk.obs s.abs := lookB_eq 4 fn ex s
def loose : List Str := ["_wall", "LotError", "NoThing", "TooMany", "BadRows", "LETTERS", "MOST_LETTERS", "MOST_THINGS", "is_integer", "is_name", "MOST_WIDTH", "is_row", "Rows", "_law_state", "_law_draw", "_law_names", "_law_forest", "_law_two_free", "_law_free", "_law_rank", "_law_field", "_law_rows", "_law_told", "_law_wrong_row", "_law_refused"]
theorem run (w : World) : HandSHeadRun.RunEq R (PySem.W.view R.prog [28]) hk ob 20000 loose w := by
  intro os
  kernel_rfl
end L43
namespace L43
open PySem PySem.Spec PyProof.Rows L2 Evl Bf
section
variable {P : Program} {w : World} {K : PySem.W.Frag} {mg : Str → Option Value} {base : Heap}
theorem facts {h : Heap} {f : Addr} (X : K.In h) (G : h.Ns mainGlobals mg) (hfa : mg ("law" : Str) = some (.ref f)) (c : Bf.SayB fn ex K) :
    ∃ fd : FuncData, (∀ (s : Shared) (v : Value), BindsTo s fd ⟨[v], []⟩ [("_law_script", v)]) ∧ ∀ base : Heap, K.In base → base.Ns mainGlobals mg → FnOk P w K mg base CX0 7 f fd ["_law_script"] (spLaw K) := by
  obtain ⟨h1, h'⟩ := Bool.and_eq_true_iff.mp c.more
  obtain ⟨h2, h'⟩ := Bool.and_eq_true_iff.mp h'
  obtain ⟨h3, h'⟩ := Bool.and_eq_true_iff.mp h'
  obtain ⟨e0, h'⟩ := Bool.and_eq_true_iff.mp h'
  obtain ⟨e1, h'⟩ := Bool.and_eq_true_iff.mp h'
  obtain ⟨e2, h'⟩ := Bool.and_eq_true_iff.mp h'
  obtain ⟨e3, h'⟩ := Bool.and_eq_true_iff.mp h'
  obtain ⟨e4, h'⟩ := Bool.and_eq_true_iff.mp h'
  obtain ⟨e5, h'⟩ := Bool.and_eq_true_iff.mp h'
  obtain ⟨e6, h'⟩ := Bool.and_eq_true_iff.mp h'
  obtain ⟨e7, h'⟩ := Bool.and_eq_true_iff.mp h'
  obtain ⟨e8, h'⟩ := Bool.and_eq_true_iff.mp h'
  obtain ⟨e9, h'⟩ := Bool.and_eq_true_iff.mp h'
  have e10 := h'
  have g : ∀ {x : Str}, x ∈ globs → mg x = some (.ref (He.ga K x)) := fun hx => globB_ok X G h1 hx
  have B : Bl mg := bl_of X G h2
  have a : ∀ {q : He.Fa} (i : Nat), fa[i]? = some q → q.ok K = true := fun i hq => List.all_eq_true.mp h3 _ (List.mem_of_getElem? hq)
  obtain ⟨fd_IsInt, F_IsInt⟩ := SayB.def_ c 0 (d := dd "is_integer" sIsInt) rfl
  replace F_IsInt : FnS K "is_integer" "is_integer" sIsInt (He.ga K "is_integer") fd_IsInt := F_IsInt
  obtain ⟨fd_IsName, F_IsName⟩ := SayB.def_ c 1 (d := dd "is_name" sIsName) rfl
  replace F_IsName : FnS K "is_name" "is_name" sIsName (He.ga K "is_name") fd_IsName := F_IsName
  obtain ⟨fd_IsRow, F_IsRow⟩ := SayB.def_ c 2 (d := dd "is_row" sIsRow) rfl
  replace F_IsRow : FnS K "is_row" "is_row" sIsRow (He.ga K "is_row") fd_IsRow := F_IsRow
  obtain ⟨fd_State, F_State⟩ := SayB.def_ c 3 (d := dd "_law_state" sState) rfl
  replace F_State : FnS K "_law_state" "_law_state" sState (He.ga K "_law_state") fd_State := F_State
  obtain ⟨fd_Draw, F_Draw⟩ := SayB.def_ c 4 (d := dd "_law_draw" sDraw) rfl
  replace F_Draw : FnS K "_law_draw" "_law_draw" sDraw (He.ga K "_law_draw") fd_Draw := F_Draw
  obtain ⟨fd_Names, F_Names⟩ := SayB.def_ c 5 (d := dd "_law_names" sNames) rfl
  replace F_Names : FnS K "_law_names" "_law_names" sNames (He.ga K "_law_names") fd_Names := F_Names
  obtain ⟨fd_Field, F_Field⟩ := SayB.def_ c 6 (d := dd "_law_field" sField) rfl
  replace F_Field : FnS K "_law_field" "_law_field" sField (He.ga K "_law_field") fd_Field := F_Field
  obtain ⟨fd_LRows, F_LRows⟩ := SayB.def_ c 7 (d := dd "_law_rows" sLRows) rfl
  replace F_LRows : FnS K "_law_rows" "_law_rows" sLRows (He.ga K "_law_rows") fd_LRows := F_LRows
  obtain ⟨fd_Told, F_Told⟩ := SayB.def_ c 8 (d := dd "_law_told" sTold) rfl
  replace F_Told : FnS K "_law_told" "_law_told" sTold (He.ga K "_law_told") fd_Told := F_Told
  obtain ⟨fd_Wrong, F_Wrong⟩ := SayB.def_ c 9 (d := dd "_law_wrong_row" sWrong) rfl
  replace F_Wrong : FnS K "_law_wrong_row" "_law_wrong_row" sWrong (He.ga K "_law_wrong_row") fd_Wrong := F_Wrong
  obtain ⟨fd_Refused, F_Refused⟩ := SayB.def_ c 10 (d := dd "_law_refused" sRefused) rfl
  replace F_Refused : FnS K "_law_refused" "_law_refused" sRefused (He.ga K "_law_refused") fd_Refused := F_Refused
  obtain ⟨fd_Law, F_Law⟩ := SayB.def_ c 11 (d := dd "law" sLaw) rfl
  replace F_Law : FnS K "law" "law" sLaw (He.ga K "law") fd_Law := F_Law
  obtain ⟨fd_Init, F_Init⟩ := SayB.def_ c 12 (d := dm "Rows" "__init__" "Rows.__init__" sInit) rfl
  replace F_Init : FnS K "__init__" "Rows.__init__" sInit (He.ma K (He.ga K "Rows") "__init__") fd_Init := F_Init
  obtain ⟨fd_Things, F_Things⟩ := SayB.def_ c 13 (d := dm "Rows" "things" "Rows.things" sThings) rfl
  replace F_Things : FnS K "things" "Rows.things" sThings (He.ma K (He.ga K "Rows") "things") fd_Things := F_Things
  obtain ⟨fd_Rows, F_Rows⟩ := SayB.def_ c 14 (d := dm "Rows" "rows" "Rows.rows" sRows) rfl
  replace F_Rows : FnS K "rows" "Rows.rows" sRows (He.ma K (He.ga K "Rows") "rows") fd_Rows := F_Rows
  obtain ⟨fd_Row, F_Row⟩ := SayB.def_ c 15 (d := dm "Rows" "row" "Rows.row" sRow) rfl
  replace F_Row : FnS K "row" "Rows.row" sRow (He.ma K (He.ga K "Rows") "row") fd_Row := F_Row
  obtain ⟨fd_Width, F_Width⟩ := SayB.def_ c 16 (d := dm "Rows" "width" "Rows.width" sWidth) rfl
  replace F_Width : FnS K "width" "Rows.width" sWidth (He.ma K (He.ga K "Rows") "width") fd_Width := F_Width
  obtain ⟨fd_Over, F_Over⟩ := SayB.def_ c 17 (d := dm "Rows" "over" "Rows.over" sOver) rfl
  replace F_Over : FnS K "over" "Rows.over" sOver (He.ma K (He.ga K "Rows") "over") fd_Over := F_Over
  obtain ⟨fd_Eq, F_Eq⟩ := SayB.def_ c 18 (d := dm "Rows" "__eq__" "Rows.__eq__" sEq) rfl
  replace F_Eq : FnS K "__eq__" "Rows.__eq__" sEq (He.ma K (He.ga K "Rows") "__eq__") fd_Eq := F_Eq
  obtain ⟨fd_NoThing, F_NoThing⟩ := SayB.def_ c 19 (d := dm "NoThing" "__init__" "NoThing.__init__" xNoThing) rfl
  replace F_NoThing : FnS K "__init__" "NoThing.__init__" xNoThing (He.ma K (He.ga K "NoThing") "__init__") fd_NoThing := F_NoThing
  obtain ⟨fd_TooMany, F_TooMany⟩ := SayB.def_ c 20 (d := dm "TooMany" "__init__" "TooMany.__init__" xTooMany) rfl
  replace F_TooMany : FnS K "__init__" "TooMany.__init__" xTooMany (He.ma K (He.ga K "TooMany") "__init__") fd_TooMany := F_TooMany
  obtain ⟨fd_BadRows, F_BadRows⟩ := SayB.def_ c 21 (d := dm "BadRows" "__init__" "BadRows.__init__" xBadRows) rfl
  replace F_BadRows : FnS K "__init__" "BadRows.__init__" xBadRows (He.ma K (He.ga K "BadRows") "__init__") fd_BadRows := F_BadRows
  have e := hfa.symm.trans (g (x := "law") (by decide))
  cases e
  have b := FunD.bindsA (ps := ["_law_script"]) F_Law (fun _ _ _ _ _ _ us hl => match us, hl with | [_], _ => rfl)
  refine ⟨fd_Law, fun s v => b s [v] rfl, fun base _ _ => ?_⟩
  have x_NoThing : ExT P w K mg base "NoThing" "thing" (He.ga K "NoThing") := excB_ok e0 (g (by decide)) (by
    obtain ⟨ps, o⟩ := ok_xinit (P := P) (w := w) (mg := mg) (base := base) (fld := "thing") F_NoThing rfl ⟨rfl, rfl, rfl, by decide +kernel, rfl, by decide +kernel, by decide +kernel⟩ rfl rfl (by decide) (by decide) (fun _ _ _ _ _ _ us hl => match us, hl with | [_, _], _ => rfl)
    exact ⟨fd_NoThing, ps, o⟩)
  have x_TooMany : ExT P w K mg base "TooMany" "limit" (He.ga K "TooMany") := excB_ok e1 (g (by decide)) (by
    obtain ⟨ps, o⟩ := ok_xinit (P := P) (w := w) (mg := mg) (base := base) (fld := "limit") F_TooMany rfl ⟨rfl, rfl, rfl, by decide +kernel, rfl, by decide +kernel, by decide +kernel⟩ rfl rfl (by decide) (by decide) (fun _ _ _ _ _ _ us hl => match us, hl with | [_, _], _ => rfl)
    exact ⟨fd_TooMany, ps, o⟩)
  have x_BadRows : ExT P w K mg base "BadRows" "thing" (He.ga K "BadRows") := excB_ok e2 (g (by decide)) (by
    obtain ⟨ps, o⟩ := ok_xinit (P := P) (w := w) (mg := mg) (base := base) (fld := "thing") F_BadRows rfl ⟨rfl, rfl, rfl, by decide +kernel, rfl, by decide +kernel, by decide +kernel⟩ rfl rfl (by decide) (by decide) (fun _ _ _ _ _ _ us hl => match us, hl with | [_, _], _ => rfl)
    exact ⟨fd_BadRows, ps, o⟩)
  have cW : Cls K (He.ga K "Rows") := He.cls_ok (a 4 rfl)
  have T : RowT K mg := ⟨g (by decide), cW, He.noat_ok (a 5 rfl), He.noat_ok (a 6 rfl), He.noat_ok (a 7 rfl), insB_ok e4 cW⟩
  have kL := He.str_ok X G (a 0 rfl)
  have kML := He.int_ok X G (a 1 rfl)
  have kMT := He.int_ok X G (a 2 rfl)
  have kMW := He.int_ok X G (a 3 rfl)
  have cNm := cal_of F_IsName (ok_isName (P := P) (w := w) (base := base) F_IsName B kL kML) (g (by decide)) (fun _ _ _ _ _ _ us hl => match us, hl with | [_], _ => rfl)
  have cInt := cal_of F_IsInt (ok_isInt (P := P) (w := w) (base := base) F_IsInt B) (g (by decide)) (fun _ _ _ _ _ _ us hl => match us, hl with | [_], _ => rfl)
  have cRow := cal_of F_IsRow (ok_isRow F_IsRow B kMW cInt) (g (by decide)) (fun _ _ _ _ _ _ us hl => match us, hl with | [_, _, _], _ => rfl)
  have cState := cal_of F_State (ok_state (ok_state0 (P := P) (w := w) (base := base) F_State B)) (g (by decide)) (fun _ _ _ _ _ _ us hl => match us, hl with | [_], _ => rfl)
  have cDraw := cal_of F_Draw (ok_draw (ok_draw0 (P := P) (w := w) (base := base) F_Draw B)) (g (by decide)) (fun _ _ _ _ _ _ us hl => match us, hl with | [_, _], _ => rfl)
  have cNames := cal_of F_Names (ok_names F_Names B cDraw) (g (by decide)) (fun _ _ _ _ _ _ us hl => match us, hl with | [_, _], _ => rfl)
  have cField := cal_of F_Field (ok_field F_Field B cDraw) (g (by decide)) (fun _ _ _ _ _ _ us hl => match us, hl with | [_], _ => rfl)
  have cLRows := cal_of F_LRows (ok_lrows F_LRows B cDraw) (g (by decide)) (fun _ _ _ _ _ _ us hl => match us, hl with | [_, _, _, _], _ => rfl)
  have mkR := He.mkr_ok (a 8 rfl)
  have oI := ok_init F_Init B T kMT x_BadRows x_TooMany cNm cRow
  have bI : KBn K fd_Init ["self", "rows", "over"] 2 ["over"] (fun us ws => us ++ ws) (fun vs zs => vs ++ zs) := kbn_of F_Init (fun _ _ _ _ _ _ us ws hl hw => match us, ws, hl, hw with | [_, _], [_], _, _ => rfl)
  have cTold := cal_of F_Told (ok_told F_Told B mkR oI bI (g (by decide)) (g (by decide)) x_BadRows x_TooMany (fun D hD => hD ▸ exIsB_ok e5) (of_decide_eq_true e6) (He.exm_ok (a 14 rfl)) (He.exm_ok (a 15 rfl)) (He.exm_ok (a 16 rfl))) (g (by decide)) (fun _ _ _ _ _ _ us hl => match us, hl with | [_, _], _ => rfl)
  have cWrong := cal_of F_Wrong (ok_wrong F_Wrong B cDraw) (g (by decide)) (fun _ _ _ _ _ _ us hl => match us, hl with | [_, _, _], _ => rfl)
  have cRef := cal_of F_Refused (ok_refused F_Refused B cDraw cWrong cTold) (g (by decide)) (fun _ _ _ _ _ _ us hl => match us, hl with | [_, _, _, _], _ => rfl)
  have M : RowM P w K mg base _ _ _ _ _ _ _ fd_Init fd_Things fd_Rows fd_Row fd_Width fd_Over fd_Eq :=
    ⟨mkR, oI, bI, He.meth_ok (a 9 rfl), ok_things F_Things B T, F_Things.bindsN (fun _ _ _ _ _ _ us hl => match us, hl with | [_], _ => rfl), He.meth_ok (a 10 rfl), ok_rows F_Rows B T, F_Rows.bindsN (fun _ _ _ _ _ _ us hl => match us, hl with | [_], _ => rfl), He.meth_ok (a 11 rfl), ok_row F_Row B T x_NoThing, F_Row.bindsN (fun _ _ _ _ _ _ us hl => match us, hl with | [_, _], _ => rfl),
      He.meth_ok (a 12 rfl), ok_width F_Width B T, F_Width.bindsN (fun _ _ _ _ _ _ us hl => match us, hl with | [_], _ => rfl), He.meth_ok (a 13 rfl), ok_over F_Over B T, F_Over.bindsN (fun _ _ _ _ _ _ us hl => match us, hl with | [_], _ => rfl), ownB_ok e3, ok_eq F_Eq B T, F_Eq.bindsN (fun _ _ _ _ _ _ us hl => match us, hl with | [_, _], _ => rfl), e7, e8, of_decide_eq_true e9, of_decide_eq_true e10⟩
  exact ok_law F_Law B T M x_NoThing (He.exm_ok (a 17 rfl)) cDraw cState cField cNames cLRows cTold cRef
end
end L43
open PySem PySem.W PySem.Calls PyProof.Rows
theorem PySem.Challenge.cw_bothfree_k43_rows_made_and_refused_holds : PySem.Challenge.rw_bothfree_k43_rows_made_and_refused.Holds := by
  w_on; o_law
  refine HandSHeadRun.head_any (r := OpenLaw.row PySem.Challenge.rw_bothfree_k43_rows_made_and_refused) (q := view (OpenLaw.row PySem.Challenge.rw_bothfree_k43_rows_made_and_refused).prog [28]) (H := L43.hk) (ob := L43.ob) (M := 20000) (loose := L43.loose) (d := HandSHeadRun.topDef (OpenLaw.row PySem.Challenge.rw_bothfree_k43_rows_made_and_refused).prog 28) (kwd := []) L43.ob_eq
    (by kernel_rfl) (fun s => by kernel_rfl) L43.run (by kernel_rfl) (by kernel_rfl) (by kernel_rfl) (by rfl) (by first | assumption | decide +kernel) (by decide +kernel) ⟨rfl, rfl, rfl, rfl, rfl, by decide +kernel⟩ ?hw ?hc
  case hw => w_witness2
  case hc =>
    refine L2.walk_ofE (l := PySem.Challenge.rw_bothfree_k43_rows_made_and_refused) (n := 63) (k := 7) (x := "_law_script") (CX := L2.CX0) rfl (by decide) (by kernel_rfl) ⟨rfl, by decide, by decide⟩ ?F (fun _ _ _ _ z => z)
    intro w mg fa h Y G hmg0
    obtain ⟨K, KX, c⟩ := Y
    have hmg : mg ("law" : PySem.Str) = some (.ref fa) := by
      have e : (HandSHeadRun.topDef (OpenLaw.row PySem.Challenge.rw_bothfree_k43_rows_made_and_refused).prog 28).name = ("law" : PySem.Str) := by kernel_rfl
      rw [← e]
      exact hmg0
    obtain ⟨fd, hb, hF⟩ := L43.facts (P := (PySem.Challenge.rw_bothfree_k43_rows_made_and_refused).prog) (w := w) KX G hmg c
    exact ⟨K, fd, L43.spLaw K, KX, hb, fun H a ns hl _ hS => ⟨a, ns, rfl, hS, fun _ => rfl⟩, hF⟩
