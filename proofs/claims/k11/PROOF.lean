import PyProof.Rows.All
import Wide.All
import OpenK.AllK
import Wide.FinOn
import KE.KStateDown
import HandS.ForMost
import HandS.ForExc
import HandS.Evl
import HandS.Walk
import HandS.More
import HandS.Flow
import HandS.Style
import HandS.IsInst
import HandS.ExcInit
import HandS.ExcField
import HandS.TryMany
import HandS.Conv
import HandS.DictComp
import HandS.OwnEq
import HandS.Defaults
import HandS.Head0
import HandS.Head1
import HandS.Head2
import HandS.HeadEnd
import HandS.HeadHook1
import HandS.HeadHook2
import HandS.HeadHook3
import HandS.HeadHook4
import PySem.Challenge.RW_bothfree_k11_whole_webs_that_change
import HandS.Ends
import HandS.MakeKwOnly
import HandS.Codes
import KE.KExcIs
import HandS.ExcIs
import HandS.TupAny
import HandS.Deep
import HandS.Star
import PyProof.ExcBaseAll.ValueError
import HandS.ExcOwn
import HandS.Strs
import HandS.SortInts
import HandS.CallSlots
import HandS.Text
import PyProof.FString5
import KE.KSortTupG
import HandS.NoneIn
import HandS.Rev
import HandS.RevTup
import KE.KDictList
import KE.KStar
import HandS.Dict
import PyProof.DictUpdate
import OpenK.KOps
import OpenK.KMeth
import OpenK.KMake
import HandS.SortKw
import HandS.SortOrd
import KE.GoesEnum
import HandS.TupLe
import KE.SortData
import KE.DatumOrd
import HandS.Finally
import KE.KDictZip
import HandS.SetFor
import PyProof.Rows.SortShellAny
import HandS.Remove
import KE.DataMinMax
import KE.DataCmp
import KE.SortKeyHeap
import HandS.DictEq
import PyProof.NeKinds
import KE.KEqNest
import PyProof.ListStr
import HandS.SetBool
import PyProof.DictCopy
set_option Elab.async false
set_option linter.all false
set_option maxRecDepth 100000
local macro_rules | `(tactic| walk_at "zL") => `(tactic| (first | exact .inl rfl | exact .inr (.inl rfl) | exact .inr (.inr rfl)))
local macro_rules | `(tactic| walk_at "zM") => `(tactic| (first | exact .inl rfl | exact .inr rfl))
set_option maxHeartbeats 0
namespace Bf
open PySem PySem.Spec PyProof.Rows L2
def Cal (P : Program) (w : World) (K : PySem.W.Frag) (mg : Str → Option Value) (base : Heap) (CX : CXT) (k : Nat) (x : Str) (ps : List Str) (sp : Sp) : Prop :=
  ∃ (f : Addr) (fd : FuncData), FnOk P w K mg base CX k f fd ps sp ∧ mg x = some (.ref f) ∧ PySem.W.keepIn K (.ref f) = true ∧ Binds K fd ps []
section
variable {P : Program} {w : World} {K : PySem.W.Frag} {mg : Str → Option Value} {base : Heap} {CX : CXT} {k : Nat} {x : Str} {ps : List Str} {sp sp' : Sp}
theorem Cal.imp (C : Cal P w K mg base CX k x ps sp) (h : ∀ vs H Q E, sp' vs H Q E → sp vs H Q E) : Cal P w K mg base CX k x ps sp' := by
  obtain ⟨f, fd, F, g, kp, b⟩ := C
  exact ⟨f, fd, F.imp h, g, kp, b⟩
theorem Cal.mono {j : Nat} (C : Cal P w K mg base CX j x ps sp) (h : j ≤ k) : Cal P w K mg base CX k x ps sp := by
  obtain ⟨f, fd, F, g, kp, b⟩ := C
  exact ⟨f, fd, F.mono h, g, kp, b⟩
end
section
variable {X : Cx} {CX : CXT} {k : Nat} {ps : List Str} {sp : Sp} {E : XK} {x : Str} {p pos : Pos} {e : Expr} {es : List Expr} {t : TA}
theorem pe_calS {E : L2.St → XK} (C : Cal X.prog X.w X.K X.mg X.base CX k x ps sp) (hr : Room k X.A) (hx : ∀ σ, PassesAt CX X σ (E σ)) (ha : PA X (e :: es) t) (hg : Gl X x := by rfl)
    (hdb : (x == ("__debug__" : Str)) = false := by decide) (he : starEach (e :: es) X.env = (false, eval e X.env) :: starEach es X.env := by rfl) (hpl : (backTo pos (starEach es X.env)).any (·.1) = false := by rfl) :
    PE X (.Call (.Name x p) (e :: es) [] pos) (tCallS sp E t) := by
  obtain ⟨f, fd, F, g, kp, b⟩ := C
  exact pe_callS F hr hg g kp b hx ha hdb he hpl
end
abbrev wl (i j k : Int) : HO := .lst [.int i, .int j, .int k]
section
variable {P : Program} {w : World} {H : Hp} {h : Heap} {a : Addr}
theorem hok_swap {o o' : HO} (ok : HOk P w H h) (e : H a = some o) (no : ∀ x, o ≠ .own x) (nt : ∀ xs, o ≠ .tup xs) (new : ObjOk P w (upd H a o') h a o') : HOk P w (upd H a o') h := fun b u q => by
  by_cases hb : b = a
  · subst hb; rw [upd_same] at q; cases q; exact new
  · rw [upd_ne hb] at q
    exact (ok b u q).stay (fun c v _ z => z) (fun c hc => by rw [upd_ne (at_ne e hc (no b))]; exact hc) (fun c xs hc => by rw [upd_ne (at_ne e hc (nt xs))]; exact hc)
theorem upd_self {o : HO} (e : H a = some o) : upd H a o = H := by
  funext b
  by_cases hb : b = a
  · rw [hb, upd_same, e]
  · rw [upd_ne hb]
theorem un_back {fs : List Addr} {h' : Heap} {o l1 l2 : HO} (e : H a = some o) (u : Un fs [] (upd H a l1) (upd H a l2) h h') : Un fs [] H H h h' where
  keep := fun b o q n hf hx => u.keep b o q (by rw [upd_ne (ne_of_none e n).symm]; exact n) hf hx
  slot := fun b o q n hf hx => u.slot b o q (by rw [upd_ne (ne_of_none e n).symm]; exact n) hf hx
  free := fun _ _ _ n _ => n
  there := u.there
  tups := fun _ _ q => q
  frzs := fun _ _ _ q => q
  tbls := fun _ _ q => ⟨#[], by rw [q]; simp⟩
end
def spDraw0 : Sp := fun vs H Q _ => ∃ (a : Addr) (i j k n : Int), vs = [.ref a, .int n] ∧ H a = some (wl i j k) ∧ 0 < n ∧ n < 1073741824 ∧ ∀ d i' j' k' : Int, 0 ≤ d → d < n → Q (.int d) (upd H a (wl i' j' k'))
def spSource0 : Sp := fun vs H Q _ => ∃ n : Int, vs = [.int n] ∧ ∀ (p : Addr) (i j k : Int), H p = none → Q (.ref p) (upd H p (wl i j k))
section
variable {P : Program} {w : World} {K : PySem.W.Frag} {mg : Str → Option Value} {base : Heap} {k : Nat} {f : Addr} {fd : FuncData} {ps : List Str}
end
end Bf
namespace Bf
open PySem PySem.Spec PyProof.Rows L2
abbrev ClA := Value × Nat × (Addr → Value → Option Addr → TS)
inductive ClsA (X : Cx) : List ExceptHandler → List ClA → Prop
  | nil : ClsA X [] []
  | cons {x n : Str} {c : Value} {i : Nat} {ts : Addr → Value → Option Addr → TS} {b0 : Stmt} {su : List Stmt} {np ps : Pos} {hs : List ExceptHandler} {l : List ClA}
      (hc : Names X x c) (hi : X.N[i]? = some n) (hl : X.env.kindOf n = some .local)
      (hsu : ∀ (a : Addr) (oe : Obj) (cl : Value) (d : Option Addr) (pn : List (Addr × Obj)), Zc cl d oe → (∃ vs, oe.data = .fields vs) →
        PSs (X.suite a ((a, oe) :: pn)) (b0 :: su) (ts a cl d)) (r : ClsA X hs l) :
      ClsA X (.ExceptHandler (some (.Name x np)) (some n) (b0 :: su) ps :: hs) ((c, i, ts) :: l)
section
variable {X : Cx} {body : List Stmt} {h0 : ExceptHandler} {hds : List ExceptHandler} {l : List ClA} {pos : Pos} {tb : WX → TS} {Wo : WX}
end
def rSortedTS (K : PySem.W.Frag) : List V → Hp → VK → Prop := fun vs H Q => ∃ (a : Addr) (xs : List Str), vs = [V.ref a] ∧ SqT K H a (xs.map V.str) ∧ xs.length < 64 ∧
  ∀ (ys : List Str) (p : Addr), ys.Perm xs → sortedS ys = true → H p = none → Q (.ref p) (upd H p (.lst (ys.map V.str)))
theorem cr_sortedTS {X : Cx} : CallR X (.builtin "sorted") (rSortedTS X.K) := by
  intro pins s σ H vs us Q I r h
  obtain ⟨a, xs, rfl, hs, h64, q⟩ := h
  obtain ⟨its, rv, ⟨o, ho, hc, n, hd⟩, _⟩ := I.tuple hs
  rw [Vals.ref1 r]
  have hl0 : its.length = xs.length := by
    have e := rv.length
    rw [List.length_map] at e
    exact e.symm
  have hS : StrsAre its xs := rv.strs
  refine Calls.call_function_entry PyProof.Rows.kind_sorted PyProof.Rows.plain_sorted PyProof.Rows.entry_sorted (PyProof.Rows.args_sorted1 _) ?_
  unfold Builtin.«sorted»
  refine wpAny_bind (m := checkCount "sorted" 1 1 _) (wpAny_pure (wpAny_bind (wpAny_collect_seq a (.inr rfl) ho hc hd (fun g hk => ?_) (by simp only [List.size_toArray, sizeLine_eq]; omega))))
  have I1 : Inv X pins σ H { s with heap := g, toks := s.toks } := I.kept hk
  refine wpAny_bind (wpAny_newList ?_ (by simp only [sizeLine_eq]; omega))
  have hoL : (g.push (seqObj "list" its.toArray 0)).get? g.objs.size = some (seqObj "list" its.toArray 0) := Heap.get?_push_size _ rfl
  refine wpAny_bind (wpAny_holding (wpAny_call_entry PyProof.Rows.slot_list_sort ⟨_, hoL, rfl⟩ PyProof.Rows.entry_list_sort
    (list_sort_treeK strKind_oneLt (s := { s with heap := g.push (seqObj "list" its.toArray 0) }) hoL hS.keysOf (fun v₁ v₂ rest e => keyKind_strs (by rw [← e]; exact hS)) (by omega) fun st' hp hq => ⟨_, rfl, ?_⟩) (PyProof.Rows.args_list_sort _)))
  obtain ⟨ys, g1, g2, g3⟩ := sorted_out_str hS hp hq
  obtain ⟨e', he'⟩ := PyProof.Rows.sortedHeap_at (vs := its) (out := (arrOf st').map (·.2)) hoL
  have hlen : (ys.map V.str).length ≤ sizeLine := by
    rw [List.length_map, g2.length_eq, sizeLine_eq]
    omega
  refine wpAny_pure ⟨_, rfl, .ref g.objs.size, upd H g.objs.size (.lst (ys.map V.str)), I1.laid (t' := s.toks) (fun b u e => ?_) (Nat.le_refl _)
    ⟨hlen, ((arrOf st').map (·.2)).toList, e', vals_of_strs g1, by rw [Array.toArray_toList]; exact he'⟩, rfl, q ys _ g2 g3 (I1.hok.fresh (Nat.le_refl _))⟩
  have hb : b < g.objs.size := Heap.lt_size e
  rw [PyProof.Rows.sortedHeap_old (Nat.ne_of_lt hb) (by rw [size_push']; exact Nat.lt_succ_of_lt hb)]
  exact Heap.get?_push_of_some _ e
end Bf
namespace Bf
open PySem PySem.Spec PyProof.Rows L2 HT
section
variable {prog : Program} {w : World} {A : Around} {E : Value → Shared → Prop} {s : Shared}
theorem applied_rev {sl : Addr} {vs : Value} {Q : Int × Int × Nat → Shared → Prop} (hs : s.heap.IsSliceOf sl .none .none vs) (ps : IsPart vs (some (-1))) (h : Q ((1 : Int), -1, 2) s) :
    wpAny (model prog w) A (Builtin.Slice.sliceApplied (.ref sl) (pure ((2 : Nat) : Int))) Q E s := by
  obtain ⟨os, e1, e2, e3⟩ := id hs
  unfold Builtin.Slice.sliceApplied Builtin.Slice.sliceFields
  refine wpAny_bind (wpAny_bind (wpAny_field e1 e3 (x := .none) rfl (wpAny_bind (wpAny_field e1 e3 (x := .none) rfl (wpAny_bind (wpAny_field e1 e3 (x := vs) rfl (wpAny_pure ?_)))))))
  refine wpAny_bind (slicePart_ ps ?_)
  show wpAny _ _ (if ((-1 : Int) == 0) = true then _ else _) _ _ s
  rw [if_neg (by decide)]
  refine wpAny_bind (slicePart_ .none (wpAny_bind (slicePart_ .none (wpAny_bind (wpAny_pure ?_)))))
  exact wpAny_pure h
theorem pair_rev {t sl : Addr} {u v vs : Value} {Q : Value → Shared → Prop} (ht : IsTup s.heap t #[u, v]) (hs : s.heap.IsSliceOf sl .none .none vs) (ps : IsPart vs (some (-1)))
    (h : Q (.ref s.heap.objs.size) { s with heap := s.heap.push { cls := .type "tuple", data := .seq #[v, u] } }) : wpAny (model prog w) A (getItem (.ref t) (.ref sl)) Q E s := by
  obtain ⟨os, e1, e2, e3⟩ := id hs
  have ty : s.TypeIs (.ref sl) "slice" := ⟨os, e1, e2⟩
  have two : sizeOk (.seq (#[v, u] : Array Value)) := by show 2 ≤ sizeLine; decide
  unfold getItem
  try with_reducible refine wpAny_holding ?_
  first | refine wpAny_bind (wpAny_pure ?_) | skip
  refine wpAny_bind (wpAny_sequenceKey ht.typeIs (by decide) (wpAny_bind (wpAny_callSpecial?_slot (name := Str.ofString "__getitem__") ht.typeIs PyProof.Rows.slot_tuple_getitem
    (wpAny_call_entry PyProof.Rows.slot_tuple_getitem ht.typeIs entry_tuple_getitem ?_ (args_tuple_getitem _ _)))))
  show wpAny _ _ (Builtin.Tuple.tupleItemsOf (.ref t) >>= _) _ _ s
  refine wpAny_bind (tupleItemsOf_ ht (wpAny_bind (wpAny_typeOf ty ?_)))
  rw [if_pos (by decide)]
  refine wpAny_bind (applied_rev hs ps ?_)
  show wpAny _ _ (if ((1 : Int) == 0 && (-1 : Int) == 1 && (2 : Nat) == 2) = true then _ else _) _ _ s
  rw [if_neg (by decide)]
  first
    | exact wpAny_bind (m := Builtin.Tuple.tupleExact _) (wpAny_newObj_type (wpAny_pure ⟨_, rfl, wpAny_pure h⟩) two)
    | exact wpAny_bind (m := Builtin.Tuple.tupleExact _) (wpAny_newObj_type (wpAny_bind (wpAny_pure (wpAny_pure ⟨_, rfl, wpAny_pure h⟩))) two)
    | exact wpAny_bind (wpAny_bind (m := Builtin.Tuple.tupleExact _) (wpAny_newObj_type (wpAny_pure (wpAny_pure ⟨_, rfl, wpAny_pure h⟩)) two))
    | exact wpAny_bind (wpAny_bind (m := Builtin.Tuple.tupleExact _) (wpAny_newObj_type (wpAny_pure ⟨_, rfl, wpAny_pure h⟩) two))
end
section
variable {X : Cx}
def tRevP (K : PySem.W.Frag) (te : TE) : TE := fun σ H Q => te σ H fun x H1 => ∃ a u v, x = .ref a ∧ SqT K H1 a [u, v] ∧ ∀ p, H1 p = none → Q (.ref p) (upd H1 p (.tup [v, u]))
theorem pe_revP {e : Expr} {te : TE} {k : Nat} {p1 p2 p3 pos : Pos} (he : PE X e te) : PE X (.Subscript e (.Slice none none (some (.UnaryOp .USub (.Constant (.int 1) k p1) p2)) p3) pos) (tRevP X.K te) := by
  refine ⟨fun pins s σ H Q I h => Subscript_ (thn (he.run pins s σ H _ I h) fun v s1 ⟨x, H1, I1, r1, q1⟩ => ?_)⟩
  obtain ⟨a, u1, u2, ex, hx, q⟩ := q1
  subst ex
  cases r1
  have hst : PO X (some (.UnaryOp .USub (.Constant (.int 1) k p1) p2)) (tPart (tUn (rU fun i => .int (-i)) (tC (.int 1)))) := po_some (pe_un un_neg pe_int)
  refine wpAny_Slice (thn (po_none.run pins s1 σ H1 (fun o G => o = none ∧ G = H1) I1 ⟨rfl, rfl⟩) fun vl s2 ⟨l, H2, I2, pl, el, e2⟩ => ?_)
  subst el e2
  refine thn (po_none.run pins s2 σ H2 (fun o G => o = none ∧ G = H2) I2 ⟨rfl, rfl⟩) fun vu s3 ⟨u, H3, I3, pu, eu, e3⟩ => ?_
  subst eu e3
  refine thn (hst.run pins s3 σ H3 (fun o G => o = some (-1) ∧ G = H3) I3 ⟨1, rfl, -1, rfl, rfl, rfl⟩) fun vs s4 ⟨o, H4, I4, ps, eo, e4⟩ => ?_
  subst eo e4
  have I5 : Inv X pins σ H4 { s4 with heap := s4.heap.push { cls := .type "slice", data := .fields #[vl, vu, vs] } } := I4.kept (t' := s4.toks) fun b ob q => Heap.get?_push_of_some _ q
  obtain ⟨its, r, ht, hz⟩ := I5.tuple hx
  cases r with
  | cons ra r => cases r with
    | cons rb r => cases r with
      | nil =>
        cases pl
        cases pu
        refine tail_any (ops := [.ref a, .ref s4.heap.objs.size]) ht.typeIs (PyProof.Rows.slot_tuple_getitem.lookup) ?_ (by with_unfolding_all rfl)
        refine pair_rev ht (Heap.IsSliceOf.new _ _ _ vs) ps ?_
        refine ⟨.ref _, _, I5.laid (t' := s4.toks) (o := .tup [u2, u1]) (fun b ob q => Heap.get?_push_of_some _ q) (Nat.le_refl _) ?_, rfl, q _ (I5.hok.fresh (Nat.le_refl _))⟩
        exact ⟨by show 2 ≤ sizeLine; decide, _, .cons rb (.cons ra .nil), IsTup.new _ _⟩
end
section
variable {X : Cx} {pins : List (Addr × Obj)} {σ : L2.St} {H : Hp} {s : Shared}
def KvD (K : PySem.W.Frag) (H : Hp) : List (Key × V) → List (Key × PyData) → Prop := Paired fun p q => p.1 = q.1 ∧ Dp K H p.2 q.2 ∧ SeqAt.shaped q.2 = true
def look (es : List (Key × PyData)) (k : Key) : Option PyData := (es.find? fun e => decide (e.1 = k)).map (·.2)
def hitsD (es : List (Key × PyData)) : List (Key × PyData) → Bool
  | [] => true
  | (k, d) :: r => match look es k with
    | none => false
    | some e => PyData.eqv d e && hitsD es r
def dictEq (ds es : List (Key × PyData)) : Bool := ds.length == es.length && hitsD es ds
theorem KvD.look_none {K : PySem.W.Frag} {ls : List (Key × V)} {es : List (Key × PyData)} {vb : List (Key × Value)} {k : Key} (h : KvD K H ls es) (r : KV ls vb) (e : look es k = none) : valueAt vb k = none := by
  have z : RelO (valV ls k) (valueAt vb k) := r.val k
  have q : valV ls k = none := by
    unfold KvD at h
    unfold valV
    unfold look at e
    clear z r
    induction h with
    | nil => rfl
    | @cons p q ps qs a t ih =>
      rw [List.find?_cons] at e ⊢
      rw [a.1]
      cases c : decide (q.1 = k) with
      | true =>
        rw [c] at e
        cases e
      | false =>
        rw [c] at e
        exact ih e
  rw [q] at z
  cases y : valueAt vb k with
  | none => rfl
  | some u => rw [y] at z; exact z.elim
theorem KvD.look_some {K : PySem.W.Frag} {ls : List (Key × V)} {es : List (Key × PyData)} {vb : List (Key × Value)} {k : Key} {d : PyData} (h : KvD K H ls es) (r : KV ls vb) (e : look es k = some d) :
    ∃ v u, valueAt vb k = some u ∧ RelV v u ∧ Dp K H v d ∧ SeqAt.shaped d = true := by
  have z : RelO (valV ls k) (valueAt vb k) := r.val k
  have q : ∃ v, valV ls k = some v ∧ Dp K H v d ∧ SeqAt.shaped d = true := by
    unfold KvD at h
    unfold valV
    unfold look at e
    clear z r
    induction h with
    | nil => cases e
    | @cons p q ps qs a t ih =>
      rw [List.find?_cons] at e ⊢
      rw [a.1]
      cases c : decide (q.1 = k) with
      | true =>
        rw [c] at e
        have e' : q.2 = d := Option.some.inj e
        exact ⟨p.2, rfl, e' ▸ a.2.1, e' ▸ a.2.2⟩
      | false =>
        rw [c] at e
        exact ih e
  obtain ⟨v, e1, e2, e3⟩ := q
  rw [e1] at z
  obtain ⟨u, hu, ru⟩ := RelO.some_of z
  exact ⟨v, u, hu, ru, e2, e3⟩
theorem hits_run (I : Inv X pins σ H s) {A : Around} (hu : A.units + 64 < cLine) {ls : List (Key × V)} {es : List (Key × PyData)} {vb : List (Key × Value)} (hb : KvD X.K H ls es) (rb : KV ls vb) :
    ∀ {ks : List (Key × V)} {ds : List (Key × PyData)} {va : List (Key × Value)}, KvD X.K H ks ds → KV ks va → PySem.W.KeqHits A s vb va (hitsD es ds) := by
  intro ks ds va h
  unfold KvD at h
  induction h generalizing va with
  | nil =>
    intro r
    cases r
    exact .nil
  | @cons p q ps qs a t ih =>
    intro r
    cases r with
    | @cons _ z _ zs b rt =>
      obtain ⟨k, d⟩ := q
      obtain ⟨k', v'⟩ := z
      obtain ⟨p1, p2⟩ := p
      obtain ⟨a1, a2, a3⟩ := a
      obtain ⟨b1, b2⟩ := b
      dsimp only at a1 a2 a3 b1 b2
      subst a1 b1
      show PySem.W.KeqHits A s vb ((p1, v') :: zs) (match look es p1 with | none => false | some e => PyData.eqv d e && hitsD es qs)
      cases e : look es p1 with
      | none => exact .miss (hb.look_none rb e)
      | some d2 =>
        obtain ⟨v2, u2, e1, r2, h2, s2⟩ := hb.look_some rb e
        obtain ⟨as, g1⟩ := Dp.reads I d _ _ a2 b2
        obtain ⟨bs, g2⟩ := Dp.reads I d2 _ _ h2 r2
        have c1 := (Bool.and_eq_true_iff.mp (show (d.canLay0 && decide (d.depth ≤ 64)) = true from a3))
        have c2 := (Bool.and_eq_true_iff.mp (show (d2.canLay0 && decide (d2.depth ≤ 64)) = true from s2))
        have c3 := of_decide_eq_true c1.2
        exact .hit e1 (SeqAt.eqAt_reads d d2 A s _ _ as bs g1 g2 c1.1 c2.1 (by omega)) (ih rt)
end
section
variable {X : Cx}
def rEqDD (K : PySem.W.Frag) (neg : Bool) : R2 := fun x y H Q => ∃ a b ks ls ds es, x = .ref a ∧ y = .ref b ∧ Rd H a (.dK ks) ∧ Rd H b (.dK ls) ∧ KvD K H ks ds ∧ KvD K H ls es ∧ Q (.bl (if neg then !dictEq ds es else dictEq ds es)) H
theorem KvD.len {K : PySem.W.Frag} {H : Hp} {ks : List (Key × V)} {ds : List (Key × PyData)} (h : KvD K H ks ds) : ks.length = ds.length := Paired.length h
theorem op_eqDD (hu : X.A.units + 65 < cLine) : OpR X (compareOp .Eq) (rEqDD X.K false) := by
  intro pins s σ H x y v u Q I rx ry h
  obtain ⟨a, b, ks, ls, ds, es, rfl, rfl, ha, hb, h1, h2, q⟩ := h
  obtain rfl : v = Value.ref a := rx
  obtain rfl : u = Value.ref b := ry
  obtain ⟨_, ya, va, ra, da⟩ := (show ObjOk X.prog X.w H s.heap a (.dK ks) from ha.ok I.hok)
  obtain ⟨_, yb, vb, rb, db⟩ := (show ObjOk X.prog X.w H s.heap b (.dK ls) from hb.ok I.hok)
  refine PySem.W.keq_eq (knd := mixKind X.prog X.w) (r := hitsD es ds) ya yb da db (by omega) (fun _ => hits_run I (A := X.A.in1) (by show X.A.units + 1 + 64 < cLine; omega) h2 rb h1 ra) ?_
  refine ⟨.bl _, H, I, rfl, ?_⟩
  have e : (va.length == vb.length) = (ds.length == es.length) := by rw [← ra.length, ← rb.length, h1.len, h2.len]
  rw [e]
  exact q
end
end Bf
namespace Bf
open PySem PySem.Spec PyProof.Rows L2
section
open PySem.W
variable {prog : Program} {w : World} {A : Around} {E : Value → Shared → Prop} {s : Shared} {K : Frag} {x y C f : Addr} {ox oy : Obj} {od oe : Option Obj}
end
structure OwnEq (K : PySem.W.Frag) (C f : Addr) : Prop where
  eq : PySem.W.findIn K (.ref C) "__eq__" = some (some (.ref f))
  fn : PySem.W.isFn K (.ref f) = true
  ne : PySem.W.findIn K (.ref C) "__ne__" = some (some (.builtin "object.__ne__"))
  ob : PySem.W.subIn K (.ref C) (.type "object") = some true
section
variable {X : Cx} {k : Nat} {C f : Addr} {fd : FuncData} {ps : List Str} {sp : Sp}
end
end Bf
namespace Bf
open PySem PySem.Spec PyProof.Rows L2
section
variable {X : Cx} {x : Str} {pos : Pos}
theorem pe_gi {i : Int} (h : ∃ t, X.mg x = some (.int i t)) (hg : Gl X x := by rfl) (hn : x ≠ "__name__" := by decide) (hd : (x == ("__debug__" : Str)) = false := by decide) : PE X (.Name x pos) (tC (.int i)) := by
  obtain ⟨t, e⟩ := h
  exact pe_glob hg e ⟨t, rfl⟩ hd
theorem pe_gs {z : Str} (h : ∃ t, X.mg x = some (.str z t)) (hg : Gl X x := by rfl) (hn : x ≠ "__name__" := by decide) (hd : (x == ("__debug__" : Str)) = false := by decide) : PE X (.Name x pos) (tC (.str z)) := by
  obtain ⟨t, e⟩ := h
  exact pe_glob hg e ⟨t, rfl⟩ hd
end
structure Bl (mg : Str → Option Value) : Prop where
  len : mg "len" = none
  isinstance : mg "isinstance" = none
  str : mg "str" = none
  int : mg "int" = none
  bool : mg "bool" = none
  tuple : mg "tuple" = none
  list : mg "list" = none
  dict : mg "dict" = none
  set : mg "set" = none
  sorted : mg "sorted" = none
  all : mg "all" = none
  any : mg "any" = none
  range : mg "range" = none
  enumerate : mg "enumerate" = none
  reversed : mg "reversed" = none
  min : mg "min" = none
  max : mg "max" = none
  sum : mg "sum" = none
  zip : mg "zip" = none
  repr : mg "repr" = none
def blNames : List Str := ["len", "isinstance", "str", "int", "bool", "tuple", "list", "dict", "set", "sorted", "all", "any", "range", "enumerate", "reversed", "min", "max", "sum", "zip", "repr"]
def spInit (K : PySem.W.Frag) (fld : Str) : Sp := fun vs H Q _ => ∃ (a C : Addr) (y : V), vs = [.ref a, y] ∧ H a = some (exo a C none) ∧ OexC K C ∧ PySem.W.findIn K (.ref C) fld = some none ∧
  ∀ dx, H dx = none → dx ≠ a → Q .non (upd (upd H dx (exd dx [(fld, y)])) a (exo a C (some dx)))
structure ExT (P : Program) (w : World) (K : PySem.W.Frag) (mg : Str → Option Value) (base : Heap) (x fld : Str) (C : Addr) : Prop where
  g : mg x = some (.ref C)
  o : OexC K C
  xf : XfC K C
  no : PySem.W.findIn K (.ref C) fld = some none
  i : ∃ (f : Addr) (fd : FuncData) (ps : List Str), PySem.W.findIn K (.ref C) "__init__" = some (some (.ref f)) ∧ PySem.W.typeIn K (.ref f) = some (.type "function") ∧ FnOk P w K mg base CX0 1 f fd ps (spInit K fld) ∧ Binds K fd ps []
section
variable {X : Cx} {x fld : Str} {C : Addr} {W : WX} {e : Expr} {ta : TA} {p pos pos2 : Pos}
def tRx (C : Addr) (fld : Str) (W : WX) (ta : TA) : TS := fun _ σ H => ta σ H fun vs H1 => ∃ v, vs = [v] ∧ ∀ d, H1 d = none → W (.ref C) (some d) σ (upd H1 d (.xd [(fld, v)]))
theorem ps_rx (T : ExT X.prog X.w X.K X.mg X.base x fld C) (hc : X.calm = true) (tk : Takes X W) (hr : Room 2 X.A) (ha : PA X [e] ta) (hg : Gl X x := by rfl)
    (hdb : (x == ("__debug__" : Str)) = false := by decide) (he : starEach (e :: []) X.env = (false, eval e X.env) :: starEach [] X.env := by rfl) (hpl : (backTo pos (starEach [] X.env)).any (·.1) = false := by rfl) :
    PS X (.Raise (some (.Call (.Name x p) [e] [] pos)) none pos2) (tRx C fld W ta) := by
  obtain ⟨f, fd, ps, h1, h2, F, b⟩ := T.i
  have ha2 : PA X [e] (fun σ H Q => ∃ G : List V → Hp → Prop, ta σ H G ∧ ∀ vs H1, G vs H1 → Q vs H1) :=
    ⟨fun pos pins s σ H Q I ⟨G, h, m⟩ => thn (ha.run pos pins s σ H G I h) fun us s1 ⟨vs, H1, I1, r1, q⟩ => ⟨vs, H1, I1, r1, m _ _ q⟩⟩
  have z := ps_raise (pos := pos2) hc tk (pmk_oex (p := p) (pos := pos) T.o h1 h2 F hr b .nil pass0 hg T.g ha2 hdb he hpl)
  refine ⟨fun pins s σ H D I h => z.run pins s σ H D I ⟨_, h, ?_⟩⟩
  have key : ∀ vs H1, (∃ v, vs = [v] ∧ ∀ d, H1 d = none → W (.ref C) (some d) σ (upd H1 d (.xd [(fld, v)]))) →
      vs.length ≤ 1000 ∧ ∀ a, H1 a = none → spInit X.K fld (.ref a :: (vs ++ [])) (upd H1 a (exo a C none)) (fun v H2 => v = .non ∧ ∃ (d : Addr) (fs : List (Str × V)), H2 a = some (exo a C (some d)) ∧ H2 d = some (exd d fs) ∧ H1 d = none ∧ (fun cls d H' => W cls d σ H') (.ref C) (some d) (upd (del H2 a) d (.xd fs))) (fun _ _ _ => False) := by
    rintro vs H1 ⟨v, rfl, q⟩
    refine ⟨by show 1 ≤ 1000; decide, fun a na => ⟨a, C, v, rfl, upd_same, T.o, T.no, fun dx ndx ne => ⟨rfl, dx, [(fld, v)], upd_same, ?_, ?_, ?_⟩⟩⟩
    · rw [upd_ne ne, upd_same]
    · rw [upd_ne ne] at ndx
      exact ndx
    · rw [upd_ne ne] at ndx
      have e1 : upd (del (upd (upd (upd H1 a (exo a C none)) dx (exd dx [(fld, v)])) a (exo a C (some dx))) a) dx (.xd [(fld, v)]) = upd H1 dx (.xd [(fld, v)]) := by
        funext b
        by_cases hb : b = dx
        · rw [hb, upd_same, upd_same]
        · rw [upd_ne hb, upd_ne hb]
          by_cases hba : b = a
          · rw [hba, del_same, na]
          · rw [del_ne hba, upd_ne hba, upd_ne hb, upd_ne hba]
      show W (.ref C) (some dx) σ (upd (del (upd (upd (upd H1 a (exo a C none)) dx (exd dx [(fld, v)])) a (exo a C (some dx))) a) dx (.xd [(fld, v)]))
      rw [e1]
      exact q dx ndx
  exact key
end
end Bf
namespace Bf
open PySem PySem.Spec PyProof.Rows L2
abbrev FnS (K : PySem.W.Frag) (x q : Str) (st : Stmt) (f : Addr) (fd : FuncData) : Prop := FunD K x q (defArgs st) (defBody st) (defScope st) [] [] f fd
section
variable {P : Program} {w : World} {K : PySem.W.Frag} {mg : Str → Option Value} {base : Heap} {x q : Str} {st : Stmt} {f : Addr} {fd : FuncData} {N ps : List Str} {k : Nat} {sp : Sp}
theorem okD (F : FnS K x q st f fd) (S : FnScope N ps (defScope st)) (len : ∀ vs H Q E, sp vs H Q E → vs.length = ps.length)
    (hbody : ∀ (cdv : Value) (A : Around) (outer : List Env) (s : Shared) (H : Hp) (vs : List V) (Q : VK) (E : XK),
      Room k (A.deeper (envOfC q (defScope st) s.heap.objs.size f cdv)) → sp vs H Q E →
      ∃ t, PSs (cxOf CX0 P w K mg base N q (defScope st) f cdv A outer s H E).nox (defBody st) t ∧ t { nx := fun _ H' => Q .non H', rt := Q } (start N vs) H) :
    FnOk P w K mg base CX0 (k + 1) f fd ps sp :=
  F.ok S len fun cdv A outer s H vs Q E hr h => let ⟨t, d, r⟩ := hbody cdv A outer s H vs Q E hr h; ⟨t, d.nox, r⟩
theorem okE (F : FnS K x q st f fd) (S : FnScope N ps (defScope st)) (len : ∀ vs H Q E, sp vs H Q E → vs.length = ps.length)
    (hbody : ∀ (cdv : Value) (A : Around) (outer : List Env) (s : Shared) (H : Hp) (vs : List V) (Q : VK) (E : XK),
      Room k (A.deeper (envOfC q (defScope st) s.heap.objs.size f cdv)) → sp vs H Q E →
      Takes (cxOf (L2.CX P w) P w K mg base N q (defScope st) f cdv A outer s H E) (fun cls d _ H => E cls d H) →
      ∃ t, PSs (cxOf (L2.CX P w) P w K mg base N q (defScope st) f cdv A outer s H E) (defBody st) t ∧ t { nx := fun _ H' => Q .non H', rt := Q } (start N vs) H) :
    FnOk P w K mg base (L2.CX P w) (k + 1) f fd ps sp :=
  F.ok S len fun cdv A outer s H vs Q E hr h => hbody cdv A outer s H vs Q E hr h (takes_of rfl rfl rfl rfl)
end
theorem ok_xinit {P : Program} {w : World} {K : PySem.W.Frag} {mg : Str → Option Value} {base : Heap} {q fld : Str} {st : Stmt} {f : Addr} {fd : FuncData} {p1 p2 p3 p4 : Pos} (F : FnS K "__init__" q st f fd)
    (hb : defBody st = [.Assign [.Attribute (.Name "self" p1) fld p2] (.Name fld p3) p4]) (S : FnScope ["self", fld] ["self", fld] (defScope st))
    (l1 : (defScope st).names.lookup ("self" : Str) = some .local) (l2 : (defScope st).names.lookup fld = some .local) (h1 : (fld == ("__debug__" : Str)) = false) (h2 : (fld == ("__classdict__" : Str)) = false)
    (b : ∀ (kV doc pm : Value) (an : Option Addr) (cdv ct : Value) (us : List Value), us.length = (["self", fld] : List Str).length → bindArgs (PySem.W.fnOf "__init__" q (defArgs st) (defBody st) (defScope st) .none kV doc pm an cdv ct) ⟨us, []⟩ = pure ((["self", fld] : List Str).zip us)) :
    ∃ ps, FnOk P w K mg base CX0 1 f fd ps (spInit K fld) ∧ Binds K fd ps [] := by
  refine ⟨["self", fld], okD F S (fun vs H Q E h => ?_) (fun cdv A outer s H vs Q E hr h => ?_), F.bindsN b⟩
  · obtain ⟨a, C, y, rfl, _⟩ := h
    rfl
  · obtain ⟨a, C, y, rfl, ha, o, no, q⟩ := h
    rw [hb]
    refine ⟨_, pss_one (ps_ost (pe_var (i := 0) rfl (.inl l1)) (pe_var (i := 1) rfl (.inl l2) h1 h2)), ?_⟩
    exact ⟨y, rfl, .ref a, rfl, a, C, rfl, o, no, .inl ⟨ha, fun dx nd ne => q dx nd ne⟩⟩
def oexB (K : PySem.W.Frag) (C : Addr) : Bool := match K.lookup C with
  | some ⟨.type t, _, .cls cd, sl⟩ => decide (t = "type") && (match cd.mro, sl.toList with
    | .ref D :: bm, [_, _, _, _, some (.builtin n), _] => decide (D = C) && (decide (n = "ValueError.__new__") && (!cd.hasDel && (cd.hasDict && PySem.HandSPX.refsVE bm)))
    | _, _ => false)
  | _ => false
theorem oexB_ok {K : PySem.W.Frag} {C : Addr} (h : oexB K C = true) :
    ∃ nm q N bs bm sn sub ab col dd k0 k1 k2 k3 k5, K.lookup C = some (excClassObj nm q C N bs bm true sn sub ab col dd k0 k1 k2 k3 k5 "ValueError.__new__") ∧ PySem.HandSPX.refsVE bm = true := by
  unfold oexB at h
  split at h
  · rename_i t dd cd sl ho
    have ht := of_decide_eq_true (Bool.and_eq_true_iff.mp h).1
    subst ht
    split at h
    · rename_i D bm k0 k1 k2 k3 n k5 hm hs
      obtain ⟨_, h⟩ := Bool.and_eq_true_iff.mp h
      obtain ⟨h1, h⟩ := Bool.and_eq_true_iff.mp h
      obtain ⟨h2, h⟩ := Bool.and_eq_true_iff.mp h
      obtain ⟨h3, h⟩ := Bool.and_eq_true_iff.mp h
      obtain ⟨h4, h5⟩ := Bool.and_eq_true_iff.mp h
      have h1 := of_decide_eq_true h1
      have h2 := of_decide_eq_true h2
      subst h1 h2
      obtain ⟨nm, bs, mro, ns, qn, hd, sn, sub, ab, col, del⟩ := cd
      dsimp only at hm h3 h4
      subst hm h4
      have h3 : del = false := by simpa using h3
      subst h3
      have hsl : sl = #[k0, k1, k2, k3, some (.builtin "ValueError.__new__"), k5] := by
        obtain ⟨l⟩ := sl
        simp only at hs
        rw [hs]
      subst hsl
      exact ⟨nm, qn, ns, bs, bm, sn, sub, ab, col, dd, k0, k1, k2, k3, k5, ho, h5⟩
    · cases h
  · cases h
def isO (a b : Option (Option Value)) : Bool := decide (a = b)
def excB (K : PySem.W.Frag) (x fld : Str) : Bool := oexB K (He.ga K x) && (isO (PySem.W.findIn K (.ref (He.ga K x)) "__setattr__") (some (some (.builtin "object.__setattr__"))) &&
  (decide (PySem.W.subIn K (.ref (He.ga K x)) (.type "BaseException") = some true) && (decide (PySem.W.typeIn K (.ref (He.ga K x)) = some (.type "type")) && (PySem.W.keepIn K (.ref (He.ga K x)) &&
  (xfB K (He.ga K x) && (isO (PySem.W.findIn K (.ref (He.ga K x)) fld) (some none) && (isO (PySem.W.findIn K (.ref (He.ga K x)) "__init__") (some (some (.ref (He.ma K (He.ga K x) "__init__")))) &&
  decide (PySem.W.typeIn K (.ref (He.ma K (He.ga K x) "__init__")) = some (.type "function")))))))))
theorem excB_ok {P : Program} {w : World} {K : PySem.W.Frag} {mg : Str → Option Value} {base : Heap} {x fld : Str} (h : excB K x fld = true) (g : mg x = some (.ref (He.ga K x)))
    (i : ∃ fd ps, FnOk P w K mg base CX0 1 (He.ma K (He.ga K x) "__init__") fd ps (spInit K fld) ∧ Binds K fd ps []) : ExT P w K mg base x fld (He.ga K x) := by
  obtain ⟨h1, h⟩ := Bool.and_eq_true_iff.mp h
  obtain ⟨h2, h⟩ := Bool.and_eq_true_iff.mp h
  obtain ⟨h3, h⟩ := Bool.and_eq_true_iff.mp h
  obtain ⟨h4, h⟩ := Bool.and_eq_true_iff.mp h
  obtain ⟨h5, h⟩ := Bool.and_eq_true_iff.mp h
  obtain ⟨h6, h⟩ := Bool.and_eq_true_iff.mp h
  obtain ⟨h7, h⟩ := Bool.and_eq_true_iff.mp h
  obtain ⟨h8, h9⟩ := Bool.and_eq_true_iff.mp h
  obtain ⟨fd, ps, F, b⟩ := i
  exact ⟨g, ⟨oexB_ok h1, of_decide_eq_true h2, of_decide_eq_true h3, of_decide_eq_true h4, h5⟩, xfB_ok h6, of_decide_eq_true h7, _, fd, ps, of_decide_eq_true h8, of_decide_eq_true h9, F, b⟩
def globB (K : PySem.W.Frag) (l : List Str) : Bool := l.all fun x => isO (PySem.W.nsIn K mainGlobals x) (some (some (.ref (He.ga K x))))
def freeB (K : PySem.W.Frag) (l : List Str) : Bool := l.all fun x => isO (PySem.W.nsIn K mainGlobals x) (some none)
section
variable {K : PySem.W.Frag} {h : Heap} {mg : Str → Option Value}
theorem globB_ok (X : K.In h) (G : h.Ns mainGlobals mg) {l : List Str} (c : globB K l = true) {x : Str} (hx : x ∈ l) : mg x = some (.ref (He.ga K x)) :=
  PySem.W.mg_of X G (of_decide_eq_true (List.all_eq_true.mp c x hx))
theorem freeB_ok (X : K.In h) (G : h.Ns mainGlobals mg) {l : List Str} (c : freeB K l = true) {x : Str} (hx : x ∈ l) : mg x = none :=
  PySem.W.mg_none_of X G (of_decide_eq_true (List.all_eq_true.mp c x hx))
theorem bl_of (X : K.In h) (G : h.Ns mainGlobals mg) (c : freeB K blNames = true) : Bl mg := by
  constructor <;> exact freeB_ok X G c (by decide)
end
abbrev AlB : Type := Bool × List He.FnW
def obB (fn : List He.DefD) (ex : PySem.W.Frag → Bool) (K : PySem.W.Frag) : AlB := (ex K && fn.all fun d => d.ok K, fn.map fun d => He.fnW K d.at_)
structure SayB (fn : List He.DefD) (ex : PySem.W.Frag → Bool) (K : PySem.W.Frag) : Prop where
  more : ex K = true
  defs : ∀ d ∈ fn, ∃ fd, FunD K d.name d.qual d.params d.body d.scope (d.dvs K) (d.kws K) (He.fAd K d.at_) fd
theorem sayB_of {fn : List He.DefD} {ex : PySem.W.Frag → Bool} {K : PySem.W.Frag} (e : obB fn ex K = (true, fn.map He.DefD.val)) : SayB fn ex K := by
  have e1 : (ex K && fn.all fun d => d.ok K) = true := congrArg (fun z : AlB => z.1) e
  have e2 : fn.map (fun d => He.fnW K d.at_) = fn.map He.DefD.val := congrArg (fun z : AlB => z.2) e
  obtain ⟨h1, h2⟩ := Bool.and_eq_true_iff.mp e1
  refine ⟨h1, fun d hd => ?_⟩
  obtain ⟨i, hi, ei⟩ := List.mem_iff_getElem.mp hd
  have e3 : (fn.map fun d => He.fnW K d.at_)[i]? = (fn.map He.DefD.val)[i]? := by rw [e2]
  have e4 : fn[i]? = some d := by rw [List.getElem?_eq_getElem hi, ei]
  rw [List.getElem?_map, List.getElem?_map, e4] at e3
  exact He.DefD.funD (Option.some.inj e3) (List.all_eq_true.mp h2 d hd)
end Bf
namespace Bf
open PySem PySem.Spec PyProof.Rows L2
def insB (K : PySem.W.Frag) (C : Addr) : Bool := isO (PySem.W.findIn K (.ref C) "__class__") (some (some (.builtin "object.__class__"))) && (isO (PySem.W.specialIn K (.builtin "object.__class__") "__get__") (some (some (.builtin "getset_descriptor.__get__"))) &&
  (decide (PySem.W.takesIn K (.builtin "object.__class__") = some true) && (decide (PySem.W.mroIn K C (.type "object") = some true) && decide (PySem.W.kitOne K (.ref C) (.ref C) = some true))))
theorem runJ {σ β γ : Type} {o : Option σ} {f : σ → Bool} {g : σ → β} {e a : σ → Bool} {m : σ → List γ} {b0 : β} {v : List γ} (h1 : o.map (fun s => (f s, g s)) = some (true, b0)) (h2 : o.map e = some true) (h3 : o.map (fun s => (a s, m s)) = some (true, v)) : o.map (fun s => (f s, g s, ((e s && a s), m s))) = some (true, b0, (true, v)) := by
  cases o with
  | none => cases h1
  | some s =>
    have e1 := Option.some.inj h1
    have e2 : e s = true := Option.some.inj h2
    have e3 := Option.some.inj h3
    have f1 : f s = true := congrArg (·.1) e1
    have g1 : g s = b0 := congrArg (·.2) e1
    have a1 : a s = true := congrArg (·.1) e3
    have m1 : m s = v := congrArg (·.2) e3
    show some (f s, g s, ((e s && a s), m s)) = _
    rw [f1, g1, e2, a1, m1]
    rfl
end Bf
namespace Dz
open PySem PySem.Spec PyProof.Rows L2 Bf
def kinds : List String := ["NoneType", "bool", "int", "str", "list", "tuple", "dict"]
def clsB (K : PySem.W.Frag) (c : Str) (fl : List Str) : Bool := (He.Fa.cls c).ok K && (fl.all (fun f => (He.Fa.noat c f).ok K) && (decide (He.ga K c ≠ He.ga K "Family") && (insB K (He.ga K c) && (kinds.all (fun t => decide (PySem.W.kitOne K (.type t) (.ref (He.ga K c)) = some false)) && kinds.all (fun t => PySem.W.notFirst K (He.ga K c) (.type t))))))
def exmB (K : PySem.W.Frag) (nm : List Str) : Bool := nm.all fun x => nm.all fun h => decide (PySem.W.exmOne K (.ref (He.ga K x)) (.ref (He.ga K h)) = some (decide (x = h)))
def exc0B (K : PySem.W.Frag) (x : Str) : Bool := PySem.W.excIn K (He.ga K x) [.type "ValueError", .type "Exception", .type "BaseException", .type "object"] "ValueError.__new__" && (PySem.W.keepIn K (.ref (He.ga K x)) && (decide (PySem.W.subIn K (.ref (He.ga K x)) (.type "BaseException") = some true) && decide (PySem.W.typeIn K (.ref (He.ga K x)) = some (.type "type"))))
def clsFB (K : PySem.W.Frag) (c : Str) (fl : List Str) : Bool := (He.Fa.cls c).ok K && fl.all (fun f => (He.Fa.noat c f).ok K)
def hookL (L : List Addr) (fn : List He.DefD) (ex : PySem.W.Frag → Bool) : PySem.W.Hook where
  α := AlB
  obs := fun s => obB fn ex (He.frG s.heap.get? L)
  val := fun _ => (true, fn.map He.DefD.val)
  says := fun _ h => ∃ K : PySem.W.Frag, K.In h ∧ SayB fn ex K
  of := fun _ _ e => ⟨_, He.frG_in, sayB_of e⟩
  keeps := fun _ _ _ ⟨K, i, c⟩ k => ⟨K, PySem.W.Frag.In.keeps i k, c⟩
def lookL (L : List Addr) (fn : List He.DefD) (ex : PySem.W.Frag → Bool) (s : PySem.W.SharedT) : AlB := obB fn ex (He.frG (HandSHeadRun.getT s) L)
theorem lookL_eq (L : List Addr) (fn : List He.DefD) (ex : PySem.W.Frag → Bool) (s : PySem.W.SharedT) : lookL L fn ex s = (hookL L fn ex).obs s.abs := by
  have e : HandSHeadRun.getT s = s.abs.heap.get? := funext (HandSHeadRun.getT_eq s)
  unfold lookL
  rw [e]
  rfl
end Dz
namespace L11
open PySem PySem.Spec PyProof.Rows L2 Evl Bf Dz
def top (i : Nat) : Stmt := PySem.Challenge.pw_bothfree_k11_whole_webs_that_change.main.body.getD i (.Pass ⟨0, 0, 0, 0⟩)
abbrev sIsName : Stmt := (top 14)
abbrev nIsName : List Str := ["thing", "letter"]
theorem scIsName : FnScope nIsName ["thing"] (defScope sIsName) := ⟨rfl, rfl, rfl, by decide +kernel, rfl, by decide +kernel, by decide +kernel⟩
abbrev sFirstW : Stmt := (top 15)
abbrev nFirstW : List Str := ["items", "known", "seen", "index", "item"]
theorem scFirstW : FnScope nFirstW ["items", "known"] (defScope sFirstW) := ⟨rfl, rfl, rfl, by decide +kernel, rfl, by decide +kernel, by decide +kernel⟩
abbrev sNLot : Stmt := (top 16)
abbrev nNLot : List Str := ["known", "lot", "index"]
theorem scNLot : FnScope nNLot ["known", "lot"] (defScope sNLot) := ⟨rfl, rfl, rfl, by decide +kernel, rfl, by decide +kernel, by decide +kernel⟩
abbrev sFInit : Stmt := (inClass (top 22) 0)
abbrev nFInit : List Str := ["self", "names", "world"]
theorem scFInit : FnScope nFInit ["self", "names", "world"] (defScope sFInit) := ⟨rfl, rfl, rfl, by decide +kernel, rfl, by decide +kernel, by decide +kernel⟩
abbrev sRankN : Stmt := (inClass (top 22) 1)
abbrev nRankN : List Str := ["self", "lot"]
theorem scRankN : FnScope nRankN ["self", "lot"] (defScope sRankN) := ⟨rfl, rfl, rfl, by decide +kernel, rfl, by decide +kernel, by decide +kernel⟩
abbrev sNPlaces : Stmt := (top 29)
abbrev nNPlaces : List Str := ["places", "index", "name"]
theorem scNPlaces : FnScope nNPlaces ["places"] (defScope sNPlaces) := ⟨rfl, rfl, rfl, by decide +kernel, rfl, by decide +kernel, by decide +kernel⟩
abbrev sIsPair : Stmt := (top 30)
abbrev nIsPair : List Str := ["known", "thing", "place"]
theorem scIsPair : FnScope nIsPair ["known", "thing"] (defScope sIsPair) := ⟨rfl, rfl, rfl, by decide +kernel, rfl, by decide +kernel, by decide +kernel⟩
abbrev sWInit : Stmt := (inClass (top 31) 0)
abbrev nWInit : List Str := ["self", "places", "ties", "name"]
theorem scWInit : FnScope nWInit ["self", "places", "ties"] (defScope sWInit) := ⟨rfl, rfl, rfl, by decide +kernel, rfl, by decide +kernel, by decide +kernel⟩
abbrev sWMarks : Stmt := (inClass (top 31) 5)
abbrev nWMarks : List Str := ["self", "lot", "found", "tie", "one", "other", "low", "high", "place"]
theorem scWMarks : FnScope nWMarks ["self", "lot"] (defScope sWMarks) := ⟨rfl, rfl, rfl, by decide +kernel, rfl, by decide +kernel, by decide +kernel⟩
abbrev sWCount : Stmt := (inClass (top 31) 6)
abbrev nWCount : List Str := ["self", "lot", "found", "place"]
theorem scWCount : FnScope nWCount ["self", "lot"] (defScope sWCount) := ⟨rfl, rfl, rfl, by decide +kernel, rfl, by decide +kernel, by decide +kernel⟩
abbrev sTiesF : Stmt := (top 32)
abbrev nTiesF : List Str := ["web"]
theorem scTiesF : FnScope nTiesF ["web"] (defScope sTiesF) := ⟨rfl, rfl, rfl, by decide +kernel, rfl, by decide +kernel, by decide +kernel⟩
abbrev sLSource : Stmt := (top 41)
abbrev nLSource : List Str := ["_law_cell", "_law_number"]
theorem scLSource : FnScope nLSource ["_law_cell"] (defScope sLSource) := ⟨rfl, rfl, rfl, by decide +kernel, rfl, by decide +kernel, by decide +kernel⟩
abbrev sLDraw : Stmt := (top 42)
abbrev nLDraw : List Str := ["_law_well", "_law_many", "_law_found", "_law_number"]
theorem scLDraw : FnScope nLDraw ["_law_well", "_law_many"] (defScope sLDraw) := ⟨rfl, rfl, rfl, by decide +kernel, rfl, by decide +kernel, by decide +kernel⟩
abbrev sLPick : Stmt := (top 43)
abbrev nLPick : List Str := ["_law_well", "_law_some"]
theorem scLPick : FnScope nLPick ["_law_well", "_law_some"] (defScope sLPick) := ⟨rfl, rfl, rfl, by decide +kernel, rfl, by decide +kernel, by decide +kernel⟩
abbrev sLNames : Stmt := (top 44)
abbrev nLNames : List Str := ["_law_well", "_law_many", "_law_letters", "_law_found", "_law_k", "_law_word", "_law_letter", "_law_j"]
theorem scLNames : FnScope nLNames ["_law_well", "_law_many"] (defScope sLNames) := ⟨rfl, rfl, rfl, by decide +kernel, rfl, by decide +kernel, by decide +kernel⟩
abbrev sLShuf : Stmt := (top 45)
abbrev nLShuf : List Str := ["_law_well", "_law_some", "_law_rest", "_law_found", "_law_k"]
theorem scLShuf : FnScope nLShuf ["_law_well", "_law_some"] (defScope sLShuf) := ⟨rfl, rfl, rfl, by decide +kernel, rfl, by decide +kernel, by decide +kernel⟩
abbrev sLWebL : Stmt := (top 47)
abbrev nLWebL : List Str := ["_law_well", "_law_most", "_law_places", "_law_ties", "_law_name"]
theorem scLWebL : FnScope nLWebL ["_law_well", "_law_most"] (defScope sLWebL) := ⟨rfl, rfl, rfl, by decide +kernel, rfl, by decide +kernel, by decide +kernel⟩
abbrev sLess : Stmt := (top 18)
abbrev nLess : List Str := ["lot", "gone", "thing"]
theorem scLess : FnScope nLess ["lot", "gone"] (defScope sLess) := ⟨rfl, rfl, rfl, by decide +kernel, rfl, by decide +kernel, by decide +kernel⟩
abbrev sWithT : Stmt := (top 19)
abbrev nWithT : List Str := ["lot", "thing"]
theorem scWithT : FnScope nWithT ["lot", "thing"] (defScope sWithT) := ⟨rfl, rfl, rfl, by decide +kernel, rfl, by decide +kernel, by decide +kernel⟩
abbrev sDrInit : Stmt := (inClass (top 34) 0)
abbrev nDrInit : List Str := ["self", "family", "lot"]
theorem scDrInit : FnScope nDrInit ["self", "family", "lot"] (defScope sDrInit) := ⟨rfl, rfl, rfl, by decide +kernel, rfl, by decide +kernel, by decide +kernel⟩
abbrev sJoInit : Stmt := (inClass (top 35) 0)
abbrev nJoInit : List Str := ["self", "first", "second"]
theorem scJoInit : FnScope nJoInit ["self", "first", "second"] (defScope sJoInit) := ⟨rfl, rfl, rfl, by decide +kernel, rfl, by decide +kernel, by decide +kernel⟩
abbrev sFThings : Stmt := (inClass (top 22) 2)
abbrev nFThings : List Str := ["self"]
theorem scFThings : FnScope nFThings ["self"] (defScope sFThings) := ⟨rfl, rfl, rfl, by decide +kernel, rfl, by decide +kernel, by decide +kernel⟩
abbrev sFLen : Stmt := (inClass (top 22) 3)
abbrev nFLen : List Str := ["self"]
theorem scFLen : FnScope nFLen ["self"] (defScope sFLen) := ⟨rfl, rfl, rfl, by decide +kernel, rfl, by decide +kernel, by decide +kernel⟩
abbrev sFHas : Stmt := (inClass (top 22) 4)
abbrev nFHas : List Str := ["self", "thing"]
theorem scFHas : FnScope nFHas ["self", "thing"] (defScope sFHas) := ⟨rfl, rfl, rfl, by decide +kernel, rfl, by decide +kernel, by decide +kernel⟩
abbrev sFRank : Stmt := (inClass (top 22) 5)
abbrev nFRank : List Str := ["self", "lot"]
theorem scFRank : FnScope nFRank ["self", "lot"] (defScope sFRank) := ⟨rfl, rfl, rfl, by decide +kernel, rfl, by decide +kernel, by decide +kernel⟩
abbrev sFStuck : Stmt := (inClass (top 22) 10)
abbrev nFStuck : List Str := ["self", "thing"]
theorem scFStuck : FnScope nFStuck ["self"] (defScope sFStuck) := ⟨rfl, rfl, rfl, by decide +kernel, rfl, by decide +kernel, by decide +kernel⟩
abbrev sNAlike : Stmt := (top 17)
abbrev nNAlike : List Str := ["one", "other"]
theorem scNAlike : FnScope nNAlike ["one", "other"] (defScope sNAlike) := ⟨rfl, rfl, rfl, by decide +kernel, rfl, by decide +kernel, by decide +kernel⟩
abbrev sNFew : Stmt := (top 25)
abbrev nNFew : List Str := ["family"]
theorem scNFew : FnScope nNFew ["family"] (defScope sNFew) := ⟨rfl, rfl, rfl, by decide +kernel, rfl, by decide +kernel, by decide +kernel⟩
abbrev sLotsOf : Stmt := (top 24)
abbrev nLotsOf : List Str := ["things", "many", "found", "turn", "lot", "thing"]
theorem scLotsOf : FnScope nLotsOf ["things", "many"] (defScope sLotsOf) := ⟨rfl, rfl, rfl, by decide +kernel, rfl, by decide +kernel, by decide +kernel⟩
abbrev sAlike : Stmt := (top 26)
abbrev nAlike : List Str := ["one", "other", "many", "lot"]
theorem scAlike : FnScope nAlike ["one", "other"] (defScope sAlike) := ⟨rfl, rfl, rfl, by decide +kernel, rfl, by decide +kernel, by decide +kernel⟩
abbrev sInside : Stmt := (top 36)
abbrev nInside : List Str := ["family", "lot"]
theorem scInside : FnScope nInside ["family", "lot"] (defScope sInside) := ⟨rfl, rfl, rfl, by decide +kernel, rfl, by decide +kernel, by decide +kernel⟩
abbrev sWithout : Stmt := (top 37)
abbrev nWithout : List Str := ["family", "lot"]
theorem scWithout : FnScope nWithout ["family", "lot"] (defScope sWithout) := ⟨rfl, rfl, rfl, by decide +kernel, rfl, by decide +kernel, by decide +kernel⟩
abbrev sDrawnIn : Stmt := (top 38)
abbrev nDrawnIn : List Str := ["family", "lot", "found"]
theorem scDrawnIn : FnScope nDrawnIn ["family", "lot"] (defScope sDrawnIn) := ⟨rfl, rfl, rfl, by decide +kernel, rfl, by decide +kernel, by decide +kernel⟩
abbrev sJoinedF : Stmt := (top 39)
abbrev nJoinedF : List Str := ["one", "other", "thing"]
theorem scJoinedF : FnScope nJoinedF ["one", "other"] (defScope sJoinedF) := ⟨rfl, rfl, rfl, by decide +kernel, rfl, by decide +kernel, by decide +kernel⟩
abbrev sLLot : Stmt := (top 46)
abbrev nLLot : List Str := ["_law_well", "_law_things", "_law_thing"]
theorem scLLot : FnScope nLLot ["_law_well", "_law_things"] (defScope sLLot) := ⟨rfl, rfl, rfl, by decide +kernel, rfl, by decide +kernel, by decide +kernel⟩
abbrev sL11Merged : Stmt := (top 48)
abbrev nL11Merged : List Str := ["_law_places", "_law_ties", "_law_tie", "_law_kept", "_law_gone", "_law_more", "_law_name", "_law_place"]
theorem scL11Merged : FnScope nL11Merged ["_law_places", "_law_ties", "_law_tie"] (defScope sL11Merged) := ⟨rfl, rfl, rfl, by decide +kernel, rfl, by decide +kernel, by decide +kernel⟩
abbrev sL11Without : Stmt := (top 49)
abbrev nL11Without : List Str := ["_law_places", "_law_ties", "_law_lot_here", "_law_name"]
theorem scL11Without : FnScope nL11Without ["_law_places", "_law_ties", "_law_lot_here"] (defScope sL11Without) := ⟨rfl, rfl, rfl, by decide +kernel, rfl, by decide +kernel, by decide +kernel⟩
abbrev sL11Family : Stmt := (top 50)
abbrev nL11Family : List Str := ["_law_parts"]
theorem scL11Family : FnScope nL11Family ["_law_parts"] (defScope sL11Family) := ⟨rfl, rfl, rfl, by decide +kernel, rfl, by decide +kernel, by decide +kernel⟩
abbrev sL11Doubled : Stmt := (top 51)
abbrev nL11Doubled : List Str := ["_law_well", "_law_places", "_law_ties", "_law_family_here", "_law_tie", "_law_more", "_law_wide", "_law_lot_here", "_law_stuck", "_law_name"]
theorem scL11Doubled : FnScope nL11Doubled ["_law_well", "_law_places", "_law_ties", "_law_family_here"] (defScope sL11Doubled) := ⟨rfl, rfl, rfl, by decide +kernel, rfl, by decide +kernel, by decide +kernel⟩
abbrev sL11Side : Stmt := (top 52)
abbrev nL11Side : List Str := ["_law_well", "_law_one", "_law_other", "_law_has_common", "_law_names_here", "_law_ties", "_law_second", "_law_k", "_law_ends", "_law_places", "_law_due", "_law_place"]
theorem scL11Side : FnScope nL11Side ["_law_well", "_law_one", "_law_other", "_law_has_common"] (defScope sL11Side) := ⟨rfl, rfl, rfl, by decide +kernel, rfl, by decide +kernel, by decide +kernel⟩
abbrev sL11Steps : Stmt := (top 53)
abbrev nL11Steps : List Str := ["_law_well", "_law_places", "_law_ties", "_law_family_here", "_law_turn", "_law_tie", "_law_lot_here", "_law_name"]
theorem scL11Steps : FnScope nL11Steps ["_law_well", "_law_places", "_law_ties", "_law_family_here"] (defScope sL11Steps) := ⟨rfl, rfl, rfl, by decide +kernel, rfl, by decide +kernel, by decide +kernel⟩
abbrev sL11Right : Stmt := (top 54)
abbrev nL11Right : List Str := ["_law_well", "_law_places", "_law_ties", "_law_family_here", "_law_other", "_law_short", "_law_name"]
theorem scL11Right : FnScope nL11Right ["_law_well"] (defScope sL11Right) := ⟨rfl, rfl, rfl, by decide +kernel, rfl, by decide +kernel, by decide +kernel⟩
abbrev sLaw11 : Stmt := (top 55)
abbrev nLaw11 : List Str := ["_law_script", "_law_cell"]
theorem scLaw11 : FnScope nLaw11 ["_law_script"] (defScope sLaw11) := ⟨rfl, rfl, rfl, by decide +kernel, rfl, by decide +kernel, by decide +kernel⟩
abbrev sDrCount : Stmt := (inClass (top 34) 1)
abbrev nDrCount : List Str := ["self", "lot"]
theorem scDrCount : FnScope nDrCount ["self", "lot"] (defScope sDrCount) := ⟨rfl, rfl, rfl, by decide +kernel, rfl, by decide +kernel, by decide +kernel⟩
abbrev sJoCount : Stmt := (inClass (top 35) 1)
abbrev nJoCount : List Str := ["self", "lot", "found", "family", "thing"]
theorem scJoCount : FnScope nJoCount ["self", "lot"] (defScope sJoCount) := ⟨rfl, rfl, rfl, by decide +kernel, rfl, by decide +kernel, by decide +kernel⟩
end L11
namespace L11
open PySem PySem.Spec PyProof.Rows L2 Evl Bf Dz

def dd (n : Str) (st : Stmt) : He.DefD := ⟨(n, none), n, n, defArgs st, defBody st, defScope st, [], []⟩
def dm (c n q : Str) (st : Stmt) : He.DefD := ⟨(c, some n), n, q, defArgs st, defBody st, defScope st, [], []⟩
abbrev xBadLot : Stmt := inClass (top 3) 0
abbrev xTooMany : Stmt := inClass (top 7) 0
abbrev xBadPlaces : Stmt := inClass (top 8) 0
abbrev xBadTies : Stmt := inClass (top 9) 0
abbrev xSameThing : Stmt := inClass (top 6) 0
def fn : List He.DefD := [dd "is_name" sIsName, dd "first_wrong" sFirstW, dd "need_lot" sNLot, dm "Family" "__init__" "Family.__init__" sFInit, dm "Family" "rank_of" "Family.rank_of" sRankN, dd "need_places" sNPlaces, dd "is_pair" sIsPair, dm "Web" "__init__" "Web.__init__" sWInit, dm "Web" "marks" "Web.marks" sWMarks, dm "Web" "count_free" "Web.count_free" sWCount, dd "ties_family" sTiesF, dd "_law_source" sLSource, dd "_law_draw" sLDraw, dd "_law_pick" sLPick, dd "_law_names" sLNames, dd "_law_shuffled" sLShuf, dd "_law_web_drawn" sLWebL, dd "less" sLess, dd "with_thing" sWithT, dm "Drawn" "__init__" "Drawn.__init__" sDrInit, dm "Joined" "__init__" "Joined.__init__" sJoInit, dm "Family" "things" "Family.things" sFThings, dm "Family" "__len__" "Family.__len__" sFLen, dm "Family" "__contains__" "Family.__contains__" sFHas, dm "Family" "rank" "Family.rank" sFRank, dm "Family" "stuck" "Family.stuck" sFStuck, dd "need_alike" sNAlike, dd "need_few" sNFew, dd "lots_of" sLotsOf, dd "alike" sAlike, dd "inside" sInside, dd "without" sWithout, dd "drawn_in" sDrawnIn, dd "joined" sJoinedF, dd "_law_lot" sLLot, dd "_law_merged" sL11Merged, dd "_law_without" sL11Without, dd "_law_family" sL11Family, dd "_law_doubled" sL11Doubled, dd "_law_side_by_side" sL11Side, dd "_law_steps_right" sL11Steps, dd "_law_right" sL11Right, dd "law" sLaw11, dm "Drawn" "count_free" "Drawn.count_free" sDrCount, dm "Joined" "count_free" "Joined.count_free" sJoCount, dm "BadLot" "__init__" "BadLot.__init__" xBadLot, dm "TooMany" "__init__" "TooMany.__init__" xTooMany, dm "BadPlaces" "__init__" "BadPlaces.__init__" xBadPlaces, dm "BadTies" "__init__" "BadTies.__init__" xBadTies, dm "SameThing" "__init__" "SameThing.__init__" xSameThing]
def globs : List Str := (["is_name", "first_wrong", "need_lot", "need_places", "is_pair", "ties_family", "_law_source", "_law_draw", "_law_pick", "_law_names", "_law_shuffled", "_law_web_drawn", "less", "with_thing", "need_alike", "need_few", "lots_of", "alike", "inside", "without"] : List Str) ++ (["drawn_in", "joined", "_law_lot", "_law_merged", "_law_without", "_law_family", "_law_doubled", "_law_side_by_side", "_law_steps_right", "_law_right", "law", "Family", "Web", "Drawn", "Joined", "BadLot", "TooMany", "BadPlaces", "BadTies", "SameThing"] : List Str) ++ (["UnlikeThings"] : List Str)
def fa : List He.Fa := [.str "LETTERS" "abcdefghijklmnopqrstuvwxyz", .int "MOST_LETTERS" 8, .int "MOST_THINGS" 24, .int "MOST_PLACES" 16, .int "MOST_LISTED" 12, .mkr "Family", .mkr "Web", .mkr "Drawn", .mkr "Joined", .meth "Family" "rank_of", .meth "Web" "marks", .meth "Web" "count_free", .meth "Family" "things", .meth "Family" "__len__", .meth "Family" "__contains__", .meth "Family" "rank", .meth "Family" "stuck", .meth "Drawn" "count_free", .meth "Joined" "count_free"]
def ex (K : PySem.W.Frag) : Bool := globB K globs && (freeB K blNames && ((fa.all fun f => f.ok K) && (excB K "BadLot" "index" && (excB K "TooMany" "limit" && (excB K "BadPlaces" "index" && (excB K "BadTies" "name" && (excB K "SameThing" "thing" && (exc0B K "UnlikeThings" && (clsFB K "Family" ["names", "source", "counted"] && (clsB K "Web" ["known", "ending"] && (clsB K "Drawn" ["inner", "lot"] && (clsB K "Joined" ["first", "second"] && (exmB K ["BadLot", "TooMany", "BadPlaces", "BadTies", "UnlikeThings", "SameThing"])))))))))))))
def adr : List Addr := ([3, 31, 51, 70, 82, 101, 120, 139, 158, 290, 385, 420, 446, 6, 0, 30, 50, 69, 81, 100, 119, 138, 157, 289, 384, 419, 445, 15, 17, 18, 29, 49, 68, 80, 99, 118, 137, 156, 161, 166, 168, 169, 173, 175, 176, 180, 182, 183, 187, 192] : List Addr) ++ ([194, 195, 288, 295, 297, 298, 302, 307, 309, 310, 314, 316, 317, 321, 323, 324, 328, 383, 390, 392, 393, 418, 444, 451, 453, 454, 458, 460, 461, 465, 467, 468, 472, 474, 475, 479, 481, 482, 486, 488, 489, 493, 495, 496, 500, 505, 507, 508, 512, 517] : List Addr) ++ ([519, 520, 524, 529, 534, 536, 537, 541, 546, 551, 556, 561, 21, 165, 172, 179, 186, 191, 198, 301, 306, 313, 320, 327, 332, 396, 457, 464, 471, 478, 485, 492, 499, 504, 511, 516, 523, 528, 533, 540, 545, 550, 555, 560, 565, 19, 48, 67, 98, 117] : List Addr) ++ ([136, 155, 163, 170, 177, 184, 189, 196, 212, 219, 226, 233, 240, 247, 254, 261, 268, 275, 280, 287, 299, 304, 311, 318, 325, 330, 344, 351, 358, 365, 372, 377, 382, 394, 410, 417, 438, 443, 455, 462, 469, 476, 483, 490, 497, 502, 509, 514, 521, 526] : List Addr) ++ ([531, 538, 543, 548, 553, 558, 563, 4, 20, 164, 171, 178, 185, 190, 197, 300, 305, 312, 319, 326, 331, 395, 456, 463, 470, 477, 484, 491, 498, 503, 510, 515, 522, 527, 532, 539, 544, 549, 554, 559, 564, 16, 32, 162, 167, 174, 181, 188, 193, 291] : List Addr) ++ ([292, 296, 303, 308, 315, 322, 329, 386, 387, 391, 421, 422, 447, 448, 452, 459, 466, 473, 480, 487, 494, 501, 506, 513, 518, 525, 530, 535, 542, 547, 552, 557, 562, 47, 66, 97, 116, 135, 154, 211, 218, 225, 232, 239, 246, 253, 260, 267, 274, 279] : List Addr) ++ ([286, 343, 350, 357, 364, 371, 376, 381, 409, 416, 437, 442] : List Addr)
abbrev R : PySem.W.OpenRow := PySem.W.OpenLaw.row PySem.Challenge.rw_bothfree_k11_whole_webs_that_change
abbrev hk : PySem.W.Hook := hookL adr fn ex
abbrev ob (s : PySem.W.SharedT) : AlB := lookL adr fn ex s
theorem ob_eq (s : PySem.W.SharedT) : ob s = hk.obs s.abs := lookL_eq adr fn ex s
def loose : List Str := (["_wall", "LotError", "BadLot", "NoThing", "UnlikeThings", "SameThing", "TooMany", "BadPlaces", "BadTies", "LETTERS", "MOST_LETTERS", "MOST_THINGS", "is_name", "first_wrong", "need_lot", "need_alike", "less", "with_thing", "MOST_LISTED", "Family"] : List Str) ++ (["greedy", "lots_of", "need_few", "alike", "MOST_PLACES", "need_places", "is_pair", "Web", "ties_family", "Drawn", "Joined", "inside", "without", "drawn_in", "joined", "_law_source", "_law_draw", "_law_pick", "_law_names", "_law_shuffled"] : List Str) ++ (["_law_lot", "_law_web_drawn", "_law_merged", "_law_without", "_law_family", "_law_doubled", "_law_side_by_side", "_law_steps_right", "_law_right"] : List Str)
abbrev kOf (s : PySem.W.SharedT) : PySem.W.Frag := He.frG (HandSHeadRun.getT s) adr
open HandSHeadRun PySem.W PySem.Calls in
theorem run1 (w : World) (os : OsState) : (endF (stepQ (denQ tabQ) R.prog w) 76000 R.prog w os).map (fun s => (looksF R.prog (boot_heap w.params) s.abs, seenQ (PySem.W.view R.prog [55]) loose (importedModules R.prog.main.body) (fun s => xlAt (PySem.W.view R.prog [55]) [] s && recOk R.toRowW.records s) s.abs)) = some (true, openGood (PySem.W.view R.prog [55]) loose) := by
  kernel_rfl
open HandSHeadRun PySem.W PySem.Calls in
theorem run2 (w : World) (os : OsState) : (endF (stepQ (denQ tabQ) R.prog w) 76000 R.prog w os).map (fun s => ex (kOf s)) = some true := by
  kernel_rfl
open HandSHeadRun PySem.W PySem.Calls in
theorem run3 (w : World) (os : OsState) : (endF (stepQ (denQ tabQ) R.prog w) 76000 R.prog w os).map (fun s => ((fn.all fun d => d.ok (kOf s)), fn.map fun d => He.fnW (kOf s) d.at_)) = some (true, fn.map He.DefD.val) := by
  kernel_rfl
theorem run (w : World) : HandSHeadRun.RunEq R (PySem.W.view R.prog [55]) hk ob 76000 loose w := fun os => runJ (run1 w os) (run2 w os) (run3 w os)
end L11
namespace Bf
open PySem PySem.Spec PyProof.Rows L2 Evl
def leS (a b : Str) : Bool := !ltCps b.cps.toList a.cps.toList
theorem leS_iff {a b : Str} : leS a b = true ↔ a.cps.toList ≤ b.cps.toList := by
  unfold leS
  rw [ltCps_eq]
  simp
theorem leS_trans (a b c : Str) (h1 : leS a b = true) (h2 : leS b c = true) : leS a c = true := leS_iff.mpr (Std.le_trans (leS_iff.mp h1) (leS_iff.mp h2))
theorem leS_total (a b : Str) : (leS a b || leS b a) = true := by
  rw [Bool.or_eq_true]
  rcases Std.le_total (a := a.cps.toList) (b := b.cps.toList) with h | h
  · exact .inl (leS_iff.mpr h)
  · exact .inr (leS_iff.mpr h)
theorem leS_antisymm {a b : Str} (h1 : leS a b = true) (h2 : leS b a = true) : a = b := by
  have e : a.cps.toList = b.cps.toList := Std.le_antisymm (leS_iff.mp h1) (leS_iff.mp h2)
  cases a with
  | mk x => cases b with
    | mk y =>
      have e2 : x = y := Array.toList_inj.mp e
      rw [e2]
theorem pw_of_rising : ∀ (p : Str) (l : List Str), risingS p l = true → (p :: l).Pairwise (fun a b => leS a b = true)
  | p, [], _ => List.pairwise_singleton _ _
  | p, x :: r, h => by
    obtain ⟨h1, h2⟩ := Bool.and_eq_true_iff.mp (show (!ltCps x.cps.toList p.cps.toList && risingS x r) = true from h)
    have ih := pw_of_rising x r h2
    refine List.pairwise_cons.mpr ⟨fun y hy => ?_, ih⟩
    rcases List.mem_cons.mp hy with rfl | hy
    · exact h1
    · exact leS_trans p x y h1 (List.rel_of_pairwise_cons ih hy)
theorem pw_of_sorted : ∀ {l : List Str}, sortedS l = true → l.Pairwise (fun a b => leS a b = true)
  | [], _ => List.Pairwise.nil
  | x :: r, h => pw_of_rising x r h
def srt (l : List Str) : List Str := l.mergeSort leS
theorem srt_perm (l : List Str) : (srt l).Perm l := List.mergeSort_perm l leS
theorem srt_pw (l : List Str) : (srt l).Pairwise (fun a b => leS a b = true) := List.pairwise_mergeSort leS_trans leS_total l
theorem srt_len (l : List Str) : (srt l).length = l.length := (srt_perm l).length_eq
theorem srt_mem {l : List Str} {x : Str} : x ∈ srt l ↔ x ∈ l := (srt_perm l).mem_iff
theorem srt_eq {l m : List Str} (p : m.Perm l) (s : sortedS m = true) : m = srt l :=
  List.Perm.eq_of_pairwise (le := fun a b => leS a b = true) (fun a b _ _ h1 h2 => leS_antisymm h1 h2) (pw_of_sorted s) (srt_pw l) (p.trans (srt_perm l).symm)
theorem srt_congr {l m : List Str} (p : m.Perm l) : srt m = srt l :=
  List.Perm.eq_of_pairwise (le := fun a b => leS a b = true) (fun a b _ _ h1 h2 => leS_antisymm h1 h2) (srt_pw m) (srt_pw l) ((srt_perm m).trans (p.trans (srt_perm l).symm))
def abc : Str := "abcdefghijklmnopqrstuvwxyz"
def isNm (z : Str) : Bool := decide (1 ≤ z.length) && (decide (z.length ≤ 8) && z.cps.toList.all fun c => decide (c ∈ abc.cps.toList))
theorem inV_str {x : Str} {xs : List Str} : inV (.str x) (xs.map V.str) = decide (x ∈ xs) := by
  unfold inV
  rw [List.any_map]
  induction xs with
  | nil => rfl
  | cons y r ih =>
    rw [List.any_cons, ih]
    show ((y == x) || _) = _
    by_cases h : y = x
    · subst h
      simp
    · have : (y == x) = false := by simpa using h
      rw [this]
      simp [Ne.symm h]
end Bf
namespace Bf
open PySem PySem.Spec PyProof.Rows L2 Evl
def Drawn (z : Str) : Prop := isNm z = true ∧ z.length ≤ 7 ∧ z.length ≠ 6
abbrev sign (c : Nat) : Str := ⟨#[c]⟩
theorem str_ext {a b : Str} (h : a.cps.toList = b.cps.toList) : a = b := by
  cases a with
  | mk x => cases b with
    | mk y =>
      have e2 : x = y := Array.toList_inj.mp h
      rw [e2]
theorem joinL_signs : ∀ cs : List Nat, TL.joinL [] (cs.map fun c => [c]) = cs
  | [] => rfl
  | [_] => rfl
  | a :: b :: r => by
    show [a] ++ ([] ++ TL.joinL [] ((b :: r).map fun c => [c])) = a :: b :: r
    rw [joinL_signs (b :: r)]
    rfl
theorem join_signs (cs : List Nat) : (Txt.join "" (cs.map sign)).cps.toList = cs := by
  rw [TL.join_eq]
  have h := TL.tl_join "" (cs.map sign)
  have e : (cs.map sign).map TL.tl = cs.map fun c => [c] := by
    rw [List.map_map]
    rfl
  rw [e, show TL.tl ("" : Str) = [] from rfl, joinL_signs] at h
  exact h
theorem len_toList (z : Str) : z.cps.toList.length = z.length := Array.length_toList
theorem cut8 {z : Str} (h : z.length ≤ 8) : cutS z none (some 8) = z := by
  apply str_ext
  unfold cutS
  show ((z.cps.toList.drop (HT.sIx z.length 0 none)).take (HT.sIx z.length z.length (some ((8 : Nat) : Int)) - HT.sIx z.length 0 none)) = z.cps.toList
  rw [HT.sIx_none, HT.sIx_nat, List.drop_zero, Nat.sub_zero]
  exact List.take_of_length_le (by rw [len_toList]; omega)
theorem nodup_sub {α : Type} [DecidableEq α] : ∀ {l m : List α}, l.Nodup → (∀ x ∈ l, x ∈ m) → l.length ≤ m.length
  | [], _, _, _ => Nat.zero_le _
  | a :: r, m, hn, hs => by
    obtain ⟨h1, h2⟩ := List.nodup_cons.mp hn
    have ih := nodup_sub (l := r) (m := m.erase a) h2 fun x hx => (List.mem_erase_of_ne (fun z => h1 (by rw [← z]; exact hx))).mpr (hs x (List.mem_cons_of_mem _ hx))
    have ha : a ∈ m := hs a List.mem_cons_self
    have el := List.length_erase_of_mem ha
    have pos := List.length_pos_of_mem ha
    rw [List.length_cons]
    omega
theorem abc_len : abc.cps.toList.length = 26 := by decide +kernel
theorem abc_nodup : (abc.cps.toList.map sign).Nodup := by decide +kernel
theorem all_in {xs : List Str} (h : ∀ i, i < 26 → sign (abc.cps.getD i 0) ∈ xs) : 26 ≤ xs.length := by
  have hs : ∀ x ∈ abc.cps.toList.map sign, x ∈ xs := fun x hx => by
    obtain ⟨c, hc, rfl⟩ := List.mem_map.mp hx
    obtain ⟨i, hi, e⟩ := List.mem_iff_getElem.mp hc
    have h26 : i < 26 := by rw [← abc_len]; exact hi
    have := h i h26
    have e2 : abc.cps.getD i 0 = c := by
      have hi' : i < abc.cps.size := by simpa using hi
      rw [← e]
      simp [Array.getD, hi']
    rw [e2] at this
    exact this
  have := nodup_sub abc_nodup hs
  rw [List.length_map, abc_len] at this
  exact this
end Bf
namespace Bf
open PySem PySem.Spec PyProof.Rows L2 Evl
def firstOf (b : Nat → Bool) (n : Nat) : Option Nat := (List.range n).find? b
theorem first_some {b : Nat → Bool} {n i : Nat} (hi : i < n) (h : b i = true) (hl : ∀ j, j < i → b j = false) : firstOf b n = some i := by
  unfold firstOf
  rw [List.find?_range_eq_some]
  exact ⟨h, List.mem_range.mpr hi, fun j hj => by rw [hl j hj]; rfl⟩
theorem first_none {b : Nat → Bool} {n : Nat} (h : ∀ j, j < n → b j = false) : firstOf b n = none := by
  unfold firstOf
  rw [List.find?_eq_none]
  intro x hx
  rw [h x (List.mem_range.mp hx)]
  exact Bool.false_ne_true
inductive TVal where
  | tup (es : List (Option Str))
  | oth
inductive Due where
  | pl (i : Int) | ti (n : Str) | many | ok
def StrOk (z : Str) : Prop := z.length ≤ 1000 ∧ PyData.strOk z = true
end Bf
namespace Bf
open PySem PySem.Spec PyProof.Rows L2 Evl
def pairS : TVal → Str × Str
  | .tup [some a, some b] => if leS a b = true then (a, b) else (b, a)
  | _ => ("", "")
theorem srt_pair (a b : Str) : srt [a, b] = [(pairS (.tup [some a, some b])).1, (pairS (.tup [some a, some b])).2] := by
  show srt [a, b] = [(if leS a b = true then (a, b) else (b, a)).1, (if leS a b = true then (a, b) else (b, a)).2]
  by_cases h : leS a b = true
  · rw [if_pos h]
    exact (List.Perm.eq_of_pairwise (le := fun a b => leS a b = true) (fun a b _ _ h1 h2 => leS_antisymm h1 h2) (by simp [h]) (srt_pw [a, b]) (srt_perm [a, b]).symm).symm
  · rw [if_neg h]
    have h2 : leS b a = true := by
      rcases Bool.or_eq_true_iff.mp (leS_total a b) with z | z
      · exact absurd z h
      · exact z
    exact (List.Perm.eq_of_pairwise (le := fun a b => leS a b = true) (fun a b _ _ h1 h2 => leS_antisymm h1 h2) (by simp [h2]) (srt_pw [a, b]) ((List.Perm.swap a b []).trans (srt_perm [a, b]).symm)).symm
end Bf
namespace Bf
open PySem PySem.Spec PyProof.Rows L2 Evl
theorem nm_ok {z : Str} (h : isNm z = true) : StrOk z := by
  unfold isNm at h
  obtain ⟨_, h⟩ := Bool.and_eq_true_iff.mp h
  obtain ⟨h8, h⟩ := Bool.and_eq_true_iff.mp h
  refine ⟨by have := of_decide_eq_true h8; omega, ?_⟩
  have all : ∀ c ∈ abc.cps.toList, c < 1114112 := by decide +kernel
  show z.cps.all (· < 1114112) = true
  rw [← Array.all_toList, List.all_eq_true]
  intro c hc
  exact decide_eq_true (all c (of_decide_eq_true (List.all_eq_true.mp h c hc)))
end Bf
namespace Bf
open PySem PySem.Spec PyProof.Rows L2
section
variable {X : Cx} {CX : CXT} {k : Nat} {f C : Addr} {fd : FuncData} {ps : List Str} {sp : Sp} {E : L2.St → XK} {x m : Str} {p pos apos : Pos} {e o : Expr} {es : List Expr} {ta : TE} {t : TA}
def tMkS (C : Addr) (sp : Sp) (E : L2.St → XK) (t : TA) : TE := fun σ H Q => t σ H fun vs H1 => ∀ y dy, H1 y = none → H1 dy = none → dy ≠ y →
  sp (.ref y :: vs) (upd (upd H1 dy (.own y)) y (.ins C dy [])) (fun v H2 => v = .non ∧ Q (.ref y) H2) (E σ)
theorem run_mkS {pins : List (Addr × Obj)} {σ : L2.St} {H : Hp} {s : Shared} {Q : VK} {us : List Value} {vs : List V} (M : Mk X.K C f) (F : FnOk X.prog X.w X.K X.mg X.base CX k f fd ps sp)
    (hr : Room (k + 1) X.A) (hb : Binds X.K fd ps []) (hx : PassesAt CX X σ (E σ)) (I : Inv X pins σ H s) (r : Vals vs us)
    (h : ∀ y dy, H y = none → H dy = none → dy ≠ y → sp (.ref y :: vs) (upd (upd H dy (.own y)) y (.ins C dy [])) (fun v H2 => v = .non ∧ Q (.ref y) H2) (E σ)) :
    wpAny (model X.prog X.w) X.A (call (.ref C) us) (EP X pins σ Q) X.xe s := by
  have n1 : H (s.heap.objs.size + 1) = none := I.hok.fresh (Nat.le_succ _)
  have n0 : H s.heap.objs.size = none := I.hok.fresh (Nat.le_refl _)
  have hq := h (s.heap.objs.size + 1) s.heap.objs.size n1 n0 (Nat.ne_of_lt (Nat.lt_succ_self _))
  have J := Inv.made (C := C) I
  have r2 : Vals (V.ref (s.heap.objs.size + 1) :: vs) (Value.ref (s.heap.objs.size + 1) :: us) := .cons rfl r
  have hl : (Value.ref (s.heap.objs.size + 1) :: us).length = ps.length := by rw [← r2.length]; exact F.len _ _ _ _ hq
  have b := hb _ (Value.ref (s.heap.objs.size + 1) :: us) J.kIn (by rw [List.append_nil]; exact hl)
  rw [List.append_nil] at b
  refine wpAny_call (make_map (f := f) I.kIn M.makes M.init (beq_iff_eq.mp M.fn) ?_)
  refine codeAny_mono (F.run _ X.stack _ _ ⟨Value.ref (s.heap.objs.size + 1) :: us, []⟩ _ _ _ (E σ) (hr.make C us []) (J.env0.make C us []) b r2 hq) fun r s' z => ?_
  cases r with
  | error er => exact hx pins _ _ er s' J z
  | ok fl =>
    cases fl with
    | ret u =>
      obtain ⟨v, H', I3, rv, ev, q3⟩ := J.after z
      subst ev
      exact ⟨rv, V.ref (s.heap.objs.size + 1), H', I3, rfl, q3⟩
    | next => exact False.elim z
    | brk => exact False.elim z
    | cont => exact False.elim z
theorem pe_mkS (M : Mk X.K C f) (F : FnOk X.prog X.w X.K X.mg X.base CX k f fd ps sp) (hr : Room (k + 1) X.A) (hm : X.mg x = some (.ref C)) (hb : Binds X.K fd ps []) (hx : ∀ σ, PassesAt CX X σ (E σ)) (ha : PA X (e :: es) t)
    (hg : Gl X x := by rfl) (hdb : (x == ("__debug__" : Str)) = false := by decide) (he : starEach (e :: es) X.env = (false, eval e X.env) :: starEach es X.env := by rfl)
    (hpl : (backTo pos (starEach es X.env)).any (·.1) = false := by rfl) : PE X (.Call (.Name x p) (e :: es) [] pos) (tMkS C sp E t) := by
  refine ⟨fun pins s σ H Q I h => wpAny_Call_Name_kw (ld_glob I hg hm ?_ hdb)⟩
  exact PySem.W.callWith_K (h₀ := X.base) I.ok.mod.kin M.kp (thn (ha.run pos pins s σ H _ I h) fun us s1 ⟨vs, H1, I1, r, q⟩ => ⟨I1.kIn, run_mkS M F hr hb (hx σ) I1 r q⟩) he hpl
def tMtS (C : Addr) (m : Str) (sp : Sp) (E : L2.St → XK) (ta : TE) (t : TA) : TE := fun σ H Q => ta σ H fun x H1 => ∃ a dx fs, x = .ref a ∧ H1 a = some (.ins C dx fs) ∧ fs.lookup m = none ∧
  t σ H1 fun vs H2 => sp (x :: vs) H2 Q (E σ)
theorem pe_mtS {pl : Sem Bool} (he : PE X o ta) (c : Cls X.K C) (hm : Meth X.K C m f) (F : FnOk X.prog X.w X.K X.mg X.base CX k f fd ps sp) (hr : Room k X.A) (hb : Binds X.K fd ps []) (hx : ∀ σ, PassesAt CX X σ (E σ)) (ha : PA X (e :: es) t)
    (h1 : starEach (e :: es) X.env = (false, eval e X.env) :: starEach es X.env := by rfl) (h2 : (backTo pos (starEach es X.env)).any (·.1) = false := by rfl)
    (ht : eval (.Call (.Attribute o m apos) (e :: es) [] pos) X.env = (do
      let ov ← eval o X.env
      standAt apos.atName
      let (g, first) ← holding [ov] (getMethod ov m pl)
      callWith pos g first (backTo pos (starEach (e :: es) X.env)) (backToKw pos (keywordEach [] X.env))) := by rfl) :
    PE X (.Call (.Attribute o m apos) (e :: es) [] pos) (tMtS C m sp E ta t) := by
  refine ⟨fun pins s σ H Q I h => PySem.W.methodCall_KW (pl := pl) (thn (he.run pins s σ H _ I h) fun u s1 ⟨x, H1, I1, rx, a, dx, fs, ex, ea, l, q⟩ => ?_) ht⟩
  subst ex
  obtain rfl : u = Value.ref a := rx
  refine getmeth_ok I1 ea c hm l (PySem.W.callWith_K (first := [.ref a]) (h₀ := X.base) I.ok.mod.kin hm.kp (thn (ha.run pos pins s1 σ H1 _ I1 q) fun us s2 ⟨vs, H2, I2, r, q2⟩ => ⟨I2.kIn, ?_⟩) h1 h2)
  exact run_fnS (us := .ref a :: us) (vs := .ref a :: vs) F hr hb (hx σ) I2 (.cons rfl r) q2
end
end Bf
namespace Bf
open PySem PySem.Spec PyProof.Rows L2
def absL (a : Addr) (R : List V → Prop) : HO := .ext fun h => ∃ (xs : List V) (its : List Value) (n : Nat), R xs ∧ xs.length ≤ sizeLine ∧ Vals xs its ∧ h.get? a = some { cls := .type "list", data := .seq its.toArray n }
theorem absL_own {a x : Addr} {R : List V → Prop} : absL a R ≠ .own x := fun z => by
  have z' : HO.ext _ = HO.own x := z
  cases z'
theorem absL_tup {a : Addr} {R : List V → Prop} {xs : List V} : absL a R ≠ .tup xs := fun z => by
  have z' : HO.ext _ = HO.tup xs := z
  cases z'
section
variable {P : Program} {w : World} {H : Hp} {h : Heap} {a : Addr} {R : List V → Prop}
theorem abs_in (ok : HOk P w H h) (e : H a = some (absL a R)) : ∃ xs, R xs ∧ HOk P w (upd H a (.lst xs)) h := by
  have x : ObjOk P w H h a (.ext fun h => ∃ (xs : List V) (its : List Value) (n : Nat), R xs ∧ xs.length ≤ sizeLine ∧ Vals xs its ∧ h.get? a = some { cls := .type "list", data := .seq its.toArray n }) := ok a _ e
  obtain ⟨⟨xs, its, n, r, hl, hv, q⟩, _, _⟩ := x
  exact ⟨xs, r, hok_swap ok e (fun _ => absL_own) (fun _ => absL_tup) ⟨hl, its, n, hv, q⟩⟩
theorem abs_of {xs : List V} {H' : Hp} (r : R xs) (x : ObjOk P w H h a (.lst xs)) : ObjOk P w H' h a (absL a R) := by
  obtain ⟨hl, its, n, hv, e⟩ := x
  exact ⟨⟨xs, its, n, r, hl, hv, e⟩, ⟨_, e⟩, fun h1 h2 z kk => by
    obtain ⟨xs, its, n, r, hl, hv, e⟩ := z
    exact ⟨xs, its, n, r, hl, hv, kk _ e⟩⟩
theorem abs_out {xs : List V} (r : R xs) (ok : HOk P w (upd H a (.lst xs)) h) : HOk P w (upd H a (absL a R)) h := by
  have q := hok_swap (o' := absL a R) ok upd_same (fun _ z => by cases z) (fun _ z => by cases z) (abs_of r (ok a _ upd_same))
  rw [upd_upd] at q
  exact q
end
def absSp (sp0 : Sp) : Sp := fun vs H Q E => ∃ (a : Addr) (R : List V → Prop), H a = some (absL a R) ∧ ∀ xs, R xs → sp0 vs (upd H a (.lst xs)) (fun v H' => ∃ ys, R ys ∧ H' = upd H a (.lst ys) ∧ Q v H) E
def absNew (sp0 : Sp) : Sp := fun vs H Q E => sp0 vs H (fun v H' => ∃ (a : Addr) (R : List V → Prop) (xs : List V) (G : Hp), R xs ∧ G a = none ∧ Evl.Ex H G ∧ H' = upd G a (.lst xs) ∧ v = .ref a ∧ Q (.ref a) (upd G a (absL a R))) E
section
variable {P : Program} {w : World} {K : PySem.W.Frag} {mg : Str → Option Value} {base : Heap} {k : Nat} {f : Addr} {fd : FuncData} {ps : List Str} {sp0 : Sp}
theorem abs_fn {sp : Sp} (len : ∀ vs H Q E, sp vs H Q E → vs.length = ps.length) (imp : ∀ vs H Q E, sp vs H Q E → absSp sp0 vs H Q E) (F : FnOk P w K mg base CX0 k f fd ps sp0) : FnOk P w K mg base CX0 k f fd ps sp := by
  refine ⟨len, fun A outer s H args us vs Q E hr e0 hb hv hsp => ?_⟩
  obtain ⟨a, R, ha, q⟩ := imp _ _ _ _ hsp
  obtain ⟨xs, r, hok1⟩ := abs_in e0.hok ha
  have na : ∀ {b : Addr}, H b = none → b ≠ a := fun n => (ne_of_none ha n).symm
  have e1 : Env0 P w K mg base A outer s (upd H a (.lst xs)) := ⟨e0.frames, e0.mod, fun b o e => ⟨(e0.bs b o e).1, by rw [upd_ne (na (e0.bs b o e).2)]; exact (e0.bs b o e).2⟩, e0.bsz, e0.funs, fun b hb => by rw [upd_ne (na (e0.frf b hb))]; exact e0.frf b hb, hok1, e0.bare⟩
  refine codeAny_mono (F.run A outer s _ args us _ _ E hr e1 hb hv (q xs r)) fun r s' h => ?_
  cases r with
  | error e => exact h
  | ok fl => cases fl with
    | ret u =>
      obtain ⟨v, H', os, bare, un, hok, rv, ys, ry, rfl, hq⟩ := h
      have z := abs_out ry hok
      rw [upd_self ha] at z
      exact ⟨v, H, os, bare, un_back ha un, z, rv, hq⟩
    | next => exact h
    | brk => exact h
    | cont => exact h
theorem un_new2 {fs : List Addr} {H G : Hp} {h h' : Heap} {a : Addr} {l1 l2 : HO} (e : G a = none) (x : Evl.Ex H G) (u : Un fs [] H (upd G a l1) h h') : Un fs [] H (upd G a l2) h h' where
  keep := u.keep
  slot := u.slot
  free := fun b o q n hx => by
    have z := u.free b o q n hx
    have hb : b ≠ a := fun hb => by
      rw [hb, upd_same] at z
      cases z
    rw [upd_ne hb] at z ⊢
    exact z
  there := u.there
  tups := fun b xs q => by
    have hb : b ≠ a := fun hb => by rw [hb] at q; rw [x _ _ q] at e; cases e
    have z := u.tups b xs q
    rw [upd_ne hb] at z ⊢
    exact z
  frzs := fun b o v q => by
    have hb : b ≠ a := fun hb => by rw [hb] at q; rw [x _ _ q] at e; cases e
    have z := u.frzs b o v q
    rw [upd_ne hb] at z ⊢
    exact z
  tbls := fun b ps q => by
    have hb : b ≠ a := fun hb => by rw [hb] at q; rw [x _ _ q] at e; cases e
    have z := u.tbls b ps q
    rw [upd_ne hb] at z ⊢
    exact z
theorem abs_new (len : ∀ vs H Q E, sp0 vs H Q E → vs.length = ps.length) (F : FnOk P w K mg base CX0 k f fd ps sp0) : FnOk P w K mg base CX0 k f fd ps (absNew sp0) := by
  refine ⟨fun vs H Q E h => len vs H _ E h, fun A outer s H args us vs Q E hr e0 hb hv hsp => ?_⟩
  refine codeAny_mono (F.run A outer s _ args us _ _ E hr e0 hb hv hsp) fun r s' h => ?_
  cases r with
  | error e => exact h
  | ok fl => cases fl with
    | ret u =>
      obtain ⟨v, H', os, bare, un, hok, rv, a, R, xs, G, rx, ga, ex, rfl, rfl, hq⟩ := h
      exact ⟨.ref a, _, os, bare, un_new2 ga ex un, abs_out rx hok, rv, hq⟩
    | next => exact h
    | brk => exact h
    | cont => exact h
end
section
variable {X : Cx} {CX : CXT} {k n : Nat} {f C : Addr} {fd : FuncData} {ps ks : List Str} {sp : Sp} {E : L2.St → XK} {x : Str} {p pos : Pos} {e : Expr} {es : List Expr} {kws : List Keyword} {t tk : TA} {g : List Value → List Value → List Value} {gV : List V → List V → List V}
end
end Bf
namespace Bf
open PySem PySem.Spec PyProof.Rows L2
def repS (z : Str) (n : Nat) : Str := ⟨(List.replicate n z.cps).foldl (· ++ ·) #[]⟩
theorem foldl_empty (n : Nat) : (List.replicate n (#[] : Array Nat)).foldl (· ++ ·) #[] = #[] := by
  induction n with
  | zero => rfl
  | succ n ih => rw [List.replicate_succ, List.foldl_cons]; simpa using ih
theorem fold_app : ∀ (l : List (Array Nat)) (a : Array Nat), (l.foldl (· ++ ·) a).toList = a.toList ++ (l.map (·.toList)).flatten
  | [], a => by simp
  | b :: r, a => by
    rw [List.foldl_cons, fold_app r, Array.toList_append, List.map_cons, List.flatten_cons, List.append_assoc]
theorem rep_list (z : Str) (n : Nat) : (repS z n).cps.toList = (List.replicate n z.cps.toList).flatten := by
  unfold repS
  rw [fold_app, List.map_replicate]
  simp
theorem rep_len (z : Str) (n : Nat) : (repS z n).length = n * z.length := by
  show (repS z n).cps.size = n * z.cps.size
  rw [← Array.length_toList, rep_list, List.length_flatten, List.map_replicate, List.sum_replicate_nat, Array.length_toList]
theorem op_mulS {X : Cx} : OpR X (binaryOp .Mult) (fun x y H Q => ∃ (z : Str) (n : Nat), x = .str z ∧ y = .int n ∧ n ≤ 1000 ∧ z.length ≤ 1000 ∧ Q (.str (repS z n)) H) := by
  intro pins s σ H x y v u Q I rx ry h
  obtain ⟨z, n, rfl, rfl, hn, hz, q⟩ := h
  obtain ⟨t, rfl⟩ := rx
  obtain ⟨t', rfl⟩ := ry
  refine PySem.P.mul_str ?_ ?_ ?_ ?_
  · have h1 : ¬ ((n : Int) < -(2 ^ 63 : Int)) := by omega
    have h2 : ¬ ((n : Int) ≥ 2 ^ 63) := by omega
    rw [decide_eq_false h1, decide_eq_false h2]
    rfl
  · intro h1 _
    have h2 : (1 : Int) ≤ n := by omega
    have h3 : (1001 : Int) ≤ (2 ^ 63 - 1) / n := by
      rw [Int.le_ediv_iff_mul_le (by omega)]
      have : (1001 : Int) * n ≤ 1001 * 1000 := by omega
      omega
    omega
  · intro _ _
    refine decide_eq_false (p := _ > sizeLine) ?_
    have h1 : z.length * (n : Int).toNat ≤ 1000 * 1000 := Nat.mul_le_mul hz (by rw [Int.toNat_natCast]; exact hn)
    rw [sizeLine_eq]
    omega
  · by_cases h0 : (n : Int) < 1
    · rw [if_pos h0]
      have e : n = 0 := by omega
      subst e
      exact ⟨by decide, .str _, H, I.tok _, ⟨_, rfl⟩, q⟩
    · rw [if_neg h0]
      by_cases h1 : ((n : Int) == 1 || z.length == 0) = true
      · rw [if_pos h1]
        have e : repS z n = z := by
          rcases Bool.or_eq_true_iff.mp h1 with h | h
          · have : n = 1 := by have := eq_of_beq h; omega
            subst this
            show (⟨#[] ++ z.cps⟩ : Str) = z
            simp
          · have hz0 : z.cps = #[] := Array.eq_empty_of_size_eq_zero (eq_of_beq h)
            unfold repS
            rw [hz0, foldl_empty, ← hz0]
        rw [e] at q
        exact ⟨.str _, H, I, ⟨_, rfl⟩, q⟩
      · rw [if_neg h1]
        refine ⟨?_, .str _, H, I.tok _, ⟨_, rfl⟩, q⟩
        have h2 := rep_len z n
        have h3 : n * z.length ≤ 1000 * 1000 := Nat.mul_le_mul hn hz
        show (repS z n).length ≤ sizeLine
        rw [h2, sizeLine_eq]
        omega
end Bf
namespace Bf
open PySem PySem.Spec PyProof.Rows L2 Evl
section
variable {P : Program} {w : World} {K : PySem.W.Frag} {mg : Str → Option Value} {base : Heap} {f fi : Addr} {fd fdi : FuncData}
def isNmV : V → Bool
  | .str z => isNm z
  | _ => false
theorem nm_long {z : Str} (h : 8 < z.length) : isNmV (.str z) = false := by
  show isNm z = false
  unfold isNm
  rw [decide_eq_false (show ¬ z.length ≤ 8 by omega), Bool.false_and, Bool.and_false]
theorem nm_short {z : Str} (h : z.length < 1) : isNmV (.str z) = false := by
  show isNm z = false
  unfold isNm
  rw [decide_eq_false (show ¬ 1 ≤ z.length by omega), Bool.false_and]
theorem nm_okV {z : Str} (h1 : 1 ≤ z.length) (h2 : z.length ≤ 8) : isNmV (.str z) = z.cps.toList.all fun c => decide (c ∈ abc.cps.toList) := by
  show isNm z = _
  unfold isNm
  rw [decide_eq_true h1, decide_eq_true h2, Bool.true_and, Bool.true_and]
theorem iteB {b : Bool} {A B : Prop} (h1 : b = true → A) (h2 : b = false → B) : if b = true then A else B := by
  cases b with
  | true => exact iteT (h1 rfl)
  | false => exact iteF (h2 rfl)
theorem seqIx {m n : Nat} (h : m < n) : seqIndex? (m : Int) n = some m := by
  unfold seqIndex?
  simp
  omega
def KeysAt (K : PySem.W.Frag) (H : Hp) (p : Addr) (ss : List Str) : Prop := SqL K H p (ss.map V.str) ∨ ∃ kvs : List (Key × V), H p = some (.dK kvs) ∧ kvs.map (·.1) = ss.map Sum.inr
theorem KeysAt.mono {H H' : Hp} {p : Addr} {ss : List Str} (h : KeysAt K H p ss) (e : Ex H H') : KeysAt K H' p ss := by
  rcases h with h | ⟨kvs, h, k⟩
  · exact .inl (ex_l e h)
  · exact .inr ⟨kvs, e p _ h, k⟩
def Out (K : PySem.W.Frag) (H : Hp) (E : XK) (x f : Str) (v : V) : Prop := ∀ (d : Addr) (G : Hp), Ex H G → H d = none → G d = some (.xd [(f, v)]) → E (.ref (He.ga K x)) (some d) G
theorem Out.go {K : PySem.W.Frag} {H G : Hp} {E : XK} {x f : Str} {v : V} (o : Out K H E x f v) (e : Ex H G) {d : Addr} (hd : G d = none) : E (.ref (He.ga K x)) (some d) (upd G d (.xd [(f, v)])) :=
  o d _ (e.trans (Ex.new hd)) (fresh_back e hd) upd_same
def ExB (x : Addr) (H G : Hp) : Prop := ∀ b o, b ≠ x → H b = some o → G b = some o
theorem ExB.then {x : Addr} {H G G' : Hp} (a : ExB x H G) (e : Ex G G') : ExB x H G' := fun b o n h => e b o (a b o n h)
theorem ExB.set {x : Addr} {H G : Hp} {o : HO} (a : ExB x H G) : ExB x H (upd G x o) := fun b u n h => by rw [upd_ne n]; exact a b u n h
def OutB (K : PySem.W.Frag) (x : Addr) (H : Hp) (E : XK) (c f : Str) (v : V) : Prop := ∀ (d : Addr) (G : Hp), ExB x H G → d ≠ x → H d = none → G d = some (.xd [(f, v)]) → E (.ref (He.ga K c)) (some d) G
theorem OutB.go {x : Addr} {H G : Hp} {E : XK} {c f : Str} {v : V} {o : HO} (q : OutB K x H E c f v) (e : ExB x H G) (hx : G x = some o) {d : Addr} (hd : G d = none) : E (.ref (He.ga K c)) (some d) (upd G d (.xd [(f, v)])) := by
  have nx : d ≠ x := fun z => by rw [z, hx] at hd; cases hd
  refine q d _ (e.then (Ex.new hd)) nx ?_ upd_same
  cases h : H d with
  | none => rfl
  | some u => rw [e d u nx h] at hd; cases hd
theorem paired_snoc {α β : Type} {R : α → β → Prop} : ∀ {l : List α} {m : List β} {a : α} {b : β}, Paired R l m → R a b → Paired R (l ++ [a]) (m ++ [b])
  | _, _, _, _, .nil, h => .cons h .nil
  | _, _, _, _, .cons x t, h => .cons x (paired_snoc t h)
theorem tup_upd {H : Hp} {d t : Addr} {o o' : HO} {xs : List V} (hd : H d = some o) (no : ∀ ys, o ≠ .tup ys) (h : H t = some (.tup xs)) : (upd H d o') t = some (.tup xs) := by
  rw [upd_ne fun z => by rw [z, hd] at h; exact no _ (Option.some.inj h)]
  exact h
def PairsAt (H : Hp) (D : Addr) (kvs : List (Key × V)) : Prop := ∃ ps : List Addr, H D = some (.lst (ps.map V.ref)) ∧ Paired (fun p kv => H p = some (.tup [kV kv.1, kv.2])) ps kvs
theorem PairsAt.nil {H : Hp} {D : Addr} : PairsAt (upd H D (.lst [])) D [] := ⟨[], upd_same, .nil⟩
theorem PairsAt.upd {H : Hp} {D d : Addr} {kvs : List (Key × V)} {o o' : HO} (h : PairsAt H D kvs) (hd : H d = some o) (no : ∀ ys, o ≠ .tup ys) (ne : D ≠ d) : PairsAt (upd H d o') D kvs := by
  obtain ⟨ps, h1, h2⟩ := h
  exact ⟨ps, by rw [upd_ne ne]; exact h1, Paired.mapP h2 fun _ _ z => tup_upd hd no z⟩
theorem PairsAt.more {H G : Hp} {D t : Addr} {kvs : List (Key × V)} {k : Key} {v : V} {n : Nat} (h : PairsAt H D kvs) (e : Ex H G) (ht : G t = some (.tup [kV k, v])) (hl : kvs.length ≤ 1000) :
    ∃ acc, G D = some (.lst acc) ∧ acc.length < sizeLine ∧ PairsAt (L2.upd G D (.lst (acc ++ [.ref t]))) D (kvs ++ [(k, v)]) := by
  obtain ⟨ps, h1, h2⟩ := h
  have hD := e D _ h1
  have hlen := Paired.length h2
  refine ⟨_, hD, by rw [List.length_map]; exact sz_lt (by omega), ps ++ [t], by rw [upd_same, List.map_append]; rfl, paired_snoc (Paired.mapP h2 fun _ _ z => tup_upd hD (fun _ z => by cases z) (e _ _ z)) (tup_upd hD (fun _ z => by cases z) ht)⟩
theorem PairsAt.sq {H : Hp} {D : Addr} {kvs : List (Key × V)} (h : PairsAt H D kvs) : ∃ ps : List Addr, SqL K H D (ps.map V.ref) ∧ Paired (fun p kv => SqT K H p [kV kv.1, kv.2]) ps kvs := by
  obtain ⟨ps, h1, h2⟩ := h
  exact ⟨ps, sq_of h1, Paired.mapP h2 fun _ _ z => st_of z⟩
theorem insB_ok {K : PySem.W.Frag} {C : Addr} (h : insB K C = true) (cl : Cls K C) : C8.InsC K C := by
  obtain ⟨h1, h⟩ := Bool.and_eq_true_iff.mp h
  obtain ⟨h2, h⟩ := Bool.and_eq_true_iff.mp h
  obtain ⟨h3, h⟩ := Bool.and_eq_true_iff.mp h
  obtain ⟨h4, h5⟩ := Bool.and_eq_true_iff.mp h
  exact ⟨cl, of_decide_eq_true h1, of_decide_eq_true h2, of_decide_eq_true h3, of_decide_eq_true h4, of_decide_eq_true h5⟩
theorem SayB.def_ {fn : List He.DefD} {ex : PySem.W.Frag → Bool} {K : PySem.W.Frag} (c : SayB fn ex K) (i : Nat) {d : He.DefD} (h : fn[i]? = some d) : ∃ fd, FunD K d.name d.qual d.params d.body d.scope (d.dvs K) (d.kws K) (He.fAd K d.at_) fd :=
  c.defs d (List.mem_of_getElem? h)
theorem cal_of {CX : CXT} {k : Nat} {x : Str} {ps : List Str} {sp : Sp} {st : Stmt} {fd : FuncData} (F : FnS K x x st (He.ga K x) fd) (ok : FnOk P w K mg base CX k (He.ga K x) fd ps sp) (g : mg x = some (.ref (He.ga K x)))
    (b : ∀ (kV doc pm : Value) (an : Option Addr) (cdv ct : Value) (us : List Value), us.length = ps.length → bindArgs (PySem.W.fnOf x x (defArgs st) (defBody st) (defScope st) .none kV doc pm an cdv ct) ⟨us, []⟩ = pure (ps.zip us)) :
    Cal P w K mg base CX k x ps sp := ⟨He.ga K x, fd, ok, g, F.kp, F.bindsN b⟩
end
end Bf
namespace Bf
open PySem PySem.Spec PyProof.Rows L2
end Bf
namespace Dz
open PySem PySem.Spec PyProof.Rows L2 Evl Bf
inductive D where
  | non | bl (b : Bool) | int (i : Int) | str (s : Str)
  | lst (xs : List D) | tup (xs : List D) | dic (kvs : List (Key × D))
  | ins (c : Str) (fs : List (Str × D))
  | ty (n : String) | cls (c : Str) | scr (ns : List Int) | exc (a dd : Addr) (c : Str) (fs : List (Str × D)) | well (k : Nat) | fam (names : List Str) (src : D) (g : Str) | dit (kvs : List (List Key × V))
def Well3 (xs : List V) : Prop := ∃ i j k : Int, xs = [.int i, .int j, .int k]
def Well4 (xs : List V) : Prop := ∃ n i j k : Int, xs = [.int n, .int i, .int j, .int k] ∧ 0 ≤ n
abbrev wst (s : Addr) (n i j k l : Int) : List V := [.ref s, .int n, .int i, .int j, .int k, .int l]
def Well6 (s : Addr) (xs : List V) : Prop := ∃ n i j k l : Int, xs = wst s n i j k l ∧ 0 ≤ n
def WellK (H : Hp) (ow : Addr → Prop) (a : Addr) : Nat → Prop
  | 0 => H a = some (absL a Well3)
  | 1 => H a = some (absL a Well4)
  | _ => ∃ (s : Addr) (ns : List Int), H a = some (absL a (Well6 s)) ∧ H s = some (.lst (ns.map V.int)) ∧ ¬ ow s
def SqF (K : PySem.W.Frag) (H : Hp) (a : Addr) (vs : List V) : Prop := (∃ o, H a = some (.frz o (.lst vs))) ∨ ∃ (o : Obj) (its : Array Value) (n : Nat), K.lookup a = some o ∧ o.cls = .type "list" ∧ o.dict = none ∧ o.data = .seq its n ∧ its.size ≤ sizeLine ∧ Vals vs its.toList
theorem SqF.l {K : PySem.W.Frag} {H : Hp} {a : Addr} {vs : List V} (h : SqF K H a vs) : SqL K H a vs := h.elim (fun z => .inl (.inr z)) .inr
abbrev famO (K : PySem.W.Frag) (dx t s c : Addr) (g : Str) : HO := .ins (He.ga K "Family") dx [("names", .ref t), ("source", .ref s), ("counted", .ref c), ("names", .str g)]
def isMemo (K : PySem.W.Frag) (H : Hp) (c : Addr) : Prop := ∃ (a dx t s : Addr) (g : Str), H a = some (famO K dx t s c g)
mutual
inductive Rep (K : PySem.W.Frag) (H : Hp) (ow : Addr → Prop) : V → D → Prop
  | non : Rep K H ow .non .non
  | bl (b : Bool) : Rep K H ow (.bl b) (.bl b)
  | int (i : Int) : Rep K H ow (.int i) (.int i)
  | str (s : Str) : Rep K H ow (.str s) (.str s)
  | lst {a : Addr} {vs : List V} {ds : List D} : H a = some (.lst vs) → ¬ ow a → RepL K H ow vs ds → Rep K H ow (.ref a) (.lst ds)
  | tup {a : Addr} {vs : List V} {ds : List D} : H a = some (.tup vs) → RepL K H ow vs ds → Rep K H ow (.ref a) (.tup ds)
  | dic {a : Addr} {vs : List (Key × V)} {ds : List (Key × D)} : Rd H a (.dK vs) → ¬ ow a → RepK K H ow vs ds → Rep K H ow (.ref a) (.dic ds)
  | ins {a dx : Addr} {c : Str} {vs : List (Str × V)} {ds : List (Str × D)} : H a = some (.ins (He.ga K c) dx vs) → ¬ ow a → RepF K H ow vs ds → Rep K H ow (.ref a) (.ins c ds)
  | ty (n : String) : Rep K H ow (.ty n) (.ty n)
  | cls (c : Str) : Rep K H ow (.ref (He.ga K c)) (.cls c)
  | scr {a : Addr} {ns : List Int} : SqF K H a (ns.map V.int) → Rep K H ow (.ref a) (.scr ns)
  | exc0 {a dd : Addr} {c : Str} : Rep K H ow (.ref a) (.exc a dd c [])
  | exc {a dd : Addr} {c : Str} {vs : List (Str × V)} {ds : List (Str × D)} : H dd = some (.xd vs) → RepF K H ow vs ds → Rep K H ow (.ref a) (.exc a dd c ds)
  | well {a : Addr} {k : Nat} : WellK H ow a k → ¬ ow a → Rep K H ow (.ref a) (.well k)
  | fam {a dx t s c : Addr} {ns : List Str} {d : D} {g : Str} : H a = some (famO K dx t s c g) → ¬ ow a → H t = some (.tup (ns.map V.str)) → Rep K H ow (.ref s) d → Rep K H ow (.ref a) (.fam ns d g)
  | dit {a : Addr} {kvs : List (List Key × V)} : H a = some (.dT kvs) → ¬ isMemo K H a → ¬ ow a → (kvs.all fun p => flatV p.2) = true → Rep K H ow (.ref a) (.dit kvs)
inductive RepL (K : PySem.W.Frag) (H : Hp) (ow : Addr → Prop) : List V → List D → Prop
  | nil : RepL K H ow [] []
  | cons {v : V} {vs : List V} {d : D} {ds : List D} : Rep K H ow v d → RepL K H ow vs ds → RepL K H ow (v :: vs) (d :: ds)
inductive RepK (K : PySem.W.Frag) (H : Hp) (ow : Addr → Prop) : List (Key × V) → List (Key × D) → Prop
  | nil : RepK K H ow [] []
  | cons {k : Key} {v : V} {vs : List (Key × V)} {d : D} {ds : List (Key × D)} : Rep K H ow v d → RepK K H ow vs ds → RepK K H ow ((k, v) :: vs) ((k, d) :: ds)
inductive RepF (K : PySem.W.Frag) (H : Hp) (ow : Addr → Prop) : List (Str × V) → List (Str × D) → Prop
  | nil : RepF K H ow [] []
  | cons {k : Str} {v : V} {vs : List (Str × V)} {d : D} {ds : List (Str × D)} : Rep K H ow v d → RepF K H ow vs ds → RepF K H ow ((k, v) :: vs) ((k, d) :: ds)
end
structure Mv (K : PySem.W.Frag) (H : Hp) (ow : Addr → Prop) (G : Hp) (ow' : Addr → Prop) : Prop where
  l : ∀ a vs, H a = some (.lst vs) → ¬ ow a → G a = some (.lst vs) ∧ ¬ ow' a
  r : ∀ a vs, SqF K H a vs → SqF K G a vs
  t : ∀ a vs, H a = some (.tup vs) → G a = some (.tup vs)
  d : ∀ a vs, Rd H a (.dK vs) → ¬ ow a → Rd G a (.dK vs) ∧ ¬ ow' a
  i : ∀ a C dx fs, H a = some (.ins C dx fs) → ¬ ow a → G a = some (.ins C dx fs) ∧ ¬ ow' a
  x : ∀ a vs, H a = some (.xd vs) → G a = some (.xd vs)
  w : ∀ a k, WellK H ow a k → ¬ ow a → WellK G ow' a k ∧ ¬ ow' a
  c : ∀ a kvs, H a = some (.dT kvs) → ¬ isMemo K H a → ¬ ow a → G a = some (.dT kvs) ∧ ¬ isMemo K G a ∧ ¬ ow' a
section
variable {K : PySem.W.Frag} {H G : Hp} {ow ow' : Addr → Prop}
mutual
theorem Rep.mv (m : Mv K H ow G ow') {v : V} {d : D} (h : Rep K H ow v d) : Rep K G ow' v d :=
  match h with
  | .non => .non
  | .bl b => .bl b
  | .int i => .int i
  | .str s => .str s
  | .lst a b c => .lst (m.l _ _ a b).1 (m.l _ _ a b).2 (RepL.mv m c)
  | .tup a c => .tup (m.t _ _ a) (RepL.mv m c)
  | .dic a b c => .dic (m.d _ _ a b).1 (m.d _ _ a b).2 (RepK.mv m c)
  | .ins a b c => .ins (m.i _ _ _ _ a b).1 (m.i _ _ _ _ a b).2 (RepF.mv m c)
  | .ty n => .ty n
  | .cls c => .cls c
  | .scr a => .scr (m.r _ _ a)
  | .exc0 => .exc0
  | .exc a b => .exc (m.x _ _ a) (RepF.mv m b)
  | .well a b => .well (m.w _ _ a b).1 (m.w _ _ a b).2
  | .fam a b c d => .fam (m.i _ _ _ _ a b).1 (m.i _ _ _ _ a b).2 (m.t _ _ c) (Rep.mv m d)
  | .dit a b c d => have z := m.c _ _ a b c; .dit z.1 z.2.1 z.2.2 d
theorem RepL.mv (m : Mv K H ow G ow') {vs : List V} {ds : List D} (h : RepL K H ow vs ds) : RepL K G ow' vs ds :=
  match h with
  | .nil => .nil
  | .cons a b => .cons (Rep.mv m a) (RepL.mv m b)
theorem RepK.mv (m : Mv K H ow G ow') {vs : List (Key × V)} {ds : List (Key × D)} (h : RepK K H ow vs ds) : RepK K G ow' vs ds :=
  match h with
  | .nil => .nil
  | .cons a b => .cons (Rep.mv m a) (RepK.mv m b)
theorem RepF.mv (m : Mv K H ow G ow') {vs : List (Str × V)} {ds : List (Str × D)} (h : RepF K H ow vs ds) : RepF K G ow' vs ds :=
  match h with
  | .nil => .nil
  | .cons a b => .cons (Rep.mv m a) (RepF.mv m b)
end
end
end Dz
namespace Dz
open PySem PySem.Spec PyProof.Rows L2 Evl Bf
def isIns : HO → Bool
  | .ins _ _ _ => true
  | _ => false
structure Th (K : PySem.W.Frag) where
  Ok : Hp → Prop
  Gr : Hp → Hp → Prop
  refl : ∀ H, Gr H H
  trans : ∀ {H G J : Hp}, Gr H G → Gr G J → Gr H J
  keep : ∀ {H G : Hp} {a : Addr} {o : HO}, Gr H G → H a = some o → (∀ kvs, o ≠ .dT kvs) → G a = some o
  keepT : ∀ {H G : Hp} {a : Addr} {kvs : List (List Key × V)}, Gr H G → H a = some (.dT kvs) → ∃ kvs', G a = some (.dT kvs')
  keepD : ∀ {H G : Hp} {a : Addr} {kvs : List (List Key × V)}, Gr H G → H a = some (.dT kvs) → ¬ isMemo K H a → G a = some (.dT kvs) ∧ ¬ isMemo K G a
  noMemo : ∀ {H : Hp} {p : Addr}, Ok H → H p = none → ¬ isMemo K H p
  new : ∀ {H : Hp} {p : Addr} {o : HO}, Ok H → H p = none → isIns o = false → Ok (upd H p o) ∧ Gr H (upd H p o)
  put : ∀ {H G : Hp} {p : Addr} {o o' : HO}, Gr H G → H p = none → Ok G → G p = some o → (∀ xs, o ≠ .tup xs) → (∀ kvs, o ≠ .dT kvs) → (∀ kvs, o' ≠ .dT kvs) → isIns o = false → isIns o' = false → Ok (upd G p o') ∧ Gr H (upd G p o')
  putD : ∀ {H G : Hp} {p : Addr} {kvs kvs' : List (List Key × V)}, Gr H G → H p = none → Ok G → G p = some (.dT kvs) → ¬ isMemo K G p → Ok (upd G p (.dT kvs')) ∧ Gr H (upd G p (.dT kvs'))
  make : ∀ {H : Hp} {y dy C : Addr}, Ok H → H y = none → H dy = none → dy ≠ y → Ok (upd (upd H dy (.own y)) y (.ins C dy [])) ∧ Gr H (upd (upd H dy (.own y)) y (.ins C dy []))
  fput : ∀ {H G : Hp} {y dy C : Addr} {fs fs' : List (Str × V)}, Gr H G → H y = none → Ok G → G y = some (.ins C dy fs) → C ≠ He.ga K "Family" → Ok (upd G y (.ins C dy fs')) ∧ Gr H (upd G y (.ins C dy fs'))
  bor : List Nat := []
namespace Th
variable {K : PySem.W.Frag} (T : Th K)
theorem back {H G : Hp} (g : T.Gr H G) {a : Addr} (h : G a = none) : H a = none := by
  cases e : H a with
  | none => rfl
  | some o =>
    by_cases c : ∃ kvs, o = .dT kvs
    · obtain ⟨kvs, rfl⟩ := c
      obtain ⟨k', z⟩ := T.keepT g e
      rw [z] at h; cases h
    · rw [T.keep g e fun kvs z => c ⟨kvs, z⟩] at h; cases h
theorem forth {H G : Hp} (g : T.Gr H G) {a : Addr} (h : H a ≠ none) : G a ≠ none := fun z => h (T.back g z)
end Th
theorem rd_gr {K : PySem.W.Frag} (T : Th K) {H G : Hp} (g : T.Gr H G) {a : Addr} {vs : List (Key × V)} (h : Rd H a (.dK vs)) : Rd G a (.dK vs) :=
  h.elim (fun z => .inl (T.keep g z fun _ q => by cases q)) fun ⟨o, z⟩ => .inr ⟨o, T.keep g z fun _ q => by cases q⟩
theorem rd_some {H : Hp} {a : Addr} {u : HO} (h : Rd H a u) : H a ≠ none := fun z => by
  rcases h with h | ⟨o, h⟩ <;> (rw [z] at h; cases h)
theorem rd_upd {H : Hp} {a p : Addr} {u o : HO} (ne : a ≠ p) (h : Rd H a u) : Rd (upd H p o) a u :=
  h.elim (fun z => .inl (by rw [upd_ne ne]; exact z)) fun ⟨ob, z⟩ => .inr ⟨ob, by rw [upd_ne ne]; exact z⟩
theorem rd_at {H : Hp} {a : Addr} {o : HO} {vs : List (Key × V)} (h : Rd H a (.dK vs)) (e : H a = some o) : o = .dK vs ∨ ∃ ob, o = .frz ob (.dK vs) := by
  rcases h with h | ⟨ob, h⟩
  · rw [e] at h; exact .inl (Option.some.inj h)
  · rw [e] at h; exact .inr ⟨ob, Option.some.inj h⟩
section
variable {K : PySem.W.Frag} {H G : Hp} {ow ow' : Addr → Prop}
theorem Mv.gr (T : Th K) (g : T.Gr H G) : Mv K H ow G ow where
  l := fun a vs h n => ⟨T.keep g h (fun _ z => by cases z), n⟩
  r := fun a vs h => by
    rcases h with ⟨o, h⟩ | h
    · exact .inl ⟨o, T.keep g h (fun _ z => by cases z)⟩
    · exact .inr h
  t := fun a vs h => T.keep g h fun _ z => by cases z
  d := fun a vs h n => ⟨rd_gr T g h, n⟩
  i := fun a C dx fs h n => ⟨T.keep g h (fun _ z => by cases z), n⟩
  x := fun a vs h => T.keep g h (fun _ z => by cases z)
  w := fun a k h n => ⟨by
    cases k with
    | zero => exact T.keep (o := absL a Well3) g h (fun _ z => by have z' : HO.ext _ = HO.dT _ := z; cases z')
    | succ k => cases k with
      | zero => exact T.keep (o := absL a Well4) g h (fun _ z => by have z' : HO.ext _ = HO.dT _ := z; cases z')
      | succ k =>
        obtain ⟨s, ns, h1, h2, h3⟩ := h
        exact ⟨s, ns, T.keep (o := absL a (Well6 s)) g h1 (fun _ z => by have z' : HO.ext _ = HO.dT _ := z; cases z'), T.keep g h2 (fun _ z => by cases z), h3⟩, n⟩
  c := fun a kvs h n w => ⟨(T.keepD g h n).1, (T.keepD g h n).2, w⟩
theorem Mv.less (h : ∀ a, ow' a → ow a) : Mv K H ow H ow' where
  l := fun a vs e n => ⟨e, fun z => n (h a z)⟩
  r := fun a vs e => e
  t := fun a vs e => e
  d := fun a vs e n => ⟨e, fun z => n (h a z)⟩
  i := fun a C dx fs e n => ⟨e, fun z => n (h a z)⟩
  x := fun a vs e => e
  w := fun a k e n => ⟨by
    cases k with
    | zero => exact e
    | succ k => cases k with
      | zero => exact e
      | succ k =>
        obtain ⟨s, ns, h1, h2, h3⟩ := e
        exact ⟨s, ns, h1, h2, fun z => h3 (h s z)⟩, fun z => n (h a z)⟩
  c := fun a kvs e m n => ⟨e, m, fun z => n (h a z)⟩
theorem Mv.more (h : ∀ a, ow' a → ow a ∨ H a = none) : Mv K H ow H ow' where
  l := fun a vs e n => ⟨e, fun z => (h a z).elim n fun q => by rw [q] at e; cases e⟩
  r := fun a vs e => e
  t := fun a vs e => e
  d := fun a vs e n => ⟨e, fun z => (h a z).elim n fun q => rd_some e q⟩
  i := fun a C dx fs e n => ⟨e, fun z => (h a z).elim n fun q => by rw [q] at e; cases e⟩
  x := fun a vs e => e
  w := fun a k e n => by
    cases k with
    | zero => exact ⟨e, fun z => (h a z).elim n fun q => by rw [show H a = _ from e] at q; cases q⟩
    | succ k => cases k with
      | zero => exact ⟨e, fun z => (h a z).elim n fun q => by rw [show H a = _ from e] at q; cases q⟩
      | succ k =>
        obtain ⟨s, ns, h1, h2, h3⟩ := e
        exact ⟨⟨s, ns, h1, h2, fun z => (h s z).elim h3 fun q => by rw [q] at h2; cases h2⟩, fun z => (h a z).elim n fun q => by rw [q] at h1; cases h1⟩
  c := fun a kvs e m n => ⟨e, m, fun z => (h a z).elim n fun q => by rw [q] at e; cases e⟩
theorem Mv.putA {p : Addr} {o o' : HO} (hp : H p = some o) (n1 : ∀ xs, o ≠ .tup xs) (n3 : ∀ ob u, o ≠ .frz ob u) (n7 : ∀ vs, o ≠ .xd vs)
    (own : ow p) (h : ∀ a, ow' a → ow a) (n8 : ∀ C dx fs, o' = .ins C dx fs → C ≠ He.ga K "Family" := by intro _ _ _ z; cases z) : Mv K H ow (upd H p o') ow' where
  l := fun a vs e n => ⟨by rw [upd_ne (fun z : a = p => n (z ▸ own))]; exact e, fun z => n (h a z)⟩
  r := fun a vs e => by
    rcases e with ⟨ob, e⟩ | e
    · exact .inl ⟨ob, by rw [upd_ne fun z => by rw [z, hp] at e; exact n3 _ _ (Option.some.inj e)]; exact e⟩
    · exact .inr e
  t := fun a vs e => by rw [upd_ne fun z => by rw [z, hp] at e; exact n1 _ (Option.some.inj e)]; exact e
  d := fun a vs e n => ⟨rd_upd (fun z : a = p => n (z ▸ own)) e, fun z => n (h a z)⟩
  i := fun a C dx fs e n => ⟨by rw [upd_ne (fun z : a = p => n (z ▸ own))]; exact e, fun z => n (h a z)⟩
  x := fun a vs e => by rw [upd_ne fun z => by rw [z, hp] at e; exact n7 _ (Option.some.inj e)]; exact e
  w := fun a k e n => ⟨by
    have np : a ≠ p := fun z => n (z ▸ own)
    cases k with
    | zero => show upd H p o' a = _; rw [upd_ne np]; exact e
    | succ k => cases k with
      | zero => show upd H p o' a = _; rw [upd_ne np]; exact e
      | succ k =>
        obtain ⟨s, ns, h1, h2, h3⟩ := e
        exact ⟨s, ns, by rw [upd_ne np]; exact h1, by rw [upd_ne (fun z : s = p => h3 (z ▸ own))]; exact h2, fun z => h3 (h s z)⟩, fun z => n (h a z)⟩
  c := fun a kvs e m n => ⟨by rw [upd_ne (fun z : a = p => n (z ▸ own))]; exact e, fun ⟨b, dx, t, s, g, q⟩ => by
    by_cases z : b = p
    · rw [z, upd_same] at q
      exact n8 _ _ _ (Option.some.inj q) rfl
    · rw [upd_ne z] at q
      exact m ⟨b, dx, t, s, g, q⟩, fun z => n (h a z)⟩
theorem Mv.put {p : Addr} {o o' : HO} (hp : H p = some o) (n1 : ∀ xs, o ≠ .tup xs) (n2 : ∀ kvs, o ≠ .dT kvs) (n3 : ∀ ob u, o ≠ .frz ob u) (n7 : ∀ vs, o ≠ .xd vs)
    (own : ow p) (h : ∀ a, ow' a → ow a) (n8 : ∀ C dx fs, o' = .ins C dx fs → C ≠ He.ga K "Family" := by intro _ _ _ z; cases z) : Mv K H ow (upd H p o') ow' := Mv.putA hp n1 n3 n7 own h n8
theorem memo_put {p : Addr} {o : HO} (n : ∀ C dx fs, o = .ins C dx fs → C ≠ He.ga K "Family") {c : Addr} (h : ¬ isMemo K H c) : ¬ isMemo K (upd H p o) c := fun ⟨b, dx, t, s, g, q⟩ => by
  by_cases z : b = p
  · rw [z, upd_same] at q
    exact n _ _ _ (Option.some.inj q) rfl
  · rw [upd_ne z] at q
    exact h ⟨b, dx, t, s, g, q⟩
theorem memo_put' {p : Addr} {o : HO} (n : isIns o = false) {c : Addr} (h : ¬ isMemo K H c) : ¬ isMemo K (upd H p o) c := memo_put (fun C dx fs e => by rw [e] at n; cases n) h
theorem keepD_put {p a : Addr} {o : HO} (ne : a ≠ p) (n : ∀ C dx fs, o = .ins C dx fs → C ≠ He.ga K "Family") {kvs : List (List Key × V)} (e : H a = some (.dT kvs)) (h : ¬ isMemo K H a) : (upd H p o) a = some (.dT kvs) ∧ ¬ isMemo K (upd H p o) a := ⟨by rw [upd_ne ne]; exact e, memo_put n h⟩
end
section
variable {K : PySem.W.Frag} {H G : Hp} {ow : Addr → Prop} {d : Addr} {ob : Obj} {vs : List (Key × V)}
theorem Mv.lock (hd : H d = some (.dK vs)) : Mv K H ow (upd H d (.frz ob (.dK vs))) ow where
  l := fun a xs e n => ⟨by rw [upd_ne fun z => by rw [z, hd] at e; cases e]; exact e, n⟩
  r := fun a xs e => by
    rcases e with ⟨o, e⟩ | e
    · exact .inl ⟨o, by rw [upd_ne fun z => by rw [z, hd] at e; cases e]; exact e⟩
    · exact .inr e
  t := fun a xs e => by rw [upd_ne fun z => by rw [z, hd] at e; cases e]; exact e
  d := fun a xs e n => ⟨by
    by_cases z : a = d
    · subst z
      rcases rd_at e hd with q | ⟨o, q⟩
      · cases q; exact .inr ⟨ob, upd_same⟩
      · cases q
    · exact rd_upd z e, n⟩
  i := fun a C dx fs e n => ⟨by rw [upd_ne fun z => by rw [z, hd] at e; cases e]; exact e, n⟩
  x := fun a xs e => by rw [upd_ne fun z => by rw [z, hd] at e; cases e]; exact e
  w := fun a k e n => ⟨by
    have ne : ∀ {b : Addr} {o : HO}, H b = some o → (∀ ks, o ≠ .dK ks) → b ≠ d := fun e n z => by
      rw [z, hd] at e
      exact n _ (Option.some.inj e).symm
    cases k with
    | zero => show upd H d _ a = _; rw [upd_ne (ne (o := absL a Well3) e fun _ z => by have z' : HO.ext _ = HO.dK _ := z; cases z')]; exact e
    | succ k => cases k with
      | zero => show upd H d _ a = _; rw [upd_ne (ne (o := absL a Well4) e fun _ z => by have z' : HO.ext _ = HO.dK _ := z; cases z')]; exact e
      | succ k =>
        obtain ⟨s, ns, h1, h2, h3⟩ := e
        exact ⟨s, ns, by rw [upd_ne (ne (o := absL a (Well6 s)) h1 fun _ z => by have z' : HO.ext _ = HO.dK _ := z; cases z')]; exact h1, by rw [upd_ne (ne h2 fun _ z => by cases z)]; exact h2, h3⟩, n⟩
  c := fun a kvs e m n => ⟨by rw [upd_ne fun z => by rw [z, hd] at e; cases e]; exact e, memo_put' rfl m, n⟩
theorem Mv.unlock (hd : G d = some (.frz ob (.dK vs))) : Mv K G ow (upd G d (.dK vs)) ow where
  l := fun a xs e n => ⟨by rw [upd_ne fun z => by rw [z, hd] at e; cases e]; exact e, n⟩
  r := fun a xs e => by
    rcases e with ⟨o, e⟩ | e
    · exact .inl ⟨o, by rw [upd_ne fun z => by rw [z, hd] at e; cases e]; exact e⟩
    · exact .inr e
  t := fun a xs e => by rw [upd_ne fun z => by rw [z, hd] at e; cases e]; exact e
  d := fun a xs e n => ⟨by
    by_cases z : a = d
    · subst z
      rcases rd_at e hd with q | ⟨o, q⟩
      · cases q
      · cases q; exact .inl upd_same
    · exact rd_upd z e, n⟩
  i := fun a C dx fs e n => ⟨by rw [upd_ne fun z => by rw [z, hd] at e; cases e]; exact e, n⟩
  x := fun a xs e => by rw [upd_ne fun z => by rw [z, hd] at e; cases e]; exact e
  w := fun a k e n => ⟨by
    have ne : ∀ {b : Addr} {o : HO}, G b = some o → (∀ oo u, o ≠ .frz oo u) → b ≠ d := fun e n z => by
      rw [z, hd] at e
      exact n _ _ (Option.some.inj e).symm
    cases k with
    | zero => show upd G d _ a = _; rw [upd_ne (ne (o := absL a Well3) e fun _ _ z => by have z' : HO.ext _ = HO.frz _ _ := z; cases z')]; exact e
    | succ k => cases k with
      | zero => show upd G d _ a = _; rw [upd_ne (ne (o := absL a Well4) e fun _ _ z => by have z' : HO.ext _ = HO.frz _ _ := z; cases z')]; exact e
      | succ k =>
        obtain ⟨s, ns, h1, h2, h3⟩ := e
        exact ⟨s, ns, by rw [upd_ne (ne (o := absL a (Well6 s)) h1 fun _ _ z => by have z' : HO.ext _ = HO.frz _ _ := z; cases z')]; exact h1, by rw [upd_ne (ne h2 fun _ _ z => by cases z)]; exact h2, h3⟩, n⟩
  c := fun a kvs e m n => ⟨by rw [upd_ne fun z => by rw [z, hd] at e; cases e]; exact e, memo_put' rfl m, n⟩
end
end Dz
namespace Dz
open PySem PySem.Spec PyProof.Rows L2 Evl Bf
structure Exc where
  cls : Str
  fs : List (Str × D)
abbrev Ro := List (Option D)
abbrev XQ := Exc → Prop
abbrev DX := Ro → (D → Prop) → XQ → Prop
abbrev DA := Ro → (List D → Prop) → XQ → Prop
abbrev DT := Ro → (Bool → Prop) → XQ → Prop
abbrev DF := List D → (D → Prop) → XQ → Prop
def owOf (ow0 : Addr → Prop) (O : List Nat) (σ : L2.St) : Addr → Prop := fun a => ow0 a ∨ ∃ i ∈ O, σ[i]? = some (some (.ref a))
inductive OwnR (K : PySem.W.Frag) (H : Hp) (ow : Addr → Prop) : Addr → D → Prop
  | lst {a : Addr} {vs : List V} {ds : List D} : H a = some (.lst vs) → RepL K H ow vs ds → OwnR K H ow a (.lst ds)
  | dic {a : Addr} {vs : List (Key × V)} {ds : List (Key × D)} : H a = some (.dK vs) → RepK K H ow vs ds → OwnR K H ow a (.dic ds)
  | ins {a dx : Addr} {c : Str} {vs : List (Str × V)} {ds : List (Str × D)} : H a = some (.ins (He.ga K c) dx vs) → RepF K H ow vs ds → OwnR K H ow a (.ins c ds)
  | dit {a : Addr} {kvs : List (List Key × V)} : H a = some (.dT kvs) → ¬ isMemo K H a → (kvs.all fun p => flatV p.2) = true → OwnR K H ow a (.dit kvs)
def RepO (K : PySem.W.Frag) (H : Hp) (ow : Addr → Prop) (v : V) (d : D) : Prop := Rep K H ow v d ∨ ∃ a, v = .ref a ∧ OwnR K H ow a d
def XRep (K : PySem.W.Frag) (G : Hp) (ow : Addr → Prop) : Option Addr → Exc → Prop
  | some d, x => x.fs ≠ [] ∧ ∃ fvs, G d = some (.xd fvs) ∧ RepF K G ow fvs x.fs
  | none, x => x.fs = []
mutual
inductive Own (K : PySem.W.Frag) (H : Hp) (ow : Addr → Prop) : List Addr → V → D → Prop
  | leaf {v : V} {d : D} : Rep K H ow v d → Own K H ow [] v d
  | lst {a : Addr} {vs : List V} {ds : List D} {fp : List Addr} : H a = some (.lst vs) → OwnL K H ow fp vs ds → Own K H ow (a :: fp) (.ref a) (.lst ds)
  | tup {a : Addr} {vs : List V} {ds : List D} {fp : List Addr} : H a = some (.tup vs) → OwnL K H ow fp vs ds → Own K H ow fp (.ref a) (.tup ds)
  | dic {a : Addr} {vs : List (Key × V)} {ds : List (Key × D)} {fp : List Addr} : H a = some (.dK vs) → OwnK K H ow fp vs ds → Own K H ow (a :: fp) (.ref a) (.dic ds)
  | ins {a dx : Addr} {c : Str} {vs : List (Str × V)} {ds : List (Str × D)} {fp : List Addr} : H a = some (.ins (He.ga K c) dx vs) → OwnF K H ow fp vs ds → Own K H ow (a :: fp) (.ref a) (.ins c ds)
inductive OwnL (K : PySem.W.Frag) (H : Hp) (ow : Addr → Prop) : List Addr → List V → List D → Prop
  | nil : OwnL K H ow [] [] []
  | cons {f g : List Addr} {v : V} {vs : List V} {d : D} {ds : List D} : Own K H ow f v d → OwnL K H ow g vs ds → OwnL K H ow (f ++ g) (v :: vs) (d :: ds)
inductive OwnK (K : PySem.W.Frag) (H : Hp) (ow : Addr → Prop) : List Addr → List (Key × V) → List (Key × D) → Prop
  | nil : OwnK K H ow [] [] []
  | cons {f g : List Addr} {k : Key} {v : V} {vs : List (Key × V)} {d : D} {ds : List (Key × D)} : Own K H ow f v d → OwnK K H ow g vs ds → OwnK K H ow (f ++ g) ((k, v) :: vs) ((k, d) :: ds)
inductive OwnF (K : PySem.W.Frag) (H : Hp) (ow : Addr → Prop) : List Addr → List (Str × V) → List (Str × D) → Prop
  | nil : OwnF K H ow [] [] []
  | cons {f g : List Addr} {k : Str} {v : V} {vs : List (Str × V)} {d : D} {ds : List (Str × D)} : Own K H ow f v d → OwnF K H ow g vs ds → OwnF K H ow (f ++ g) ((k, v) :: vs) ((k, d) :: ds)
end
def Keeps (H G : Hp) (fp : List Addr) : Prop := ∀ a ∈ fp, ∀ o, H a = some o → (∀ kvs, o ≠ .dT kvs) → G a = some o
theorem Keeps.hd {H G : Hp} {a : Addr} {fp : List Addr} (h : Keeps H G (a :: fp)) {o : HO} (e : H a = some o) (n : ∀ kvs, o ≠ .dT kvs) : G a = some o := h a List.mem_cons_self o e n
theorem Keeps.tl {H G : Hp} {a : Addr} {fp : List Addr} (h : Keeps H G (a :: fp)) : Keeps H G fp := fun b hb => h b (List.mem_cons_of_mem _ hb)
theorem Keeps.l {H G : Hp} {f g : List Addr} (h : Keeps H G (f ++ g)) : Keeps H G f := fun b hb => h b (List.mem_append_left _ hb)
theorem Keeps.r {H G : Hp} {f g : List Addr} (h : Keeps H G (f ++ g)) : Keeps H G g := fun b hb => h b (List.mem_append_right _ hb)
section
variable {K : PySem.W.Frag} {H G : Hp} {ow ow' : Addr → Prop}
mutual
theorem Own.mv (m : Mv K H ow G ow') {fp : List Addr} {v : V} {d : D} (h : Own K H ow fp v d) (k : Keeps H G fp) : Own K G ow' fp v d :=
  match h, k with
  | .leaf r, _ => .leaf (r.mv m)
  | .lst a b, k => .lst (k.hd a fun _ z => by cases z) (OwnL.mv m b k.tl)
  | .tup a b, k => .tup (m.t _ _ a) (OwnL.mv m b k)
  | .dic a b, k => .dic (k.hd a fun _ z => by cases z) (OwnK.mv m b k.tl)
  | .ins a b, k => .ins (k.hd a fun _ z => by cases z) (OwnF.mv m b k.tl)
theorem OwnL.mv (m : Mv K H ow G ow') {fp : List Addr} {vs : List V} {ds : List D} (h : OwnL K H ow fp vs ds) (k : Keeps H G fp) : OwnL K G ow' fp vs ds :=
  match h, k with
  | .nil, _ => .nil
  | .cons a b, k => .cons (Own.mv m a k.l) (OwnL.mv m b k.r)
theorem OwnK.mv (m : Mv K H ow G ow') {fp : List Addr} {vs : List (Key × V)} {ds : List (Key × D)} (h : OwnK K H ow fp vs ds) (k : Keeps H G fp) : OwnK K G ow' fp vs ds :=
  match h, k with
  | .nil, _ => .nil
  | .cons a b, k => .cons (Own.mv m a k.l) (OwnK.mv m b k.r)
theorem OwnF.mv (m : Mv K H ow G ow') {fp : List Addr} {vs : List (Str × V)} {ds : List (Str × D)} (h : OwnF K H ow fp vs ds) (k : Keeps H G fp) : OwnF K G ow' fp vs ds :=
  match h, k with
  | .nil, _ => .nil
  | .cons a b, k => .cons (Own.mv m a k.l) (OwnF.mv m b k.r)
end
mutual
theorem Own.rep (s : ∀ a, ow' a → ow a) {fp : List Addr} {v : V} {d : D} (h : Own K H ow fp v d) (n : ∀ a ∈ fp, ¬ ow' a) : Rep K H ow' v d :=
  match h, n with
  | .leaf r, _ => r.mv (Mv.less s)
  | .lst a b, n => .lst a (n _ List.mem_cons_self) (OwnL.rep s b fun x hx => n x (List.mem_cons_of_mem _ hx))
  | .tup a b, n => .tup a (OwnL.rep s b n)
  | .dic a b, n => .dic (.inl a) (n _ List.mem_cons_self) (OwnK.rep s b fun x hx => n x (List.mem_cons_of_mem _ hx))
  | .ins a b, n => .ins a (n _ List.mem_cons_self) (OwnF.rep s b fun x hx => n x (List.mem_cons_of_mem _ hx))
theorem OwnL.rep (s : ∀ a, ow' a → ow a) {fp : List Addr} {vs : List V} {ds : List D} (h : OwnL K H ow fp vs ds) (n : ∀ a ∈ fp, ¬ ow' a) : RepL K H ow' vs ds :=
  match h, n with
  | .nil, _ => .nil
  | .cons a b, n => .cons (Own.rep s a fun x hx => n x (List.mem_append_left _ hx)) (OwnL.rep s b fun x hx => n x (List.mem_append_right _ hx))
theorem OwnK.rep (s : ∀ a, ow' a → ow a) {fp : List Addr} {vs : List (Key × V)} {ds : List (Key × D)} (h : OwnK K H ow fp vs ds) (n : ∀ a ∈ fp, ¬ ow' a) : RepK K H ow' vs ds :=
  match h, n with
  | .nil, _ => .nil
  | .cons a b, n => .cons (Own.rep s a fun x hx => n x (List.mem_append_left _ hx)) (OwnK.rep s b fun x hx => n x (List.mem_append_right _ hx))
theorem OwnF.rep (s : ∀ a, ow' a → ow a) {fp : List Addr} {vs : List (Str × V)} {ds : List (Str × D)} (h : OwnF K H ow fp vs ds) (n : ∀ a ∈ fp, ¬ ow' a) : RepF K H ow' vs ds :=
  match h, n with
  | .nil, _ => .nil
  | .cons a b, n => .cons (Own.rep s a fun x hx => n x (List.mem_append_left _ hx)) (OwnF.rep s b fun x hx => n x (List.mem_append_right _ hx))
end
mutual
theorem Own.trk {fp : List Addr} {v : V} {d : D} (h : Own K H ow fp v d) : ∀ a ∈ fp, H a ≠ none :=
  match h with
  | .leaf r => fun _ z => absurd z List.not_mem_nil
  | .lst a b => fun x hx => (List.mem_cons.mp hx).elim (fun e => by rw [e, a]; exact fun z => by cases z) (OwnL.trk b x)
  | .tup a b => OwnL.trk b
  | .dic a b => fun x hx => (List.mem_cons.mp hx).elim (fun e => by rw [e, a]; exact fun z => by cases z) (OwnK.trk b x)
  | .ins a b => fun x hx => (List.mem_cons.mp hx).elim (fun e => by rw [e, a]; exact fun z => by cases z) (OwnF.trk b x)
theorem OwnL.trk {fp : List Addr} {vs : List V} {ds : List D} (h : OwnL K H ow fp vs ds) : ∀ a ∈ fp, H a ≠ none :=
  match h with
  | .nil => fun _ z => absurd z List.not_mem_nil
  | .cons a b => fun x hx => (List.mem_append.mp hx).elim (Own.trk a x) (OwnL.trk b x)
theorem OwnK.trk {fp : List Addr} {vs : List (Key × V)} {ds : List (Key × D)} (h : OwnK K H ow fp vs ds) : ∀ a ∈ fp, H a ≠ none :=
  match h with
  | .nil => fun _ z => absurd z List.not_mem_nil
  | .cons a b => fun x hx => (List.mem_append.mp hx).elim (Own.trk a x) (OwnK.trk b x)
theorem OwnF.trk {fp : List Addr} {vs : List (Str × V)} {ds : List (Str × D)} (h : OwnF K H ow fp vs ds) : ∀ a ∈ fp, H a ≠ none :=
  match h with
  | .nil => fun _ z => absurd z List.not_mem_nil
  | .cons a b => fun x hx => (List.mem_append.mp hx).elim (Own.trk a x) (OwnF.trk b x)
end
end
def dp : Nat := 1000
def dq : Nat := 2000
def vis (O : List Nat) (i : Nat) : Bool := !O.contains i && !O.contains (i + dp)
def fre (O : List Nat) (i : Nat) : Bool := vis O i && !O.contains (i + dq)
theorem vis_of {O : List Nat} {i : Nat} (h : vis O i = true) : i ∉ O ∧ i + dp ∉ O := by
  obtain ⟨h1, h2⟩ := Bool.and_eq_true_iff.mp h
  exact ⟨by simpa using h1, by simpa using h2⟩
theorem fre_of {O : List Nat} {i : Nat} (h : fre O i = true) : i ∉ O ∧ i + dp ∉ O := vis_of (Bool.and_eq_true_iff.mp h).1
theorem fre_q {O : List Nat} {i : Nat} (h : fre O i = true) : i + dq ∉ O := by
  obtain ⟨h1, h2⟩ := Bool.and_eq_true_iff.mp h
  simpa using h2
abbrev tt : Addr → Prop := fun _ => True
def DpAt (K : PySem.W.Frag) (H : Hp) (ow0 iw : Addr → Prop) (rg : Addr → Nat) (i : Nat) (so : Option (Option V)) (ro : Option (Option D)) : Prop :=
  ∃ v d fp, ro = some (some d) ∧ so = some (some v) ∧ Own K H tt fp v d ∧ fp.Nodup ∧ ∀ a ∈ fp, ow0 a ∧ rg a = i ∧ ¬ iw a
theorem DpAt.mv {K : PySem.W.Frag} {H G : Hp} {ow0 ow1 iw iw' : Addr → Prop} {rg : Addr → Nat} {i : Nat} {so : Option (Option V)} {ro : Option (Option D)} (h : DpAt K H ow0 iw rg i so ro) (m : Mv K H tt G tt) (hn : ∀ a, ow0 a → ¬ iw a → ∀ o, H a = some o → (∀ kvs, o ≠ .dT kvs) → G a = some o)
    (h0 : ∀ a, ow0 a → rg a = i → ¬ iw a → ow1 a ∧ ¬ iw' a) : DpAt K G ow1 iw' rg i so ro := by
  obtain ⟨v, d, fp, h1, h2, h3, h4, h5⟩ := h
  exact ⟨v, d, fp, h1, h2, h3.mv m fun a ha o z n => hn a (h5 a ha).1 (h5 a ha).2.2 o z n, h4, fun a ha => have ⟨z1, z2, z3⟩ := h5 a ha; ⟨(h0 a z1 z2 z3).1, z2, (h0 a z1 z2 z3).2⟩⟩
structure Fr where
  vd : List (V × D) := []
  iw : Addr → Prop := fun _ => True
  p0 : Option V := none
  pin : List (Nat × Addr) := []
structure ER (K : PySem.W.Frag) (H : Hp) (ow0 : Addr → Prop) (fr : Fr) (O : List Nat) (σ : L2.St) (ρ : Ro) : Prop where
  val : ∀ i d, ρ[i]? = some (some d) → i ∉ O → i + dp ∉ O → ∃ v, σ[i]? = some (some v) ∧ Rep K H (owOf ow0 O σ) v d
  own : ∀ i, i ∈ O → i < dp → ∃ a d, ρ[i]? = some (some d) ∧ σ[i]? = some (some (.ref a)) ∧ ¬ ow0 a ∧ OwnR K H (owOf ow0 O σ) a d ∧ ∀ j ∈ O, σ[j]? = some (some (.ref a)) → j = i
  frm : ∀ p ∈ fr.vd, Rep K H (owOf ow0 O σ) p.1 p.2
  dep : ∃ rg : Addr → Nat, ∀ i, i < dp → i + dp ∈ O → DpAt K H ow0 fr.iw rg i σ[i]? ρ[i]?
  nwq : ∀ i, i + dq ∈ O → ∃ v d, ρ[i]? = some (some d) ∧ σ[i]? = some (some v) ∧ Rep K H (fun a => owOf ow0 O σ a ∨ fr.iw a) v d
  trk : ∀ a, ow0 a → H a ≠ none
  len : ρ.length = σ.length
  slt : ∀ v, fr.p0 = some v → 0 ∈ O ∨ dp ∈ O ∨ dq ∈ O → σ[0]? = some (some v)
  sml : σ.length ≤ dp
section
variable {K : PySem.W.Frag} {H G : Hp} {ow ow' ow0 : Addr → Prop} {fr : Fr} {O : List Nat} {σ : L2.St} {ρ : Ro}
theorem OwnR.mv (m : Mv K H ow G ow') {a : Addr} {d : D} (hl : ∀ o, H a = some o → (∀ kvs, o ≠ .dT kvs) → G a = some o) (h : OwnR K H ow a d)
    (hl2 : ∀ kvs, H a = some (.dT kvs) → ¬ isMemo K H a → G a = some (.dT kvs) ∧ ¬ isMemo K G a := by first | exact fun _ z n => ⟨z, n⟩ | exact fun _ z n => Th.keepD _ (by assumption) z n) : OwnR K G ow' a d := by
  cases h with
  | lst h1 h2 => exact .lst (hl _ h1 fun _ z => by cases z) (h2.mv m)
  | dic h1 h2 => exact .dic (hl _ h1 fun _ z => by cases z) (h2.mv m)
  | ins h1 h2 => exact .ins (hl _ h1 fun _ z => by cases z) (h2.mv m)
  | dit h1 h2 h3 => exact .dit (hl2 _ h1 h2).1 (hl2 _ h1 h2).2 h3
theorem OwnR.trk {a : Addr} {d : D} (h : OwnR K H ow a d) : H a ≠ none := by
  cases h with
  | lst h1 => rw [h1]; exact fun z => by cases z
  | dic h1 => rw [h1]; exact fun z => by cases z
  | ins h1 => rw [h1]; exact fun z => by cases z
  | dit h1 => rw [h1]; exact fun z => by cases z
theorem Rep.gr (T : Th K) (g : T.Gr H G) {v : V} {d : D} (h : Rep K H ow v d) : Rep K G ow v d := h.mv (Mv.gr T g)
theorem RepL.gr (T : Th K) (g : T.Gr H G) {v : List V} {d : List D} (h : RepL K H ow v d) : RepL K G ow v d := h.mv (Mv.gr T g)
theorem RepO.gr (T : Th K) (g : T.Gr H G) {v : V} {d : D} (h : RepO K H ow v d) : RepO K G ow v d := by
  rcases h with h | ⟨a, e, h⟩
  · exact .inl (h.gr T g)
  · exact .inr ⟨a, e, h.mv (Mv.gr T g) fun o z n => T.keep g z n⟩
theorem Rep.o {v : V} {d : D} (h : Rep K H ow v d) : RepO K H ow v d := .inl h
theorem ER.gr (T : Th K) (g : T.Gr H G) (e : ER K H ow0 fr O σ ρ) : ER K G ow0 fr O σ ρ where
  val := fun i d h n m => let ⟨v, h1, h2⟩ := e.val i d h n m; ⟨v, h1, h2.gr T g⟩
  own := fun i h l => let ⟨a, d, h1, h2, h3, h4, h5⟩ := e.own i h l; ⟨a, d, h1, h2, h3, h4.mv (Mv.gr T g) fun o z n => T.keep g z n, h5⟩
  frm := fun p hp => (e.frm p hp).gr T g
  dep := let ⟨rg, h⟩ := e.dep; ⟨rg, fun i l hi => (h i l hi).mv (Mv.gr T g) (fun a _ _ o z n => T.keep g z n) fun a z _ n => ⟨z, n⟩⟩
  nwq := fun i hi => let ⟨v, d, h1, h2, h3⟩ := e.nwq i hi; ⟨v, d, h1, h2, h3.gr T g⟩
  trk := fun a h => T.forth g (e.trk a h)
  len := e.len
  slt := e.slt
  sml := e.sml
theorem ER.lt (e : ER K H ow0 fr O σ ρ) {i : Nat} {d : D} (h : ρ[i]? = some (some d)) : i < dp := by
  have h1 := (List.getElem?_eq_some_iff.mp h).1
  have h2 := e.sml
  rw [e.len] at h1
  omega
theorem ER.ltS (e : ER K H ow0 fr O σ ρ) {i : Nat} {v : V} (h : σ[i]? = some (some v)) : i < dp := by
  have h1 := (List.getElem?_eq_some_iff.mp h).1
  have h2 := e.sml
  omega
theorem ER.otrk (e : ER K H ow0 fr O σ ρ) : ∀ a, owOf ow0 O σ a → H a ≠ none := fun a h => by
  rcases h with h | ⟨i, hi, h⟩
  · exact e.trk a h
  · obtain ⟨b, d, _, h2, _, h4, _⟩ := e.own i hi (e.ltS h)
    rw [h] at h2
    cases h2
    exact h4.trk
end
section
variable {K : PySem.W.Frag} (T : Th K) (W : WX) (O : List Nat)
def XOk (H : Hp) (ow : Addr → Prop) (σ : L2.St) (Ax : XQ) : Prop := ∀ x d G, Ax x → T.Ok G → T.Gr H G → XRep K G ow d x → W (.ref (He.ga K x.cls)) d σ G
def eOf (φ : DX) : TE := fun σ H Q => ∃ ρ ow0 fr A Ax, T.Ok H ∧ ER K H ow0 fr O σ ρ ∧ φ ρ A Ax ∧ (∀ d v G, A d → T.Ok G → T.Gr H G → Rep K G (owOf ow0 O σ) v d → Q v G) ∧ XOk T W H (owOf ow0 O σ) σ Ax
def eoOf (φ : DX) : TE := fun σ H Q => ∃ ρ ow0 fr A Ax, T.Ok H ∧ ER K H ow0 fr O σ ρ ∧ φ ρ A Ax ∧ (∀ d v G, A d → T.Ok G → T.Gr H G → RepO K G (owOf ow0 O σ) v d → Q v G) ∧ XOk T W H (owOf ow0 O σ) σ Ax
def aOf (n : Nat) (φ : DA) : TA := fun σ H Q => ∃ ρ ow0 fr A Ax, T.Ok H ∧ ER K H ow0 fr O σ ρ ∧ φ ρ A Ax ∧ (∀ ds vs G, A ds → vs.length = n → T.Ok G → T.Gr H G → RepL K G (owOf ow0 O σ) vs ds → Q vs G) ∧ XOk T W H (owOf ow0 O σ) σ Ax
def aoOf (φ : DA) : TA := fun σ H Q => ∃ ρ ow0 fr A Ax, T.Ok H ∧ ER K H ow0 fr O σ ρ ∧ φ ρ A Ax ∧ (∀ ds vs G, A ds → T.Ok G → T.Gr H G → Paired (RepO K G (owOf ow0 O σ)) vs ds → Q vs G) ∧ XOk T W H (owOf ow0 O σ) σ Ax
def tOf (φ : DT) : TT := fun σ H Q => ∃ ρ ow0 fr A Ax, T.Ok H ∧ ER K H ow0 fr O σ ρ ∧ φ ρ A Ax ∧ (∀ b G, A b → T.Ok G → T.Gr H G → Q b G) ∧ XOk T W H (owOf ow0 O σ) σ Ax
end
theorem XOk.gr {K : PySem.W.Frag} {T : Th K} {W : WX} {H G : Hp} {ow : Addr → Prop} {σ : L2.St} {Ax : XQ} (g : T.Gr H G) (h : XOk T W H ow σ Ax) : XOk T W G ow σ Ax := fun x d J a o g' r => h x d J a o (T.trans g g') r
theorem peI {X : Cx} {e : Expr} {t t' : TE} (h : PE X e t) (i : ∀ σ H Q, t' σ H Q → t σ H Q) : PE X e t' := ⟨fun pins s σ H Q I q => h.run pins s σ H Q I (i σ H Q q)⟩
theorem ptI {X : Cx} {e : Expr} {t t' : TT} (h : PT X e t) (i : ∀ σ H Q, t' σ H Q → t σ H Q) : PT X e t' := ⟨fun pins s σ H Q I q => h.run pins s σ H Q I (i σ H Q q)⟩
theorem pwI {X : Cx} {e : Expr} {t t' : TT} (h : PW X e t) (i : ∀ σ H Q, t' σ H Q → t σ H Q) : PW X e t' := ⟨fun wh pins s σ H Q I q => h.run wh pins s σ H Q I (i σ H Q q)⟩
theorem paI {X : Cx} {e : List Expr} {t t' : TA} (h : PA X e t) (i : ∀ σ H Q, t' σ H Q → t σ H Q) : PA X e t' := ⟨fun pos pins s σ H Q I q => h.run pos pins s σ H Q I (i σ H Q q)⟩
theorem psI {X : Cx} {st : Stmt} {t t' : TS} (h : PS X st t) (i : ∀ D σ H, t' D σ H → t D σ H) : PS X st t' := ⟨fun pins s σ H D I q => h.run pins s σ H D I (i D σ H q)⟩
theorem pssI {X : Cx} {st : List Stmt} {t t' : TS} (h : PSs X st t) (i : ∀ D σ H, t' D σ H → t D σ H) : PSs X st t' := ⟨fun pins s σ H D I q => h.run pins s σ H D I (i D σ H q)⟩
def xVar (i : Nat) : DX := fun ρ A _ => ∃ d, ρ[i]? = some (some d) ∧ A d
def xC (d : D) : DX := fun _ A _ => A d
section
variable {X : Cx} {T : Th X.K} {W : WX} {O : List Nat} {e a b : Expr} {φ φa φb : DX} {pos : Pos}
theorem be_o (h : PE X e (eOf T W O φ)) : PE X e (eoOf T W O φ) := peI h fun σ H Q ⟨ρ, ow0, fr, A, Ax, ok, er, q, k, x⟩ => ⟨ρ, ow0, fr, A, Ax, ok, er, q, fun d v G a o g r => k d v G a o g (.inl r), x⟩
theorem be_var {i : Nat} {x : Str} (hN : X.N[i]? = some x) (hv : Vis X.env.scope x) (hO : vis O i = true) (hd : (x == ("__debug__" : Str)) = false := by decide) (hcd : (x == ("__classdict__" : Str)) = false := by decide) :
    PE X (.Name x pos) (eOf T W O (xVar i)) := peI (pe_var hN hv hd hcd) fun σ H Q ⟨ρ, ow0, fr, A, Ax, ok, er, ⟨d, h1, h2⟩, k, _⟩ => by
  obtain ⟨v, e1, r⟩ := er.val i d h1 (vis_of hO).1 (vis_of hO).2
  exact ⟨v, e1, k d v H h2 ok (T.refl H) r⟩
theorem bo_var {i : Nat} {x : Str} (hN : X.N[i]? = some x) (hv : Vis X.env.scope x) (hO : O.contains i = true) (hd : (x == ("__debug__" : Str)) = false := by decide) (hcd : (x == ("__classdict__" : Str)) = false := by decide) :
    PE X (.Name x pos) (eoOf T W O (xVar i)) := peI (pe_var hN hv hd hcd) fun σ H Q ⟨ρ, ow0, fr, A, Ax, ok, er, ⟨d, h1, h2⟩, k, _⟩ => by
  obtain ⟨a, d', e1, e2, _, r, _⟩ := er.own i (by simpa using hO) (er.lt h1)
  rw [h1] at e1
  cases e1
  exact ⟨.ref a, e2, k d (.ref a) H h2 ok (T.refl H) (.inr ⟨a, rfl, r⟩)⟩
theorem c_aux {v : V} {d : D} (h : ∀ H ow, Rep X.K H ow v d) (p : PE X e (tC v)) : PE X e (eOf T W O (xC d)) :=
  peI p fun σ H Q ⟨ρ, ow0, fr, A, Ax, ok, er, q, k, _⟩ => k d v H q ok (T.refl H) (h H _)
theorem be_int {i j pos} : PE X (.Constant (.int i) j pos) (eOf T W O (xC (.int i))) := c_aux (fun _ _ => .int i) pe_int
theorem be_bl {b j pos} : PE X (.Constant (.bool b) j pos) (eOf T W O (xC (.bl b))) := c_aux (fun _ _ => .bl b) pe_bl
theorem be_non {j pos} : PE X (.Constant .none j pos) (eOf T W O (xC .non)) := c_aux (fun _ _ => .non) pe_non
theorem be_str {x j pos} : PE X (.Constant (.str x) j pos) (eOf T W O (xC (.str x))) := c_aux (fun _ _ => .str x) pe_str
theorem be_gi {x : Str} {i : Int} (h : ∃ t, X.mg x = some (.int i t)) (hg : Gl X x := by rfl) (hn : x ≠ "__name__" := by decide) (hd : (x == ("__debug__" : Str)) = false := by decide) : PE X (.Name x pos) (eOf T W O (xC (.int i))) := c_aux (fun _ _ => .int i) (pe_gi h hg hn hd)
theorem be_gs {x : Str} {i : Str} (h : ∃ t, X.mg x = some (.str i t)) (hg : Gl X x := by rfl) (hn : x ≠ "__name__" := by decide) (hd : (x == ("__debug__" : Str)) = false := by decide) : PE X (.Name x pos) (eOf T W O (xC (.str i))) := c_aux (fun _ _ => .str i) (pe_gs h hg hn hd)
theorem be_ty {x : Str} {n : String} (hg : Gl X x) (hm : X.mg x = none) (hv : bootBuiltins x = some (.type n)) (hn : x ≠ "__name__" := by decide) (hd : (x == ("__debug__" : Str)) = false := by decide) : PE X (.Name x pos) (eOf T W O (xC (.ty n))) :=
  c_aux (fun _ _ => .ty n) (pe_bltn (v := .ty n) hg hm hv rfl hn hd)
def xOp1 (g : D → Option D) (φa : DX) : DX := fun ρ A Ax => φa ρ (fun x => ∃ z, g x = some z ∧ A z) Ax
def xOp2 (g : D → D → Option D) (φa φb : DX) : DX := fun ρ A Ax => φa ρ (fun x => φb ρ (fun y => ∃ z, g x y = some z ∧ A z) Ax) Ax
def OpD (T : Th X.K) (r : R2) (g : D → D → Option D) : Prop := ∀ (H : Hp) (ow : Addr → Prop) (x y : V) (d e z : D) (Q : VK), T.Ok H → (∀ a, ow a → H a ≠ none) → RepO X.K H ow x d → RepO X.K H ow y e → g d e = some z →
  (∀ v G, T.Ok G → T.Gr H G → Rep X.K G ow v z → Q v G) → r x y H Q
theorem op2_aux {r : R2} {g : D → D → Option D} (hg : OpD T r g) {σ : L2.St} {H : Hp} {Q : VK} (h : eOf T W O (xOp2 g φa φb) σ H Q) : tOp r (eoOf T W O φa) (eoOf T W O φb) σ H Q := by
  obtain ⟨ρ, ow0, fr, A, Ax, ok, er, q, k, x⟩ := h
  refine ⟨ρ, ow0, fr, _, Ax, ok, er, q, fun d v G qd okG gG rv => ?_, x⟩
  refine ⟨ρ, ow0, fr, _, Ax, okG, er.gr T gG, qd, fun d' v' G' ⟨z, ez, qz⟩ okG' gG' rv' => ?_, x.gr gG⟩
  exact hg G' (owOf ow0 O σ) v v' d d' z Q okG' ((er.gr T gG).gr T gG').otrk (rv.gr T gG') rv' ez fun u J okJ gJ ru => k z u J qz okJ (T.trans gG (T.trans gG' gJ)) ru
theorem be_op {op : Operator} {r : R2} {g : D → D → Option D} (hr : OpR X (binaryOp op) r) (hg : OpD T r g) (ha : PE X a (eoOf T W O φa)) (hb : PE X b (eoOf T W O φb)) : PE X (.BinOp a op b pos) (eOf T W O (xOp2 g φa φb)) :=
  peI (pe_op hr ha hb) fun _ _ _ h => op2_aux hg h
theorem be_cmp {op : CmpOp} {r : R2} {g : D → D → Option D} (hr : OpR X (compareOp op) r) (hg : OpD T r g) (ha : PE X a (eoOf T W O φa)) (hb : PE X b (eoOf T W O φb)) (hm : behindInMarks op b = false) : PE X (.Compare a [op] [b] pos) (eOf T W O (xOp2 g φa φb)) :=
  peI (pe_cmpR hr ha hb hm) fun _ _ _ h => op2_aux hg h
theorem be_ix {r : R2} {g : D → D → Option D} (hr : IxR X r) (hg : OpD T r g) (ha : PE X a (eoOf T W O φa)) (hb : PE X b (eoOf T W O φb)) (hs : PlainIx b) : PE X (.Subscript a b pos) (eOf T W O (xOp2 g φa φb)) :=
  peI (pe_ix hr ha hb hs) fun _ _ _ h => op2_aux hg h
def xNeg (φa : DX) : DX := xOp1 (fun d => match d with | .int i => some (.int (-i)) | _ => none) φa
theorem be_neg (ha : PE X a (eOf T W O φa)) : PE X (.UnaryOp .USub a pos) (eOf T W O (xNeg φa)) :=
  peI (pe_un un_neg ha) fun σ H Q ⟨ρ, ow0, fr, A, Ax, ok, er, q, k, x⟩ => ⟨ρ, ow0, fr, _, Ax, ok, er, q, fun d v G ⟨z, ez, qz⟩ okG gG rv => (by
    cases rv with
    | int i =>
      cases ez
      exact ⟨i, rfl, k _ _ G qz okG gG (.int _)⟩
    | _ => cases ez), x⟩
def xAnd (φa φb : DX) : DX := fun ρ A Ax => φa ρ (fun x => ∃ c, x = .bl c ∧ if c = true then φb ρ A Ax else A (.bl false)) Ax
def xOr (φa φb : DX) : DX := fun ρ A Ax => φa ρ (fun x => ∃ c, x = .bl c ∧ if c = true then A (.bl true) else φb ρ A Ax) Ax
def xNot (φa : DX) : DX := fun ρ A Ax => φa ρ (fun x => ∃ c, x = .bl c ∧ A (.bl (!c))) Ax
def xIf (t : DT) (φa φb : DX) : DX := fun ρ A Ax => t ρ (fun c => if c = true then φa ρ A Ax else φb ρ A Ax) Ax
variable {rest : List Expr} {t u : DT}
theorem be_one {op} (h : PE X a (eOf T W O φ)) : PE X (.BoolOp op [a] pos) (eOf T W O φ) := pe_one h
theorem rep_bl {K : PySem.W.Frag} {H : Hp} {ow : Addr → Prop} {v : V} {c : Bool} (h : Rep K H ow v (.bl c)) : v = .bl c := by cases h; rfl
theorem be_and (ha : PE X a (eOf T W O φa)) (hb : PE X (.BoolOp .And (b :: rest) pos) (eOf T W O φb)) : PE X (.BoolOp .And (a :: b :: rest) pos) (eOf T W O (xAnd φa φb)) :=
  peI (pe_and ha hb) fun σ H Q ⟨ρ, ow0, fr, A, Ax, ok, er, q, k, x⟩ => ⟨ρ, ow0, fr, _, Ax, ok, er, q, fun d v G ⟨c, ec, qc⟩ okG gG rv => by
    subst ec
    refine ⟨c, rep_bl rv, ?_⟩
    cases c with
    | true => exact ⟨ρ, ow0, fr, A, Ax, okG, er.gr T gG, qc, fun d v J a o g r => k d v J a o (T.trans gG g) r, x.gr gG⟩
    | false => exact k _ _ G qc okG gG (.bl false), x⟩
theorem be_ifExp {c : Expr} (hc : PT X c (tOf T W O t)) (ha : PE X a (eOf T W O φa)) (hb : PE X b (eOf T W O φb)) : PE X (.IfExp c a b pos) (eOf T W O (xIf t φa φb)) :=
  peI (pe_ifExp hc ha hb) fun σ H Q ⟨ρ, ow0, fr, A, Ax, ok, er, q, k, x⟩ => ⟨ρ, ow0, fr, _, Ax, ok, er, q, fun c G qc okG gG => by
    cases c with
    | true => exact ⟨ρ, ow0, fr, A, Ax, okG, er.gr T gG, qc, fun d v J a o g r => k d v J a o (T.trans gG g) r, x.gr gG⟩
    | false => exact ⟨ρ, ow0, fr, A, Ax, okG, er.gr T gG, qc, fun d v J a o g r => k d v J a o (T.trans gG g) r, x.gr gG⟩, x⟩
def tB' (φ : DX) : DT := fun ρ A Ax => φ ρ (fun x => ∃ c, x = .bl c ∧ A c) Ax
def tAnd' (t u : DT) : DT := fun ρ A Ax => t ρ (fun c => if c = true then u ρ A Ax else A false) Ax
def tOr' (t u : DT) : DT := fun ρ A Ax => t ρ (fun c => if c = true then A true else u ρ A Ax) Ax
def tNot' (t : DT) : DT := fun ρ A Ax => t ρ (fun c => A (!c)) Ax
theorem b_aux {σ : L2.St} {H : Hp} {Q : Bool → Hp → Prop} (h : tOf T W O (tB' φ) σ H Q) : tB (eOf T W O φ) σ H Q := by
  obtain ⟨ρ, ow0, fr, A, Ax, ok, er, q, k, x⟩ := h
  refine ⟨ρ, ow0, fr, _, Ax, ok, er, q, fun d v G ⟨c, ec, qc⟩ okG gG rv => ?_, x⟩
  subst ec
  exact ⟨c, rep_bl rv, k c G qc okG gG⟩
theorem bt_val (h : PE X e (eOf T W O φ)) (he : ∀ whole, isTrue e X.env whole = (do let v ← whole; standAt e.pos; holding [v] (truthy v)) := by intro _; rfl) : PT X e (tOf T W O (tB' φ)) :=
  ptI (pt_val h he) fun _ _ _ h => b_aux h
theorem bt_cmp {op : CmpOp} {r : R2} {g : D → D → Option D} (hr : OpR X (compareOp op) r) (hg : OpD T r g) (ha : PE X a (eoOf T W O φa)) (hb : PE X b (eoOf T W O φb)) (hm : behindInMarks op b = false) : PT X (.Compare a [op] [b] pos) (tOf T W O (tB' (xOp2 g φa φb))) :=
  ptI (pt_cmpR hr ha hb hm) fun σ H Q h => by
    have z := b_aux h
    exact op2_aux hg z
theorem bw_and1 (ha : PT X a (tOf T W O t)) : PW X (.BoolOp .And [a] pos) (tOf T W O t) := pw_and1 ha
theorem bw_or1 (ha : PT X a (tOf T W O t)) : PW X (.BoolOp .Or [a] pos) (tOf T W O t) := pw_or1 ha
theorem bw_and (ha : PT X a (tOf T W O t)) (hb : PW X (.BoolOp .And (b :: rest) pos) (tOf T W O u)) : PW X (.BoolOp .And (a :: b :: rest) pos) (tOf T W O (tAnd' t u)) :=
  pwI (pw_and ha hb) fun σ H Q ⟨ρ, ow0, fr, A, Ax, ok, er, q, k, x⟩ => ⟨ρ, ow0, fr, _, Ax, ok, er, q, fun c G qc okG gG => by
    cases c with
    | true => exact ⟨ρ, ow0, fr, A, Ax, okG, er.gr T gG, qc, fun b J a o g => k b J a o (T.trans gG g), x.gr gG⟩
    | false => exact k false G qc okG gG, x⟩
theorem bw_or (ha : PT X a (tOf T W O t)) (hb : PW X (.BoolOp .Or (b :: rest) pos) (tOf T W O u)) : PW X (.BoolOp .Or (a :: b :: rest) pos) (tOf T W O (tOr' t u)) :=
  pwI (pw_or ha hb) fun σ H Q ⟨ρ, ow0, fr, A, Ax, ok, er, q, k, x⟩ => ⟨ρ, ow0, fr, _, Ax, ok, er, q, fun c G qc okG gG => by
    cases c with
    | false => exact ⟨ρ, ow0, fr, A, Ax, okG, er.gr T gG, qc, fun b J a o g => k b J a o (T.trans gG g), x.gr gG⟩
    | true => exact k true G qc okG gG, x⟩
theorem bt_not (ha : PT X a (tOf T W O t)) : PT X (.UnaryOp .Not a pos) (tOf T W O (tNot' t)) :=
  ptI (pt_not ha) fun σ H Q ⟨ρ, ow0, fr, A, Ax, ok, er, q, k, x⟩ => ⟨ρ, ow0, fr, _, Ax, ok, er, q, fun c G qc okG gG => k _ G qc okG gG, x⟩
def xChain (g g' : D → D → Option D) (φa φb φc : DX) : DX := fun ρ A Ax => φa ρ (fun x => φb ρ (fun y => ∃ c, g x y = some (.bl c) ∧ if c = true then φc ρ (fun z => ∃ w, g' y z = some w ∧ A w) Ax else A (.bl false)) Ax) Ax
theorem chain_aux {c : Expr} {φc : DX} {r r' : R2} {g g' : D → D → Option D} (hg : OpD T r g) (hg' : OpD T r' g') {σ : L2.St} {H : Hp} {Q : VK} (h : eOf T W O (xChain g g' φa φb φc) σ H Q) :
    tChain r r' (eoOf T W O φa) (eoOf T W O φb) (eoOf T W O φc) σ H Q := by
  obtain ⟨ρ, ow0, fr, A, Ax, ok, er, q, k, x⟩ := h
  refine ⟨ρ, ow0, fr, _, Ax, ok, er, q, fun d v G qd okG gG rv => ?_, x⟩
  have er1 := er.gr T gG
  refine ⟨ρ, ow0, fr, _, Ax, okG, er1, qd, fun d' v' G' ⟨b, eb, qb⟩ okG' gG' rv' => ?_, x.gr gG⟩
  have er2 := er1.gr T gG'
  refine hg G' (owOf ow0 O σ) v v' d d' _ _ okG' er2.otrk (rv.gr T gG') rv' eb fun u J okJ gJ ru => ⟨b, rep_bl ru, ?_⟩
  have g3 := T.trans gG (T.trans gG' gJ)
  cases b with
  | false => exact k _ _ J qb okJ g3 (.bl false)
  | true =>
    refine ⟨ρ, ow0, fr, _, Ax, okJ, er2.gr T gJ, qb, fun d3 v3 L ⟨w, ew, qw⟩ okL gL r3 => ?_, x.gr g3⟩
    exact hg' L (owOf ow0 O σ) v' v3 d' d3 w Q okL ((er2.gr T gJ).gr T gL).otrk ((rv'.gr T gJ).gr T gL) r3 ew fun u' M okM gM rM => k w u' M qw okM (T.trans g3 (T.trans gL gM)) rM
theorem bt_chain {op op' : CmpOp} {c : Expr} {φc : DX} {r r' : R2} {g g' : D → D → Option D} (hr : OpR X (compareOp op) r) (hg : OpD T r g) (hr' : OpR X (compareOp op') r') (hg' : OpD T r' g') (ha : PE X a (eoOf T W O φa)) (hb : PE X b (eoOf T W O φb)) (hc : PE X c (eoOf T W O φc))
    (hm : lastMarks [op, op'] [b, c] = false := by with_unfolding_all rfl) : PT X (.Compare a [op, op'] [b, c] pos) (tOf T W O (tB' (xChain g g' φa φb φc))) := ptI (pt_chain hr hr' ha hb hc hm) fun _ _ _ h => by
  have z := b_aux h
  exact chain_aux (c := c) hg hg' z
end
end Dz
namespace Dz
open PySem PySem.Spec PyProof.Rows L2 Evl Bf
theorem SqH {K : PySem.W.Frag} {H : Hp} {a : Addr} {vs : List V} (h : H a = some (.tup vs)) : SqT K H a vs := .inl (.inl h)
def big : Nat := 100000
theorem big_sz {n : Nat} (h : n ≤ big) : n ≤ sizeLine := sz_of h
section
variable {K : PySem.W.Frag} {H : Hp} {ow : Addr → Prop} {v : V}
theorem o_lst {ds : List D} (h : RepO K H ow v (.lst ds)) : ∃ a vs, v = .ref a ∧ H a = some (.lst vs) ∧ RepL K H ow vs ds := by
  rcases h with h | ⟨a, e, h⟩
  · cases h with
    | lst a b c => exact ⟨_, _, rfl, a, c⟩
  · cases h with
    | lst b c => exact ⟨a, _, e, b, c⟩
theorem o_tup {ds : List D} (h : RepO K H ow v (.tup ds)) : ∃ a vs, v = .ref a ∧ H a = some (.tup vs) ∧ RepL K H ow vs ds := by
  rcases h with h | ⟨a, e, h⟩
  · cases h with
    | tup a c => exact ⟨_, _, rfl, a, c⟩
  · cases h
theorem o_dic {ds : List (Key × D)} (h : RepO K H ow v (.dic ds)) : ∃ a vs, v = .ref a ∧ Rd H a (.dK vs) ∧ RepK K H ow vs ds := by
  rcases h with h | ⟨a, e, h⟩
  · cases h with
    | dic a b c => exact ⟨_, _, rfl, a, c⟩
  · cases h with
    | dic b c => exact ⟨a, _, e, .inl b, c⟩
theorem o_scr {ns : List Int} (h : RepO K H ow v (.scr ns)) : ∃ a, v = .ref a ∧ SqF K H a (ns.map V.int) := by
  rcases h with h | ⟨a, e, h⟩
  · cases h with
    | scr a => exact ⟨_, rfl, a⟩
  · cases h
theorem o_int {i : Int} (h : RepO K H ow v (.int i)) : v = .int i := by
  rcases h with h | ⟨a, e, h⟩
  · cases h; rfl
  · cases h
theorem o_str {i : Str} (h : RepO K H ow v (.str i)) : v = .str i := by
  rcases h with h | ⟨a, e, h⟩
  · cases h; rfl
  · cases h
theorem o_bl {i : Bool} (h : RepO K H ow v (.bl i)) : v = .bl i := by
  rcases h with h | ⟨a, e, h⟩
  · cases h; rfl
  · cases h
theorem o_non (h : RepO K H ow v .non) : v = .non := by
  rcases h with h | ⟨a, e, h⟩
  · cases h; rfl
  · cases h
theorem o_ty {n : String} (h : RepO K H ow v (.ty n)) : v = .ty n := by
  rcases h with h | ⟨a, e, h⟩
  · cases h; rfl
  · cases h
theorem RepL.length : ∀ {vs : List V} {ds : List D}, RepL K H ow vs ds → vs.length = ds.length
  | _, _, .nil => rfl
  | _, _, .cons _ t => by rw [List.length_cons, List.length_cons, RepL.length t]
theorem RepL.at : ∀ {vs : List V} {ds : List D} {i : Nat} {v : V}, RepL K H ow vs ds → vs[i]? = some v → ∃ d, ds[i]? = some d ∧ Rep K H ow v d
  | _, _, _, _, .nil, h => by simp at h
  | _, _, 0, _, .cons r _, h => by simp at h; subst h; exact ⟨_, rfl, r⟩
  | _, _, i + 1, _, .cons _ t, h => by
    obtain ⟨d, h1, h2⟩ := RepL.at (i := i) t (by simpa using h)
    exact ⟨d, by simpa using h1, h2⟩
theorem RepL.at' : ∀ {vs : List V} {ds : List D} {i : Nat} {d : D}, RepL K H ow vs ds → ds[i]? = some d → ∃ v, vs[i]? = some v ∧ Rep K H ow v d
  | _, _, _, _, .nil, h => by simp at h
  | _, _, 0, _, .cons r _, h => by simp at h; subst h; exact ⟨_, rfl, r⟩
  | _, _, i + 1, _, .cons _ t, h => by
    obtain ⟨d, h1, h2⟩ := RepL.at' (i := i) t (by simpa using h)
    exact ⟨d, by simpa using h1, h2⟩
theorem RepL.append : ∀ {vs ws : List V} {ds es : List D}, RepL K H ow vs ds → RepL K H ow ws es → RepL K H ow (vs ++ ws) (ds ++ es)
  | _, _, _, _, .nil, h => h
  | _, _, _, _, .cons r t, h => .cons r (RepL.append t h)
theorem RepL.drop : ∀ {vs : List V} {ds : List D} (n : Nat), RepL K H ow vs ds → RepL K H ow (vs.drop n) (ds.drop n)
  | _, _, 0, h => h
  | _, _, n + 1, .nil => .nil
  | _, _, n + 1, .cons _ t => RepL.drop n t
theorem RepL.take : ∀ {vs : List V} {ds : List D} (n : Nat), RepL K H ow vs ds → RepL K H ow (vs.take n) (ds.take n)
  | _, _, 0, _ => .nil
  | _, _, n + 1, .nil => .nil
  | _, _, n + 1, .cons r t => .cons r (RepL.take n t)
theorem RepL.erase : ∀ {vs : List V} {ds : List D} (n : Nat), RepL K H ow vs ds → RepL K H ow (vs.eraseIdx n) (ds.eraseIdx n)
  | _, _, _, .nil => .nil
  | _, _, 0, .cons _ t => t
  | _, _, n + 1, .cons r t => .cons r (RepL.erase n t)
theorem RepL.flat : ∀ {n : Nat} {vs : List V} {ds : List D}, RepL K H ow vs ds → RepL K H ow (List.replicate n vs).flatten (List.replicate n ds).flatten
  | 0, _, _, _ => .nil
  | n + 1, _, _, h => by
    rw [List.replicate_succ, List.replicate_succ, List.flatten_cons, List.flatten_cons]
    exact h.append (RepL.flat h)
theorem repL_strs : ∀ {vs : List V} {xs : List Str}, RepL K H ow vs (xs.map D.str) → vs = xs.map V.str
  | _, [], h => by cases h; rfl
  | _, x :: xs, h => by
    cases h with
    | cons r t => cases r; rw [repL_strs t]; rfl
theorem strs_repL : ∀ (xs : List Str), RepL K H ow (xs.map V.str) (xs.map D.str)
  | [] => .nil
  | x :: xs => .cons (.str x) (strs_repL xs)
theorem ints_repL : ∀ (xs : List Int), RepL K H ow (xs.map V.int) (xs.map D.int)
  | [] => .nil
  | x :: xs => .cons (.int x) (ints_repL xs)
theorem repL_bls : ∀ {vs : List V} {xs : List Bool}, RepL K H ow vs (xs.map D.bl) → vs = xs.map V.bl
  | _, [], h => by cases h; rfl
  | _, x :: xs, h => by
    cases h with
    | cons r t => cases r; rw [repL_bls t]; rfl
theorem new_lst {T : Th K} {p : Addr} {vs : List V} {ds : List D} (ok : T.Ok H) (tr : ∀ a, ow a → H a ≠ none) (hp : H p = none) (r : RepL K H ow vs ds) : T.Ok (upd H p (.lst vs)) ∧ T.Gr H (upd H p (.lst vs)) ∧ Rep K (upd H p (.lst vs)) ow (.ref p) (.lst ds) := by
  obtain ⟨h1, h2⟩ := T.new (o := .lst vs) ok hp rfl
  exact ⟨h1, h2, .lst upd_same (fun z => tr p z hp) (r.gr T h2)⟩
theorem new_tup {T : Th K} {p : Addr} {vs : List V} {ds : List D} (ok : T.Ok H) (tr : ∀ a, ow a → H a ≠ none) (hp : H p = none) (r : RepL K H ow vs ds) : T.Ok (upd H p (.tup vs)) ∧ T.Gr H (upd H p (.tup vs)) ∧ Rep K (upd H p (.tup vs)) ow (.ref p) (.tup ds) := by
  obtain ⟨h1, h2⟩ := T.new (o := .tup vs) ok hp rfl
  exact ⟨h1, h2, .tup upd_same (r.gr T h2)⟩
end
def D.flat : D → Option V
  | .non => some .non
  | .bl b => some (.bl b)
  | .int i => some (.int i)
  | .str s => some (.str s)
  | _ => none
def flats : List D → Option (List V)
  | [] => some []
  | d :: ds => match d.flat, flats ds with
    | some v, some vs => some (v :: vs)
    | _, _ => none
theorem flat_rep {K : PySem.W.Frag} {H : Hp} {ow : Addr → Prop} {v w : V} {d : D} (h : RepO K H ow v d) (e : d.flat = some w) : v = w ∧ flatV v = true := by
  cases d with
  | non => cases e; exact ⟨o_non h, by rw [o_non h]; rfl⟩
  | bl b => cases e; exact ⟨o_bl h, by rw [o_bl h]; rfl⟩
  | int b => cases e; exact ⟨o_int h, by rw [o_int h]; rfl⟩
  | str b => cases e; exact ⟨o_str h, by rw [o_str h]; rfl⟩
  | _ => cases e
theorem flats_rep {K : PySem.W.Frag} {H : Hp} {ow : Addr → Prop} : ∀ {vs ws : List V} {ds : List D}, RepL K H ow vs ds → flats ds = some ws → vs = ws ∧ vs.all flatV = true
  | _, _, _, .nil, e => by cases e; exact ⟨rfl, rfl⟩
  | _, _, d :: ds, .cons r t, e => by
    unfold flats at e
    split at e
    · rename_i v vs h1 h2
      cases e
      obtain ⟨a1, a2⟩ := flat_rep r.o h1
      obtain ⟨b1, b2⟩ := flats_rep t h2
      exact ⟨by rw [a1, b1], by rw [List.all_cons, a2, b2]; rfl⟩
    · cases e
theorem flats_strs : ∀ xs : List Str, flats (xs.map D.str) = some (xs.map V.str)
  | [] => rfl
  | x :: xs => by
    show (match (D.str x).flat, flats (xs.map D.str) with
      | some v, some vs => some (v :: vs)
      | _, _ => none) = _
    rw [flats_strs xs]; rfl
mutual
def D.py : D → Option PyData
  | .non => some .none
  | .bl b => some (.bool b)
  | .int i => some (.int i)
  | .str s => some (.str s)
  | .lst xs => match pyL xs with | some ys => some (.list ys) | none => none
  | .tup xs => match pyL xs with | some ys => some (.tuple ys) | none => none
  | _ => none
def pyL : List D → Option (List PyData)
  | [] => some []
  | d :: ds => match d.py, pyL ds with
    | some v, some vs => some (v :: vs)
    | _, _ => none
end
mutual
theorem py_rep {K : PySem.W.Frag} {H : Hp} {ow : Addr → Prop} {v : V} {d : D} (h : Rep K H ow v d) {p : PyData} (e : d.py = some p) : Dp K H v p :=
  match h with
  | .non => by cases e; exact .non
  | .bl b => by cases e; exact .bl b
  | .int i => by cases e; exact .int i
  | .str s => by cases e; exact .str s
  | .lst (ds := ds) a b c => by
    unfold D.py at e
    split at e
    · rename_i ys h1
      cases e
      exact .lst (.inl (.inl a)) (pyL_rep c h1)
    · cases e
  | .tup (ds := ds) a c => by
    unfold D.py at e
    split at e
    · rename_i ys h1
      cases e
      exact .tup (.inl (.inl a)) (pyL_rep c h1)
    · cases e
  | .dic a b c => by cases e
  | .ins a b c => by cases e
  | .ty n => by cases e
  | .cls c => by cases e
  | .scr a => by cases e
  | .exc0 => by cases e
  | .exc a b => by cases e
  | .well a b => by cases e
  | .fam a b c d => by cases e
  | .dit a b c d => by cases e
theorem pyL_rep {K : PySem.W.Frag} {H : Hp} {ow : Addr → Prop} {vs : List V} {ds : List D} (h : RepL K H ow vs ds) {ps : List PyData} (e : pyL ds = some ps) : DpAll K H vs ps :=
  match h with
  | .nil => by cases e; exact .nil
  | .cons a b => by
    unfold pyL at e
    split at e
    · rename_i x xs h1 h2
      cases e
      exact .cons (py_rep a h1) (pyL_rep b h2)
    · cases e
end
theorem py_repO {K : PySem.W.Frag} {H : Hp} {ow : Addr → Prop} {v : V} {d : D} (h : RepO K H ow v d) {p : PyData} (e : d.py = some p) : Dp K H v p := by
  rcases h with h | ⟨a, rfl, h⟩
  · exact py_rep h e
  · cases h with
    | lst a c =>
      unfold D.py at e
      split at e
      · rename_i ys h1
        cases e
        exact .lst (.inl (.inl a)) (pyL_rep c h1)
      · cases e
    | dic a c => cases e
    | ins a c => cases e
    | dit a b c => cases e
def dAdd : D → D → Option D
  | .int i, .int j => some (.int (i + j))
  | .str a, .str b => if a.length + b.length ≤ big then some (.str (a ++ b)) else none
  | .lst a, .lst b => if a.length + b.length ≤ big then some (.lst (a ++ b)) else none
  | .tup a, .tup b => if a.length + b.length ≤ big then some (.tup (a ++ b)) else none
  | _, _ => none
def dSub : D → D → Option D
  | .int i, .int j => some (.int (i - j))
  | _, _ => none
def dMul : D → D → Option D
  | .int i, .int j => if (-(2 ^ 64) < i ∧ i < 2 ^ 64) ∨ (-(2 ^ 64) < j ∧ j < 2 ^ 64) then some (.int (i * j)) else none
  | .str z, .int n => if 0 ≤ n ∧ n ≤ 1000 ∧ z.length ≤ 1000 then some (.str (repS z n.toNat)) else none
  | .lst xs, .int n => if 0 ≤ n ∧ n ≤ big ∧ xs.length * n.toNat ≤ big then some (.lst (List.replicate n.toNat xs).flatten) else none
  | _, _ => none
def dLt : D → D → Option D
  | .int i, .int j => some (.bl (decide (i < j)))
  | .str a, .str b => some (.bl (decide (a.cps.toList < b.cps.toList)))
  | _, _ => none
def dLe : D → D → Option D
  | .int i, .int j => some (.bl (decide (i ≤ j)))
  | .str a, .str b => some (.bl (!decide (b.cps.toList < a.cps.toList)))
  | _, _ => none
def dGt : D → D → Option D
  | .int i, .int j => some (.bl (decide (j < i)))
  | .str a, .str b => some (.bl (decide (b.cps.toList < a.cps.toList)))
  | _, _ => none
def dGe : D → D → Option D
  | .int i, .int j => some (.bl (decide (j ≤ i)))
  | _, _ => none
def dEq (neg : Bool) (d e : D) : Option D :=
  match d.py, e.py with
  | some p, some q => if SeqAt.shaped p = true ∧ SeqAt.shaped q = true then some (.bl (neg != PyData.eqv p q)) else none
  | _, _ => none
def isNonD : D → Bool
  | .non => true
  | _ => false
def dIs (neg : Bool) : D → D → Option D
  | d, .non => some (.bl (neg != isNonD d))
  | _, _ => none
def dIn (neg : Bool) : D → D → Option D
  | x, .lst ys => match x.flat, flats ys with
    | some v, some ws => some (.bl (neg != inV v ws))
    | _, _ => none
  | x, .tup ys => match x.flat, flats ys with
    | some v, some ws => some (.bl (neg != inV v ws))
    | _, _ => none
  | .str a, .str z => match a.cps.toList with
    | [c] => some (.bl (neg != decide (c ∈ z.cps.toList)))
    | _ => none
  | _, _ => none
def dIx : D → D → Option D
  | .lst xs, .int i => atI xs i
  | .tup xs, .int i => atI xs i
  | .scr ns, .int i => (atI ns i).map .int
  | .str z, .int i => if z.length ≤ big then (atI z.cps.toList i).map fun c => .str ⟨#[c]⟩ else none
  | _, _ => none
section
variable {X : Cx} {T : Th X.K}
theorem od_add : OpD T (fun x y H Q => rI0 (fun i j => .int (i + j)) x y H Q ∨ (∃ i j, x = .str i ∧ y = .str j ∧ i.length + j.length ≤ sizeLine ∧ Q (.str (i ++ j)) H) ∨ rCat x y H Q ∨ rCatA X.K x y H Q) dAdd := by
  intro H ow x y d e z Q ok tr rx ry hg k
  unfold dAdd at hg
  split at hg
  · cases hg
    rw [o_int rx, o_int ry]
    exact .inl ⟨_, _, rfl, rfl, k _ H ok (T.refl H) (.int _)⟩
  · split at hg
    · rename_i hl
      cases hg
      rw [o_str rx, o_str ry]
      exact .inr (.inl ⟨_, _, rfl, rfl, big_sz hl, k _ H ok (T.refl H) (.str _)⟩)
    · cases hg
  · split at hg
    · rename_i hl
      cases hg
      obtain ⟨p, vs, rfl, hp, rp⟩ := o_lst rx
      obtain ⟨q, ws, rfl, hq, rq⟩ := o_lst ry
      refine .inr (.inr (.inl ⟨p, q, vs, ws, rfl, rfl, hp, hq, by rw [rp.length, rq.length]; exact big_sz hl, fun l hl => ?_⟩))
      obtain ⟨h1, h2, h3⟩ := new_lst ok tr hl (rp.append rq)
      exact k _ _ h1 h2 h3
    · cases hg
  · split at hg
    · rename_i hl
      cases hg
      obtain ⟨p, vs, rfl, hp, rp⟩ := o_tup rx
      obtain ⟨q, ws, rfl, hq, rq⟩ := o_tup ry
      refine .inr (.inr (.inr ⟨p, q, vs, ws, rfl, rfl, .inl (.inl hp), .inl (.inl hq), by rw [rp.length, rq.length]; exact big_sz hl, fun e => ?_, fun _ e => ?_, fun _ _ l hl => ?_⟩))
      · subst e; cases rp
        exact k _ H ok (T.refl H) (.tup hq rq)
      · subst e; cases rq
        rw [List.append_nil] at k
        exact k _ H ok (T.refl H) (.tup hp rp)
      · obtain ⟨h1, h2, h3⟩ := new_tup ok tr hl (rp.append rq)
        exact k _ _ h1 h2 h3
    · cases hg
  · cases hg
theorem or_add : OpR X (binaryOp .Add) (fun x y H Q => rI0 (fun i j => .int (i + j)) x y H Q ∨ (∃ i j, x = .str i ∧ y = .str j ∧ i.length + j.length ≤ sizeLine ∧ Q (.str (i ++ j)) H) ∨ rCat x y H Q ∨ rCatA X.K x y H Q) :=
  OpR.or op_add (OpR.or op_add_str (OpR.or op_cat op_catA))
theorem od_sub : OpD T (rI0 fun i j => .int (i - j)) dSub := by
  intro H ow x y d e z Q ok tr rx ry hg k
  unfold dSub at hg
  split at hg
  · cases hg
    rw [o_int rx, o_int ry]
    exact ⟨_, _, rfl, rfl, k _ H ok (T.refl H) (.int _)⟩
  · cases hg
theorem od_mul : OpD T (fun x y H Q => rI CMul (fun i j => .int (i * j)) x y H Q ∨ (∃ (z : Str) (n : Nat), x = .str z ∧ y = .int n ∧ n ≤ 1000 ∧ z.length ≤ 1000 ∧ Q (.str (repS z n)) H) ∨ rRep x y H Q) dMul := by
  intro H ow x y d e z Q ok tr rx ry hg k
  unfold dMul at hg
  split at hg
  · split at hg
    · rename_i hc
      cases hg
      rw [o_int rx, o_int ry]
      exact .inl ⟨_, _, rfl, rfl, hc, k _ H ok (T.refl H) (.int _)⟩
    · cases hg
  · split at hg
    · rename_i z n hc
      cases hg
      rw [o_str rx, o_int ry]
      obtain ⟨m, rfl⟩ := Int.eq_ofNat_of_zero_le hc.1
      exact .inr (.inl ⟨_, m, rfl, rfl, by omega, hc.2.2, k _ H ok (T.refl H) (.str _)⟩)
    · cases hg
  · split at hg
    · rename_i xs n hc
      cases hg
      obtain ⟨p, vs, rfl, hp, rp⟩ := o_lst rx
      rw [o_int ry]
      have hb : (big : Int) = 100000 := rfl
      refine .inr (.inr ⟨p, n, vs, rfl, rfl, hp, by omega, by omega, by rw [rp.length]; exact big_sz hc.2.2, fun l hl => ?_⟩)
      obtain ⟨h1, h2, h3⟩ := new_lst ok tr hl (rp.flat (n := n.toNat))
      exact k _ _ h1 h2 h3
    · cases hg
  · cases hg
theorem or_mul : OpR X (binaryOp .Mult) (fun x y H Q => rI CMul (fun i j => .int (i * j)) x y H Q ∨ (∃ (z : Str) (n : Nat), x = .str z ∧ y = .int n ∧ n ≤ 1000 ∧ z.length ≤ 1000 ∧ Q (.str (repS z n)) H) ∨ rRep x y H Q) :=
  OpR.or op_mul (OpR.or op_mulS op_rep)
theorem od_le : OpD T (fun x y H Q => rI0 (fun i j => .bl (decide (i ≤ j))) x y H Q ∨ ∃ i j, x = .str i ∧ y = .str j ∧ Q (.bl (!decide (j.cps.toList < i.cps.toList))) H) dLe := by
  intro H ow x y d e z Q ok tr rx ry hg k
  unfold dLe at hg
  split at hg
  · cases hg
    rw [o_int rx, o_int ry]
    exact .inl ⟨_, _, rfl, rfl, k _ H ok (T.refl H) (.bl _)⟩
  · cases hg
    rw [o_str rx, o_str ry]
    exact .inr ⟨_, _, rfl, rfl, k _ H ok (T.refl H) (.bl _)⟩
  · cases hg
theorem or_le : OpR X (compareOp .LtE) (fun x y H Q => rI0 (fun i j => .bl (decide (i ≤ j))) x y H Q ∨ ∃ i j, x = .str i ∧ y = .str j ∧ Q (.bl (!decide (j.cps.toList < i.cps.toList))) H) := OpR.or op_le op_le_str
theorem od_gt : OpD T (fun x y H Q => rI0 (fun i j => .bl (decide (j < i))) x y H Q ∨ ∃ i j, x = .str i ∧ y = .str j ∧ Q (.bl (decide (j.cps.toList < i.cps.toList))) H) dGt := by
  intro H ow x y d e z Q ok tr rx ry hg k
  unfold dGt at hg
  split at hg
  · cases hg
    rw [o_int rx, o_int ry]
    exact .inl ⟨_, _, rfl, rfl, k _ H ok (T.refl H) (.bl _)⟩
  · cases hg
    rw [o_str rx, o_str ry]
    exact .inr ⟨_, _, rfl, rfl, k _ H ok (T.refl H) (.bl _)⟩
  · cases hg
theorem or_gt : OpR X (compareOp .Gt) (fun x y H Q => rI0 (fun i j => .bl (decide (j < i))) x y H Q ∨ ∃ i j, x = .str i ∧ y = .str j ∧ Q (.bl (decide (j.cps.toList < i.cps.toList))) H) := OpR.or op_gt op_gt_str
theorem od_eq : OpD T (rEqD X.K) (dEq false) := by
  intro H ow x y d e z Q ok tr rx ry hg k
  unfold dEq at hg
  split at hg
  · rename_i p q h1 h2
    split at hg
    · rename_i hc
      cases hg
      refine ⟨p, q, py_repO rx h1, py_repO ry h2, hc.1, hc.2, ?_⟩
      have := k _ H ok (T.refl H) (.bl _)
      simpa using this
    · cases hg
  · cases hg
theorem od_ne : OpD T (rNeD X.K) (dEq true) := by
  intro H ow x y d e z Q ok tr rx ry hg k
  unfold dEq at hg
  split at hg
  · rename_i p q h1 h2
    split at hg
    · rename_i hc
      cases hg
      refine ⟨p, q, py_repO rx h1, py_repO ry h2, hc.1, hc.2, ?_⟩
      have := k _ H ok (T.refl H) (.bl _)
      simpa using this
    · cases hg
  · cases hg
theorem is_non {K : PySem.W.Frag} {H : Hp} {ow : Addr → Prop} {v : V} {d : D} (h : RepO K H ow v d) : decide (v = .non) = isNonD d := by
  rcases h with h | ⟨a, rfl, h⟩
  · cases h <;> rfl
  · cases h <;> rfl
theorem od_is : OpD T (fun x y H Q => y = .non ∧ Q (.bl (decide (x = .non))) H) (dIs false) := by
  intro H ow x y d e z Q ok tr rx ry hg k
  unfold dIs at hg
  split at hg
  · cases hg
    refine ⟨o_non ry, ?_⟩
    rw [is_non rx]
    have := k _ H ok (T.refl H) (.bl _)
    simpa using this
  · cases hg
theorem od_isnot : OpD T (fun x y H Q => y = .non ∧ Q (.bl (!decide (x = .non))) H) (dIs true) := by
  intro H ow x y d e z Q ok tr rx ry hg k
  unfold dIs at hg
  split at hg
  · cases hg
    refine ⟨o_non ry, ?_⟩
    rw [is_non rx]
    have := k _ H ok (T.refl H) (.bl _)
    simpa using this
  · cases hg
theorem one_sign {a : Str} {c : Nat} (h : a.cps.toList = [c]) : a = ⟨#[c]⟩ := by
  obtain ⟨⟨l⟩⟩ := a
  simp only at h
  rw [h]
theorem od_in : OpD T (fun x y H Q => rIn X.K false x y H Q ∨ ∃ (c : Nat) (z : Str), x = .str ⟨#[c]⟩ ∧ y = .str z ∧ Q (.bl (decide (c ∈ z.cps.toList))) H) (dIn false) := by
  intro H ow x y d e z Q ok tr rx ry hg k
  unfold dIn at hg
  split at hg
  · split at hg
    · rename_i v ws h1 h2
      cases hg
      obtain ⟨p, vs, rfl, hp, rp⟩ := o_lst ry
      obtain ⟨e1, f1⟩ := flat_rep rx h1
      obtain ⟨e2, f2⟩ := flats_rep rp h2
      refine .inl ⟨p, vs, rfl, .inl (.inl (.inl hp)), f1, f2, ?_⟩
      have := k _ H ok (T.refl H) (.bl _)
      rw [e1, e2]
      simpa using this
    · cases hg
  · split at hg
    · rename_i v ws h1 h2
      cases hg
      obtain ⟨p, vs, rfl, hp, rp⟩ := o_tup ry
      obtain ⟨e1, f1⟩ := flat_rep rx h1
      obtain ⟨e2, f2⟩ := flats_rep rp h2
      refine .inl ⟨p, vs, rfl, .inr (SqH hp), f1, f2, ?_⟩
      have := k _ H ok (T.refl H) (.bl _)
      rw [e1, e2]
      simpa using this
    · cases hg
  · split at hg
    · rename_i c h1
      cases hg
      rw [o_str rx, o_str ry]
      refine .inr ⟨c, _, by rw [one_sign h1], rfl, ?_⟩
      have := k _ H ok (T.refl H) (.bl _)
      simpa using this
    · cases hg
  · cases hg
theorem or_in : OpR X (compareOp .In) (fun x y H Q => rIn X.K false x y H Q ∨ ∃ (c : Nat) (z : Str), x = .str ⟨#[c]⟩ ∧ y = .str z ∧ Q (.bl (decide (c ∈ z.cps.toList))) H) := OpR.or op_in_seq op_in_sign
theorem od_notin : OpD T (fun x y H Q => rIn X.K true x y H Q ∨ ∃ (c : Nat) (z : Str), x = .str ⟨#[c]⟩ ∧ y = .str z ∧ Q (.bl (!decide (c ∈ z.cps.toList))) H) (dIn true) := by
  intro H ow x y d e z Q ok tr rx ry hg k
  unfold dIn at hg
  split at hg
  · split at hg
    · rename_i v ws h1 h2
      cases hg
      obtain ⟨p, vs, rfl, hp, rp⟩ := o_lst ry
      obtain ⟨e1, f1⟩ := flat_rep rx h1
      obtain ⟨e2, f2⟩ := flats_rep rp h2
      refine .inl ⟨p, vs, rfl, .inl (.inl (.inl hp)), f1, f2, ?_⟩
      have := k _ H ok (T.refl H) (.bl _)
      rw [e1, e2]
      simpa using this
    · cases hg
  · split at hg
    · rename_i v ws h1 h2
      cases hg
      obtain ⟨p, vs, rfl, hp, rp⟩ := o_tup ry
      obtain ⟨e1, f1⟩ := flat_rep rx h1
      obtain ⟨e2, f2⟩ := flats_rep rp h2
      refine .inl ⟨p, vs, rfl, .inr (SqH hp), f1, f2, ?_⟩
      have := k _ H ok (T.refl H) (.bl _)
      rw [e1, e2]
      simpa using this
    · cases hg
  · split at hg
    · rename_i c h1
      cases hg
      rw [o_str rx, o_str ry]
      refine .inr ⟨c, _, by rw [one_sign h1], rfl, ?_⟩
      have := k _ H ok (T.refl H) (.bl _)
      simpa using this
    · cases hg
  · cases hg
theorem or_notin : OpR X (compareOp .NotIn) (fun x y H Q => rIn X.K true x y H Q ∨ ∃ (c : Nat) (z : Str), x = .str ⟨#[c]⟩ ∧ y = .str z ∧ Q (.bl (!decide (c ∈ z.cps.toList))) H) := OpR.or op_notIn_seq op_notIn_sign
theorem atI_rep {K : PySem.W.Frag} {H : Hp} {ow : Addr → Prop} {vs : List V} {ds : List D} {i : Int} {d : D} (r : RepL K H ow vs ds) (h : atI ds i = some d) : ∃ v, atI vs i = some v ∧ Rep K H ow v d := by
  unfold atI at h ⊢
  rw [r.length]
  cases e : ixN ds.length i with
  | none => rw [e] at h; cases h
  | some j =>
    rw [e] at h
    obtain ⟨v, h1, h2⟩ := r.at' (show ds[j]? = some d from h)
    exact ⟨v, h1, h2⟩
theorem od_ix : OpD T (rIx X.K) dIx := by
  intro H ow x y d e z Q ok tr rx ry hg k
  unfold dIx at hg
  split at hg
  · obtain ⟨p, vs, rfl, hp, rp⟩ := o_lst rx
    rw [o_int ry]
    obtain ⟨v, h1, h2⟩ := atI_rep rp hg
    exact .inl ⟨p, vs, _, v, rfl, rfl, .inl (.inl hp), h1, k _ H ok (T.refl H) h2⟩
  · obtain ⟨p, vs, rfl, hp, rp⟩ := o_tup rx
    rw [o_int ry]
    obtain ⟨v, h1, h2⟩ := atI_rep rp hg
    exact .inr (.inl ⟨p, vs, _, v, rfl, rfl, SqH hp, h1, k _ H ok (T.refl H) h2⟩)
  · rename_i ns i
    obtain ⟨p, rfl, hp⟩ := o_scr rx
    rw [o_int ry]
    cases e : atI ns i with
    | none => rw [e] at hg; cases hg
    | some n =>
      rw [e] at hg
      cases hg
      refine .inl ⟨p, _, _, .int n, rfl, rfl, hp.l, ?_, k _ H ok (T.refl H) (.int n)⟩
      unfold atI at e ⊢
      rw [List.length_map]
      cases e2 : ixN ns.length i with
      | none => rw [e2] at e; cases e
      | some j =>
        rw [e2] at e
        show (ns.map V.int)[j]? = _
        rw [List.getElem?_map, show ns[j]? = some n from e]
        rfl
  · rename_i zz i
    split at hg
    · rename_i hl
      rw [o_str rx, o_int ry]
      cases e : atI zz.cps.toList i with
      | none => rw [e] at hg; cases hg
      | some c =>
        rw [e] at hg
        cases hg
        exact .inr (.inr ⟨_, _, c, rfl, rfl, big_sz hl, e, k _ H ok (T.refl H) (.str _)⟩)
    · cases hg
  · cases hg
end
end Dz
namespace Dz
open PySem PySem.Spec PyProof.Rows L2 Evl Bf
def aNil : DA := fun _ A _ => A []
def aCons (φ : DX) (φs : DA) : DA := fun ρ A Ax => φ ρ (fun x => φs ρ (fun xs => A (x :: xs)) Ax) Ax
def PostR (K : PySem.W.Frag) (H G : Hp) (ow : Addr → Prop) : Nat → V → D → Prop
  | 0, v, d => Rep K G ow v d
  | 1, v, d => ∃ p, v = .ref p ∧ H p = none ∧ OwnR K G (fun a => ow a ∨ a = p) p d
  | 2, v, d => ∃ fp, Own K G tt fp v d ∧ fp.Nodup ∧ ∀ a ∈ fp, H a = none
  | 3, v, d => Rep K G (fun a => ow a ∨ H a ≠ none) v d
  | 4, v, d => ∃ t v1 p d1 d2, v = .ref t ∧ d = .tup [d1, d2] ∧ G t = some (.tup [v1, .ref p]) ∧ H p = none ∧ Rep K G (fun a => ow a ∨ a = p) v1 d1 ∧ OwnR K G (fun a => ow a ∨ a = p) p d2
  | _ + 5, v, d => (d = .non ∧ v = .non) ∨ ∃ p, v = .ref p ∧ H p = none ∧ OwnR K G (fun a => ow a ∨ a = p) p d
def DcD (d : D) : Prop := (∃ kvs, d = .dic kvs) ∨ (∃ kvs, d = .dit kvs) ∨ ∃ xs, d = .lst xs
def PostF (K : PySem.W.Frag) (pin : List (Nat × Addr)) (H G : Hp) (ow : Addr → Prop) : Nat → V → D → Prop
  | 0, v, d => PostR K H G ow 0 v d
  | 1, v, d => PostR K H G ow 1 v d
  | 2, v, d => PostR K H G ow 2 v d
  | 3, v, d => PostR K H G ow 3 v d
  | 4, v, d => PostR K H G ow 4 v d
  | 5, v, d => PostR K H G ow 5 v d
  | 6, v, d => ∃ r ds, d = .tup (r :: ds) ∧ Rep K G (fun a => ow a ∨ a ∈ pin.map (·.2)) v r ∧ Paired (fun p x => OwnR K G (fun a => ow a ∨ a ∈ pin.map (·.2)) p x ∧ DcD x) (pin.map (·.2)) ds
  | n + 7, v, d => PostR K H G ow (n + 7) v d
theorem postF {K : PySem.W.Frag} {pin : List (Nat × Addr)} {H G : Hp} {ow : Addr → Prop} {v : V} {d : D} : ∀ {fz : Nat}, fz ≠ 6 → PostF K pin H G ow fz v d → PostR K H G ow fz v d
  | 0, _, h => h
  | 1, _, h => h
  | 2, _, h => h
  | 3, _, h => h
  | 4, _, h => h
  | 5, _, h => h
  | 6, n, _ => absurd rfl n
  | n + 7, _, h => h
section
variable {K : PySem.W.Frag} {H G : Hp} {ow : Addr → Prop} {v : V} {d : D}
theorem OwnR.rep {p : Addr} (h : OwnR K G (fun a => ow a ∨ a = p) p d) (n : ¬ ow p) : Rep K G ow (.ref p) d := by
  have m : Mv K G (fun a => ow a ∨ a = p) G ow := Mv.less fun a z => .inl z
  cases h with
  | lst a b => exact .lst a n (b.mv m)
  | dic a b => exact .dic (.inl a) n (b.mv m)
  | ins a b => exact .ins a n (b.mv m)
  | dit a b c => exact .dit a b n c
theorem PostR.rep {fz : Nat} (h : PostR K H G ow fz v d) (tr : ∀ a, ow a → H a ≠ none) : Rep K G ow v d := by
  match fz, h with
  | 0, h => exact h
  | 1, h =>
    obtain ⟨p, rfl, hp, o⟩ := h
    exact o.rep fun z => tr p z hp
  | 2, h =>
    obtain ⟨fp, o, _, n⟩ := h
    exact o.rep (fun _ _ => trivial) fun a ha z => tr a z (n a ha)
  | 3, h => exact h.mv (Mv.less fun _ z => .inl z)
  | 4, h =>
    obtain ⟨t, v1, p, d1, d2, rfl, rfl, ht, hp, r, o⟩ := h
    exact .tup ht (.cons (r.mv (Mv.less fun _ z => .inl z)) (.cons (o.rep fun z => tr p z hp) .nil))
  | _ + 5, h =>
    rcases h with ⟨rfl, rfl⟩ | ⟨p, rfl, hp, o⟩
    · exact .non
    · exact o.rep fun z => tr p z hp
end
def efOf {K : PySem.W.Frag} (T : Th K) (W : WX) (O : List Nat) (φ : DX) : TE := fun σ H Q => ∃ ρ ow0 fr A Ax, T.Ok H ∧ ER K H ow0 fr O σ ρ ∧ φ ρ A Ax ∧ (∀ d v G, A d → T.Ok G → T.Gr H G → PostR K H G (owOf ow0 O σ) 1 v d → Q v G) ∧ XOk T W H (owOf ow0 O σ) σ Ax
section
variable {X : Cx} {T : Th X.K} {W : WX} {O : List Nat} {e a b : Expr} {es : List Expr} {φ φa φb : DX} {φs : DA} {pos : Pos}
theorem be_f (h : PE X e (efOf T W O φ)) : PE X e (eOf T W O φ) := peI h fun σ H Q ⟨ρ, ow0, fr, A, Ax, ok, er, q, k, x⟩ => ⟨ρ, ow0, fr, A, Ax, ok, er, q, fun d v G a o g r => k d v G a o g (r.rep er.otrk), x⟩
theorem ba_nil : PA X [] (aOf T W O 0 aNil) := paI pa_nil fun σ H Q ⟨ρ, ow0, fr, A, Ax, ok, er, q, k, _⟩ => k [] [] H q rfl ok (T.refl H) .nil
theorem ba_cons {n : Nat} (ha : PE X e (eOf T W O φ)) (hr : PA X es (aOf T W O n φs)) (hs : starEach (e :: es) X.env = (false, eval e X.env) :: starEach es X.env := by rfl) : PA X (e :: es) (aOf T W O (n + 1) (aCons φ φs)) :=
  paI (pa_cons ha hr hs) fun σ H Q ⟨ρ, ow0, fr, A, Ax, ok, er, q, k, x⟩ => ⟨ρ, ow0, fr, _, Ax, ok, er, q, fun d v G qd okG gG rv =>
    ⟨ρ, ow0, fr, _, Ax, okG, er.gr T gG, qd, fun ds vs J qs hn okJ gJ rs => k _ _ J qs (by rw [List.length_cons, hn]) okJ (T.trans gG gJ) (.cons (rv.gr T gJ) rs), x.gr gG⟩, x⟩
theorem bo_nil : PA X [] (aoOf T W O aNil) := paI pa_nil fun σ H Q ⟨ρ, ow0, fr, A, Ax, ok, er, q, k, _⟩ => k [] [] H q ok (T.refl H) .nil
theorem bo_cons (ha : PE X e (eoOf T W O φ)) (hr : PA X es (aoOf T W O φs)) (hs : starEach (e :: es) X.env = (false, eval e X.env) :: starEach es X.env := by rfl) : PA X (e :: es) (aoOf T W O (aCons φ φs)) :=
  paI (pa_cons ha hr hs) fun σ H Q ⟨ρ, ow0, fr, A, Ax, ok, er, q, k, x⟩ => ⟨ρ, ow0, fr, _, Ax, ok, er, q, fun d v G qd okG gG rv =>
    ⟨ρ, ow0, fr, _, Ax, okG, er.gr T gG, qd, fun ds vs J qs okJ gJ rs => k _ _ J qs okJ (T.trans gG gJ) (.cons (rv.gr T gJ) rs), x.gr gG⟩, x⟩
def xTup (φs : DA) : DX := fun ρ A Ax => φs ρ (fun xs => xs.length ≤ big ∧ A (.tup xs)) Ax
def xLst (φs : DA) : DX := fun ρ A Ax => φs ρ (fun xs => xs.length ≤ big ∧ A (.lst xs)) Ax
theorem be_tup {x1} {n : Nat} (h : PA X es (aOf T W O n φs)) : PE X (.Tuple es x1 pos) (eOf T W O (xTup φs)) :=
  peI (pe_tup h) fun σ H Q ⟨ρ, ow0, fr, A, Ax, ok, er, q, k, x⟩ => ⟨ρ, ow0, fr, _, Ax, ok, er, q, fun ds vs G ⟨hl, qd⟩ _ okG gG rv => ⟨by rw [rv.length]; exact big_sz hl, fun p hp => by
    obtain ⟨h1, h2, h3⟩ := new_tup okG (er.gr T gG).otrk hp rv
    exact k _ _ _ qd h1 (T.trans gG h2) h3⟩, x⟩
theorem more_own {K : PySem.W.Frag} {H : Hp} {ow : Addr → Prop} {p : Addr} (hp : H p = none) : Mv K H ow H (fun a => ow a ∨ a = p) := Mv.more fun a z => z.imp_right fun (e : a = p) => by rw [e]; exact hp
theorem new_own {K : PySem.W.Frag} {T : Th K} {H : Hp} {ow : Addr → Prop} {p : Addr} {vs : List V} {ds : List D} (ok : T.Ok H) (hp : H p = none) (r : RepL K H ow vs ds) :
    T.Ok (upd H p (.lst vs)) ∧ T.Gr H (upd H p (.lst vs)) ∧ OwnR K (upd H p (.lst vs)) (fun a => ow a ∨ a = p) p (.lst ds) := by
  obtain ⟨h1, h2⟩ := T.new (o := .lst vs) ok hp rfl
  exact ⟨h1, h2, .lst upd_same ((r.mv (more_own hp)).gr T h2)⟩
theorem new_ownD {K : PySem.W.Frag} {T : Th K} {H : Hp} {ow : Addr → Prop} {p : Addr} {vs : List (Key × V)} {ds : List (Key × D)} (ok : T.Ok H) (hp : H p = none) (r : RepK K H ow vs ds) :
    T.Ok (upd H p (.dK vs)) ∧ T.Gr H (upd H p (.dK vs)) ∧ OwnR K (upd H p (.dK vs)) (fun a => ow a ∨ a = p) p (.dic ds) := by
  obtain ⟨h1, h2⟩ := T.new (o := .dK vs) ok hp rfl
  exact ⟨h1, h2, .dic upd_same ((r.mv (more_own hp)).mv (Mv.gr T h2))⟩
theorem bf_lst {n : Nat} (h : PA X es (aOf T W O n φs)) : PE X (.List es pos) (efOf T W O (xLst φs)) :=
  peI (pe_lst h) fun σ H Q ⟨ρ, ow0, fr, A, Ax, ok, er, q, k, x⟩ => ⟨ρ, ow0, fr, _, Ax, ok, er, q, fun ds vs G ⟨hl, qd⟩ _ okG gG rv => ⟨by rw [rv.length]; exact big_sz hl, fun p hp => by
    obtain ⟨h1, h2, h3⟩ := new_own okG hp rv
    exact k _ _ _ qd h1 (T.trans gG h2) ⟨p, rfl, T.back gG hp, h3⟩⟩, x⟩
theorem bf_dnew : PE X (.Dict [] [] pos) (efOf T W O (xC (.dic []))) :=
  peI pe_dnewK fun σ H Q ⟨ρ, ow0, fr, A, Ax, ok, er, q, k, x⟩ => fun p hp => by
    obtain ⟨h1, h2, h3⟩ := new_ownD (ow := owOf ow0 O σ) ok hp (.nil (K := X.K))
    exact k _ _ _ q h1 h2 ⟨p, rfl, hp, h3⟩
def xB (g : List D → Option D) (φs : DA) : DX := fun ρ A Ax => φs ρ (fun xs => ∃ z, g xs = some z ∧ A z) Ax
def CallD (T : Th X.K) (r : List V → Hp → VK → Prop) (fz : Nat) (g : List D → Option D) : Prop := ∀ (H : Hp) (ow : Addr → Prop) (vs : List V) (ds : List D) (z : D) (Q : VK), T.Ok H → (∀ a, ow a → H a ≠ none) → Paired (RepO X.K H ow) vs ds → g ds = some z →
  (∀ v G, T.Ok G → T.Gr H G → PostR X.K H G ow fz v z → Q v G) → r vs H Q
variable {r : List V → Hp → VK → Prop} {g : List D → Option D} {id : String} {nm : String} {x : Str} {p : Pos}
theorem cb_aux (hg : CallD T r 0 g) {σ : L2.St} {H : Hp} {Q : VK} (h : eOf T W O (xB g φs) σ H Q) : tCB r (aoOf T W O φs) σ H Q := by
  obtain ⟨ρ, ow0, fr, A, Ax, ok, er, q, k, x⟩ := h
  exact ⟨ρ, ow0, fr, _, Ax, ok, er, q, fun ds vs G ⟨z, ez, qz⟩ okG gG rv => hg G (owOf ow0 O σ) vs ds z Q okG (er.gr T gG).otrk rv ez fun v J okJ gJ rJ => k z v J qz okJ (T.trans gG gJ) rJ, x⟩
theorem cf_aux (hg : CallD T r 1 g) {σ : L2.St} {H : Hp} {Q : VK} (h : efOf T W O (xB g φs) σ H Q) : tCB r (aoOf T W O φs) σ H Q := by
  obtain ⟨ρ, ow0, fr, A, Ax, ok, er, q, k, x⟩ := h
  exact ⟨ρ, ow0, fr, _, Ax, ok, er, q, fun ds vs G ⟨z, ez, qz⟩ okG gG rv => hg G (owOf ow0 O σ) vs ds z Q okG (er.gr T gG).otrk rv ez fun v J okJ gJ ⟨p, e1, e2, e3⟩ => k z v J qz okJ (T.trans gG gJ) ⟨p, e1, T.back gG e2, e3⟩, x⟩
theorem be_bf (hc : CallR X (.builtin id) r) (hg : CallD T r 0 g) (hG : Gl X x) (hm : X.mg x = none) (hv : bootBuiltins x = some (.builtin id)) (ha : PA X (e :: es) (aoOf T W O φs)) (hn : x ≠ "__name__" := by decide) (hdb : (x == ("__debug__" : Str)) = false := by decide)
    (he : starEach (e :: es) X.env = (false, eval e X.env) :: starEach es X.env := by rfl) (hpl : (backTo pos (starEach es X.env)).any (·.1) = false := by rfl) : PE X (.Call (.Name x p) (e :: es) [] pos) (eOf T W O (xB g φs)) := peI (pe_callB hc hG hm hv ha hn hdb he hpl) fun _ _ _ h => cb_aux hg h
theorem be_bt (hc : CallR X (.type nm) r) (hg : CallD T r 0 g) (hG : Gl X x) (hm : X.mg x = none) (hv : bootBuiltins x = some (.type nm)) (ha : PA X (e :: es) (aoOf T W O φs)) (hn : x ≠ "__name__" := by decide) (hdb : (x == ("__debug__" : Str)) = false := by decide)
    (he : starEach (e :: es) X.env = (false, eval e X.env) :: starEach es X.env := by rfl) (hpl : (backTo pos (starEach es X.env)).any (·.1) = false := by rfl) : PE X (.Call (.Name x p) (e :: es) [] pos) (eOf T W O (xB g φs)) := peI (pe_callTy hc hG hm hv ha hn hdb he hpl) fun _ _ _ h => cb_aux hg h
theorem bf_bf (hc : CallR X (.builtin id) r) (hg : CallD T r 1 g) (hG : Gl X x) (hm : X.mg x = none) (hv : bootBuiltins x = some (.builtin id)) (ha : PA X (e :: es) (aoOf T W O φs)) (hn : x ≠ "__name__" := by decide) (hdb : (x == ("__debug__" : Str)) = false := by decide)
    (he : starEach (e :: es) X.env = (false, eval e X.env) :: starEach es X.env := by rfl) (hpl : (backTo pos (starEach es X.env)).any (·.1) = false := by rfl) : PE X (.Call (.Name x p) (e :: es) [] pos) (efOf T W O (xB g φs)) := peI (pe_callB hc hG hm hv ha hn hdb he hpl) fun _ _ _ h => cf_aux hg h
theorem bf_bt (hc : CallR X (.type nm) r) (hg : CallD T r 1 g) (hG : Gl X x) (hm : X.mg x = none) (hv : bootBuiltins x = some (.type nm)) (ha : PA X (e :: es) (aoOf T W O φs)) (hn : x ≠ "__name__" := by decide) (hdb : (x == ("__debug__" : Str)) = false := by decide)
    (he : starEach (e :: es) X.env = (false, eval e X.env) :: starEach es X.env := by rfl) (hpl : (backTo pos (starEach es X.env)).any (·.1) = false := by rfl) : PE X (.Call (.Name x p) (e :: es) [] pos) (efOf T W O (xB g φs)) := peI (pe_callTy hc hG hm hv ha hn hdb he hpl) fun _ _ _ h => cf_aux hg h
end
def D.strs : List D → Option (List Str)
  | [] => some []
  | .str s :: ds => match D.strs ds with | some r => some (s :: r) | none => none
  | _ :: _ => none
theorem strs_of : ∀ {ds : List D} {xs : List Str}, D.strs ds = some xs → ds = xs.map D.str
  | [], xs, h => by cases h; rfl
  | .str s :: ds, xs, h => by
    unfold D.strs at h
    split at h
    · rename_i r e
      cases h
      rw [strs_of e]; rfl
    · cases h
  | .non :: _, _, h => by cases h
  | .bl _ :: _, _, h => by cases h
  | .int _ :: _, _, h => by cases h
  | .lst _ :: _, _, h => by cases h
  | .tup _ :: _, _, h => by cases h
  | .dic _ :: _, _, h => by cases h
  | .ins _ _ :: _, _, h => by cases h
  | .ty _ :: _, _, h => by cases h
  | .cls _ :: _, _, h => by cases h
  | .scr _ :: _, _, h => by cases h
  | .exc _ _ _ _ :: _, _, h => by cases h
  | .well _ :: _, _, h => by cases h
  | .fam _ _ _ :: _, _, h => by cases h
  | .dit _ :: _, _, h => by cases h
theorem strs_map : ∀ xs : List Str, D.strs (xs.map D.str) = some xs
  | [] => rfl
  | x :: xs => by
    show (match D.strs (xs.map D.str) with | some r => some (x :: r) | none => none) = _
    rw [strs_map xs]
def D.bls : List D → Option (List Bool)
  | [] => some []
  | .bl s :: ds => match D.bls ds with | some r => some (s :: r) | none => none
  | _ :: _ => none
theorem bls_of : ∀ {ds : List D} {xs : List Bool}, D.bls ds = some xs → ds = xs.map D.bl
  | [], xs, h => by cases h; rfl
  | .bl s :: ds, xs, h => by
    unfold D.bls at h
    split at h
    · rename_i r e
      cases h
      rw [bls_of e]; rfl
    · cases h
  | .non :: _, _, h => by cases h
  | .str _ :: _, _, h => by cases h
  | .int _ :: _, _, h => by cases h
  | .lst _ :: _, _, h => by cases h
  | .tup _ :: _, _, h => by cases h
  | .dic _ :: _, _, h => by cases h
  | .ins _ _ :: _, _, h => by cases h
  | .ty _ :: _, _, h => by cases h
  | .cls _ :: _, _, h => by cases h
  | .scr _ :: _, _, h => by cases h
  | .exc _ _ _ _ :: _, _, h => by cases h
  | .well _ :: _, _, h => by cases h
  | .fam _ _ _ :: _, _, h => by cases h
  | .dit _ :: _, _, h => by cases h
theorem bls_map : ∀ xs : List Bool, D.bls (xs.map D.bl) = some xs
  | [] => rfl
  | x :: xs => by
    show (match D.bls (xs.map D.bl) with | some r => some (x :: r) | none => none) = _
    rw [bls_map xs]
def dLen : List D → Option D
  | [.lst xs] => some (.int xs.length)
  | [.tup xs] => some (.int xs.length)
  | [.scr xs] => some (.int xs.length)
  | [.str z] => if z.length ≤ big then some (.int z.length) else none
  | _ => none
def dLenD : List D → Option D
  | [.dic xs] => some (.int xs.length)
  | _ => none
def dList : List D → Option D
  | [.lst xs] => some (.lst xs)
  | [.tup xs] => some (.lst xs)
  | [.scr ns] => some (.lst (ns.map .int))
  | _ => none
def dTuple : List D → Option D
  | [.lst xs] => some (.tup xs)
  | [.tup xs] => some (.tup xs)
  | _ => none
def dSorted : List D → Option D
  | [.lst xs] => match D.strs xs with
    | some ss => if ss.length < 64 then some (.lst ((srt ss).map .str)) else none
    | none => none
  | [.tup xs] => match D.strs xs with
    | some ss => if ss.length < 64 then some (.lst ((srt ss).map .str)) else none
    | none => none
  | _ => none
def dMin : List D → Option D
  | [.int i, .int j] => some (.int (if j < i then j else i))
  | _ => none
def dMax : List D → Option D
  | [.int i, .int j] => some (.int (if j > i then j else i))
  | _ => none
def dAll : List D → Option D
  | [.lst xs] => match D.bls xs with
    | some bs => some (.bl (bs.all id))
    | none => none
  | _ => none
theorem pair1 {α β : Type} {R : α → β → Prop} {vs : List α} {d : β} (h : Paired R vs [d]) : ∃ v, vs = [v] ∧ R v d := by
  cases h with
  | cons a t => cases t; exact ⟨_, rfl, a⟩
theorem pair2 {α β : Type} {R : α → β → Prop} {vs : List α} {d e : β} (h : Paired R vs [d, e]) : ∃ v w, vs = [v, w] ∧ R v d ∧ R w e := by
  cases h with
  | cons a t => cases t with
    | cons b t => cases t; exact ⟨_, _, rfl, a, b⟩
section
variable {X : Cx} {T : Th X.K}
theorem cd_len : CallD T (fun xs H Q => ∃ x n, xs = [x] ∧ LenV X.K x H n ∧ Q (.int n) H) 0 dLen := by
  intro H ow vs ds z Q ok tr r hg k
  unfold dLen at hg
  split at hg
  · cases hg
    obtain ⟨v, rfl, rv⟩ := pair1 r
    obtain ⟨p, ws, rfl, hp, rp⟩ := o_lst rv
    exact ⟨_, _, rfl, .inl ⟨ws, .inl (.inl hp), rp.length.symm⟩, k _ H ok (T.refl H) (.int _)⟩
  · cases hg
    obtain ⟨v, rfl, rv⟩ := pair1 r
    obtain ⟨p, ws, rfl, hp, rp⟩ := o_tup rv
    exact ⟨_, _, rfl, .inr ⟨ws, SqH hp, rp.length.symm⟩, k _ H ok (T.refl H) (.int _)⟩
  · cases hg
    obtain ⟨v, rfl, rv⟩ := pair1 r
    obtain ⟨p, rfl, hp⟩ := o_scr rv
    exact ⟨_, _, rfl, .inl ⟨_, hp.l, (List.length_map _).symm⟩, k _ H ok (T.refl H) (.int _)⟩
  · split at hg
    · rename_i hl
      cases hg
      obtain ⟨v, rfl, rv⟩ := pair1 r
      rw [o_str rv]
      exact ⟨_, _, rfl, ⟨big_sz hl, rfl⟩, k _ H ok (T.refl H) (.int _)⟩
    · cases hg
  · cases hg
theorem RepK.length {K : PySem.W.Frag} {H : Hp} {ow : Addr → Prop} : ∀ {vs : List (Key × V)} {ds : List (Key × D)}, RepK K H ow vs ds → vs.length = ds.length
  | _, _, .nil => rfl
  | _, _, .cons _ t => by rw [List.length_cons, List.length_cons, RepK.length t]
theorem cd_list : CallD T (fun xs H Q => ∃ p ys, xs = [.ref p] ∧ (SqL X.K H p ys ∨ SqT X.K H p ys) ∧ ∀ l, H l = none → Q (.ref l) (upd H l (.lst ys))) 1 dList := by
  intro H ow vs ds z Q ok tr r hg k
  unfold dList at hg
  split at hg
  · cases hg
    obtain ⟨v, rfl, rv⟩ := pair1 r
    obtain ⟨p, ws, rfl, hp, rp⟩ := o_lst rv
    refine ⟨_, _, rfl, .inl (.inl (.inl hp)), fun l hl => ?_⟩
    obtain ⟨h1, h2, h3⟩ := new_own ok hl rp
    exact k _ _ h1 h2 ⟨l, rfl, hl, h3⟩
  · cases hg
    obtain ⟨v, rfl, rv⟩ := pair1 r
    obtain ⟨p, ws, rfl, hp, rp⟩ := o_tup rv
    refine ⟨_, _, rfl, .inr (SqH hp), fun l hl => ?_⟩
    obtain ⟨h1, h2, h3⟩ := new_own ok hl rp
    exact k _ _ h1 h2 ⟨l, rfl, hl, h3⟩
  · cases hg
    obtain ⟨v, rfl, rv⟩ := pair1 r
    obtain ⟨p, rfl, hp⟩ := o_scr rv
    refine ⟨_, _, rfl, .inl hp.l, fun l hl => ?_⟩
    obtain ⟨h1, h2, h3⟩ := new_own (ow := ow) ok hl (ints_repL (K := X.K) _)
    exact k _ _ h1 h2 ⟨l, rfl, hl, h3⟩
  · cases hg
theorem cd_tuple : CallD T (fun xs H Q => ∃ p ys, xs = [.ref p] ∧ ((SqL X.K H p ys ∧ ∀ l, H l = none → Q (.ref l) (upd H l (.tup ys))) ∨ (SqT X.K H p ys ∧ Q (.ref p) H))) 0 dTuple := by
  intro H ow vs ds z Q ok tr r hg k
  unfold dTuple at hg
  split at hg
  · cases hg
    obtain ⟨v, rfl, rv⟩ := pair1 r
    obtain ⟨p, ws, rfl, hp, rp⟩ := o_lst rv
    refine ⟨_, _, rfl, .inl ⟨.inl (.inl hp), fun l hl => ?_⟩⟩
    obtain ⟨h1, h2, h3⟩ := new_tup ok tr hl rp
    exact k _ _ h1 h2 h3
  · cases hg
    obtain ⟨v, rfl, rv⟩ := pair1 r
    obtain ⟨p, ws, rfl, hp, rp⟩ := o_tup rv
    exact ⟨_, _, rfl, .inr ⟨SqH hp, k _ H ok (T.refl H) (.tup hp rp)⟩⟩
  · cases hg
theorem CallR.or {X : Cx} {f : Value} {r r' : List V → Hp → VK → Prop} (h : CallR X f r) (h' : CallR X f r') : CallR X f (fun vs H Q => r vs H Q ∨ r' vs H Q) := by
  intro pins s σ H vs us Q I rv q
  rcases q with q | q
  · exact h pins s σ H vs us Q I rv q
  · exact h' pins s σ H vs us Q I rv q
theorem cd_sorted : CallD T (fun vs H Q => rSortedS X.K vs H Q ∨ rSortedTS X.K vs H Q) 1 dSorted := by
  intro H ow vs ds z Q ok tr r hg k
  unfold dSorted at hg
  split at hg
  · split at hg
    · rename_i ss e
      split at hg
      · rename_i hl
        cases hg
        obtain ⟨v, rfl, rv⟩ := pair1 r
        obtain ⟨p, ws, rfl, hp, rp⟩ := o_lst rv
        rw [strs_of e] at rp
        rw [repL_strs rp] at hp
        refine .inl ⟨p, ss, rfl, .inl (.inl hp), hl, fun ys q pm st hq => ?_⟩
        rw [srt_eq pm st]
        obtain ⟨h1, h2, h3⟩ := new_own (ow := ow) ok hq (strs_repL (K := X.K) (srt ss))
        exact k _ _ h1 h2 ⟨q, rfl, hq, h3⟩
      · cases hg
    · cases hg
  · split at hg
    · rename_i ss e
      split at hg
      · rename_i hl
        cases hg
        obtain ⟨v, rfl, rv⟩ := pair1 r
        obtain ⟨p, ws, rfl, hp, rp⟩ := o_tup rv
        rw [strs_of e] at rp
        rw [repL_strs rp] at hp
        refine .inr ⟨p, ss, rfl, SqH hp, hl, fun ys q pm st hq => ?_⟩
        rw [srt_eq pm st]
        obtain ⟨h1, h2, h3⟩ := new_own (ow := ow) ok hq (strs_repL (K := X.K) (srt ss))
        exact k _ _ h1 h2 ⟨q, rfl, hq, h3⟩
      · cases hg
    · cases hg
  · cases hg
theorem cr_sortedD : CallR X (.builtin "sorted") (fun vs H Q => rSortedS X.K vs H Q ∨ rSortedTS X.K vs H Q) := CallR.or cr_sortedS cr_sortedTS
theorem cd_all : CallD T (rAll X.K) 0 dAll := by
  intro H ow vs ds z Q ok tr r hg k
  unfold dAll at hg
  split at hg
  · split at hg
    · rename_i bs e
      cases hg
      obtain ⟨v, rfl, rv⟩ := pair1 r
      obtain ⟨p, ws, rfl, hp, rp⟩ := o_lst rv
      rw [bls_of e] at rp
      rw [repL_bls rp] at hp
      exact ⟨p, bs, rfl, .inl (.inl hp), k _ H ok (T.refl H) (.bl _)⟩
    · cases hg
  · cases hg
def tyN : D → Option String
  | .non => some "NoneType"
  | .bl _ => some "bool"
  | .int _ => some "int"
  | .str _ => some "str"
  | .lst _ => some "list"
  | .tup _ => some "tuple"
  | .dic _ => some "dict"
  | _ => none
theorem ty_rep {K : PySem.W.Frag} {H : Hp} {ow : Addr → Prop} {v : V} {d : D} {t : String} (h : RepO K H ow v d) (e : tyN d = some t) : TyX K H v (.type t) := by
  cases d with
  | non => cases e; rw [o_non h]; exact .base .non
  | bl b => cases e; rw [o_bl h]; exact .base (.bl b)
  | int b => cases e; rw [o_int h]; exact .base (.int b)
  | str b => cases e; rw [o_str h]; exact .base (.str b)
  | lst b =>
    cases e
    obtain ⟨p, ws, rfl, hp, rp⟩ := o_lst h
    exact .base (.lst hp)
  | tup b =>
    cases e
    obtain ⟨p, ws, rfl, hp, rp⟩ := o_tup h
    exact .base (.tup hp)
  | dic b =>
    cases e
    obtain ⟨p, ws, rfl, hp, rp⟩ := o_dic h
    exact hp.elim (fun z => .base (.dK z)) fun ⟨_, z⟩ => .fDict z
  | _ => cases e
def dIsi : List D → Option D
  | [d, .ty n] => match tyN d with
    | some t => (kitB t n).map .bl
    | none => none
  | _ => none
theorem cd_isi : CallD T (rIsi X.K) 0 dIsi := by
  intro H ow vs ds z Q ok tr r hg k
  unfold dIsi at hg
  split at hg
  · rename_i d n
    split at hg
    · rename_i t e
      obtain ⟨v, w, rfl, rv, rw'⟩ := pair2 r
      rw [o_ty rw']
      cases e2 : kitB t n with
      | none => rw [e2] at hg; cases hg
      | some b =>
        rw [e2] at hg
        cases hg
        exact ⟨_, _, _, _, b, rfl, .ty n, ty_rep rv e, kit_ty e2, k _ H ok (T.refl H) (.bl b)⟩
    · cases hg
  · cases hg
end
end Dz
namespace Dz
open PySem PySem.Spec PyProof.Rows L2 Evl Bf
abbrev DO := Ro → (Option Int → Prop) → XQ → Prop
def oNone : DO := fun _ A _ => A none
def oSome (φ : DX) : DO := fun ρ A Ax => φ ρ (fun x => ∃ i, x = .int i ∧ A (some i)) Ax
def poOf {K : PySem.W.Frag} (T : Th K) (W : WX) (O : List Nat) (φ : DO) : TO := fun σ H Q => ∃ ρ ow0 fr A Ax, T.Ok H ∧ ER K H ow0 fr O σ ρ ∧ φ ρ A Ax ∧ (∀ d G, A d → T.Ok G → T.Gr H G → Q d G) ∧ XOk T W H (owOf ow0 O σ) σ Ax
def cut {α : Type} (xs : List α) (lo hi : Option Int) : List α := (xs.drop (HT.sIx xs.length 0 lo)).take (HT.sIx xs.length xs.length hi - HT.sIx xs.length 0 lo)
def dSl : D → Option Int → Option Int → Option D
  | .lst xs, lo, hi => some (.lst (cut xs lo hi))
  | .tup xs, lo, hi => some (.tup (cut xs lo hi))
  | .str z, lo, hi => if z.length ≤ big then some (.str (cutS z lo hi)) else none
  | .scr ns, lo, hi => some (.lst ((cut ns lo hi).map .int))
  | _, _, _ => none
def xSl (φ : DX) (φl φh : DO) : DX := fun ρ A Ax => φ ρ (fun x => φl ρ (fun l => φh ρ (fun h => ∃ z, dSl x l h = some z ∧ A z) Ax) Ax) Ax
section
variable {X : Cx} {T : Th X.K} {W : WX} {O : List Nat} {e o i a b : Expr} {es : List Expr} {φ φa φb : DX} {φs : DA} {φl φh : DO} {pos p2 p : Pos}
theorem bp_none : PO X none (poOf T W O oNone) := ⟨fun pins s σ H Q I ⟨ρ, ow0, fr, A, Ax, ok, er, q, k, x⟩ => po_none.run pins s σ H Q I (k none H q ok (T.refl H))⟩
theorem rep_int {K : PySem.W.Frag} {H : Hp} {ow : Addr → Prop} {v : V} {i : Int} (h : Rep K H ow v (.int i)) : v = .int i := by cases h; rfl
theorem bp_some (h : PE X e (eOf T W O φ)) : PO X (some e) (poOf T W O (oSome φ)) := ⟨fun pins s σ H Q I ⟨ρ, ow0, fr, A, Ax, ok, er, q, k, x⟩ => (po_some h).run pins s σ H Q I
  ⟨ρ, ow0, fr, _, Ax, ok, er, q, fun d v G ⟨i, e1, qi⟩ okG gG rv => by subst e1; exact ⟨i, rep_int rv, k _ G qi okG gG⟩, x⟩⟩
theorem cut_repL {K : PySem.W.Frag} {H : Hp} {ow : Addr → Prop} {vs : List V} {ds : List D} {lo hi : Option Int} (r : RepL K H ow vs ds) : RepL K H ow (cutV vs lo hi) (cut ds lo hi) := by
  unfold cutV cut
  rw [r.length]
  exact (r.drop _).take _
theorem be_slice {lo hi : Option Expr} (he : PE X e (eoOf T W O φ)) (hl : PO X lo (poOf T W O φl)) (hu : PO X hi (poOf T W O φh)) : PE X (.Subscript e (.Slice lo hi none p2) pos) (eOf T W O (xSl φ φl φh)) := by
  refine peI (pe_slice (SlR.or sl_list (SlR.or sl_tupA sl_str)) he hl hu) fun σ H Q ⟨ρ, ow0, fr, A, Ax, ok, er, q, k, x⟩ => ?_
  refine ⟨ρ, ow0, fr, _, Ax, ok, er, q, fun d v G qd okG gG rv => ?_, x⟩
  have er1 := er.gr T gG
  refine ⟨ρ, ow0, fr, _, Ax, okG, er1, qd, fun l J ql okJ gJ => ?_, x.gr gG⟩
  have er2 := er1.gr T gJ
  refine ⟨ρ, ow0, fr, _, Ax, okJ, er2, ql, fun h L ⟨z, ez, qz⟩ okL gL => ?_, x.gr (T.trans gG gJ)⟩
  have rv2 := (rv.gr T gJ).gr T gL
  have g3 := T.trans gG (T.trans gJ gL)
  have tr := (er2.gr T gL).otrk
  unfold dSl at ez
  split at ez
  · cases ez
    obtain ⟨p, ws, rfl, hp, rp⟩ := o_lst rv2
    refine .inl ⟨p, ws, rfl, .inl (.inl hp), fun y hy => ?_⟩
    obtain ⟨h1, h2, h3⟩ := new_lst okL tr hy (cut_repL (lo := l) (hi := h) rp)
    exact k _ _ _ qz h1 (T.trans g3 h2) h3
  · cases ez
    obtain ⟨p, ws, rfl, hp, rp⟩ := o_tup rv2
    refine .inr (.inl ⟨p, ws, rfl, SqH hp, fun hw => ?_, fun _ y hy => ?_⟩)
    · have e1 : cutV ws l h = ws := by
        unfold cutV
        rw [hw.1, hw.2, List.drop_zero, Nat.sub_zero, List.take_length]
      have r2 := cut_repL (lo := l) (hi := h) rp
      rw [e1] at r2
      exact k _ _ L qz okL g3 (.tup hp r2)
    · obtain ⟨h1, h2, h3⟩ := new_tup okL tr hy (cut_repL (lo := l) (hi := h) rp)
      exact k _ _ _ qz h1 (T.trans g3 h2) h3
  · split at ez
    · rename_i hl
      cases ez
      rw [o_str rv2]
      exact .inr (.inr ⟨_, rfl, big_sz hl, k _ _ L qz okL g3 (.str _)⟩)
    · cases ez
  · cases ez
    obtain ⟨p, rfl, hp⟩ := o_scr rv2
    refine .inl ⟨p, _, rfl, hp.l, fun y hy => ?_⟩
    have e1 : ∀ ns : List Int, cutV (ns.map V.int) l h = (cut ns l h).map V.int := fun ns => by
      unfold cutV cut
      rw [List.length_map, ← List.map_drop, ← List.map_take]
    rw [e1]
    obtain ⟨h1, h2, h3⟩ := new_lst okL tr hy (ints_repL _)
    exact k _ _ _ qz h1 (T.trans g3 h2) h3
  · cases ez
def dKey : D → Option Key
  | .int i => some (Sum.inl i)
  | .str s => some (Sum.inr s)
  | _ => none
def dVal (kvs : List (Key × D)) (k : Key) : Option D := (kvs.find? fun kv => decide (kv.1 = k)).map (·.2)
def putD (kvs : List (Key × D)) (k : Key) (v : D) : List (Key × D) := if (kvs.any fun kv => decide (kv.1 = k)) = true then kvs.map (fun kv => if kv.1 = k then (kv.1, v) else kv) else kvs ++ [(k, v)]
theorem key_rep {K : PySem.W.Frag} {H : Hp} {ow : Addr → Prop} {v : V} {d : D} {k : Key} (h : RepO K H ow v d) (e : dKey d = some k) : v = kV k := by
  cases d with
  | int i => cases e; exact o_int h
  | str i => cases e; exact o_str h
  | _ => cases e
theorem val_rep {K : PySem.W.Frag} {H : Hp} {ow : Addr → Prop} (k : Key) : ∀ {vs : List (Key × V)} {ds : List (Key × D)}, RepK K H ow vs ds → (∃ v d, valV vs k = some v ∧ dVal ds k = some d ∧ Rep K H ow v d) ∨ (valV vs k = none ∧ dVal ds k = none)
  | _, _, .nil => .inr ⟨rfl, rfl⟩
  | _, _, .cons (k := k') r t => by
    unfold valV dVal
    rw [List.find?_cons, List.find?_cons]
    by_cases c : k' = k
    · rw [decide_eq_true c]
      exact .inl ⟨_, _, rfl, rfl, r⟩
    · rw [decide_eq_false c]
      exact val_rep k t
def xDGet (φd φk : DX) : DX := fun ρ A Ax => φd ρ (fun x => φk ρ (fun y => ∃ kvs k z, x = .dic kvs ∧ dKey y = some k ∧ dVal kvs k = some z ∧ A z) Ax) Ax
def xDIn (neg : Bool) (φk φd : DX) : DX := fun ρ A Ax => φk ρ (fun y => φd ρ (fun x => ∃ kvs k, x = .dic kvs ∧ dKey y = some k ∧ A (.bl (neg != (dVal kvs k).isSome))) Ax) Ax
theorem dget_rd {H : Hp} {d : Addr} {kvs : List (Key × V)} {k : Key} (h : Rd H d (.dK kvs)) : DGet H d (kV k) (valV kvs k) := .inl ⟨kvs, k, h, rfl, rfl⟩
theorem be_dget (hu : X.A.units + 1 < cLine) (ho : PE X o (eoOf T W O φa)) (hi : PE X i (eOf T W O φb)) (hs : NoSl i) : PE X (.Subscript o i pos) (eOf T W O (xDGet φa φb)) := by
  refine peI (pe_dget hu ho hi hs) fun σ H Q ⟨ρ, ow0, fr, A, Ax, ok, er, q, k, x⟩ => ⟨ρ, ow0, fr, _, Ax, ok, er, q, fun d v G qd okG gG rv => ?_, x⟩
  refine ⟨ρ, ow0, fr, _, Ax, okG, er.gr T gG, qd, fun d' v' J ⟨kvs, kk, z, e1, e2, e3, qz⟩ okJ gJ rv' => ?_, x.gr gG⟩
  subst e1
  obtain ⟨p, ws, rfl, hp, rp⟩ := o_dic (rv.gr T gJ)
  rw [key_rep rv'.o e2]
  rcases val_rep kk rp with ⟨w, d2, h1, h2, h3⟩ | ⟨_, h2⟩
  · rw [e3] at h2
    cases h2
    exact ⟨p, w, rfl, by rw [← h1]; exact dget_rd hp, k _ _ J qz okJ (T.trans gG gJ) h3⟩
  · rw [e3] at h2; cases h2
theorem din_aux (neg : Bool) {σ : L2.St} {H : Hp} {Q : VK} (h : eOf T W O (xDIn neg φa φb) σ H Q) : eOf T W O φa σ H fun y H1 => eoOf T W O φb σ H1 fun x H2 => ∃ a o, x = .ref a ∧ DGet H2 a y o ∧ Q (.bl (neg != o.isSome)) H2 := by
  obtain ⟨ρ, ow0, fr, A, Ax, ok, er, q, k, x⟩ := h
  refine ⟨ρ, ow0, fr, _, Ax, ok, er, q, fun d v G qd okG gG rv => ?_, x⟩
  refine ⟨ρ, ow0, fr, _, Ax, okG, er.gr T gG, qd, fun d' v' J ⟨kvs, kk, e1, e2, qz⟩ okJ gJ rv' => ?_, x.gr gG⟩
  subst e1
  obtain ⟨p, ws, rfl, hp, rp⟩ := o_dic rv'
  rw [key_rep rv.o e2]
  refine ⟨p, _, rfl, dget_rd hp, ?_⟩
  have e3 : (valV ws kk).isSome = (dVal kvs kk).isSome := by
    rcases val_rep kk rp with ⟨w, d2, h1, h2, h3⟩ | ⟨h1, h2⟩
    · rw [h1, h2]; rfl
    · rw [h1, h2]; rfl
  rw [e3]
  exact k _ _ J qz okJ (T.trans gG gJ) (.bl _)
theorem bt_din (hu : X.A.units + 1 < cLine) (hi : PE X i (eOf T W O φa)) (ho : PE X o (eoOf T W O φb)) (h1 : behindInMarks .In o = false := by rfl) : PT X (.Compare i [.In] [o] pos) (tOf T W O (tB' (xDIn false φa φb))) :=
  ptI (L2.pt_cmp (pc_din hu hi ho) h1) fun σ H Q h => by
    have z := din_aux false (b_aux h)
    simp only [Bool.false_bne] at z
    exact z
end
def spOf {K : PySem.W.Frag} (T : Th K) (fz : Nat) (n : Nat) (F : DF) : Sp := fun vs H Q E => vs.length = n ∧ ∃ ds ow A Ax, T.Ok H ∧ (∀ a, ow a → H a ≠ none) ∧ RepL K H ow vs ds ∧ F ds A Ax ∧
  (∀ d v G, A d → T.Ok G → T.Gr H G → PostR K H G ow fz v d → Q v G) ∧ (∀ x d G, Ax x → T.Ok G → T.Gr H G → XRep K G ow d x → E (.ref (He.ga K x.cls)) d G)
def xFn (F : DF) (φs : DA) : DX := fun ρ A Ax => φs ρ (fun ds => F ds A Ax) Ax
theorem fn_up {P : Program} {w : World} {K : PySem.W.Frag} {mg : Str → Option Value} {base : Heap} {k : Nat} {f : Addr} {fd : FuncData} {ps : List Str} {sp : Sp} (F : FnOk P w K mg base CX0 k f fd ps sp) : FnOk P w K mg base (L2.CX P w) k f fd ps sp := by
  refine ⟨F.len, fun A outer s H args us vs Q E hr e0 hb hv hsp => codeAny_mono (F.run A outer s H args us vs Q E hr e0 hb hv hsp) fun r s' h => ?_⟩
  cases r with
  | error e => exact False.elim h
  | ok fl => cases fl <;> exact h
abbrev Fn (P : Program) (w : World) {K : PySem.W.Frag} (T : Th K) (mg : Str → Option Value) (base : Heap) (k : Nat) (x : Str) (ps : List Str) (fz : Nat) (F : DF) : Prop := Cal P w K mg base (L2.CX P w) k x ps (spOf T fz ps.length F)
theorem sp_imp {K : PySem.W.Frag} {T : Th K} {fz : Nat} {n : Nat} {F F' : DF} (h : ∀ ds A Ax, F' ds A Ax → F ds A Ax) {vs : List V} {H : Hp} {Q : VK} {E : XK} (s : spOf T fz n F' vs H Q E) : spOf T fz n F vs H Q E := by
  obtain ⟨hn, ds, ow, A, Ax, h1, h2, h3, h4, h5⟩ := s
  exact ⟨hn, ds, ow, A, Ax, h1, h2, h3, h ds A Ax h4, h5⟩
theorem Fn.to {P : Program} {w : World} {K : PySem.W.Frag} {T : Th K} {mg : Str → Option Value} {base : Heap} {k : Nat} {x : Str} {ps : List Str} {fz : Nat} {F F' : DF} (C : Fn P w T mg base k x ps fz F) (h : ∀ ds A Ax, F' ds A Ax → F ds A Ax) : Fn P w T mg base k x ps fz F' :=
  Cal.imp C fun vs H Q E s => sp_imp h s
theorem Fn.up {P : Program} {w : World} {K : PySem.W.Frag} {T : Th K} {mg : Str → Option Value} {base : Heap} {j k : Nat} {x : Str} {ps : List Str} {fz : Nat} {F : DF} (C : Fn P w T mg base j x ps fz F) (h : j ≤ k) : Fn P w T mg base k x ps fz F := Cal.mono C h
section
variable {X : Cx} {T : Th X.K} {W : WX} {O : List Nat} {e : Expr} {es : List Expr} {φs : DA} {pos p : Pos} {k : Nat} {x : Str} {ps : List Str} {fz : Nat} {F : DF}
theorem fn_aux {n : Nat} {σ : L2.St} {H : Hp} {Q : VK} (h : eOf T W O (xFn F φs) σ H Q) : tCallS (spOf T fz n F) (WE W) (aOf T W O n φs) σ H Q := by
  obtain ⟨ρ, ow0, fr, A, Ax, ok, er, q, k, x⟩ := h
  refine ⟨ρ, ow0, fr, _, Ax, ok, er, q, fun ds vs G qs hn okG gG rs => ?_, x⟩
  refine ⟨hn, ds, owOf ow0 O σ, A, Ax, okG, (er.gr T gG).otrk, rs, qs, fun d v J a o g r => ?_, fun y d J a o g r => x y d J a o (T.trans gG g) r⟩
  exact k d v J a o (T.trans gG g) (r.rep (er.gr T gG).otrk)
theorem ff_aux {n : Nat} {σ : L2.St} {H : Hp} {Q : VK} (h : efOf T W O (xFn F φs) σ H Q) : tCallS (spOf T 1 n F) (WE W) (aOf T W O n φs) σ H Q := by
  obtain ⟨ρ, ow0, fr, A, Ax, ok, er, q, k, x⟩ := h
  refine ⟨ρ, ow0, fr, _, Ax, ok, er, q, fun ds vs G qs hn okG gG rs => ?_, x⟩
  refine ⟨hn, ds, owOf ow0 O σ, A, Ax, okG, (er.gr T gG).otrk, rs, qs, fun d v J a o g ⟨p, e1, e2, e3⟩ => ?_, fun y d J a o g r => x y d J a o (T.trans gG g) r⟩
  exact k d v J a o (T.trans gG g) ⟨p, e1, T.back gG e2, e3⟩
theorem be_fn (C : Fn X.prog X.w T X.mg X.base k x ps fz F) (hr : Room k X.A) (tk : Takes X W) (ha : PA X (e :: es) (aOf T W O ps.length φs)) (hg : Gl X x := by rfl)
    (hdb : (x == ("__debug__" : Str)) = false := by decide) (he : starEach (e :: es) X.env = (false, eval e X.env) :: starEach es X.env := by rfl) (hpl : (backTo pos (starEach es X.env)).any (·.1) = false := by rfl) :
    PE X (.Call (.Name x p) (e :: es) [] pos) (eOf T W O (xFn F φs)) := peI (pe_calS C hr (fun σ => passAt tk σ) ha hg hdb he hpl) fun _ _ _ h => fn_aux h
theorem bf_fn (C : Fn X.prog X.w T X.mg X.base k x ps 1 F) (hr : Room k X.A) (tk : Takes X W) (ha : PA X (e :: es) (aOf T W O ps.length φs)) (hg : Gl X x := by rfl)
    (hdb : (x == ("__debug__" : Str)) = false := by decide) (he : starEach (e :: es) X.env = (false, eval e X.env) :: starEach es X.env := by rfl) (hpl : (backTo pos (starEach es X.env)).any (·.1) = false := by rfl) :
    PE X (.Call (.Name x p) (e :: es) [] pos) (efOf T W O (xFn F φs)) := peI (pe_calS C hr (fun σ => passAt tk σ) ha hg hdb he hpl) fun _ _ _ h => ff_aux h
end
end Dz
namespace Dz
open PySem PySem.Spec PyProof.Rows L2 Evl Bf
structure DE where
  nx : Ro → Prop
  rt : D → Prop
  bk : Ro → Prop
  ct : Ro → Prop
  ex : Exc → Ro → Prop
abbrev DS := DE → Ro → Prop
abbrev DG := D → Ro → (Ro → Prop) → Prop
def NewP (H0 : Hp) (fr : Fr) (i : Nat) (a : Addr) : Prop := H0 a = none ∧ ∀ p, (i, p) ∈ fr.pin → a = p
structure Sr {K : PySem.W.Frag} (T : Th K) (H0 : Hp) (owi ow0 : Addr → Prop) (fr : Fr) (O : List Nat) (σ : L2.St) (H : Hp) (ρ : Ro) : Prop where
  ok : T.Ok H
  gr : T.Gr H0 H
  er : ER K H ow0 fr O σ ρ
  sub : ∀ a, owi a → ow0 a ∧ fr.iw a
  new : ∀ i ∈ O, ∀ a, σ[i]? = some (some (.ref a)) → NewP H0 fr i a
  iwH : fr.iw = fun a => H0 a ≠ none
section
variable {K : PySem.W.Frag} (T : Th K) (W : WX) (fz : Nat)
structure EOk (H0 : Hp) (owi : Addr → Prop) (fr : Fr) (On Ol : List Nat) (E : DE) (M : Ends) : Prop where
  nx : ∀ σ H ρ ow0, Sr T H0 owi ow0 fr On σ H ρ → E.nx ρ → M.nx σ H
  rt : ∀ v d G, T.Ok G → T.Gr H0 G → PostF K fr.pin H0 G owi fz v d → E.rt d → M.rt v G
  bk : ∀ σ H ρ ow0, Sr T H0 owi ow0 fr Ol σ H ρ → E.bk ρ → M.bk σ H
  ct : ∀ σ H ρ ow0, Sr T H0 owi ow0 fr Ol σ H ρ → E.ct ρ → M.ct σ H
  ex : ∀ x d σ H ρ ow0, Sr T H0 owi ow0 fr [] σ H ρ → XRep K H (owOf ow0 [] σ) d x → E.ex x ρ → W (.ref (He.ga K x.cls)) d σ H
def TrOk (H0 : Hp) (owi : Addr → Prop) (fr : Fr) : Prop := (∀ a, owi a → H0 a ≠ none) ∧ fr.pin.map (·.1) = T.bor
def sOf (O On Ol : List Nat) (φ : DS) : TS := fun M σ H => ∃ ρ H0 owi ow0 fr E, Sr T H0 owi ow0 fr O σ H ρ ∧ TrOk T H0 owi fr ∧ EOk T W fz H0 owi fr On Ol E M ∧ φ E ρ
end
section
variable {K : PySem.W.Frag} {T : Th K} {W : WX} {fz : Nat} {H0 H G : Hp} {owi ow0 : Addr → Prop} {fr fr' : Fr} {O O2 On Ol : List Nat} {σ : L2.St} {ρ : Ro} {E : DE} {M : Ends}
theorem ow_sub {ow1 : Addr → Prop} (hw : ∀ a, ow1 a → ow0 a) (h : ∀ i ∈ O2, i < dp → i ∈ O) (hl : σ.length ≤ dp) : ∀ a, owOf ow1 O2 σ a → owOf ow0 O σ a := fun a z => z.imp (hw a) fun ⟨i, hi, e⟩ => ⟨i, h i hi (by have := (List.getElem?_eq_some_iff.mp e).1; omega), e⟩
def wkn (O O2 : List Nat) : Prop := ∀ c ∈ O2, c ∈ O ∨ ∃ i, c = i + dq ∧ i < dp ∧ i + dp ∈ O ∧ i + dp ∉ O2
theorem wkn_lo (h : wkn O O2) : ∀ i ∈ O2, i < dp → i ∈ O := fun i hi l => (h i hi).elim id fun ⟨j, e, _⟩ => absurd l (by rw [e]; unfold dp dq; omega)
theorem wkn_mid (h : wkn O O2) {i : Nat} (l : i < dp) : i + dp ∈ O2 → i + dp ∈ O := fun hi => (h _ hi).elim id fun ⟨j, e, _⟩ => absurd l (by unfold dp dq at *; omega)
def wknB (O O2 : List Nat) : Bool := O2.all fun c => O.contains c || (decide (dq ≤ c ∧ c < dq + dp) && (O.contains (c - dq + dp) && !O2.contains (c - dq + dp)))
theorem wknB_ok (h : wknB O O2 = true) : wkn O O2 := fun c hc => by
  have := List.all_eq_true.mp h c hc
  rcases Bool.or_eq_true_iff.mp this with z | z
  · exact .inl (by simpa using z)
  · obtain ⟨z1, z2⟩ := Bool.and_eq_true_iff.mp z
    have z1 := of_decide_eq_true z1
    obtain ⟨z2, z3⟩ := Bool.and_eq_true_iff.mp z2
    exact .inr ⟨c - dq, by omega, by omega, by simpa using z2, by simpa using z3⟩
theorem ER.weak (e : ER K H ow0 fr O σ ρ) (h : wkn O O2) : ∃ ow1 : Addr → Prop, (∀ a, ow1 a → ow0 a) ∧ (∀ a, ow0 a → fr.iw a → ow1 a) ∧ ER K H ow1 fr O2 σ ρ := by
  obtain ⟨rg, hd⟩ := e.dep
  have sb : ∀ a, (ow0 a ∧ (fr.iw a ∨ (rg a < dp ∧ rg a + dp ∈ O2))) → ow0 a := fun a z => z.1
  have sub1 := ow_sub (σ := σ) sb (wkn_lo h) e.sml
  have m : Mv K H (owOf ow0 O σ) H (owOf (fun a => ow0 a ∧ (fr.iw a ∨ (rg a < dp ∧ rg a + dp ∈ O2))) O2 σ) := Mv.less sub1
  have nd : ∀ {i : Nat} {fp : List Addr}, i + dp ∉ O2 → (∀ a ∈ fp, ow0 a ∧ rg a = i ∧ ¬ fr.iw a) → ∀ a ∈ fp, ¬ owOf (fun a => ow0 a ∧ (fr.iw a ∨ (rg a < dp ∧ rg a + dp ∈ O2))) O2 σ a := fun {i fp} hi2 h5 a ha z => by
    obtain ⟨g1, g2, g3⟩ := h5 a ha
    rcases z with z | ⟨j, hj, z⟩
    · rcases z.2 with z | z
      · exact g3 z
      · exact hi2 (g2 ▸ z.2)
    · obtain ⟨b, _, _, e2, e3, _⟩ := e.own j (wkn_lo h j hj (e.ltS z)) (e.ltS z)
      rw [z] at e2
      cases e2
      exact e3 g1
  refine ⟨_, sb, fun a z1 z2 => ⟨z1, .inl z2⟩, ⟨fun i d hr hi hi2 => ?_, fun i hi l => ?_, fun p hp => (e.frm p hp).mv m, ⟨rg, fun i l hi => ?_⟩, fun i hi => ?_, fun a z => e.trk a z.1, e.len, fun v z h0 => e.slt v z ?_, e.sml⟩⟩
  · by_cases c : i ∈ O
    · obtain ⟨a, d', h1, h2, h3, h4, h5⟩ := e.own i c (e.lt hr)
      rw [hr] at h1
      cases h1
      refine ⟨.ref a, h2, ?_⟩
      have na : ¬ owOf (fun a => ow0 a ∧ (fr.iw a ∨ (rg a < dp ∧ rg a + dp ∈ O2))) O2 σ a := fun z => by
        rcases z with z | ⟨j, hj, z⟩
        · exact h3 z.1
        · exact hi (h5 j (wkn_lo h j hj (e.ltS z)) z ▸ hj)
      cases h4 with
      | lst a b => exact .lst a na (b.mv m)
      | dic a b => exact .dic (.inl a) na (b.mv m)
      | ins a b => exact .ins a na (b.mv m)
      | dit a b c => exact .dit a b na c
    · by_cases c2 : i + dp ∈ O
      · obtain ⟨v, d2, fp, h1, h2, h3, h4, h5⟩ := hd i (e.lt hr) c2
        rw [hr] at h1
        cases h1
        exact ⟨v, h2, h3.rep (fun _ _ => trivial) (nd hi2 h5)⟩
      · obtain ⟨v, h1, h2⟩ := e.val i d hr c c2
        exact ⟨v, h1, h2.mv m⟩
  · obtain ⟨a, d, h1, h2, h3, h4, h5⟩ := e.own i (wkn_lo h i hi l) l
    exact ⟨a, d, h1, h2, fun z => h3 z.1, h4.mv m (fun o z _ => z), fun j hj z => h5 j (wkn_lo h j hj (e.ltS z)) z⟩
  · exact (hd i l (wkn_mid h l hi)).mv (Mv.less fun _ z => z) (fun _ _ _ o z _ => z) fun a z1 z2 z3 => ⟨⟨z1, .inr ⟨z2 ▸ l, z2 ▸ hi⟩⟩, z3⟩
  · rcases h _ hi with hi' | ⟨j, ej, lj, hj, nj⟩
    · obtain ⟨v, d, h1, h2, h3⟩ := e.nwq i hi'
      exact ⟨v, d, h1, h2, h3.mv (Mv.less fun a z => z.imp_left (sub1 a))⟩
    · have : j = i := by omega
      subst this
      obtain ⟨v, d, fp, h1, h2, h3, h4, h5⟩ := hd j lj hj
      refine ⟨v, d, h1, h2, h3.rep (fun _ _ => trivial) fun a ha z => ?_⟩
      rcases z with z | z
      · exact nd (i := j) nj h5 a ha z
      · exact (h5 a ha).2.2 z
  · rcases h0 with h0 | h0 | h0
    · exact .inl (wkn_lo h 0 h0 (by decide))
    · have := wkn_mid h (i := 0) (by decide) (by rw [Nat.zero_add]; exact h0)
      rw [Nat.zero_add] at this
      exact .inr (.inl this)
    · rcases h _ h0 with h0 | ⟨j, ej, lj, hj, nj⟩
      · exact .inr (.inr h0)
      · have : j = 0 := by omega
        subst this
        rw [Nat.zero_add] at hj
        exact .inr (.inl hj)
theorem Sr.weak (s : Sr T H0 owi ow0 fr O σ H ρ) (h : wkn O O2) : ∃ ow1 : Addr → Prop, (∀ a, ow1 a → ow0 a) ∧ Sr T H0 owi ow1 fr O2 σ H ρ := by
  obtain ⟨ow1, h1, h2, h3⟩ := s.er.weak h
  exact ⟨ow1, h1, s.ok, s.gr, h3, fun a z => ⟨h2 a (s.sub a z).1 (s.sub a z).2, (s.sub a z).2⟩, fun i hi a z => s.new i (wkn_lo h i hi (s.er.ltS z)) a z, s.iwH⟩
theorem Sr.go (s : Sr T H0 owi ow0 fr O σ H ρ) (ok : T.Ok G) (g : T.Gr H G) : Sr T H0 owi ow0 fr O σ G ρ := ⟨ok, T.trans s.gr g, s.er.gr T g, s.sub, s.new, s.iwH⟩
theorem Sr.less (s : Sr T H0 owi ow0 fr O σ H ρ) (h1 : ∀ p ∈ fr'.vd, p ∈ fr.vd) (h2 : fr'.iw = fr.iw) (h3 : fr'.p0 = fr.p0) (h4 : fr'.pin = fr.pin := by rfl) : Sr T H0 owi ow0 fr' O σ H ρ :=
  ⟨s.ok, s.gr, ⟨s.er.val, s.er.own, fun p hp => s.er.frm p (h1 p hp), by rw [h2]; exact s.er.dep, by rw [h2]; exact s.er.nwq, s.er.trk, s.er.len, fun v z => s.er.slt v (h3 ▸ z), s.er.sml⟩, by rw [h2]; exact s.sub, fun i hi a z => ⟨(s.new i hi a z).1, fun p hp => (s.new i hi a z).2 p (h4 ▸ hp)⟩, by rw [h2]; exact s.iwH⟩
theorem EOk.x (k : EOk T W fz H0 owi fr On Ol E M) (s : Sr T H0 owi ow0 fr O σ H ρ) : XOk T W H (owOf ow0 O σ) σ (fun x => E.ex x ρ) := fun x d G hx ok g r => by
  obtain ⟨ow1, sb, s2⟩ := (s.go ok g).weak (O2 := []) (fun i z => absurd z List.not_mem_nil)
  refine k.ex x d σ G ρ ow1 s2 ?_ hx
  cases d with
  | none => exact r
  | some d =>
    obtain ⟨nf, fvs, h1, h2⟩ := r
    exact ⟨nf, fvs, h1, h2.mv (Mv.less (ow_sub sb (fun i z => absurd z List.not_mem_nil) s.er.sml))⟩
end
def sNil : DS := fun E ρ => E.nx ρ
def sSeq (φ ψ : DS) : DS := fun E ρ => φ { E with nx := ψ E } ρ
def sExpr (φ : DX) : DS := fun E ρ => φ ρ (fun _ => E.nx ρ) fun x => E.ex x ρ
def sRet (φ : DX) : DS := fun E ρ => φ ρ E.rt fun x => E.ex x ρ
def sSet (i : Nat) (φ : DX) : DS := fun E ρ => φ ρ (fun d => E.nx (ρ.set i (some d))) fun x => E.ex x ρ
def sIf (t : DT) (φ ψ : DS) : DS := fun E ρ => t ρ (fun b => if b = true then φ E ρ else ψ E ρ) fun x => E.ex x ρ
section
variable {X : Cx} {T : Th X.K} {W : WX} {fz : Nat} {O O1 O2 On Ol : List Nat} {st : Stmt} {rest : List Stmt} {φ ψ : DS} {e c : Expr} {φe : DX} {t : DT} {pos : Pos}
theorem ss_nil : PSs X [] (sOf T W fz O O Ol sNil) := pssI pss_nil fun M σ H ⟨ρ, H0, owi, ow0, fr, E, s, _, k, q⟩ => k.nx σ H ρ ow0 s q
theorem ss_cons (h1 : PS X st (sOf T W fz O O1 Ol φ)) (h2 : PSs X rest (sOf T W fz O1 O2 Ol ψ)) : PSs X (st :: rest) (sOf T W fz O O2 Ol (sSeq φ ψ)) :=
  pssI (pss_cons h1 h2) fun M σ H ⟨ρ, H0, owi, ow0, fr, E, s, tr, k, q⟩ => ⟨ρ, H0, owi, ow0, fr, { E with nx := ψ E }, s, tr, ⟨fun σ' H' ρ' ow' s' q' => ⟨ρ', H0, owi, ow', fr, E, s', tr, k, q'⟩, k.rt, k.bk, k.ct, k.ex⟩, q⟩
theorem ss_one (h : PS X st (sOf T W fz O On Ol φ)) : PSs X [st] (sOf T W fz O On Ol φ) := pss_one h
theorem ss_pre (h : PSs X rest (sOf T W fz O2 On Ol φ)) (i : wknB O O2 = true) : PSs X rest (sOf T W fz O On Ol φ) :=
  pssI h fun M σ H ⟨ρ, H0, owi, ow0, fr, E, s, tr, k, q⟩ => have ⟨ow1, _, s1⟩ := s.weak (O2 := O2) (wknB_ok i); ⟨ρ, H0, owi, ow1, fr, E, s1, tr, k, q⟩
theorem ss_post (h : PSs X rest (sOf T W fz O O2 Ol φ)) (i : wknB O2 On = true) : PSs X rest (sOf T W fz O On Ol φ) :=
  pssI h fun M σ H ⟨ρ, H0, owi, ow0, fr, E, s, tr, k, q⟩ => ⟨ρ, H0, owi, ow0, fr, E, s, tr, ⟨fun σ' H' ρ' ow' s' q' => have ⟨ow1, _, s1⟩ := s'.weak (O2 := On) (wknB_ok i); k.nx σ' H' ρ' ow1 s1 q', k.rt, k.bk, k.ct, k.ex⟩, q⟩
theorem s_expr (he : PE X e (eOf T W O φe)) (hs : swapsWith e none pos.line X.env = pure false := by rfl) : PS X (.Expr e pos) (sOf T W fz O O Ol (sExpr φe)) :=
  psI (ps_expr he hs) fun M σ H ⟨ρ, H0, owi, ow0, fr, E, s, _, k, q⟩ => ⟨ρ, ow0, fr, _, _, s.ok, s.er, q, fun d v G qd ok g r => k.nx σ G ρ ow0 (s.go ok g) qd, k.x s⟩
theorem s_ret (he : PE X e (eOf T W O φe)) : PS X (.Return (some e) pos) (sOf T W 0 O On Ol (sRet φe)) :=
  psI (ps_ret he) fun M σ H ⟨ρ, H0, owi, ow0, fr, E, s, tr, k, q⟩ => ⟨ρ, ow0, fr, _, _, s.ok, s.er, q, fun d v G qd ok g r => k.rt v d G ok (T.trans s.gr g) (r.mv (Mv.less fun a z => .inl (s.sub a z).1)) qd, k.x s⟩
theorem s_retF (he : PE X e (efOf T W O φe)) : PS X (.Return (some e) pos) (sOf T W 1 O On Ol (sRet φe)) :=
  psI (ps_ret he) fun M σ H ⟨ρ, H0, owi, ow0, fr, E, s, tr, k, q⟩ => ⟨ρ, ow0, fr, _, _, s.ok, s.er, q, fun d v G qd ok g ⟨p, e1, e2, e3⟩ => k.rt v d G ok (T.trans s.gr g) ⟨p, e1, T.back s.gr e2, e3.mv (Mv.less fun a z => z.imp_left fun z => .inl (s.sub a z).1) fun o z _ => z⟩ qd, k.x s⟩
theorem s_retO {i : Nat} {x : Str} {pos' : Pos} (hN : X.N[i]? = some x) (hv : Vis X.env.scope x) (hO : O.contains i = true) (hd : (x == ("__debug__" : Str)) = false := by decide) (hcd : (x == ("__classdict__" : Str)) = false := by decide) :
    PS X (.Return (some (.Name x pos')) pos) (sOf T W 1 O On Ol (sRet (xVar i))) :=
  psI (ps_ret (pe_var hN hv hd hcd)) fun M σ H ⟨ρ, H0, owi, ow0, fr, E, s, tr, k, ⟨d, h1, h2⟩⟩ => by
    have hi : i ∈ O := by simpa using hO
    obtain ⟨a, d', e1, e2, na, r, _⟩ := s.er.own i hi (s.er.lt h1)
    rw [h1] at e1
    cases e1
    refine ⟨.ref a, e2, k.rt _ d H s.ok s.gr ⟨a, rfl, (s.new i hi a e2).1, r.mv (Mv.less fun b z => ?_) fun o z _ => z⟩ h2⟩
    rcases z with z | z
    · exact .inl (s.sub b z).1
    · exact .inr ⟨i, hi, by rw [z]; exact e2⟩
theorem s_if {a b : List Stmt} (hc : PT X c (tOf T W O t)) (ha : PSs X a (sOf T W fz O On Ol φ)) (hb : PSs X b (sOf T W fz O On Ol ψ)) : PS X (.If c a b pos) (sOf T W fz O On Ol (sIf t φ ψ)) :=
  psI (ps_if hc ha hb) fun M σ H ⟨ρ, H0, owi, ow0, fr, E, s, tr, k, q⟩ => ⟨ρ, ow0, fr, _, _, s.ok, s.er, q, fun b G qb ok g => by
    cases b with
    | true => exact ⟨ρ, H0, owi, ow0, fr, E, s.go ok g, tr, k, qb⟩
    | false => exact ⟨ρ, H0, owi, ow0, fr, E, s.go ok g, tr, k, qb⟩, k.x s⟩
theorem ow_set {ow0 : Addr → Prop} {σ : L2.St} {i : Nat} {v : Option V} (h : i ∉ O) : owOf ow0 O (σ.set i v) = owOf ow0 O σ := by
  funext a
  unfold owOf
  refine propext (or_congr_right ⟨fun ⟨j, hj, e⟩ => ⟨j, hj, ?_⟩, fun ⟨j, hj, e⟩ => ⟨j, hj, ?_⟩⟩)
  · rw [List.getElem?_set_ne (fun z : i = j => h (z ▸ hj))] at e; exact e
  · rw [List.getElem?_set_ne (fun z : i = j => h (z ▸ hj))]; exact e
theorem ER.set {K : PySem.W.Frag} {H : Hp} {ow0 : Addr → Prop} {fr : Fr} {σ : L2.St} {ρ : Ro} {i : Nat} {v : V} {d : D} (e : ER K H ow0 fr O σ ρ) (h : fre O i = true) (r : Rep K H (owOf ow0 O σ) v d) : ER K H ow0 fr O (σ.set i (some v)) (ρ.set i (some d)) where
  val := fun j d' hd hj hj2 => by
    rw [ow_set (fre_of h).1]
    by_cases c : i = j
    · subst c
      have hl : i < ρ.length := by
        have := (List.getElem?_eq_some_iff.mp hd).1
        simpa using this
      rw [List.getElem?_set_self hl] at hd
      cases hd
      exact ⟨v, List.getElem?_set_self (by rw [← e.len]; exact hl), r⟩
    · rw [List.getElem?_set_ne c] at hd ⊢
      exact e.val j d' hd hj hj2
  own := fun j hj l => by
    have h' := (fre_of h).1
    have c : i ≠ j := fun z => h' (z ▸ hj)
    obtain ⟨a, d', h1, h2, h3, h4, h5⟩ := e.own j hj l
    rw [ow_set h', List.getElem?_set_ne c, List.getElem?_set_ne c]
    refine ⟨a, d', h1, h2, h3, h4, fun m hm z => h5 m hm ?_⟩
    rw [List.getElem?_set_ne (fun z : i = m => h' (z ▸ hm))] at z
    exact z
  frm := fun p hp => by rw [ow_set (fre_of h).1]; exact e.frm p hp
  dep := by
    obtain ⟨rg, hd⟩ := e.dep
    refine ⟨rg, fun j l hj => ?_⟩
    have c : i ≠ j := fun z => (fre_of h).2 (z ▸ hj)
    rw [List.getElem?_set_ne c, List.getElem?_set_ne c]
    exact hd j l hj
  nwq := fun j hj => by
    have c : i ≠ j := fun z => fre_q h (z ▸ hj)
    rw [ow_set (fre_of h).1, List.getElem?_set_ne c, List.getElem?_set_ne c]
    exact e.nwq j hj
  trk := e.trk
  len := by rw [List.length_set, List.length_set]; exact e.len
  slt := fun w z h0 => by
    rw [List.getElem?_set_ne (fun q : i = 0 => h0.elim (fun h0 => (fre_of h).1 (q ▸ h0)) fun h0 => h0.elim (fun h0 => (fre_of h).2 (by rw [q, Nat.zero_add]; exact h0)) fun h0 => fre_q h (by rw [q, Nat.zero_add]; exact h0))]
    exact e.slt w z h0
  sml := by rw [List.length_set]; exact e.sml
theorem Sr.set {K : PySem.W.Frag} {T : Th K} {H0 H : Hp} {owi ow0 : Addr → Prop} {fr : Fr} {σ : L2.St} {ρ : Ro} {i : Nat} {v : V} {d : D} (s : Sr T H0 owi ow0 fr O σ H ρ) (h : fre O i = true) (r : Rep K H (owOf ow0 O σ) v d) : Sr T H0 owi ow0 fr O (σ.set i (some v)) H (ρ.set i (some d)) :=
  ⟨s.ok, s.gr, s.er.set h r, s.sub, fun j hj a z => s.new j hj a (by rw [List.getElem?_set_ne (fun z : i = j => (fre_of h).1 (z ▸ hj))] at z; exact z), s.iwH⟩
theorem set_aux {i : Nat} (hO : fre O i = true) (M : Ends) (σ : L2.St) (H : Hp) (h : sOf T W fz O O Ol (sSet i φe) M σ H) : tAsg (eOf T W O φe) (gName i) M σ H := by
  obtain ⟨ρ, H0, owi, ow0, fr, E, s, _, k, q⟩ := h
  exact ⟨ρ, ow0, fr, _, _, s.ok, s.er, q, fun d v G qd ok g r => k.nx _ G _ ow0 ((s.go ok g).set hO r) qd, k.x s⟩
theorem s_set {i : Nat} {x : Str} {pos' : Pos} (hN : X.N.Nodup) (hi : X.N[i]? = some x) (hx : Loc X.env.scope x) (hO : fre O i = true) (he : PE X e (eOf T W O φe)) (hs : swapsWith e (some (.Name x pos')) pos.line X.env = pure false := by rfl)
    (hf : X.fn x = true ∨ X.env.scope.names.lookup x = some .local := by first | exact .inl rfl | exact .inr rfl | assumption) : PS X (.Assign [.Name x pos'] e pos) (sOf T W fz O O Ol (sSet i φe)) :=
  psI (ps_set hN hi hx he hs hf) fun M σ H h => set_aux hO M σ H h
theorem ow_own {ow0 : Addr → Prop} {σ : L2.St} {i : Nat} {p : Addr} (h : i ∉ O) (hl : i < σ.length) : ∀ a, owOf ow0 (i :: O) (σ.set i (some (.ref p))) a ↔ (owOf ow0 O σ a ∨ a = p) := fun a => by
  constructor
  · rintro (z | ⟨j, hj, e⟩)
    · exact .inl (.inl z)
    · rcases List.mem_cons.mp hj with rfl | hj
      · rw [List.getElem?_set_self hl] at e
        cases e
        exact .inr rfl
      · rw [List.getElem?_set_ne (fun z : i = j => h (z ▸ hj))] at e
        exact .inl (.inr ⟨j, hj, e⟩)
  · rintro ((z | ⟨j, hj, e⟩) | rfl)
    · exact .inl z
    · exact .inr ⟨j, List.mem_cons_of_mem _ hj, by rw [List.getElem?_set_ne (fun z : i = j => h (z ▸ hj))]; exact e⟩
    · exact .inr ⟨i, List.mem_cons_self, List.getElem?_set_self hl⟩
theorem Sr.own {K : PySem.W.Frag} {T : Th K} {H0 H G : Hp} {owi ow0 : Addr → Prop} {fr : Fr} {σ : L2.St} {ρ : Ro} {i : Nat} {p : Addr} {d : D} (s : Sr T H0 owi ow0 fr O σ H ρ) (hO : fre O i = true) (i0 : i ≠ 0) (hl : i < ρ.length) (ok : T.Ok G) (g : T.Gr H G) (hp : H p = none)
    (r : OwnR K G (fun a => owOf ow0 O σ a ∨ a = p) p d) (hq : ∀ q, (i, q) ∈ fr.pin → p = q) : Sr T H0 owi ow0 fr (i :: O) (σ.set i (some (.ref p))) G (ρ.set i (some d)) := by
  have h := (fre_of hO).1
  have hl' : i < σ.length := by rw [← s.er.len]; exact hl
  have hdp : i < dp := by have := s.er.sml; omega
  have eo := ow_own (O := O) (ow0 := ow0) (σ := σ) (p := p) h hl'
  have m0 : Mv K G (fun a => owOf ow0 O σ a ∨ a = p) G (owOf ow0 (i :: O) (σ.set i (some (.ref p)))) := Mv.less fun a z => (eo a).mp z
  have m1 : Mv K H (owOf ow0 O σ) H (fun a => owOf ow0 O σ a ∨ a = p) := more_own hp
  have np : ∀ {a : Addr}, H a ≠ none → a ≠ p := fun z e => z (e ▸ hp)
  have di : ∀ {j : Nat}, j + dp ∈ i :: O → j + dp ∈ O := fun {j} z => (List.mem_cons.mp z).elim (fun e => absurd e (by omega)) id
  refine ⟨ok, T.trans s.gr g, ⟨fun j d' hd hj hj2 => ?_, fun j hj l => ?_, fun q hq => (((s.er.frm q hq).mv m1).gr T g).mv m0, ?_, fun j hj => ?_, fun a ha => T.forth g (s.er.trk a ha), by rw [List.length_set, List.length_set]; exact s.er.len, fun v z h0 => ?_, by rw [List.length_set]; exact s.er.sml⟩, s.sub, fun j hj a z => ?_, s.iwH⟩
  · have c : i ≠ j := fun z => hj (z ▸ List.mem_cons_self)
    rw [List.getElem?_set_ne c] at hd ⊢
    obtain ⟨v, h1, h2⟩ := s.er.val j d' hd (fun z => hj (List.mem_cons_of_mem _ z)) fun z => hj2 (List.mem_cons_of_mem _ z)
    exact ⟨v, h1, ((h2.mv m1).gr T g).mv m0⟩
  · by_cases c : i = j
    · subst c
      rw [List.getElem?_set_self hl, List.getElem?_set_self hl']
      refine ⟨p, d, rfl, rfl, fun z => s.er.trk p z hp, r.mv m0 fun o z _ => z, fun m hm z => ?_⟩
      rcases List.mem_cons.mp hm with e | hm
      · exact e
      · rw [List.getElem?_set_ne (fun z : i = m => h (z ▸ hm))] at z
        exact absurd hp (s.er.otrk p (.inr ⟨m, hm, z⟩))
    · rcases List.mem_cons.mp hj with e | hj
      · exact absurd e.symm c
      · obtain ⟨a, d', h1, h2, h3, h4, h5⟩ := s.er.own j hj l
        rw [List.getElem?_set_ne c, List.getElem?_set_ne c]
        refine ⟨a, d', h1, h2, h3, ((h4.mv m1 fun o z _ => z).mv (Mv.gr T g) fun o z n => T.keep g z n).mv m0 fun o z _ => z, fun m hm z => ?_⟩
        rcases List.mem_cons.mp hm with e | hm
        · subst e
          rw [List.getElem?_set_self hl'] at z
          cases z
          exact absurd rfl (np h4.trk)
        · rw [List.getElem?_set_ne (fun z : i = m => h (z ▸ hm))] at z
          exact h5 m hm z
  · obtain ⟨rg, hd⟩ := s.er.dep
    refine ⟨rg, fun j l hj => ?_⟩
    have c : i ≠ j := fun z => (fre_of hO).2 (z ▸ di hj)
    rw [List.getElem?_set_ne c, List.getElem?_set_ne c]
    exact (hd j l (di hj)).mv (Mv.gr T g) (fun a _ _ o z n => T.keep g z n) fun a z _ n => ⟨z, n⟩
  · have hj' : j + dq ∈ O := (List.mem_cons.mp hj).elim (fun e => absurd e (by unfold dp dq at *; omega)) id
    have c : i ≠ j := fun z => fre_q hO (z ▸ hj')
    obtain ⟨v, d', h1, h2, h3⟩ := s.er.nwq j hj'
    rw [List.getElem?_set_ne c, List.getElem?_set_ne c]
    refine ⟨v, d', h1, h2, (h3.mv (Mv.more fun a z => ?_)).gr T g⟩
    rcases z with z | z
    · rcases (eo a).mp z with z | z
      · exact .inl (.inl z)
      · exact .inr (z ▸ hp)
    · exact .inl (.inr z)
  · rw [List.getElem?_set_ne i0]
    refine s.er.slt v z (h0.imp (fun h0 => (List.mem_cons.mp h0).elim (fun q => absurd q.symm i0) id) fun h0 => h0.imp (fun h0 => (List.mem_cons.mp h0).elim (fun q => absurd q (by omega)) id) fun h0 => (List.mem_cons.mp h0).elim (fun q => absurd q (by unfold dp dq at *; omega)) id)
  · rcases List.mem_cons.mp hj with rfl | hj
    · rw [List.getElem?_set_self hl'] at z
      cases z
      exact ⟨T.back s.gr hp, fun q z => hq q z⟩
    · rw [List.getElem?_set_ne (fun z : i = j => h (z ▸ hj))] at z
      exact s.new j hj a z
def sSetO (i : Nat) (φ : DX) : DS := fun E ρ => i < ρ.length ∧ φ ρ (fun d => E.nx (ρ.set i (some d))) fun x => E.ex x ρ
theorem TrOk.off {K : PySem.W.Frag} {T : Th K} {H0 : Hp} {owi : Addr → Prop} {fr : Fr} {i : Nat} (tr : TrOk T H0 owi fr) (hb : T.bor.contains i = false) {p : Addr} : ∀ q, (i, q) ∈ fr.pin → p = q := fun q z => by
  have h : i ∈ T.bor := by rw [← tr.2]; exact List.mem_map.mpr ⟨_, z, rfl⟩
  rw [List.contains_iff_mem.mpr h] at hb
  cases hb
theorem setO_aux {i : Nat} (hO : fre O i = true) (i0 : i ≠ 0) (hb : T.bor.contains i = false) (M : Ends) (σ : L2.St) (H : Hp) (h : sOf T W fz O (i :: O) Ol (sSetO i φe) M σ H) : tAsg (efOf T W O φe) (gName i) M σ H := by
  obtain ⟨ρ, H0, owi, ow0, fr, E, s, tr, k, hl, q⟩ := h
  exact ⟨ρ, ow0, fr, _, _, s.ok, s.er, q, fun d v G qd ok g ⟨p, e1, e2, e3⟩ => by
    subst e1
    exact k.nx _ G _ ow0 (s.own hO i0 hl ok g e2 e3 (tr.off hb)) qd, k.x s⟩
theorem s_setO {i : Nat} {x : Str} {pos' : Pos} (hN : X.N.Nodup) (hi : X.N[i]? = some x) (hx : Loc X.env.scope x) (hO : fre O i = true) (he : PE X e (efOf T W O φe)) (i0 : i ≠ 0 := by decide) (hs : swapsWith e (some (.Name x pos')) pos.line X.env = pure false := by rfl)
    (hf : X.fn x = true ∨ X.env.scope.names.lookup x = some .local := by first | exact .inl rfl | exact .inr rfl | assumption) (hb : T.bor.contains i = false := by rfl) : PS X (.Assign [.Name x pos'] e pos) (sOf T W fz O (i :: O) Ol (sSetO i φe)) :=
  psI (ps_set hN hi hx he hs hf) fun M σ H h => setO_aux hO i0 hb M σ H h
end
end Dz
namespace Bf
open PySem PySem.Spec PyProof.Rows L2
def spInit2 (K : PySem.W.Frag) (f1 f2 : Str) : Sp := fun vs H Q _ => ∃ (a C : Addr) (y1 y2 : V), vs = [.ref a, y1, y2] ∧ H a = some (exo a C none) ∧ OexC K C ∧ PySem.W.findIn K (.ref C) f1 = some none ∧ PySem.W.findIn K (.ref C) f2 = some none ∧
  ∀ dx, H dx = none → dx ≠ a → Q .non (upd (upd H dx (exd dx [(f2, y2), (f1, y1)])) a (exo a C (some dx)))
structure ExT2 (P : Program) (w : World) (K : PySem.W.Frag) (mg : Str → Option Value) (base : Heap) (x f1 f2 : Str) (C : Addr) : Prop where
  g : mg x = some (.ref C)
  o : OexC K C
  xf : XfC K C
  no : PySem.W.findIn K (.ref C) f1 = some none
  no2 : PySem.W.findIn K (.ref C) f2 = some none
  i : ∃ (f : Addr) (fd : FuncData) (ps : List Str), PySem.W.findIn K (.ref C) "__init__" = some (some (.ref f)) ∧ PySem.W.typeIn K (.ref f) = some (.type "function") ∧ FnOk P w K mg base CX0 1 f fd ps (spInit2 K f1 f2) ∧ Binds K fd ps []
section
variable {X : Cx} {x f1 f2 : Str} {C : Addr} {W : WX} {e e' : Expr} {ta : TA} {p pos pos2 : Pos}
end
end Bf
namespace Dz
open PySem PySem.Spec PyProof.Rows L2 Evl Bf
def SameBut (is : List Nat) (σ τ : L2.St) : Prop := σ.length = τ.length ∧ ∀ j, j ∉ is → τ[j]? = σ[j]?
def gOf {K : PySem.W.Frag} (T : Th K) (O is : List Nat) (g : DG) : TG := fun v σ H Q => ∃ ρ ow0 fr d R, T.Ok H ∧ ER K H ow0 fr O σ ρ ∧ Rep K H (owOf ow0 O σ) v d ∧ g d ρ R ∧
  ∀ τ ρ', ER K H ow0 fr O τ ρ' → SameBut is σ τ → R ρ' → Q τ H
abbrev DGs := List D → Ro → (Ro → Prop) → Prop
def gsOf {K : PySem.W.Frag} (T : Th K) (O is : List Nat) (g : DGs) : TGs := fun vs σ H Q => ∃ ρ ow0 fr ds R, T.Ok H ∧ ER K H ow0 fr O σ ρ ∧ RepL K H (owOf ow0 O σ) vs ds ∧ g ds ρ R ∧
  ∀ τ ρ', ER K H ow0 fr O τ ρ' → SameBut is σ τ → R ρ' → Q τ H
def gN (i : Nat) : DG := fun d ρ R => R (ρ.set i (some d))
def gT (n : Nat) (g : DGs) : DG := fun d ρ R => ∃ ds, d = .tup ds ∧ ds.length = n ∧ g ds ρ R
def gsN : DGs := fun ds ρ R => ds = [] ∧ R ρ
def gsC (g : DG) (gs : DGs) : DGs := fun ds ρ R => ∃ d r, ds = d :: r ∧ g d ρ fun ρ' => gs r ρ' R
theorem SameBut.refl (is : List Nat) (σ : L2.St) : SameBut is σ σ := ⟨rfl, fun _ _ => rfl⟩
section
variable {X : Cx} {T : Th X.K} {O is js : List Nat} {g : DG} {gs : DGs} {e : Expr} {es : List Expr} {pos : Pos}
theorem pgI {t t' : TG} (h : PG X e t) (i : ∀ v σ H Q, t' v σ H Q → t v σ H Q) : PG X e t' := ⟨fun pins s σ H v u Q I r q => h.run pins s σ H v u Q I r (i v σ H Q q)⟩
theorem pgsI {t t' : TGs} (h : PGs X es t) (i : ∀ v σ H Q, t' v σ H Q → t v σ H Q) : PGs X es t' := ⟨fun pins s σ H v u Q I r q => h.run pins s σ H v u Q I r (i v σ H Q q)⟩
theorem g_name {i : Nat} {x : Str} (hN : X.N.Nodup) (hi : X.N[i]? = some x) (hx : Loc X.env.scope x) (hO : fre O i = true) (hf : X.fn x = true ∨ X.env.scope.names.lookup x = some .local := by first | exact .inl rfl | exact .inr rfl | assumption) : PG X (.Name x pos) (gOf T O [i] (gN i)) :=
  pgI (pg_name hN hi hx hf) fun v σ H Q ⟨ρ, ow0, fr, d, R, ok, er, r, q, k⟩ => k _ _ (er.set hO r) ⟨by rw [List.length_set], fun j hj => List.getElem?_set_ne (fun z => hj (by rw [z]; exact List.mem_singleton.mpr rfl))⟩ q
theorem g_nil : PGs X [] (gsOf T O is gsN) := pgsI pgs_nil fun vs σ H Q ⟨ρ, ow0, fr, ds, R, ok, er, r, ⟨e, q⟩, k⟩ => by
  subst e
  cases r
  exact ⟨rfl, k σ ρ er (SameBut.refl is σ) q⟩
theorem ow_same {ow0 : Addr → Prop} {σ τ : L2.St} (h : SameBut is σ τ) (d : ∀ i ∈ is, i ∉ O) : owOf ow0 O τ = owOf ow0 O σ := by
  funext a
  unfold owOf
  refine propext (or_congr_right ⟨fun ⟨j, hj, e⟩ => ⟨j, hj, ?_⟩, fun ⟨j, hj, e⟩ => ⟨j, hj, ?_⟩⟩)
  · rw [h.2 j (fun z => d j z hj)] at e; exact e
  · rw [h.2 j (fun z => d j z hj)]; exact e
theorem g_cons (h1 : PG X e (gOf T O is g)) (h2 : PGs X es (gsOf T O js gs)) (hd : (is.all fun i => fre O i) = true) (hs : (assignEach (e :: es) X.env).map (·.2) = assign e X.env :: (assignEach es X.env).map (·.2) := by rfl) : PGs X (e :: es) (gsOf T O (is ++ js) (gsC g gs)) :=
  pgsI (pgs_cons h1 h2 hs) fun vs σ H Q ⟨ρ, ow0, fr, ds, R, ok, er, r, ⟨d, dr, e1, q⟩, k⟩ => by
    subst e1
    cases r with
    | cons r rr =>
      refine ⟨_, _, rfl, ρ, ow0, fr, d, _, ok, er, r, q, fun τ ρ' er' sb q' => ?_⟩
      have hO : ∀ i ∈ is, i ∉ O := fun i hi => (fre_of (List.all_eq_true.mp hd i hi)).1
      refine ⟨ρ', ow0, fr, dr, R, ok, er', by rw [ow_same sb hO]; exact rr, q', fun τ2 ρ2 er2 sb2 q2 => k τ2 ρ2 er2 ⟨sb.1.trans sb2.1, fun j hj => ?_⟩ q2⟩
      rw [sb2.2 j (fun z => hj (List.mem_append_right _ z)), sb.2 j (fun z => hj (List.mem_append_left _ z))]
theorem g_tup {n : Nat} {kk : Nat} (hc : X.calm = true) (h : PGs X es (gsOf T O is gs)) (hn : (assignEach es X.env).length = n := by rfl) (hst : (assignEach es X.env).findIdx? (·.1) = none := by rfl) : PG X (.Tuple es kk pos) (gOf T O is (gT n gs)) :=
  pgI (pg_tup hc h hn hst) fun v σ H Q ⟨ρ, ow0, fr, d, R, ok, er, r, ⟨ds, e1, hz, q⟩, k⟩ => by
    subst e1
    obtain ⟨a, ws, rfl, ha, ra⟩ := o_tup r.o
    exact ⟨a, ws, rfl, SqH ha, by rw [ra.length]; exact hz, ρ, ow0, fr, ds, R, ok, er, ra, q, k⟩
end
abbrev DI := Ro → (List D → Prop) → XQ → Prop
def Wlk {K : PySem.W.Frag} (T : Th K) (J : It) (items : List D) (vd : List (V × D)) : Prop := ∀ ow G, T.Ok G → (∀ a, ow a → G a ≠ none) → (∀ p ∈ vd, RepO K G ow p.1 p.2) →
  (∀ i, i < items.length → J.go i G) ∧ J.stop items.length G ∧ ∀ i x G', i < items.length → J.yld i G x G' → T.Ok G' ∧ T.Gr G G' ∧ ∃ d, items[i]? = some d ∧ Rep K G' ow x d
section
variable {K : PySem.W.Frag} (T : Th K) (W : WX) (O : List Nat)
def iOf (φ : DI) : TI := fun σ H R => ∃ ρ ow0 fr A Ax, T.Ok H ∧ ER K H ow0 fr O σ ρ ∧ φ ρ A Ax ∧ (∀ items J G vd, A items → T.Ok G → T.Gr H G → (∀ p ∈ vd, Rep K G (owOf ow0 O σ) p.1 p.2) → Wlk T J items vd → R J G) ∧ XOk T W H (owOf ow0 O σ) σ Ax
def ioOf (φ : DI) : TI := fun σ H R => ∃ ρ ow0 fr A Ax, T.Ok H ∧ ER K H ow0 fr O σ ρ ∧ φ ρ A Ax ∧ (∀ items J G vd, A items → T.Ok G → T.Gr H G → (∀ p ∈ vd, RepO K G (owOf ow0 O σ) p.1 p.2) → Wlk T J items vd → R J G) ∧ XOk T W H (owOf ow0 O σ) σ Ax
end
def iLst (φ : DX) : DI := fun ρ A Ax => φ ρ (fun x => ∃ xs, x = .lst xs ∧ A xs) Ax
def iTupD (φ : DX) : DI := fun ρ A Ax => φ ρ (fun x => ∃ xs, x = .tup xs ∧ A xs) Ax
def rng (lo hi : Int) : List D := (List.range (hi - lo).toNat).map fun i => .int (lo + (i : Nat))
def iRg1 (φ : DX) : DI := fun ρ A Ax => φ ρ (fun x => ∃ j : Int, x = .int j ∧ -(2 ^ 62) ≤ j ∧ j < 2 ^ 62 ∧ A (rng 0 j)) Ax
def iRg2 (φ ψ : DX) : DI := fun ρ A Ax => φ ρ (fun x => ψ ρ (fun y => ∃ i j : Int, x = .int i ∧ y = .int j ∧ (-(2 ^ 62) ≤ i ∧ i < 2 ^ 62 ∧ -(2 ^ 62) ≤ j ∧ j < 2 ^ 62) ∧ A (rng i j)) Ax) Ax
def enumD (xs : List D) : List D := (List.range xs.length).map fun i => .tup [.int (i : Nat), xs.getD i .non]
def iEnm (φ : DX) : DI := fun ρ A Ax => φ ρ (fun x => ∃ xs, x = .lst xs ∧ A (enumD xs)) Ax
def iTxt (φ : DX) : DI := fun ρ A Ax => φ ρ (fun x => ∃ z : Str, x = .str z ∧ A (z.cps.toList.map fun c => .str ⟨#[c]⟩)) Ax
section
variable {X : Cx} {T : Th X.K} {W : WX} {O : List Nat} {tg e a b : Expr} {φ ψ : DX} {p pos : Pos}
theorem piI {t t' : TI} (h : PI X tg e t) (i : ∀ σ H R, t' σ H R → t σ H R) : PI X tg e t' := ⟨fun pins s σ H R I q => h.run pins s σ H R I (i σ H R q)⟩
theorem wlk_list {K : PySem.W.Frag} {T : Th K} {a : Addr} {xs : List D} : Wlk T (Itl K a) xs [(.ref a, .lst xs)] := fun ow G ok tr h => by
  obtain ⟨p, vs, e, hp, r⟩ := o_lst (h _ List.mem_cons_self)
  cases e
  have q : SqL K G a vs := .inl (.inl hp)
  refine ⟨fun i hi => ⟨vs, vs[i]'(by rw [r.length]; exact hi), q, by simp [r.length, hi]⟩, ⟨vs, q, Nat.le_of_eq r.length⟩, fun i x G' hi y => ?_⟩
  obtain ⟨rfl, y⟩ := y
  obtain ⟨d, h1, h2⟩ := r.at (y vs q)
  exact ⟨ok, T.refl _, d, h1, h2⟩
theorem wlk_tup {K : PySem.W.Frag} {T : Th K} {a : Addr} {xs : List D} : Wlk T (Itt K a) xs [(.ref a, .tup xs)] := fun ow G ok tr h => by
  obtain ⟨p, vs, e, q, r⟩ := o_tup (h _ List.mem_cons_self)
  cases e
  refine ⟨fun i hi => ⟨vs, vs[i]'(by rw [r.length]; exact hi), SqH q, by simp [r.length, hi]⟩, ⟨vs, SqH q, Nat.le_of_eq r.length⟩, fun i x G' hi y => ?_⟩
  obtain ⟨rfl, y⟩ := y
  obtain ⟨d, h1, h2⟩ := r.at (y vs (SqH q))
  exact ⟨ok, T.refl _, d, h1, h2⟩
theorem rng_len (lo hi : Int) : (rng lo hi).length = (hi - lo).toNat := by unfold rng; rw [List.length_map, List.length_range]
theorem wlk_range {K : PySem.W.Frag} {T : Th K} {lo hi : Int} : Wlk T (Itr lo (hi - lo).toNat) (rng lo hi) [] := fun ow G ok tr h => by
  rw [rng_len]
  refine ⟨fun i hi => hi, Nat.le_refl _, fun i x G' hi y => ?_⟩
  obtain ⟨rfl, rfl⟩ := y
  refine ⟨ok, T.refl _, .int (lo + (i : Nat)), ?_, .int _⟩
  unfold rng
  rw [List.getElem?_map, List.getElem?_range hi]
  rfl
theorem enum_len (xs : List D) : (enumD xs).length = xs.length := by unfold enumD; rw [List.length_map, List.length_range]
theorem enum_at {xs : List D} {i : Nat} (h : i < xs.length) : (enumD xs)[i]? = some (.tup [.int (i : Nat), xs[i]]) := by
  unfold enumD
  rw [List.getElem?_map, List.getElem?_range h]
  simp [h]
theorem wlk_enum {K : PySem.W.Frag} {T : Th K} {a : Addr} {xs : List D} : Wlk T (Ite K a) (enumD xs) [(.ref a, .lst xs)] := fun ow G ok tr h => by
  rw [enum_len]
  obtain ⟨p, vs, e, hp, r⟩ := o_lst (h _ List.mem_cons_self)
  cases e
  have q : SqL K G a vs := .inl (.inl hp)
  refine ⟨fun i hi => ⟨vs, vs[i]'(by rw [r.length]; exact hi), q, by simp [r.length, hi]⟩, ⟨vs, q, Nat.le_of_eq r.length⟩, fun i x G' hi y => ?_⟩
  obtain ⟨t, v, h1, h2, h3, h4⟩ := y
  obtain ⟨d, e1, e2⟩ := r.at (h4 vs q)
  subst h1 h3
  obtain ⟨n1, n2, n3⟩ := new_tup (T := T) ok tr h2 (.cons (.int (i : Nat)) (.cons e2 .nil))
  refine ⟨n1, n2, _, ?_, n3⟩
  rw [enum_at hi]
  rw [List.getElem?_eq_getElem hi] at e1
  rw [Option.some.inj e1]
theorem wlk_str {K : PySem.W.Frag} {T : Th K} {z : Str} : Wlk T (Its z) (z.cps.toList.map fun c => .str ⟨#[c]⟩) [] := fun ow G ok tr h => by
  rw [List.length_map, Array.length_toList]
  refine ⟨fun i hi => hi, Nat.le_refl _, fun i x G' hi y => ?_⟩
  obtain ⟨rfl, c, h1, rfl⟩ := y
  refine ⟨ok, T.refl _, .str ⟨#[c]⟩, ?_, .str _⟩
  rw [List.getElem?_map, Array.getElem?_toList, h1]
  rfl
theorem i_list (he : PE X e (eOf T W O φ)) : PI X tg e (iOf T W O (iLst φ)) := piI (pi_list he) fun σ H R ⟨ρ, ow0, fr, A, Ax, ok, er, q, k, x⟩ => ⟨ρ, ow0, fr, _, Ax, ok, er, q, fun d v G ⟨xs, e1, qx⟩ okG gG rv => by
    subst e1
    obtain ⟨a, vs, rfl, ha, ra⟩ := o_lst rv.o
    exact ⟨a, rfl, ⟨vs, .inl (.inl ha)⟩, k xs _ G [(.ref a, .lst xs)] qx okG gG (fun p hp => by rw [List.mem_singleton.mp hp]; exact rv) wlk_list⟩, x⟩
theorem i_tup (he : PE X e (eOf T W O φ)) : PI X tg e (iOf T W O (iTupD φ)) := piI (pi_tup he) fun σ H R ⟨ρ, ow0, fr, A, Ax, ok, er, q, k, x⟩ => ⟨ρ, ow0, fr, _, Ax, ok, er, q, fun d v G ⟨xs, e1, qx⟩ okG gG rv => by
    subst e1
    obtain ⟨a, vs, rfl, ha, ra⟩ := o_tup rv.o
    exact ⟨a, rfl, ⟨vs, SqH ha⟩, k xs _ G [(.ref a, .tup xs)] qx okG gG (fun p hp => by rw [List.mem_singleton.mp hp]; exact rv) wlk_tup⟩, x⟩
def on1 (A : D → Prop) : List D → Prop
  | [x] => A x
  | _ => False
theorem on1_of {A : D → Prop} {ds : List D} (h : on1 A ds) : ∃ x, ds = [x] ∧ A x := by
  match ds, h with
  | [x], h => exact ⟨x, rfl, h⟩
theorem i_range1 (hg : Gl X "range") (hm : X.mg "range" = none) (ha : PE X a (eOf T W O φ)) (hs : starEach [a] X.env = [(false, eval a X.env)] := by rfl) : PI X tg (.Call (.Name "range" p) [a] [] pos) (iOf T W O (iRg1 φ)) :=
  piI (pi_range1 hg hm (ba_cons ha ba_nil hs) hs) fun σ H R ⟨ρ, ow0, fr, A, Ax, ok, er, q, k, x⟩ => ⟨ρ, ow0, fr, on1 _, Ax, ok, er, q, fun ds vs G z _ okG gG rv => by
    obtain ⟨_, rfl, j, rfl, h1, h2, qx⟩ := on1_of z
    cases rv with
    | cons r t =>
      cases t
      rw [rep_int r]
      refine ⟨j, rfl, h1, h2, ?_⟩
      have := k _ _ G [] qx okG gG (fun p hp => absurd hp List.not_mem_nil) (wlk_range (lo := 0) (hi := j))
      simpa using this, x⟩
theorem i_enum {elts : List Expr} {kk : Nat} {tpos : Pos} (hg : Gl X "enumerate") (hm : X.mg "enumerate" = none) (ha : PE X a (eOf T W O φ)) (hs : starEach [a] X.env = [(false, eval a X.env)] := by rfl) : PI X (.Tuple elts kk tpos) (.Call (.Name "enumerate" p) [a] [] pos) (iOf T W O (iEnm φ)) :=
  piI (pi_enum hg hm (ba_cons ha ba_nil hs) hs) fun σ H R ⟨ρ, ow0, fr, A, Ax, ok, er, q, k, x⟩ => ⟨ρ, ow0, fr, on1 _, Ax, ok, er, q, fun ds vs G z _ okG gG rv => by
    obtain ⟨_, rfl, xs, rfl, qx⟩ := on1_of z
    cases rv with
    | cons r t =>
      cases t
      obtain ⟨a, vs, rfl, ha, ra⟩ := o_lst r.o
      exact ⟨a, vs, rfl, .inl (.inl ha), k _ _ G [(.ref a, .lst xs)] qx okG gG (fun p hp => by rw [List.mem_singleton.mp hp]; exact r) wlk_enum⟩, x⟩
theorem i_str (he : PE X e (eOf T W O φ)) : PI X tg e (iOf T W O (iTxt φ)) := piI (pi_str he) fun σ H R ⟨ρ, ow0, fr, A, Ax, ok, er, q, k, x⟩ => ⟨ρ, ow0, fr, _, Ax, ok, er, q, fun d v G ⟨z, e1, qx⟩ okG gG rv => by
    subst e1
    exact ⟨z, o_str rv.o, k _ _ G [] qx okG gG (fun p hp => absurd hp List.not_mem_nil) wlk_str⟩, x⟩
theorem i_io {φi : DI} (h : PI X tg e (iOf T W O φi)) : PI X tg e (ioOf T W O φi) := piI h fun σ H R ⟨ρ, ow0, fr, A, Ax, ok, er, q, k, x⟩ => ⟨ρ, ow0, fr, A, Ax, ok, er, q, fun items J G vd a o g r w => k items J G vd a o g (fun p hp => .inl (r p hp)) w, x⟩
end
def forL (g : DG) (b : DS) : List D → DS
  | [], E, ρ => E.nx ρ
  | x :: xs, E, ρ => g x ρ fun ρ' => b { E with nx := forL g b xs E, ct := forL g b xs E, bk := E.nx } ρ'
def sFor (φ : DI) (g : DG) (b : DS) : DS := fun E ρ => φ ρ (fun items => forL g b items E ρ) fun x => E.ex x ρ
section
variable {X : Cx} {T : Th X.K} {W : WX} {fz : Nat} {O is Ol : List Nat} {tg iter : Expr} {body : List Stmt} {φ : DI} {g : DG} {b : DS} {pos : Pos}
theorem Sr.er_set {K : PySem.W.Frag} {T : Th K} {H0 H : Hp} {owi ow0 : Addr → Prop} {fr : Fr} {σ τ : L2.St} {ρ ρ' : Ro} (s : Sr T H0 owi ow0 fr O σ H ρ) (e : ER K H ow0 fr O τ ρ') (sb : SameBut is σ τ) (d : ∀ i ∈ is, i ∉ O) : Sr T H0 owi ow0 fr O τ H ρ' :=
  ⟨s.ok, s.gr, e, s.sub, fun i hi a z => s.new i hi a (by rw [← sb.2 i (fun q => d i q hi)]; exact z), s.iwH⟩
theorem Sr.vd {K : PySem.W.Frag} {T : Th K} {H0 H : Hp} {owi ow0 : Addr → Prop} {fr : Fr} {σ : L2.St} {ρ : Ro} {vd : List (V × D)} (s : Sr T H0 owi ow0 fr O σ H ρ) (h : ∀ p ∈ vd, Rep K H (owOf ow0 O σ) p.1 p.2) : Sr T H0 owi ow0 { fr with vd := vd ++ fr.vd } O σ H ρ :=
  ⟨s.ok, s.gr, ⟨s.er.val, s.er.own, fun p hp => (List.mem_append.mp hp).elim (h p) (s.er.frm p), s.er.dep, s.er.nwq, s.er.trk, s.er.len, s.er.slt, s.er.sml⟩, s.sub, s.new, s.iwH⟩
theorem s_for (hp : PassesOwn (model X.prog X.w) X.A X.env X.xe) (hc : X.calm = true) (hi : PI X tg iter (iOf T W O φ)) (hg : PG X tg (gOf T O is g)) (hd : (is.all fun i => fre O i) = true) (hb : PSs X body (sOf T W fz O O O b))
    (hs : ∀ x, foldedSetIterable iter X.env x = pure x := by intro _; rfl) : PS X (.For tg iter body [] pos) (sOf T W fz O O Ol (sFor φ g b)) := by
  refine psI (ps_for hp hc hi hg hb hs) fun M σ H ⟨ρ, H0, owi, ow0, fr, E, s, tr, k, q⟩ => ?_
  have hO : ∀ i ∈ is, i ∉ O := fun i hi => (fre_of (List.all_eq_true.mp hd i hi)).1
  refine ⟨ρ, ow0, fr, _, _, s.ok, s.er, q, fun items J G vd qi okG gG rvd wk => ?_, k.x s⟩
  have sG := (s.go okG gG).vd rvd
  refine ⟨fun i m σ H => m = items.length - i ∧ i ≤ items.length ∧ ∃ ρ ow0, Sr T H0 owi ow0 { fr with vd := vd ++ fr.vd } O σ H ρ ∧ forL g b (items.drop i) E ρ, ⟨items.length, by simp, Nat.zero_le _, ρ, ow0, sG, by rw [List.drop_zero]; exact qi⟩, ?_⟩
  rintro i m σ' H' ⟨rfl, hi, ρ', ow', s', q'⟩
  obtain ⟨w1, w2, w3⟩ := wk (owOf ow' O σ') H' s'.ok s'.er.otrk fun p hp => .inl (s'.er.frm p (List.mem_append_left _ hp))
  by_cases hlt : i < items.length
  · refine .inr ⟨w1 i hlt, fun σ2 H2 => ∃ ρ ow0, Sr T H0 owi ow0 { fr with vd := vd ++ fr.vd } O σ2 H2 ρ ∧ forL g b (items.drop (i + 1)) E ρ, fun σ2 H2 ⟨ρ2, ow2, s2, q2⟩ => ⟨items.length - (i + 1), by omega, rfl, hlt, ρ2, ow2, s2, q2⟩, fun x H2 y => ?_⟩
    obtain ⟨ok2, g2, d, hd2, rx⟩ := w3 i x H2 hlt y
    have e1 : items.drop i = d :: items.drop (i + 1) := by
      rw [List.drop_eq_getElem_cons hlt]
      rw [List.getElem?_eq_getElem hlt] at hd2
      rw [Option.some.inj hd2]
    rw [e1] at q'
    have s2 := s'.go ok2 g2
    refine ⟨ρ', ow', { fr with vd := vd ++ fr.vd }, d, _, ok2, s2.er, rx, q', fun τ ρ3 er3 sb3 q3 => ?_⟩
    refine ⟨ρ3, H0, owi, ow', { fr with vd := vd ++ fr.vd }, { E with nx := forL g b (items.drop (i + 1)) E, ct := forL g b (items.drop (i + 1)) E, bk := E.nx }, s2.er_set er3 sb3 hO, tr, ⟨fun σ4 H4 ρ4 ow4 s4 q4 => ⟨ρ4, ow4, s4, q4⟩, k.rt, fun σ4 H4 ρ4 ow4 s4 q4 => ?_, fun σ4 H4 ρ4 ow4 s4 q4 => ⟨ρ4, ow4, s4, q4⟩, fun x d σ4 H4 ρ4 ow4 s4 r4 q4 => ?_⟩, q3⟩
    · exact k.nx σ4 H4 ρ4 ow4 (s4.less (fun p hp => List.mem_append_right _ hp) rfl rfl) q4
    · exact k.ex x d σ4 H4 ρ4 ow4 (s4.less (fun p hp => List.mem_append_right _ hp) rfl rfl) r4 q4
  · have e : i = items.length := by omega
    subst e
    rw [List.drop_length] at q'
    exact .inl ⟨w2, k.nx σ' H' ρ' ow' (s'.less (fun p hp => List.mem_append_right _ hp) rfl rfl) q'⟩
end
end Dz
namespace Dz
open PySem PySem.Spec PyProof.Rows L2 Evl Bf
def W0 : WX := fun _ _ _ _ => False
def wipeR (ρ : Ro) : List Nat → Ro
  | [] => ρ
  | v :: vs => (wipeR ρ vs).set v none
def lcL (ρ : Ro) (vs : List Nat) (g : DG) (t : DT) (e : DX) : List D → List D → (List D → Prop) → Prop
  | [], acc, Q => Q acc
  | x :: xs, acc, Q => g x (wipeR ρ vs) fun ρ' => t ρ' (fun b => if b = true then e ρ' (fun y => lcL ρ vs g t e xs (acc ++ [y]) Q) (fun _ => False) else lcL ρ vs g t e xs acc Q) (fun _ => False)
def xLc (φ : DI) (vs : List Nat) (g : DG) (t : DT) (e : DX) : DX := fun ρ A Ax => φ ρ (fun items => items.length ≤ big ∧ lcL ρ vs g t e items [] fun ys => A (.lst ys)) Ax
def tYesD : DT := fun _ A _ => A true
section
variable {O : List Nat} {σ τ : L2.St} {ρ : Ro}
theorem wipe_get (σ : L2.St) (j : Nat) : ∀ vs : List Nat, (wipe σ vs)[j]? = if j ∈ vs then (if j < σ.length then some none else none) else σ[j]?
  | [] => by rw [if_neg List.not_mem_nil]; rfl
  | v :: vs => by
    show ((wipe σ vs).set v none)[j]? = _
    by_cases c : v = j
    · subst c
      rw [if_pos List.mem_cons_self]
      by_cases hl : v < σ.length
      · rw [if_pos hl, List.getElem?_set_self (by rw [wipe_length]; exact hl)]
      · rw [if_neg hl, List.getElem?_eq_none (by rw [List.length_set, wipe_length]; omega)]
    · rw [List.getElem?_set_ne c, wipe_get σ j vs]
      by_cases h : j ∈ vs
      · rw [if_pos h, if_pos (List.mem_cons_of_mem _ h)]
      · rw [if_neg h, if_neg (fun z => (List.mem_cons.mp z).elim (fun q => c q.symm) h)]
theorem wipeR_length (ρ : Ro) : ∀ vs : List Nat, (wipeR ρ vs).length = ρ.length
  | [] => rfl
  | v :: vs => by
    show ((wipeR ρ vs).set v none).length = _
    rw [List.length_set, wipeR_length ρ vs]
theorem wipeR_get (ρ : Ro) (j : Nat) : ∀ vs : List Nat, (wipeR ρ vs)[j]? = if j ∈ vs then (if j < ρ.length then some none else none) else ρ[j]?
  | [] => by rw [if_neg List.not_mem_nil]; rfl
  | v :: vs => by
    show ((wipeR ρ vs).set v none)[j]? = _
    by_cases c : v = j
    · subst c
      rw [if_pos List.mem_cons_self]
      by_cases hl : v < ρ.length
      · rw [if_pos hl, List.getElem?_set_self (by rw [wipeR_length]; exact hl)]
      · rw [if_neg hl, List.getElem?_eq_none (by rw [List.length_set, wipeR_length]; omega)]
    · rw [List.getElem?_set_ne c, wipeR_get ρ j vs]
      by_cases h : j ∈ vs
      · rw [if_pos h, if_pos (List.mem_cons_of_mem _ h)]
      · rw [if_neg h, if_neg (fun z => (List.mem_cons.mp z).elim (fun q => c q.symm) h)]
theorem wipe_same {is vs : List Nat} (h : SameBut is (wipe σ vs) τ) (hs : ∀ i ∈ is, i ∈ vs) : wipe τ vs = wipe σ vs := by
  refine List.ext_getElem? fun j => ?_
  rw [wipe_get, wipe_get]
  have hl : τ.length = σ.length := by rw [← h.1, wipe_length]
  by_cases c : j ∈ vs
  · rw [if_pos c, if_pos c, hl]
  · rw [if_neg c, if_neg c, h.2 j (fun z => c (hs j z)), wipe_get, if_neg c]
theorem ow_wipe {ow0 : Addr → Prop} {vs : List Nat} (h : ∀ i ∈ vs, i ∉ O) : owOf ow0 O (wipe σ vs) = owOf ow0 O σ := by
  funext a
  unfold owOf
  refine propext (or_congr_right ⟨fun ⟨j, hj, e⟩ => ⟨j, hj, ?_⟩, fun ⟨j, hj, e⟩ => ⟨j, hj, ?_⟩⟩)
  · rw [wipe_get, if_neg (fun z => h j z hj)] at e; exact e
  · rw [wipe_get, if_neg (fun z => h j z hj)]; exact e
theorem ER.wipe {K : PySem.W.Frag} {H : Hp} {ow0 : Addr → Prop} {fr : Fr} {vs : List Nat} (e : ER K H ow0 fr O σ ρ) (h' : ∀ i ∈ vs, fre O i = true) : ER K H ow0 fr O (L2.wipe σ vs) (wipeR ρ vs) where
  val := fun i d hd hi hi2 => by
    have h : ∀ i ∈ vs, i ∉ O := fun i hi => (fre_of (h' i hi)).1
    rw [ow_wipe h]
    rw [wipeR_get] at hd
    by_cases c : i ∈ vs
    · rw [if_pos c] at hd
      split at hd <;> cases hd
    · rw [if_neg c] at hd
      rw [wipe_get, if_neg c]
      exact e.val i d hd hi hi2
  own := fun i hi l => by
    have h : ∀ i ∈ vs, i ∉ O := fun i hi => (fre_of (h' i hi)).1
    have c : i ∉ vs := fun z => h i z hi
    obtain ⟨a, d, h1, h2, h3, h4, h5⟩ := e.own i hi l
    rw [ow_wipe h, wipeR_get, if_neg c, wipe_get, if_neg c]
    refine ⟨a, d, h1, h2, h3, h4, fun j hj z => h5 j hj ?_⟩
    rw [wipe_get, if_neg (fun z => h j z hj)] at z
    exact z
  frm := fun p hp => by rw [ow_wipe fun i hi => (fre_of (h' i hi)).1]; exact e.frm p hp
  dep := by
    obtain ⟨rg, hd⟩ := e.dep
    refine ⟨rg, fun i l hi => ?_⟩
    have c : i ∉ vs := fun z => (fre_of (h' i z)).2 hi
    rw [wipeR_get, if_neg c, wipe_get, if_neg c]
    exact hd i l hi
  nwq := fun i hi => by
    have c : i ∉ vs := fun z => fre_q (h' i z) hi
    rw [ow_wipe fun i hi => (fre_of (h' i hi)).1, wipeR_get, if_neg c, wipe_get, if_neg c]
    exact e.nwq i hi
  trk := e.trk
  len := by rw [wipeR_length, wipe_length]; exact e.len
  slt := fun v z h0 => by
    rw [wipe_get, if_neg (fun q => h0.elim (fun h0 => (fre_of (h' 0 q)).1 h0) fun h0 => h0.elim (fun h0 => (fre_of (h' 0 q)).2 (by rw [Nat.zero_add]; exact h0)) fun h0 => fre_q (h' 0 q) (by rw [Nat.zero_add]; exact h0))]
    exact e.slt v z h0
  sml := by rw [wipe_length]; exact e.sml
theorem ow_more {ow0 : Addr → Prop} {p : Addr} : owOf (fun a => ow0 a ∨ a = p) O σ = fun a => owOf ow0 O σ a ∨ a = p := by
  funext a
  unfold owOf
  exact propext ⟨fun z => z.elim (fun z => z.elim (fun z => .inl (.inl z)) .inr) fun z => .inl (.inr z), fun z => z.elim (fun z => z.elim (fun z => .inl (.inl z)) .inr) fun z => .inl (.inr z)⟩
theorem ER.more {K : PySem.W.Frag} {H : Hp} {ow0 : Addr → Prop} {fr : Fr} {p : Addr} {o : HO} (T : Th K) (e : ER K H ow0 fr O σ ρ) (hp : H p = none) (g : T.Gr H (upd H p o)) : ER K (upd H p o) (fun a => ow0 a ∨ a = p) { fr with iw := fun a => fr.iw a ∨ a = p } O σ ρ := by
  have m1 : Mv K H (owOf ow0 O σ) H (owOf (fun a => ow0 a ∨ a = p) O σ) := by rw [ow_more]; exact more_own hp
  refine ⟨fun i d hd hi hi2 => ?_, fun i hi l => ?_, fun q hq => ((e.frm q hq).mv m1).gr T g, ?_, fun i hi => ?_, fun a ha => ?_, e.len, e.slt, e.sml⟩
  · obtain ⟨v, h1, h2⟩ := e.val i d hd hi hi2
    exact ⟨v, h1, (h2.mv m1).gr T g⟩
  · obtain ⟨a, d, h1, h2, h3, h4, h5⟩ := e.own i hi l
    refine ⟨a, d, h1, h2, fun z => z.elim h3 fun z => h4.trk (z ▸ hp), (h4.mv m1 fun o z _ => z).mv (Mv.gr T g) fun o z n => T.keep g z n, h5⟩
  · obtain ⟨rg, hd⟩ := e.dep
    exact ⟨rg, fun i l hi => (hd i l hi).mv (Mv.gr T g) (fun a _ _ o z n => T.keep g z n) fun a z _ n => ⟨.inl z, fun q => q.elim n fun q => e.trk a z (q ▸ hp)⟩⟩
  · obtain ⟨v, d, h1, h2, h3⟩ := e.nwq i hi
    refine ⟨v, d, h1, h2, (h3.mv (Mv.more fun a z => ?_)).gr T g⟩
    rw [ow_more] at z
    rcases z with (z | z) | (z | z)
    · exact .inl (.inl z)
    · exact .inr (z ▸ hp)
    · exact .inl (.inr z)
    · exact .inr (z ▸ hp)
  · rcases ha with ha | rfl
    · exact T.forth g (e.trk a ha)
    · rw [upd_same]; exact fun z => by cases z
theorem ER.put0 {K : PySem.W.Frag} {H : Hp} {ow0 : Addr → Prop} {fr : Fr} {p : Addr} {o o' : HO} (e : ER K H ow0 fr O σ ρ) (hp : H p = some o) (n1 : ∀ xs, o ≠ .tup xs) (n2 : ∀ kvs, o ≠ .dT kvs) (n3 : ∀ ob u, o ≠ .frz ob u) (n7 : ∀ vs, o ≠ .xd vs) (own : ow0 p) (nf : fr.iw p) (n8 : ∀ C dx fs, o' = .ins C dx fs → C ≠ He.ga K "Family" := by intro _ _ _ z; cases z) : ER K (upd H p o') ow0 fr O σ ρ := by
  have m : Mv K H (owOf ow0 O σ) (upd H p o') (owOf ow0 O σ) := Mv.put hp n1 n2 n3 n7 (.inl own) (fun a z => z) n8
  refine ⟨fun i d hd hi hi2 => ?_, fun i hi l => ?_, fun q hq => (e.frm q hq).mv m, ?_, fun i hi => ?_, fun a ha => ?_, e.len, e.slt, e.sml⟩
  · obtain ⟨v, h1, h2⟩ := e.val i d hd hi hi2
    exact ⟨v, h1, h2.mv m⟩
  · obtain ⟨a, d, h1, h2, h3, h4, h5⟩ := e.own i hi l
    exact ⟨a, d, h1, h2, h3, h4.mv m (fun o z _ => by rw [upd_ne (fun z : a = p => h3 (z ▸ own))]; exact z) (hl2 := fun _ => keepD_put (fun z : a = p => h3 (z ▸ own)) n8), h5⟩
  · obtain ⟨rg, hd⟩ := e.dep
    exact ⟨rg, fun i l hi => (hd i l hi).mv (Mv.put hp n1 n2 n3 n7 trivial (fun a z => z) n8) (fun a _ n o z _ => by rw [upd_ne (fun q : a = p => n (q ▸ nf))]; exact z) fun a z _ n => ⟨z, n⟩⟩
  · obtain ⟨v, d, h1, h2, h3⟩ := e.nwq i hi
    exact ⟨v, d, h1, h2, h3.mv (Mv.put hp n1 n2 n3 n7 (.inl (.inl own)) (fun a z => z) n8)⟩
  · by_cases c : a = p
    · rw [c, upd_same]; exact fun z => by cases z
    · rw [upd_ne c]; exact e.trk a ha
end
def RepP (K : PySem.W.Frag) (H : Hp) (ow : Addr → Prop) (p : Addr) (v : V) (d : D) : Prop := Rep K H (fun a => ow a ∨ a = p) v d ∨ ∃ a, v = .ref a ∧ a ≠ p ∧ OwnR K H (fun a => ow a ∨ a = p) a d
section
variable {K : PySem.W.Frag} {H G : Hp} {ow : Addr → Prop} {p : Addr} {v : V} {d : D}
theorem RepP.o (h : RepP K H ow p v d) : RepO K H (fun a => ow a ∨ a = p) v d := h.imp_right fun ⟨a, e, _, z⟩ => ⟨a, e, z⟩
theorem RepP.of {o : HO} (h : RepO K H ow v d) (T : Th K) (hp : H p = none) (g : T.Gr H (upd H p o)) : RepP K (upd H p o) ow p v d := by
  rcases h with z | ⟨a, e1, z⟩
  · exact .inl ((z.mv (more_own hp)).gr T g)
  · exact .inr ⟨a, e1, fun e => z.trk (e ▸ hp), (z.mv (more_own hp) fun o z _ => z).mv (Mv.gr T g) fun o z n => T.keep g z n⟩
theorem RepP.gr (T : Th K) (g : T.Gr H G) (h : RepP K H ow p v d) : RepP K G ow p v d := by
  rcases h with z | ⟨a, e1, n, z⟩
  · exact .inl (z.gr T g)
  · exact .inr ⟨a, e1, n, z.mv (Mv.gr T g) fun o z n => T.keep g z n⟩
theorem RepP.put {xs ys : List V} (hp : H p = some (.lst xs)) (h : RepP K H ow p v d) : RepP K (upd H p (.lst ys)) ow p v d := by
  have mp : Mv K H (fun a => ow a ∨ a = p) (upd H p (.lst ys)) (fun a => ow a ∨ a = p) := Mv.put hp (fun _ z => by cases z) (fun _ z => by cases z) (fun _ _ z => by cases z) (fun _ z => by cases z) (.inr rfl) fun a z => z
  rcases h with z | ⟨a, e1, n, z⟩
  · exact .inl (z.mv mp)
  · exact .inr ⟨a, e1, n, z.mv mp (fun o z2 _ => by rw [upd_ne n]; exact z2) (hl2 := fun _ => keepD_put n (by intro _ _ _ z; cases z))⟩
theorem RepP.putD {xs ys : List (Key × V)} (hp : H p = some (.dK xs)) (h : RepP K H ow p v d) : RepP K (upd H p (.dK ys)) ow p v d := by
  have mp : Mv K H (fun a => ow a ∨ a = p) (upd H p (.dK ys)) (fun a => ow a ∨ a = p) := Mv.put hp (fun _ z => by cases z) (fun _ z => by cases z) (fun _ _ z => by cases z) (fun _ z => by cases z) (.inr rfl) fun a z => z
  rcases h with z | ⟨a, e1, n, z⟩
  · exact .inl (z.mv mp)
  · exact .inr ⟨a, e1, n, z.mv mp (fun o z2 _ => by rw [upd_ne n]; exact z2) (hl2 := fun _ => keepD_put n (by intro _ _ _ z; cases z))⟩
end
section
variable {X : Cx} {T : Th X.K} {W : WX} {O is vs : List Nat} {tg iter elt : Expr} {ifs : List Expr} {φ : DI} {g : DG} {t : DT} {e : DX} {pos : Pos} {scope : Scope} {own : List (Str × Nat)}
theorem lc_aux {σ : L2.St} {H : Hp} {Q : VK} (hv : (vs.all fun i => fre O i) = true) (hi : (is.all fun i => vs.contains i) = true) (h : efOf T W O (xLc φ vs g t e) σ H Q) : tLc (ioOf T W O φ) (gOf T O is g) (tOf T W0 O t) (eOf T W0 O e) vs σ H Q := by
  obtain ⟨ρ, ow0, fr, A, Ax, ok, er, q, k, x⟩ := h
  have hV' : ∀ i ∈ vs, fre O i = true := fun i hi => List.all_eq_true.mp hv i hi
  have hV : ∀ i ∈ vs, i ∉ O := fun i hi => (fre_of (hV' i hi)).1
  have hI : ∀ i ∈ is, i ∈ vs := fun i h => by simpa using List.all_eq_true.mp hi i h
  refine ⟨ρ, ow0, fr, _, Ax, ok, er, q, fun items J H1 vd ⟨hl, qi⟩ ok1 g1 rvd wk p hp => ?_, x⟩
  have er1 := er.gr T g1
  obtain ⟨n1, n2⟩ := T.new (o := .lst []) ok1 hp rfl
  have er2 := (er1.more T hp n2).wipe hV'
  have eo : owOf (fun a => ow0 a ∨ a = p) O (wipe σ vs) = fun a => owOf ow0 O σ a ∨ a = p := by rw [ow_wipe hV, ow_more]
  refine ⟨fun i m G => m = items.length - i ∧ i ≤ items.length ∧ ∃ acc av, T.Ok G ∧ T.Gr H1 G ∧ ER X.K G (fun a => ow0 a ∨ a = p) { vd := fr.vd, iw := fun a => fr.iw a ∨ a = p } O (wipe σ vs) (wipeR ρ vs) ∧ (∀ q ∈ vd, RepP X.K G (owOf ow0 O σ) p q.1 q.2) ∧ G p = some (.lst av) ∧
      RepL X.K G (fun a => owOf ow0 O σ a ∨ a = p) av acc ∧ acc.length ≤ i ∧ lcL ρ vs g t e (items.drop i) acc fun ys => A (.lst ys), ⟨items.length, by simp, Nat.zero_le _, [], [], n1, n2, ⟨er2.val, er2.own, er2.frm, er2.dep, er2.nwq, er2.trk, er2.len, (fun v z => nomatch z), er2.sml⟩, fun q hq => ?_, upd_same, .nil, Nat.zero_le _, by rw [List.drop_zero]; exact qi⟩, ?_⟩
  · exact RepP.of (rvd q hq) T hp n2
  rintro i m G ⟨rfl, hi, acc, av, okG, gG, erG, rG, hG, lG, al, qG⟩
  have trG : ∀ a, (fun a => owOf ow0 O σ a ∨ a = p) a → G a ≠ none := by rw [← eo]; exact erG.otrk
  obtain ⟨w1, w2, w3⟩ := wk _ G okG trG fun q hq => (rG q hq).o
  by_cases hlt : i < items.length
  · refine .inr ⟨w1 i hlt, fun G' => i + 1 ≤ items.length ∧ ∃ acc av, T.Ok G' ∧ T.Gr H1 G' ∧ ER X.K G' (fun a => ow0 a ∨ a = p) { vd := fr.vd, iw := fun a => fr.iw a ∨ a = p } O (wipe σ vs) (wipeR ρ vs) ∧ (∀ q ∈ vd, RepP X.K G' (owOf ow0 O σ) p q.1 q.2) ∧ G' p = some (.lst av) ∧
      RepL X.K G' (fun a => owOf ow0 O σ a ∨ a = p) av acc ∧ acc.length ≤ i + 1 ∧ lcL ρ vs g t e (items.drop (i + 1)) acc fun ys => A (.lst ys), fun G' h' => ⟨items.length - (i + 1), by omega, rfl, h'⟩, fun x G2 y => ?_⟩
    obtain ⟨ok2, g2, d, hd, rx⟩ := w3 i x G2 hlt y
    have e1 : items.drop i = d :: items.drop (i + 1) := by
      rw [List.drop_eq_getElem_cons hlt]
      rw [List.getElem?_eq_getElem hlt] at hd
      rw [Option.some.inj hd]
    rw [e1] at qG
    have er3 := erG.gr T g2
    rw [← eo] at rx
    refine ⟨wipeR ρ vs, _, { vd := fr.vd, iw := fun a => fr.iw a ∨ a = p }, d, _, ok2, er3, rx, qG, fun τ ρ' erT sb qT => ⟨wipe_same sb hI, ?_⟩⟩
    have eoT : owOf (fun a => ow0 a ∨ a = p) O τ = fun a => owOf ow0 O σ a ∨ a = p := by
      rw [← eo]
      exact ow_same sb fun i z => hV i (hI i z)
    have lo : ∀ {L : Hp}, T.Gr G L → T.Ok L → lcL ρ vs g t e (items.drop (i + 1)) acc (fun ys => A (.lst ys)) → (i + 1 ≤ items.length ∧ ∃ acc av, T.Ok L ∧ T.Gr H1 L ∧ ER X.K L (fun a => ow0 a ∨ a = p) { vd := fr.vd, iw := fun a => fr.iw a ∨ a = p } O (wipe σ vs) (wipeR ρ vs) ∧ (∀ q ∈ vd, RepP X.K L (owOf ow0 O σ) p q.1 q.2) ∧ L p = some (.lst av) ∧
      RepL X.K L (fun a => owOf ow0 O σ a ∨ a = p) av acc ∧ acc.length ≤ i + 1 ∧ lcL ρ vs g t e (items.drop (i + 1)) acc fun ys => A (.lst ys)) := fun gL okL qL =>
      ⟨hlt, acc, av, okL, T.trans gG gL, erG.gr T gL, fun q hq => (rG q hq).gr T gL, T.keep gL hG (fun _ z => by cases z), lG.gr T gL, by omega, qL⟩
    refine ⟨ρ', _, { vd := fr.vd, iw := fun a => fr.iw a ∨ a = p }, _, _, ok2, erT, qT, fun b L qb okL gL => ?_, fun x d G a => absurd a (fun z => z)⟩
    have g3 := T.trans g2 gL
    cases b with
    | false => exact lo g3 okL qb
    | true =>
      refine ⟨ρ', _, { vd := fr.vd, iw := fun a => fr.iw a ∨ a = p }, _, _, okL, erT.gr T gL, qb, fun y v L2 qy okL2 gL2 ry => ?_, fun x d G a => absurd a (fun z => z)⟩
      have g4 := T.trans g3 gL2
      have hp4 := T.keep g4 hG (fun _ z => by cases z)
      have al2 : av.length < 100000 := by
        have h1 : av.length = acc.length := lG.length
        have h2 : items.length ≤ 100000 := hl
        omega
      refine ⟨av, hp4, sz_lt al2, hlt, acc ++ [y], av ++ [v], ?_⟩
      rw [eoT] at ry
      obtain ⟨p1, p2⟩ := T.put (o' := .lst (av ++ [v])) (T.trans gG g4) hp okL2 hp4 (fun _ z => by cases z) (fun _ z => by cases z) (fun _ z => by cases z) rfl rfl
      have mp : Mv X.K L2 (fun a => owOf ow0 O σ a ∨ a = p) (upd L2 p (.lst (av ++ [v]))) (fun a => owOf ow0 O σ a ∨ a = p) := Mv.put hp4 (fun _ z => by cases z) (fun _ z => by cases z) (fun _ _ z => by cases z) (fun _ z => by cases z) (.inr rfl) fun a z => z
      refine ⟨p1, p2, (erG.gr T g4).put0 hp4 (fun _ z => by cases z) (fun _ z => by cases z) (fun _ _ z => by cases z) (fun _ z => by cases z) (.inr rfl) (.inr rfl), fun q hq => ?_, upd_same, ((lG.gr T g4).mv mp).append (.cons (ry.mv mp) .nil), by rw [List.length_append]; show acc.length + 1 ≤ i + 1; omega, qy⟩
      exact RepP.put hp4 ((rG q hq).gr T g4)
  · have e1 : i = items.length := by omega
    subst e1
    rw [List.drop_length] at qG
    refine .inl ⟨w2, k _ _ G qG okG (T.trans g1 gG) ⟨p, rfl, T.back g1 hp, .lst hG ?_⟩⟩
    exact lG
end
end Dz
namespace Dz
open PySem PySem.Spec PyProof.Rows L2 Evl Bf
section
variable {X : Cx} {T : Th X.K} {W : WX} {fz : Nat} {O is vs Ol : List Nat} {tg iter elt : Expr} {ifs : List Expr} {φ : DI} {g : DG} {t : DT} {e : DX} {pos spos : Pos} {scope : Scope} {own : List (Str × Nat)}
theorem pts0 : PTs X [] (tOf T W O tYesD) := ⟨fun pins s σ H Q I ⟨ρ, ow0, fr, A, Ax, ok, er, q, k, x⟩ => pts_nil.run pins s σ H Q I (k true H q ok (T.refl H))⟩
theorem bf_lc (hc : X.calm = true) (hN : X.N.Nodup) (hi : PI X tg iter (ioOf T W O φ)) (ok : BlkOk X.N X.env.scope scope own)
    (hg : ∀ (s : Shared) (H : Hp) (C : Addr) (cl : List (Str × Addr)) (fp : List Addr), PG (X.blk s H scope (compEnvC scope cl C X.env) fp) tg (gOf (K := X.K) T O is g)) (ht : ∀ (s : Shared) (H : Hp) (C : Addr) (cl : List (Str × Addr)) (fp : List Addr), PTs (X.blk s H scope (compEnvC scope cl C X.env) fp) ifs (tOf (K := X.K) T W0 O t))
    (he : ∀ (s : Shared) (H : Hp) (C : Addr) (cl : List (Str × Addr)) (fp : List Addr), PE (X.blk s H scope (compEnvC scope cl C X.env) fp) elt (eOf (K := X.K) T W0 O e)) (hv : ((own.map (·.2)).all fun i => fre O i) = true) (hI : (is.all fun i => (own.map (·.2)).contains i) = true)
    (hs : ∀ x, foldedSetIterable iter X.env x = pure x := by intro _; rfl) : PE X (.ListComp elt [⟨tg, iter, ifs, 0⟩] scope pos) (efOf T W O (xLc φ (own.map (·.2)) g t e)) :=
  peI (pe_lc hc hN hi ok hg ht he hs) fun _ _ _ h => lc_aux hv hI h
end
theorem own_disN {K : PySem.W.Frag} {H : Hp} {ow ow' : Addr → Prop} {a : Addr} {d : D} (ha : ow' a) (h4 : OwnR K H ow a d) (g : Rep K H ow' (.ref a) d) : False := by
  cases h4 with
  | lst _ _ => cases g with
    | lst _ n _ => exact n ha
  | dic _ _ => cases g with
    | dic _ n _ => exact n ha
  | ins _ _ => cases g with
    | ins _ n _ => exact n ha
  | dit _ _ _ => cases g with
    | dit _ _ n _ => exact n ha
theorem own_dis {K : PySem.W.Frag} {H : Hp} {ow ow0 : Addr → Prop} {a : Addr} {d : D} {fp : List Addr} {P : Addr → Prop} (h3 : ¬ ow0 a) (h4 : OwnR K H ow a d) (g3 : Own K H tt fp (.ref a) d) (g5 : ∀ b ∈ fp, ow0 b ∧ P b) : False := by
  cases h4 with
  | lst _ _ => cases g3 with
    | leaf r => cases r with
      | lst _ n _ => exact n trivial
    | lst _ _ => exact h3 (g5 a List.mem_cons_self).1
  | dic _ _ => cases g3 with
    | leaf r => cases r with
      | dic _ n _ => exact n trivial
    | dic _ _ => exact h3 (g5 a List.mem_cons_self).1
  | ins _ _ => cases g3 with
    | leaf r => cases r with
      | ins _ n _ => exact n trivial
    | ins _ _ => exact h3 (g5 a List.mem_cons_self).1
  | dit _ _ _ => cases g3 with
    | leaf r => cases r with
      | dit _ _ n _ => exact n trivial
theorem Sr.putG {K : PySem.W.Frag} {T : Th K} {H0 H : Hp} {owi ow0 : Addr → Prop} {fr : Fr} {O : List Nat} {σ : L2.St} {ρ : Ro} {i : Nat} {a : Addr} {o o' : HO} {d' : D} (s : Sr T H0 owi ow0 fr O σ H ρ) (hi : i ∈ O) (ha : σ[i]? = some (some (.ref a))) (ho : H a = some o)
    (n1 : ∀ xs, o ≠ .tup xs) (n3 : ∀ ob u, o ≠ .frz ob u) (n7 : ∀ vs, o ≠ .xd vs) (p1 : T.Ok (upd H a o')) (p2 : T.Gr H0 (upd H a o')) (n6 : isIns o' = false) (new : OwnR K (upd H a o') (owOf ow0 O σ) a d') : Sr T H0 owi ow0 fr O σ (upd H a o') (ρ.set i (some d')) := by
  have n8 : ∀ C dx fs, o' = .ins C dx fs → C ≠ He.ga K "Family" := fun C dx fs e => by rw [e] at n6; cases n6
  have m : Mv K H (owOf ow0 O σ) (upd H a o') (owOf ow0 O σ) := Mv.putA ho n1 n3 n7 (.inr ⟨i, hi, ha⟩) (fun a z => z) n8
  have hdp : i < dp := s.er.ltS ha
  obtain ⟨a', d, h1, h2, h3, h4, h5⟩ := s.er.own i hi hdp
  rw [ha] at h2
  cases h2
  have hl : i < ρ.length := (List.getElem?_eq_some_iff.mp h1).1
  refine ⟨p1, p2, ⟨fun j d2 hd hj hj2 => ?_, fun j hj l => ?_, fun q hq => (s.er.frm q hq).mv m, ?_, fun j hj => ?_, fun b hb => ?_, by rw [List.length_set]; exact s.er.len, s.er.slt, s.er.sml⟩, s.sub, s.new, s.iwH⟩
  · have c : i ≠ j := fun z => hj (z ▸ hi)
    rw [List.getElem?_set_ne c] at hd
    obtain ⟨v, e1, e2⟩ := s.er.val j d2 hd hj hj2
    exact ⟨v, e1, e2.mv m⟩
  · by_cases c : i = j
    · subst c
      rw [List.getElem?_set_self hl]
      exact ⟨a, d', rfl, ha, h3, new, h5⟩
    · obtain ⟨b, d2, e1, e2, e3, e4, e5⟩ := s.er.own j hj l
      rw [List.getElem?_set_ne c]
      have nb : b ≠ a := fun z => by subst z; exact c (e5 i hi ha)
      exact ⟨b, d2, e1, e2, e3, e4.mv m (fun o z _ => by rw [upd_ne nb]; exact z) (hl2 := fun _ => keepD_put nb n8), e5⟩
  · obtain ⟨rg, hd⟩ := s.er.dep
    refine ⟨rg, fun j l hj => ?_⟩
    have hk := (hd j l hj).mv (Mv.putA (o' := o') ho n1 n3 n7 trivial (fun a z => z) n8) (fun b z0 n o z _ => by rw [upd_ne (fun q : b = a => h3 (q ▸ z0))]; exact z) fun a z _ n => ⟨z, n⟩
    have c : i ≠ j := fun z => by
      obtain ⟨v, d', fp, g1, g2, g3, _, g5⟩ := hd j l hj
      subst z
      rw [ha] at g2
      cases g2
      rw [h1] at g1
      cases g1
      exact own_dis h3 h4 g3 g5
    rw [List.getElem?_set_ne c]
    exact hk
  · obtain ⟨v, d', g1, g2, g3⟩ := s.er.nwq j hj
    have c : i ≠ j := fun z => by
      subst z
      rw [ha] at g2
      cases g2
      rw [h1] at g1
      cases g1
      exact own_disN (.inl (.inr ⟨i, hi, ha⟩)) h4 g3
    rw [List.getElem?_set_ne c]
    exact ⟨v, d', g1, g2, g3.mv (Mv.putA ho n1 n3 n7 (.inl (.inr ⟨i, hi, ha⟩)) (fun a z => z) n8)⟩
  · rw [upd_ne (fun z : b = a => h3 (z ▸ hb))]
    exact s.er.trk b hb
theorem Sr.putO {K : PySem.W.Frag} {T : Th K} {H0 H : Hp} {owi ow0 : Addr → Prop} {fr : Fr} {O : List Nat} {σ : L2.St} {ρ : Ro} {i : Nat} {a : Addr} {o o' : HO} {d' : D} (s : Sr T H0 owi ow0 fr O σ H ρ) (hi : i ∈ O) (ha : σ[i]? = some (some (.ref a))) (ho : H a = some o)
    (n1 : ∀ xs, o ≠ .tup xs) (n2 : ∀ kvs, o ≠ .dT kvs) (n3 : ∀ ob u, o ≠ .frz ob u) (n7 : ∀ vs, o ≠ .xd vs) (n4 : isIns o = false) (n5 : ∀ kvs, o' ≠ .dT kvs) (n6 : isIns o' = false) (new : OwnR K (upd H a o') (owOf ow0 O σ) a d') : Sr T H0 owi ow0 fr O σ (upd H a o') (ρ.set i (some d')) :=
  have p := T.put (o' := o') s.gr (s.new i hi a ha).1 s.ok ho n1 n2 n5 n4 n6
  s.putG hi ha ho n1 n3 n7 p.1 p.2 n6 new
theorem Sr.putL {K : PySem.W.Frag} {T : Th K} {H0 H : Hp} {owi ow0 : Addr → Prop} {fr : Fr} {O : List Nat} {σ : L2.St} {ρ : Ro} {i : Nat} {a : Addr} {vs ws : List V} {ds : List D} (s : Sr T H0 owi ow0 fr O σ H ρ) (hi : i ∈ O) (ha : σ[i]? = some (some (.ref a))) (ho : H a = some (.lst vs))
    (r : RepL K H (owOf ow0 O σ) ws ds) : Sr T H0 owi ow0 fr O σ (upd H a (.lst ws)) (ρ.set i (some (.lst ds))) :=
  s.putO hi ha ho (fun _ z => by cases z) (fun _ z => by cases z) (fun _ _ z => by cases z) (fun _ z => by cases z) rfl (fun _ z => by cases z) rfl (.lst upd_same (r.mv (Mv.put ho (fun _ z => by cases z) (fun _ z => by cases z) (fun _ _ z => by cases z) (fun _ z => by cases z) (.inr ⟨i, hi, ha⟩) fun a z => z)))
theorem Sr.putD {K : PySem.W.Frag} {T : Th K} {H0 H : Hp} {owi ow0 : Addr → Prop} {fr : Fr} {O : List Nat} {σ : L2.St} {ρ : Ro} {i : Nat} {a : Addr} {vs ws : List (Key × V)} {ds : List (Key × D)} (s : Sr T H0 owi ow0 fr O σ H ρ) (hi : i ∈ O) (ha : σ[i]? = some (some (.ref a))) (ho : H a = some (.dK vs))
    (r : RepK K H (owOf ow0 O σ) ws ds) : Sr T H0 owi ow0 fr O σ (upd H a (.dK ws)) (ρ.set i (some (.dic ds))) :=
  s.putO hi ha ho (fun _ z => by cases z) (fun _ z => by cases z) (fun _ _ z => by cases z) (fun _ z => by cases z) rfl (fun _ z => by cases z) rfl (.dic upd_same (r.mv (Mv.put ho (fun _ z => by cases z) (fun _ z => by cases z) (fun _ _ z => by cases z) (fun _ z => by cases z) (.inr ⟨i, hi, ha⟩) fun a z => z)))
theorem Sr.ownL {K : PySem.W.Frag} {T : Th K} {H0 H : Hp} {owi ow0 : Addr → Prop} {fr : Fr} {O : List Nat} {σ : L2.St} {ρ : Ro} {i : Nat} {ds : List D} (s : Sr T H0 owi ow0 fr O σ H ρ) (hi : i ∈ O) (hd : ρ[i]? = some (some (.lst ds))) :
    ∃ a vs, σ[i]? = some (some (.ref a)) ∧ H a = some (.lst vs) ∧ RepL K H (owOf ow0 O σ) vs ds := by
  obtain ⟨a, d, h1, h2, h3, h4, h5⟩ := s.er.own i hi (s.er.lt hd)
  rw [hd] at h1
  cases h1
  cases h4 with
  | lst e1 e2 => exact ⟨a, _, h2, e1, e2⟩
theorem Sr.ownD {K : PySem.W.Frag} {T : Th K} {H0 H : Hp} {owi ow0 : Addr → Prop} {fr : Fr} {O : List Nat} {σ : L2.St} {ρ : Ro} {i : Nat} {ds : List (Key × D)} (s : Sr T H0 owi ow0 fr O σ H ρ) (hi : i ∈ O) (hd : ρ[i]? = some (some (.dic ds))) :
    ∃ a vs, σ[i]? = some (some (.ref a)) ∧ H a = some (.dK vs) ∧ RepK K H (owOf ow0 O σ) vs ds := by
  obtain ⟨a, d, h1, h2, h3, h4, h5⟩ := s.er.own i hi (s.er.lt hd)
  rw [hd] at h1
  cases h1
  cases h4 with
  | dic e1 e2 => exact ⟨a, _, h2, e1, e2⟩
theorem Sr.ownTy {K : PySem.W.Frag} {T : Th K} {H0 H : Hp} {owi ow0 : Addr → Prop} {fr : Fr} {O : List Nat} {σ : L2.St} {ρ : Ro} {i : Nat} (s : Sr T H0 owi ow0 fr O σ H ρ) (hi : i ∈ O) {ds : List D} (hd : ρ[i]? = some (some (.lst ds))) : ∃ a, σ[i]? = some (some (.ref a)) ∧ tyV K "list" (.ref a) H := by
  obtain ⟨a, vs, h1, h2, _⟩ := s.ownL hi hd
  exact ⟨a, h1, .inl ⟨rfl, vs, .inl (.inl h2)⟩⟩
def sApp (i : Nat) (φ : DX) : DS := fun E ρ => ∃ xs, ρ[i]? = some (some (.lst xs)) ∧ xs.length < big ∧ φ ρ (fun d => E.nx (ρ.set i (some (.lst (xs ++ [d]))))) fun x => E.ex x ρ
def sClr (i : Nat) : DS := fun E ρ => ∃ xs, ρ[i]? = some (some (.lst xs)) ∧ E.nx (ρ.set i (some (.lst [])))
def sExt (i : Nat) (φ : DX) : DS := fun E ρ => ∃ xs, ρ[i]? = some (some (.lst xs)) ∧ φ ρ (fun d => ∃ ys, d = .lst ys ∧ xs.length + ys.length ≤ big ∧ E.nx (ρ.set i (some (.lst (xs ++ ys))))) fun x => E.ex x ρ
def sIns (i : Nat) (φ ψ : DX) : DS := fun E ρ => ∃ xs, ρ[i]? = some (some (.lst xs)) ∧ xs.length < big ∧ φ ρ (fun k => ψ ρ (fun d => ∃ n : Nat, k = .int n ∧ n < 2 ^ 62 ∧ E.nx (ρ.set i (some (.lst (xs.take n ++ [d] ++ xs.drop n))))) (fun x => E.ex x ρ)) fun x => E.ex x ρ
def sPut (i : Nat) (φk φv : DX) : DS := fun E ρ => ∃ kvs, ρ[i]? = some (some (.dic kvs)) ∧ kvs.length < big ∧ φv ρ (fun d => φk ρ (fun y => ∃ k, dKey y = some k ∧ E.nx (ρ.set i (some (.dic (putD kvs k d))))) (fun x => E.ex x ρ)) fun x => E.ex x ρ
theorem RepK.any {K : PySem.W.Frag} {H : Hp} {ow : Addr → Prop} (k : Key) : ∀ {vs : List (Key × V)} {ds : List (Key × D)}, RepK K H ow vs ds → (vs.any fun kv => decide (kv.1 = k)) = ds.any fun kv => decide (kv.1 = k)
  | _, _, .nil => rfl
  | _, _, .cons _ t => by rw [List.any_cons, List.any_cons, RepK.any k t]
theorem RepK.append {K : PySem.W.Frag} {H : Hp} {ow : Addr → Prop} : ∀ {vs ws : List (Key × V)} {ds es : List (Key × D)}, RepK K H ow vs ds → RepK K H ow ws es → RepK K H ow (vs ++ ws) (ds ++ es)
  | _, _, _, _, .nil, h => h
  | _, _, _, _, .cons r t, h => .cons r (RepK.append t h)
theorem RepK.put {K : PySem.W.Frag} {H : Hp} {ow : Addr → Prop} {k : Key} {v : V} {d : D} {vs : List (Key × V)} {ds : List (Key × D)} (r : RepK K H ow vs ds) (h : Rep K H ow v d) : RepK K H ow (putK vs k v) (putD ds k d) := by
  have mp : ∀ {vs : List (Key × V)} {ds : List (Key × D)}, RepK K H ow vs ds → RepK K H ow (vs.map fun kv => if kv.1 = k then (kv.1, v) else kv) (ds.map fun kv => if kv.1 = k then (kv.1, d) else kv) := by
    intro vs ds r
    induction vs generalizing ds with
    | nil => cases r; exact .nil
    | cons p t ih =>
      cases r with
      | @cons k' v' _ d' ds' r1 r2 =>
        rw [List.map_cons, List.map_cons]
        by_cases c : k' = k
        · show RepK K H ow ((if k' = k then (k', v) else (k', v')) :: _) ((if k' = k then (k', d) else (k', d')) :: _)
          rw [if_pos c, if_pos c]
          exact .cons h (ih r2)
        · show RepK K H ow ((if k' = k then (k', v) else (k', v')) :: _) ((if k' = k then (k', d) else (k', d')) :: _)
          rw [if_neg c, if_neg c]
          exact .cons r1 (ih r2)
  unfold putK putD
  rw [r.any k]
  by_cases c : (ds.any fun kv => decide (kv.1 = k)) = true
  · rw [if_pos c, if_pos c]; exact mp r
  · rw [if_neg c, if_neg c]; exact r.append (.cons h .nil)
section
variable {X : Cx} {T : Th X.K} {W : WX} {fz : Nat} {O Ol : List Nat} {e e2 : Expr} {φ ψ : DX} {pos pos2 pos3 pos4 : Pos} {i : Nat} {x : Str}
theorem s_app (hN : X.N[i]? = some x) (hv : Vis X.env.scope x) (hO : O.contains i = true) (he : PE X e (eOf T W O φ)) (hd : (x == ("__debug__" : Str)) = false := by decide) (hcd : (x == ("__classdict__" : Str)) = false := by decide)
    (hs1 : starEach [e] X.env = [(false, eval e X.env)] := by rfl)
    (hp : PE X (.Call (.Attribute (.Name x pos) "append" pos2) [e] [] pos3) (tBM X.K "list" rAppend (tVar i) (aOf T W O 1 (aCons φ aNil)))) (hs : swapsWith (.Call (.Attribute (.Name x pos) "append" pos2) [e] [] pos3) none pos4.line X.env = pure false := by rfl) :
    PS X (.Expr (.Call (.Attribute (.Name x pos) "append" pos2) [e] [] pos3) pos4) (sOf T W fz O O Ol (sApp i φ)) := by
  refine psI (ps_expr hp hs) fun M σ H ⟨ρ, H0, owi, ow0, fr, E, s, _, k, xs, hx, hl, q⟩ => ?_
  have hi : i ∈ O := by simpa using hO
  obtain ⟨a, e1, ty⟩ := s.ownTy hi hx
  refine ⟨.ref a, e1, ty, ρ, ow0, fr, on1 _, _, s.ok, s.er, q, fun ds vs G z _ ok g r => ?_, k.x s⟩
  obtain ⟨d, rfl, qd⟩ := on1_of z
  cases r with
  | cons r t =>
    cases t
    have sG := s.go ok g
    obtain ⟨a', vs, e2, e3, rs⟩ := sG.ownL hi hx
    rw [e1] at e2
    cases e2
    exact ⟨a, vs, _, rfl, rfl, e3, sz_lt (by rw [rs.length]; exact hl), k.nx _ _ _ ow0 (sG.putL hi e1 e3 (rs.append (.cons r .nil))) qd⟩
theorem s_put (hu : X.A.units + 1 < cLine) (hN : X.N[i]? = some x) (hv : Vis X.env.scope x) (hO : O.contains i = true) (hk : PE X e (eOf T W O φ)) (he : PE X e2 (eOf T W O ψ)) (hd : (x == ("__debug__" : Str)) = false := by decide) (hcd : (x == ("__classdict__" : Str)) = false := by decide)
    (hs : swapsWith e2 (some (.Subscript (.Name x pos) e pos2)) pos3.line X.env = pure false := by rfl) : PS X (.Assign [.Subscript (.Name x pos) e pos2] e2 pos3) (sOf T W fz O O Ol (sPut i φ ψ)) := by
  refine psI (ps_dput hu (pe_var hN hv hd hcd) hk he hs) fun M σ H ⟨ρ, H0, owi, ow0, fr, E, s, _, k, kvs, hx, hl, q⟩ => ?_
  have hi : i ∈ O := by simpa using hO
  refine ⟨ρ, ow0, fr, _, _, s.ok, s.er, q, fun d v G qd ok g r => ?_, k.x s⟩
  have sG := s.go ok g
  obtain ⟨a, vs, e1, e3, rs⟩ := sG.ownD hi hx
  refine ⟨.ref a, e1, ρ, ow0, fr, _, _, sG.ok, sG.er, qd, fun y w J ⟨kk, e5, qk⟩ ok2 g2 r2 => ?_, k.x sG⟩
  have sJ := sG.go ok2 g2
  obtain ⟨a', vs2, e6, e7, rs2⟩ := sJ.ownD hi hx
  rw [e1] at e6
  cases e6
  rw [key_rep r2.o e5]
  exact ⟨a, _, rfl, DPut.k e7 (sz_lt (by rw [rs2.length]; exact hl)), k.nx _ _ _ ow0 (sJ.putD hi e1 e7 (rs2.put (r.gr T g2))) qk⟩
end
def sRaise (c f : Str) (φ : DX) : DS := fun E ρ => φ ρ (fun d => E.ex ⟨c, [(f, d)]⟩ ρ) fun x => E.ex x ρ
def sRaise2 (c f1 f2 : Str) (φ ψ : DX) : DS := fun E ρ => φ ρ (fun d => ψ ρ (fun d2 => E.ex ⟨c, [(f2, d2), (f1, d)]⟩ ρ) fun x => E.ex x ρ) fun x => E.ex x ρ
section
variable {X : Cx} {T : Th X.K} {W : WX} {fz : Nat} {O On Ol : List Nat} {e e' : Expr} {φ ψ : DX} {p pos pos2 : Pos} {x f f1 f2 : Str}
theorem s_raise (R : ExT X.prog X.w X.K X.mg X.base x f (He.ga X.K x)) (hc : X.calm = true) (tk : Takes X W) (hr : Room 2 X.A) (ha : PE X e (eOf T W O φ)) (hg : Gl X x := by rfl)
    (hdb : (x == ("__debug__" : Str)) = false := by decide) (he : starEach (e :: []) X.env = (false, eval e X.env) :: starEach [] X.env := by rfl) (hpl : (backTo pos (starEach [] X.env)).any (·.1) = false := by rfl) :
    PS X (.Raise (some (.Call (.Name x p) [e] [] pos)) none pos2) (sOf T W fz O On Ol (sRaise x f φ)) := by
  refine psI (ps_rx R hc tk hr (ba_cons ha ba_nil he) hg hdb he hpl) fun M σ H ⟨ρ, H0, owi, ow0, fr, E, s, _, k, q⟩ => ?_
  refine ⟨ρ, ow0, fr, on1 _, _, s.ok, s.er, q, fun ds vs G z _ ok g r => ?_, k.x s⟩
  obtain ⟨d, rfl, qd⟩ := on1_of z
  cases r with
  | cons r t =>
    cases t
    refine ⟨_, rfl, fun dd hd => ?_⟩
    obtain ⟨n1, n2⟩ := T.new (o := .xd [(f, _)]) ok hd rfl
    exact k.x s _ (some dd) _ qd n1 (T.trans g n2) ⟨List.cons_ne_nil _ _, _, upd_same, .cons (r.gr T n2) .nil⟩
end
def startD (m : Nat) (ds : List D) : Ro := ds.map some ++ List.replicate (m - ds.length) none
def fnD (fz : Nat) (m n : Nat) (φ : DS) : DF := fun ds A Ax => ds.length = n ∧ φ { nx := fun _ => fz = 0 ∧ A .non, rt := A, bk := fun _ => False, ct := fun _ => False, ex := fun x _ => Ax x } (startD m ds)
theorem start_er {K : PySem.W.Frag} {H : Hp} {ow iw : Addr → Prop} {N : List Str} {vs : List V} {ds : List D} (r : RepL K H ow vs ds) (tr : ∀ a, ow a → H a ≠ none) (hM : N.length ≤ dp) (hv : vs.length ≤ N.length) : ER K H ow { iw := iw } [] (start N vs) (startD N.length ds) := by
  have eo : owOf ow [] (start N vs) = ow := by
    funext a
    exact propext ⟨fun z => z.elim id fun ⟨i, hi, _⟩ => absurd hi List.not_mem_nil, .inl⟩
  refine ⟨fun i d hd _ _ => ?_, fun i hi => absurd hi List.not_mem_nil, fun p hp => absurd hp List.not_mem_nil, ⟨fun _ => 0, fun i _ hi => absurd hi List.not_mem_nil⟩, fun i hi => absurd hi List.not_mem_nil, tr, ?_, (fun v z => nomatch z), ?_⟩
  · rw [eo]
    unfold startD at hd
    unfold L2.start
    by_cases c : i < ds.length
    · rw [List.getElem?_append_left (by rw [List.length_map]; exact c), List.getElem?_map] at hd
      rw [List.getElem?_append_left (by rw [List.length_map, r.length]; exact c), List.getElem?_map]
      cases e : ds[i]? with
      | none => rw [e] at hd; cases hd
      | some d' =>
        rw [e] at hd
        cases hd
        obtain ⟨v, h1, h2⟩ := r.at' e
        exact ⟨v, by rw [h1]; rfl, h2⟩
    · rw [List.getElem?_append_right (by rw [List.length_map]; omega)] at hd
      have := List.mem_of_getElem? hd
      cases List.eq_of_mem_replicate this
  · unfold startD L2.start
    rw [List.length_append, List.length_append, List.length_map, List.length_map, List.length_replicate, List.length_replicate, r.length]
  · unfold L2.start
    rw [List.length_append, List.length_map, List.length_replicate]
    omega
section
variable {P : Program} {w : World} {K : PySem.W.Frag} {mg : Str → Option Value} {base : Heap} {x q : Str} {st : Stmt} {f : Addr} {fd : FuncData} {N ps : List Str} {k : Nat} {T : Th K} {fz : Nat} {On : List Nat} {φ : DS}
theorem ok_fn (F : FnS K x q st f fd) (S : FnScope N ps (defScope st))
    (hbody : ∀ (cdv : Value) (A : Around) (outer : List Env) (s : Shared) (H : Hp) (E : XK), Room k (A.deeper (envOfC q (defScope st) s.heap.objs.size f cdv)) →
      Takes (cxOf (L2.CX P w) P w K mg base N q (defScope st) f cdv A outer s H E) (fun cls d _ H => E cls d H) →
      PSs (cxOf (L2.CX P w) P w K mg base N q (defScope st) f cdv A outer s H E) (defBody st) (sOf (K := K) T (fun cls d _ H => E cls d H) fz [] On [] φ)) (hM : N.length ≤ dp := by decide) (hv : ps.length ≤ N.length := by decide) (h6 : fz ≠ 6 := by decide) (hb : T.bor = [] := by rfl) :
    FnOk P w K mg base (L2.CX P w) (k + 1) f fd ps (spOf T fz ps.length (fnD fz N.length ps.length φ)) := by
  refine okE F S (fun vs H Q E h => h.1) fun cdv A outer s H vs Q E hr h tk => ⟨_, hbody cdv A outer s H E hr tk, ?_⟩
  obtain ⟨hn, ds, ow, B, Bx, ok, tr, r, ⟨hd, q⟩, k1, k2⟩ := h
  refine ⟨startD N.length ds, H, ow, ow, { iw := fun a => H a ≠ none }, { nx := fun _ => fz = 0 ∧ B .non, rt := B, bk := fun _ => False, ct := fun _ => False, ex := fun x _ => Bx x }, ⟨ok, T.refl H, start_er r tr hM (by rw [hn]; exact hv), fun a z => ⟨z, tr a z⟩, fun i hi => absurd hi List.not_mem_nil, rfl⟩, ⟨tr, hb.symm⟩, ⟨fun σ G ρ ow0 s ⟨e1, e2⟩ => ?_, fun v d G ok g p a => k1 d v G a ok g (postF h6 p), fun _ _ _ _ _ z => z, fun _ _ _ _ _ z => z, fun x d σ G ρ ow0 s xr a => ?_⟩, q⟩
  · subst e1
    exact k1 .non .non G e2 s.ok s.gr .non
  · refine k2 x d G a s.ok s.gr ?_
    cases d with
    | none => exact xr
    | some d =>
      obtain ⟨nf, fvs, h1, h2⟩ := xr
      exact ⟨nf, fvs, h1, h2.mv (Mv.less fun a z => .inl (s.sub a z).1)⟩
theorem fn_of_ok (F : FnS K x x st (He.ga K x) fd) (ok : FnOk P w K mg base (L2.CX P w) k (He.ga K x) fd ps (spOf T fz ps.length φF)) (g : mg x = some (.ref (He.ga K x)))
    (b : ∀ (kV doc pm : Value) (an : Option Addr) (cdv ct : Value) (us : List Value), us.length = ps.length → bindArgs (PySem.W.fnOf x x (defArgs st) (defBody st) (defScope st) .none kV doc pm an cdv ct) ⟨us, []⟩ = pure (ps.zip us)) :
    Fn P w T mg base k x ps fz φF := cal_of F ok g b
end
end Dz
namespace Dz
open PySem PySem.Spec PyProof.Rows L2 Evl Bf
def sAsg (φ : DX) (g : DG) : DS := fun E ρ => φ ρ (fun d => g d ρ E.nx) fun x => E.ex x ρ
section
variable {X : Cx} {T : Th X.K} {W : WX} {fz : Nat} {O is Ol : List Nat} {tg e : Expr} {φ : DX} {g : DG} {pos : Pos}
theorem s_asg (he : PE X e (eOf T W O φ)) (hg : PG X tg (gOf T O is g)) (hd : (is.all fun i => fre O i) = true) (hs : swapsWithSole [tg] e pos.line X.env = pure false := by rfl) (hw : swappedStores [tg] e X.env = pure none := by rfl)
    (h1 : (assignEach [tg] X.env).map (·.2) = [assign tg X.env] := by rfl) : PS X (.Assign [tg] e pos) (sOf T W fz O O Ol (sAsg φ g)) := by
  refine psI (ps_asg he hg hs hw h1) fun M σ H ⟨ρ, H0, owi, ow0, fr, E, s, _, k, q⟩ => ⟨ρ, ow0, fr, _, _, s.ok, s.er, q, fun d v G qd ok g r => ?_, k.x s⟩
  have sG := s.go ok g
  exact ⟨ρ, ow0, fr, d, _, sG.ok, sG.er, r, qd, fun τ ρ' er sb q' => k.nx τ G ρ' ow0 (sG.er_set er sb fun i hi => (fre_of (List.all_eq_true.mp hd i hi)).1) q'⟩
end
abbrev DM := Ro → (D → Ro → Prop) → XQ → Prop
def mOf {K : PySem.W.Frag} (T : Th K) (W : WX) (O : List Nat) (φ : DM) : TE := fun σ H Q => ∃ ρ H0 owi ow0 fr A Ax, Sr T H0 owi ow0 fr O σ H ρ ∧ φ ρ A Ax ∧ (∀ d ρ' v G, A d ρ' → Sr T H0 owi ow0 fr O σ G ρ' → Rep K G (owOf ow0 O σ) v d → Q v G) ∧ XOk T W H (owOf ow0 O σ) σ Ax
def xPopAt (i : Nat) (φ : DX) : DM := fun ρ A Ax => ∃ xs, ρ[i]? = some (some (.lst xs)) ∧ φ ρ (fun d => ∃ (k : Nat) (y : D), d = .int k ∧ xs[k]? = some y ∧ k < big ∧ A y (ρ.set i (some (.lst (xs.eraseIdx k))))) Ax
def xPop (i : Nat) : DM := fun ρ A _ => ∃ xs y, ρ[i]? = some (some (.lst xs)) ∧ xs[xs.length - 1]? = some y ∧ A y (ρ.set i (some (.lst xs.dropLast)))
def sSetM (i : Nat) (φ : DM) : DS := fun E ρ => φ ρ (fun d ρ' => E.nx (ρ'.set i (some d))) fun x => E.ex x ρ
def sAppM (i : Nat) (φ : DM) : DS := fun E ρ => (∃ xs, ρ[i]? = some (some (.lst xs))) ∧ φ ρ (fun d ρ' => ∃ xs, ρ'[i]? = some (some (.lst xs)) ∧ xs.length < big ∧ E.nx (ρ'.set i (some (.lst (xs ++ [d]))))) fun x => E.ex x ρ
theorem RepL.dropLast {K : PySem.W.Frag} {H : Hp} {ow : Addr → Prop} {vs : List V} {ds : List D} (r : RepL K H ow vs ds) : RepL K H ow vs.dropLast ds.dropLast := by
  rw [List.dropLast_eq_take, List.dropLast_eq_take, r.length]
  exact r.take _
section
variable {X : Cx} {T : Th X.K} {W : WX} {fz : Nat} {O Ol : List Nat} {e : Expr} {φ : DX} {ψ : DM} {pos pos2 pos3 pos4 : Pos} {i : Nat} {x : Str}
theorem m_popAt (hN : X.N[i]? = some x) (hv : Vis X.env.scope x) (hO : O.contains i = true) (he : PE X e (eOf T W O φ))
    (hp : PE X (.Call (.Attribute (.Name x pos) "pop" pos2) [e] [] pos3) (tBM X.K "list" rPopAt (tVar i) (aOf T W O 1 (aCons φ aNil)))) : PE X (.Call (.Attribute (.Name x pos) "pop" pos2) [e] [] pos3) (mOf T W O (xPopAt i φ)) := by
  refine peI hp fun σ H Q ⟨ρ, H0, owi, ow0, fr, A, Ax, s, ⟨xs, hx, q⟩, k, xk⟩ => ?_
  have hi : i ∈ O := by simpa using hO
  obtain ⟨a, e1, ty⟩ := s.ownTy hi hx
  refine ⟨.ref a, e1, ty, ρ, ow0, fr, on1 _, _, s.ok, s.er, q, fun ds vs G z _ ok g r => ?_, xk⟩
  obtain ⟨_, rfl, kk, y, rfl, hy, hk, qd⟩ := on1_of z
  cases r with
  | cons r t =>
    cases t
    have sG := s.go ok g
    obtain ⟨a', vs, e2, e3, rs⟩ := sG.ownL hi hx
    rw [e1] at e2
    cases e2
    obtain ⟨v, hv1, hv2⟩ := rs.at' hy
    rw [rep_int r]
    have hlt : kk < vs.length := (List.getElem?_eq_some_iff.mp hv1).1
    have hb : kk < 100000 := hk
    refine ⟨a, vs, kk, kk, v, rfl, rfl, e3, by omega, by omega, seqIx hlt, hv1, ?_⟩
    have sP := sG.putL hi e1 e3 (rs.erase kk)
    exact k y _ v _ qd sP (hv2.mv (Mv.put e3 (fun _ z => by cases z) (fun _ z => by cases z) (fun _ _ z => by cases z) (fun _ z => by cases z) (.inr ⟨i, hi, e1⟩) fun a z => z))
theorem s_appM (hN : X.N[i]? = some x) (hv : Vis X.env.scope x) (hO : O.contains i = true) (he : PE X e (mOf T W O ψ))
    (hp : PE X (.Call (.Attribute (.Name x pos) "append" pos2) [e] [] pos3) (tBM X.K "list" rAppend (tVar i) (tCons (mOf T W O ψ) tNil))) (hs : swapsWith (.Call (.Attribute (.Name x pos) "append" pos2) [e] [] pos3) none pos4.line X.env = pure false := by rfl) :
    PS X (.Expr (.Call (.Attribute (.Name x pos) "append" pos2) [e] [] pos3) pos4) (sOf T W fz O O Ol (sAppM i ψ)) := by
  refine psI (ps_expr hp hs) fun M σ H ⟨ρ, H0, owi, ow0, fr, E, s, _, k, ⟨xs, hx⟩, q⟩ => ?_
  have hi : i ∈ O := by simpa using hO
  obtain ⟨a, e1, ty⟩ := s.ownTy hi hx
  refine ⟨.ref a, e1, ty, ρ, H0, owi, ow0, fr, _, _, s, q, fun d ρ' v G ⟨ys, hy, hl, qd⟩ sG r => ?_, k.x s⟩
  obtain ⟨a', vs, e2, e3, rs⟩ := sG.ownL hi hy
  rw [e1] at e2
  cases e2
  exact ⟨a, vs, _, rfl, rfl, e3, sz_lt (by rw [rs.length]; exact hl), k.nx _ _ _ ow0 (sG.putL hi e1 e3 (rs.append (.cons r .nil))) qd⟩
end
def xFld (c f : Str) (φ : DX) : DX := fun ρ A Ax => φ ρ (fun x => ∃ fs z, x = .ins c fs ∧ fs.lookup f = some z ∧ A z) Ax
theorem o_ins {K : PySem.W.Frag} {H : Hp} {ow : Addr → Prop} {v : V} {c : Str} {ds : List (Str × D)} (h : RepO K H ow v (.ins c ds)) : ∃ a dx vs, v = .ref a ∧ H a = some (.ins (He.ga K c) dx vs) ∧ RepF K H ow vs ds := by
  rcases h with h | ⟨a, e, h⟩
  · cases h with
    | ins a b c => exact ⟨_, _, _, rfl, a, c⟩
  · cases h with
    | ins b c => exact ⟨a, _, _, e, b, c⟩
theorem RepF.look {K : PySem.W.Frag} {H : Hp} {ow : Addr → Prop} (f : Str) : ∀ {vs : List (Str × V)} {ds : List (Str × D)}, RepF K H ow vs ds → (∃ v d, vs.lookup f = some v ∧ ds.lookup f = some d ∧ Rep K H ow v d) ∨ (vs.lookup f = none ∧ ds.lookup f = none)
  | _, _, .nil => .inr ⟨rfl, rfl⟩
  | _, _, .cons (k := k) r t => by
    rw [List.lookup_cons, List.lookup_cons]
    cases c : f == k with
    | true => exact .inl ⟨_, _, rfl, rfl, r⟩
    | false => exact RepF.look f t
def putFD (f : Str) (d : D) : List (Str × D) → List (Str × D)
  | [] => [(f, d)]
  | (g, e) :: r => if g = f then (f, d) :: r else (g, e) :: putFD f d r
def sFld' (i : Nat) (c f : Str) (φ : DX) : DS := fun E ρ => ∃ fs, ρ[i]? = some (some (.ins c fs)) ∧ fs.length < 1000 ∧ φ ρ (fun d => E.nx (ρ.set i (some (.ins c (putFD f d fs))))) fun x => E.ex x ρ
section
variable {X : Cx} {T : Th X.K} {W : WX} {fz : Nat} {O Ol : List Nat} {e value : Expr} {φ ψ : DX} {pos pos' pos2 : Pos} {i : Nat} {c f x : Str}
theorem be_fld (hc : Cls X.K (He.ga X.K c)) (hn : NoAttr X.K (He.ga X.K c) f) (he : PE X e (eoOf T W O φ)) (hb : attributeBase e f X.env (eval e X.env) = eval e X.env) : PE X (.Attribute e f pos) (eOf T W O (xFld c f φ)) :=
  peI (pe_fld he hb) fun σ H Q ⟨ρ, ow0, fr, A, Ax, ok, er, q, k, x⟩ => ⟨ρ, ow0, fr, _, Ax, ok, er, q, fun d v G ⟨fs, z, e1, e2, qz⟩ okG gG rv => (by
    subst e1
    obtain ⟨a, dx, vs, rfl, ha, ra⟩ := o_ins rv
    rcases ra.look f with ⟨v, d, h1, h2, h3⟩ | ⟨_, h2⟩
    · rw [e2] at h2
      cases h2
      exact ⟨a, _, dx, vs, v, rfl, ha, hc, hn, h1, k _ _ G qz okG gG h3⟩
    · rw [e2] at h2; cases h2), x⟩
theorem RepF.put {K : PySem.W.Frag} {H : Hp} {ow : Addr → Prop} {f : Str} {v : V} {d : D} (h : Rep K H ow v d) : ∀ {vs : List (Str × V)} {ds : List (Str × D)}, RepF K H ow vs ds → RepF K H ow (putF f v vs) (putFD f d ds)
  | _, _, .nil => .cons h .nil
  | _, _, .cons (k := k) (v := v') (vs := vs) (d := d') (ds := ds) r t => by
    unfold putF putFD
    by_cases c : k = f
    · subst c
      first
        | (rw [if_pos rfl, if_pos rfl]; exact .cons h t)
        | (simp; exact .cons h t)
    · rw [if_neg c]
      first
        | (rw [if_neg c]; exact .cons r (RepF.put h t))
        | (rw [if_neg (by simpa using c)]; exact .cons r (RepF.put h t))
theorem RepF.length {K : PySem.W.Frag} {H : Hp} {ow : Addr → Prop} : ∀ {vs : List (Str × V)} {ds : List (Str × D)}, RepF K H ow vs ds → vs.length = ds.length
  | _, _, .nil => rfl
  | _, _, .cons _ t => by rw [List.length_cons, List.length_cons, RepF.length t]
theorem Sr.putI {K : PySem.W.Frag} {T : Th K} {H0 H : Hp} {owi ow0 : Addr → Prop} {fr : Fr} {σ : L2.St} {ρ : Ro} {a dx : Addr} {c : Str} {vs ws : List (Str × V)} {ds : List (Str × D)} (s : Sr T H0 owi ow0 fr O σ H ρ) (hi : i ∈ O) (ha : σ[i]? = some (some (.ref a))) (ho : H a = some (.ins (He.ga K c) dx vs))
    (nf : He.ga K c ≠ He.ga K "Family") (r : RepF K H (owOf ow0 O σ) ws ds) : Sr T H0 owi ow0 fr O σ (upd H a (.ins (He.ga K c) dx ws)) (ρ.set i (some (.ins c ds))) := by
  obtain ⟨p1, p2⟩ := T.fput (fs' := ws) s.gr (s.new i hi a ha).1 s.ok ho nf
  have n8 : ∀ C dx' fs, HO.ins (He.ga K c) dx ws = .ins C dx' fs → C ≠ He.ga K "Family" := fun C dx' fs e => by cases e; exact nf
  have m : Mv K H (owOf ow0 O σ) (upd H a (.ins (He.ga K c) dx ws)) (owOf ow0 O σ) := Mv.put ho (fun _ z => by cases z) (fun _ z => by cases z) (fun _ _ z => by cases z) (fun _ z => by cases z) (.inr ⟨i, hi, ha⟩) (fun a z => z) n8
  have hdp : i < dp := s.er.ltS ha
  obtain ⟨a', d, h1, h2, h3, h4, h5⟩ := s.er.own i hi hdp
  rw [ha] at h2
  cases h2
  have hl : i < ρ.length := (List.getElem?_eq_some_iff.mp h1).1
  refine ⟨p1, p2, ⟨fun j d2 hd hj hj2 => ?_, fun j hj l => ?_, fun q hq => (s.er.frm q hq).mv m, ?_, fun j hj => ?_, fun b hb => ?_, by rw [List.length_set]; exact s.er.len, s.er.slt, s.er.sml⟩, s.sub, s.new, s.iwH⟩
  · have c : i ≠ j := fun z => hj (z ▸ hi)
    rw [List.getElem?_set_ne c] at hd
    obtain ⟨v, e1, e2⟩ := s.er.val j d2 hd hj hj2
    exact ⟨v, e1, e2.mv m⟩
  · by_cases c : i = j
    · subst c
      rw [List.getElem?_set_self hl]
      exact ⟨a, _, rfl, ha, h3, .ins upd_same (r.mv m), h5⟩
    · obtain ⟨b, d2, e1, e2, e3, e4, e5⟩ := s.er.own j hj l
      rw [List.getElem?_set_ne c]
      have nb : b ≠ a := fun z => by subst z; exact c (e5 i hi ha)
      exact ⟨b, d2, e1, e2, e3, e4.mv m (fun o z _ => by rw [upd_ne nb]; exact z) (hl2 := fun _ => keepD_put nb n8), e5⟩
  · obtain ⟨rg, hd⟩ := s.er.dep
    refine ⟨rg, fun j l hj => ?_⟩
    have hk := (hd j l hj).mv (Mv.put (o' := .ins (He.ga K c) dx ws) ho (fun _ z => by cases z) (fun _ z => by cases z) (fun _ _ z => by cases z) (fun _ z => by cases z) trivial (fun a z => z) n8) (fun b z0 n o z _ => by rw [upd_ne (fun q : b = a => h3 (q ▸ z0))]; exact z) fun a z _ n => ⟨z, n⟩
    have c : i ≠ j := fun z => by
      obtain ⟨v, d', fp, g1, g2, g3, _, g5⟩ := hd j l hj
      subst z
      rw [ha] at g2
      cases g2
      rw [h1] at g1
      cases g1
      exact own_dis h3 h4 g3 g5
    rw [List.getElem?_set_ne c]
    exact hk
  · obtain ⟨v, d', g1, g2, g3⟩ := s.er.nwq j hj
    have c : i ≠ j := fun z => by
      subst z
      rw [ha] at g2
      cases g2
      rw [h1] at g1
      cases g1
      exact own_disN (.inl (.inr ⟨i, hi, ha⟩)) h4 g3
    rw [List.getElem?_set_ne c]
    exact ⟨v, d', g1, g2, g3.mv (Mv.put ho (fun _ z => by cases z) (fun _ z => by cases z) (fun _ _ z => by cases z) (fun _ z => by cases z) (.inl (.inr ⟨i, hi, ha⟩)) (fun a z => z) n8)⟩
  · rw [upd_ne (fun z : b = a => h3 (z ▸ hb))]
    exact s.er.trk b hb
theorem s_fld (hN : X.N[i]? = some x) (hv : Vis X.env.scope x) (hO : O.contains i = true) (hc : Cls X.K (He.ga X.K c)) (hn : NoAttr X.K (He.ga X.K c) f) (nf : He.ga X.K c ≠ He.ga X.K "Family") (he : PE X value (eOf T W O φ)) (hd : (x == ("__debug__" : Str)) = false := by decide) (hcd : (x == ("__classdict__" : Str)) = false := by decide)
    (hs : swapsWith value (some (.Attribute (.Name x pos) f pos')) pos2.line X.env = pure false := by rfl) : PS X (.Assign [.Attribute (.Name x pos) f pos'] value pos2) (sOf T W fz O O Ol (sFld' i c f φ)) := by
  refine psI (ps_fld (pe_var hN hv hd hcd) he hs) fun M σ H ⟨ρ, H0, owi, ow0, fr, E, s, _, k, fs, hx, hl, q⟩ => ?_
  have hi : i ∈ O := by simpa using hO
  refine ⟨ρ, ow0, fr, _, _, s.ok, s.er, q, fun d v G qd ok g r => ?_, k.x s⟩
  have sG := s.go ok g
  obtain ⟨a, d', e1, e2, _, e4, _⟩ := sG.er.own i hi (sG.er.lt hx)
  rw [hx] at e1
  cases e1
  cases e4 with
  | ins h1 h2 => exact ⟨.ref a, e2, a, _, _, _, rfl, h1, hc, hn, by rw [h2.length]; exact hl, k.nx _ _ _ ow0 (sG.putI hi e2 h1 nf (RepF.put r h2)) qd⟩
end
def spIni {K : PySem.W.Frag} (T : Th K) (c : Str) (n : Nat) (F : DF) : Sp := fun vs H Q E => vs.length = n + 1 ∧ ∃ y dy ds ws ow A Ax H1, vs = .ref y :: ws ∧ H = upd (upd H1 dy (.own y)) y (.ins (He.ga K c) dy []) ∧ H1 y = none ∧ H1 dy = none ∧ dy ≠ y ∧
  T.Ok H1 ∧ (∀ a, ow a → H1 a ≠ none) ∧ RepL K H1 ow ws ds ∧ F ds A Ax ∧ (∀ fs G, A (.ins c fs) → T.Ok G → T.Gr H1 G → OwnR K G (fun a => ow a ∨ a = y) y (.ins c fs) → Q .non G) ∧
  (∀ x d G, Ax x → T.Ok G → T.Gr H1 G → XRep K G ow d x → E (.ref (He.ga K x.cls)) d G)
structure MkD (P : Program) (w : World) {K : PySem.W.Frag} (T : Th K) (mg : Str → Option Value) (base : Heap) (k : Nat) (c : Str) (n : Nat) (F : DF) : Prop where
  g : mg c = some (.ref (He.ga K c))
  ex : ∃ (fi : Addr) (fd : FuncData) (ps : List Str), Mk K (He.ga K c) fi ∧ FnOk P w K mg base (L2.CX P w) k fi fd ps (spIni T c n F) ∧ Binds K fd ps []
theorem MkD.to {P : Program} {w : World} {K : PySem.W.Frag} {T : Th K} {mg : Str → Option Value} {base : Heap} {k n : Nat} {c : Str} {F F' : DF} (M : MkD P w T mg base k c n F) (h : ∀ ds A Ax, F' ds A Ax → F ds A Ax) : MkD P w T mg base k c n F' := by
  obtain ⟨g, fi, fd, ps, h1, h2, h3⟩ := M
  refine ⟨g, fi, fd, ps, h1, h2.imp fun vs H Q E ⟨l, y, dy, ds, ws, ow, A, Ax, H1, a1, a2, a3, a4, a5, a6, a7, a8, a9, a10⟩ => ⟨l, y, dy, ds, ws, ow, A, Ax, H1, a1, a2, a3, a4, a5, a6, a7, a8, h _ _ _ a9, a10⟩, h3⟩
section
variable {X : Cx} {T : Th X.K} {W : WX} {O : List Nat} {e : Expr} {es : List Expr} {φs : DA} {pos p : Pos} {k n : Nat} {c : Str} {F : DF}
theorem mk_aux {σ : L2.St} {H : Hp} {Q : VK} (h : efOf T W O (xFn F φs) σ H Q) (hF : ∀ ds A Ax, F ds A Ax → F ds (fun d => ∃ fs, d = .ins c fs ∧ A d) Ax) : tMkS (He.ga X.K c) (spIni T c n F) (WE W) (aOf T W O n φs) σ H Q := by
  obtain ⟨ρ, ow0, fr, A, Ax, ok, er, q, k, x⟩ := h
  refine ⟨ρ, ow0, fr, _, Ax, ok, er, q, fun ds vs G qs hn okG gG rs y dy hy hdy ne => ?_, x⟩
  refine ⟨by rw [List.length_cons, hn], y, dy, ds, vs, owOf ow0 O σ, _, Ax, G, rfl, rfl, hy, hdy, ne, okG, (er.gr T gG).otrk, rs, hF _ _ _ qs, fun fs J ⟨fs', e1, a⟩ o g r => ⟨rfl, ?_⟩, fun z d J a o g r => x z d J a o (T.trans gG g) r⟩
  exact k _ _ J a o (T.trans gG g) ⟨y, rfl, T.back gG hy, r⟩
theorem bf_mk (M : MkD X.prog X.w T X.mg X.base k c n F) (hF : ∀ ds A Ax, F ds A Ax → F ds (fun d => ∃ fs, d = .ins c fs ∧ A d) Ax) (hr : Room (k + 1) X.A) (tk : Takes X W) (ha : PA X (e :: es) (aOf T W O n φs)) (hg : Gl X c := by rfl)
    (hdb : (c == ("__debug__" : Str)) = false := by decide) (he : starEach (e :: es) X.env = (false, eval e X.env) :: starEach es X.env := by rfl) (hpl : (backTo pos (starEach es X.env)).any (·.1) = false := by rfl) :
    PE X (.Call (.Name c p) (e :: es) [] pos) (efOf T W O (xFn F φs)) := by
  obtain ⟨fi, fd, ps, h1, h2, h3⟩ := M.ex
  exact peI (pe_mkS h1 h2 hr M.g h3 (fun σ => passAt tk σ) ha hg hdb he hpl) fun _ _ _ h => mk_aux h hF
end
def iniD (c : Str) (m n : Nat) (φ : DS) : DF := fun ds A Ax => ds.length = n ∧ φ { nx := fun ρ => ∃ fs, ρ[0]? = some (some (.ins c fs)) ∧ A (.ins c fs), rt := fun _ => False, bk := fun _ => False, ct := fun _ => False, ex := fun x _ => Ax x } (some (.ins c []) :: startD (m - 1) ds)
section
variable {P : Program} {w : World} {K : PySem.W.Frag} {mg : Str → Option Value} {base : Heap} {x q : Str} {st : Stmt} {f : Addr} {fd : FuncData} {N ps : List Str} {k n : Nat} {T : Th K} {c : Str} {φ : DS}
theorem start_ini {H H1 : Hp} {ow : Addr → Prop} {y : Addr} {ws : List V} {ds : List D} (hN : 1 ≤ N.length) (hy : H1 y = none) (r : RepL K H ow ws ds) (tr : ∀ a, ow a → H1 a ≠ none) (eo : owOf ow [0] (L2.start N (.ref y :: ws)) = fun a => ow a ∨ a = y)
    (hI : OwnR K H (fun a => ow a ∨ a = y) y (.ins c [])) (g : ∀ a, H1 a ≠ none → H a ≠ none) (r2 : RepL K H (fun a => ow a ∨ a = y) ws ds) (hM : N.length ≤ dp) (hv : ws.length + 1 ≤ N.length) {iw : Addr → Prop} : ER K H ow { p0 := some (.ref y), iw := iw } [0] (L2.start N (.ref y :: ws)) (some (.ins c []) :: startD (N.length - 1) ds) := by
  have e1 : (L2.start N (.ref y :: ws)) = some (.ref y) :: (ws.map some ++ List.replicate (N.length - 1 - ws.length) none) := by
    unfold L2.start
    rw [List.map_cons, List.cons_append, List.length_cons, Nat.sub_add_eq, Nat.sub_right_comm]
  have base := start_er (N := N.drop 1) (ow := fun a => ow a ∨ a = y) r2 (fun a z => z.elim (fun z => g a (tr a z)) fun z => by rw [z]; exact hI.trk) (iw := iw) (by rw [List.length_drop]; omega) (by rw [List.length_drop]; omega)
  have e2 : (N.drop 1).length = N.length - 1 := by rw [List.length_drop]
  have eo2 : owOf (fun a => ow a ∨ a = y) [] (L2.start (N.drop 1) ws) = fun a => ow a ∨ a = y := by
    funext a
    exact propext ⟨fun z => z.elim id fun ⟨i, hi, _⟩ => absurd hi List.not_mem_nil, .inl⟩
  have e3 : L2.start (N.drop 1) ws = ws.map some ++ List.replicate (N.length - 1 - ws.length) none := by
    unfold L2.start
    rw [e2]
  refine ⟨fun i d hd hi hi2 => ?_, fun i hi l => ?_, fun p hp => absurd hp List.not_mem_nil, ⟨fun _ => 0, fun i _ hi => absurd (List.mem_singleton.mp hi) (by unfold dp; omega)⟩, fun i hi => absurd (List.mem_singleton.mp hi) (by unfold dq; omega), fun a z => g a (tr a z), ?_, (fun v z _ => by rw [e1]; cases z; rfl), ?_⟩
  · rw [eo]
    cases i with
    | zero => exact absurd List.mem_cons_self hi
    | succ i =>
      rw [List.getElem?_cons_succ] at hd
      obtain ⟨v, h1, h2⟩ := base.val i d (by rw [e2]; exact hd) List.not_mem_nil List.not_mem_nil
      rw [eo2] at h2
      refine ⟨v, ?_, h2⟩
      rw [e1, List.getElem?_cons_succ, ← e3]
      exact h1
  · have : i = 0 := by simpa using hi
    subst this
    rw [eo]
    exact ⟨y, _, rfl, by rw [e1]; rfl, fun z => tr y z hy, hI, fun j hj _ => by simpa using hj⟩
  · rw [e1, ← e3, List.length_cons, List.length_cons, ← base.len, e2]
  · rw [e1, List.length_cons, List.length_append, List.length_map, List.length_replicate]
    omega
theorem ok_ini (F : FnS K x q st f fd) (S : FnScope N ps (defScope st)) (hN : 1 ≤ N.length) (hp : ps.length = n + 1)
    (hbody : ∀ (cdv : Value) (A : Around) (outer : List Env) (s : Shared) (H : Hp) (E : XK), Room k (A.deeper (envOfC q (defScope st) s.heap.objs.size f cdv)) →
      Takes (cxOf (L2.CX P w) P w K mg base N q (defScope st) f cdv A outer s H E) (fun cls d _ H => E cls d H) →
      PSs (cxOf (L2.CX P w) P w K mg base N q (defScope st) f cdv A outer s H E) (defBody st) (sOf (K := K) T (fun cls d _ H => E cls d H) 0 [0] [0] [] φ)) (hM : N.length ≤ dp := by decide) (hv : ps.length ≤ N.length := by decide) (hb : T.bor = [] := by rfl) :
    FnOk P w K mg base (L2.CX P w) (k + 1) f fd ps (spIni T c n (iniD c N.length n φ)) := by
  refine okE F S (fun vs H Q E h => h.1.trans hp.symm) fun cdv A outer s H vs Q E hr h tk => ⟨_, hbody cdv A outer s H E hr tk, ?_⟩
  obtain ⟨hn, y, dy, ds, ws, ow, B, Bx, H1, rfl, rfl, hy, hdy, ne, ok, tr, r, ⟨hd, q⟩, k1, k2⟩ := h
  obtain ⟨m1, m2⟩ := T.make (C := He.ga K c) ok hy hdy ne
  have e1 : (L2.start N (.ref y :: ws)) = some (.ref y) :: (ws.map some ++ List.replicate (N.length - 1 - ws.length) none) := by
    unfold L2.start
    rw [List.map_cons, List.cons_append, List.length_cons, Nat.sub_add_eq, Nat.sub_right_comm]
  have eo : owOf ow [0] (L2.start N (.ref y :: ws)) = fun a => ow a ∨ a = y := by
    funext a
    refine propext ⟨fun z => z.imp_right fun ⟨i, hi, e⟩ => ?_, fun z => z.imp_right fun e => ⟨0, List.mem_cons_self, by rw [e1, e]; rfl⟩⟩
    have : i = 0 := by simpa using hi
    subst this
    rw [e1] at e
    cases e
    rfl
  have r1 : RepL K H1 (fun a => ow a ∨ a = y) ws ds := r.mv (more_own hy)
  refine ⟨some (.ins c []) :: startD (N.length - 1) ds, H1, ow, ow, { p0 := some (.ref y), iw := fun a => H1 a ≠ none }, { nx := fun ρ => ∃ fs, ρ[0]? = some (some (.ins c fs)) ∧ B (.ins c fs), rt := fun _ => False, bk := fun _ => False, ct := fun _ => False, ex := fun x _ => Bx x },
    ⟨m1, m2, start_ini hN hy (r.gr T m2) tr eo (.ins upd_same .nil) (fun a z => T.forth m2 z) (r1.gr T m2) hM (by rw [List.length_cons] at hn; omega), fun a z => ⟨z, tr a z⟩, fun i hi a z => ?_, rfl⟩, ⟨tr, hb.symm⟩, ⟨fun σ G ρ ow0 s ⟨fs, h1, h2⟩ => ?_, fun v d G ok g p a => a.elim, fun _ _ _ _ _ z => z, fun _ _ _ _ _ z => z, fun x d σ G ρ ow0 s xr a => ?_⟩, q⟩
  · have : i = 0 := by simpa using hi
    subst this
    rw [e1] at z
    cases z
    exact ⟨hy, fun _ z => absurd z List.not_mem_nil⟩
  · obtain ⟨a, d, e2, e3, e4, e5, e6⟩ := s.er.own 0 List.mem_cons_self (by decide)
    rw [s.er.slt _ rfl (.inl List.mem_cons_self)] at e3
    cases e3
    rw [h1] at e2
    cases e2
    refine k1 fs G h2 s.ok s.gr (e5.mv (Mv.less fun b z => ?_) fun o z _ => z)
    rcases z with z | rfl
    · exact .inl (s.sub b z).1
    · exact .inr ⟨0, List.mem_cons_self, s.er.slt _ rfl (.inl List.mem_cons_self)⟩
  · refine k2 x d G a s.ok s.gr ?_
    cases d with
    | none => exact xr
    | some d =>
      obtain ⟨nf, fvs, h1, h2⟩ := xr
      exact ⟨nf, fvs, h1, h2.mv (Mv.less fun a z => .inl (s.sub a z).1)⟩
end
end Dz
namespace Dz
open PySem PySem.Spec PyProof.Rows L2 Evl Bf
section
variable {ρ : Ro} {vs : List Nat} {g : DG} {t : DT} {e : DX} {Q : List D → Prop}
theorem lc_mapT {α : Type} (c : α → D) (f : α → D) (xs : List α) (h : ∀ x ∈ xs, ∀ K : D → Prop, K (f x) → g (c x) (wipeR ρ vs) fun ρ' => e ρ' K fun _ => False) (q : Q (xs.map f)) : lcL ρ vs g tYesD e (xs.map c) [] Q := by
  have key : ∀ (xs : List α) (acc : List D), (∀ x ∈ xs, ∀ K : D → Prop, K (f x) → g (c x) (wipeR ρ vs) fun ρ' => e ρ' K fun _ => False) → Q (acc ++ xs.map f) → lcL ρ vs g tYesD e (xs.map c) acc Q := by
    intro xs
    induction xs with
    | nil => intro acc _ q; rw [List.map_nil, List.append_nil] at q; exact q
    | cons x xs ih =>
      intro acc h q
      have := h x List.mem_cons_self (fun y => lcL ρ vs g tYesD e (xs.map c) (acc ++ [y]) Q) (ih _ (fun y hy => h y (List.mem_cons_of_mem _ hy)) (by rw [List.append_assoc]; exact q))
      show g (c x) (wipeR ρ vs) fun ρ' => tYesD ρ' (fun b => if b = true then e ρ' (fun y => lcL ρ vs g tYesD e (xs.map c) (acc ++ [y]) Q) (fun _ => False) else lcL ρ vs g tYesD e (xs.map c) acc Q) (fun _ => False)
      simpa [tYesD] using this
  exact key xs [] h q
theorem lc_filT {α : Type} (c : α → D) (p : α → Bool) (f : α → D) (xs : List α) (h : ∀ x ∈ xs, ∀ K : Option D → Prop, K (if p x = true then some (f x) else none) → g (c x) (wipeR ρ vs) fun ρ' => t ρ' (fun b => if b = true then e ρ' (fun y => K (some y)) (fun _ => False) else K none) fun _ => False)
    (q : Q ((xs.filter p).map f)) : lcL ρ vs g t e (xs.map c) [] Q := by
  have key : ∀ (xs : List α) (acc : List D), (∀ x ∈ xs, ∀ K : Option D → Prop, K (if p x = true then some (f x) else none) → g (c x) (wipeR ρ vs) fun ρ' => t ρ' (fun b => if b = true then e ρ' (fun y => K (some y)) (fun _ => False) else K none) fun _ => False) → Q (acc ++ (xs.filter p).map f) → lcL ρ vs g t e (xs.map c) acc Q := by
    intro xs
    induction xs with
    | nil => intro acc _ q; rw [List.filter_nil, List.map_nil, List.append_nil] at q; exact q
    | cons x xs ih =>
      intro acc h q
      refine h x List.mem_cons_self (fun o => match o with | some y => lcL ρ vs g t e (xs.map c) (acc ++ [y]) Q | none => lcL ρ vs g t e (xs.map c) acc Q) ?_
      by_cases hp : p x = true
      · rw [if_pos hp]
        rw [List.filter_cons_of_pos hp] at q
        exact ih _ (fun y hy => h y (List.mem_cons_of_mem _ hy)) (by rw [List.append_assoc]; exact q)
      · rw [if_neg hp]
        rw [List.filter_cons_of_neg hp] at q
        exact ih _ (fun y hy => h y (List.mem_cons_of_mem _ hy)) q
  exact key xs [] h q
end
theorem for_inv {g : DG} {b : DS} {E : DE} (items : List D) (P : Nat → Ro → Prop) {ρ : Ro} (h0 : P 0 ρ) (hs : ∀ i x ρ N, items[i]? = some x → P i ρ → (∀ ρ', P (i + 1) ρ' → N ρ') → g x ρ fun ρ' => b { E with nx := N, ct := N, bk := E.nx } ρ') (hd : ∀ ρ, P items.length ρ → E.nx ρ) : forL g b items E ρ := by
  have key : ∀ (k i : Nat) (ρ : Ro), i + k = items.length → P i ρ → forL g b (items.drop i) E ρ := by
    intro k
    induction k with
    | zero =>
      intro i ρ hi p
      have e : i = items.length := by omega
      subst e
      rw [List.drop_length]
      exact hd ρ p
    | succ k ih =>
      intro i ρ hi p
      have hlt : i < items.length := by omega
      rw [List.drop_eq_getElem_cons hlt]
      exact hs i _ ρ _ (List.getElem?_eq_getElem hlt) p fun ρ' z => ih (i + 1) ρ' (by omega) z
  have := key items.length 0 ρ (by omega) h0
  rwa [List.drop_zero] at this
theorem for_invT {α : Type} (c : α → D) {g : DG} {b : DS} {E : DE} (items : List α) (P : Nat → Ro → Prop) {ρ : Ro} (h0 : P 0 ρ) (hs : ∀ i x ρ N, items[i]? = some x → P i ρ → (∀ ρ', P (i + 1) ρ' → N ρ') → g (c x) ρ fun ρ' => b { E with nx := N, ct := N, bk := E.nx } ρ') (hd : ∀ ρ, P items.length ρ → E.nx ρ) : forL g b (items.map c) E ρ := by
  refine for_inv _ P h0 (fun i x ρ N hx p n => ?_) (fun ρ p => hd ρ (by rwa [List.length_map] at p))
  rw [List.getElem?_map] at hx
  cases e : items[i]? with
  | none => rw [e] at hx; cases hx
  | some y =>
    rw [e] at hx
    cases hx
    exact hs i y ρ N e p n
theorem for_range {g : DG} {b : DS} {E : DE} (lo hi : Int) (P : Nat → Ro → Prop) {ρ : Ro} (h0 : P 0 ρ) (hs : ∀ i ρ N, i < (hi - lo).toNat → P i ρ → (∀ ρ', P (i + 1) ρ' → N ρ') → g (.int (lo + (i : Nat))) ρ fun ρ' => b { E with nx := N, ct := N, bk := E.nx } ρ') (hd : ∀ ρ, P (hi - lo).toNat ρ → E.nx ρ) : forL g b (rng lo hi) E ρ := by
  refine for_invT (fun i : Nat => D.int (lo + i)) (List.range (hi - lo).toNat) P h0 (fun i x ρ N hx p n => ?_) (fun ρ p => hd ρ (by rwa [List.length_range] at p))
  obtain ⟨h1, h2⟩ := List.getElem?_eq_some_iff.mp hx
  rw [List.length_range] at h1
  rw [List.getElem_range] at h2
  subst h2
  exact hs i ρ N h1 p n
end Dz
namespace Bf
open PySem PySem.Spec PyProof.Rows L2 Evl
def badIt (kn xs : List Str) (i : Nat) : Bool := !decide (xs.getD i "" ∈ kn) || decide (xs.getD i "" ∈ xs.take i)
def fwOf (kn xs : List Str) : Option Nat := firstOf (badIt kn xs) xs.length
inductive LotV where
  | lst (es : List (Option Str))
  | oth
inductive RoomV where
  | rm (l : LotV) (n : Option Int)
  | oth
end Bf
namespace Dz
open PySem PySem.Spec PyProof.Rows L2 Evl Bf
abbrev lstS (xs : List Str) : D := .lst (xs.map .str)
abbrev tupS (xs : List Str) : D := .tup (xs.map .str)
theorem dKey_str (s : Str) : dKey (.str s) = some (Sum.inr s) := rfl
theorem dKey_int (s : Int) : dKey (.int s) = some (Sum.inl s) := rfl
theorem len_lst (xs : List D) : dLen [.lst xs] = some (.int xs.length) := rfl
theorem len_tup (xs : List D) : dLen [.tup xs] = some (.int xs.length) := rfl
theorem len_scr (xs : List Int) : dLen [.scr xs] = some (.int xs.length) := rfl
theorem len_str {z : Str} (h : z.length ≤ 1000) : dLen [.str z] = some (.int z.length) := by
  show (if z.length ≤ big then some (D.int z.length) else none) = _
  rw [if_pos (by show z.length ≤ 100000; omega)]
theorem in_lst (neg : Bool) (x : Str) (xs : List Str) : dIn neg (.str x) (.lst (xs.map .str)) = some (.bl (neg != decide (x ∈ xs))) := by
  show (match (D.str x).flat, flats (xs.map D.str) with
    | some v, some ws => some (D.bl (neg != inV v ws))
    | _, _ => none) = _
  rw [flats_strs]
  show some (D.bl (neg != inV (.str x) (xs.map V.str))) = _
  rw [inV_str]
theorem in_tup (neg : Bool) (x : Str) (xs : List Str) : dIn neg (.str x) (.tup (xs.map .str)) = some (.bl (neg != decide (x ∈ xs))) := by
  show (match (D.str x).flat, flats (xs.map D.str) with
    | some v, some ws => some (D.bl (neg != inV v ws))
    | _, _ => none) = _
  rw [flats_strs]
  show some (D.bl (neg != inV (.str x) (xs.map V.str))) = _
  rw [inV_str]
theorem in_sign (neg : Bool) (c : Nat) (z : Str) : dIn neg (.str ⟨#[c]⟩) (.str z) = some (.bl (neg != decide (c ∈ z.cps.toList))) := rfl
def seqS (d : D) (xs : List Str) : Prop := d = lstS xs ∨ d = tupS xs
theorem in_seq {neg : Bool} {x : Str} {d : D} {xs : List Str} (h : seqS d xs) : dIn neg (.str x) d = some (.bl (neg != decide (x ∈ xs))) := by
  rcases h with rfl | rfl
  · exact in_lst neg x xs
  · exact in_tup neg x xs
theorem sorted_lst {xs : List Str} (h : xs.length < 64) : dSorted [.lst (xs.map .str)] = some (.lst ((srt xs).map .str)) := by
  unfold dSorted
  simp only [strs_map]
  rw [if_pos h]
theorem sorted_tup {xs : List Str} (h : xs.length < 64) : dSorted [.tup (xs.map .str)] = some (.lst ((srt xs).map .str)) := by
  unfold dSorted
  simp only [strs_map]
  rw [if_pos h]
theorem ix_lst {xs : List D} {i : Nat} {x : D} (h : xs[i]? = some x) : dIx (.lst xs) (.int i) = some x := atI_nat h
theorem ix_tup' {xs : List D} {i : Nat} {x : D} (h : xs[i]? = some x) : dIx (.tup xs) (.int i) = some x := atI_nat h
theorem ix_str' {z : Str} {i c : Nat} (h : z.cps.toList[i]? = some c) (hz : z.length ≤ 1000) : dIx (.str z) (.int i) = some (.str ⟨#[c]⟩) := by
  show (if z.length ≤ big then (atI z.cps.toList (i : Int)).map (fun c => D.str ⟨#[c]⟩) else none) = _
  rw [if_pos (by show z.length ≤ 100000; omega), atI_nat h]
  rfl
def seenD (xs : List Str) : List (Key × D) := xs.map fun x => (Sum.inr x, .bl true)
theorem seen_get (n : Str) : ∀ xs : List Str, (dVal (seenD xs) (Sum.inr n)).isSome = decide (n ∈ xs)
  | [] => rfl
  | x :: xs => by
    have ih := seen_get n xs
    unfold dVal seenD at ih ⊢
    rw [List.map_cons, List.find?_cons]
    by_cases c : x = n
    · rw [decide_eq_true (show (Sum.inr x : Key) = Sum.inr n by rw [c])]
      rw [decide_eq_true (show n ∈ x :: xs by rw [c]; exact List.mem_cons_self)]
      rfl
    · rw [decide_eq_false (fun z => c (Sum.inr.inj z))]
      refine ih.trans (decide_eq_decide.mpr ⟨fun z => List.mem_cons_of_mem _ z, fun z => ?_⟩)
      rcases List.mem_cons.mp z with z | z
      · exact absurd z.symm c
      · exact z
theorem seen_put {xs : List Str} {n : Str} (h : n ∉ xs) : putD (seenD xs) (Sum.inr n) (.bl true) = seenD (xs ++ [n]) := by
  unfold putD
  have e : ((seenD xs).any fun kv => decide (kv.1 = Sum.inr n)) = false := by
    rw [List.any_eq_false]
    intro p hp z
    obtain ⟨x, hx, rfl⟩ := List.mem_map.mp hp
    have : (Sum.inr x : Key) = Sum.inr n := of_decide_eq_true z
    exact h (Sum.inr.inj this ▸ hx)
  rw [e, if_neg (by decide)]
  unfold seenD
  rw [List.map_append]
  rfl
theorem seen_len (xs : List Str) : (seenD xs).length = xs.length := by unfold seenD; rw [List.length_map]
theorem for_enum {α : Type} (c : α → D) {g : DG} {b : DS} {E : DE} (xs : List α) (P : Nat → Ro → Prop) {ρ : Ro} (h0 : P 0 ρ) (hs : ∀ i x ρ N, xs[i]? = some x → P i ρ → (∀ ρ', P (i + 1) ρ' → N ρ') → g (.tup [.int (i : Nat), c x]) ρ fun ρ' => b { E with nx := N, ct := N, bk := E.nx } ρ') (hd : ∀ ρ, P xs.length ρ → E.nx ρ) :
    forL g b (enumD (xs.map c)) E ρ := by
  refine for_inv _ P h0 (fun i x ρ N hx p n => ?_) (fun ρ p => hd ρ (by rwa [enum_len, List.length_map] at p))
  have hl : i < (enumD (xs.map c)).length := (List.getElem?_eq_some_iff.mp hx).1
  rw [enum_len] at hl
  rw [enum_at hl] at hx
  cases hx
  have hl2 : i < xs.length := by rwa [List.length_map] at hl
  rw [List.getElem_map]
  exact hs i _ ρ N (List.getElem?_eq_getElem hl2) p n
theorem take_next {α : Type} {xs : List α} {i : Nat} {x : α} (h : xs[i]? = some x) : xs.take (i + 1) = xs.take i ++ [x] := by
  rw [List.take_add_one, h]
  rfl
theorem getD_of {α : Type} {xs : List α} {i : Nat} {x d : α} (h : xs[i]? = some x) : xs.getD i d = x := by simp [List.getD, h]
end Dz
namespace Dz
open PySem PySem.Spec PyProof.Rows L2 Evl Bf
structure ClsT (K : PySem.W.Frag) (c : Str) (fl : List Str) : Prop where
  cl : Cls K (He.ga K c)
  nF : ∀ f ∈ fl, NoAttr K (He.ga K c) f
  nfam : He.ga K c ≠ He.ga K "Family"
  ins : C8.InsC K (He.ga K c)
  no : ∀ t ∈ kinds, PySem.W.kitOne K (.type t) (.ref (He.ga K c)) = some false
  nf : ∀ t ∈ kinds, PySem.W.notFirst K (He.ga K c) (.type t) = true
theorem clsB_ok {K : PySem.W.Frag} {c : Str} {fl : List Str} (h : clsB K c fl = true) : ClsT K c fl := by
  obtain ⟨h1, h⟩ := Bool.and_eq_true_iff.mp h
  obtain ⟨h2, h⟩ := Bool.and_eq_true_iff.mp h
  obtain ⟨h3, h⟩ := Bool.and_eq_true_iff.mp h
  obtain ⟨h4, h⟩ := Bool.and_eq_true_iff.mp h
  obtain ⟨h5, h6⟩ := Bool.and_eq_true_iff.mp h
  have cl : Cls K (He.ga K c) := He.cls_ok h1
  exact ⟨cl, fun f hf => He.noat_ok (List.all_eq_true.mp h2 f hf), of_decide_eq_true h3, insB_ok h4 cl, fun t ht => of_decide_eq_true (List.all_eq_true.mp h5 t ht), fun t ht => List.all_eq_true.mp h6 t ht⟩
structure MtD (P : Program) (w : World) {K : PySem.W.Frag} (T : Th K) (mg : Str → Option Value) (base : Heap) (k : Nat) (c m : Str) (n : Nat) (fz : Nat) (F : DF) : Prop where
  cl : Cls K (He.ga K c)
  ex : ∃ (f : Addr) (fd : FuncData) (ps : List Str), Meth K (He.ga K c) m f ∧ FnOk P w K mg base (L2.CX P w) k f fd ps (spOf T fz n F) ∧ Binds K fd ps []
theorem MtD.to {P : Program} {w : World} {K : PySem.W.Frag} {T : Th K} {mg : Str → Option Value} {base : Heap} {k n : Nat} {c m : Str} {fz : Nat} {F F' : DF} (M : MtD P w T mg base k c m n fz F) (h : ∀ ds A Ax, F' ds A Ax → F ds A Ax) : MtD P w T mg base k c m n fz F' := by
  obtain ⟨cl, f, fd, ps, h1, h2, h3⟩ := M
  exact ⟨cl, f, fd, ps, h1, h2.imp fun vs H Q E s => sp_imp h s, h3⟩
def xMeth (c m : Str) (F : DF) (φ : DX) (φs : DA) : DX := fun ρ A Ax => φ ρ (fun x => ∃ fs, x = .ins c fs ∧ fs.lookup m = none ∧ φs ρ (fun ds => F (x :: ds) A Ax) Ax) Ax
def xMeth0 (c m : Str) (F : DF) (φ : DX) : DX := fun ρ A Ax => φ ρ (fun x => ∃ fs, x = .ins c fs ∧ fs.lookup m = none ∧ F [x] A Ax) Ax
section
variable {X : Cx} {CX : CXT} {k : Nat} {f C : Addr} {fd : FuncData} {ps : List Str} {sp : Sp} {E : L2.St → XK} {m : Str} {pos apos : Pos} {o : Expr} {ta : TE}
def tMtS0 (C : Addr) (m : Str) (sp : Sp) (E : L2.St → XK) (ta : TE) : TE := fun σ H Q => ta σ H fun x H1 => ∃ a dx fs, x = .ref a ∧ H1 a = some (.ins C dx fs) ∧ fs.lookup m = none ∧ sp [x] H1 Q (E σ)
theorem pe_mtS0 {pl : Sem Bool} (he : PE X o ta) (c : Cls X.K C) (hm : Meth X.K C m f) (F : FnOk X.prog X.w X.K X.mg X.base CX k f fd ps sp) (hr : Room k X.A) (hb : Binds X.K fd ps []) (hx : ∀ σ, PassesAt CX X σ (E σ))
    (ht : eval (.Call (.Attribute o m apos) [] [] pos) X.env = (do
      let ov ← eval o X.env
      standAt apos.atName
      let (f, first) ← holding [ov] (getMethod ov m pl)
      callWith pos f first (backTo pos (starEach [] X.env)) (backToKw pos (keywordEach [] X.env))) := by rfl) :
    PE X (.Call (.Attribute o m apos) [] [] pos) (tMtS0 C m sp E ta) := by
  refine ⟨fun pins s σ H Q I h => ?_⟩
  refine PySem.W.methodCall_KW (pl := pl) (thn (he.run pins s σ H _ I h) fun u s1 ⟨x, H1, I1, rx, a, dx, fs, ex, ea, l, q⟩ => ?_) ht
  subst ex
  obtain rfl : u = Value.ref a := rx
  refine getmeth_ok I1 ea c hm l ?_
  exact PySem.W.callWith_K0 (first := [.ref a]) I1.kIn hm.kp (run_fnS (us := [.ref a]) (vs := [.ref a]) F hr hb (hx σ) I1 (.cons rfl .nil) q)
end
theorem ins_cases {K : PySem.W.Frag} {H : Hp} {ow : Addr → Prop} {v : V} {c : Str} {fs : List (Str × D)} (r : Rep K H ow v (.ins c fs)) {m : Str} (h : fs.lookup m = none) : ∃ a dx vs, v = .ref a ∧ H a = some (.ins (He.ga K c) dx vs) ∧ vs.lookup m = none := by
  obtain ⟨a, dx, vs, e, ha, ra⟩ := o_ins r.o
  refine ⟨a, dx, vs, e, ha, ?_⟩
  rcases ra.look m with ⟨v, d, h1, h2, _⟩ | ⟨h1, _⟩
  · rw [h] at h2; cases h2
  · exact h1
section
variable {X : Cx} {T : Th X.K} {W : WX} {O : List Nat} {e o : Expr} {es : List Expr} {φ : DX} {φs : DA} {pos apos : Pos} {k n : Nat} {c m : Str} {fz : Nat} {F : DF}
theorem mt_aux {σ : L2.St} {H : Hp} {Q : VK} (h : eOf T W O (xMeth c m F φ φs) σ H Q) : tMtS (He.ga X.K c) m (spOf T fz (n + 1) F) (WE W) (eOf T W O φ) (aOf T W O n φs) σ H Q := by
  obtain ⟨ρ, ow0, fr, A, Ax, ok, er, q, k, x⟩ := h
  refine ⟨ρ, ow0, fr, _, Ax, ok, er, q, fun d v G ⟨fs, e1, e2, qd⟩ okG gG rv => ?_, x⟩
  subst e1
  obtain ⟨a, dx, vs, rfl, ha, hl⟩ := ins_cases rv e2
  refine ⟨a, dx, vs, rfl, ha, hl, ρ, ow0, fr, _, Ax, okG, er.gr T gG, qd, fun ds ws J qs hn okJ gJ rs => ?_, x.gr gG⟩
  refine ⟨by rw [List.length_cons, hn], _, owOf ow0 O σ, A, Ax, okJ, ((er.gr T gG).gr T gJ).otrk, .cons (rv.gr T gJ) rs, qs, fun d v L a o g r => ?_, fun y d L a o g r => x y d L a o (T.trans gG (T.trans gJ g)) r⟩
  exact k d v L a o (T.trans gG (T.trans gJ g)) (r.rep ((er.gr T gG).gr T gJ).otrk)
theorem be_meth (M : MtD X.prog X.w T X.mg X.base k c m (n + 1) fz F) (hr : Room k X.A) (tk : Takes X W) (he : PE X o (eOf T W O φ)) (ha : PA X (e :: es) (aOf T W O n φs)) {pl : Sem Bool}
    (h1 : starEach (e :: es) X.env = (false, eval e X.env) :: starEach es X.env := by rfl) (h2 : (backTo pos (starEach es X.env)).any (·.1) = false := by rfl)
    (ht : eval (.Call (.Attribute o m apos) (e :: es) [] pos) X.env = (do
      let ov ← eval o X.env
      standAt apos.atName
      let (g, first) ← holding [ov] (getMethod ov m pl)
      callWith pos g first (backTo pos (starEach (e :: es) X.env)) (backToKw pos (keywordEach [] X.env))) := by rfl) : PE X (.Call (.Attribute o m apos) (e :: es) [] pos) (eOf T W O (xMeth c m F φ φs)) := by
  obtain ⟨f, fd, ps, a1, a2, a3⟩ := M.ex
  exact peI (pe_mtS he M.cl a1 a2 hr a3 (fun σ => passAt tk σ) ha h1 h2 ht) fun _ _ _ h => mt_aux h
end
theorem fn_down {P : Program} {w : World} {K : PySem.W.Frag} {mg : Str → Option Value} {base : Heap} {k : Nat} {f : Addr} {fd : FuncData} {ps : List Str} {sp : Sp} (F : FnOk P w K mg base (L2.CX P w) k f fd ps sp) : FnOk P w K mg base CX0 k f fd ps (fun vs H Q _ => sp vs H Q fun _ _ _ => False) := by
  refine ⟨fun vs H Q E h => F.len _ _ _ _ h, fun A outer s H args us vs Q E hr e0 hb hv hsp => codeAny_mono (F.run A outer s H args us vs Q _ hr e0 hb hv hsp) fun r s' h => ?_⟩
  cases r with
  | error e =>
    obtain ⟨_, _, _, _, _, _, _, _, _, _, _, _, z⟩ := h
    exact z.elim
  | ok fl => cases fl <;> exact h
structure EqD (P : Program) (w : World) {K : PySem.W.Frag} (T : Th K) (mg : Str → Option Value) (base : Heap) (k : Nat) (c : Str) (F : DF) : Prop where
  nf : ∀ t ∈ kinds, PySem.W.notFirst K (He.ga K c) (.type t) = true
  ex : ∃ (f : Addr) (fd : FuncData) (ps : List Str), OwnEq K (He.ga K c) f ∧ FnOk P w K mg base (L2.CX P w) k f fd ps (spOf T 0 2 F) ∧ Binds K fd ps []
theorem EqD.to {P : Program} {w : World} {K : PySem.W.Frag} {T : Th K} {mg : Str → Option Value} {base : Heap} {k : Nat} {c : Str} {F F' : DF} (M : EqD P w T mg base k c F) (h : ∀ ds A Ax, F' ds A Ax → F ds A Ax) : EqD P w T mg base k c F' := by
  obtain ⟨cl, f, fd, ps, h1, h2, h3⟩ := M
  exact ⟨cl, f, fd, ps, h1, h2.imp fun vs H Q E s => sp_imp h s, h3⟩
def xEqO (c : Str) (neg : Bool) (F : DF) (φa φb : DX) : DX := fun ρ A Ax => φa ρ (fun x => φb ρ (fun y => ∃ fs, x = .ins c fs ∧ ((∃ gs, y = .ins c gs) ∨ (neg = false ∧ (tyN y).isSome = true)) ∧ F [x, y] (fun z => ∃ b, z = .bl b ∧ A (.bl (neg != b))) fun _ => False) Ax) Ax
section
variable {X : Cx} {T : Th X.K} {W : WX} {O : List Nat} {a b : Expr} {φa φb : DX} {pos : Pos} {k : Nat} {c : Str} {F : DF}
end
def offD (E : DE) (i : Nat) : DE := { nx := fun ρ => E.nx (ρ.set i none), rt := E.rt, bk := fun ρ => E.bk (ρ.set i none), ct := fun ρ => E.ct (ρ.set i none), ex := fun _ _ => False }
def catchD (nm : List Str) : List (Str × Nat × (Addr → Addr → DS)) → Exc → DE → Ro → Prop
  | [], x, E, ρ => E.ex x ρ
  | (h, i, ψ) :: r, x, E, ρ => x.cls ∈ nm ∧ if x.cls = h then x.fs ≠ [] ∧ ∀ a dd, ψ a dd (offD E i) (ρ.set i (some (.exc a dd x.cls x.fs))) else catchD nm r x E ρ
def sTry (nm : List Str) (b : DS) (hs : List (Str × Nat × (Addr → Addr → DS))) : DS := fun E ρ => b { E with ex := fun x ρ' => catchD nm hs x E ρ' } ρ
def ExmT (K : PySem.W.Frag) (nm : List Str) : Prop := ∀ x ∈ nm, ∀ h ∈ nm, PySem.W.exmOne K (.ref (He.ga K x)) (.ref (He.ga K h)) = some (decide (x = h))
theorem exmB_ok {K : PySem.W.Frag} {nm : List Str} (h : exmB K nm = true) : ExmT K nm := fun x hx y hy => of_decide_eq_true (List.all_eq_true.mp (List.all_eq_true.mp h x hx) y hy)
def xXf (a dd : Addr) (c f : Str) (φ : DX) : DX := fun ρ A Ax => φ ρ (fun v => ∃ fs z, v = .exc a dd c fs ∧ fs.lookup f = some z ∧ A z) Ax
def uOf {K : PySem.W.Frag} (T : Th K) (fz : Nat) (Ol : List Nat) (h : Str) (ψ : Addr → Addr → DS) (a : Addr) (cl : Value) (d : Option Addr) : TS := fun M τ G => ∃ dd, d = some dd ∧ cl = .ref (He.ga K h) ∧ sOf T W0 fz [] [] Ol (ψ a dd) M τ G
section
variable {X : Cx} {T : Th X.K} {W : WX} {fz : Nat} {O Ol : List Nat}
inductive ClsD (X : Cx) (T : Th X.K) (fz : Nat) (nm : List Str) : List ExceptHandler → List ClA → List (Str × Nat × (Addr → Addr → DS)) → Prop
  | nil : ClsD X T fz nm [] [] []
  | cons {x n : Str} {i : Nat} {ψ : Addr → Addr → DS} {b0 : Stmt} {su : List Stmt} {np ps : Pos} {hs : List ExceptHandler} {l : List ClA} {ds : List (Str × Nat × (Addr → Addr → DS))} (hm : x ∈ nm)
      (hc : Names X x (.ref (He.ga X.K x))) (hi : X.N[i]? = some n) (hl : X.env.kindOf n = some .local)
      (hsu : ∀ (a : Addr) (oe : Obj) (cl : Value) (d : Option Addr) (pn : List (Addr × Obj)), Zc cl d oe → (∃ vs, oe.data = .fields vs) → PSs (X.suite a ((a, oe) :: pn)) (b0 :: su) (uOf (K := X.K) T fz [] x ψ a cl d)) (r : ClsD X T fz nm hs l ds) :
      ClsD X T fz nm (.ExceptHandler (some (.Name x np)) (some n) (b0 :: su) ps :: hs) ((.ref (He.ga X.K x), i, fun a cl d => uOf (K := X.K) T fz [] x ψ a cl d) :: l) ((x, i, ψ) :: ds)
theorem ClsD.cls {nm : List Str} {hs : List ExceptHandler} {l : List ClA} {ds : List (Str × Nat × (Addr → Addr → DS))} (h : ClsD X T fz nm hs l ds) : ClsA X hs l := by
  induction h with
  | nil => exact .nil
  | cons hm hc hi hl hsu r ih => exact .cons hc hi hl hsu ih
end
end Dz
namespace Dz
open PySem PySem.Spec PyProof.Rows L2 Evl Bf
mutual
def D.okE : Nat → D → Bool
  | _, .non => true
  | _, .int _ => true
  | _, .str s => PyData.strOk s
  | n + 1, .lst xs => okEL n xs
  | n + 1, .tup xs => okEL n xs
  | _, _ => false
def okEL : Nat → List D → Bool
  | _, [] => true
  | n, d :: ds => D.okE n d && okEL n ds
end
mutual
theorem okE_py : ∀ (n : Nat) (d : D), d.okE n = true → ∃ p, d.py = some p ∧ p.canLay0 = true ∧ p.depth ≤ n
  | _, .non, _ => ⟨_, rfl, rfl, Nat.zero_le _⟩
  | _, .int _, _ => ⟨_, rfl, rfl, Nat.zero_le _⟩
  | n, .str s, h => ⟨_, rfl, by unfold D.okE at h; exact h, Nat.zero_le _⟩
  | n + 1, .lst xs, h => by
    unfold D.okE at h
    obtain ⟨ps, h1, h2, h3⟩ := okEL_py n xs h
    refine ⟨.list ps, ?_, h2, ?_⟩
    · unfold D.py; rw [h1]
    · show PyData.depthAll ps + 1 ≤ n + 1; omega
  | n + 1, .tup xs, h => by
    unfold D.okE at h
    obtain ⟨ps, h1, h2, h3⟩ := okEL_py n xs h
    refine ⟨.tuple ps, ?_, h2, ?_⟩
    · unfold D.py; rw [h1]
    · show PyData.depthAll ps + 1 ≤ n + 1; omega
  | 0, .lst _, h => by unfold D.okE at h; cases h
  | 0, .tup _, h => by unfold D.okE at h; cases h
  | _, .bl _, h => by unfold D.okE at h; cases h
  | _, .dic _, h => by unfold D.okE at h; cases h
  | _, .ins _ _, h => by unfold D.okE at h; cases h
  | _, .ty _, h => by unfold D.okE at h; cases h
  | _, .cls _, h => by unfold D.okE at h; cases h
  | _, .scr _, h => by unfold D.okE at h; cases h
  | _, .exc _ _ _ _, h => by unfold D.okE at h; cases h
  | _, .well _, h => by unfold D.okE at h; cases h
  | _, .fam _ _ _, h => by unfold D.okE at h; cases h
  | _, .dit _, h => by unfold D.okE at h; cases h
theorem okEL_py : ∀ (n : Nat) (ds : List D), okEL n ds = true → ∃ ps, pyL ds = some ps ∧ PyData.canLayAll0 ps = true ∧ PyData.depthAll ps ≤ n
  | _, [], _ => ⟨[], rfl, rfl, Nat.zero_le _⟩
  | n, d :: ds, h => by
    unfold okEL at h
    obtain ⟨h1, h2⟩ := Bool.and_eq_true_iff.mp h
    obtain ⟨p, a1, a2, a3⟩ := okE_py n d h1
    obtain ⟨ps, b1, b2, b3⟩ := okEL_py n ds h2
    refine ⟨p :: ps, ?_, ?_, ?_⟩
    · unfold pyL; rw [a1, b1]
    · show (p.canLay0 && PyData.canLayAll0 ps) = true; rw [a2, b2]; rfl
    · show max p.depth (PyData.depthAll ps) ≤ n; omega
end
mutual
theorem eqv_d : ∀ (d e : D) (n m : Nat) {p q : PyData}, d.okE n = true → e.okE m = true → d.py = some p → e.py = some q → (PyData.eqv p q = true ↔ d = e)
  | .non, e, _, _, p, q, _, he, h1, h2 => by
    cases h1
    cases e <;> first
      | (cases h2; done)
      | (cases h2; exact ⟨fun _ => rfl, fun _ => rfl⟩)
      | (cases h2; exact ⟨(fun z => by cases z), (fun z => by cases z)⟩)
      | (unfold D.py at h2; split at h2 <;> cases h2; exact ⟨(fun z => by cases z), (fun z => by cases z)⟩)
  | .int i, e, _, _, p, q, _, he, h1, h2 => by
    cases h1
    cases e with
    | int j => cases h2; show (i == j) = true ↔ _; rw [beq_iff_eq]; exact ⟨fun z => by rw [z], fun z => D.int.inj z⟩
    | bl j => unfold D.okE at he; cases he
    | lst _ => unfold D.py at h2; split at h2 <;> cases h2; exact ⟨(fun z => by cases z), (fun z => by cases z)⟩
    | tup _ => unfold D.py at h2; split at h2 <;> cases h2; exact ⟨(fun z => by cases z), (fun z => by cases z)⟩
    | _ => cases h2 <;> exact ⟨(fun z => by cases z), (fun z => by cases z)⟩
  | .str i, e, _, _, p, q, _, he, h1, h2 => by
    cases h1
    cases e with
    | str j => cases h2; show (i == j) = true ↔ _; rw [beq_iff_eq]; exact ⟨fun z => by rw [z], fun z => D.str.inj z⟩
    | lst _ => unfold D.py at h2; split at h2 <;> cases h2; exact ⟨(fun z => by cases z), (fun z => by cases z)⟩
    | tup _ => unfold D.py at h2; split at h2 <;> cases h2; exact ⟨(fun z => by cases z), (fun z => by cases z)⟩
    | _ => cases h2 <;> exact ⟨(fun z => by cases z), (fun z => by cases z)⟩
  | .lst xs, e, n, m, p, q, hd, he, h1, h2 => by
    unfold D.py at h1
    split at h1
    · rename_i ps g1
      cases h1
      cases n with
      | zero => unfold D.okE at hd; cases hd
      | succ n =>
        unfold D.okE at hd
        cases e with
        | lst ys =>
          unfold D.py at h2
          split at h2
          · rename_i qs g2
            cases h2
            cases m with
            | zero => unfold D.okE at he; cases he
            | succ m =>
              unfold D.okE at he
              show PyData.eqvAll ps qs = true ↔ _
              rw [eqv_dL xs ys n m hd he g1 g2]
              exact ⟨fun z => by rw [z], fun z => D.lst.inj z⟩
          · cases h2
        | tup _ => unfold D.py at h2; split at h2 <;> cases h2; exact ⟨(fun z => by cases z), (fun z => by cases z)⟩
        | _ => cases h2 <;> exact ⟨(fun z => by cases z), (fun z => by cases z)⟩
    · cases h1
  | .tup xs, e, n, m, p, q, hd, he, h1, h2 => by
    unfold D.py at h1
    split at h1
    · rename_i ps g1
      cases h1
      cases n with
      | zero => unfold D.okE at hd; cases hd
      | succ n =>
        unfold D.okE at hd
        cases e with
        | tup ys =>
          unfold D.py at h2
          split at h2
          · rename_i qs g2
            cases h2
            cases m with
            | zero => unfold D.okE at he; cases he
            | succ m =>
              unfold D.okE at he
              show PyData.eqvAll ps qs = true ↔ _
              rw [eqv_dL xs ys n m hd he g1 g2]
              exact ⟨fun z => by rw [z], fun z => D.tup.inj z⟩
          · cases h2
        | lst _ => unfold D.py at h2; split at h2 <;> cases h2; exact ⟨(fun z => by cases z), (fun z => by cases z)⟩
        | _ => cases h2 <;> exact ⟨(fun z => by cases z), (fun z => by cases z)⟩
    · cases h1
  | .bl _, _, _, _, _, _, hd, _, _, _ => by unfold D.okE at hd; cases hd
  | .dic _, _, _, _, _, _, hd, _, _, _ => by unfold D.okE at hd; cases hd
  | .ins _ _, _, _, _, _, _, hd, _, _, _ => by unfold D.okE at hd; cases hd
  | .ty _, _, _, _, _, _, hd, _, _, _ => by unfold D.okE at hd; cases hd
  | .cls _, _, _, _, _, _, hd, _, _, _ => by unfold D.okE at hd; cases hd
  | .scr _, _, _, _, _, _, hd, _, _, _ => by unfold D.okE at hd; cases hd
  | .exc _ _ _ _, _, _, _, _, _, hd, _, _, _ => by unfold D.okE at hd; cases hd
  | .well _, _, _, _, _, _, hd, _, _, _ => by unfold D.okE at hd; cases hd
  | .fam _ _ _, _, _, _, _, _, hd, _, _, _ => by unfold D.okE at hd; cases hd
  | .dit _, _, _, _, _, _, hd, _, _, _ => by unfold D.okE at hd; cases hd
theorem eqv_dL : ∀ (xs ys : List D) (n m : Nat) {ps qs : List PyData}, okEL n xs = true → okEL m ys = true → pyL xs = some ps → pyL ys = some qs → (PyData.eqvAll ps qs = true ↔ xs = ys)
  | [], [], _, _, ps, qs, _, _, h1, h2 => by cases h1; cases h2; exact ⟨fun _ => rfl, fun _ => rfl⟩
  | [], y :: ys, _, _, ps, qs, _, _, h1, h2 => by
    cases h1
    unfold pyL at h2
    split at h2 <;> cases h2
    exact ⟨(fun z => by cases z), (fun z => by cases z)⟩
  | x :: xs, [], _, _, ps, qs, _, _, h1, h2 => by
    cases h2
    unfold pyL at h1
    split at h1 <;> cases h1
    exact ⟨(fun z => by cases z), (fun z => by cases z)⟩
  | x :: xs, y :: ys, n, m, ps, qs, hd, he, h1, h2 => by
    unfold okEL at hd he
    obtain ⟨a1, a2⟩ := Bool.and_eq_true_iff.mp hd
    obtain ⟨b1, b2⟩ := Bool.and_eq_true_iff.mp he
    unfold pyL at h1 h2
    split at h1
    · rename_i p1 ps1 c1 c2
      cases h1
      split at h2
      · rename_i q1 qs1 d1 d2
        cases h2
        show (PyData.eqv p1 q1 && PyData.eqvAll ps1 qs1) = true ↔ _
        rw [Bool.and_eq_true, eqv_d x y n m a1 b1 c1 d1, eqv_dL xs ys n m a2 b2 c2 d2]
        exact ⟨fun ⟨z1, z2⟩ => by rw [z1, z2], fun z => List.cons.inj z⟩
      · cases h2
    · cases h1
end
theorem eq_of {neg : Bool} {d e : D} (h1 : d.okE 64 = true) (h2 : e.okE 64 = true) {b : Bool} (hb : b = true ↔ d = e) : dEq neg d e = some (.bl (neg != b)) := by
  obtain ⟨p, a1, a2, a3⟩ := okE_py 64 d h1
  obtain ⟨q, b1, b2, b3⟩ := okE_py 64 e h2
  unfold dEq
  rw [a1, b1]
  have s1 : SeqAt.shaped p = true := by show (p.canLay0 && decide (p.depth ≤ 64)) = true; rw [a2, decide_eq_true a3]; rfl
  have s2 : SeqAt.shaped q = true := by show (q.canLay0 && decide (q.depth ≤ 64)) = true; rw [b2, decide_eq_true b3]; rfl
  show (if SeqAt.shaped p = true ∧ SeqAt.shaped q = true then some (D.bl (neg != PyData.eqv p q)) else none) = _
  rw [if_pos ⟨s1, s2⟩]
  have e1 : PyData.eqv p q = b := by
    have := eqv_d d e 64 64 h1 h2 a1 b1
    cases hp : PyData.eqv p q with
    | true => exact (hb.mpr (this.mp hp)).symm
    | false =>
      cases hc : b with
      | false => rfl
      | true => rw [this.mpr (hb.mp hc)] at hp; cases hp
  rw [e1]
theorem eq_int (neg : Bool) (i j : Int) : dEq neg (.int i) (.int j) = some (.bl (neg != decide (i = j))) := eq_of rfl rfl ⟨fun z => by rw [of_decide_eq_true z], fun z => decide_eq_true (D.int.inj z)⟩
theorem okE_up {n m : Nat} (h : n ≤ m) : ∀ d : D, d.okE n = true → d.okE m = true := by
  have all : ∀ n m : Nat, n ≤ m → (∀ d : D, d.okE n = true → d.okE m = true) := by
    intro n
    induction n with
    | zero =>
      intro m hm d hd
      cases d <;> first
        | (unfold D.okE at hd ⊢; exact hd)
        | (unfold D.okE at hd; cases hd)
    | succ n ih =>
      intro m hm d hd
      cases m with
      | zero => omega
      | succ m =>
        have hl : ∀ ds : List D, okEL n ds = true → okEL m ds = true := by
          intro ds
          induction ds with
          | nil => intro _; unfold okEL; rfl
          | cons x xs ihx =>
            intro h
            unfold okEL at h ⊢
            obtain ⟨a1, a2⟩ := Bool.and_eq_true_iff.mp h
            rw [ih m (by omega) x a1, ihx a2]
            rfl
        cases d <;> first
          | (unfold D.okE at hd ⊢; exact hl _ hd)
          | (unfold D.okE at hd ⊢; exact hd)
          | (unfold D.okE at hd; cases hd)
  exact all n m h
theorem okEL_of {n : Nat} : ∀ {ds : List D}, (∀ d ∈ ds, d.okE n = true) → okEL n ds = true
  | [], _ => by unfold okEL; rfl
  | d :: ds, h => by
    unfold okEL
    rw [h d List.mem_cons_self, okEL_of fun x hx => h x (List.mem_cons_of_mem _ hx)]
    rfl
theorem ok_lst {n : Nat} {ds : List D} (h : ∀ d ∈ ds, d.okE n = true) : (D.lst ds).okE (n + 1) = true := by unfold D.okE; exact okEL_of h
theorem ok_tup {n : Nat} {ds : List D} (h : ∀ d ∈ ds, d.okE n = true) : (D.tup ds).okE (n + 1) = true := by unfold D.okE; exact okEL_of h
theorem ok_strs {xs : List Str} (h : ∀ x ∈ xs, PyData.strOk x = true) : ∀ d ∈ xs.map D.str, d.okE 0 = true := fun d hd => by
  obtain ⟨x, hx, rfl⟩ := List.mem_map.mp hd
  unfold D.okE
  exact h x hx
end Dz
namespace Dz
theorem add_int (i j : Int) : dAdd (.int i) (.int j) = some (.int (i + j)) := rfl
end Dz
namespace Dz
open PySem PySem.Spec PyProof.Rows L2 Evl Bf
mutual
def D.flt : D → Bool
  | .non => true
  | .bl _ => true
  | .int _ => true
  | .str _ => true
  | .ty _ => true
  | .cls _ => true
  | .scr _ => true
  | .tup ds => fltL ds
  | .lst _ => false
  | .dic _ => false
  | .ins _ _ => false
  | .exc _ _ _ _ => false
  | .well _ => false
  | .fam _ _ _ => false
  | .dit _ => false
def fltL : List D → Bool
  | [] => true
  | d :: ds => d.flt && fltL ds
end
def fltK : List (Key × D) → Bool
  | [] => true
  | d :: ds => d.2.flt && fltK ds
def fltF : List (Str × D) → Bool
  | [] => true
  | d :: ds => d.2.flt && fltF ds
def D.fltC : D → Bool
  | .lst ds => fltL ds
  | .dic ds => fltK ds
  | .ins _ ds => fltF ds
  | _ => false
def nb : Addr → Prop := fun _ => False
section
variable {K : PySem.W.Frag} {H G : Hp} {ow ow' : Addr → Prop}
mutual
theorem Rep.flt {v : V} {d : D} (h : Rep K H ow v d) (f : d.flt = true) : Rep K H ow' v d :=
  match h, f with
  | .non, _ => .non
  | .bl b, _ => .bl b
  | .int i, _ => .int i
  | .str s, _ => .str s
  | .tup a c, f => .tup a (RepL.flt c (by rw [D.flt] at f; exact f))
  | .ty n, _ => .ty n
  | .cls c, _ => .cls c
  | .scr a, _ => .scr a
  | .lst _ _ _, f => by simp [D.flt] at f
  | .dic _ _ _, f => by simp [D.flt] at f
  | .ins _ _ _, f => by simp [D.flt] at f
  | .exc0, f => by simp [D.flt] at f
  | .exc _ _, f => by simp [D.flt] at f
  | .well _ _, f => by simp [D.flt] at f
  | .fam _ _ _ _, f => by simp [D.flt] at f
  | .dit _ _ _ _, f => by simp [D.flt] at f
theorem RepL.flt {vs : List V} {ds : List D} (h : RepL K H ow vs ds) (f : fltL ds = true) : RepL K H ow' vs ds :=
  match h, f with
  | .nil, _ => .nil
  | .cons a b, f => by
    rw [fltL] at f
    obtain ⟨f1, f2⟩ := Bool.and_eq_true_iff.mp f
    exact .cons (Rep.flt a f1) (RepL.flt b f2)
end
theorem RepK.flt : ∀ {vs : List (Key × V)} {ds : List (Key × D)}, RepK K H ow vs ds → fltK ds = true → RepK K H ow' vs ds
  | _, _, .nil, _ => .nil
  | _, _, .cons a b, f => by
    obtain ⟨f1, f2⟩ := Bool.and_eq_true_iff.mp f
    exact .cons (a.flt f1) (RepK.flt b f2)
theorem RepF.flt : ∀ {vs : List (Str × V)} {ds : List (Str × D)}, RepF K H ow vs ds → fltF ds = true → RepF K H ow' vs ds
  | _, _, .nil, _ => .nil
  | _, _, .cons a b, f => by
    obtain ⟨f1, f2⟩ := Bool.and_eq_true_iff.mp f
    exact .cons (a.flt f1) (RepF.flt b f2)
theorem Rep.r0 {v : V} {d : D} (h : Rep K H ow v d) : Rep K H nb v d := h.mv (Mv.less fun _ z => z.elim)
theorem RepO.r0 {v : V} {d : D} (h : RepO K H ow v d) : Rep K H nb v d := by
  rcases h with h | ⟨a, rfl, h⟩
  · exact h.r0
  · have m : Mv K H ow H nb := Mv.less fun _ z => z.elim
    cases h with
    | lst a b => exact .lst a (fun z => z) (b.mv m)
    | dic a b => exact .dic (.inl a) (fun z => z) (b.mv m)
    | ins a b => exact .ins a (fun z => z) (b.mv m)
    | dit a b c => exact .dit a b (fun z => z) c
theorem Own.r0 {fp : List Addr} {v : V} {d : D} (h : Own K H ow fp v d) : Rep K H nb v d := h.rep (fun _ z => z.elim) fun _ _ z => z
end
def erOf {K : PySem.W.Frag} (T : Th K) (W : WX) (O : List Nat) (φ : DX) : TE := fun σ H Q => ∃ ρ ow0 fr A Ax, T.Ok H ∧ ER K H ow0 fr O σ ρ ∧ φ ρ A Ax ∧ (∀ d v G, A d → T.Ok G → T.Gr H G → Rep K G nb v d → Q v G) ∧ XOk T W H (owOf ow0 O σ) σ Ax
def arOf {K : PySem.W.Frag} (T : Th K) (W : WX) (O : List Nat) (n : Nat) (φ : DA) : TA := fun σ H Q => ∃ ρ ow0 fr A Ax, T.Ok H ∧ ER K H ow0 fr O σ ρ ∧ φ ρ A Ax ∧ (∀ ds vs G, A ds → vs.length = n → T.Ok G → T.Gr H G → RepL K G nb vs ds → Q vs G) ∧ XOk T W H (owOf ow0 O σ) σ Ax
def xFlt (φ : DX) : DX := fun ρ A Ax => φ ρ (fun d => d.flt = true ∧ A d) Ax
def xFltC (φ : DX) : DX := fun ρ A Ax => φ ρ (fun d => d.fltC = true ∧ A d) Ax
def xFltX (φ : DX) : DX := fun ρ A Ax => φ ρ (fun d => d.flt = true ∧ A d) fun x => fltF x.fs = true ∧ Ax x
def xFltCX (φ : DX) : DX := fun ρ A Ax => φ ρ (fun d => d.fltC = true ∧ A d) fun x => fltF x.fs = true ∧ Ax x
section
variable {X : Cx} {T : Th X.K} {W : WX} {O : List Nat} {e a b : Expr} {es : List Expr} {φ φa φb : DX} {φs : DA} {pos p : Pos}
theorem nb_trk {H : Hp} : ∀ a, nb a → H a ≠ none := fun _ z => z.elim
theorem er_o (h : PE X e (eoOf T W O φ)) : PE X e (erOf T W O φ) := peI h fun σ H Q ⟨ρ, ow0, fr, A, Ax, ok, er, q, k, x⟩ => ⟨ρ, ow0, fr, A, Ax, ok, er, q, fun d v G a o g r => k d v G a o g r.r0, x⟩
theorem er_var {i : Nat} {x : Str} (hN : X.N[i]? = some x) (hv : Vis X.env.scope x) (hO : O.contains (i + dp) = true) (hd : (x == ("__debug__" : Str)) = false := by decide) (hcd : (x == ("__classdict__" : Str)) = false := by decide) :
    PE X (.Name x pos) (erOf T W O (xVar i)) := peI (pe_var hN hv hd hcd) fun σ H Q ⟨ρ, ow0, fr, A, Ax, ok, er, ⟨d, h1, h2⟩, k, _⟩ => by
  obtain ⟨rg, hd⟩ := er.dep
  obtain ⟨v, d', fp, e1, e2, e3, _⟩ := hd i (er.lt h1) (by simpa using hO)
  rw [h1] at e1
  cases e1
  exact ⟨v, e2, k d v H h2 ok (T.refl H) e3.r0⟩
theorem be_r (h : PE X e (erOf T W O φ)) : PE X e (eOf T W O (xFlt φ)) := peI h fun σ H Q ⟨ρ, ow0, fr, A, Ax, ok, er, q, k, x⟩ => ⟨ρ, ow0, fr, _, Ax, ok, er, q, fun d v G ⟨f, a⟩ o g r => k d v G a o g (r.flt f), x⟩
theorem er_fld {c f : Str} (hc : Cls X.K (He.ga X.K c)) (hn : NoAttr X.K (He.ga X.K c) f) (he : PE X e (erOf T W O φ)) (hb : attributeBase e f X.env (eval e X.env) = eval e X.env) : PE X (.Attribute e f pos) (erOf T W O (xFld c f φ)) :=
  peI (pe_fld he hb) fun σ H Q ⟨ρ, ow0, fr, A, Ax, ok, er, q, k, x⟩ => ⟨ρ, ow0, fr, _, Ax, ok, er, q, fun d v G ⟨fs, z, e1, e2, qz⟩ okG gG rv => (by
    subst e1
    obtain ⟨a, dx, vs, rfl, ha, ra⟩ := o_ins (.inl rv)
    rcases ra.look f with ⟨v, d, h1, h2, h3⟩ | ⟨_, h2⟩
    · rw [e2] at h2
      cases h2
      exact ⟨a, _, dx, vs, v, rfl, ha, hc, hn, h1, k _ _ G qz okG gG h3⟩
    · rw [e2] at h2; cases h2), x⟩
theorem ar_nil : PA X [] (arOf T W O 0 aNil) := paI pa_nil fun σ H Q ⟨ρ, ow0, fr, A, Ax, ok, er, q, k, _⟩ => k [] [] H q rfl ok (T.refl H) .nil
theorem ar_cons {n : Nat} (ha : PE X e (erOf T W O φ)) (hr : PA X es (arOf T W O n φs)) (hs : starEach (e :: es) X.env = (false, eval e X.env) :: starEach es X.env := by rfl) : PA X (e :: es) (arOf T W O (n + 1) (aCons φ φs)) :=
  paI (pa_cons ha hr hs) fun σ H Q ⟨ρ, ow0, fr, A, Ax, ok, er, q, k, x⟩ => ⟨ρ, ow0, fr, _, Ax, ok, er, q, fun d v G qd okG gG rv =>
    ⟨ρ, ow0, fr, _, Ax, okG, er.gr T gG, qd, fun ds vs J qs hn okJ gJ rs => k _ _ J qs (by rw [List.length_cons, hn]) okJ (T.trans gG gJ) (.cons (rv.gr T gJ) rs), x.gr gG⟩, x⟩
variable {r : List V → Hp → VK → Prop} {g : List D → Option D} {id : String} {nm : String} {x : Str} {n : Nat}
theorem xrep_flt {K : PySem.W.Frag} {G : Hp} {ow ow' : Addr → Prop} {d : Option Addr} {x : Exc} (h : XRep K G ow d x) (f : fltF x.fs = true) : XRep K G ow' d x := by
  cases d with
  | none => exact h
  | some d =>
    obtain ⟨nf, fvs, h1, h2⟩ := h
    exact ⟨nf, fvs, h1, h2.flt f⟩
variable {k : Nat} {ps : List Str} {fz : Nat} {F : DF}
end
end Dz
namespace Dz
open PySem PySem.Spec PyProof.Rows L2 Evl Bf
def esOf {K : PySem.W.Frag} (T : Th K) (W : WX) (O : List Nat) (φ : DX) : TE := fun σ H Q => ∃ ρ ow0 fr A Ax, T.Ok H ∧ ER K H ow0 fr O σ ρ ∧ φ ρ A Ax ∧ (∀ d v G, A d → T.Ok G → T.Gr H G → PostR K H G (owOf ow0 O σ) 2 v d → Q v G) ∧ XOk T W H (owOf ow0 O σ) σ Ax
def xX (φ : DX) : DX := fun ρ A Ax => φ ρ A fun x => fltF x.fs = true ∧ Ax x
section
variable {K : PySem.W.Frag} {H G J : Hp} {ow : Addr → Prop}
theorem Own.gr (T : Th K) (g : T.Gr H G) {fp : List Addr} {v : V} {d : D} (h : Own K H tt fp v d) : Own K G tt fp v d := h.mv (Mv.gr T g) fun a _ o z n => T.keep g z n
theorem OwnL.gr (T : Th K) (g : T.Gr H G) {fp : List Addr} {v : List V} {d : List D} (h : OwnL K H tt fp v d) : OwnL K G tt fp v d := h.mv (Mv.gr T g) fun a _ o z n => T.keep g z n
theorem OwnL.append : ∀ {f g : List Addr} {vs ws : List V} {ds es : List D}, OwnL K H ow f vs ds → OwnL K H ow g ws es → OwnL K H ow (f ++ g) (vs ++ ws) (ds ++ es)
  | _, _, _, _, _, _, .nil, h => h
  | _, _, _, _, _, _, .cons a b, h => by
    rw [List.append_assoc]
    exact .cons a (OwnL.append b h)
theorem OwnL.length : ∀ {f : List Addr} {vs : List V} {ds : List D}, OwnL K H ow f vs ds → vs.length = ds.length
  | _, _, _, .nil => rfl
  | _, _, _, .cons _ b => by rw [List.length_cons, List.length_cons, OwnL.length b]
theorem ownL_leaf : ∀ {vs : List V} {ds : List D}, RepL K H ow vs ds → OwnL K H ow [] vs ds
  | _, _, .nil => .nil
  | _, _, .cons a b => OwnL.cons (f := []) (.leaf a) (ownL_leaf b)
theorem ownK_leaf : ∀ {vs : List (Key × V)} {ds : List (Key × D)}, RepK K H ow vs ds → OwnK K H ow [] vs ds
  | _, _, .nil => .nil
  | _, _, .cons a b => OwnK.cons (f := []) (.leaf a) (ownK_leaf b)
theorem ownF_leaf : ∀ {vs : List (Str × V)} {ds : List (Str × D)}, RepF K H ow vs ds → OwnF K H ow [] vs ds
  | _, _, .nil => .nil
  | _, _, .cons a b => OwnF.cons (f := []) (.leaf a) (ownF_leaf b)
theorem ownr_own {p : Addr} {d : D} (h : OwnR K G ow p d) (f : d.fltC = true) : Own K G tt [p] (.ref p) d := by
  cases h with
  | lst a b => exact .lst a (ownL_leaf (b.flt f))
  | dic a b => exact .dic a (ownK_leaf (b.flt f))
  | ins a b => exact .ins a (ownF_leaf (b.flt f))
  | dit a b c => cases f
theorem nodup_app {f g : List Addr} (h1 : f.Nodup) (h2 : g.Nodup) (h : ∀ a ∈ f, a ∉ g) : (f ++ g).Nodup := List.nodup_append.mpr ⟨h1, h2, fun a ha b hb e => h a ha (e ▸ hb)⟩
end
section
variable {X : Cx} {T : Th X.K} {W : WX} {O : List Nat} {e a b : Expr} {es : List Expr} {φ φa φb : DX} {φs : DA} {pos p : Pos}
theorem es_f (h : PE X e (efOf T W O φ)) : PE X e (esOf T W O (xFltC φ)) := peI h fun σ H Q ⟨ρ, ow0, fr, A, Ax, ok, er, q, k, x⟩ => ⟨ρ, ow0, fr, _, Ax, ok, er, q, fun d v G ⟨f, a⟩ o g ⟨p, e1, e2, e3⟩ => by
  subst e1
  exact k d _ G a o g ⟨[p], ownr_own e3 f, List.nodup_cons.mpr ⟨List.not_mem_nil, List.nodup_nil⟩, fun a ha => by rw [List.mem_singleton.mp ha]; exact e2⟩, x⟩
theorem es_e (h : PE X e (eOf T W O φ)) : PE X e (esOf T W O (xFlt φ)) := peI h fun σ H Q ⟨ρ, ow0, fr, A, Ax, ok, er, q, k, x⟩ => ⟨ρ, ow0, fr, _, Ax, ok, er, q, fun d v G ⟨f, a⟩ o g r => k d _ G a o g ⟨[], .leaf (r.flt f), List.nodup_nil, fun a ha => absurd ha List.not_mem_nil⟩, x⟩
variable {is vs : List Nat} {tg iter elt : Expr} {ifs : List Expr} {φi : DI} {g : DG} {t : DT} {ee : DX} {scope : Scope} {own : List (Str × Nat)}
variable {k n : Nat} {ps : List Str} {F : DF} {x c m : Str} {o : Expr} {apos : Pos}
end
section
variable {X : Cx} {T : Th X.K} {W : WX} {O On Ol : List Nat} {e : Expr} {φe : DX} {pos : Pos}
end
end Dz
namespace Dz
open PySem PySem.Spec PyProof.Rows L2 Evl Bf
theorem nd_count {l : List Addr} : l.Nodup ↔ ∀ a, l.count a ≤ 1 := by
  induction l with
  | nil => exact ⟨fun _ a => by simp, fun _ => List.nodup_nil⟩
  | cons b l ih =>
    rw [List.nodup_cons, ih]
    constructor
    · rintro ⟨h1, h2⟩ a
      rw [List.count_cons]
      have := h2 a
      by_cases c : b = a
      · subst c
        rw [List.count_eq_zero.mpr h1]; simp
      · simp [c]; exact this
    · intro h
      refine ⟨fun z => ?_, fun a => ?_⟩
      · have h1 := h b
        rw [List.count_cons_self] at h1
        have := List.count_pos_iff.mpr z
        omega
      · have h1 := h a
        rw [List.count_cons] at h1
        split at h1 <;> omega
theorem cnt_le {f g : List Addr} (h : f.Nodup) (n : ∀ a, g.count a ≤ f.count a) : g.Nodup := nd_count.mpr fun a => Nat.le_trans (n a) (nd_count.mp h a)
theorem cnt_mem {f g : List Addr} (n : ∀ a, g.count a ≤ f.count a) : ∀ a ∈ g, a ∈ f := fun a ha => List.count_pos_iff.mp (Nat.lt_of_lt_of_le (List.count_pos_iff.mpr ha) (n a))
theorem Mv.trans {K : PySem.W.Frag} {H G J : Hp} {ow ow' ow2 : Addr → Prop} (m : Mv K H ow G ow') (n : Mv K G ow' J ow2) : Mv K H ow J ow2 where
  l := fun a vs h o => n.l a vs (m.l a vs h o).1 (m.l a vs h o).2
  r := fun a vs h => n.r a vs (m.r a vs h)
  t := fun a vs h => n.t a vs (m.t a vs h)
  d := fun a vs h o => n.d a vs (m.d a vs h o).1 (m.d a vs h o).2
  i := fun a C dx fs h o => n.i a C dx fs (m.i a C dx fs h o).1 (m.i a C dx fs h o).2
  x := fun a vs h => n.x a vs (m.x a vs h)
  w := fun a k h o => n.w a k (m.w a k h o).1 (m.w a k h o).2
  c := fun a kvs h o z => have q := m.c a kvs h o z; n.c a kvs q.1 q.2.1 q.2.2
theorem Keeps.trans {H G J : Hp} {f : List Addr} (h1 : Keeps H G f) (h2 : Keeps G J f) : Keeps H J f := fun a ha o z n => h2 a ha o (h1 a ha o z n) n
theorem keeps_gr {K : PySem.W.Frag} (T : Th K) {H G : Hp} (g : T.Gr H G) {f : List Addr} : Keeps H G f := fun a _ o z n => T.keep g z n
theorem keeps_put {H : Hp} {p : Addr} {o : HO} {f : List Addr} (n : p ∉ f) : Keeps H (upd H p o) f := fun a ha o z _ => by rw [upd_ne (fun e : a = p => n (e ▸ ha))]; exact z
def Foc (K : PySem.W.Frag) (H : Hp) (fp : List Addr) (v : V) (fp1 : List Addr) (v1 : V) (d1 : D) (ctx : D → D) : Prop := ∃ fa fb, fp = fa ++ fp1 ++ fb ∧ Own K H tt fp1 v1 d1 ∧ ∀ G f d, Mv K H tt G tt → Keeps H G fa → Keeps H G fb → Own K G tt f v1 d → Own K G tt (fa ++ f ++ fb) v (ctx d)
section
variable {K : PySem.W.Frag} {H G : Hp} {fp fp1 : List Addr} {v v1 : V} {d d1 : D} {ctx : D → D}
theorem Foc.gr (T : Th K) (g : T.Gr H G) (h : Foc K H fp v fp1 v1 d1 ctx) : Foc K G fp v fp1 v1 d1 ctx := by
  obtain ⟨fa, fb, e, o, k⟩ := h
  exact ⟨fa, fb, e, o.gr T g, fun J f d m ka kb o' => k J f d ((Mv.gr T g).trans m) ((keeps_gr T g).trans ka) ((keeps_gr T g).trans kb) o'⟩
theorem OwnL.split : ∀ {k : Nat} {g : List Addr} {vs : List V} {ds : List D} {dk : D}, OwnL K H tt g vs ds → ds[k]? = some dk → ∃ g0 gk g1 vk, g = g0 ++ gk ++ g1 ∧ vs[k]? = some vk ∧ Own K H tt gk vk dk ∧
    ∀ G f d, Mv K H tt G tt → Keeps H G g0 → Keeps H G g1 → Own K G tt f vk d → OwnL K G tt (g0 ++ f ++ g1) vs (ds.set k d)
  | 0, _, _, _, _, .cons (f := f) (g := g) a b, e => by
    cases e
    exact ⟨[], f, g, _, rfl, rfl, a, fun G f' d m _ k1 o => .cons o (b.mv m k1)⟩
  | k + 1, _, _, _, _, .cons (f := f) (g := g) a b, e => by
    obtain ⟨g0, gk, g1, vk, e1, e2, e3, e4⟩ := OwnL.split b (show _ = _ from e)
    refine ⟨f ++ g0, gk, g1, vk, by rw [e1]; simp, e2, e3, fun G f' d m k0 k1 o => ?_⟩
    have := OwnL.cons (a.mv m k0.l) (e4 G f' d m k0.r k1 o)
    rw [List.set_cons_succ]
    simpa using this
  | _, _, _, _, _, .nil, e => by cases e
theorem OwnF.split {f : Str} : ∀ {g : List Addr} {vs : List (Str × V)} {ds : List (Str × D)} {dk : D}, OwnF K H tt g vs ds → ds.lookup f = some dk → ∃ g0 gk g1 vk, g = g0 ++ gk ++ g1 ∧ vs.lookup f = some vk ∧ Own K H tt gk vk dk ∧
    ∀ G f' d, Mv K H tt G tt → Keeps H G g0 → Keeps H G g1 → Own K G tt f' vk d → OwnF K G tt (g0 ++ f' ++ g1) vs (putFD f d ds)
  | _, _, _, _, .cons (f := f1) (g := g) (k := k) (v := v) (vs := vs) (d := d) (ds := ds) a b, e => by
    rw [List.lookup_cons] at e ⊢
    by_cases c : k = f
    · subst c
      rw [beq_self_eq_true] at e ⊢
      cases e
      refine ⟨[], f1, g, _, rfl, rfl, a, fun G f' d m _ k1 o => ?_⟩
      unfold putFD
      rw [if_pos rfl]
      exact .cons o (b.mv m k1)
    · have c' : (f == k) = false := by simpa using fun z => c z.symm
      rw [c'] at e ⊢
      obtain ⟨g0, gk, g1, vk, e1, e2, e3, e4⟩ := OwnF.split b e
      refine ⟨f1 ++ g0, gk, g1, vk, by rw [e1]; simp, e2, e3, fun G f' d m k0 k1 o => ?_⟩
      unfold putFD
      rw [if_neg c]
      have := OwnF.cons (k := k) (a.mv m k0.l) (e4 G f' d m k0.r k1 o)
      simpa using this
  | _, _, _, _, .nil, e => by cases e
theorem OwnK.split {f : Key} : ∀ {g : List Addr} {vs : List (Key × V)} {ds : List (Key × D)} {dk : D}, OwnK K H tt g vs ds → dVal ds f = some dk → ∃ g0 gk g1 vk, g = g0 ++ gk ++ g1 ∧ valV vs f = some vk ∧ Own K H tt gk vk dk
  | _, _, _, _, .cons (f := f1) (g := g) (k := k) (v := v) (vs := vs) (d := d) (ds := ds) a b, e => by
    unfold dVal at e
    unfold valV
    rw [List.find?_cons] at e ⊢
    by_cases c : k = f
    · rw [decide_eq_true c] at e ⊢
      cases e
      exact ⟨[], f1, g, _, rfl, rfl, a⟩
    · rw [decide_eq_false c] at e ⊢
      obtain ⟨g0, gk, g1, vk, e1, e2, e3⟩ := OwnK.split b e
      exact ⟨f1 ++ g0, gk, g1, vk, by rw [e1]; simp, e2, e3⟩
  | _, _, _, _, .nil, e => by cases e
theorem own_dic {g : List Addr} {v : V} {ds : List (Key × D)} (h : Own K H tt g v (.dic ds)) : ∃ p vs g', v = .ref p ∧ g = p :: g' ∧ H p = some (.dK vs) ∧ OwnK K H tt g' vs ds := by
  cases h with
  | leaf r => cases r with
    | dic _ n _ => exact absurd trivial n
  | dic a b => exact ⟨_, _, _, rfl, rfl, a, b⟩
theorem own_ins {g : List Addr} {v : V} {c : Str} {ds : List (Str × D)} (h : Own K H tt g v (.ins c ds)) : ∃ p dx vs g', v = .ref p ∧ g = p :: g' ∧ H p = some (.ins (He.ga K c) dx vs) ∧ OwnF K H tt g' vs ds := by
  cases h with
  | leaf r => cases r with
    | ins _ n _ => exact absurd trivial n
  | ins a b => exact ⟨_, _, _, _, rfl, rfl, a, b⟩
theorem Foc.fld {c f : Str} {ds : List (Str × D)} {dk : D} (h : Foc K H fp v fp1 v1 (.ins c ds) ctx) (e : ds.lookup f = some dk) : ∃ p dx vs vk gk, v1 = .ref p ∧ H p = some (.ins (He.ga K c) dx vs) ∧ vs.lookup f = some vk ∧ Foc K H fp v gk vk dk (fun x => ctx (.ins c (putFD f x ds))) := by
  obtain ⟨fa, fb, e1, o, kk⟩ := h
  obtain ⟨p, dx, vs, g, rfl, rfl, hp, ol⟩ := own_ins o
  obtain ⟨g0, gk, g1, vk, rfl, e3, e4, e5⟩ := ol.split e
  refine ⟨p, dx, vs, vk, gk, rfl, hp, e3, fa ++ (p :: g0), g1 ++ fb, by rw [e1]; simp, e4, fun G f' d m ka kb o' => ?_⟩
  have := kk G _ _ m ka.l kb.r (.ins (ka.r.hd hp fun _ z => by cases z) (e5 G f' d m ka.r.tl kb.l o'))
  simpa using this
end
section
variable {X : Cx} {T : Th X.K} {W : WX} {fz : Nat} {O Ol : List Nat} {e : Expr} {φe : DX} {pos : Pos}
variable {is : List Nat} {tg iter elt : Expr} {ifs : List Expr} {φ : DI} {g : DG} {t : DT} {ee : DX} {spos : Pos} {scope : Scope} {own : List (Str × Nat)}
end
end Dz
namespace Dz
open PySem PySem.Spec PyProof.Rows L2 Evl Bf
structure SrI {K : PySem.W.Frag} (T : Th K) (H0 : Hp) (owi ow0 : Addr → Prop) (fr : Fr) (O : List Nat) (σ : L2.St) (H : Hp) (ρ : Ro) (i : Nat) (rg : Addr → Nat) (fp : List Addr) (v : V) (d : D) : Prop where
  s : Sr T H0 owi ow0 fr O σ H ρ
  dep : ∀ j, j < dp → j + dp ∈ O → DpAt K H ow0 fr.iw rg j σ[j]? ρ[j]?
  mem : i + dp ∈ O
  nom : i ∉ O
  noq : i + dq ∉ O
  lt : i < dp
  rho : ρ[i]? = some (some d)
  sig : σ[i]? = some (some v)
  own : Own K H tt fp v d
  nd : fp.Nodup
  prp : ∀ a ∈ fp, ow0 a ∧ rg a = i ∧ ¬ fr.iw a
section
variable {K : PySem.W.Frag} {T : Th K} {H0 H G : Hp} {owi ow0 : Addr → Prop} {fr : Fr} {O : List Nat} {σ : L2.St} {ρ : Ro} {i : Nat} {rg : Addr → Nat} {fp : List Addr} {v : V} {d : D}
theorem Sr.open (s : Sr T H0 owi ow0 fr O σ H ρ) (hd : ρ[i]? = some (some d)) (h1 : O.contains (i + dp) = true) (h2 : O.contains i = false) (h3 : O.contains (i + dq) = false) : ∃ rg fp v, SrI T H0 owi ow0 fr O σ H ρ i rg fp v d := by
  obtain ⟨rg, hD⟩ := s.er.dep
  have m : i + dp ∈ O := by simpa using h1
  obtain ⟨v, d', fp, e1, e2, e3, e4, e5⟩ := hD i (s.er.lt hd) m
  rw [hd] at e1
  cases e1
  exact ⟨rg, fp, v, s, hD, m, by simpa using h2, by simpa using h3, s.er.lt hd, hd, e2, e3, e4, e5⟩
theorem SrI.go (s : SrI T H0 owi ow0 fr O σ H ρ i rg fp v d) (ok : T.Ok G) (g : T.Gr H G) : SrI T H0 owi ow0 fr O σ G ρ i rg fp v d :=
  ⟨s.s.go ok g, fun j l hj => (s.dep j l hj).mv (Mv.gr T g) (fun a _ _ o z n => T.keep g z n) fun a z _ n => ⟨z, n⟩, s.mem, s.nom, s.noq, s.lt, s.rho, s.sig, s.own.gr T g, s.nd, s.prp⟩
theorem SrI.new0 (s : SrI T H0 owi ow0 fr O σ H ρ i rg fp v d) : ∀ a ∈ fp, H0 a = none := fun a ha => by
  have := (s.prp a ha).2.2
  rw [s.s.iwH] at this
  exact Classical.not_not.mp this
theorem SrI.put (s : SrI T H0 owi ow0 fr O σ H ρ i rg fp v d) (ok : T.Ok G) (g : T.Gr H G) {fn : List Addr} (nw : ∀ a ∈ fn, H a = none) (al : ∀ a ∈ fn, G a ≠ none) {p : Addr} {o o' : HO} (hp : p ∈ fp) (ho : G p = some o)
    (n1 : ∀ xs, o ≠ .tup xs) (n2 : ∀ kvs, o ≠ .dT kvs) (n3 : ∀ ob u, o ≠ .frz ob u) (n7 : ∀ vs, o ≠ .xd vs) (ok' : T.Ok (upd G p o')) (gr' : T.Gr H0 (upd G p o')) {f' : List Addr} {d' : D} (own : Own K (upd G p o') tt f' v d') (cn : ∀ a, f'.count a ≤ (fp ++ fn).count a) (nfn : fn.Nodup) (n8 : ∀ C dx fs, o' = .ins C dx fs → C ≠ He.ga K "Family" := by intro _ _ _ z; cases z) :
    Sr T H0 owi (fun a => ow0 a ∨ a ∈ fn) fr O σ (upd G p o') (ρ.set i (some d')) := by
  have nfn' : ∀ {a : Addr}, H a ≠ none → a ∉ fn := fun z e => z (nw _ e)
  have owp : ow0 p := (s.prp p hp).1
  have hl : i < ρ.length := (List.getElem?_eq_some_iff.mp s.rho).1
  have eo : ∀ a, owOf (fun a => ow0 a ∨ a ∈ fn) O σ a → owOf ow0 O σ a ∨ a ∈ fn := fun a z => by
    rcases z with (z | z) | z
    · exact .inl (.inl z)
    · exact .inr z
    · exact .inl (.inr z)
  have mp : ∀ {ow : Addr → Prop}, ow p → Mv K G ow (upd G p o') ow := fun z => Mv.put ho n1 n2 n3 n7 z (fun a z => z) n8
  have m1 : Mv K H (owOf ow0 O σ) (upd G p o') (owOf (fun a => ow0 a ∨ a ∈ fn) O σ) := ((Mv.more fun a z => (eo a z).imp_right (nw a)).trans (Mv.gr T g)).trans (mp (.inl (.inl owp)))
  have ndf : (fp ++ fn).Nodup := nodup_app s.nd nfn fun a ha hf => s.own.trk a ha (nw a hf)
  refine ⟨ok', gr', ⟨fun j d2 hd hj hj2 => ?_, fun j hj l => ?_, fun q hq => (s.s.er.frm q hq).mv m1, ⟨fun a => if a ∈ fn then i else rg a, fun j l hj => ?_⟩, fun j hj => ?_, fun a ha => ?_, by rw [List.length_set]; exact s.s.er.len, s.s.er.slt, s.s.er.sml⟩, fun a z => ⟨.inl (s.s.sub a z).1, (s.s.sub a z).2⟩, s.s.new, s.s.iwH⟩
  · have c : i ≠ j := fun z => hj2 (z ▸ s.mem)
    rw [List.getElem?_set_ne c] at hd
    obtain ⟨w, e1, e2⟩ := s.s.er.val j d2 hd hj hj2
    exact ⟨w, e1, e2.mv m1⟩
  · have c : i ≠ j := fun z => s.nom (z ▸ hj)
    obtain ⟨b, d2, e1, e2, e3, e4, e5⟩ := s.s.er.own j hj l
    rw [List.getElem?_set_ne c]
    refine ⟨b, d2, e1, e2, fun z => z.elim e3 (nfn' e4.trk), e4.mv m1 (fun o z n => ?_) (hl2 := fun kvs z n => keepD_put (fun q : b = p => e3 (q ▸ owp)) n8 (T.keepD g z n).1 (T.keepD g z n).2), e5⟩
    rw [upd_ne (fun q : b = p => e3 (q ▸ owp))]
    exact T.keep g z n
  · by_cases c : i = j
    · subst c
      refine ⟨v, d', f', List.getElem?_set_self hl, s.sig, own, cnt_le ndf cn, fun a ha => ?_⟩
      rcases List.mem_append.mp (cnt_mem cn a ha) with z | z
      · obtain ⟨z1, z2, z3⟩ := s.prp a z
        refine ⟨.inl z1, ?_, z3⟩
        show (if a ∈ fn then i else rg a) = i
        rw [z2]
        exact ite_self i
      · refine ⟨.inr z, if_pos z, ?_⟩
        rw [s.s.iwH]
        exact fun q => q (T.back s.s.gr (nw a z))
    · obtain ⟨v', d2, f2, g1, g2, g3, g4, g5⟩ := s.dep j l hj
      rw [List.getElem?_set_ne c]
      refine ⟨v', d2, f2, g1, g2, (g3.gr T g).mv (mp trivial) (keeps_put fun z => ?_), g4, fun a ha => ⟨.inl (g5 a ha).1, ?_, (g5 a ha).2.2⟩⟩
      · exact c (by rw [← (g5 p z).2.1, (s.prp p hp).2.1])
      · show (if a ∈ fn then i else rg a) = j
        rw [if_neg (nfn' (g3.trk a ha))]
        exact (g5 a ha).2.1
  · have c : i ≠ j := fun z => s.noq (z ▸ hj)
    obtain ⟨w, d2, g1, g2, g3⟩ := s.s.er.nwq j hj
    rw [List.getElem?_set_ne c]
    refine ⟨w, d2, g1, g2, ((g3.mv (Mv.more fun a z => ?_)).gr T g).mv (mp (ow := fun a => owOf (fun a => ow0 a ∨ a ∈ fn) O σ a ∨ fr.iw a) (.inl (.inl (.inl owp))))⟩
    rcases z with z | z
    · rcases eo a z with z | z
      · exact .inl (.inl z)
      · exact .inr (nw a z)
    · exact .inl (.inr z)
  · by_cases c : a = p
    · rw [c, upd_same]; exact fun z => by cases z
    · rw [upd_ne c]
      exact ha.elim (fun z => T.forth g (s.s.er.trk a z)) (al a)
end
abbrev DP := Ro → (D → (D → D) → Prop) → XQ → Prop
def pVar (i : Nat) : DP := fun ρ A _ => ∃ d, ρ[i]? = some (some d) ∧ A d id
def seqOf : D → Option (List D)
  | .lst ds => some ds
  | .tup ds => some ds
  | _ => none
def putIx (d : D) (k : Nat) (x : D) : D := match d with
  | .lst ds => .lst (ds.set k x)
  | .tup ds => .tup (ds.set k x)
  | d => d
def pIx (φ : DP) (ψ : DX) : DP := fun ρ A Ax => φ ρ (fun d1 ctx => ψ ρ (fun y => ∃ j ds k dk, y = .int j ∧ seqOf d1 = some ds ∧ ixN ds.length j = some k ∧ ds[k]? = some dk ∧ A dk fun x => ctx (putIx d1 k x)) Ax) Ax
def pFld (c f : Str) (φ : DP) : DP := fun ρ A Ax => φ ρ (fun d1 ctx => ∃ fs z, d1 = .ins c fs ∧ fs.lookup f = some z ∧ A z fun x => ctx (.ins c (putFD f x fs))) Ax
section
variable {X : Cx} {T : Th X.K} {W : WX} {O : List Nat} {e a b : Expr} {φ : DP} {ψ : DX} {pos : Pos} {i : Nat} {x c f : Str}
end
def sAppP (i : Nat) (φ : DP) (ψ : DX) : DS := fun E ρ => (∃ d, ρ[i]? = some (some d)) ∧ φ ρ (fun d1 ctx => ∃ xs, d1 = .lst xs ∧ xs.length < big ∧ ψ ρ (fun y => E.nx (ρ.set i (some (ctx (.lst (xs ++ [y])))))) fun x => E.ex x ρ) fun x => E.ex x ρ
def sClrP (i : Nat) (φ : DP) : DS := fun E ρ => (∃ d, ρ[i]? = some (some d)) ∧ φ ρ (fun d1 ctx => ∃ xs, d1 = .lst xs ∧ E.nx (ρ.set i (some (ctx (.lst []))))) fun x => E.ex x ρ
def sFldP (i : Nat) (c f : Str) (ψ : DX) : DS := fun E ρ => ∃ fs, ρ[i]? = some (some (.ins c fs)) ∧ fs.length < 1000 ∧ ψ ρ (fun y => E.nx (ρ.set i (some (.ins c (putFD f y fs))))) fun x => E.ex x ρ
def sPutP (i : Nat) (φ : DP) (φk φv : DX) : DS := fun E ρ => (∃ d, ρ[i]? = some (some d)) ∧ φv ρ (fun y => φ ρ (fun d1 ctx => ∃ kvs, d1 = .dic kvs ∧ kvs.length < big ∧ φk ρ (fun z => ∃ k, dKey z = some k ∧ y.flt = true ∧ E.nx (ρ.set i (some (ctx (.dic (putD kvs k y)))))) fun x => E.ex x ρ) fun x => E.ex x ρ) fun x => E.ex x ρ
section
variable {K : PySem.W.Frag} {H : Hp} {ow : Addr → Prop}
theorem OwnF.put {g fn : List Addr} {f : Str} {w : V} {y : D} (o : Own K H ow fn w y) : ∀ {g : List Addr} {vs : List (Str × V)} {ds : List (Str × D)}, OwnF K H ow g vs ds → ∃ g', OwnF K H ow g' (putF f w vs) (putFD f y ds) ∧ ∀ a, g'.count a ≤ (g ++ fn).count a
  | _, _, _, .nil => ⟨fn ++ [], .cons o .nil, fun a => by simp⟩
  | _, _, _, .cons (f := f1) (g := g1) (k := k) (v := v) (vs := vs) (d := d) (ds := ds) r t => by
    unfold putF putFD
    by_cases c : k = f
    · subst c
      refine ⟨fn ++ g1, ?_, fun a => by simp only [List.count_append]; omega⟩
      first
        | (rw [if_pos rfl, if_pos rfl]; exact .cons o t)
        | (simp; exact .cons o t)
    · obtain ⟨g', h1, h2⟩ := OwnF.put (g := g) (f := f) o t
      refine ⟨f1 ++ g', ?_, fun a => by have := h2 a; simp only [List.count_append] at this ⊢; omega⟩
      rw [if_neg c]
      first
        | (rw [if_neg c]; exact .cons r h1)
        | (rw [if_neg (by simpa using c)]; exact .cons r h1)
theorem OwnK.any (k : Key) : ∀ {g : List Addr} {vs : List (Key × V)} {ds : List (Key × D)}, OwnK K H ow g vs ds → (vs.any fun kv => decide (kv.1 = k)) = ds.any fun kv => decide (kv.1 = k)
  | _, _, _, .nil => rfl
  | _, _, _, .cons _ t => by rw [List.any_cons, List.any_cons, OwnK.any k t]
theorem OwnK.append : ∀ {g g' : List Addr} {vs ws : List (Key × V)} {ds es : List (Key × D)}, OwnK K H ow g vs ds → OwnK K H ow g' ws es → OwnK K H ow (g ++ g') (vs ++ ws) (ds ++ es)
  | _, _, _, _, _, _, .nil, h => h
  | _, _, _, _, _, _, .cons r t, h => by
    rw [List.append_assoc]
    exact .cons r (OwnK.append t h)
theorem OwnK.length : ∀ {g : List Addr} {vs : List (Key × V)} {ds : List (Key × D)}, OwnK K H ow g vs ds → vs.length = ds.length
  | _, _, _, .nil => rfl
  | _, _, _, .cons _ t => by rw [List.length_cons, List.length_cons, OwnK.length t]
theorem OwnF.length : ∀ {g : List Addr} {vs : List (Str × V)} {ds : List (Str × D)}, OwnF K H ow g vs ds → vs.length = ds.length
  | _, _, _, .nil => rfl
  | _, _, _, .cons _ t => by rw [List.length_cons, List.length_cons, OwnF.length t]
theorem OwnK.put {k : Key} {w : V} {y : D} (o : Own K H ow [] w y) {g : List Addr} {vs : List (Key × V)} {ds : List (Key × D)} (r : OwnK K H ow g vs ds) : ∃ g', OwnK K H ow g' (putK vs k w) (putD ds k y) ∧ ∀ a, g'.count a ≤ g.count a := by
  have mp : ∀ {g : List Addr} {vs : List (Key × V)} {ds : List (Key × D)}, OwnK K H ow g vs ds → ∃ g', OwnK K H ow g' (vs.map fun kv => if kv.1 = k then (kv.1, w) else kv) (ds.map fun kv => if kv.1 = k then (kv.1, y) else kv) ∧ ∀ a, g'.count a ≤ g.count a := by
    intro g vs ds r
    induction vs generalizing g ds with
    | nil => cases r; exact ⟨[], .nil, fun a => Nat.le_refl _⟩
    | cons p t ih =>
      cases r with
      | @cons f1 g1 k' v' _ d' ds' r1 r2 =>
        obtain ⟨g', h1, h2⟩ := ih r2
        rw [List.map_cons, List.map_cons]
        by_cases c : k' = k
        · refine ⟨[] ++ g', ?_, fun a => by have := h2 a; simp only [List.count_append, List.count_nil]; omega⟩
          show OwnK K H ow _ ((if k' = k then (k', w) else (k', v')) :: _) ((if k' = k then (k', y) else (k', d')) :: _)
          rw [if_pos c, if_pos c]
          exact .cons o h1
        · refine ⟨f1 ++ g', ?_, fun a => by have := h2 a; simp only [List.count_append]; omega⟩
          show OwnK K H ow _ ((if k' = k then (k', w) else (k', v')) :: _) ((if k' = k then (k', y) else (k', d')) :: _)
          rw [if_neg c, if_neg c]
          exact .cons r1 h1
  unfold putK putD
  rw [r.any k]
  by_cases c : (ds.any fun kv => decide (kv.1 = k)) = true
  · rw [if_pos c, if_pos c]; exact mp r
  · rw [if_neg c, if_neg c]
    refine ⟨g ++ ([] ++ []), r.append (.cons o .nil), fun a => by simp⟩
end
section
variable {X : Cx} {T : Th X.K} {W : WX} {fz : Nat} {O Ol : List Nat} {e e2 base : Expr} {φ : DP} {ψ φk φv : DX} {pos pos2 pos3 pos4 : Pos} {i : Nat} {x c f : Str}
theorem s_fldP (hN : X.N[i]? = some x) (hv : Vis X.env.scope x) (h1 : O.contains (i + dp) = true) (h2 : O.contains i = false) (h3 : O.contains (i + dq) = false) (hc : Cls X.K (He.ga X.K c)) (hn : NoAttr X.K (He.ga X.K c) f) (nf : He.ga X.K c ≠ He.ga X.K "Family") (he : PE X e (esOf T W O ψ)) (hdb : (x == ("__debug__" : Str)) = false := by decide) (hcd : (x == ("__classdict__" : Str)) = false := by decide)
    (hs : swapsWith e (some (.Attribute (.Name x pos) f pos2)) pos3.line X.env = pure false := by rfl) : PS X (.Assign [.Attribute (.Name x pos) f pos2] e pos3) (sOf T W fz O O Ol (sFldP i c f ψ)) := by
  refine psI (ps_fld (pe_var hN hv hdb hcd) he hs) fun M σ H ⟨ρ, H0, owi, ow0, fr, E, s, _, k, fs, hd, hl, q⟩ => ?_
  obtain ⟨rg, fp, v, sI⟩ := s.open hd h1 h2 h3
  refine ⟨ρ, ow0, fr, _, _, s.ok, s.er, q, fun y w G qy ok g ⟨fn, oy, ndn, nwn⟩ => ?_, k.x s⟩
  have sG := sI.go ok g
  obtain ⟨p, dx, us, g', rfl, rfl, hp, ol⟩ := own_ins sG.own
  have hpf : p ∈ p :: g' := List.mem_cons_self
  have cnp := nd_count.mp sG.nd p
  simp only [List.count_cons_self] at cnp
  have np : ∀ {l : List Addr}, l.count p = 0 → p ∉ l := fun h z => absurd (List.count_pos_iff.mpr z) (by omega)
  have npn : p ∉ fn := fun z => (sI.own.trk p hpf) (nwn p z)
  obtain ⟨p1, p2⟩ := T.fput (fs' := putF f w us) sG.s.gr (sG.new0 p hpf) ok hp nf
  have n8 : ∀ C dx' fs, HO.ins (He.ga X.K c) dx (putF f w us) = .ins C dx' fs → C ≠ He.ga X.K "Family" := fun C dx' fs e => by cases e; exact nf
  have mt : Mv X.K G tt (upd G p (.ins (He.ga X.K c) dx (putF f w us))) tt := Mv.put hp (fun _ z => by cases z) (fun _ z => by cases z) (fun _ _ z => by cases z) (fun _ z => by cases z) trivial (fun a z => z) n8
  obtain ⟨g2, o2, cn⟩ := OwnF.put (g := []) (f := f) (oy.mv mt (keeps_put npn)) (ol.mv mt (keeps_put (np (by omega))))
  refine ⟨.ref p, sI.sig, p, _, _, _, rfl, hp, hc, hn, by rw [ol.length]; exact hl, k.nx _ _ _ _ (sI.put ok g nwn (fun a ha => oy.trk a ha) hpf hp (fun _ z => by cases z) (fun _ z => by cases z) (fun _ _ z => by cases z) (fun _ z => by cases z) p1 p2 (.ins upd_same o2) (fun a => ?_) ndn n8) qy⟩
  have := cn a
  simp only [List.count_append, List.count_cons, List.cons_append] at this ⊢
  omega
end
def spIniN {K : PySem.W.Frag} (T : Th K) (c : Str) (n : Nat) (F : DF) : Sp := fun vs H Q E => vs.length = n + 1 ∧ ∃ y dy ds ws ow A Ax H1, vs = .ref y :: ws ∧ H = upd (upd H1 dy (.own y)) y (.ins (He.ga K c) dy []) ∧ H1 y = none ∧ H1 dy = none ∧ dy ≠ y ∧
  T.Ok H1 ∧ (∀ a, ow a → H1 a ≠ none) ∧ RepL K H1 ow ws ds ∧ F ds A Ax ∧ (∀ fs G, A (.ins c fs) → T.Ok G → T.Gr H1 G → Rep K G (fun a => ow a ∨ H1 a ≠ none) (.ref y) (.ins c fs) → Q .non G) ∧
  (∀ x d G, Ax x → T.Ok G → T.Gr H1 G → XRep K G ow d x → E (.ref (He.ga K x.cls)) d G)
structure MkN (P : Program) (w : World) {K : PySem.W.Frag} (T : Th K) (mg : Str → Option Value) (base : Heap) (k : Nat) (c : Str) (n : Nat) (F : DF) : Prop where
  g : mg c = some (.ref (He.ga K c))
  ex : ∃ (fi : Addr) (fd : FuncData) (ps : List Str), Mk K (He.ga K c) fi ∧ FnOk P w K mg base (L2.CX P w) k fi fd ps (spIniN T c n F) ∧ Binds K fd ps []
theorem MkN.to {P : Program} {w : World} {K : PySem.W.Frag} {T : Th K} {mg : Str → Option Value} {base : Heap} {k n : Nat} {c : Str} {F F' : DF} (M : MkN P w T mg base k c n F) (h : ∀ ds A Ax, F' ds A Ax → F ds A Ax) : MkN P w T mg base k c n F' := by
  obtain ⟨g, fi, fd, ps, h1, h2, h3⟩ := M
  refine ⟨g, fi, fd, ps, h1, h2.imp fun vs H Q E ⟨l, y, dy, ds, ws, ow, A, Ax, H1, a1, a2, a3, a4, a5, a6, a7, a8, a9, a10⟩ => ⟨l, y, dy, ds, ws, ow, A, Ax, H1, a1, a2, a3, a4, a5, a6, a7, a8, h _ _ _ a9, a10⟩, h3⟩
section
variable {X : Cx} {T : Th X.K} {W : WX} {O : List Nat} {e : Expr} {es : List Expr} {φs : DA} {pos p : Pos} {k n : Nat} {c : Str} {F : DF}
theorem mkn_aux {σ : L2.St} {H : Hp} {Q : VK} (h : eOf T W O (xX (xFn F φs)) σ H Q) (hF : ∀ ds A Ax, F ds A Ax → F ds (fun d => ∃ fs, d = .ins c fs ∧ A d) Ax) : tMkS (He.ga X.K c) (spIniN T c n F) (WE W) (arOf T W O n φs) σ H Q := by
  obtain ⟨ρ, ow0, fr, A, Ax, ok, er, q, k, x⟩ := h
  refine ⟨ρ, ow0, fr, _, _, ok, er, q, fun ds vs G qs hn okG gG rs y dy hy hdy ne => ?_, fun y d G ⟨f, a⟩ o g r => x y d G a o g r⟩
  refine ⟨by rw [List.length_cons, hn], y, dy, ds, vs, nb, _, _, G, rfl, rfl, hy, hdy, ne, okG, nb_trk, rs, hF _ _ _ qs, fun fs J ⟨fs', e1, a⟩ o g r => ⟨rfl, ?_⟩, fun z d J ⟨f, a⟩ o g r => x z d J a o (T.trans gG g) (xrep_flt r f)⟩
  exact k _ _ J a o (T.trans gG g) (r.mv (Mv.less fun a z => .inr ((er.gr T gG).otrk a z)))
theorem be_mkN (M : MkN X.prog X.w T X.mg X.base k c n F) (hF : ∀ ds A Ax, F ds A Ax → F ds (fun d => ∃ fs, d = .ins c fs ∧ A d) Ax) (hr : Room (k + 1) X.A) (tk : Takes X W) (ha : PA X (e :: es) (arOf T W O n φs)) (hg : Gl X c := by rfl)
    (hdb : (c == ("__debug__" : Str)) = false := by decide) (he : starEach (e :: es) X.env = (false, eval e X.env) :: starEach es X.env := by rfl) (hpl : (backTo pos (starEach es X.env)).any (·.1) = false := by rfl) :
    PE X (.Call (.Name c p) (e :: es) [] pos) (eOf T W O (xX (xFn F φs))) := by
  obtain ⟨fi, fd, ps, h1, h2, h3⟩ := M.ex
  exact peI (pe_mkS h1 h2 hr M.g h3 (fun σ => passAt tk σ) ha hg hdb he hpl) fun _ _ _ h => mkn_aux h hF
end
section
variable {P : Program} {w : World} {K : PySem.W.Frag} {mg : Str → Option Value} {base : Heap} {x q : Str} {st : Stmt} {f : Addr} {fd : FuncData} {N ps : List Str} {k n : Nat} {T : Th K} {c : Str} {φ : DS}
theorem ok_iniN (F : FnS K x q st f fd) (S : FnScope N ps (defScope st)) (hN : 1 ≤ N.length) (hp : ps.length = n + 1)
    (hbody : ∀ (cdv : Value) (A : Around) (outer : List Env) (s : Shared) (H : Hp) (E : XK), Room k (A.deeper (envOfC q (defScope st) s.heap.objs.size f cdv)) →
      Takes (cxOf (L2.CX P w) P w K mg base N q (defScope st) f cdv A outer s H E) (fun cls d _ H => E cls d H) →
      PSs (cxOf (L2.CX P w) P w K mg base N q (defScope st) f cdv A outer s H E) (defBody st) (sOf (K := K) T (fun cls d _ H => E cls d H) 0 [dp] [dq] [] φ)) (hM : N.length ≤ dp := by decide) (hv : ps.length ≤ N.length := by decide) (hb : T.bor = [] := by rfl) :
    FnOk P w K mg base (L2.CX P w) (k + 1) f fd ps (spIniN T c n (iniD c N.length n φ)) := by
  refine okE F S (fun vs H Q E h => h.1.trans hp.symm) fun cdv A outer s H vs Q E hr h tk => ⟨_, hbody cdv A outer s H E hr tk, ?_⟩
  obtain ⟨hn, y, dy, ds, ws, ow, B, Bx, H1, rfl, rfl, hy, hdy, ne, ok, tr, r, ⟨hd, q⟩, k1, k2⟩ := h
  obtain ⟨m1, m2⟩ := T.make (C := He.ga K c) ok hy hdy ne
  have hws : ws.length + 1 ≤ N.length := by rw [List.length_cons] at hn; omega
  have e1 : (L2.start N (.ref y :: ws)) = some (.ref y) :: (ws.map some ++ List.replicate (N.length - 1 - ws.length) none) := by
    unfold L2.start
    rw [List.map_cons, List.cons_append, List.length_cons, Nat.sub_add_eq, Nat.sub_right_comm]
  have e2 : (N.drop 1).length = N.length - 1 := by rw [List.length_drop]
  have e3 : L2.start (N.drop 1) ws = ws.map some ++ List.replicate (N.length - 1 - ws.length) none := by
    unfold L2.start
    rw [e2]
  have r1 : RepL K H1 (fun a => ow a ∨ a = y) ws ds := r.mv (more_own hy)
  have hyo : (upd (upd H1 dy (.own y)) y (.ins (He.ga K c) dy [])) y ≠ none := by rw [upd_same]; exact fun z => by cases z
  have base := start_er (N := N.drop 1) (iw := fun a => H1 a ≠ none) (ow := fun a => ow a ∨ a = y) (r1.gr T m2) (fun a z => z.elim (fun z => T.forth m2 (tr a z)) fun z => by rw [z]; exact hyo) (by rw [List.length_drop]; omega) (by rw [List.length_drop]; omega)
  have eo2 : owOf (fun a => ow a ∨ a = y) [] (L2.start (N.drop 1) ws) = fun a => ow a ∨ a = y := by
    funext a
    exact propext ⟨fun z => z.elim id fun ⟨i, hi, _⟩ => absurd hi List.not_mem_nil, .inl⟩
  have ls : (L2.start N (.ref y :: ws)).length ≤ dp := by rw [e1, List.length_cons, List.length_append, List.length_map, List.length_replicate]; omega
  have nos : ∀ {i : Nat} {v : V}, i ∈ [dp] → (L2.start N (.ref y :: ws))[i]? = some (some v) → False := fun {i v} hi z => by
    have h1 := (List.getElem?_eq_some_iff.mp z).1
    rw [List.mem_singleton.mp hi] at h1
    omega
  have eo : owOf (fun a => ow a ∨ a = y) [dp] (L2.start N (.ref y :: ws)) = fun a => ow a ∨ a = y := by
    funext a
    exact propext ⟨fun z => z.elim id fun ⟨i, hi, z⟩ => (nos hi z).elim, .inl⟩
  refine ⟨some (.ins c []) :: startD (N.length - 1) ds, H1, ow, fun a => ow a ∨ a = y, { p0 := some (.ref y), iw := fun a => H1 a ≠ none }, { nx := fun ρ => ∃ fs, ρ[0]? = some (some (.ins c fs)) ∧ B (.ins c fs), rt := fun _ => False, bk := fun _ => False, ct := fun _ => False, ex := fun x _ => Bx x },
    ⟨m1, m2, ⟨fun i d hd hi hi2 => ?_, fun i hi l => absurd (List.mem_singleton.mp hi) (by omega), fun p hp => absurd hp List.not_mem_nil, ⟨fun _ => 0, fun i l hi => ?_⟩, fun i hi => absurd (List.mem_singleton.mp hi) (by unfold dp dq; omega), fun a z => z.elim (fun z => T.forth m2 (tr a z)) fun z => by rw [z]; exact hyo, ?_, (fun v z _ => by rw [e1]; cases z; rfl), ls⟩, fun a z => ⟨.inl z, tr a z⟩, fun i hi a z => (nos hi z).elim, rfl⟩, ⟨tr, hb.symm⟩, ⟨fun σ G ρ ow0 s ⟨fs, h1, h2⟩ => ?_, fun v d G ok g p a => a.elim, fun _ _ _ _ _ z => z, fun _ _ _ _ _ z => z, fun x d σ G ρ ow0 s xr a => ?_⟩, q⟩
  · rw [eo]
    cases i with
    | zero => exact absurd (by rw [Nat.zero_add]; exact List.mem_cons_self) hi2
    | succ i =>
      rw [List.getElem?_cons_succ] at hd
      obtain ⟨v, h1, h2⟩ := base.val i d (by rw [e2]; exact hd) List.not_mem_nil List.not_mem_nil
      rw [eo2] at h2
      refine ⟨v, ?_, h2⟩
      rw [e1, List.getElem?_cons_succ, ← e3]
      exact h1
  · have : i = 0 := by have := List.mem_singleton.mp hi; omega
    subst this
    refine ⟨.ref y, _, [y], rfl, by rw [e1]; rfl, .ins upd_same .nil, List.nodup_cons.mpr ⟨List.not_mem_nil, List.nodup_nil⟩, fun a ha => ?_⟩
    rw [List.mem_singleton.mp ha]
    exact ⟨.inr rfl, rfl, fun z => z hy⟩
  · rw [e1, ← e3, List.length_cons, List.length_cons, ← base.len, e2]
  · obtain ⟨v, d, g1, g2, g3⟩ := s.er.nwq 0 (by rw [Nat.zero_add]; exact List.mem_cons_self)
    rw [s.er.slt _ rfl (.inr (.inr List.mem_cons_self))] at g2
    cases g2
    rw [h1] at g1
    cases g1
    exact k1 fs G h2 s.ok s.gr (g3.mv (Mv.less fun a z => z.imp (fun z => .inl (s.sub a z).1) id))
  · refine k2 x d G a s.ok s.gr ?_
    cases d with
    | none => exact xr
    | some d =>
      obtain ⟨nf, fvs, h1, h2⟩ := xr
      exact ⟨nf, fvs, h1, h2.mv (Mv.less fun a z => .inl (s.sub a z).1)⟩
end
end Dz
namespace Dz
open PySem PySem.Spec PyProof.Rows L2 Evl Bf
section
variable {X : Cx} {T : Th X.K} {W : WX} {O : List Nat} {a b : Expr} {φa φb : DX} {pos : Pos}
end
def pairsD : List (DX × DX) → Ro → (List (Key × D) → Prop) → XQ → Prop
  | [], _, A, _ => A []
  | (k, v) :: r, ρ, A, Ax => k ρ (fun x => v ρ (fun y => pairsD r ρ (fun ps => ∃ kk, dKey x = some kk ∧ A ((kk, y) :: ps)) Ax) Ax) Ax
def mergeD (kvs more : List (Key × D)) : List (Key × D) := more.foldl (fun acc kv => putD acc kv.1 kv.2) kvs
def xDisp (ps : List (DX × DX)) : DX := fun ρ A Ax => pairsD ps ρ (fun kvs => kvs.length ≤ 15 ∧ A (.dic (mergeD [] kvs))) Ax
theorem RepK.merge {K : PySem.W.Frag} {H : Hp} {ow : Addr → Prop} : ∀ {ws : List (Key × V)} {es : List (Key × D)} {vs : List (Key × V)} {ds : List (Key × D)}, RepK K H ow ws es → RepK K H ow vs ds → RepK K H ow (mergeK vs ws) (mergeD ds es)
  | _, _, _, _, .nil, h => h
  | _, _, vs, ds, .cons (k := k) (v := v) (vs := ws) (d := d) (ds := es) r t, h => show RepK K H ow (mergeK (putK vs k v) ws) (mergeD (putD ds k d) es) from RepK.merge t (h.put r)
section
variable {X : Cx} {T : Th X.K} {W : WX} {O : List Nat} {pos : Pos}
end
end Dz
namespace Dz
open PySem PySem.Spec PyProof.Rows L2 Evl Bf
def encL : List Nat → Nat
  | [] => 0
  | a :: l => 2 ^ a * (2 * encL l + 1)
theorem two_odd : ∀ (a b x y : Nat), 2 ^ a * (2 * x + 1) = 2 ^ b * (2 * y + 1) → a = b ∧ x = y
  | 0, 0, x, y, h => by
    rw [Nat.pow_zero, Nat.one_mul, Nat.one_mul] at h
    exact ⟨rfl, by omega⟩
  | 0, b + 1, x, y, h => by
    rw [Nat.pow_zero, Nat.one_mul, Nat.pow_succ, Nat.mul_comm (2 ^ b) 2, Nat.mul_assoc] at h
    omega
  | a + 1, 0, x, y, h => by
    rw [Nat.pow_zero, Nat.one_mul, Nat.pow_succ, Nat.mul_comm (2 ^ a) 2, Nat.mul_assoc] at h
    omega
  | a + 1, b + 1, x, y, h => by
    rw [Nat.pow_succ, Nat.pow_succ, Nat.mul_comm (2 ^ a) 2, Nat.mul_comm (2 ^ b) 2, Nat.mul_assoc, Nat.mul_assoc] at h
    obtain ⟨h1, h2⟩ := two_odd a b x y (by omega)
    exact ⟨by rw [h1], h2⟩
theorem encL_pos (a : Nat) (l : List Nat) : 0 < encL (a :: l) := Nat.mul_pos (Nat.pow_pos (by decide)) (by omega)
theorem encL_inj : ∀ (l m : List Nat), encL l = encL m → l = m
  | [], [], _ => rfl
  | [], b :: m, h => absurd h (Nat.ne_of_lt (encL_pos b m))
  | a :: l, [], h => absurd h.symm (Nat.ne_of_lt (encL_pos a l))
  | a :: l, b :: m, h => by
    obtain ⟨h1, h2⟩ := two_odd a b _ _ h
    rw [h1, encL_inj l m h2]
def lotN (lot : List Str) : Nat := encL (lot.map fun s => encL s.cps.toList)
theorem map_inj {α β : Type} {f : α → β} (h : ∀ a b, f a = f b → a = b) : ∀ (l m : List α), l.map f = m.map f → l = m
  | [], [], _ => rfl
  | [], b :: m, h => by cases h
  | a :: l, [], h => by cases h
  | a :: l, b :: m, e => by
    rw [List.map_cons, List.map_cons] at e
    injection e with e1 e2
    rw [h _ _ e1, map_inj h l m e2]
theorem str_ext {a b : Str} (h : a.cps.toList = b.cps.toList) : a = b := by
  cases a; cases b
  congr
  exact Array.toList_inj.mp h
theorem lotN_inj {l m : List Str} (h : lotN l = lotN m) : l = m := map_inj (fun a b e => str_ext (encL_inj _ _ e)) l m (encL_inj _ _ h)
def rkG (g : Str) (lot : List Str) : Nat := g.cps.toList.getD (lotN lot) 0
theorem le_sum : ∀ {l : List Nat} {a : Nat}, a ∈ l → a ≤ l.sum
  | b :: l, a, h => by
    rw [List.sum_cons]
    rcases List.mem_cons.mp h with h | h
    · omega
    · have := le_sum h
      omega
theorem rk_ex (Ls : List (List Str)) (r : List Str → Nat) : ∃ g, ∀ lot ∈ Ls, rkG g lot = r lot := by
  refine ⟨⟨((List.range ((Ls.map lotN).sum + 1)).map fun i => ((Ls.find? fun l => lotN l == i).map r).getD 0).toArray⟩, fun lot hl => ?_⟩
  have hb : lotN lot ≤ (Ls.map lotN).sum := le_sum (List.mem_map.mpr ⟨lot, hl, rfl⟩)
  show (((List.range ((Ls.map lotN).sum + 1)).map fun i => ((Ls.find? fun l => lotN l == i).map r).getD 0)).getD (lotN lot) 0 = _
  rw [List.getD_eq_getElem?_getD, List.getElem?_map, List.getElem?_range (by omega)]
  show ((Ls.find? fun l => lotN l == lotN lot).map r).getD 0 = r lot
  cases c : Ls.find? fun l => lotN l == lotN lot with
  | none =>
    have := List.find?_eq_none.mp c lot hl
    simp at this
  | some l =>
    have := List.find?_some c
    simp at this
    rw [lotN_inj this]
    rfl
theorem nd_filter {α : Type} (p : α → Bool) {l : List α} (h : l.Nodup) : (l.filter p).Nodup := List.Pairwise.filter p h
theorem sub_count {α : Type} [DecidableEq α] : ∀ (ns : List α) (ls : List (List α)), ls.Nodup → (∀ l ∈ ls, l.Sublist ns) → ls.length ≤ 2 ^ ns.length
  | [], ls, nd, h => by
    match ls, nd, h with
    | [], _, _ => exact Nat.zero_le _
    | [a], _, _ => exact Nat.le_refl _
    | a :: b :: r, nd, h =>
      have h1 := List.sublist_nil.mp (h a List.mem_cons_self)
      have h2 := List.sublist_nil.mp (h b (List.mem_cons_of_mem _ List.mem_cons_self))
      subst h1; subst h2
      simp at nd
  | x :: ns, ls, nd, h => by
    have e := List.length_eq_countP_add_countP (fun l : List α => decide (l.head? = some x)) (l := ls)
    rw [List.countP_eq_length_filter, List.countP_eq_length_filter] at e
    have h1 : (ls.filter fun l => decide (l.head? = some x)).length ≤ 2 ^ ns.length := by
      have nA := nd_filter (fun l : List α => decide (l.head? = some x)) nd
      have hA : ∀ l ∈ ls.filter fun l => decide (l.head? = some x), ∃ t, l = x :: t ∧ t.Sublist ns := fun l hl => by
        obtain ⟨m1, m2⟩ := List.mem_filter.mp hl
        have m3 := of_decide_eq_true m2
        cases l with
        | nil => cases m3
        | cons y t =>
          cases m3
          exact ⟨t, rfl, List.cons_sublist_cons.mp (h _ m1)⟩
      generalize ls.filter (fun l => decide (l.head? = some x)) = A at nA hA ⊢
      rw [← List.length_map (f := List.tail)]
      refine sub_count ns _ ?_ fun l hl => ?_
      · rw [List.nodup_iff_pairwise_ne] at nA ⊢
        rw [List.pairwise_map]
        refine List.Pairwise.imp_of_mem (fun {a b} ha hb n => ?_) nA
        obtain ⟨t, rfl, _⟩ := hA a ha
        obtain ⟨u, rfl, _⟩ := hA b hb
        exact fun z => n (by rw [show t = u from z])
      · obtain ⟨m, hm, rfl⟩ := List.mem_map.mp hl
        obtain ⟨t, rfl, ht⟩ := hA m hm
        exact ht
    have h2 : (ls.filter fun l => !decide (l.head? = some x)).length ≤ 2 ^ ns.length := by
      refine sub_count ns _ (nd_filter _ nd) fun l hl => ?_
      obtain ⟨m1, m2⟩ := List.mem_filter.mp hl
      have m3 : ¬ l.head? = some x := by simpa using m2
      cases h _ m1 with
      | cons _ z => exact z
      | cons_cons _ z => exact absurd rfl m3
    rw [List.length_cons, Nat.pow_succ]
    have e2 : (ls.filter fun l => decide ¬ (decide (l.head? = some x) = true)) = ls.filter fun l => !decide (l.head? = some x) := by
      congr
      funext l
      by_cases c : l.head? = some x <;> simp [c]
    rw [e2] at e
    omega
def SubN (lot ns : List Str) : Prop := lot.Sublist ns ∧ (ns.length ≤ 24 ∨ lot ≠ [])
def MemoOk (ns : List Str) (g : Str) (kvs : List (List Key × V)) : Prop := (kvs.map (·.1)).Nodup ∧ ∀ p ∈ kvs, ∃ lot : List Str, SubN lot ns ∧ p.1 = lot.map Sum.inr ∧ p.2 = .int (rkG g lot : Nat)
structure FamsOk (K : PySem.W.Frag) (H : Hp) : Prop where
  ok : ∀ a dx t s c g, H a = some (famO K dx t s c g) → ∃ ns kvs, H t = some (.tup (ns.map V.str)) ∧ ns.length ≤ 24 ∧ H c = some (.dT kvs) ∧ MemoOk ns g kvs
  one : ∀ a a' dx dx' t t' s s' c g g', H a = some (famO K dx t s c g) → H a' = some (famO K dx' t' s' c g') → a = a'
structure Grow (K : PySem.W.Frag) (H G : Hp) : Prop where
  k1 : ∀ a o, H a = some o → (∀ kvs, o ≠ .dT kvs) → G a = some o
  k2 : ∀ a kvs, H a = some (.dT kvs) → ∃ kvs', G a = some (.dT kvs')
  k3 : ∀ a kvs, H a = some (.dT kvs) → ¬ isMemo K H a → G a = some (.dT kvs)
  k4 : ∀ c, isMemo K G c → H c ≠ none → isMemo K H c
theorem Grow.there {K : PySem.W.Frag} {H G : Hp} (g : Grow K H G) {a : Addr} (h : H a ≠ none) : G a ≠ none := fun z => by
  cases e : H a with
  | none => exact h e
  | some o =>
    by_cases c : ∃ kvs, o = .dT kvs
    · obtain ⟨kvs, rfl⟩ := c
      obtain ⟨k', q⟩ := g.k2 _ _ e
      rw [q] at z; cases z
    · rw [g.k1 _ _ e fun kvs q => c ⟨kvs, q⟩] at z; cases z
section
variable {K : PySem.W.Frag} {H G : Hp} {p : Addr} {o o' : HO}
theorem memo_iff (n : ∀ dx t s c g, o' ≠ famO K dx t s c g) (m : ∀ dx t s c g, H p ≠ some (famO K dx t s c g)) {c : Addr} : isMemo K (upd H p o') c ↔ isMemo K H c := by
  constructor
  · rintro ⟨a, dx, t, s, g, q⟩
    by_cases z : a = p
    · rw [z, upd_same] at q
      exact absurd (Option.some.inj q) (n _ _ _ _ _)
    · rw [upd_ne z] at q
      exact ⟨a, dx, t, s, g, q⟩
  · rintro ⟨a, dx, t, s, g, q⟩
    refine ⟨a, dx, t, s, g, ?_⟩
    rw [upd_ne fun z => m _ _ _ _ _ (z ▸ q)]
    exact q
theorem fams_put (n : ∀ dx t s c g, o' ≠ famO K dx t s c g) (m : ∀ dx t s c g, H p ≠ some (famO K dx t s c g)) (mt : ∀ xs, H p ≠ some (.tup xs)) (mm : ¬ isMemo K H p) (ok : FamsOk K H) : FamsOk K (upd H p o') := by
  have old : ∀ {a dx t s c g}, (upd H p o') a = some (famO K dx t s c g) → H a = some (famO K dx t s c g) := fun {a dx t s c g} q => by
    by_cases z : a = p
    · rw [z, upd_same] at q
      exact absurd (Option.some.inj q) (n _ _ _ _ _)
    · rw [upd_ne z] at q
      exact q
  refine ⟨fun a dx t s c g q => ?_, fun a a' dx dx' t t' s s' c g g' q q' => ok.one _ _ _ _ _ _ _ _ _ _ _ (old q) (old q')⟩
  obtain ⟨ns, kvs, h1, h2, h3, h4⟩ := ok.ok _ _ _ _ _ _ (old q)
  exact ⟨ns, kvs, by rw [upd_ne fun z => mt _ (z ▸ h1)]; exact h1, h2, by rw [upd_ne fun z : c = p => mm (by rw [← z]; exact ⟨a, dx, t, s, g, old q⟩)]; exact h3, h4⟩
theorem grow_put (g : Grow K H G) (hp : H p = none) (n : ∀ dx t s c g, o' ≠ famO K dx t s c g) (m : ∀ dx t s c g, G p ≠ some (famO K dx t s c g)) : Grow K H (upd G p o') where
  k1 := fun a o e z => by rw [upd_ne fun q => by rw [q, hp] at e; cases e]; exact g.k1 a o e z
  k2 := fun a kvs e => by rw [upd_ne fun q => by rw [q, hp] at e; cases e]; exact g.k2 a kvs e
  k3 := fun a kvs e z => by rw [upd_ne fun q => by rw [q, hp] at e; cases e]; exact g.k3 a kvs e z
  k4 := fun c z e => g.k4 c ((memo_iff n m).mp z) e
theorem Grow.refl (K : PySem.W.Frag) (H : Hp) : Grow K H H := ⟨fun _ _ e _ => e, fun _ kvs e => ⟨kvs, e⟩, fun _ _ e _ => e, fun _ z _ => z⟩
theorem nofam {o : HO} (h : isIns o = false) : ∀ dx t s c g, o ≠ famO K dx t s c g := fun _ _ _ _ _ e => by rw [e] at h; cases h
theorem nofamC {C dx0 : Addr} {fs : List (Str × V)} (h : C ≠ He.ga K "Family") : ∀ dx t s c g, HO.ins C dx0 fs ≠ famO K dx t s c g := fun _ _ _ _ _ e => by
  injection e with e1
  exact h e1
theorem nofam0 {C dx0 : Addr} : ∀ dx t s c g, HO.ins C dx0 [] ≠ famO K dx t s c g := fun _ _ _ _ _ e => by
  injection e with _ _ e3
  cases e3
end
def T1 (K : PySem.W.Frag) : Th K where
  Ok := FamsOk K
  Gr := Grow K
  refl := Grow.refl K
  trans := fun g h => ⟨fun a o e z => h.k1 a o (g.k1 a o e z) z, fun a kvs e => have ⟨k', e'⟩ := g.k2 a kvs e; h.k2 a k' e', fun a kvs e z => h.k3 a kvs (g.k3 a kvs e z) fun q => z (g.k4 a q fun q => by rw [q] at e; cases e),
    fun c z e => g.k4 c (h.k4 c z (g.there e)) e⟩
  keep := fun g e n => g.k1 _ _ e n
  keepT := fun g e => g.k2 _ _ e
  keepD := fun g e n => ⟨g.k3 _ _ e n, fun q => n (g.k4 _ q fun z => by rw [z] at e; cases e)⟩
  noMemo := fun ok hp ⟨a, dx, t, s, g, q⟩ => by
    obtain ⟨_, _, _, _, z, _⟩ := ok.ok _ _ _ _ _ _ q
    rw [hp] at z; cases z
  new := fun {H p o} ok hp ho => ⟨fams_put (nofam ho) (fun _ _ _ _ _ q => by rw [hp] at q; cases q) (fun _ q => by rw [hp] at q; cases q) (fun ⟨a, dx, t, s, g, q⟩ => by
      obtain ⟨_, _, _, _, z, _⟩ := ok.ok _ _ _ _ _ _ q
      rw [hp] at z; cases z) ok, grow_put (Grow.refl K H) hp (nofam ho) fun _ _ _ _ _ q => by rw [hp] at q; cases q⟩
  put := fun {H G p o o'} g hp ok ho n1 n2 n5 i1 i2 => ⟨fams_put (nofam i2) (fun dx t s c g q => nofam i1 dx t s c g (Option.some.inj (ho.symm.trans q))) (fun xs q => n1 xs (Option.some.inj (ho.symm.trans q))) (fun ⟨a, dx, t, s, g, q⟩ => by
      obtain ⟨_, kvs, _, _, z, _⟩ := ok.ok _ _ _ _ _ _ q
      exact n2 kvs (Option.some.inj (ho.symm.trans z))) ok, grow_put g hp (nofam i2) fun dx t s c g q => nofam i1 dx t s c g (Option.some.inj (ho.symm.trans q))⟩
  putD := fun {H G p kvs kvs'} g hp ok ho n => ⟨fams_put (nofam rfl) (fun _ _ _ _ _ q => by rw [ho] at q; cases q) (fun xs q => by rw [ho] at q; cases q) n ok, grow_put g hp (nofam rfl) fun _ _ _ _ _ q => by rw [ho] at q; cases q⟩
  make := fun {H y dy C} ok hy hdy ne => by
    have nm : ∀ {p}, H p = none → ¬ isMemo K H p := fun hp ⟨a, dx, t, s, g, q⟩ => by
      obtain ⟨_, _, _, _, z, _⟩ := ok.ok _ _ _ _ _ _ q
      rw [hp] at z; cases z
    have o1 : FamsOk K (upd H dy (.own y)) := fams_put (nofam rfl) (fun _ _ _ _ _ q => by rw [hdy] at q; cases q) (fun _ q => by rw [hdy] at q; cases q) (nm hdy) ok
    have g1 : Grow K H (upd H dy (.own y)) := grow_put (Grow.refl K H) hdy (nofam rfl) fun _ _ _ _ _ q => by rw [hdy] at q; cases q
    have hy1 : (upd H dy (.own y)) y = none := by rw [upd_ne ne.symm]; exact hy
    refine ⟨fams_put nofam0 (fun _ _ _ _ _ q => by rw [hy1] at q; cases q) (fun _ q => by rw [hy1] at q; cases q) (fun ⟨a, dx, t, s, g, q⟩ => ?_) o1, grow_put g1 hy nofam0 fun _ _ _ _ _ q => by rw [hy1] at q; cases q⟩
    obtain ⟨_, _, _, _, z, _⟩ := o1.ok _ _ _ _ _ _ q
    rw [hy1] at z; cases z
  fput := fun {H G y dy C fs fs'} g hy ok ho nf => ⟨fams_put (nofamC nf) (fun dx t s c g q => nofamC nf dx t s c g (Option.some.inj (ho.symm.trans q))) (fun _ q => by rw [ho] at q; cases q) (fun ⟨a, dx, t, s, g, q⟩ => by
      obtain ⟨_, kvs, _, _, z, _⟩ := ok.ok _ _ _ _ _ _ q
      rw [ho] at z; cases z) ok, grow_put g hy (nofamC nf) fun dx t s c g q => nofamC nf dx t s c g (Option.some.inj (ho.symm.trans q))⟩
end Dz
namespace Dz
open PySem PySem.Spec PyProof.Rows L2 Evl Bf
def famFs : List Str := ["names", "source", "counted"]
def famNs : D → Option (List Str)
  | .fam ns _ _ => some ns
  | _ => none
def xNames (φ : DX) : DX := fun ρ A Ax => φ ρ (fun x => ∃ ns, famNs x = some ns ∧ A (tupS ns)) Ax
def xMethF (F : DF) (φ : DX) (φs : DA) : DX := fun ρ A Ax => φ ρ (fun x => (famNs x).isSome = true ∧ φs ρ (fun ds => F (x :: ds) A Ax) Ax) Ax
def xMeth0F (F : DF) (φ : DX) : DX := fun ρ A Ax => φ ρ (fun x => (famNs x).isSome = true ∧ F [x] A Ax) Ax
theorem fam_of {d : D} {ns : List Str} (h : famNs d = some ns) : ∃ s g, d = .fam ns s g := by
  cases d with
  | fam ns' s g => cases h; exact ⟨s, g, rfl⟩
  | _ => cases h
theorem rep_fam {K : PySem.W.Frag} {H : Hp} {ow : Addr → Prop} {v : V} {ns : List Str} {d : D} {g : Str} (h : Rep K H ow v (.fam ns d g)) : ∃ a dx t s c, v = .ref a ∧ H a = some (famO K dx t s c g) ∧ ¬ ow a ∧ H t = some (.tup (ns.map V.str)) ∧ Rep K H ow (.ref s) d := by
  cases h with
  | fam a b c d => exact ⟨_, _, _, _, _, rfl, a, b, c, d⟩
section
variable {X : Cx} {T : Th X.K} {W : WX} {O : List Nat} {e o : Expr} {es : List Expr} {φ : DX} {φs : DA} {pos apos : Pos} {k n : Nat} {m : Str} {fz : Nat} {F : DF}
theorem be_famN (hc : Cls X.K (He.ga X.K "Family")) (hn : NoAttr X.K (He.ga X.K "Family") "names") (he : PE X e (eOf T W O φ)) (hb : attributeBase e "names" X.env (eval e X.env) = eval e X.env := by rfl) : PE X (.Attribute e "names" pos) (eOf T W O (xNames φ)) :=
  peI (pe_fld he hb) fun σ H Q ⟨ρ, ow0, fr, A, Ax, ok, er, q, k, x⟩ => ⟨ρ, ow0, fr, _, Ax, ok, er, q, fun d v G ⟨ns, e1, qz⟩ okG gG rv => (by
    obtain ⟨s0, g, rfl⟩ := fam_of e1
    obtain ⟨a, dx, t, s, c, rfl, ha, _, ht, _⟩ := rep_fam rv
    exact ⟨a, _, dx, _, .ref t, rfl, ha, hc, hn, rfl, k _ _ G qz okG gG (.tup ht (strs_repL ns))⟩), x⟩
theorem fam_cases {K : PySem.W.Frag} {H : Hp} {ow : Addr → Prop} {v : V} {d : D} (r : Rep K H ow v d) (h : (famNs d).isSome = true) {m : Str} (hm : m ∉ famFs) : ∃ a dx vs, v = .ref a ∧ H a = some (.ins (He.ga K "Family") dx vs) ∧ vs.lookup m = none := by
  obtain ⟨ns, e⟩ := Option.isSome_iff_exists.mp h
  obtain ⟨s0, g, rfl⟩ := fam_of e
  obtain ⟨a, dx, t, s, c, rfl, ha, _, ht, _⟩ := rep_fam r
  refine ⟨a, dx, _, rfl, ha, ?_⟩
  simp only [famFs, List.mem_cons, List.not_mem_nil, or_false, not_or] at hm
  have b : ∀ {x : Str}, ¬ m = x → (m == x) = false := fun h => by simpa using h
  simp only [List.lookup, b hm.1, b hm.2.1, b hm.2.2]
theorem mtF_aux {σ : L2.St} {H : Hp} {Q : VK} (hm : m ∉ famFs) (h : eOf T W O (xMethF F φ φs) σ H Q) : tMtS (He.ga X.K "Family") m (spOf T fz (n + 1) F) (WE W) (eOf T W O φ) (aOf T W O n φs) σ H Q := by
  obtain ⟨ρ, ow0, fr, A, Ax, ok, er, q, k, x⟩ := h
  refine ⟨ρ, ow0, fr, _, Ax, ok, er, q, fun d v G ⟨e1, qd⟩ okG gG rv => ?_, x⟩
  obtain ⟨a, dx, vs, rfl, ha, hl⟩ := fam_cases rv e1 hm
  refine ⟨a, dx, vs, rfl, ha, hl, ρ, ow0, fr, _, Ax, okG, er.gr T gG, qd, fun ds ws J qs hn okJ gJ rs => ?_, x.gr gG⟩
  refine ⟨by rw [List.length_cons, hn], _, owOf ow0 O σ, A, Ax, okJ, ((er.gr T gG).gr T gJ).otrk, .cons (rv.gr T gJ) rs, qs, fun d v L a o g r => ?_, fun y d L a o g r => x y d L a o (T.trans gG (T.trans gJ g)) r⟩
  exact k d v L a o (T.trans gG (T.trans gJ g)) (r.rep ((er.gr T gG).gr T gJ).otrk)
theorem be_methF (M : MtD X.prog X.w T X.mg X.base k "Family" m (n + 1) fz F) (hr : Room k X.A) (tk : Takes X W) (he : PE X o (eOf T W O φ)) (ha : PA X (e :: es) (aOf T W O n φs)) {pl : Sem Bool} (hm : m ∉ famFs := by decide)
    (h1 : starEach (e :: es) X.env = (false, eval e X.env) :: starEach es X.env := by rfl) (h2 : (backTo pos (starEach es X.env)).any (·.1) = false := by rfl)
    (ht : eval (.Call (.Attribute o m apos) (e :: es) [] pos) X.env = (do
      let ov ← eval o X.env
      standAt apos.atName
      let (g, first) ← holding [ov] (getMethod ov m pl)
      callWith pos g first (backTo pos (starEach (e :: es) X.env)) (backToKw pos (keywordEach [] X.env))) := by rfl) : PE X (.Call (.Attribute o m apos) (e :: es) [] pos) (eOf T W O (xMethF F φ φs)) := by
  obtain ⟨f, fd, ps, a1, a2, a3⟩ := M.ex
  exact peI (pe_mtS he M.cl a1 a2 hr a3 (fun σ => passAt tk σ) ha h1 h2 ht) fun _ _ _ h => mtF_aux hm h
theorem mf0F_aux {σ : L2.St} {H : Hp} {Q : VK} (hm : m ∉ famFs) (h : efOf T W O (xMeth0F F φ) σ H Q) : tMtS0 (He.ga X.K "Family") m (spOf T 1 1 F) (WE W) (eOf T W O φ) σ H Q := by
  obtain ⟨ρ, ow0, fr, A, Ax, ok, er, q, k, x⟩ := h
  refine ⟨ρ, ow0, fr, _, Ax, ok, er, q, fun d v G ⟨e1, qd⟩ okG gG rv => ?_, x⟩
  obtain ⟨a, dx, vs, rfl, ha, hl⟩ := fam_cases rv e1 hm
  exact ⟨a, dx, vs, rfl, ha, hl, rfl, _, owOf ow0 O σ, A, Ax, okG, (er.gr T gG).otrk, .cons rv .nil, qd, fun d v L a o g ⟨p, e1, e2, e3⟩ => k d v L a o (T.trans gG g) ⟨p, e1, T.back gG e2, e3⟩, fun y d L a o g r => x y d L a o (T.trans gG g) r⟩
theorem bf_meth0F (M : MtD X.prog X.w T X.mg X.base k "Family" m 1 1 F) (hr : Room k X.A) (tk : Takes X W) (he : PE X o (eOf T W O φ)) {pl : Sem Bool} (hm : m ∉ famFs := by decide)
    (ht : eval (.Call (.Attribute o m apos) [] [] pos) X.env = (do
      let ov ← eval o X.env
      standAt apos.atName
      let (f, first) ← holding [ov] (getMethod ov m pl)
      callWith pos f first (backTo pos (starEach [] X.env)) (backToKw pos (keywordEach [] X.env))) := by rfl) : PE X (.Call (.Attribute o m apos) [] [] pos) (efOf T W O (xMeth0F F φ)) := by
  obtain ⟨f, fd, ps, a1, a2, a3⟩ := M.ex
  exact peI (pe_mtS0 he M.cl a1 a2 hr a3 (fun σ => passAt tk σ) ht) fun _ _ _ h => mf0F_aux hm h
end
theorem key_map (lot : List Str) : (lot.map (Sum.inr : Str → Key)).map kV = lot.map V.str := by
  rw [List.map_map]; rfl
theorem key_inj {a b : List Str} (h : a.map (Sum.inr : Str → Key) = b.map Sum.inr) : a = b := map_inj (fun x y e => Sum.inr.inj e) a b h
theorem memo_val {ns lot : List Str} {g : Str} {kvs : List (List Key × V)} (m : MemoOk ns g kvs) {v : V} (h : valV kvs (lot.map Sum.inr) = some v) : v = .int (rkG g lot : Nat) := by
  unfold valV at h
  cases c : kvs.find? fun p => decide (p.1 = lot.map Sum.inr) with
  | none => rw [c] at h; cases h
  | some p =>
    rw [c] at h
    cases h
    obtain ⟨lot', _, h2, h3⟩ := m.2 p (List.mem_of_find?_eq_some c)
    have := List.find?_some c
    have e := of_decide_eq_true this
    rw [h2] at e
    show p.2 = _
    rw [h3, key_inj e]
theorem val_none {κ : Type} [DecidableEq κ] {kvs : List (κ × V)} {k : κ} (h : valV kvs k = none) : ∀ p ∈ kvs, p.1 ≠ k := fun p hp e => by
  unfold valV at h
  cases c : kvs.find? fun p => decide (p.1 = k) with
  | some q => rw [c] at h; cases h
  | none => exact absurd (decide_eq_true e) (by simpa using List.find?_eq_none.mp c p hp)
theorem put_new {κ : Type} [DecidableEq κ] {kvs : List (κ × V)} {k : κ} {v : V} (h : valV kvs k = none) : putK kvs k v = kvs ++ [(k, v)] := by
  unfold putK
  rw [if_neg]
  intro z
  obtain ⟨p, hp, e⟩ := List.any_eq_true.mp z
  exact val_none h p hp (of_decide_eq_true e)
theorem val_put {κ : Type} [DecidableEq κ] {kvs : List (κ × V)} {k : κ} {v : V} (h : valV kvs k = none) : valV (putK kvs k v) k = some v := by
  rw [put_new h]
  unfold valV at h ⊢
  rw [List.find?_append]
  cases c : kvs.find? fun p => decide (p.1 = k) with
  | some q => rw [c] at h; cases h
  | none => simp
theorem memo_put1 {ns lot : List Str} {g : Str} {kvs : List (List Key × V)} (m : MemoOk ns g kvs) (hs : SubN lot ns) (h : valV kvs (lot.map Sum.inr) = none) : MemoOk ns g (putK kvs (lot.map Sum.inr) (.int (rkG g lot : Nat))) := by
  rw [put_new h]
  refine ⟨?_, fun p hp => ?_⟩
  · rw [List.map_append]
    refine List.nodup_append.mpr ⟨m.1, by simp, fun a ha b hb e => ?_⟩
    simp only [List.map_cons, List.map_nil, List.mem_singleton] at hb
    obtain ⟨p, hp, rfl⟩ := List.mem_map.mp ha
    exact val_none h p hp (e.trans hb)
  · rcases List.mem_append.mp hp with hp | hp
    · exact m.2 p hp
    · rw [List.mem_singleton.mp hp]
      exact ⟨lot, hs, rfl, rfl⟩
theorem sub_countN {ns : List Str} {ls : List (List Str)} (nl : ls.Nodup) (hn : ns.length ≤ 24) (h : ∀ l ∈ ls, SubN l ns) : ls.length ≤ 2 ^ 24 := by
  have l1 := sub_count ns ls nl fun l hl => (h l hl).1
  exact Nat.le_trans l1 (Nat.pow_le_pow_right (by decide) hn)
theorem memo_put2 {ns lot : List Str} {g : Str} {kvs : List (List Key × V)} (m : MemoOk ns g kvs) (hs : SubN lot ns) : MemoOk ns g (putK kvs (lot.map Sum.inr) (.int (rkG g lot : Nat))) := by
  cases h : valV kvs (lot.map Sum.inr) with
  | none => exact memo_put1 m hs h
  | some v =>
    have e : putK kvs (lot.map Sum.inr) (.int (rkG g lot : Nat)) = kvs := by
      unfold putK
      split
      · conv => rhs; rw [← List.map_id kvs]
        refine List.map_congr_left fun p hp => ?_
        split
        · rename_i e
          obtain ⟨lot', _, h2, h3⟩ := m.2 p hp
          rw [h2] at e
          have e2 := key_inj e
          subst e2
          obtain ⟨a, b⟩ := p
          cases h2; cases h3
          rfl
        · rfl
      · rename_i n
        exfalso
        apply n
        unfold valV at h
        cases c : kvs.find? fun p => decide (p.1 = lot.map Sum.inr) with
        | none => rw [c] at h; cases h
        | some p => exact List.any_eq_true.mpr ⟨p, List.mem_of_find?_eq_some c, by have z := List.find?_some c; exact z⟩
    rw [e]
    exact m
theorem memo_len2 {ns : List Str} {g : Str} {kvs : List (List Key × V)} (m : MemoOk ns g kvs) (hn : ns.length ≤ 24) : kvs.length ≤ sizeLine := by
  have e : ∃ ls : List (List Str), kvs.map (fun p => p.1) = ls.map (fun l => l.map (Sum.inr : Str → Key)) ∧ ∀ l ∈ ls, SubN l ns := by
    have := m.2
    clear m
    induction kvs with
    | nil => exact ⟨[], rfl, fun _ z => absurd z List.not_mem_nil⟩
    | cons p r ih =>
      obtain ⟨ls, h1, h2⟩ := ih fun p hp => this p (List.mem_cons_of_mem _ hp)
      obtain ⟨l, h3, h4, _⟩ := this p List.mem_cons_self
      exact ⟨l :: ls, by rw [List.map_cons, List.map_cons, h1, h4], fun x hx => (List.mem_cons.mp hx).elim (fun e => e ▸ h3) (h2 x)⟩
  obtain ⟨ls, e1, e2⟩ := e
  have nd := m.1
  rw [e1] at nd
  have nl : ls.Nodup := by
    rw [List.nodup_iff_pairwise_ne] at nd ⊢
    rw [List.pairwise_map] at nd
    exact List.Pairwise.imp (fun {a b} n z => n (by rw [z])) nd
  have l1 := sub_countN nl hn e2
  have l2 : ls.length = kvs.length := by
    have := congrArg List.length e1
    rw [List.length_map, List.length_map] at this
    exact this.symm
  show kvs.length ≤ 2 ^ 24
  omega
def DPutF (H : Hp) (a : Addr) (y v : V) (H' : Hp) : Prop :=
  (∃ kvs k, H a = some (.dK kvs) ∧ y = kV k ∧ kvs.length < sizeLine ∧ H' = upd H a (.dK (putK kvs k v))) ∨
  ∃ kvs k b, H a = some (.dT kvs) ∧ y = .ref b ∧ H b = some (.tup (k.map kV)) ∧ (putK kvs k v).length ≤ sizeLine ∧ H' = upd H a (.dT (putK kvs k v))
section
variable {X : Cx} {o i value : Expr} {pos pos' : Pos} {td ty tv : TE} {pins : List (Addr × Obj)} {σ : L2.St} {H : Hp} {s : Shared} {a : Addr} {y v : V} {u r : Value} {A : Around} {E : Value → Shared → Prop}
theorem d_setItemF {H' : Hp} {Q : Unit → Shared → Prop} (hu : A.units + 1 < cLine) (I : Inv X pins σ H s) (g : DPutF H a y v H') (ry : RelV y u) (rv : RelV v r) (h : ∀ s', Inv X pins σ H' s' → Q () s') :
    wpAny (model X.prog X.w) A (setItem (.ref a) u r) Q E s := by
  rcases g with g | ⟨kvs, k, b, e, ey, eb, hl, eH⟩
  · exact d_setItem hu I (.inl g) ry rv h
  · subst ey eH
    cases (show u = Value.ref b from ry)
    obtain ⟨z, hd, xs, rel, dd⟩ := dt_of I.hok e
    have hz : xs.length ≤ sizeLine := by rw [← Paired.length rel]; exact z
    refine wpAny_setItem_heap (hsz := hz) (tupleKind_room_in1 hu) (key_of I.hok eb) dd fun h' dd' hs => h _ ?_
    obtain ⟨q, es, ep, hq, h2, h3, h4, _, h5⟩ := dd'
    refine d_write I (by rw [e]; exact True.intro) hs ⟨q, hq⟩ ⟨hl, hd, _, (rel.put k eb rv).keeps fun c ys ec => ?_, q, es, ep, hq, h2, h3, h4, h5⟩
    rw [upd_ne (ne_of ec e (fun z => nomatch z))]
    exact ec
def sDPutF (td ty tv : TE) : TS := fun D σ H => tv σ H fun v H1 => td σ H1 fun x H2 => ty σ H2 fun y H3 => ∃ a H4, x = .ref a ∧ DPutF H3 a y v H4 ∧ D.nx σ H4
theorem ps_dputF (hu : X.A.units + 1 < cLine) (ho : PE X o td) (hi : PE X i ty) (hv : PE X value tv) (hs : swapsWith value (some (.Subscript o i pos')) pos.line X.env = pure false) :
    PS X (.Assign [.Subscript o i pos'] value pos) (sDPutF td ty tv) := by
  refine ⟨fun pins s σ H D I h => ?_⟩
  refine wpAny_Assign_Subscript (thn (hv.run pins s σ H _ I h) fun r s1 ⟨v, H1, I1, rv, q1⟩ => thn (ho.run pins s1 σ H1 _ I1 q1) fun u s2 ⟨x, H2, I2, rx, q2⟩ => thn (hi.run pins s2 σ H2 _ I2 q2) fun iv s3 ⟨y, H3, I3, ry, a, H4, ex, g, q3⟩ => ?_) hs
  subst ex
  obtain rfl : u = Value.ref a := rx
  exact d_setItemF hu I3 g ry rv fun s4 I4 => ⟨σ, H4, I4, q3⟩
end
theorem val_put2 {κ : Type} [DecidableEq κ] {kvs : List (κ × V)} {k : κ} {v : V} : valV (putK kvs k v) k = some v := by
  cases h : valV kvs k with
  | none => exact val_put h
  | some u =>
    unfold putK
    have hf : (kvs.any fun p => decide (p.1 = k)) = true := by
      unfold valV at h
      cases c : kvs.find? fun p => decide (p.1 = k) with
      | none => rw [c] at h; cases h
      | some p => exact List.any_eq_true.mpr ⟨p, List.mem_of_find?_eq_some c, by have z := List.find?_some c; exact z⟩
    rw [if_pos hf]
    clear h
    unfold valV
    induction kvs with
    | nil => cases hf
    | cons p r ih =>
      rw [List.map_cons, List.find?_cons]
      by_cases c : p.1 = k
      · simp [c]
      · rw [List.any_cons, decide_eq_false c, Bool.false_or] at hf
        simp only [c, if_false, decide_false]
        exact ih hf
theorem fams_memo {K : PySem.W.Frag} {H : Hp} {a dx t s c : Addr} {g : Str} {ns : List Str} {kvs kvs' : List (List Key × V)} (ok : FamsOk K H) (ha : H a = some (famO K dx t s c g)) (ht : H t = some (.tup (ns.map V.str))) (hc : H c = some (.dT kvs)) (m : MemoOk ns g kvs') :
    FamsOk K (upd H c (.dT kvs')) ∧ Grow K H (upd H c (.dT kvs')) := by
  have old : ∀ {a dx t s c' g}, (upd H c (.dT kvs')) a = some (famO K dx t s c' g) → H a = some (famO K dx t s c' g) := fun {a dx t s c' g} q => by
    by_cases z : a = c
    · rw [z, upd_same] at q; cases q
    · rw [upd_ne z] at q; exact q
  have hm : ∀ x, isMemo K (upd H c (.dT kvs')) x → isMemo K H x := fun x ⟨b, dx, t, s, g, q⟩ => ⟨b, dx, t, s, g, old q⟩
  refine ⟨⟨fun b dx2 t2 s2 c2 g2 q => ?_, fun a a' dx dx' t t' s s' c g g' q q' => ok.one _ _ _ _ _ _ _ _ _ _ _ (old q) (old q')⟩, ?_⟩
  · obtain ⟨ns2, k2, h1, h2, h3, h4⟩ := ok.ok _ _ _ _ _ _ (old q)
    have ht2 : ∀ {t2 : Addr} {xs : List V}, H t2 = some (.tup xs) → (upd H c (.dT kvs')) t2 = some (.tup xs) := fun {t2 xs} h => by rw [upd_ne fun z => by rw [z, hc] at h; cases h]; exact h
    by_cases z : c2 = c
    · subst z
      have e := ok.one _ _ _ _ _ _ _ _ _ _ _ (old q) ha
      subst e
      have e2 := (old q).symm.trans ha
      injection e2 with e2
      injection e2 with _ _ e3
      injection e3 with e4 e5
      injection e5 with _ e6
      injection e6 with _ e7
      injection e7 with e8
      injection e4 with _ e4
      injection e4 with e4
      injection e8 with _ e8
      injection e8 with e8
      subst e4; subst e8
      rw [h1] at ht
      injection ht with ht
      injection ht with ht
      have e9 : ns2 = ns := map_inj (fun x y e => V.str.inj e) _ _ ht
      subst e9
      exact ⟨ns2, kvs', ht2 h1, h2, upd_same, m⟩
    · exact ⟨ns2, k2, ht2 h1, h2, by rw [upd_ne z]; exact h3, h4⟩
  · refine ⟨fun b o e n => ?_, fun b k e => ?_, fun b k e n => ?_, fun x z _ => hm x z⟩
    · rw [upd_ne fun z => by rw [z, hc] at e; cases e; exact n _ rfl]; exact e
    · by_cases z : b = c
      · subst z; exact ⟨_, upd_same⟩
      · rw [upd_ne z]; exact ⟨_, e⟩
    · by_cases z : b = c
      · subst z; exact absurd ⟨a, dx, t, s, g, ha⟩ n
      · rw [upd_ne z]; exact e
theorem rep_strs {K : PySem.W.Frag} {H : Hp} {ow : Addr → Prop} {v : V} {xs : List Str} (h : Rep K H ow v (tupS xs)) : ∃ q, v = .ref q ∧ H q = some (.tup (xs.map V.str)) := by
  cases h with
  | tup a b => rw [repL_strs b] at a; exact ⟨_, rfl, a⟩
theorem hok_ghost {P : Program} {w : World} {H : Hp} {h : Heap} {y C dx : Addr} {fs : List (Str × V)} {f : Str} {gv : V} (ok : HOk P w H h) (e : H y = some (.ins C dx fs)) (l : fs.length < 1000) (hf : (fs.lookup f).isSome = true) : HOk P w (upd H y (.ins C dx (fs ++ [(f, gv)]))) h := by
  have lk : ∀ x, (fs ++ [(f, gv)]).lookup x = fs.lookup x := fun x => by
    cases c : fs.lookup x with
    | some v =>
      have : ∀ (fs : List (Str × V)), fs.lookup x = some v → (fs ++ [(f, gv)]).lookup x = some v := fun fs => by
        induction fs with
        | nil => intro z; cases z
        | cons p r ih =>
          intro z
          obtain ⟨a, b⟩ := p
          rw [List.cons_append, List.lookup_cons] at *
          split
          · rename_i h1; rw [h1] at z; exact z
          · rename_i h1; rw [h1] at z; exact ih z
      exact this fs c
    | none =>
      have hx : x ≠ f := fun z => by rw [z] at c; rw [c] at hf; cases hf
      have : ∀ (fs : List (Str × V)), fs.lookup x = none → (fs ++ [(f, gv)]).lookup x = none := fun fs => by
        induction fs with
        | nil =>
          intro _
          rw [List.nil_append, List.lookup_cons]
          have : (x == f) = false := by simpa using hx
          rw [this]
          rfl
        | cons p r ih =>
          intro z
          obtain ⟨a, b⟩ := p
          rw [List.cons_append, List.lookup_cons] at *
          split
          · rename_i h1; rw [h1] at z; cases z
          · rename_i h1; rw [h1] at z; exact ih z
      exact this fs c
  have ob : ObjOk P w H h y (.ins C dx fs) := ok y _ e
  obtain ⟨h1, h2, h3, h4, mA, h5, h6, h7⟩ := ob
  refine hok_swap ok e (fun _ z => by cases z) (fun _ z => by cases z) ⟨by rw [upd_ne h3]; exact h1, by rw [List.length_append]; exact l, h3, h4, mA, h5, fun x => by rw [lk]; exact h6 x, fun x hx => ?_⟩
  rw [List.map_append]
  exact List.mem_append_left _ (h7 x hx)
def ghostSp (sp0 : Sp) : Sp := fun vs H Q E => sp0 vs H (fun v H' => ∃ (y C dx dx0 : Addr) (fs fs0 : List (Str × V)) (f : Str) (gv : V) (G : Hp), H y = some (.ins C dx0 fs0) ∧ H' = upd G y (.ins C dx fs) ∧ fs.length < 1000 ∧ (fs.lookup f).isSome = true ∧ Q v (upd G y (.ins C dx (fs ++ [(f, gv)])))) E
theorem ghost_fn {P : Program} {w : World} {K : PySem.W.Frag} {mg : Str → Option Value} {base : Heap} {k : Nat} {f : Addr} {fd : FuncData} {ps : List Str} {sp0 : Sp} (len : ∀ vs H Q E, sp0 vs H Q E → vs.length = ps.length) (F : FnOk P w K mg base CX0 k f fd ps sp0) : FnOk P w K mg base CX0 k f fd ps (ghostSp sp0) := by
  refine ⟨fun vs H Q E h => len vs H _ E h, fun A outer s H args us vs Q E hr e0 hb hv hsp => ?_⟩
  refine codeAny_mono (F.run A outer s _ args us _ _ E hr e0 hb hv hsp) fun r s' h => ?_
  cases r with
  | error e => exact h
  | ok fl => cases fl with
    | ret u =>
      obtain ⟨v, H', os, bare, un, hok, rv, y, C, dx, dx0, fs, fs0, f, gv, G, hy, rfl, hl, hf, hq⟩ := h
      have z := hok_ghost (gv := gv) hok upd_same hl hf
      rw [upd_upd] at z
      refine ⟨v, _, os, bare, ⟨un.keep, un.slot, fun b o q n hx => ?_, un.there, fun b xs q => ?_, fun b o u q => ?_, fun b ps q => ?_⟩, z, rv, hq⟩
      · have hb : b ≠ y := fun z => by rw [z, hy] at n; cases n
        have := un.free b o q n hx
        rw [upd_ne hb] at this ⊢
        exact this
      · have hb : b ≠ y := fun z => by rw [z, hy] at q; cases q
        have := un.tups b xs q
        rw [upd_ne hb] at this ⊢
        exact this
      · have hb : b ≠ y := fun z => by rw [z, hy] at q; cases q
        have := un.frzs b o u q
        rw [upd_ne hb] at this ⊢
        exact this
      · have hb : b ≠ y := fun z => by rw [z, hy] at q; cases q
        have := un.tbls b ps q
        rw [upd_ne hb] at this ⊢
        exact this
    | next => exact h
    | brk => exact h
    | cont => exact h
def spFam0 (K : PySem.W.Frag) : Sp := fun vs H Q _ => ∃ (y dy p s : Addr) (ns : List V), vs = [.ref y, .ref p, .ref s] ∧ H y = some (.ins (He.ga K "Family") dy []) ∧ p ≠ y ∧
  ((H p = some (.lst ns) ∧ ∀ t c, H t = none → H c = none → t ≠ c → Q .non (upd (upd (upd H t (.tup ns)) c (.dT [])) y (.ins (He.ga K "Family") dy [("names", .ref t), ("source", .ref s), ("counted", .ref c)]))) ∨
   (H p = some (.tup ns) ∧ ∀ c, H c = none → Q .non (upd (upd H c (.dT [])) y (.ins (He.ga K "Family") dy [("names", .ref p), ("source", .ref s), ("counted", .ref c)]))))
theorem upd_shuffle {X : Hp} {y c : Addr} {a b d e : HO} (h : c ≠ y) : upd (upd (upd (upd X y a) y b) c d) y e = upd (upd X c d) y e := by
  funext z
  unfold upd
  by_cases h1 : z = y
  · simp [h1]
  · by_cases h2 : z = c <;> simp [h1, h2]
def spFamI (K : PySem.W.Frag) (F : DF) : Sp := fun vs H Q E => vs.length = 3 ∧ ∃ y dy ds ws ow A Ax H1, vs = .ref y :: ws ∧ H = upd (upd H1 dy (.own y)) y (.ins (He.ga K "Family") dy []) ∧ H1 y = none ∧ H1 dy = none ∧ dy ≠ y ∧
  (T1 K).Ok H1 ∧ (∀ a, ow a → H1 a ≠ none) ∧ RepL K H1 ow ws ds ∧ F ds A Ax ∧ (∀ d G, A d → (T1 K).Ok G → (T1 K).Gr H1 G → Rep K G ow (.ref y) d → Q .non G) ∧
  (∀ x d G, Ax x → (T1 K).Ok G → (T1 K).Gr H1 G → XRep K G ow d x → E (.ref (He.ga K x.cls)) d G)
def isObj : D → Bool
  | .ins _ _ => true
  | .fam _ _ _ => true
  | _ => false
def F_FInit : DF := fun ds A _ => ∃ ns d x g, ds = [x, d] ∧ seqS x ns ∧ ns.length ≤ 24 ∧ isObj d = true ∧ A (.fam ns d g)
theorem famO_inj {K : PySem.W.Frag} {dx t s c dx' t' s' c' : Addr} {g g' : Str} (h : famO K dx t s c g = famO K dx' t' s' c' g') : dx = dx' ∧ t = t' ∧ s = s' ∧ c = c' ∧ g = g' := by
  simpa [famO] using h
theorem rep_obj {K : PySem.W.Frag} {H : Hp} {ow : Addr → Prop} {v : V} {d : D} (h : Rep K H ow v d) (hd : isObj d = true) : ∃ s, v = .ref s := by
  cases h with
  | ins _ _ _ => exact ⟨_, rfl⟩
  | fam _ _ _ _ => exact ⟨_, rfl⟩
  | _ => cases hd
theorem fams_new {K : PySem.W.Frag} {H1 X : Hp} {y dy t s c : Addr} {g : Str} {ns : List Str} (hy : H1 y = none) (hl : ns.length ≤ 24) (okX : FamsOk K X) (gX : Grow K H1 X) (ht : X t = some (.tup (ns.map V.str))) (hc : X c = none) (hyX : X y = some (.ins (He.ga K "Family") dy [])) :
    FamsOk K (upd (upd X c (.dT [])) y (famO K dy t s c g)) ∧ Grow K H1 (upd (upd X c (.dT [])) y (famO K dy t s c g)) := by
  have hcy : c ≠ y := fun z => by rw [z, hyX] at hc; cases hc
  have hty : t ≠ y := fun z => by rw [z, hyX] at ht; cases ht
  have htc : t ≠ c := fun z => by rw [z, hc] at ht; cases ht
  obtain ⟨o1, g1⟩ := (T1 K).new (o := .dT []) okX hc rfl
  have g2 : Grow K H1 (upd X c (.dT [])) := (T1 K).trans gX g1
  have hc1 : H1 c = none := (T1 K).back gX hc
  have hy2 : (upd X c (.dT [])) y = some (.ins (He.ga K "Family") dy []) := by rw [upd_ne hcy.symm]; exact hyX
  have nc : ∀ {b dx t s g}, (upd X c (.dT [])) b ≠ some (famO K dx t s c g) := fun {b dx t s g} q => by
    have hb : b ≠ c := fun z => by rw [z, upd_same] at q; cases q
    rw [upd_ne hb] at q
    obtain ⟨_, _, _, _, z, _⟩ := okX.ok _ _ _ _ _ _ q
    rw [hc] at z; cases z
  have sp : ∀ {b dx2 t2 s2 c2 g2}, (upd (upd X c (.dT [])) y (famO K dy t s c g)) b = some (famO K dx2 t2 s2 c2 g2) → (b = y ∧ t = t2 ∧ c = c2 ∧ g = g2) ∨ (b ≠ y ∧ c2 ≠ c ∧ (upd X c (.dT [])) b = some (famO K dx2 t2 s2 c2 g2)) := fun {b dx2 t2 s2 c2 g2} q => by
    by_cases z : b = y
    · rw [z, upd_same] at q
      obtain ⟨_, h1, _, h2, h3⟩ := famO_inj (Option.some.inj q)
      exact .inl ⟨z, h1, h2, h3⟩
    · rw [upd_ne z] at q
      exact .inr ⟨z, fun e => by subst e; exact nc q, q⟩
  refine ⟨⟨fun b dx2 t2 s2 c2 g2 q => ?_, fun b b' dx dx' t t' s s' c2 g g' q q' => ?_⟩, ⟨fun a o e n => ?_, fun a k e => ?_, fun a k e n => ?_, fun c2 ⟨b, dx2, t2, s2, gg, q⟩ e => ?_⟩⟩
  · rcases sp q with ⟨rfl, rfl, rfl, rfl⟩ | ⟨hb, hc2, q⟩
    · exact ⟨ns, [], by rw [upd_ne hty, upd_ne htc]; exact ht, hl, by rw [upd_ne hcy]; exact upd_same, by simp, fun _ z => absurd z List.not_mem_nil⟩
    · obtain ⟨ns2, k2, h1, h2, h3, h4⟩ := o1.ok _ _ _ _ _ _ q
      exact ⟨ns2, k2, by rw [upd_ne fun z => by rw [z, hy2] at h1; cases h1]; exact h1, h2, by rw [upd_ne fun z => by rw [z, hy2] at h3; cases h3]; exact h3, h4⟩
  · rcases sp q with ⟨rfl, _, e1, _⟩ | ⟨hb, hc2, q⟩
    · rcases sp q' with ⟨rfl, _⟩ | ⟨_, hc2, _⟩
      · rfl
      · exact absurd e1.symm hc2
    · rcases sp q' with ⟨rfl, _, e1, _⟩ | ⟨_, _, q'⟩
      · exact absurd e1.symm hc2
      · exact o1.one _ _ _ _ _ _ _ _ _ _ _ q q'
  · rw [upd_ne fun z => by rw [z, hy] at e; cases e]; exact g2.k1 a o e n
  · rw [upd_ne fun z => by rw [z, hy] at e; cases e]; exact g2.k2 a k e
  · rw [upd_ne fun z => by rw [z, hy] at e; cases e]; exact g2.k3 a k e n
  · rcases sp q with ⟨_, _, rfl, _⟩ | ⟨_, _, q⟩
    · exact absurd hc1 e
    · exact g2.k4 c2 ⟨b, dx2, t2, s2, gg, q⟩ e
theorem fam_ini {P : Program} {w : World} {K : PySem.W.Frag} {mg : Str → Option Value} {base : Heap} {k : Nat} {f : Addr} {fd : FuncData} {ps : List Str} (hp : ps.length = 3) (F : FnOk P w K mg base CX0 k f fd ps (spFam0 K)) : FnOk P w K mg base CX0 k f fd ps (spFamI K F_FInit) := by
  have F2 := ghost_fn (fun vs H Q E h => by obtain ⟨y, dy, p, s, ns, rfl, _⟩ := h; exact hp.symm) F
  refine F2.imp fun vs H Q E h => ?_
  obtain ⟨_, y, dy, ds, ws, ow, A, Ax, H1, rfl, rfl, hy, hdy, ne, ok, tr, r, ⟨ns, d, x, g, rfl, hx, hl, hd, qa⟩, k1, k2⟩ := h
  cases r with
  | cons rx r => cases r with
    | cons rd r =>
      cases r
      obtain ⟨s, rfl⟩ := rep_obj rd hd
      have up : ∀ {b : Addr} {o : HO}, H1 b = some o → (upd (upd H1 dy (.own y)) y (.ins (He.ga K "Family") dy [])) b = some o := fun {b o} e => by
        rw [upd_ne (fun z => by rw [z, hy] at e; cases e), upd_ne (fun z => by rw [z, hdy] at e; cases e)]
        exact e
      obtain ⟨okM, gM⟩ := (T1 K).make (C := He.ga K "Family") ok hy hdy ne
      generalize hHI : upd (upd H1 dy (.own y)) y (.ins (He.ga K "Family") dy []) = HI at up okM gM ⊢
      have hyI : HI y = some (.ins (He.ga K "Family") dy []) := by rw [← hHI]; exact upd_same
      have fin : ∀ (X : Hp) (t c : Addr), FamsOk K X → Grow K H1 X → X t = some (.tup (ns.map V.str)) → X c = none → X y = some (.ins (He.ga K "Family") dy []) → Q .non (upd (upd X c (.dT [])) y (famO K dy t s c g)) := fun X t c okX gX ht hc hyX => by
        obtain ⟨o2, g2⟩ := fams_new (s := s) (g := g) hy hl okX gX ht hc hyX
        have hty : t ≠ y := fun z => by rw [z, hyX] at ht; cases ht
        have htc : t ≠ c := fun z => by rw [z, hc] at ht; cases ht
        exact k1 _ _ qa o2 g2 (.fam upd_same (fun z => tr y z hy) (by rw [upd_ne hty, upd_ne htc]; exact ht) (rd.gr (T1 K) g2))
      rcases hx with rfl | rfl
      · obtain ⟨p, vs, rfl, hp1, rp⟩ := o_lst rx.o
        rw [repL_strs rp] at hp1
        refine ⟨y, dy, p, s, ns.map V.str, rfl, hyI, (fun z => by rw [z, hy] at hp1; cases hp1), .inl ⟨up hp1, fun t c ht hc hne => ?_⟩⟩
        obtain ⟨o1, g1⟩ := (T1 K).new (o := .tup (ns.map V.str)) okM ht rfl
        have hcy : c ≠ y := fun z => by rw [z, hyI] at hc; cases hc
        have hty : t ≠ y := fun z => by rw [z, hyI] at ht; cases ht
        exact ⟨y, _, dy, dy, _, _, "names", .str g, _, hyI, rfl, (by show 3 < 1000; decide), rfl, fin _ t c o1 ((T1 K).trans gM g1) upd_same (by rw [upd_ne hne.symm]; exact hc) (by rw [upd_ne hty.symm]; exact hyI)⟩
      · obtain ⟨p, rfl, hp1⟩ := rep_strs rx
        refine ⟨y, dy, p, s, ns.map V.str, rfl, hyI, (fun z => by rw [z, hy] at hp1; cases hp1), .inr ⟨up hp1, fun c hc => ?_⟩⟩
        exact ⟨y, _, dy, dy, _, _, "names", .str g, _, hyI, rfl, (by show 3 < 1000; decide), rfl, fin _ p c okM gM (up hp1) hc hyI⟩
structure MkF (P : Program) (w : World) (K : PySem.W.Frag) (mg : Str → Option Value) (base : Heap) (k : Nat) (F : DF) : Prop where
  g : mg "Family" = some (.ref (He.ga K "Family"))
  ex : ∃ (fi : Addr) (fd : FuncData) (ps : List Str), Mk K (He.ga K "Family") fi ∧ FnOk P w K mg base (L2.CX P w) k fi fd ps (spFamI K F) ∧ Binds K fd ps []
section
variable {X : Cx} {W : WX} {O : List Nat} {e : Expr} {es : List Expr} {φs : DA} {pos p : Pos} {k : Nat} {F : DF}
theorem mkf_aux {σ : L2.St} {H : Hp} {Q : VK} (h : eOf (T1 X.K) W O (xFn F φs) σ H Q) : tMkS (He.ga X.K "Family") (spFamI X.K F) (WE W) (aOf (T1 X.K) W O 2 φs) σ H Q := by
  obtain ⟨ρ, ow0, fr, A, Ax, ok, er, q, k, x⟩ := h
  refine ⟨ρ, ow0, fr, _, Ax, ok, er, q, fun ds vs G qs hn okG gG rs y dy hy hdy ne => ?_, x⟩
  exact ⟨by rw [List.length_cons, hn], y, dy, ds, vs, owOf ow0 O σ, A, Ax, G, rfl, rfl, hy, hdy, ne, okG, (er.gr _ gG).otrk, rs, qs, fun d J a o g r => ⟨rfl, k _ _ J a o ((T1 X.K).trans gG g) r⟩, fun z d J a o g r => x z d J a o ((T1 X.K).trans gG g) r⟩
theorem be_mkF (M : MkF X.prog X.w X.K X.mg X.base k F) (hr : Room (k + 1) X.A) (tk : Takes X W) (ha : PA X (e :: es) (aOf (T1 X.K) W O 2 φs)) (hg : Gl X "Family" := by rfl)
    (hdb : (("Family" : Str) == ("__debug__" : Str)) = false := by decide) (he : starEach (e :: es) X.env = (false, eval e X.env) :: starEach es X.env := by rfl) (hpl : (backTo pos (starEach es X.env)).any (·.1) = false := by rfl) :
    PE X (.Call (.Name "Family" p) (e :: es) [] pos) (eOf (T1 X.K) W O (xFn F φs)) := by
  obtain ⟨fi, fd, ps, h1, h2, h3⟩ := M.ex
  exact peI (pe_mkS h1 h2 hr M.g h3 (fun σ => passAt tk σ) ha hg hdb he hpl) fun _ _ _ h => mkf_aux h
end
end Dz
namespace Bf
open PySem PySem.Spec PyProof.Rows L2
abbrev ClM := Value × Option Nat × (Addr → Value → Option Addr → TS)
inductive ClsM (X : Cx) : List ExceptHandler → List ClM → Prop
  | nil : ClsM X [] []
  | cons {x n : Str} {c : Value} {i : Nat} {ts : Addr → Value → Option Addr → TS} {b0 : Stmt} {su : List Stmt} {np ps : Pos} {hs : List ExceptHandler} {l : List ClM}
      (hc : Names X x c) (hi : X.N[i]? = some n) (hl : X.env.kindOf n = some .local)
      (hsu : ∀ (a : Addr) (oe : Obj) (cl : Value) (d : Option Addr) (pn : List (Addr × Obj)), Zc cl d oe → (∃ vs, oe.data = .fields vs) →
        PSs (X.suite a ((a, oe) :: pn)) (b0 :: su) (ts a cl d)) (r : ClsM X hs l) :
      ClsM X (.ExceptHandler (some (.Name x np)) (some n) (b0 :: su) ps :: hs) ((c, some i, ts) :: l)
  | bare {x : Str} {c : Value} {ts : Addr → Value → Option Addr → TS} {b0 : Stmt} {su : List Stmt} {np ps : Pos} {hs : List ExceptHandler} {l : List ClM}
      (hc : Names X x c)
      (hsu : ∀ (a : Addr) (oe : Obj) (cl : Value) (d : Option Addr) (pn : List (Addr × Obj)), Zc cl d oe → (∃ vs, oe.data = .fields vs) →
        PSs (X.suite a ((a, oe) :: pn)) (b0 :: su) (ts a cl d)) (r : ClsM X hs l) :
      ClsM X (.ExceptHandler (some (.Name x np)) none (b0 :: su) ps :: hs) ((c, none, ts) :: l)
section
variable {X : Cx} {body : List Stmt} {h0 : ExceptHandler} {hds : List ExceptHandler} {l : List ClM} {pos : Pos} {tb : WX → TS} {Wo : WX}
end
end Bf
namespace Dz
open PySem PySem.Spec PyProof.Rows L2 Evl Bf
def avOf {K : PySem.W.Frag} (T : Th K) (W : WX) (O : List Nat) (φ : DA) : TA := fun σ H Q => ∃ ρ ow0 fr A Ax, T.Ok H ∧ ER K H ow0 fr O σ ρ ∧ φ ρ A Ax ∧ (∀ ds vs G, A ds → T.Ok G → T.Gr H G → RepL K G (owOf ow0 O σ) vs ds → Q vs G) ∧ XOk T W H (owOf ow0 O σ) σ Ax
def aStar (φ : DX) (φs : DA) : DA := fun ρ A Ax => φ ρ (fun x => ∃ xs, seqOf x = some xs ∧ φs ρ (fun ys => A (xs ++ ys)) Ax) Ax
section
variable {X : Cx} {T : Th X.K} {W : WX} {O : List Nat} {e a b : Expr} {es : List Expr} {φ φa φb : DX} {φs : DA} {pos p : Pos}
theorem av_nil : PA X [] (avOf T W O aNil) := paI pa_nil fun σ H Q ⟨ρ, ow0, fr, A, Ax, ok, er, q, k, x⟩ => k [] [] H q ok (T.refl H) .nil
theorem av_cons (ha : PE X e (eOf T W O φ)) (hr : PA X es (avOf T W O φs)) (hs : starEach (e :: es) X.env = (false, eval e X.env) :: starEach es X.env := by rfl) : PA X (e :: es) (avOf T W O (aCons φ φs)) :=
  paI (pa_cons ha hr hs) fun σ H Q ⟨ρ, ow0, fr, A, Ax, ok, er, q, k, x⟩ => ⟨ρ, ow0, fr, _, Ax, ok, er, q, fun d v G qd okG gG rv =>
    ⟨ρ, ow0, fr, _, Ax, okG, er.gr T gG, qd, fun ds vs J qs okJ gJ rs => k _ _ J qs okJ (T.trans gG gJ) (.cons (rv.gr T gJ) rs), x.gr gG⟩, x⟩
theorem seq_o {K : PySem.W.Frag} {H : Hp} {ow : Addr → Prop} {v : V} {d : D} {ds : List D} (h : RepO K H ow v d) (e : seqOf d = some ds) : ∃ p vs, v = .ref p ∧ (SqT K H p vs ∨ SqL K H p vs) ∧ RepL K H ow vs ds := by
  cases d with
  | lst xs => cases e; obtain ⟨p, vs, h1, h2, h3⟩ := o_lst h; exact ⟨p, vs, h1, .inr (.inl (.inl h2)), h3⟩
  | tup xs => cases e; obtain ⟨p, vs, h1, h2, h3⟩ := o_tup h; exact ⟨p, vs, h1, .inl (SqH h2), h3⟩
  | _ => cases e
theorem av_star (ha : PE X e (eoOf T W O φ)) (hr : PA X es (avOf T W O φs)) (hs : starEach (.Starred e p :: es) X.env = (true, eval e X.env) :: starEach es X.env := by rfl) : PA X (.Starred e p :: es) (avOf T W O (aStar φ φs)) :=
  paI (StX.pa_star ha hr hs) fun σ H Q ⟨ρ, ow0, fr, A, Ax, ok, er, q, k, x⟩ => ⟨ρ, ow0, fr, _, Ax, ok, er, q, fun d v G ⟨xs, e1, qd⟩ okG gG rv => by
    obtain ⟨p, vs, rfl, hv, rl⟩ := seq_o rv e1
    exact ⟨p, vs, rfl, hv, ρ, ow0, fr, _, Ax, okG, er.gr T gG, qd, fun ds ws J qs okJ gJ rs => k _ _ J qs okJ (T.trans gG gJ) ((rl.gr T gJ).append rs), x.gr gG⟩, x⟩
theorem bf_lstV (h : PA X es (avOf T W O φs)) : PE X (.List es pos) (efOf T W O (xLst φs)) :=
  peI (pe_lst h) fun σ H Q ⟨ρ, ow0, fr, A, Ax, ok, er, q, k, x⟩ => ⟨ρ, ow0, fr, _, Ax, ok, er, q, fun ds vs G ⟨hl, qd⟩ okG gG rv => ⟨by rw [rv.length]; exact big_sz hl, fun p hp => by
    obtain ⟨h1, h2, h3⟩ := new_own okG hp rv
    exact k _ _ _ qd h1 (T.trans gG h2) ⟨p, rfl, T.back gG hp, h3⟩⟩, x⟩
end
def keysL : List D → Option (List Key)
  | [] => some []
  | d :: ds => match dKey d, keysL ds with
    | some k, some ks => some (k :: ks)
    | _, _ => none
def tKey : D → Option (List Key)
  | .tup ds => keysL ds
  | _ => none
def ofV : V → D
  | .bl b => .bl b
  | .int i => .int i
  | .str s => .str s
  | _ => .non
theorem keysL_strs : ∀ xs : List Str, keysL (xs.map D.str) = some (xs.map Sum.inr)
  | [] => rfl
  | x :: xs => by
    rw [List.map_cons, keysL, keysL_strs xs]
    rfl
theorem tKey_strs (xs : List Str) : tKey (.tup (xs.map D.str)) = some (xs.map Sum.inr) := keysL_strs xs
def xTGet (φd φk : DX) : DX := fun ρ A Ax => φd ρ (fun x => φk ρ (fun y => ∃ kvs k v, x = .dit kvs ∧ tKey y = some k ∧ valV kvs k = some v ∧ A (ofV v)) Ax) Ax
def xTIn (neg : Bool) (φk φd : DX) : DX := fun ρ A Ax => φk ρ (fun y => φd ρ (fun x => ∃ kvs k, x = .dit kvs ∧ tKey y = some k ∧ A (.bl (neg != (valV kvs k).isSome))) Ax) Ax
def sPutT (i : Nat) (φk φv : DX) : DS := fun E ρ => ∃ kvs, ρ[i]? = some (some (.dit kvs)) ∧ kvs.length < big ∧ φv ρ (fun d => φk ρ (fun y => ∃ k v, tKey y = some k ∧ d.flat = some v ∧ E.nx (ρ.set i (some (.dit (putK kvs k v))))) (fun x => E.ex x ρ)) fun x => E.ex x ρ
section
variable {X : Cx} {T : Th X.K} {W : WX} {O : List Nat} {o i e e2 : Expr} {φ ψ φa φb : DX} {pos : Pos}
variable {fz : Nat} {Ol : List Nat} {n : Nat} {x : Str} {pos2 pos3 : Pos}
end
structure Ex0T (K : PySem.W.Frag) (mg : Str → Option Value) (x : Str) : Prop where
  g : mg x = some (.ref (He.ga K x))
  q : PySem.W.excIn K (He.ga K x) [.type "ValueError", .type "Exception", .type "BaseException", .type "object"] "ValueError.__new__" = true
  k : PySem.W.keepIn K (.ref (He.ga K x)) = true
  sub : PySem.W.subIn K (.ref (He.ga K x)) (.type "BaseException") = some true
  ty : PySem.W.typeIn K (.ref (He.ga K x)) = some (.type "type")
theorem exc0B_ok {K : PySem.W.Frag} {mg : Str → Option Value} {x : Str} (h : exc0B K x = true) (g : mg x = some (.ref (He.ga K x))) : Ex0T K mg x := by
  obtain ⟨h1, h⟩ := Bool.and_eq_true_iff.mp h
  obtain ⟨h2, h⟩ := Bool.and_eq_true_iff.mp h
  obtain ⟨h3, h4⟩ := Bool.and_eq_true_iff.mp h
  exact ⟨g, h1, h2, of_decide_eq_true h3, of_decide_eq_true h4⟩
def sRaise0 (c : Str) : DS := fun E ρ => E.ex ⟨c, []⟩ ρ
section
variable {X : Cx} {T : Th X.K} {W : WX} {fz : Nat} {O On Ol : List Nat} {p pos pos2 : Pos} {x : Str}
theorem pmk_own0 (R : Ex0T X.K X.mg x) (hg : Gl X x) (hdb : (x == ("__debug__" : Str)) = false) : PMk X (.Call (.Name x p) [] [] pos) (fun _ H Q => Q (.ref (He.ga X.K x)) none H) := by
  intro pins s σ H Q I h
  refine wpAny_Call_Name_kw (ld_glob I hg R.g ?_ hdb)
  refine PySem.W.callWith_K0 (first := []) I.kIn R.k ?_
  obtain ⟨bm, N, nm, qn, bs, hdct, sn, sub, ab, col, dd, k0, k1, k2, k3, k5, mN, hC, hN, hni, tl⟩ := exc_obj I.kIn R.q
  refine wpAny_call_exc_subT (rest := []) PySem.F.excBase_ValueError tl hC hN hni (fun h' e hm => ?_) (Nat.zero_le _)
  exact mk_of I hm (raises_own R.sub R.ty) h (I.hok.gone hm.new)
theorem s_raise0 (R : Ex0T X.K X.mg x) (hc : X.calm = true) (tk : Takes X W) (hg : Gl X x := by rfl) (hdb : (x == ("__debug__" : Str)) = false := by decide) :
    PS X (.Raise (some (.Call (.Name x p) [] [] pos)) none pos2) (sOf T W fz O On Ol (sRaise0 x)) :=
  psI (ps_raise hc tk (pmk_own0 R hg hdb)) fun M σ H ⟨ρ, H0, owi, ow0, fr, E, s, _, k, q⟩ => k.x s ⟨x, []⟩ none H q s.ok (T.refl H) rfl
end
def catchM (nm : List Str) (em : Str → Str → Bool) : List (Str × Option Nat × (Addr → Addr → DS)) → Exc → DE → Ro → Prop
  | [], x, E, ρ => E.ex x ρ
  | (h, some i, ψ) :: r, x, E, ρ => x.cls ∈ nm ∧ if em x.cls h = true then x.fs ≠ [] ∧ ∀ a dd, ψ a dd (offD E i) (ρ.set i (some (.exc a dd x.cls x.fs))) else catchM nm em r x E ρ
  | (h, none, ψ) :: r, x, E, ρ => x.cls ∈ nm ∧ if em x.cls h = true then ψ 0 0 { E with ex := fun _ _ => False } ρ else catchM nm em r x E ρ
def sTryM (nm : List Str) (em : Str → Str → Bool) (b : DS) (hs : List (Str × Option Nat × (Addr → Addr → DS))) : DS := fun E ρ => b { E with ex := fun x ρ' => catchM nm em hs x E ρ' } ρ
def emEq : Str → Str → Bool := fun x h => decide (x = h)
inductive ClsE (X : Cx) (T : Th X.K) (fz : Nat) (nm : List Str) : List ExceptHandler → List ClM → List (Str × Option Nat × (Addr → Addr → DS)) → Prop
  | nil : ClsE X T fz nm [] [] []
  | cons {x n : Str} {i : Nat} {ψ : Addr → Addr → DS} {b0 : Stmt} {su : List Stmt} {np ps : Pos} {hs : List ExceptHandler} {l : List ClM} {ds : List (Str × Option Nat × (Addr → Addr → DS))} (hm : x ∈ nm)
      (hc : Names X x (.ref (He.ga X.K x))) (hi : X.N[i]? = some n) (hl : X.env.kindOf n = some .local)
      (hsu : ∀ (a : Addr) (oe : Obj) (cl : Value) (d : Option Addr) (pn : List (Addr × Obj)), Zc cl d oe → (∃ vs, oe.data = .fields vs) → PSs (X.suite a ((a, oe) :: pn)) (b0 :: su) (uOf (K := X.K) T fz [] x ψ a cl d)) (r : ClsE X T fz nm hs l ds) :
      ClsE X T fz nm (.ExceptHandler (some (.Name x np)) (some n) (b0 :: su) ps :: hs) ((.ref (He.ga X.K x), some i, fun a cl d => uOf (K := X.K) T fz [] x ψ a cl d) :: l) ((x, some i, ψ) :: ds)
  | bare {x : Str} {ψ : DS} {b0 : Stmt} {su : List Stmt} {np ps : Pos} {hs : List ExceptHandler} {l : List ClM} {ds : List (Str × Option Nat × (Addr → Addr → DS))} (hm : x ∈ nm)
      (hc : Names X x (.ref (He.ga X.K x)))
      (hsu : ∀ (a : Addr) (oe : Obj) (cl : Value) (d : Option Addr) (pn : List (Addr × Obj)), Zc cl d oe → (∃ vs, oe.data = .fields vs) → PSs (X.suite a ((a, oe) :: pn)) (b0 :: su) (sOf (K := X.K) T W0 fz [] [] [] ψ)) (r : ClsE X T fz nm hs l ds) :
      ClsE X T fz nm (.ExceptHandler (some (.Name x np)) none (b0 :: su) ps :: hs) ((.ref (He.ga X.K x), none, fun a cl d => sOf (K := X.K) T W0 fz [] [] [] ψ) :: l) ((x, none, fun _ _ => ψ) :: ds)
section
variable {X : Cx} {T : Th X.K} {W : WX} {fz : Nat}
theorem ClsE.cls {nm : List Str} {hs : List ExceptHandler} {l : List ClM} {ds : List (Str × Option Nat × (Addr → Addr → DS))} (h : ClsE X T fz nm hs l ds) : ClsM X hs l := by
  induction h with
  | nil => exact .nil
  | cons hm hc hi hl hsu r ih => exact .cons hc hi hl hsu ih
  | bare hm hc hsu r ih => exact .bare hc hsu ih
end
end Dz
namespace Dz
open PySem PySem.Spec PyProof.Rows L2 Evl Bf
def iSqV (i : Nat) : DI := fun ρ A _ => ∃ d xs, ρ[i]? = some (some d) ∧ seqOf d = some xs ∧ A xs
section
variable {X : Cx} {T : Th X.K} {W : WX} {O : List Nat} {tg : Expr} {pos : Pos} {i : Nat} {x : Str}
end
end Dz
namespace Dz
open PySem PySem.Spec PyProof.Rows L2 Evl Bf
structure ClsF (K : PySem.W.Frag) (c : Str) (fl : List Str) : Prop where
  cl : Cls K (He.ga K c)
  nF : ∀ f ∈ fl, NoAttr K (He.ga K c) f
theorem clsFB_ok {K : PySem.W.Frag} {c : Str} {fl : List Str} (h : clsFB K c fl = true) : ClsF K c fl := by
  obtain ⟨h1, h2⟩ := Bool.and_eq_true_iff.mp h
  exact ⟨He.cls_ok h1, fun f hf => He.noat_ok (List.all_eq_true.mp h2 f hf)⟩
end Dz
namespace Bs
open PySem PySem.Spec PyProof.Rows L2
def hasK (l : List Key) (k : Key) : Bool := l.any fun x => decide (x = k)
def stepK (l : List Key) (k : Key) : List Key := if hasK l k = true then l else l ++ [k]
def ddK (ks : List Key) : List Key := ks.foldl stepK []
theorem ddK_snoc (ks : List Key) (k : Key) : ddK (ks ++ [k]) = stepK (ddK ks) k := by
  unfold ddK
  rw [List.foldl_append]
  rfl
section
variable {pr : Program} {w : World}
def Has (pr : Program) (w : World) (h : Heap) (a : Addr) (l : List Key) : Prop := h.SetOf (mixKind pr w) a (hasK l) l.length
theorem Has.stay {h h' : Heap} {a : Addr} {l : List Key} (x : Has pr w h a l) (k : ∀ o, h.get? a = some o → h'.get? a = some o) : Has pr w h' a l := by
  obtain ⟨o, es, ep, t, ho, r⟩ := x
  exact ⟨o, es, ep, t, k _ ho, r⟩
theorem Has.step {h : Heap} {a : Addr} {l : List Key} {k : Key} (x : h.SetOf (mixKind pr w) a (fun k' => hasK l k' || decide (k' = k)) (if hasK l k = true then l.length else l.length + 1)) : Has pr w h a (stepK l k) := by
  have e1 : (fun k' => hasK l k' || decide (k' = k)) = hasK (stepK l k) := funext fun k' => by
    unfold stepK
    by_cases c : hasK l k = true
    · rw [if_pos c]
      by_cases e : k' = k
      · subst e; simp [c]
      · simp [e]
    · rw [if_neg c]
      unfold hasK
      rw [List.any_append]
      by_cases e : k' = k
      · subst e; simp
      · have e' : ¬ k = k' := fun z => e z.symm
        simp [e, e']
  have e2 : (if hasK l k = true then l.length else l.length + 1) = (stepK l k).length := by
    unfold stepK
    split
    · rfl
    · rw [List.length_append]; rfl
  unfold Has
  rw [← e1, ← e2]
  exact x
variable {A : Around} {R : Result → Shared → Prop} {I : Addr} {fp wr : List Addr} {G : Array GenState → Array GenState → Prop} {n : Nat} {P : Nat → Value → Prop} {St : Nat → Shared → Prop}
end
abbrev bare (led : Bool) : Obj := { cls := .type "set", dict := none, data := .set #[] 0 (.fresh 0 0 led) }
section
variable {pr : Program} {w : World} {A : Around} {E : Value → Shared → Prop} {s : Shared} {l : Addr} {its : Array Value} {ks : List Key}
end
section
variable {X : Cx}
end
end Bs
namespace Dz
open PySem PySem.Spec PyProof.Rows L2 Evl Bf
def lcO (ρ : Ro) (vs : List Nat) (g : DG) (t : DT) (φ1 : DI) (vs1 : List Nat) (g1 : DG) (t1 : DT) (e : DX) : List D → List D → (List D → Prop) → Prop
  | [], acc, Q => Q acc
  | x :: xs, acc, Q => g x (wipeR ρ vs) fun ρ' => t ρ' (fun b => if b = true then φ1 ρ' (fun items => acc.length + items.length ≤ big ∧ lcL ρ' vs1 g1 t1 e items acc fun acc' => lcO ρ vs g t φ1 vs1 g1 t1 e xs acc' Q) (fun _ => False)
      else lcO ρ vs g t φ1 vs1 g1 t1 e xs acc Q) (fun _ => False)
def xLc2 (φ : DI) (vs : List Nat) (g : DG) (t : DT) (φ1 : DI) (vs1 : List Nat) (g1 : DG) (t1 : DT) (e : DX) : DX := fun ρ A Ax => φ ρ (fun items => items.length ≤ big ∧ lcO ρ vs g t φ1 vs1 g1 t1 e items [] fun ys => A (.lst ys)) Ax
structure LcS {K : PySem.W.Frag} (T : Th K) (O : List Nat) (H1 : Hp) (ow0 : Addr → Prop) (fr : Fr) (ow : Addr → Prop) (p : Addr) (vd : List (V × D)) (σ : L2.St) (ρ : Ro) (G : Hp) (acc : List D) (av : List V) : Prop where
  ok : T.Ok G
  gr : T.Gr H1 G
  er : ER K G (fun a => ow0 a ∨ a = p) { vd := fr.vd, iw := fun a => fr.iw a ∨ a = p } O σ ρ
  vd : ∀ q ∈ vd, RepP K G ow p q.1 q.2
  pt : G p = some (.lst av)
  rep : RepL K G (fun a => ow a ∨ a = p) av acc
section
variable {K : PySem.W.Frag} {T : Th K} {O : List Nat} {H1 : Hp} {ow0 : Addr → Prop} {fr : Fr} {ow : Addr → Prop} {p : Addr} {vd : List (V × D)} {σ : L2.St} {ρ : Ro} {G L : Hp} {acc : List D} {av : List V}
theorem LcS.grow (s : LcS T O H1 ow0 fr ow p vd σ ρ G acc av) (g : T.Gr G L) (ok : T.Ok L) : LcS T O H1 ow0 fr ow p vd σ ρ L acc av :=
  ⟨ok, T.trans s.gr g, s.er.gr T g, fun q hq => (s.vd q hq).gr T g, T.keep g s.pt (fun _ z => by cases z), s.rep.gr T g⟩
theorem LcS.mp (s : LcS T O H1 ow0 fr ow p vd σ ρ G acc av) (ys : List V) : Mv K G (fun a => ow a ∨ a = p) (upd G p (.lst ys)) (fun a => ow a ∨ a = p) :=
  Mv.put s.pt (fun _ z => by cases z) (fun _ z => by cases z) (fun _ _ z => by cases z) (fun _ z => by cases z) (.inr rfl) fun a z => z
theorem LcS.erp (s : LcS T O H1 ow0 fr ow p vd σ ρ G acc av) (ys : List V) {τ : L2.St} {ρ2 : Ro} (er : ER K G (fun a => ow0 a ∨ a = p) { vd := fr.vd, iw := fun a => fr.iw a ∨ a = p } O τ ρ2) : ER K (upd G p (.lst ys)) (fun a => ow0 a ∨ a = p) { vd := fr.vd, iw := fun a => fr.iw a ∨ a = p } O τ ρ2 :=
  er.put0 s.pt (fun _ z => by cases z) (fun _ z => by cases z) (fun _ _ z => by cases z) (fun _ z => by cases z) (.inr rfl) (.inr rfl)
theorem LcS.push (s : LcS T O H1 ow0 fr ow p vd σ ρ G acc av) (hp : H1 p = none) {v : V} {y : D} (ry : Rep K G (fun a => ow a ∨ a = p) v y) : LcS T O H1 ow0 fr ow p vd σ ρ (upd G p (.lst (av ++ [v]))) (acc ++ [y]) (av ++ [v]) := by
  obtain ⟨p1, p2⟩ := T.put (o' := .lst (av ++ [v])) s.gr hp s.ok s.pt (fun _ z => by cases z) (fun _ z => by cases z) (fun _ z => by cases z) rfl rfl
  exact ⟨p1, p2, s.erp _ s.er, fun q hq => RepP.put s.pt (s.vd q hq), upd_same, (s.rep.mv (s.mp _)).append (.cons (ry.mv (s.mp _)) .nil)⟩
end
section
variable {X : Cx} {T : Th X.K} {W : WX} {O is vs is1 vs1 : List Nat} {tg iter tg1 iter1 elt : Expr} {ifs ifs1 : List Expr} {φ φ1 : DI} {g g1 : DG} {t t1 : DT} {e : DX} {pos : Pos} {scope : Scope} {own : List (Str × Nat)}
theorem drop_at {items : List D} {i : Nat} {d : D} (hlt : i < items.length) (hd : items[i]? = some d) : items.drop i = d :: items.drop (i + 1) := by
  rw [List.drop_eq_getElem_cons hlt]
  rw [List.getElem?_eq_getElem hlt] at hd
  rw [Option.some.inj hd]
theorem lc2_aux {σ : L2.St} {H : Hp} {Q : VK} (hv : (vs.all fun i => fre O i) = true) (hi : (is.all fun i => vs.contains i) = true) (hv1 : (vs1.all fun i => vs.contains i) = true) (hi1 : (is1.all fun i => vs1.contains i) = true) (h : efOf T W O (xLc2 φ vs g t φ1 vs1 g1 t1 e) σ H Q) :
    tLc2 (ioOf T W O φ) (gOf T O is g) (tOf T W0 O t) (iOf T W0 O φ1) (gOf T O is1 g1) (tOf T W0 O t1) (eOf T W0 O e) vs vs1 σ H Q := by
  obtain ⟨ρ, ow0, fr, A, Ax, ok, er, q, k, x⟩ := h
  have hV' : ∀ i ∈ vs, fre O i = true := fun i hi => List.all_eq_true.mp hv i hi
  have hV : ∀ i ∈ vs, i ∉ O := fun i hi => (fre_of (hV' i hi)).1
  have hI : ∀ i ∈ is, i ∈ vs := fun i h => by simpa using List.all_eq_true.mp hi i h
  have hV1 : ∀ i ∈ vs1, i ∈ vs := fun i h => by simpa using List.all_eq_true.mp hv1 i h
  have hI1 : ∀ i ∈ is1, i ∈ vs1 := fun i h => by simpa using List.all_eq_true.mp hi1 i h
  refine ⟨ρ, ow0, fr, _, Ax, ok, er, q, fun items J H1 vd ⟨hl, qi⟩ ok1 g1' rvd wk p hp => ?_, x⟩
  have er1 := er.gr T g1'
  obtain ⟨n1, n2⟩ := T.new (o := .lst []) ok1 hp rfl
  have er2 := (er1.more T hp n2).wipe hV'
  have eo : owOf (fun a => ow0 a ∨ a = p) O (wipe σ vs) = fun a => owOf ow0 O σ a ∨ a = p := by rw [ow_wipe hV, ow_more]
  refine ⟨fun i m G => m = items.length - i ∧ i ≤ items.length ∧ ∃ acc av, LcS T O H1 ow0 fr (owOf ow0 O σ) p vd (wipe σ vs) (wipeR ρ vs) G acc av ∧ lcO ρ vs g t φ1 vs1 g1 t1 e (items.drop i) acc fun ys => A (.lst ys),
    ⟨items.length, by simp, Nat.zero_le _, [], [], ⟨n1, n2, ⟨er2.val, er2.own, er2.frm, er2.dep, er2.nwq, er2.trk, er2.len, (fun v z => nomatch z), er2.sml⟩, fun q hq => RepP.of (rvd q hq) T hp n2, upd_same, .nil⟩, by rw [List.drop_zero]; exact qi⟩, ?_⟩
  rintro i m G ⟨rfl, hi, acc, av, sG, qG⟩
  have trG : ∀ a, (fun a => owOf ow0 O σ a ∨ a = p) a → G a ≠ none := by rw [← eo]; exact sG.er.otrk
  obtain ⟨w1, w2, w3⟩ := wk _ G sG.ok trG fun q hq => (sG.vd q hq).o
  by_cases hlt : i < items.length
  · refine .inr ⟨w1 i hlt, fun G' => i + 1 ≤ items.length ∧ ∃ acc av, LcS T O H1 ow0 fr (owOf ow0 O σ) p vd (wipe σ vs) (wipeR ρ vs) G' acc av ∧ lcO ρ vs g t φ1 vs1 g1 t1 e (items.drop (i + 1)) acc fun ys => A (.lst ys), fun G' h' => ⟨items.length - (i + 1), by omega, rfl, h'⟩, fun x G2 y => ?_⟩
    obtain ⟨ok2, g2, d, hd, rx⟩ := w3 i x G2 hlt y
    rw [drop_at hlt hd] at qG
    have s2 := sG.grow g2 ok2
    rw [← eo] at rx
    refine ⟨wipeR ρ vs, _, { vd := fr.vd, iw := fun a => fr.iw a ∨ a = p }, d, _, ok2, s2.er, rx, qG, fun τ ρ' erT sb qT => ⟨wipe_same sb hI, ?_⟩⟩
    have eoT : owOf (fun a => ow0 a ∨ a = p) O τ = fun a => owOf ow0 O σ a ∨ a = p := by
      rw [← eo]
      exact ow_same sb fun i z => hV i (hI i z)
    refine ⟨ρ', _, { vd := fr.vd, iw := fun a => fr.iw a ∨ a = p }, _, _, ok2, erT, qT, fun b L qb okL gL => ?_, fun x d G a => absurd a (fun z => z)⟩
    have sL := s2.grow gL okL
    cases b with
    | false => exact ⟨hlt, acc, av, sL, qb⟩
    | true =>
      have erL := erT.gr T gL
      refine ⟨ρ', _, { vd := fr.vd, iw := fun a => fr.iw a ∨ a = p }, _, _, okL, erL, qb, fun items1 J1 H4 vd1 ⟨hl1, q1⟩ ok4 g4 rv1 wk1 => ?_, fun x d G a => absurd a (fun z => z)⟩
      have s4 := sL.grow g4 ok4
      have er4 := (erL.gr T g4).wipe fun i hi => hV' i (hV1 i hi)
      have eo4 : owOf (fun a => ow0 a ∨ a = p) O (wipe τ vs1) = fun a => owOf ow0 O σ a ∨ a = p := by rw [ow_wipe fun i hi => hV i (hV1 i hi), eoT]
      rw [eoT] at rv1
      refine ⟨fun j k G => k = items1.length - j ∧ j ≤ items1.length ∧ ∃ acc1 av1, LcS T O H1 ow0 fr (owOf ow0 O σ) p vd (wipe σ vs) (wipeR ρ vs) G acc1 av1 ∧ ER X.K G (fun a => ow0 a ∨ a = p) { vd := fr.vd, iw := fun a => fr.iw a ∨ a = p } O (wipe τ vs1) (wipeR ρ' vs1) ∧
          (∀ q ∈ vd1, Rep X.K G (fun a => owOf ow0 O σ a ∨ a = p) q.1 q.2) ∧ acc1.length ≤ acc.length + j ∧ lcL ρ' vs1 g1 t1 e (items1.drop j) acc1 fun acc' => lcO ρ vs g t φ1 vs1 g1 t1 e (items.drop (i + 1)) acc' fun ys => A (.lst ys),
        ⟨items1.length, by simp, Nat.zero_le _, acc, av, s4, er4, rv1, Nat.le_refl _, by rw [List.drop_zero]; exact q1⟩, ?_⟩
      rintro j m5 G5 ⟨rfl, hj, acc1, av1, s5, er5, rv5, al5, q5⟩
      have tr5 : ∀ a, (fun a => owOf ow0 O σ a ∨ a = p) a → G5 a ≠ none := by rw [← eo]; exact s5.er.otrk
      obtain ⟨v1, v2, v3⟩ := wk1 _ G5 s5.ok tr5 fun q hq => .inl (rv5 q hq)
      by_cases hlt1 : j < items1.length
      · refine .inr ⟨v1 j hlt1, fun G' => j + 1 ≤ items1.length ∧ ∃ acc1 av1, LcS T O H1 ow0 fr (owOf ow0 O σ) p vd (wipe σ vs) (wipeR ρ vs) G' acc1 av1 ∧ ER X.K G' (fun a => ow0 a ∨ a = p) { vd := fr.vd, iw := fun a => fr.iw a ∨ a = p } O (wipe τ vs1) (wipeR ρ' vs1) ∧
          (∀ q ∈ vd1, Rep X.K G' (fun a => owOf ow0 O σ a ∨ a = p) q.1 q.2) ∧ acc1.length ≤ acc.length + (j + 1) ∧ lcL ρ' vs1 g1 t1 e (items1.drop (j + 1)) acc1 fun acc' => lcO ρ vs g t φ1 vs1 g1 t1 e (items.drop (i + 1)) acc' fun ys => A (.lst ys), fun G' h' => ⟨items1.length - (j + 1), by omega, rfl, h'⟩, fun x6 G6 y6 => ?_⟩
        obtain ⟨ok6, g6, d6, hd6, rx6⟩ := v3 j x6 G6 hlt1 y6
        rw [drop_at hlt1 hd6] at q5
        have s6 := s5.grow g6 ok6
        have er6 := er5.gr T g6
        rw [← eo4] at rx6
        refine ⟨wipeR ρ' vs1, _, { vd := fr.vd, iw := fun a => fr.iw a ∨ a = p }, d6, _, ok6, er6, rx6, q5, fun τ2 ρ2 erT2 sb2 qT2 => ⟨wipe_same sb2 hI1, ?_⟩⟩
        have eoT2 : owOf (fun a => ow0 a ∨ a = p) O τ2 = fun a => owOf ow0 O σ a ∨ a = p := by
          rw [← eo4]
          exact ow_same sb2 fun i z => hV i (hV1 i (hI1 i z))
        refine ⟨ρ2, _, { vd := fr.vd, iw := fun a => fr.iw a ∨ a = p }, _, _, ok6, erT2, qT2, fun b L7 qb7 ok7 g7 => ?_, fun x d G a => absurd a (fun z => z)⟩
        have s7 := s6.grow g7 ok7
        have er7 := er6.gr T g7
        have g57 := T.trans g6 g7
        cases b with
        | false => exact ⟨hlt1, acc1, av1, s7, er7, fun q hq => (rv5 q hq).gr T g57, by omega, qb7⟩
        | true =>
          refine ⟨ρ2, _, { vd := fr.vd, iw := fun a => fr.iw a ∨ a = p }, _, _, ok7, erT2.gr T g7, qb7, fun y v L8 qy ok8 g8 ry => ?_, fun x d G a => absurd a (fun z => z)⟩
          have s8 := s7.grow g8 ok8
          rw [eoT2] at ry
          have al2 : av1.length < 100000 := by
            have h1 : av1.length = acc1.length := s5.rep.length
            have h2 : acc.length + items1.length ≤ 100000 := hl1
            omega
          exact ⟨av1, s8.pt, sz_lt al2, hlt1, acc1 ++ [y], av1 ++ [v], s8.push hp ry, s8.erp _ (er7.gr T g8), fun q hq => ((rv5 q hq).gr T (T.trans g57 g8)).mv (s8.mp _), by rw [List.length_append]; show acc1.length + 1 ≤ _; omega, qy⟩
      · have e1 : j = items1.length := by omega
        subst e1
        rw [List.drop_length] at q5
        exact .inl ⟨v2, hlt, acc1, av1, s5, q5⟩
  · have e1 : i = items.length := by omega
    subst e1
    rw [List.drop_length] at qG
    exact .inl ⟨w2, k _ _ G qG sG.ok (T.trans g1' sG.gr) ⟨p, rfl, T.back g1' hp, .lst sG.pt sG.rep⟩⟩
theorem s_setLc2 {fz : Nat} {Ol : List Nat} {i : Nat} {y : Str} {py spos : Pos} (hc : X.calm = true) (hN : X.N.Nodup) (hy : X.N[i]? = some y) (hyl : X.env.scope.names.lookup y = some .local) (hsw : swapsWith (.ListComp elt [⟨tg, iter, ifs, 0⟩, ⟨tg1, iter1, ifs1, 0⟩] scope pos) (some (.Name y py)) spos.line X.env = pure true)
    (hi : PI X tg iter (ioOf T W O φ)) (ok : BlkOk X.N X.env.scope scope own)
    (hg : ∀ (s : Shared) (H : Hp) (C : Addr) (cl : List (Str × Addr)) (fp : List Addr), PG (X.blk s H scope (compEnvC scope cl C X.env) fp) tg (gOf (K := X.K) T O is g)) (ht : ∀ (s : Shared) (H : Hp) (C : Addr) (cl : List (Str × Addr)) (fp : List Addr), PTs (X.blk s H scope (compEnvC scope cl C X.env) fp) ifs (tOf (K := X.K) T W0 O t))
    (hi1 : ∀ (s : Shared) (H : Hp) (C : Addr) (cl : List (Str × Addr)) (fp : List Addr), PI (X.blk s H scope (compEnvC scope cl C X.env) fp) tg1 iter1 (iOf (K := X.K) T W0 O φ1))
    (hg1 : ∀ (s : Shared) (H : Hp) (C : Addr) (cl : List (Str × Addr)) (fp : List Addr), PG (X.blk s H scope (compEnvC scope cl C X.env) fp) tg1 (gOf (K := X.K) T O is1 g1)) (ht1 : ∀ (s : Shared) (H : Hp) (C : Addr) (cl : List (Str × Addr)) (fp : List Addr), PTs (X.blk s H scope (compEnvC scope cl C X.env) fp) ifs1 (tOf (K := X.K) T W0 O t1))
    (he : ∀ (s : Shared) (H : Hp) (C : Addr) (cl : List (Str × Addr)) (fp : List Addr), PE (X.blk s H scope (compEnvC scope cl C X.env) fp) elt (eOf (K := X.K) T W0 O e)) (hv : ((own.map (·.2)).all fun i => fre O i) = true) (hI : (is.all fun i => (own.map (·.2)).contains i) = true) (hv1 : (vs1.all fun i => (own.map (·.2)).contains i) = true) (hI1 : (is1.all fun i => vs1.contains i) = true)
    (hO : fre O i = true) (hs : ∀ x, foldedSetIterable iter X.env x = pure x := by intro _; rfl) (hs1 : ∀ env x, foldedSetIterable iter1 env x = pure x := by intro _ _; rfl) : PS X (.Assign [.Name y py] (.ListComp elt [⟨tg, iter, ifs, 0⟩, ⟨tg1, iter1, ifs1, 0⟩] scope pos) spos) (sOf T W fz O O Ol (sSet i (xLc2 φ (own.map (·.2)) g t φ1 vs1 g1 t1 e))) :=
  psI (ps_setLc2 (vs1 := vs1) hc hN hy hyl hsw hi ok (fun i h => by simpa using List.all_eq_true.mp hv1 i h) hg ht hi1 hg1 ht1 he hs hs1) fun M σ H h => by
    have z := set_aux hO M σ H h
    obtain ⟨ρ, ow0, fr, A, Ax, ok, er, q, k, x⟩ := z
    exact lc2_aux hv hI hv1 hI1 ⟨ρ, ow0, fr, A, Ax, ok, er, q, fun d v G a o g r => k d v G a o g (r.rep er.otrk), x⟩
end
end Dz
namespace Dz
open PySem PySem.Spec PyProof.Rows L2 Evl Bf
def kD : Key → D
  | .inl i => .int i
  | .inr s => .str s
def D.key : D → Option Key
  | .int i => some (.inl i)
  | .str s => some (.inr s)
  | _ => none
def D.keys : List D → Option (List Key)
  | [] => some []
  | d :: ds => match d.key with
    | some k => match D.keys ds with | some r => some (k :: r) | none => none
    | none => none
theorem key_of {d : D} {k : Key} (h : d.key = some k) : d = kD k := by
  cases d with
  | int i => cases h; rfl
  | str s => cases h; rfl
  | _ => cases h
theorem rep_key {K : PySem.W.Frag} {H : Hp} {ow : Addr → Prop} (k : Key) : Rep K H ow (kV k) (kD k) := by
  cases k with
  | inl i => exact .int i
  | inr s => exact .str s
theorem repL_keyD {K : PySem.W.Frag} {H : Hp} {ow : Addr → Prop} : ∀ (ks : List Key), RepL K H ow (ks.map kV) (ks.map kD)
  | [] => .nil
  | k :: ks => .cons (rep_key k) (repL_keyD ks)
theorem repK_keys {K : PySem.W.Frag} {H : Hp} {ow : Addr → Prop} : ∀ {vs : List (Key × V)} {ds : List (Key × D)}, RepK K H ow vs ds → vs.map (·.1) = ds.map (·.1)
  | _, _, .nil => rfl
  | _, _, .cons a t => by rw [List.map_cons, List.map_cons, repK_keys t]
section
variable {X : Cx} {T : Th X.K}
def dListD : List D → Option D
  | [.dic kvs] => some (.lst (kvs.map fun p => kD p.1))
  | _ => none
theorem cd_listD : CallD T (fun xs H Q => ∃ (a : Addr) (kvs : List (Key × V)), xs = [.ref a] ∧ Rd H a (.dK kvs) ∧ ∀ p, H p = none → Q (.ref p) (upd H p (.lst (kvs.map fun kv => kV kv.1)))) 1 dListD := by
  intro H ow vs ds z Q ok tr r hg k
  unfold dListD at hg
  split at hg
  · rename_i kvs
    cases hg
    obtain ⟨v, rfl, rv⟩ := pair1 r
    obtain ⟨p, ws, rfl, hp, rp⟩ := o_dic rv
    refine ⟨p, ws, rfl, hp, fun l hl => ?_⟩
    have e := repK_keys rp
    have e1 : (ws.map fun kv => kV kv.1) = (kvs.map (·.1)).map kV := by rw [← e, List.map_map]; rfl
    have e2 : (kvs.map fun p => kD p.1) = (kvs.map (·.1)).map kD := by rw [List.map_map]; rfl
    rw [e1]
    obtain ⟨h1, h2, h3⟩ := new_own (ow := ow) ok hl (repL_keyD (K := X.K) (H := H) (kvs.map (·.1)))
    exact k _ _ h1 h2 ⟨l, rfl, hl, by rw [e2]; exact h3⟩
  · cases hg
theorem call_lenDR {X : Cx} : CallR X (.builtin "len") (fun xs H Q => ∃ a kvs, xs = [V.ref a] ∧ Rd H a (.dK kvs) ∧ Q (.int kvs.length) H) := by
  intro pins s σ H xs us Q I r h
  obtain ⟨a, kvs, rfl, ha, q⟩ := h
  obtain ⟨u, rfl, ru⟩ := vals1 r
  cases ru
  exact d_len I ha fun t s' I' => ⟨.int kvs.length, H, I', ⟨t, rfl⟩, q⟩
theorem cd_lenD : CallD T (fun xs H Q => ∃ a kvs, xs = [V.ref a] ∧ Rd H a (.dK kvs) ∧ Q (.int kvs.length) H) 0 dLenD := by
  intro H ow vs ds z Q ok tr r hg k
  unfold dLenD at hg
  split at hg
  · cases hg
    obtain ⟨v, rfl, rv⟩ := pair1 r
    obtain ⟨p, ws, rfl, hp, rp⟩ := o_dic rv
    have e := congrArg List.length (repK_keys rp)
    rw [List.length_map, List.length_map] at e
    exact ⟨p, ws, rfl, hp, by rw [e]; exact k _ H ok (T.refl H) (.int _)⟩
  · cases hg
def dSortedDk : List D → Option D
  | [.dic kvs] => match D.strs (kvs.map fun p => kD p.1) with
    | some ss => if ss.length < 64 then some (.lst ((srt ss).map .str)) else none
    | none => none
  | _ => none
theorem kD_strs : ∀ {ks : List Key} {ss : List Str}, ks.map kD = ss.map D.str → ks = ss.map Sum.inr
  | [], [], _ => rfl
  | [], _ :: _, h => by cases h
  | _ :: _, [], h => by cases h
  | .inl i :: ks, s :: ss, h => by cases h
  | .inr x :: ks, s :: ss, h => by
    rw [List.map_cons, List.map_cons] at h
    injection h with h1 h2
    cases h1
    rw [kD_strs h2]
    rfl
theorem cd_sortedDk : CallD T (fun xs H Q => ∃ (a : Addr) (kvs : List (Key × V)) (ks : List Str), xs = [.ref a] ∧ Rd H a (.dK kvs) ∧ kvs.map (·.1) = ks.map Sum.inr ∧ ks.length < 64 ∧
    ∀ ys p, ys.Perm ks → sortedS ys = true → H p = none → Q (.ref p) (upd H p (.lst (ys.map V.str)))) 1 dSortedDk := by
  intro H ow vs ds z Q ok tr r hg k
  unfold dSortedDk at hg
  split at hg
  · rename_i kvs
    split at hg
    · rename_i ss hs
      split at hg
      · rename_i hl
        cases hg
        obtain ⟨v, rfl, rv⟩ := pair1 r
        obtain ⟨p, ws, rfl, hp, rp⟩ := o_dic rv
        have e2 : (kvs.map fun p => kD p.1) = (kvs.map (·.1)).map kD := by rw [List.map_map]; rfl
        have e := strs_of hs
        rw [e2] at e
        refine ⟨p, ws, ss, rfl, hp, (repK_keys rp).trans (kD_strs e), hl, fun ys l hy hsy hl2 => ?_⟩
        rw [srt_eq hy hsy]
        obtain ⟨h1, h2, h3⟩ := new_own (ow := ow) ok hl2 (strs_repL (K := X.K) (H := H) (srt ss))
        exact k _ _ h1 h2 ⟨l, rfl, hl2, h3⟩
      · cases hg
    · cases hg
  · cases hg
def srtI (l : List Int) : List Int := l.mergeSort fun a b => decide (a ≤ b)
def xLenSet (φ : DX) : DX := fun ρ A Ax => φ ρ (fun x => ∃ xs ks, x = .lst xs ∧ D.keys xs = some ks ∧ ks.length ≤ 4000 ∧ A (.int (Bs.ddK ks).length)) Ax
end
end Dz
namespace PySem
open PySem.Spec PySem.AutoSeq1
end PySem
namespace Dz
open PySem PySem.Spec PyProof.Rows L2 Evl Bf
section
variable {X : Cx}
end
end Dz
namespace Dz
open PySem PySem.Spec PyProof.Rows L2 Evl Bf
end Dz
namespace Dz
open PySem PySem.Spec PyProof.Rows L2 Evl Bf
def xJoin (φo φe : DX) : DX := fun ρ A Ax => φo ρ (fun s => ∃ a, s = .str a ∧ φe ρ (fun l => ∃ xs ys, l = .lst xs ∧ D.strs xs = some ys ∧ (ys.map (·.length)).sum + ys.length * a.length ≤ 16777216 ∧ A (.str (Txt.join a ys))) Ax) Ax
theorem be_join {X : Cx} {T : Th X.K} {W : WX} {O : List Nat} {o e : Expr} {φo φe : DX} {apos pos : Pos} (ho : PE X o (eOf T W O φo)) (he : PE X e (eoOf T W O φe)) (hs : starEach [e] X.env = [(false, eval e X.env)] := by rfl) (hbase : attributeBase o "join" X.env (eval o X.env) = eval o X.env := by rfl) (hline : (apos.endLine == pos.line) = true := by rfl) :
    PE X (.Call (.Attribute o "join" apos) [e] [] pos) (eOf T W O (xJoin φo φe)) :=
  peI (pe_join ho he hs hbase hline) fun σ H Q ⟨ρ, ow0, fr, A, Ax, ok, er, q, k, x⟩ => ⟨ρ, ow0, fr, _, Ax, ok, er, q, fun d v G ⟨a, e1, qz⟩ okG gG rv => (by
    subst e1
    have ev : v = .str a := by cases rv; rfl
    refine ⟨⟨a, ev⟩, ρ, ow0, fr, _, Ax, okG, er.gr T gG, qz, fun d2 v2 G2 ⟨xs, ys, e2, e3, hl, qy⟩ ok2 g2 rv2 => ?_, x.gr gG⟩
    subst e2
    obtain ⟨p, ws, rfl, hp, rp⟩ := o_lst rv2
    rw [strs_of e3] at rp
    rw [repL_strs rp] at hp
    exact ⟨a, p, ys, ev, rfl, .inl (.inl (.inl hp)), hl, k _ _ G2 qy ok2 (T.trans gG g2) (.str _)⟩), x⟩
def dXor : D → D → Option D
  | .int i, .int j => some (.int (Builtin.bitXor i j))
  | _, _ => none
end Dz
namespace Dz
open PySem PySem.Spec PyProof.Rows L2 Evl Bf
def pairD : D → Option (Key × D)
  | .tup [k, v] => match k.key with | some k => some (k, v) | none => none
  | _ => none
def pairsOf : List D → Option (List (Key × D))
  | [] => some []
  | d :: ds => match pairD d with
    | some p => match pairsOf ds with | some r => some (p :: r) | none => none
    | none => none
def dDictP : List D → Option D
  | [.lst ds] => match pairsOf ds with
    | some kvs => some (.dic (mergeD [] kvs))
    | none => none
  | _ => none
theorem pair_of {d : D} {p : Key × D} (h : pairD d = some p) : d = .tup [kD p.1, p.2] := by
  unfold pairD at h
  split at h
  · split at h
    · rename_i k hk
      cases h
      rw [key_of hk]
    · cases h
  · cases h
theorem pairs_rep {K : PySem.W.Frag} {H : Hp} {ow : Addr → Prop} : ∀ {ds : List D} {kd : List (Key × D)} {ws : List V}, pairsOf ds = some kd → RepL K H ow ws ds → ∃ (ps : List Addr) (kvs : List (Key × V)), ws = ps.map V.ref ∧ Paired (fun p kv => SqT K H p [kV kv.1, kv.2]) ps kvs ∧ RepK K H ow kvs kd
  | [], kd, _, h, .nil => by cases h; exact ⟨[], [], rfl, .nil, .nil⟩
  | d :: ds, kd, _, h, .cons r t => by
    rw [pairsOf] at h
    split at h
    · rename_i p hp
      split at h
      · rename_i rr hr
        cases h
        obtain ⟨ps, kvs, e, h1, h2⟩ := pairs_rep hr t
        obtain ⟨k, dv⟩ := p
        have ed := pair_of hp
        subst ed
        cases r with
        | @tup a vs _ ha hv =>
          cases hv with
          | cons r1 t1 => cases t1 with
            | cons r2 t2 =>
              cases t2
              rename_i v1 v2
              have ek : v1 = kV k := by
                cases k with
                | inl i => cases r1; rfl
                | inr s => cases r1; rfl
              subst ek
              exact ⟨a :: ps, (k, v2) :: kvs, by rw [e]; rfl, .cons (SqH ha) h1, .cons r2 h2⟩
      · cases h
    · cases h
theorem cd_dictP {X : Cx} {T : Th X.K} : CallD T (fun xs H Q => ∃ (a : Addr) (ps : List Addr) (kvs : List (Key × V)), xs = [.ref a] ∧ SqL X.K H a (ps.map V.ref) ∧ Paired (fun p kv => SqT X.K H p [kV kv.1, kv.2]) ps kvs ∧
    ∀ p, H p = none → Q (.ref p) (upd H p (.dK (mergeK [] kvs)))) 1 dDictP := by
  intro H ow vs ds z Q ok tr r hg k
  unfold dDictP at hg
  split at hg
  · split at hg
    · rename_i xs kd hk
      cases hg
      obtain ⟨v, rfl, rv⟩ := pair1 r
      obtain ⟨p, ws, rfl, hp, rp⟩ := o_lst rv
      obtain ⟨ps, kvs, e, h1, h2⟩ := pairs_rep hk rp
      subst e
      refine ⟨p, ps, kvs, rfl, .inl (.inl hp), h1, fun l hl => ?_⟩
      obtain ⟨g1, g2, g3⟩ := new_ownD (ow := ow) ok hl (RepK.merge h2 .nil)
      exact k _ _ g1 g2 ⟨l, rfl, hl, g3⟩
    · cases hg
  · cases hg
end Dz
namespace Dz
open PySem PySem.Spec PyProof.Rows L2 Evl Bf
def sPar (i j : Nat) (φs : DA) : DS := fun E ρ => φs ρ (fun ds => ∃ d e, ds = [d, e] ∧ E.nx ((ρ.set i (some d)).set j (some e))) fun x => E.ex x ρ
theorem s_par {X : Cx} {T : Th X.K} {W : WX} {fz : Nat} {O Ol : List Nat} {i j : Nat} {x y : Str} {a b : Expr} {φs : DA} {px py pt pos : Pos} {kt k2 pt2} (hc : X.calm = true) (hN : X.N.Nodup) (hi : X.N[i]? = some x) (hj : X.N[j]? = some y) (hij : i ≠ j)
    (hx : X.env.scope.names.lookup x = some .local) (hy : X.env.scope.names.lookup y = some .local) (hO : fre O i = true) (hO2 : fre O j = true) (ha : PA X [a, b] (aOf T W O 2 φs))
    (hw : swappedStores [.Tuple [.Name x px, .Name y py] kt pt] (.Tuple [a, b] k2 pt2) X.env = pure (some [x, y]))
    (hs : swapsWithSole [.Tuple [.Name x px, .Name y py] kt pt] (.Tuple [a, b] k2 pt2) pos.line X.env = pure false := by rfl) :
    PS X (.Assign [.Tuple [.Name x px, .Name y py] kt pt] (.Tuple [a, b] k2 pt2) pos) (sOf T W fz O O Ol (sPar i j φs)) :=
  psI (ps_par hc hN hi hj hij hx hy ha hw hs) fun M σ H ⟨ρ, H0, owi, ow0, fr, E, s, _, k, q⟩ => by
    refine ⟨ρ, ow0, fr, fun ds => ∃ d e, ds = [d, e] ∧ E.nx ((ρ.set i (some d)).set j (some e)), _, s.ok, s.er, q, fun ds vs G ⟨d, e, ed, qd⟩ _ ok g r => ?_, k.x s⟩
    subst ed
    cases r with
    | cons r1 t => cases t with
      | cons r2 t2 =>
        cases t2
        have sG := s.go ok g
        refine ⟨_, _, rfl, k.nx _ G _ ow0 ((sG.set hO r1).set hO2 ?_) qd⟩
        rw [ow_set (fre_of hO).1]
        exact r2
end Dz
namespace Dz
open PySem PySem.Spec PyProof.Rows L2 Evl Bf
def sDead : DS := fun _ _ => False
end Dz
namespace Bs
open PySem PySem.Spec PyProof.Rows L2
abbrev lt2 (x y : Str) : Bool := decide (x.cps.toList < y.cps.toList)
section
variable {pr : Program} {w : World} {A : Around} {E : Value → Shared → Prop} {s : Shared} {Q : Value → Shared → Prop} {x y : Str} {t u : Tok}
def two (x y : Str) (i : Nat) : Str := if i = 0 then x else y
theorem two_at {i : Nat} {v : Value} (h : (#[Value.str x t, Value.str y u] : Array Value)[i]? = some v) : ∃ t', v = .str (two x y i) t' := by
  match i, h with
  | 0, h => exact ⟨t, (Option.some.inj h).symm⟩
  | 1, h => exact ⟨u, (Option.some.inj h).symm⟩
  | n + 2, h => simp at h
theorem min_txt (hh : A.handled = none) (h : ∀ h' tk t', (∀ c o, s.heap.get? c = some o → h'.get? c = some o) → Q (.str (if lt2 y x = true then y else x) t') { s with heap := h', toks := tk }) :
    wpAny (model pr w) A (call (.builtin "min") [.str x t, .str y u]) Q E s := by
  have hT : (s.heap.push { cls := .type "tuple", data := .seq #[Value.str x t, Value.str y u] }).IsTuple s.heap.objs.size #[Value.str x t, Value.str y u] := ⟨_, Heap.get?_push_size _ rfl, rfl, 0, rfl⟩
  have sz : (s.heap.push { cls := .type "tuple", data := .seq #[Value.str x t, Value.str y u] }).objs.size = s.heap.objs.size + 1 := Heap.size_push ..
  refine call_min_two (wpAny_pyIter_tuple hT ?_)
  refine ⟨_, [_, s.heap.objs.size], [_], _, _, _, fun i j => lt2 (two x y i) (two x y j), rfl, Walks.tuple (A := A.in1) hh _ s.heap.objs.size (by rw [sz]; exact Nat.ne_of_lt (Nat.lt_succ_self _)) #[Value.str x t, Value.str y u],
    ⟨⟨_, Heap.get?_push_size _ rfl, rfl, rfl⟩, hT.push _⟩, fun c hc => ?_, by simp, fun i j vi vj s Q E hi hj hq => ?_, fun v h' tk hP hk => ?_⟩
  · show c < ((s.heap.push _).push _).objs.size
    rw [Heap.size_push, sz]
    rcases List.mem_cons.mp hc with rfl | hc
    · rw [sz]; exact Nat.lt_succ_self _
    · rw [List.mem_singleton.mp hc]; exact Nat.lt_succ_of_lt (Nat.lt_succ_self _)
  · obtain ⟨t1, rfl⟩ := two_at hi
    obtain ⟨t2, rfl⟩ := two_at hj
    exact (lt_str hq : wpAny (model pr w) A.in1 (compareOp .Lt (.str _ t1) (.str _ t2)) _ _ _)
  · have old : ∀ c o, s.heap.get? c = some o → h'.get? c = some o := fun c o e => by
      refine hk c o (fun hm => ?_) (Heap.get?_push_of_some _ (Heap.get?_push_of_some _ e))
      have := Heap.lt_size e
      rw [List.mem_singleton.mp hm, sz] at this
      exact Nat.lt_irrefl _ (Nat.lt_of_succ_lt this)
    obtain ⟨t', rfl⟩ := two_at hP
    have e : two x y (argBest (fun i j => lt2 (two x y i) (two x y j)) 1) = if lt2 y x = true then y else x := by
      show two x y (if lt2 (two x y 1) (two x y 0) = true then 1 else 0) = _
      by_cases c : lt2 y x = true
      · rw [if_pos c, if_pos (show lt2 (two x y 1) (two x y 0) = true from c)]; rfl
      · rw [if_neg c, if_neg (show ¬ lt2 (two x y 1) (two x y 0) = true from c)]; rfl
    have q := h h' tk t' old
    rw [← e] at q
    exact q
theorem max_txt (hh : A.handled = none) (h : ∀ h' tk t', (∀ c o, s.heap.get? c = some o → h'.get? c = some o) → Q (.str (if lt2 x y = true then y else x) t') { s with heap := h', toks := tk }) :
    wpAny (model pr w) A (call (.builtin "max") [.str x t, .str y u]) Q E s := by
  have hT : (s.heap.push { cls := .type "tuple", data := .seq #[Value.str x t, Value.str y u] }).IsTuple s.heap.objs.size #[Value.str x t, Value.str y u] := ⟨_, Heap.get?_push_size _ rfl, rfl, 0, rfl⟩
  have sz : (s.heap.push { cls := .type "tuple", data := .seq #[Value.str x t, Value.str y u] }).objs.size = s.heap.objs.size + 1 := Heap.size_push ..
  refine call_max_two (wpAny_pyIter_tuple hT ?_)
  refine ⟨_, [_, s.heap.objs.size], [_], _, _, _, fun i j => lt2 (two x y j) (two x y i), rfl, Walks.tuple (A := A.in1) hh _ s.heap.objs.size (by rw [sz]; exact Nat.ne_of_lt (Nat.lt_succ_self _)) #[Value.str x t, Value.str y u],
    ⟨⟨_, Heap.get?_push_size _ rfl, rfl, rfl⟩, hT.push _⟩, fun c hc => ?_, by simp, fun i j vi vj s Q E hi hj hq => ?_, fun v h' tk hP hk => ?_⟩
  · show c < ((s.heap.push _).push _).objs.size
    rw [Heap.size_push, sz]
    rcases List.mem_cons.mp hc with rfl | hc
    · rw [sz]; exact Nat.lt_succ_self _
    · rw [List.mem_singleton.mp hc]; exact Nat.lt_succ_of_lt (Nat.lt_succ_self _)
  · obtain ⟨t1, rfl⟩ := two_at hi
    obtain ⟨t2, rfl⟩ := two_at hj
    exact (PySem.P.gt_str hq : wpAny (model pr w) A.in1 (compareOp .Gt (.str _ t1) (.str _ t2)) _ _ _)
  · have old : ∀ c o, s.heap.get? c = some o → h'.get? c = some o := fun c o e => by
      refine hk c o (fun hm => ?_) (Heap.get?_push_of_some _ (Heap.get?_push_of_some _ e))
      have := Heap.lt_size e
      rw [List.mem_singleton.mp hm, sz] at this
      exact Nat.lt_irrefl _ (Nat.lt_of_succ_lt this)
    obtain ⟨t', rfl⟩ := two_at hP
    have e : two x y (argBest (fun i j => lt2 (two x y j) (two x y i)) 1) = if lt2 x y = true then y else x := by
      show two x y (if lt2 (two x y 0) (two x y 1) = true then 1 else 0) = _
      by_cases c : lt2 x y = true
      · rw [if_pos c, if_pos (show lt2 (two x y 0) (two x y 1) = true from c)]; rfl
      · rw [if_neg c, if_neg (show ¬ lt2 (two x y 0) (two x y 1) = true from c)]; rfl
    have q := h h' tk t' old
    rw [← e] at q
    exact q
end
theorem cr_min2S {X : Cx} (hc : X.calm = true) : CallR X (.builtin "min") (fun xs H Q => ∃ i j, xs = [.str i, .str j] ∧ Q (.str (if lt2 j i = true then j else i)) H) := by
  intro pins s σ H xs us Q I r h
  obtain ⟨i, j, rfl, q⟩ := h
  obtain ⟨u, v, rfl, ⟨t, rfl⟩, ⟨t', rfl⟩⟩ := vals2 r
  exact min_txt (I.ok.hd hc) fun h' tk t2 k => ⟨.str _, H, I.kept k, ⟨_, rfl⟩, q⟩
theorem cr_max2S {X : Cx} (hc : X.calm = true) : CallR X (.builtin "max") (fun xs H Q => ∃ i j, xs = [.str i, .str j] ∧ Q (.str (if lt2 i j = true then j else i)) H) := by
  intro pins s σ H xs us Q I r h
  obtain ⟨i, j, rfl, q⟩ := h
  obtain ⟨u, v, rfl, ⟨t, rfl⟩, ⟨t', rfl⟩⟩ := vals2 r
  exact max_txt (I.ok.hd hc) fun h' tk t2 k => ⟨.str _, H, I.kept k, ⟨_, rfl⟩, q⟩
end Bs
namespace Dz
open PySem PySem.Spec PyProof.Rows L2 Evl Bf
def dMin2 : List D → Option D
  | [.str i, .str j] => some (.str (if Bs.lt2 j i = true then j else i))
  | _ => none
def dMax2 : List D → Option D
  | [.str i, .str j] => some (.str (if Bs.lt2 i j = true then j else i))
  | _ => none
theorem cd_min2S {X : Cx} {T : Th X.K} : CallD T (fun xs H Q => ∃ i j, xs = [.str i, .str j] ∧ Q (.str (if Bs.lt2 j i = true then j else i)) H) 0 dMin2 := by
  intro H ow vs ds z Q ok tr r hg k
  unfold dMin2 at hg
  split at hg
  · cases hg
    obtain ⟨v, w, rfl, r1, r2⟩ := pair2 r
    rw [o_str r1, o_str r2]
    exact ⟨_, _, rfl, k _ H ok (T.refl H) (.str _)⟩
  · cases hg
theorem cd_max2S {X : Cx} {T : Th X.K} : CallD T (fun xs H Q => ∃ i j, xs = [.str i, .str j] ∧ Q (.str (if Bs.lt2 i j = true then j else i)) H) 0 dMax2 := by
  intro H ow vs ds z Q ok tr r hg k
  unfold dMax2 at hg
  split at hg
  · cases hg
    obtain ⟨v, w, rfl, r1, r2⟩ := pair2 r
    rw [o_str r1, o_str r2]
    exact ⟨_, _, rfl, k _ H ok (T.refl H) (.str _)⟩
  · cases hg
end Dz
namespace Dz
open PySem PySem.Spec PyProof.Rows L2 Evl Bf
end Dz
namespace Bs
open PySem PySem.Spec PyProof.Rows L2
def kl (l : List Str) : List (Int ⊕ List Nat) := l.map fun x => Sum.inr x.cps.toList
theorem items_kl : ∀ {vs : List Value} {l : List Str} (i : Nat), StrsAre vs l → tupItems (fun _ => true) i vs = some (kl l)
  | _, _, i, .nil => rfl
  | _, _, i, .cons x t r => by
    show (if (true : Bool) = true then (tupItems (fun _ => true) (i + 1) _).map (Sum.inr x.cps.toList :: ·) else none) = _
    rw [if_pos rfl, items_kl (i + 1) r]
    rfl
section
variable {h : Heap} {p : Addr} {its : List Value} {l : List Str}
theorem key_at (ht : IsTup h p its.toArray) (hs : StrsAre its l) : G.tupKeyC h (fun _ => true) (.ref p) = some (kl l) := by
  obtain ⟨o, ho, hc, n, hd⟩ := ht
  have e1 : G.isTupObj h (.ref p) = true := by
    show (match h.get? p with | some o => (match o.cls with | .type n => n == "tuple" | _ => false) | none => false) = true
    rw [ho]
    show (match o.cls with | .type n => n == "tuple" | _ => false) = true
    rw [hc]
    rfl
  unfold G.tupKeyC
  rw [if_pos e1]
  show (match h.get? p with | some o => (match o.data with | .seq xs _ => tupItems (fun _ => true) 0 xs.toList | _ => none) | none => none) = _
  rw [ho]
  show (match o.data with | .seq xs _ => tupItems (fun _ => true) 0 xs.toList | _ => none) = _
  rw [hd]
  exact items_kl 0 (by simpa using hs)
end
structure TxT (X : Cx) (h : Heap) (p : Addr) (l : List Str) : Prop where
  at_ : ∃ its : List Value, StrsAre its l ∧ IsTup h p its.toArray
  ne : l ≠ []
theorem TxT.key {X : Cx} {h : Heap} {p : Addr} {l : List Str} (t : TxT X h p l) : G.tupKeyC h (fun _ => true) (.ref p) = some (kl l) := by
  obtain ⟨its, h1, h2⟩ := t.at_
  exact key_at h2 h1
end Bs
namespace Bs
open PySem PySem.Spec PyProof.Rows L2
abbrev KO : KeyOrd := listOrd itemOrd
def leT (a b : List Str) : Bool := !KO.blt (kl b) (kl a)
def srtT (l : List (List Str)) : List (List Str) := l.mergeSort leT
structure TxH (K : PySem.W.Frag) (H : Hp) (p : Addr) (l : List Str) : Prop where
  at_ : SqT K H p (l.map V.str)
  ne : l ≠ []
end Bs
namespace Dz
open PySem PySem.Spec PyProof.Rows L2 Evl Bf
def xDead : DX := fun _ _ _ => False
def tupS' (l : List Str) : D := .tup (l.map D.str)
def lotD : D → Option (List Str)
  | .tup xs => match D.strs xs with
    | some [] => none
    | some ss => some ss
    | none => none
  | _ => none
def lotsD : List D → Option (List (List Str))
  | [] => some []
  | d :: ds => match lotD d, lotsD ds with
    | some l, some ls => some (l :: ls)
    | _, _ => none
theorem lot_of {d : D} {l : List Str} (h : lotD d = some l) : d = tupS' l ∧ l ≠ [] := by
  unfold lotD at h
  split at h
  · split at h
    · cases h
    · rename_i ss hn hs
      cases h
      exact ⟨by rw [tupS', ← strs_of hs], fun z => hn z⟩
    · cases h
  · cases h
theorem lots_of : ∀ {ds : List D} {ls : List (List Str)}, lotsD ds = some ls → ds = ls.map tupS' ∧ ∀ l ∈ ls, l ≠ []
  | [], ls, h => by cases h; exact ⟨rfl, fun l hl => absurd hl List.not_mem_nil⟩
  | d :: ds, ls, h => by
    unfold lotsD at h
    split at h
    · rename_i l ls' h1 h2
      cases h
      obtain ⟨a1, a2⟩ := lot_of h1
      obtain ⟨b1, b2⟩ := lots_of h2
      exact ⟨by rw [a1, b1]; rfl, fun x hx => (List.mem_cons.mp hx).elim (fun e => e ▸ a2) (b2 x)⟩
    · cases h
def dSortedT : List D → Option D
  | [.lst ds] => match lotsD ds with
    | some ls => some (.lst ((Bs.srtT ls).map tupS'))
    | none => none
  | _ => none
def dSortedY : List D → Option D
  | [.lst ds] => match D.strs ds with
    | some ss => if ss.length < 64 then some (.lst ((srt ss).map .str)) else none
    | none => dSortedT [.lst ds]
  | _ => none
theorem py_noDict : ∀ {d : D} {p : PyData}, d.py = some p → p.hasDict = false
  | .non, _, h => by cases h; rfl
  | .bl _, _, h => by cases h; rfl
  | .int _, _, h => by cases h; rfl
  | .str _, _, h => by cases h; rfl
  | .lst xs, p, h => by
    unfold D.py at h
    split at h
    · rename_i ys h1
      cases h
      exact pyL_noDict h1
    · cases h
  | .tup xs, p, h => by
    unfold D.py at h
    split at h
    · rename_i ys h1
      cases h
      exact pyL_noDict h1
    · cases h
  | .dic _, _, h => by cases h
  | .ins _ _, _, h => by cases h
  | .ty _, _, h => by cases h
  | .cls _, _, h => by cases h
  | .scr _, _, h => by cases h
  | .exc _ _ _ _, _, h => by cases h
  | .well _, _, h => by cases h
  | .fam _ _ _, _, h => by cases h
  | .dit _, _, h => by cases h
where pyL_noDict : ∀ {ds : List D} {ps : List PyData}, pyL ds = some ps → PyData.hasDictAll ps = false
  | [], _, h => by cases h; rfl
  | d :: ds, ps, h => by
    unfold pyL at h
    split at h
    · rename_i p qs h1 h2
      cases h
      show (p.hasDict || PyData.hasDictAll qs) = false
      rw [py_noDict h1, pyL_noDict h2]; rfl
    · cases h
structure RpOk (p : PyData) : Prop where
  sh : p.showable = true
  sz : p.shown.length ≤ sizeLine
  dp : p.depth ≤ 60
end Dz
namespace Dz
open PySem PySem.Spec PyProof.Rows L2 Evl Bf
section
variable {K : PySem.W.Frag} {T : Th K} {H0 H : Hp} {owi ow0 : Addr → Prop} {fr : Fr} {O : List Nat} {σ : L2.St} {ρ : Ro}
end
structure EachOp (K : PySem.W.Frag) (fV : List V → List V) (fD : List D → List D) : Prop where
  own : ∀ {G : Hp} {g : List Addr} {vs : List V} {ds : List D}, OwnL K G tt g vs ds → ∃ g', OwnL K G tt g' (fV vs) (fD ds) ∧ ∀ a, g'.count a ≤ g.count a
def liftL (fD : List D → List D) : D → D
  | .lst es => .lst (fD es)
  | d => d
def sForW (i j : Nat) (fD : List D → List D) : DS := fun E ρ => ∃ ds, ρ[i]? = some (some (.lst ds)) ∧ j < ρ.length ∧ (∀ d ∈ ds, ∃ es, d = .lst es ∧ es.length < big) ∧ E.nx ((ρ.set i (some (.lst (ds.map (liftL fD))))).set j none)
section
variable {X : Cx} {T : Th X.K} {W : WX} {fz : Nat} {O Ol : List Nat} {body : List Stmt} {pos px py : Pos} {fV : List V → List V} {fD : List D → List D}
end
end Dz
namespace Bf
open PySem PySem.Spec PyProof.Rows L2
structure FnG (P : Program) (w : World) (K : PySem.W.Frag) (mg : Str → Option Value) (base : Heap) (CX : CXT) (k : Nat) (f : Addr) (fd : FuncData) (ps : List Str) (sp : Sp) : Prop where
  len : ∀ vs H Q E, sp vs H Q E → vs.length = ps.length
  run : ∀ {A : Around} {outer : List Env} {s : Shared} {H : Hp} {args : Args} {us : List Value} {vs : List V} {Q : VK} {E : XK}, A.guards = some [] → Room k A → Env0 P w K mg base A outer s H →
    BindsTo s fd args (ps.zip us) → Vals vs us → sp vs H Q E → codeAny (model P w) A (.call (.ref f) args) (CR CX outer P w H s Q E) s
section
variable {P : Program} {w : World} {K : PySem.W.Frag} {mg : Str → Option Value} {base : Heap} {x q : Str} {st : Stmt} {f : Addr} {fd : FuncData} {N ps : List Str} {k : Nat} {sp : Sp}
theorem okG (F : FnS K x q st f fd) (S : FnScope N ps (defScope st)) (len : ∀ vs H Q E, sp vs H Q E → vs.length = ps.length)
    (body : ∀ (cdv : Value) (A : Around) (outer : List Env) (s : Shared) (H : Hp) (vs : List V) (Q : VK) (E : XK), A.guards = some [] →
      Room k (A.deeper (envOfC q (defScope st) s.heap.objs.size f cdv)) → sp vs H Q E → Takes (cxOf (L2.CX P w) P w K mg base N q (defScope st) f cdv A outer s H E) (fun cls d _ H => E cls d H) →
      ∃ t, PSs (cxOf (L2.CX P w) P w K mg base N q (defScope st) f cdv A outer s H E) (defBody st) t ∧ t { nx := fun _ H' => Q .non H', rt := Q } (start N vs) H) :
    FnG P w K mg base (L2.CX P w) (k + 1) f fd ps sp := by
  obtain ⟨oc, od, dV, kV, doc, pm, an, cdv, ct, osl, e, lk, hcd, h5, h6⟩ := F.ex
  subst e
  constructor
  · exact len
  · intro A outer s H args us vs Q E hg hr e0 hb r hsp
    have up := fun b o (e : base.get? b = some o) => (e0.bs b o e).1
    have kin := e0.mod.kin.keeps up
    have nol := e0.mod.nolimit.keeps up
    refine codeAny_call_function hr.depth (kin _ _ lk) rfl S.co S.gen rfl (PySem.W.codeRec_of kin hcd) (hb _ _ _ _ (wpAny_newFunctionEnv_cells S.kind (fun y hy => ?par) fun env he s1 x => ?main))
    case par =>
      rcases S.par y.1 (List.of_mem_zip (show (y.1, y.2) ∈ ps.zip us from hy)).1 with z | z
      · exact Or.inl z
      · exact Or.inr ⟨z, PySem.W.cellsFrom_some _ _ _ (Or.inl z)⟩
    case main =>
      cases he
      refine ⟨nol.keeps x.toInCall.keep, codeAny_func ?_⟩
      obtain ⟨t, ht, ht2⟩ := body cdv A outer s H vs Q E hg (hr.deeper _) hsp (takes_of rfl rfl rfl rfl)
      have I0 := inv_start (CX := L2.CX P w) (cd := cdv) (E := E) S hr.hd e0 (len vs H Q E hsp) r x
      refine wpAny_mono (ht.run [] s1 (start N vs) H _ I0 ht2) (fun fl s2 z => ?_) fun _ _ z => z
      match fl, z with
      | .ret u, z =>
        obtain ⟨v, σ2, H2, J, rv, qv⟩ := z
        exact ⟨v, H2, J.os, J.bare, J.base, J.hok, rv, qv⟩
      | .next, z =>
        obtain ⟨σ2, H2, J, qv⟩ := z
        exact ⟨.non, H2, J.os, J.bare, J.base, J.hok, rfl, qv⟩
      | .brk, z => exact z.choose_spec.choose_spec.2.elim
      | .cont, z => exact z.choose_spec.choose_spec.2.elim
end
end Bf
namespace Dz
open PySem PySem.Spec PyProof.Rows L2 Evl Bf
section
variable {P : Program} {w : World} {K : PySem.W.Frag} {mg : Str → Option Value} {base : Heap} {x q : Str} {st : Stmt} {f : Addr} {fd : FuncData} {N ps : List Str} {k fz : Nat} {T : Th K} {φ : DS} {On : List Nat}
theorem FnG.imp {CX : CXT} {sp sp' : Sp} (F : FnG P w K mg base CX k f fd ps sp) (h : ∀ vs H Q E, sp' vs H Q E → sp vs H Q E) : FnG P w K mg base CX k f fd ps sp' :=
  ⟨fun vs H Q E q => F.len vs H Q E (h _ _ _ _ q), fun hg hr he hb hv hs => F.run hg hr he hb hv (h _ _ _ _ hs)⟩
end
end Dz
namespace Dz
open PySem PySem.Spec PyProof.Rows L2 Evl Bf
inductive SuB (X : Cx) (T : Th X.K) (fz : Nat) (base : Str) (su : List Stmt) : List (Str × (Addr → Addr → DS)) → Prop
  | nil : SuB X T fz base su []
  | cons {x : Str} {ψ : Addr → Addr → DS} {l : List (Str × (Addr → Addr → DS))} (hx : PySem.W.exmOne X.K (.ref (He.ga X.K x)) (.ref (He.ga X.K base)) = some true)
      (h : ∀ (a : Addr) (oe : Obj) (cl : Value) (d : Option Addr) (pn : List (Addr × Obj)), Zc cl d oe → (∃ vs, oe.data = .fields vs) → PSs (X.suite a ((a, oe) :: pn)) su (uOf (K := X.K) T fz [] x ψ a cl d)) (r : SuB X T fz base su l) : SuB X T fz base su ((x, ψ) :: l)
section
variable {X : Cx} {T : Th X.K} {W : WX} {fz : Nat}
theorem SuB.at {base : Str} {su : List Stmt} {l : List (Str × (Addr → Addr → DS))} (h : SuB X T fz base su l) : ∀ p ∈ l, PySem.W.exmOne X.K (.ref (He.ga X.K p.1)) (.ref (He.ga X.K base)) = some true ∧
    ∀ (a : Addr) (oe : Obj) (cl : Value) (d : Option Addr) (pn : List (Addr × Obj)), Zc cl d oe → (∃ vs, oe.data = .fields vs) → PSs (X.suite a ((a, oe) :: pn)) su (uOf (K := X.K) T fz [] p.1 p.2 a cl d) := by
  induction h with
  | nil => intro p hp; exact absurd hp List.not_mem_nil
  | cons hx h r ih =>
    intro p hp
    rcases List.mem_cons.mp hp with rfl | hp
    · exact ⟨hx, h⟩
    · exact ih p hp
end
structure KitT (K : PySem.W.Frag) (nm : List Str) : Prop where
  ex : ∀ x ∈ nm, ExcC K (He.ga K x)
  kt : ∀ x ∈ nm, ∀ y ∈ nm, PySem.W.kitOne K (.ref (He.ga K x)) (.ref (He.ga K y)) = some (decide (x = y))
end Dz
namespace RT
open PySem PySem.Spec PyProof.Rows L2
section
variable {prog : Program} {w : World} {A : Around} {E : Value → Shared → Prop} {s : Shared}
end
end RT
namespace Bf
open PySem PySem.Spec PyProof.Rows L2 RT
end Bf
namespace Dz
open PySem PySem.Spec PyProof.Rows L2 Evl Bf
theorem u65 {k : Nat} {A : Around} (r : Room k A) : A.units + 65 < cLine := by have := r.un; omega
def xRevL (φ : DX) : DX := fun ρ A Ax => φ ρ (fun x => ∃ xs, x = .lst xs ∧ A (.lst xs.reverse)) Ax
end Dz
namespace Dz
open PySem PySem.Spec PyProof.Rows L2 Evl Bf
def SmT (K : PySem.W.Frag) : Prop := ∃ o, K.lookup sysModules = some o ∧ o.cls = .type "dict"
def kP : Key → PyData
  | .inl i => .int i
  | .inr x => .str x
def pyK : List (Key × D) → Option (List (PyData × PyData))
  | [] => some []
  | (k, d) :: r => match d.py, pyK r with
    | some p, some ps => some ((kP k, p) :: ps)
    | _, _ => none
section
variable {h : Heap}
mutual
theorem nosys (sm : ∀ o, h.get? sysModules = some o → o.cls = .type "dict") : ∀ {u : Value} {p : PyData} {as : List Addr}, Reads h u p as → p.hasDict = false → sysModules ∉ as
  | _, _, _, .none, _ => List.not_mem_nil
  | _, _, _, .bool _, _ => List.not_mem_nil
  | _, _, _, .int _ _, _ => List.not_mem_nil
  | _, _, _, .str _ _, _ => List.not_mem_nil
  | _, _, _, .list h1 h2 h3 h4, nd => fun z => by
    rcases List.mem_cons.mp z with z | z
    · rw [← z] at h1
      rw [sm _ h1] at h2
      exact absurd (Value.type.inj h2) (by decide)
    · exact nosysL sm h4 nd z
  | _, _, _, .tuple h1 h2 h3 h4, nd => nosysL sm h4 nd
  | _, _, _, .dict _ _ _ _ _, nd => by cases nd
theorem nosysL (sm : ∀ o, h.get? sysModules = some o → o.cls = .type "dict") : ∀ {us : List Value} {ps : List PyData} {as : List Addr}, ReadsAll h us ps as → PyData.hasDictAll ps = false → sysModules ∉ as
  | _, _, _, .nil, _ => List.not_mem_nil
  | _, _, _, .cons a b, nd => fun z => by
    obtain ⟨n1, n2⟩ := Bool.or_eq_false_iff.mp (show (PyData.hasDict _ || PyData.hasDictAll _) = false from nd)
    rcases List.mem_append.mp z with z | z
    · exact nosys sm a n1 z
    · exact nosysL sm b n2 z
end
end
section
variable {X : Cx} {pins : List (Addr × Obj)} {σ : L2.St} {H : Hp} {s : Shared}
theorem Inv.sm (I : Inv X pins σ H s) (h : SmT X.K) : ∀ o, s.heap.get? sysModules = some o → o.cls = .type "dict" := fun o e => by
  obtain ⟨o', h1, h2⟩ := h
  rw [I.kIn _ _ h1] at e
  cases e
  exact h2
theorem reads_d (I : Inv X pins σ H s) (sm : SmT X.K) {v : V} {u : Value} {d : D} {p : PyData} (hr : Rep X.K H nb v d) (ru : RelV v u) (e : d.py = some p) : ∃ as, Reads s.heap u p as ∧ sysModules ∉ as := by
  obtain ⟨as, rd⟩ := Dp.reads I p v u (py_rep hr e) ru
  exact ⟨as, rd, nosys (Inv.sm I sm) rd (py_noDict e)⟩
theorem reads_k {w : World} {P : Program} (I : Inv X pins σ H s) (sm : SmT X.K) : ∀ {ds : List (Key × D)} {ps : List (PyData × PyData)} {ls : List (Key × V)} {vs : List (Key × Value)} {es : List DictEntry}, pyK ds = some ps → RepK X.K H nb ls ds → KV ls vs → PySem.Pairs (mixKind X.prog X.w) es vs →
    ∃ bs, ReadsAll s.heap (es.map (·.key)) (ps.map (·.1)) [] ∧ ReadsAll s.heap (es.map (·.val)) (ps.map (·.2)) bs ∧ sysModules ∉ bs
  | [], _, _, _, _, e, .nil, .nil, .nil => by
    cases e
    exact ⟨[], .nil, .nil, List.not_mem_nil⟩
  | (k, d) :: r, _, _, _, _, e, .cons r1 r2, .cons k1 k2, .cons a b c => by
    unfold pyK at e
    split at e
    · rename_i p ps e1 e2
      cases e
      obtain ⟨bs, g1, g2, g3⟩ := reads_k (w := w) (P := P) I sm e2 r2 k2 c
      obtain ⟨as, f1, f2⟩ := reads_d I sm r1 k1.2 e1
      refine ⟨as ++ bs, .cons (as := []) ?_ g1, .cons (by dsimp only; rw [b]; exact f1) g2, fun z => (List.mem_append.mp z).elim f2 g3⟩
      dsimp only
      have a' := a
      rw [← k1.1] at a'
      rcases keyIs_shape a' with ⟨i, t, z1, z2⟩ | ⟨x, t, z1, z2⟩
      · dsimp only at z1
        rw [z2, z1]; exact .int i t
      · dsimp only at z1
        rw [z2, z1]; exact .str x t
    · cases e
end
section
variable {X : Cx} {T : Th X.K} {W : WX} {O : List Nat} {e : Expr} {es : List Expr} {φ : DX} {φs : DA} {pp pos : Pos}
end
end Dz
namespace Dz
open PySem PySem.Spec PyProof.Rows L2 Evl Bf
def hole (H : Hp) (p : Addr) : Hp := fun a => if a = p then none else H a
theorem hole_ne {H : Hp} {p a : Addr} (h : a ≠ p) : hole H p a = H a := if_neg h
theorem hole_of {H : Hp} {p a : Addr} {o : HO} (h : hole H p a = some o) : a ≠ p ∧ H a = some o := by
  unfold hole at h
  split at h
  · cases h
  · rename_i c
    exact ⟨c, h⟩
structure HoleT {K : PySem.W.Frag} (T : Th K) : Prop where
  ok : ∀ {H : Hp} {p : Addr} {kvs : List (Key × V)}, T.Ok H → H p = some (.dK kvs) → T.Ok (hole H p)
  gr : ∀ {H : Hp} {p : Addr} {kvs : List (Key × V)}, H p = some (.dK kvs) → T.Gr (hole H p) H
  cut : ∀ {H0 H : Hp} {p : Addr} {kvs : List (Key × V)}, T.Gr H0 H → H0 p = none → H p = some (.dK kvs) → T.Gr H0 (hole H p)
theorem memo_hole {K : PySem.W.Frag} {H : Hp} {p c : Addr} {kvs : List (Key × V)} (hp : H p = some (.dK kvs)) : isMemo K (hole H p) c ↔ isMemo K H c := by
  constructor
  · rintro ⟨a, dx, t, s, g, q⟩
    exact ⟨a, dx, t, s, g, (hole_of q).2⟩
  · rintro ⟨a, dx, t, s, g, q⟩
    refine ⟨a, dx, t, s, g, ?_⟩
    rw [hole_ne fun z : a = p => by rw [z, hp] at q; cases q]
    exact q
section
variable {K : PySem.W.Frag} {H : Hp} {ow ow' : Addr → Prop} {p : Addr} {kvs : List (Key × V)}
theorem Mv.hole (hp : H p = some (.dK kvs)) (op : ow p) (h : ∀ a, ow' a → ow a) : Mv K H ow (hole H p) ow' where
  l := fun a vs e n => ⟨by rw [hole_ne fun z : a = p => n (z ▸ op)]; exact e, fun z => n (h a z)⟩
  r := fun a vs e => by
    rcases e with ⟨o, e⟩ | e
    · exact .inl ⟨o, by rw [hole_ne fun z => by rw [z, hp] at e; cases e]; exact e⟩
    · exact .inr e
  t := fun a vs e => by rw [hole_ne fun z => by rw [z, hp] at e; cases e]; exact e
  d := fun a vs e n => ⟨e.elim (fun q => .inl (by rw [hole_ne fun z : a = p => n (z ▸ op)]; exact q)) fun ⟨ob, q⟩ => .inr ⟨ob, by rw [hole_ne fun z : a = p => n (z ▸ op)]; exact q⟩, fun z => n (h a z)⟩
  i := fun a C dx fs e n => ⟨by rw [hole_ne fun z : a = p => n (z ▸ op)]; exact e, fun z => n (h a z)⟩
  x := fun a vs e => by rw [hole_ne fun z => by rw [z, hp] at e; cases e]; exact e
  w := fun a k e n => ⟨by
    have np : a ≠ p := fun z => n (z ▸ op)
    cases k with
    | zero => show Dz.hole H p a = _; rw [hole_ne np]; exact e
    | succ k => cases k with
      | zero => show Dz.hole H p a = _; rw [hole_ne np]; exact e
      | succ k =>
        obtain ⟨s, ns, h1, h2, h3⟩ := e
        exact ⟨s, ns, by rw [hole_ne np]; exact h1, by rw [hole_ne fun z : s = p => h3 (z ▸ op)]; exact h2, fun z => h3 (h s z)⟩, fun z => n (h a z)⟩
  c := fun a ks e m n => ⟨by rw [hole_ne fun z : a = p => n (z ▸ op)]; exact e, fun z => m ((memo_hole hp).mp z), fun z => n (h a z)⟩
theorem keeps_hole {H : Hp} {p : Addr} {f : List Addr} (n : p ∉ f) : Keeps H (hole H p) f := fun a ha o z _ => by rw [hole_ne fun e : a = p => n (e ▸ ha)]; exact z
end
def spCon {K : PySem.W.Frag} (T : Th K) (fz n : Nat) (F : DF) : Sp := fun vs H Q _ => vs.length = n ∧ ∃ ws p es d kvs ow A, vs = ws ++ [.ref p] ∧ ws.length + 1 = n ∧ T.Ok H ∧ (∀ a, ow a → H a ≠ none) ∧ ¬ ow p ∧ H p = some (.dK kvs) ∧
  RepL K H (fun a => ow a ∨ a = p) ws es ∧ OwnR K H (fun a => ow a ∨ a = p) p d ∧ F (es ++ [d]) A (fun _ => False) ∧ ∀ d v G, A d → T.Ok G → T.Gr (hole H p) G → PostR K (hole H p) G ow fz v d → Q v G
abbrev FnC (P : Program) (w : World) {K : PySem.W.Frag} (T : Th K) (mg : Str → Option Value) (base : Heap) (k : Nat) (x : Str) (ps : List Str) (fz : Nat) (F : DF) : Prop := Cal P w K mg base (L2.CX P w) k x ps (spCon T fz ps.length F)
theorem FnC.to {P : Program} {w : World} {K : PySem.W.Frag} {T : Th K} {mg : Str → Option Value} {base : Heap} {k : Nat} {x : Str} {ps : List Str} {fz : Nat} {F F' : DF} (C : FnC P w T mg base k x ps fz F) (h : ∀ ds A Ax, F' ds A Ax → F ds A Ax) : FnC P w T mg base k x ps fz F' :=
  Cal.imp C fun vs H Q E ⟨hn, ws, p, es, d, kvs, ow, A, h1, h2, h3, h4, h5, h6, h7, h8, h9, h10⟩ => ⟨hn, ws, p, es, d, kvs, ow, A, h1, h2, h3, h4, h5, h6, h7, h8, h _ _ _ h9, h10⟩
section
variable {P : Program} {w : World} {K : PySem.W.Frag} {mg : Str → Option Value} {base : Heap} {x q : Str} {st : Stmt} {f : Addr} {fd : FuncData} {N ps : List Str} {k : Nat} {T : Th K} {fz c : Nat} {On : List Nat} {φ : DS}
end
section
variable {X : Cx} {T : Th X.K} {W : WX} {fz : Nat} {O On Ol : List Nat} {e : Expr} {es : List Expr} {φ : DX} {φs : DA} {pos p1 p2 p3 p4 p5 : Pos} {i j n k kk : Nat} {x xi xj : Str} {ps : List Str} {F : DF}
theorem Sr.hole {K : PySem.W.Frag} {T : Th K} (hT : HoleT T) {H0 H : Hp} {owi ow0 : Addr → Prop} {fr : Fr} {σ : L2.St} {ρ : Ro} {p : Addr} {kvs : List (Key × D)} (s : Sr T H0 owi ow0 fr (i :: O) σ H ρ) (nd : i ∉ O) (i0 : i ≠ 0) (hd : ρ[i]? = some (some (.dic kvs))) (hs : σ[i]? = some (some (.ref p))) :
    (∃ ks, H p = some (.dK ks)) ∧ H0 p = none ∧ ¬ ow0 p ∧ OwnR K H (owOf ow0 (i :: O) σ) p (.dic kvs) ∧ (∀ a, owOf ow0 (i :: O) σ a ↔ (owOf ow0 O σ a ∨ a = p)) ∧ ¬ owOf ow0 O σ p ∧ Sr T H0 owi ow0 fr O σ (Dz.hole H p) (ρ.set i none) := by
  obtain ⟨a, d, e1, e2, e3, e4, e5⟩ := s.er.own i List.mem_cons_self (s.er.lt hd)
  rw [hs] at e2
  cases e2
  rw [hd] at e1
  cases e1
  have lt := s.er.lt hd
  have h0 := (s.new i List.mem_cons_self p hs).1
  have eo : ∀ a, owOf ow0 (i :: O) σ a ↔ (owOf ow0 O σ a ∨ a = p) := fun a => by
    constructor
    · rintro (z | ⟨m, hm, z⟩)
      · exact .inl (.inl z)
      · rcases List.mem_cons.mp hm with rfl | hm
        · rw [hs] at z; cases z; exact .inr rfl
        · exact .inl (.inr ⟨m, hm, z⟩)
    · rintro ((z | ⟨m, hm, z⟩) | rfl)
      · exact .inl z
      · exact .inr ⟨m, List.mem_cons_of_mem _ hm, z⟩
      · exact .inr ⟨i, List.mem_cons_self, hs⟩
  have np : ¬ owOf ow0 O σ p := fun z => by
    rcases z with z | ⟨m, hm, z⟩
    · exact e3 z
    · exact nd (e5 m (List.mem_cons_of_mem _ hm) z ▸ hm)
  have hk : ∃ ks, H p = some (.dK ks) := by cases e4 with | dic h1 h2 => exact ⟨_, h1⟩
  refine ⟨hk, h0, e3, e4, eo, np, ?_⟩
  obtain ⟨ks, hk⟩ := hk
  have m : Mv K H (owOf ow0 (i :: O) σ) (Dz.hole H p) (owOf ow0 O σ) := Mv.hole hk ((eo p).mpr (.inr rfl)) fun a z => (eo a).mpr (.inl z)
  have ri : ∀ {jj : Nat} {dd : D}, (ρ.set i none)[jj]? = some (some dd) → i ≠ jj ∧ ρ[jj]? = some (some dd) := fun {jj dd} z => by
    by_cases c : i = jj
    · subst c
      rw [List.getElem?_set_self (by rw [s.er.len]; exact (List.getElem?_eq_some_iff.mp hs).1)] at z
      cases z
    · rw [List.getElem?_set_ne c] at z
      exact ⟨c, z⟩
  have md : ∀ {jj : Nat}, i ≠ jj → ∀ {c : Nat}, c = jj → c ∉ O → c ∉ i :: O := fun {jj} h {c} e n z => (List.mem_cons.mp z).elim (fun q => h (by rw [← e, q])) n
  refine ⟨hT.ok s.ok hk, hT.cut s.gr h0 hk, ⟨fun jj dd hz h1 h2 => ?_, fun jj hj l => ?_, fun q hq => (s.er.frm q hq).mv m, ?_, fun jj hj => ?_, fun a ha => ?_, by rw [List.length_set]; exact s.er.len, fun v z h => s.er.slt v z (h.imp (List.mem_cons_of_mem _) fun h => h.imp (List.mem_cons_of_mem _) (List.mem_cons_of_mem _)), s.er.sml⟩, s.sub, fun jj hj => s.new jj (List.mem_cons_of_mem _ hj), s.iwH⟩
  · obtain ⟨c, z⟩ := ri hz
    have l2 := s.er.lt z
    obtain ⟨v, g1, g2⟩ := s.er.val jj dd z (md c rfl h1) fun q => (List.mem_cons.mp q).elim (fun q => absurd lt (by omega)) h2
    exact ⟨v, g1, g2.mv m⟩
  · have c : i ≠ jj := fun z => nd (z ▸ hj)
    obtain ⟨a, d, g1, g2, g3, g4, g5⟩ := s.er.own jj (List.mem_cons_of_mem _ hj) l
    have na : a ≠ p := fun z => c (g5 i List.mem_cons_self (by rw [z]; exact hs))
    rw [List.getElem?_set_ne c]
    refine ⟨a, d, g1, g2, g3, g4.mv m (fun o z _ => by rw [hole_ne na]; exact z) (hl2 := fun kvs z n => ⟨by rw [hole_ne na]; exact z, fun q => n ((memo_hole hk).mp q)⟩), fun mm hm => g5 mm (List.mem_cons_of_mem _ hm)⟩
  · obtain ⟨rg, hD⟩ := s.er.dep
    refine ⟨rg, fun jj l hj => ?_⟩
    obtain ⟨v, d, fp, g1, g2, g3, g4, g5⟩ := hD jj l (List.mem_cons_of_mem _ hj)
    have c : i ≠ jj := fun z => by
      subst z
      obtain ⟨w, hw⟩ : ∃ w, w ∈ fp ∨ fp = [] := by cases fp with
        | nil => exact ⟨0, .inr rfl⟩
        | cons a t => exact ⟨a, .inl List.mem_cons_self⟩
      rw [hd] at g1
      cases g1
      rw [hs] at g2
      cases g2
      obtain ⟨p', vs, g', q1, q2, q3, q4⟩ := own_dic g3
      cases q1
      exact e3 (g5 p (by rw [q2]; exact List.mem_cons_self)).1
    rw [List.getElem?_set_ne c]
    exact ⟨v, d, fp, g1, g2, g3.mv (Mv.hole hk trivial fun _ z => z) (keeps_hole fun z => e3 (g5 p z).1), g4, g5⟩
  · obtain ⟨v, d, g1, g2, g3⟩ := s.er.nwq jj (List.mem_cons_of_mem _ hj)
    have c : i ≠ jj := fun z => by
      subst z
      rw [hd] at g1
      cases g1
      rw [hs] at g2
      cases g2
      cases g3 with
      | dic _ n _ => exact n (.inl ((eo p).mpr (.inr rfl)))
    rw [List.getElem?_set_ne c]
    exact ⟨v, d, g1, g2, g3.mv (Mv.hole hk (.inl ((eo p).mpr (.inr rfl))) fun a z => z.imp_left fun z => (eo a).mpr (.inl z))⟩
  · rw [hole_ne fun z : a = p => e3 (z ▸ ha)]
    exact s.er.trk a ha
end
end Dz
namespace Bf
open PySem PySem.Spec PyProof.Rows L2 Evl
section
variable {prog : Program} {w : World} {A : Around} {E : Value → Shared → Prop} {s : Shared} {T : String} {r d : Addr} {n : Nat} {P : Nat → Value → Prop} {OK : Heap → Prop}
end
section
variable {X : Cx} {pins : List (Addr × Obj)} {σ : L2.St} {H : Hp} {s : Shared}
end
end Bf
namespace Bf
open PySem PySem.Spec PyProof.Rows L2 Evl
end Bf
namespace Dz
open PySem PySem.Spec PyProof.Rows L2 Evl Bf
def aStarD (φ : DX) (φs : DA) : DA := fun ρ A Ax => φ ρ (fun x => ∃ kvs, x = .dic kvs ∧ φs ρ (fun ys => A ((kvs.map fun p => kD p.1) ++ ys)) Ax) Ax
section
variable {X : Cx} {T : Th X.K} {W : WX} {fz : Nat} {O Ol : List Nat} {e : Expr} {es : List Expr} {φ : DX} {φs : DA} {p pos : Pos}
end
end Dz
namespace Dz
open PySem PySem.Spec PyProof.Rows L2 Evl Bf
def dcL (ρ : Ro) (vs : List Nat) (g : DG) (ek ev : DX) : List D → List (Key × D) → (List (Key × D) → Prop) → Prop
  | [], acc, Q => Q acc
  | x :: xs, acc, Q => g x (wipeR ρ vs) fun ρ' => ek ρ' (fun kx => ev ρ' (fun y => ∃ kk, dKey kx = some kk ∧ dcL ρ vs g ek ev xs (putD acc kk y) Q) fun _ => False) fun _ => False
def xDc (φ : DI) (vs : List Nat) (g : DG) (ek ev : DX) : DX := fun ρ A Ax => φ ρ (fun items => items.length ≤ big ∧ dcL ρ vs g ek ev items [] fun kvs => A (.dic kvs)) Ax
theorem putD_len (kvs : List (Key × D)) (k : Key) (v : D) : (putD kvs k v).length ≤ kvs.length + 1 := by
  unfold putD
  split
  · rw [List.length_map]; omega
  · rw [List.length_append]; exact Nat.le_refl _
section
variable {X : Cx} {T : Th X.K} {W : WX} {O is vs : List Nat} {tg iter kx vx : Expr} {φ : DI} {g : DG} {ek ev : DX} {pos : Pos} {scope : Scope} {own : List (Str × Nat)}
theorem dc_aux {σ : L2.St} {H : Hp} {Q : VK} (hv : (vs.all fun i => fre O i) = true) (hi : (is.all fun i => vs.contains i) = true) (h : efOf T W O (xDc φ vs g ek ev) σ H Q) : tDc (ioOf T W O φ) (gOf T O is g) tYes (eOf T W0 O ek) (eOf T W0 O ev) vs σ H Q := by
  obtain ⟨ρ, ow0, fr, A, Ax, ok, er, q, k, x⟩ := h
  have hV' : ∀ i ∈ vs, fre O i = true := fun i hi => List.all_eq_true.mp hv i hi
  have hV : ∀ i ∈ vs, i ∉ O := fun i hi => (fre_of (hV' i hi)).1
  have hI : ∀ i ∈ is, i ∈ vs := fun i h => by simpa using List.all_eq_true.mp hi i h
  refine ⟨ρ, ow0, fr, _, Ax, ok, er, q, fun items J H1 vd ⟨hl, qi⟩ ok1 g1 rvd wk p hp => ?_, x⟩
  have er1 := er.gr T g1
  obtain ⟨n1, n2⟩ := T.new (o := .dK []) ok1 hp rfl
  have er2 := (er1.more T hp n2).wipe hV'
  have eo : owOf (fun a => ow0 a ∨ a = p) O (wipe σ vs) = fun a => owOf ow0 O σ a ∨ a = p := by rw [ow_wipe hV, ow_more]
  refine ⟨fun i m G => m = items.length - i ∧ i ≤ items.length ∧ ∃ acc av, T.Ok G ∧ T.Gr H1 G ∧ ER X.K G (fun a => ow0 a ∨ a = p) { vd := fr.vd, iw := fun a => fr.iw a ∨ a = p } O (wipe σ vs) (wipeR ρ vs) ∧ (∀ q ∈ vd, RepP X.K G (owOf ow0 O σ) p q.1 q.2) ∧ G p = some (.dK av) ∧
      RepK X.K G (fun a => owOf ow0 O σ a ∨ a = p) av acc ∧ acc.length ≤ i ∧ dcL ρ vs g ek ev (items.drop i) acc fun kvs => A (.dic kvs), ⟨items.length, by simp, Nat.zero_le _, [], [], n1, n2, ⟨er2.val, er2.own, er2.frm, er2.dep, er2.nwq, er2.trk, er2.len, (fun v z => nomatch z), er2.sml⟩, fun q hq => ?_, upd_same, .nil, Nat.zero_le _, by rw [List.drop_zero]; exact qi⟩, ?_⟩
  · exact RepP.of (rvd q hq) T hp n2
  rintro i m G ⟨rfl, hi, acc, av, okG, gG, erG, rG, hG, lG, al, qG⟩
  have trG : ∀ a, (fun a => owOf ow0 O σ a ∨ a = p) a → G a ≠ none := by rw [← eo]; exact erG.otrk
  obtain ⟨w1, w2, w3⟩ := wk _ G okG trG fun q hq => (rG q hq).o
  by_cases hlt : i < items.length
  · refine .inr ⟨w1 i hlt, fun G' => i + 1 ≤ items.length ∧ ∃ acc av, T.Ok G' ∧ T.Gr H1 G' ∧ ER X.K G' (fun a => ow0 a ∨ a = p) { vd := fr.vd, iw := fun a => fr.iw a ∨ a = p } O (wipe σ vs) (wipeR ρ vs) ∧ (∀ q ∈ vd, RepP X.K G' (owOf ow0 O σ) p q.1 q.2) ∧ G' p = some (.dK av) ∧
      RepK X.K G' (fun a => owOf ow0 O σ a ∨ a = p) av acc ∧ acc.length ≤ i + 1 ∧ dcL ρ vs g ek ev (items.drop (i + 1)) acc fun kvs => A (.dic kvs), fun G' h' => ⟨items.length - (i + 1), by omega, rfl, h'⟩, fun x G2 y => ?_⟩
    obtain ⟨ok2, g2, d, hd, rx⟩ := w3 i x G2 hlt y
    have e1 : items.drop i = d :: items.drop (i + 1) := by
      rw [List.drop_eq_getElem_cons hlt]
      rw [List.getElem?_eq_getElem hlt] at hd
      rw [Option.some.inj hd]
    rw [e1] at qG
    have er3 := erG.gr T g2
    rw [← eo] at rx
    refine ⟨wipeR ρ vs, _, { vd := fr.vd, iw := fun a => fr.iw a ∨ a = p }, d, _, ok2, er3, rx, qG, fun τ ρ' erT sb qT => ⟨wipe_same sb hI, ?_⟩⟩
    have eoT : owOf (fun a => ow0 a ∨ a = p) O τ = fun a => owOf ow0 O σ a ∨ a = p := by
      rw [← eo]
      exact ow_same sb fun i z => hV i (hI i z)
    unfold tYes
    dsimp only
    rw [if_pos rfl]
    refine ⟨ρ', _, { vd := fr.vd, iw := fun a => fr.iw a ∨ a = p }, _, _, ok2, erT, qT, fun kd kv L qk okL gL rk => ?_, fun x d G a => absurd a (fun z => z)⟩
    refine ⟨ρ', _, { vd := fr.vd, iw := fun a => fr.iw a ∨ a = p }, _, _, okL, erT.gr T gL, qk, fun y v L2 ⟨kk, ek, qy⟩ okL2 gL2 ry => ?_, fun x d G a => absurd a (fun z => z)⟩
    have g4 := T.trans (T.trans g2 gL) gL2
    have hp4 := T.keep g4 hG (fun _ z => by cases z)
    have al2 : av.length < 100000 := by
      have h1 : av.length = acc.length := lG.length
      have h2 : items.length ≤ 100000 := hl
      omega
    rw [eoT] at ry
    refine ⟨av, kk, key_rep rk.o ek, hp4, sz_lt al2, hlt, putD acc kk y, putK av kk v, ?_⟩
    obtain ⟨p1, p2⟩ := T.put (o' := .dK (putK av kk v)) (T.trans gG g4) hp okL2 hp4 (fun _ z => by cases z) (fun _ z => by cases z) (fun _ z => by cases z) rfl rfl
    have mp : Mv X.K L2 (fun a => owOf ow0 O σ a ∨ a = p) (upd L2 p (.dK (putK av kk v))) (fun a => owOf ow0 O σ a ∨ a = p) := Mv.put hp4 (fun _ z => by cases z) (fun _ z => by cases z) (fun _ _ z => by cases z) (fun _ z => by cases z) (.inr rfl) fun a z => z
    refine ⟨p1, p2, (erG.gr T g4).put0 hp4 (fun _ z => by cases z) (fun _ z => by cases z) (fun _ _ z => by cases z) (fun _ z => by cases z) (.inr rfl) (.inr rfl), fun q hq => ?_, upd_same, (RepK.put (lG.mv (Mv.gr T g4)) ry).mv mp, by have := putD_len acc kk y; omega, qy⟩
    exact RepP.putD hp4 ((rG q hq).gr T g4)
  · have e1 : i = items.length := by omega
    subst e1
    rw [List.drop_length] at qG
    refine .inl ⟨w2, k _ _ G qG okG (T.trans g1 gG) ⟨p, rfl, T.back g1 hp, .dic hG ?_⟩⟩
    exact lG
theorem bf_dc (hc : X.calm = true) (hN : X.N.Nodup) (hi : PI X tg iter (ioOf T W O φ)) (ok : BlkOk X.N X.env.scope scope own)
    (hg : ∀ (s : Shared) (H : Hp) (C : Addr) (cl : List (Str × Addr)) (fp : List Addr), PG (X.blk s H scope (compEnvC scope cl C X.env) fp) tg (gOf (K := X.K) T O is g))
    (hk : ∀ (s : Shared) (H : Hp) (C : Addr) (cl : List (Str × Addr)) (fp : List Addr), PE (X.blk s H scope (compEnvC scope cl C X.env) fp) kx (eOf (K := X.K) T W0 O ek)) (he : ∀ (s : Shared) (H : Hp) (C : Addr) (cl : List (Str × Addr)) (fp : List Addr), PE (X.blk s H scope (compEnvC scope cl C X.env) fp) vx (eOf (K := X.K) T W0 O ev)) (hv : ((own.map (·.2)).all fun i => fre O i) = true) (hI : (is.all fun i => (own.map (·.2)).contains i) = true)
    (hs : ∀ x, foldedSetIterable iter X.env x = pure x := by intro _; rfl) : PE X (.DictComp kx vx [⟨tg, iter, [], 0⟩] scope pos) (efOf T W O (xDc φ (own.map (·.2)) g ek ev)) :=
  peI (pe_dc hc hN hi ok hg (fun _ _ _ _ _ => pts_nil) hk he hs) fun _ _ _ h => dc_aux hv hI h
end
def delD (kvs : List (Key × D)) (k : Key) : List (Key × D) := kvs.filter fun kv => decide (kv.1 ≠ k)
theorem RepK.drop {K : PySem.W.Frag} {H : Hp} {ow : Addr → Prop} (k : Key) : ∀ {vs : List (Key × V)} {ds : List (Key × D)}, RepK K H ow vs ds → RepK K H ow (dropK vs k) (delD ds k)
  | _, _, .nil => .nil
  | _, _, .cons (k := k') (v := v) (vs := vs) (d := d) (ds := ds) a b => by
    show RepK K H ow (List.filter _ ((k', v) :: vs)) (List.filter _ ((k', d) :: ds))
    by_cases c : k' ≠ k
    · rw [List.filter_cons_of_pos (by simpa using c), List.filter_cons_of_pos (by simpa using c)]
      exact .cons a (RepK.drop k b)
    · rw [List.filter_cons_of_neg (by simpa using c), List.filter_cons_of_neg (by simpa using c)]
      exact RepK.drop k b
section
variable {X : Cx} {T : Th X.K} {W : WX} {fz : Nat} {O Ol : List Nat} {e : Expr} {φ : DX} {p1 p2 p3 pos pos2 : Pos} {i j : Nat} {x : Str}
end
end Dz
namespace Dz
open PySem PySem.Spec PyProof.Rows L2 Evl Bf
def setKD (k : Key) (y : D) : List (Key × D) → List (Key × D)
  | [] => []
  | p :: r => if p.1 = k then (p.1, y) :: r else p :: setKD k y r
section
variable {K : PySem.W.Frag} {H : Hp} {fp fp1 : List Addr} {v v1 : V} {ctx : D → D}
theorem OwnK.splitU {f : Key} : ∀ {g : List Addr} {vs : List (Key × V)} {ds : List (Key × D)} {dk : D}, OwnK K H tt g vs ds → dVal ds f = some dk → ∃ g0 gk g1 vk, g = g0 ++ gk ++ g1 ∧ valV vs f = some vk ∧ Own K H tt gk vk dk ∧
    ∀ G f' d, Mv K H tt G tt → Keeps H G g0 → Keeps H G g1 → Own K G tt f' vk d → OwnK K G tt (g0 ++ f' ++ g1) vs (setKD f d ds)
  | _, _, _, _, .cons (f := f1) (g := g) (k := k) (v := v) (vs := vs) (d := d) (ds := ds) a b, e => by
    unfold dVal at e
    unfold valV
    rw [List.find?_cons] at e ⊢
    by_cases c : k = f
    · rw [decide_eq_true c] at e ⊢
      cases e
      refine ⟨[], f1, g, _, rfl, rfl, a, fun G f' d m _ k1 o => ?_⟩
      unfold setKD
      rw [if_pos c]
      exact .cons o (b.mv m k1)
    · rw [decide_eq_false c] at e ⊢
      obtain ⟨g0, gk, g1, vk, e1, e2, e3, e4⟩ := OwnK.splitU b e
      refine ⟨f1 ++ g0, gk, g1, vk, by rw [e1]; simp, e2, e3, fun G f' d m k0 k1 o => ?_⟩
      unfold setKD
      rw [if_neg c]
      have := OwnK.cons (k := k) (a.mv m k0.l) (e4 G f' d m k0.r k1 o)
      simpa using this
  | _, _, _, _, .nil, e => by cases e
theorem Foc.key {ds : List (Key × D)} {k : Key} {dk : D} (h : Foc K H fp v fp1 v1 (.dic ds) ctx) (e : dVal ds k = some dk) : ∃ p vs vk gk, v1 = .ref p ∧ H p = some (.dK vs) ∧ valV vs k = some vk ∧ Foc K H fp v gk vk dk (fun x => ctx (.dic (setKD k x ds))) := by
  obtain ⟨fa, fb, e1, o, kk⟩ := h
  obtain ⟨p, vs, g, rfl, rfl, hp, ol⟩ := own_dic o
  obtain ⟨g0, gk, g1, vk, rfl, e3, e4, e5⟩ := ol.splitU e
  refine ⟨p, vs, vk, gk, rfl, hp, e3, fa ++ (p :: g0), g1 ++ fb, by rw [e1]; simp, e4, fun G f d m ka kb o' => ?_⟩
  have := kk G _ _ m ka.l kb.r (.dic (ka.r.hd hp fun _ z => by cases z) (e5 G f d m ka.r.tl kb.l o'))
  simpa using this
end
section
variable {K : PySem.W.Frag} {T : Th K} {H0 H : Hp} {owi ow0 : Addr → Prop} {fr : Fr} {O : List Nat} {σ : L2.St} {ρ : Ro} {i r : Nat} {rg : Addr → Nat} {fp : List Addr} {v : V} {d : D}
end
section
variable {X : Cx} {T : Th X.K} {W : WX} {fz : Nat} {O Ol : List Nat} {e e2 base ke ve ce : Expr} {φ : DP} {ψ φk φv : DX} {pos pos2 pos3 pos4 p1 p2 p3 p4 q1 q2 q3 q4 : Pos} {i r : Nat} {x xr c : Str}
end
def pyKD : List (Key × D) → Option (List (Key × PyData))
  | [] => some []
  | (k, d) :: r => match d.py, pyKD r with
    | some p, some ps => if SeqAt.shaped p = true then some ((k, p) :: ps) else none
    | _, _ => none
def dEqDD : D → D → Option D
  | .dic a, .dic b => match pyKD a, pyKD b with
    | some x, some y => some (.bl (dictEq x y))
    | _, _ => none
  | _, _ => none
theorem kvd_rep {K : PySem.W.Frag} {H : Hp} {ow : Addr → Prop} : ∀ {vs : List (Key × V)} {ds : List (Key × D)} {ps : List (Key × PyData)}, RepK K H ow vs ds → pyKD ds = some ps → KvD K H vs ps
  | _, _, _, .nil, e => by cases e; exact .nil
  | _, _, _, .cons a b, e => by
    unfold pyKD at e
    split at e
    · rename_i p ps h1 h2
      split at e
      · rename_i sh
        cases e
        exact .cons ⟨rfl, py_rep a h1, sh⟩ (kvd_rep b h2)
      · cases e
    · cases e
theorem od_eqDD {X : Cx} {T : Th X.K} : OpD T (rEqDD X.K false) dEqDD := by
  intro H ow x y d e z Q ok tr rx ry hg k
  unfold dEqDD at hg
  split at hg
  · split at hg
    · rename_i a b _ _ u w h1 h2
      cases hg
      obtain ⟨p, ks, rfl, hp, rp⟩ := o_dic rx
      obtain ⟨q, ls, rfl, hq, rq⟩ := o_dic ry
      exact ⟨p, q, ks, ls, u, w, rfl, rfl, hp, hq, kvd_rep rp h1, kvd_rep rq h2, k _ H ok (T.refl H) (.bl _)⟩
    · cases hg
  · cases hg
end Dz
namespace Dz
open PySem PySem.Spec PyProof.Rows L2 Evl Bf
section
variable {X : Cx} {T : Th X.K} {W : WX} {O : List Nat} {e o : Expr} {es : List Expr} {φ : DX} {φs : DA} {pos apos : Pos} {k n : Nat} {c m : Str} {F : DF}
end
end Dz
namespace Dz
open PySem PySem.Spec PyProof.Rows L2 Evl Bf
def rHasI (C : Addr) (sp : Sp) (neg : Bool) : R2 := fun x y H Q => ∃ b dy gs, y = .ref b ∧ H b = some (.ins C dy gs) ∧ sp [.ref b, x] H (fun v G => ∃ k, v = .bl k ∧ Q (.bl (neg != k)) G) (fun _ _ _ => False)
section
variable {X : Cx} {k : Nat} {C f : Addr} {fd : FuncData} {ps : List Str} {sp : Sp}
theorem op_inI (T : Meth X.K C "__contains__" f) (F : FnOk X.prog X.w X.K X.mg X.base CX0 k f fd ps sp) (hb : Binds X.K fd ps []) (hr : Room k X.A) : OpR X (compareOp .In) (rHasI C sp false) := by
  intro pins s σ H x y v u Q I rx ry h
  obtain ⟨b, dy, gs, rfl, hB, hsp⟩ := h
  cases ry
  obtain ⟨_, J, _⟩ := ins_get I.hok hB
  obtain ⟨_, J, _⟩ := J.look
  obtain ⟨m, hF⟩ := I.fr
  refine PySem.W.in_K hF I.ok.mod.kin J T.at_ T.fn ?_
  refine wpAny_mono (run_fn (E := fun _ _ _ => False) (dvs := []) (ds := []) F hr hb .nil pass0 I (vs := [.ref b, x]) (us := [.ref b, v]) (.cons rfl (.cons rx .nil)) hsp) (fun w s' z => ?_) fun _ _ z => z
  obtain ⟨z, G, J2, rz, kk, rfl, q⟩ := z
  cases rz
  rw [Bool.false_bne] at q
  exact wpAny_truthy_bool ⟨.bl kk, G, J2, rfl, q⟩
def rLenI (C : Addr) (sp : Sp) : List V → Hp → VK → Prop := fun xs H Q => ∃ b dy gs, xs = [.ref b] ∧ H b = some (.ins C dy gs) ∧ sp [.ref b] H (fun v G => ∃ n : Nat, v = .int n ∧ n ≤ 100000 ∧ Q (.int n) G) (fun _ _ _ => False)
theorem call_lenI (T : Meth X.K C "__len__" f) (F : FnOk X.prog X.w X.K X.mg X.base CX0 k f fd ps sp) (hb : Binds X.K fd ps []) (hr : Room (k + 1) X.A) : CallR X (.builtin "len") (rLenI C sp) := by
  intro pins s σ H xs us Q I r h
  obtain ⟨b, dy, gs, rfl, hB, hsp⟩ := h
  rw [Vals.ref1 r]
  obtain ⟨_, J, _⟩ := ins_get I.hok hB
  obtain ⟨_, J, _⟩ := J.look
  obtain ⟨m, hF⟩ := I.fr
  refine PySem.W.len_K hF I.ok.mod.kin J T.at_ T.fn ?_
  have hl := F.len _ _ _ _ hsp
  have e0 := I.env0.in1
  refine wpAny_call (codeAny_mono (F.run X.A.in1 X.stack s H ⟨[.ref b], []⟩ [.ref b] [.ref b] _ _ hr.in1 e0 (by
    have := hb s [.ref b] I.kIn (by simpa using hl)
    simpa using this) (.cons rfl .nil) hsp) fun r s' hq => ?_)
  cases r with
  | error e => exact hq.elim
  | ok fl =>
    cases fl with
    | ret w =>
      obtain ⟨z, G, J2, rz, n, rfl, hn, q⟩ := I.after hq
      obtain ⟨t, rfl⟩ := rz
      have hn2 : (n : Int) < 2 ^ 63 := by omega
      exact ⟨⟨Int.natCast_nonneg n, hn2⟩, ⟨.int n, G, J2.tok _, ⟨_, rfl⟩, q⟩⟩
    | next => exact False.elim hq
    | brk => exact False.elim hq
    | cont => exact False.elim hq
end
def F_FLen : DF := fun ds A _ => ∃ ns s g, ds = [.fam ns s g] ∧ A (.int ns.length)
def F_FHas : DF := fun ds A _ => ∃ ns s g x, ds = [.fam ns s g, .str x] ∧ A (.bl (decide (x ∈ ns)))
def dHas (neg : Bool) : D → D → Option D
  | .str x, .fam ns _ _ => some (.bl (neg != decide (x ∈ ns)))
  | _, _ => none
def dLenF : List D → Option D
  | [.fam ns _ _] => if ns.length ≤ 100000 then some (.int ns.length) else none
  | _ => none
theorem rep_famO {K : PySem.W.Frag} {H : Hp} {ow : Addr → Prop} {v : V} {ns : List Str} {d : D} {g : Str} (h : RepO K H ow v (.fam ns d g)) : Rep K H ow v (.fam ns d g) := by
  rcases h with h | ⟨a, _, h⟩
  · exact h
  · cases h
section
variable {X : Cx} {T : Th X.K} {W : WX} {O : List Nat} {a b e : Expr} {φ φa φb : DX} {pos p : Pos} {k : Nat}
theorem has_or (M : MtD X.prog X.w T X.mg X.base k "Family" "__contains__" 2 0 F_FHas) (hr : Room k X.A) : ∃ r, OpR X (compareOp .In) r ∧ OpD T r (dHas false) := by
  obtain ⟨f, fd, ps, own, ok, hb⟩ := M.ex
  refine ⟨_, op_inI own (fn_down ok) hb hr, fun H ow x y d e z Q okH tr rx ry hg k => ?_⟩
  unfold dHas at hg
  split at hg
  · rename_i s ns s0 g
    cases hg
    have ry2 := rep_famO ry
    obtain ⟨b, dx, t, s1, c, rfl, hB, _⟩ := rep_fam ry2
    rw [o_str rx]
    refine ⟨b, dx, _, rfl, hB, rfl, [.fam ns s0 g, .str s], ow, fun z => z = .bl (decide (s ∈ ns)), fun _ => False, okH, tr, .cons ry2 (.cons (.str s) .nil), ⟨ns, s0, g, s, rfl, rfl⟩, fun z u L e1 o1 g1 r1 => ?_, fun x d G a => absurd a fun z => z⟩
    subst e1
    exact ⟨_, rep_bl r1, k _ L o1 g1 (.bl _)⟩
  · cases hg
theorem bt_has (M : MtD X.prog X.w T X.mg X.base k "Family" "__contains__" 2 0 F_FHas) (hr : Room k X.A) (ha : PE X a (eOf T W O φa)) (hb : PE X b (eOf T W O φb)) (hm : behindInMarks .In b = false) : PT X (.Compare a [.In] [b] pos) (tOf T W O (tB' (xOp2 (dHas false) φa φb))) := by
  obtain ⟨r, h1, h2⟩ := has_or M hr
  exact bt_cmp h1 h2 (be_o ha) (be_o hb) hm
theorem be_lenF (M : MtD X.prog X.w T X.mg X.base k "Family" "__len__" 1 0 F_FLen) (hr : Room (k + 1) X.A) (hG : Gl X "len") (hm : X.mg "len" = none) (ha : PE X e (eOf T W O φ)) (he : starEach [e] X.env = (false, eval e X.env) :: starEach [] X.env := by rfl) :
    PE X (.Call (.Name "len" p) [e] [] pos) (eOf T W O (xB dLenF (aCons φ aNil))) := by
  obtain ⟨f, fd, ps, own, ok, hb⟩ := M.ex
  refine be_bf (call_lenI own (fn_down ok) hb hr) (fun H ow vs ds z Q okH tr r hg k => ?_) hG hm (by decide +kernel) (bo_cons (be_o ha) bo_nil he) (he := he)
  unfold dLenF at hg
  split at hg
  · rename_i ns s0 g
    split at hg
    · rename_i hl
      cases hg
      obtain ⟨v, rfl, rv⟩ := pair1 r
      have ry2 := rep_famO rv
      obtain ⟨b, dx, t, s1, c, rfl, hB, _⟩ := rep_fam ry2
      refine ⟨b, dx, _, rfl, hB, rfl, [.fam ns s0 g], ow, fun z => z = .int ns.length, fun _ => False, okH, tr, .cons ry2 .nil, ⟨ns, s0, g, rfl, rfl⟩, fun z u L e1 o1 g1 r1 => ?_, fun x d G a => absurd a fun z => z⟩
      subst e1
      exact ⟨ns.length, rep_int r1, hl, k _ L o1 g1 (.int _)⟩
    · cases hg
  · cases hg
end
def srtD (l : List Int) : List Int := (srtI l).reverse
def xSortR (φ : DX) : DX := fun ρ A Ax => φ ρ (fun x => ∃ ns : List Int, x = .lst (ns.map .int) ∧ A (.lst ((srtD ns).map .int))) Ax
section
variable {X : Cx} {T : Th X.K} {W : WX} {O : List Nat} {e : Expr} {φ : DX} {pos p p2 kp : Pos} {j}
end
section
variable {X : Cx} {T : Th X.K}
end
end Dz
namespace Dz
open PySem PySem.Spec PyProof.Rows L2 Evl Bf
theorem ER.moreG {K : PySem.W.Frag} {H G : Hp} {ow0 : Addr → Prop} {fr : Fr} {O : List Nat} {σ : L2.St} {ρ : Ro} {p : Addr} (T : Th K) (e : ER K H ow0 fr O σ ρ) (hp : H p = none) (g : T.Gr H G) (hG : G p ≠ none) : ER K G (fun a => ow0 a ∨ a = p) { fr with iw := fun a => fr.iw a ∨ a = p } O σ ρ := by
  have m1 : Mv K H (owOf ow0 O σ) H (owOf (fun a => ow0 a ∨ a = p) O σ) := by rw [ow_more]; exact more_own hp
  refine ⟨fun i d hd hi hi2 => ?_, fun i hi l => ?_, fun q hq => ((e.frm q hq).mv m1).gr T g, ?_, fun i hi => ?_, fun a ha => ?_, e.len, e.slt, e.sml⟩
  · obtain ⟨v, h1, h2⟩ := e.val i d hd hi hi2
    exact ⟨v, h1, (h2.mv m1).gr T g⟩
  · obtain ⟨a, d, h1, h2, h3, h4, h5⟩ := e.own i hi l
    refine ⟨a, d, h1, h2, fun z => z.elim h3 fun z => h4.trk (z ▸ hp), (h4.mv m1 fun o z _ => z).mv (Mv.gr T g) fun o z n => T.keep g z n, h5⟩
  · obtain ⟨rg, hd⟩ := e.dep
    exact ⟨rg, fun i l hi => (hd i l hi).mv (Mv.gr T g) (fun a _ _ o z n => T.keep g z n) fun a z _ n => ⟨.inl z, fun q => q.elim n fun q => e.trk a z (q ▸ hp)⟩⟩
  · obtain ⟨v, d, h1, h2, h3⟩ := e.nwq i hi
    refine ⟨v, d, h1, h2, (h3.mv (Mv.more fun a z => ?_)).gr T g⟩
    rw [ow_more] at z
    rcases z with (z | z) | (z | z)
    · exact .inl (.inl z)
    · exact .inr (z ▸ hp)
    · exact .inl (.inr z)
    · exact .inr (z ▸ hp)
  · rcases ha with ha | rfl
    · exact T.forth g (e.trk a ha)
    · exact hG
theorem XOk.more {K : PySem.W.Frag} {T : Th K} {W : WX} {H G : Hp} {ow : Addr → Prop} {σ : L2.St} {Ax : XQ} {p : Addr} (x : XOk T W H ow σ Ax) (g : T.Gr H G) : XOk T W G (fun a => ow a ∨ a = p) σ Ax := fun y d J a o g' r => x y d J a o (T.trans g g') (by
  cases d with
  | none => exact r
  | some d =>
    obtain ⟨nf, fvs, h1, h2⟩ := r
    exact ⟨nf, fvs, h1, h2.mv (Mv.less fun a z => .inl z)⟩)
def sParO (i j : Nat) (φa φb : DX) : DS := fun E ρ => i < ρ.length ∧ j < ρ.length ∧ φa ρ (fun d => φb ρ (fun e => E.nx ((ρ.set i (some d)).set j (some e))) fun x => E.ex x ρ) fun x => E.ex x ρ
section
variable {X : Cx} {T : Th X.K} {W : WX} {fz : Nat} {O Ol : List Nat} {i j : Nat} {x y : Str} {a b : Expr} {φa φb : DX} {px py pt pos : Pos} {kt k2 pt2}
theorem s_parOO (hc : X.calm = true) (hN : X.N.Nodup) (hi : X.N[i]? = some x) (hj : X.N[j]? = some y) (hij : i ≠ j) (i0 : i ≠ 0) (j0 : j ≠ 0)
    (hx : X.env.scope.names.lookup x = some .local) (hy : X.env.scope.names.lookup y = some .local) (hO : fre O i = true) (hO2 : fre (i :: O) j = true) (ha : PE X a (efOf T W O φa)) (hb : PE X b (efOf T W O φb))
    (hw : swappedStores [.Tuple [.Name x px, .Name y py] kt pt] (.Tuple [a, b] k2 pt2) X.env = pure (some [x, y])) (e1 : starEach [a, b] X.env = (false, eval a X.env) :: starEach [b] X.env := by rfl) (e2 : starEach [b] X.env = (false, eval b X.env) :: starEach [] X.env := by rfl)
    (hs : swapsWithSole [.Tuple [.Name x px, .Name y py] kt pt] (.Tuple [a, b] k2 pt2) pos.line X.env = pure false := by rfl) (hbi : T.bor.contains i = false := by rfl) (hbj : T.bor.contains j = false := by rfl) :
    PS X (.Assign [.Tuple [.Name x px, .Name y py] kt pt] (.Tuple [a, b] k2 pt2) pos) (sOf T W fz O (j :: i :: O) Ol (sParO i j φa φb)) :=
  psI (ps_par hc hN hi hj hij hx hy (pa_cons ha (pa_cons hb pa_nil e2) e1) hw hs) fun M σ H ⟨ρ, H0, owi, ow0, fr, E, s, tr, k, hl, hl2, q⟩ => by
    refine ⟨ρ, ow0, fr, _, _, s.ok, s.er, q, fun d v G qd ok g ⟨p, e1, e2, e3⟩ => ?_, k.x s⟩
    subst e1
    have er2 := s.er.moreG T e2 g e3.trk
    refine ⟨ρ, _, _, _, _, ok, er2, qd, fun e u J qe okJ gJ ⟨p2, f1, f2, f3⟩ => ?_, ?_⟩
    · subst f1
      rw [ow_more] at f3
      have s1 := s.own hO i0 hl ok g e2 e3 (tr.off hbi)
      have eo := ow_own (O := O) (ow0 := ow0) (σ := σ) (p := p) (fre_of hO).1 (by rw [← s.er.len]; exact hl)
      have eq : (fun a => owOf ow0 (i :: O) (σ.set i (some (.ref p))) a ∨ a = p2) = fun a => (owOf ow0 O σ a ∨ a = p) ∨ a = p2 := by
        funext a
        exact propext (or_congr (eo a) Iff.rfl)
      have s2 := s1.own hO2 j0 (by rw [List.length_set]; exact hl2) okJ gJ f2 (by rw [eq]; exact f3) (tr.off hbj)
      exact ⟨_, _, rfl, k.nx _ J _ ow0 s2 qe⟩
    · rw [ow_more]
      exact (k.x s).more g
end
structure Mk0 (K : PySem.W.Frag) (C : Addr) : Prop where
  makes : PySem.W.makesIn K C = true
  init : PySem.W.findIn K (.ref C) "__init__" = some (some (.builtin "object.__init__"))
  kp : PySem.W.keepIn K (.ref C) = true
section
variable {X : Cx} {C : Addr}
end
def xMk0 (c : Str) : DX := fun _ A _ => A (.ins c [])
end Dz
namespace Dz
open PySem PySem.Spec PyProof.Rows L2 Evl Bf
section
variable {X : Cx} {kx vx tg iter : Expr} {scope : Scope} {own : List (Str × Nat)} {pos : Pos} {wi : TI} {g : TG} {tk tv : TE}
end
end Dz
namespace Dz
open PySem PySem.Spec PyProof.Rows L2 Evl Bf
def dcTL (ρ : Ro) (vs : List Nat) (g : DG) (ek ev : DX) : List D → List (List Key × V) → (List (List Key × V) → Prop) → Prop
  | [], acc, Q => Q acc
  | x :: xs, acc, Q => g x (wipeR ρ vs) fun ρ' => ek ρ' (fun kx => ev ρ' (fun y => ∃ kk w, tKey kx = some kk ∧ y.flat = some w ∧ dcTL ρ vs g ek ev xs (putK acc kk w) Q) fun _ => False) fun _ => False
def xDcT (φ : DI) (vs : List Nat) (g : DG) (ek ev : DX) : DX := fun ρ A Ax => φ ρ (fun items => items.length ≤ big ∧ dcTL ρ vs g ek ev items [] fun kvs => A (.dit kvs)) Ax
section
variable {O : List Nat} {σ : L2.St} {ρ : Ro}
end
section
variable {K : PySem.W.Frag} {H G : Hp} {ow : Addr → Prop} {p : Addr} {v : V} {d : D}
end
section
variable {X : Cx} {T : Th X.K} {W : WX} {O is vs : List Nat} {tg iter kx vx : Expr} {φ : DI} {g : DG} {ek ev : DX} {pos : Pos} {scope : Scope} {own : List (Str × Nat)}
end
end Dz
local macro_rules | `(tactic| walk_at "zS0") => `(tactic| (simp only [Dz.fnD, Dz.iniD, Dz.startD, Dz.sNil, Dz.sSeq, Dz.sIf, Dz.sRet, Dz.sSet, Dz.sSetO, Dz.sExpr, Dz.sApp, Dz.sPut, Dz.sClr, Dz.sExt, Dz.sIns, Dz.sRaise, Dz.sRaise2, Dz.sAsg, Dz.sFor, Dz.sSetM, Dz.sAppM, Dz.sFld', Dz.xPopAt, Dz.xPop, Dz.xVar, Dz.xC, Dz.xOp1, Dz.xOp2, Dz.xNeg, Dz.xAnd, Dz.xOr, Dz.xNot, Dz.xIf, Dz.xB, Dz.xFn, Dz.xTup, Dz.xLst, Dz.xFld, Dz.xDGet, Dz.xDIn, Dz.xSl, Dz.xChain, Dz.oNone, Dz.oSome, Dz.aNil, Dz.aCons, Dz.tB', Dz.tAnd', Dz.tOr', Dz.tNot', Dz.tYesD, Dz.gN, Dz.gT, Dz.gsN, Dz.gsC, Dz.iLst, Dz.iTupD, Dz.iRg1, Dz.iRg2, Dz.iEnm, Dz.iTxt, List.map_cons, List.map_nil, List.length_cons, List.length_nil, List.replicate, List.replicate_succ, List.replicate_zero, List.cons_append, List.nil_append, List.set_cons_zero, List.set_cons_succ, List.getElem?_cons_zero, List.getElem?_cons_succ, Option.some.injEq, Dz.D.int.injEq, Dz.D.str.injEq, Dz.D.bl.injEq, Dz.D.lst.injEq, Dz.D.tup.injEq, Dz.D.dic.injEq, Dz.D.ins.injEq, exists_eq_left, exists_eq_left', exists_eq_right, exists_eq_right', exists_and_left, and_true, true_and, Nat.reduceAdd, Nat.reduceSub, Nat.reduceLT, Nat.reduceEqDiff, Nat.add_one_sub_one, Nat.sub_zero, if_true, if_false, Bool.false_eq_true, reduceIte, Dz.wipeR, List.cons.injEq, Nat.zero_add, reduceCtorEq, false_and, exists_false, Bool.false_bne, Bool.true_bne, Dz.len_lst, Dz.len_tup, Dz.len_scr, Dz.in_lst, Dz.in_tup, Dz.dKey_str, Dz.dKey_int, and_assoc, Dz.eq_int, Dz.dSub, Dz.dLt, Dz.dLe, Dz.dGt, Dz.dGe, Dz.isNonD, Dz.dIs, Dz.dMin, Dz.dMax, Dz.xMeth, Dz.xMeth0, Dz.xEqO, Dz.xXf, Dz.sTry, Dz.catchD, Dz.offD, Dz.add_int, Dz.dList, Dz.dTuple, Dz.xFlt, Dz.xFltC, Dz.xFltX, Dz.xFltCX, Dz.xX, Dz.sAppP, Dz.sClrP, Dz.sFldP, Dz.sPutP, Dz.pVar, Dz.pIx, Dz.pFld, id, Dz.xDisp, Dz.pairsD, Dz.xNames, Dz.xMethF, Dz.xMeth0F, Dz.aStar, Dz.xTGet, Dz.xTIn, Dz.sPutT, Dz.sRaise0, Dz.sTryM, Dz.catchM, Dz.emEq, Dz.tKey_strs, Dz.famNs, Option.isSome_some, Dz.iSqV, Dz.sForW, Dz.xJoin, Dz.dSortedY, Dz.xRevL, Dz.sDead, Dz.xDead, Dz.xDc, Dz.sPar, Dz.sParO, Dz.dMin2, Dz.dMax2, Dz.dHas, Dz.dLenF, Dz.xSortR, Dz.dXor, Dz.xDcT, Dz.xMk0, Dz.seqOf, Dz.xLc, Dz.xLenSet]))
local macro_rules | `(tactic| k_dat $t:term "zS0") => `(tactic| simp only [$t:term, Dz.fnD, Dz.iniD, Dz.startD, Dz.sNil, Dz.sSeq, Dz.sIf, Dz.sRet, Dz.sSet, Dz.sSetO, Dz.sExpr, Dz.sApp, Dz.sPut, Dz.sClr, Dz.sExt, Dz.sIns, Dz.sRaise, Dz.sRaise2, Dz.sAsg, Dz.sFor, Dz.sSetM, Dz.sAppM, Dz.sFld', Dz.xPopAt, Dz.xPop, Dz.xVar, Dz.xC, Dz.xOp1, Dz.xOp2, Dz.xNeg, Dz.xAnd, Dz.xOr, Dz.xNot, Dz.xIf, Dz.xB, Dz.xFn, Dz.xTup, Dz.xLst, Dz.xFld, Dz.xDGet, Dz.xDIn, Dz.xSl, Dz.xChain, Dz.oNone, Dz.oSome, Dz.aNil, Dz.aCons, Dz.tB', Dz.tAnd', Dz.tOr', Dz.tNot', Dz.tYesD, Dz.gN, Dz.gT, Dz.gsN, Dz.gsC, Dz.iLst, Dz.iTupD, Dz.iRg1, Dz.iRg2, Dz.iEnm, Dz.iTxt, List.map_cons, List.map_nil, List.length_cons, List.length_nil, List.replicate, List.replicate_succ, List.replicate_zero, List.cons_append, List.nil_append, List.set_cons_zero, List.set_cons_succ, List.getElem?_cons_zero, List.getElem?_cons_succ, Option.some.injEq, Dz.D.int.injEq, Dz.D.str.injEq, Dz.D.bl.injEq, Dz.D.lst.injEq, Dz.D.tup.injEq, Dz.D.dic.injEq, Dz.D.ins.injEq, exists_eq_left, exists_eq_left', exists_eq_right, exists_eq_right', exists_and_left, and_true, true_and, Nat.reduceAdd, Nat.reduceSub, Nat.reduceLT, Nat.reduceEqDiff, Nat.add_one_sub_one, Nat.sub_zero, if_true, if_false, Bool.false_eq_true, reduceIte, Dz.wipeR, List.cons.injEq, Nat.zero_add, reduceCtorEq, false_and, exists_false, Bool.false_bne, Bool.true_bne, Dz.len_lst, Dz.len_tup, Dz.len_scr, Dz.in_lst, Dz.in_tup, Dz.dKey_str, Dz.dKey_int, and_assoc, Dz.eq_int, Dz.dSub, Dz.dLt, Dz.dLe, Dz.dGt, Dz.dGe, Dz.isNonD, Dz.dIs, Dz.dMin, Dz.dMax, Dz.xMeth, Dz.xMeth0, Dz.xEqO, Dz.xXf, Dz.sTry, Dz.catchD, Dz.offD, Dz.add_int, Dz.dList, Dz.dTuple, Dz.xFlt, Dz.xFltC, Dz.xFltX, Dz.xFltCX, Dz.xX, Dz.sAppP, Dz.sClrP, Dz.sFldP, Dz.sPutP, Dz.pVar, Dz.pIx, Dz.pFld, id, Dz.xDisp, Dz.pairsD, Dz.xNames, Dz.xMethF, Dz.xMeth0F, Dz.aStar, Dz.xTGet, Dz.xTIn, Dz.sPutT, Dz.sRaise0, Dz.sTryM, Dz.catchM, Dz.emEq, Dz.tKey_strs, Dz.famNs, Option.isSome_some, Dz.iSqV, Dz.sForW, Dz.xJoin, Dz.dSortedY, Dz.xRevL, Dz.sDead, Dz.xDead, Dz.xDc, Dz.sPar, Dz.sParO, Dz.dMin2, Dz.dMax2, Dz.dHas, Dz.dLenF, Dz.xSortR, Dz.dXor, Dz.xDcT, Dz.xMk0, Dz.seqOf, Dz.xLc, Dz.xLenSet])
namespace Dz
open PySem PySem.Spec PyProof.Rows L2 Evl Bf
end Dz
namespace Dz
open PySem PySem.Spec PyProof.Rows L2 Evl Bf
section
variable {X : Cx} {T : Th X.K} {W : WX} {O : List Nat} {o i : Expr} {φa φb : DX} {pos : Pos}
end
end Dz
namespace Dz
open PySem PySem.Spec PyProof.Rows L2 Evl Bf
def isTy (n : String) (d : D) : Bool := match tyN d with
  | some t => decide (t = n) || decide (t = "bool" ∧ n = "int")
  | none => false
def anyD (d : D) : Prop := (tyN d).isSome = true
theorem tyN_mem {d : D} {t : String} (h : tyN d = some t) : t ∈ ["NoneType", "bool", "int", "str", "list", "tuple", "dict"] := by
  cases d <;> cases h <;> decide
theorem isi_of {n : String} {d : D} (h : anyD d) (hn : n ∈ ["int", "bool", "str", "list", "tuple", "dict"]) : dIsi [d, .ty n] = some (.bl (isTy n d)) := by
  have all : ∀ t ∈ ["NoneType", "bool", "int", "str", "list", "tuple", "dict"], ∀ n ∈ ["int", "bool", "str", "list", "tuple", "dict"], kitB t n = some (decide (t = n) || decide (t = "bool" ∧ n = "int")) := by decide +kernel
  unfold anyD at h
  cases e : tyN d with
  | none => rw [e] at h; cases h
  | some t =>
    simp only [dIsi, isTy, e]
    rw [all t (tyN_mem e) n hn]
    rfl
def r_IsName : DS :=
  (sSeq (sIf (tOr' (tNot' (tB' (xB dIsi (aCons (xVar 0) (aCons (xC (.ty "str")) aNil))))) (tNot' (tB' (xChain dLe dLe (xC (.int 1)) (xB dLen (aCons (xVar 0) aNil)) (xC (.int 8))))))
    (sRet (xC (.bl false)))
    sNil)
    (sRet (xB dAll (aCons (xLc (iTxt (xVar 0)) [1] (gN 1) tYesD (xOp2 (dIn false) (xVar 1) (xC (.str "abcdefghijklmnopqrstuvwxyz")))) aNil))))
def isNmD : D → Bool
  | .str z => isNm z
  | _ => false
def NmA (d : D) : Prop := anyD d ∧ ∀ z, d = .str z → z.length ≤ 1000
def F_IsName : DF := fun ds A _ => ∃ d, ds = [d] ∧ NmA d ∧ A (.bl (isNmD d))
theorem isTy_str {d : D} (h : ∀ z, d ≠ .str z) (a : anyD d) : isTy "str" d = false := by
  cases d with
  | str z => exact absurd rfl (h z)
  | _ => first | rfl | cases a
theorem bls_of_map {α : Type} (p : α → Bool) (xs : List α) : dAll [.lst (xs.map fun x => D.bl (p x))] = some (.bl (xs.all p)) := by
  have e : (xs.map fun x => D.bl (p x)) = (xs.map p).map D.bl := by rw [List.map_map]; rfl
  unfold dAll
  rw [e]
  simp only [bls_map]
  rw [List.all_map]
  rfl
theorem n_IsName (ds : List D) (A : D → Prop) (Ax : XQ) (h : F_IsName ds A Ax) : fnD 0 2 1 r_IsName ds A Ax := by
  obtain ⟨d, rfl, ⟨h, hl⟩, q⟩ := h
  simp only [r_IsName, fnD, iniD, startD, sNil, sSeq, sIf, sRet, sSet, sSetO, sExpr, sApp, sPut, sClr, sExt, sIns, sRaise, sRaise2, sAsg, sFor, sSetM, sAppM, sFld', xPopAt, xPop, xVar, xC, xOp1, xOp2, xNeg, xAnd, xOr, xNot, xIf, xB, xFn, xTup, xLst, xFld, xDGet, xDIn, xSl, xChain, oNone, oSome, aNil, aCons, tB', tAnd', tOr', tNot', tYesD, gN, gT, gsN, gsC, iLst, iTupD, iRg1, iRg2, iEnm, iTxt, List.map_cons, List.map_nil, List.length_cons, List.length_nil, List.replicate, List.replicate_succ, List.replicate_zero, List.cons_append, List.nil_append, List.set_cons_zero, List.set_cons_succ, List.getElem?_cons_zero, List.getElem?_cons_succ, Option.some.injEq, D.int.injEq, D.str.injEq, D.bl.injEq, D.lst.injEq, D.tup.injEq, D.dic.injEq, D.ins.injEq, exists_eq_left, exists_eq_left', exists_eq_right, exists_eq_right', exists_and_left, and_true, true_and, Nat.reduceAdd, Nat.reduceSub, Nat.reduceLT, Nat.reduceEqDiff, Nat.add_one_sub_one, Nat.sub_zero, if_true, if_false, Bool.false_eq_true, reduceIte, wipeR, List.cons.injEq, Nat.zero_add, reduceCtorEq, false_and, exists_false, Bool.false_bne, Bool.true_bne, len_lst, len_tup, len_scr, in_lst, in_tup, dKey_str, dKey_int, and_assoc, eq_int, dSub, dLt, dLe, dGt, dGe, isNonD, dIs, dMin, dMax, xMeth, xMeth0, xEqO, xXf, sTry, catchD, offD, add_int, dList, dTuple, xFlt, xFltC, xFltX, xFltCX, xX, sAppP, sClrP, sFldP, sPutP, pVar, pIx, pFld, id, xDisp, pairsD, xNames, xMethF, xMeth0F, aStar, xTGet, xTIn, sPutT, sRaise0, sTryM, catchM, emEq, tKey_strs, famNs, Option.isSome_some, iSqV, isi_of h (show "str" ∈ _ by decide)]
  by_cases c : ∃ z, d = .str z
  · obtain ⟨z, rfl⟩ := c
    have hz := hl z rfl
    rw [if_neg (by exact Bool.false_ne_true)]
    refine ⟨.int z.length, len_str hz, _, rfl, ?_⟩
    by_cases c1 : (1 : Int) ≤ z.length
    · rw [if_pos (decide_eq_true c1)]
      refine ⟨_, rfl, _, rfl, ?_⟩
      by_cases c2 : (z.length : Int) ≤ 8
      · rw [if_neg (by rw [decide_eq_true c2]; decide)]
        simp only [xLc, fnD, iniD, startD, sNil, sSeq, sIf, sRet, sSet, sSetO, sExpr, sApp, sPut, sClr, sExt, sIns, sRaise, sRaise2, sAsg, sFor, sSetM, sAppM, sFld', xPopAt, xPop, xVar, xC, xOp1, xOp2, xNeg, xAnd, xOr, xNot, xIf, xB, xFn, xTup, xLst, xFld, xDGet, xDIn, xSl, xChain, oNone, oSome, aNil, aCons, tB', tAnd', tOr', tNot', tYesD, gN, gT, gsN, gsC, iLst, iTupD, iRg1, iRg2, iEnm, iTxt, List.map_cons, List.map_nil, List.length_cons, List.length_nil, List.replicate, List.replicate_succ, List.replicate_zero, List.cons_append, List.nil_append, List.set_cons_zero, List.set_cons_succ, List.getElem?_cons_zero, List.getElem?_cons_succ, Option.some.injEq, D.int.injEq, D.str.injEq, D.bl.injEq, D.lst.injEq, D.tup.injEq, D.dic.injEq, D.ins.injEq, exists_eq_left, exists_eq_left', exists_eq_right, exists_eq_right', exists_and_left, and_true, true_and, Nat.reduceAdd, Nat.reduceSub, Nat.reduceLT, Nat.reduceEqDiff, Nat.add_one_sub_one, Nat.sub_zero, if_true, if_false, Bool.false_eq_true, reduceIte, wipeR, List.cons.injEq, Nat.zero_add, reduceCtorEq, false_and, exists_false, Bool.false_bne, Bool.true_bne, len_lst, len_tup, len_scr, in_lst, in_tup, dKey_str, dKey_int, and_assoc, eq_int, dSub, dLt, dLe, dGt, dGe, isNonD, dIs, dMin, dMax, xMeth, xMeth0, xEqO, xXf, sTry, catchD, offD, add_int, dList, dTuple, xFlt, xFltC, xFltX, xFltCX, xX, sAppP, sClrP, sFldP, sPutP, pVar, pIx, pFld, id, xDisp, pairsD, xNames, xMethF, xMeth0F, aStar, xTGet, xTIn, sPutT, sRaise0, sTryM, catchM, emEq, tKey_strs, famNs, Option.isSome_some, iSqV]
        refine ⟨by rw [List.length_map, Array.length_toList]; show z.length ≤ 100000; omega, ?_⟩
        refine lc_mapT (fun c => D.str ⟨#[c]⟩) (fun c => D.bl (decide (c ∈ abc.cps.toList))) _ (fun c _ K k => ?_) ⟨_, bls_of_map _ _, ?_⟩
        · simp only [fnD, iniD, startD, sNil, sSeq, sIf, sRet, sSet, sSetO, sExpr, sApp, sPut, sClr, sExt, sIns, sRaise, sRaise2, sAsg, sFor, sSetM, sAppM, sFld', xPopAt, xPop, xVar, xC, xOp1, xOp2, xNeg, xAnd, xOr, xNot, xIf, xB, xFn, xTup, xLst, xFld, xDGet, xDIn, xSl, xChain, oNone, oSome, aNil, aCons, tB', tAnd', tOr', tNot', tYesD, gN, gT, gsN, gsC, iLst, iTupD, iRg1, iRg2, iEnm, iTxt, List.map_cons, List.map_nil, List.length_cons, List.length_nil, List.replicate, List.replicate_succ, List.replicate_zero, List.cons_append, List.nil_append, List.set_cons_zero, List.set_cons_succ, List.getElem?_cons_zero, List.getElem?_cons_succ, Option.some.injEq, D.int.injEq, D.str.injEq, D.bl.injEq, D.lst.injEq, D.tup.injEq, D.dic.injEq, D.ins.injEq, exists_eq_left, exists_eq_left', exists_eq_right, exists_eq_right', exists_and_left, and_true, true_and, Nat.reduceAdd, Nat.reduceSub, Nat.reduceLT, Nat.reduceEqDiff, Nat.add_one_sub_one, Nat.sub_zero, if_true, if_false, Bool.false_eq_true, reduceIte, wipeR, List.cons.injEq, Nat.zero_add, reduceCtorEq, false_and, exists_false, Bool.false_bne, Bool.true_bne, len_lst, len_tup, len_scr, in_lst, in_tup, dKey_str, dKey_int, and_assoc, eq_int, dSub, dLt, dLe, dGt, dGe, isNonD, dIs, dMin, dMax, xMeth, xMeth0, xEqO, xXf, sTry, catchD, offD, add_int, dList, dTuple, xFlt, xFltC, xFltX, xFltCX, xX, sAppP, sClrP, sFldP, sPutP, pVar, pIx, pFld, id, xDisp, pairsD, xNames, xMethF, xMeth0F, aStar, xTGet, xTIn, sPutT, sRaise0, sTryM, catchM, emEq, tKey_strs, famNs, Option.isSome_some, iSqV, in_sign]
          exact k
        · have e : isNmD (.str z) = z.cps.toList.all fun c => decide (c ∈ abc.cps.toList) := nm_okV (by omega) (by omega)
          rw [e] at q
          exact q
      · rw [if_pos (by rw [decide_eq_false c2]; decide)]
        have e : isNmD (.str z) = false := nm_long (by omega)
        rw [e] at q
        exact q
    · rw [if_neg (by rw [decide_eq_false c1]; decide), if_pos (by decide)]
      have e : isNmD (.str z) = false := nm_short (by omega)
      rw [e] at q
      exact q
  · have ns : ∀ z, d ≠ .str z := fun z e => c ⟨z, e⟩
    rw [isTy_str ns h, if_pos (by decide)]
    have e : isNmD d = false := by
      cases d with
      | str z => exact absurd rfl (ns z)
      | _ => rfl
    rw [e] at q
    exact q
def r_FirstW : DS :=
  (sSeq (sSetO 2 (xC (.dic [])))
    (sSeq (sFor (iEnm (xVar 0)) (gT 2 (gsC (gN 3) (gsC (gN 4) gsN)))
    (sSeq (sIf (tOr' (tB' (xOp2 (dIn true) (xVar 4) (xVar 1))) (tB' (xDIn false (xVar 4) (xVar 2))))
    (sRet (xVar 3))
    sNil)
    (sPut 2 (xVar 4) (xC (.bl true)))))
    (sRet (xC .non))))
def optI : Option Nat → D
  | none => .non
  | some i => .int i
def F_FirstW : DF := fun ds A _ => ∃ xs kn k, ds = [lstS xs, k] ∧ seqS k kn ∧ xs.length ≤ 1000 ∧ A (optI (fwOf kn xs))
theorem n_FirstW (ds : List D) (A : D → Prop) (Ax : XQ) (h : F_FirstW ds A Ax) : fnD 0 5 2 r_FirstW ds A Ax := by
  obtain ⟨xs, kn, k, rfl, hk, hl, q⟩ := h
  simp only [r_FirstW, fnD, iniD, startD, sNil, sSeq, sIf, sRet, sSet, sSetO, sExpr, sApp, sPut, sClr, sExt, sIns, sRaise, sRaise2, sAsg, sFor, sSetM, sAppM, sFld', xPopAt, xPop, xVar, xC, xOp1, xOp2, xNeg, xAnd, xOr, xNot, xIf, xB, xFn, xTup, xLst, xFld, xDGet, xDIn, xSl, xChain, oNone, oSome, aNil, aCons, tB', tAnd', tOr', tNot', tYesD, gN, gT, gsN, gsC, iLst, iTupD, iRg1, iRg2, iEnm, iTxt, List.map_cons, List.map_nil, List.length_cons, List.length_nil, List.replicate, List.replicate_succ, List.replicate_zero, List.cons_append, List.nil_append, List.set_cons_zero, List.set_cons_succ, List.getElem?_cons_zero, List.getElem?_cons_succ, Option.some.injEq, D.int.injEq, D.str.injEq, D.bl.injEq, D.lst.injEq, D.tup.injEq, D.dic.injEq, D.ins.injEq, exists_eq_left, exists_eq_left', exists_eq_right, exists_eq_right', exists_and_left, and_true, true_and, Nat.reduceAdd, Nat.reduceSub, Nat.reduceLT, Nat.reduceEqDiff, Nat.add_one_sub_one, Nat.sub_zero, if_true, if_false, Bool.false_eq_true, reduceIte, wipeR, List.cons.injEq, Nat.zero_add, reduceCtorEq, false_and, exists_false, Bool.false_bne, Bool.true_bne, len_lst, len_tup, len_scr, in_lst, in_tup, dKey_str, dKey_int, and_assoc, eq_int, dSub, dLt, dLe, dGt, dGe, isNonD, dIs, dMin, dMax, xMeth, xMeth0, xEqO, xXf, sTry, catchD, offD, add_int, dList, dTuple, xFlt, xFltC, xFltX, xFltCX, xX, sAppP, sClrP, sFldP, sPutP, pVar, pIx, pFld, id, xDisp, pairsD, xNames, xMethF, xMeth0F, aStar, xTGet, xTIn, sPutT, sRaise0, sTryM, catchM, emEq, tKey_strs, famNs, Option.isSome_some, iSqV]
  refine for_enum D.str xs (fun i ρ => ∃ a b, ρ = [some (lstS xs), some k, some (.dic (seenD (xs.take i))), a, b] ∧ ∀ j, j < i → badIt kn xs j = false) ⟨_, _, rfl, fun j h => by omega⟩ (fun i x ρ N hx p n => ?_) (fun ρ p => ?_)
  · obtain ⟨a, b, rfl, hb⟩ := p
    have hi : i < xs.length := (List.getElem?_eq_some_iff.mp hx).1
    simp only [fnD, iniD, startD, sNil, sSeq, sIf, sRet, sSet, sSetO, sExpr, sApp, sPut, sClr, sExt, sIns, sRaise, sRaise2, sAsg, sFor, sSetM, sAppM, sFld', xPopAt, xPop, xVar, xC, xOp1, xOp2, xNeg, xAnd, xOr, xNot, xIf, xB, xFn, xTup, xLst, xFld, xDGet, xDIn, xSl, xChain, oNone, oSome, aNil, aCons, tB', tAnd', tOr', tNot', tYesD, gN, gT, gsN, gsC, iLst, iTupD, iRg1, iRg2, iEnm, iTxt, List.map_cons, List.map_nil, List.length_cons, List.length_nil, List.replicate, List.replicate_succ, List.replicate_zero, List.cons_append, List.nil_append, List.set_cons_zero, List.set_cons_succ, List.getElem?_cons_zero, List.getElem?_cons_succ, Option.some.injEq, D.int.injEq, D.str.injEq, D.bl.injEq, D.lst.injEq, D.tup.injEq, D.dic.injEq, D.ins.injEq, exists_eq_left, exists_eq_left', exists_eq_right, exists_eq_right', exists_and_left, and_true, true_and, Nat.reduceAdd, Nat.reduceSub, Nat.reduceLT, Nat.reduceEqDiff, Nat.add_one_sub_one, Nat.sub_zero, if_true, if_false, Bool.false_eq_true, reduceIte, wipeR, List.cons.injEq, Nat.zero_add, reduceCtorEq, false_and, exists_false, Bool.false_bne, Bool.true_bne, len_lst, len_tup, len_scr, in_lst, in_tup, dKey_str, dKey_int, and_assoc, eq_int, dSub, dLt, dLe, dGt, dGe, isNonD, dIs, dMin, dMax, xMeth, xMeth0, xEqO, xXf, sTry, catchD, offD, add_int, dList, dTuple, xFlt, xFltC, xFltX, xFltCX, xX, sAppP, sClrP, sFldP, sPutP, pVar, pIx, pFld, id, xDisp, pairsD, xNames, xMethF, xMeth0F, aStar, xTGet, xTIn, sPutT, sRaise0, sTryM, catchM, emEq, tKey_strs, famNs, Option.isSome_some, iSqV, in_seq hk, seen_get, seen_len]
    have g := getD_of (d := ("" : Str)) hx
    by_cases c1 : x ∈ kn
    · by_cases c2 : x ∈ xs.take i
      · rw [if_neg (by simp [c1]), if_pos (by simp [c2])]
        have e : fwOf kn xs = some i := first_some hi (by unfold badIt; rw [g]; simp [c1, c2]) hb
        rw [e] at q
        exact q
      · rw [if_neg (by simp [c1]), if_neg (by simp [c2])]
        refine ⟨by rw [List.length_take]; show _ < 100000; omega, n _ ⟨_, _, by rw [seen_put c2, take_next hx], fun j hj => ?_⟩⟩
        by_cases cj : j = i
        · subst cj; unfold badIt; rw [g]; simp [c1, c2]
        · exact hb j (by omega)
    · rw [if_pos (by simp [c1])]
      have e : fwOf kn xs = some i := first_some hi (by unfold badIt; rw [g]; simp [c1]) hb
      rw [e] at q
      exact q
  · obtain ⟨a, b, rfl, hb⟩ := p
    simp only [fnD, iniD, startD, sNil, sSeq, sIf, sRet, sSet, sSetO, sExpr, sApp, sPut, sClr, sExt, sIns, sRaise, sRaise2, sAsg, sFor, sSetM, sAppM, sFld', xPopAt, xPop, xVar, xC, xOp1, xOp2, xNeg, xAnd, xOr, xNot, xIf, xB, xFn, xTup, xLst, xFld, xDGet, xDIn, xSl, xChain, oNone, oSome, aNil, aCons, tB', tAnd', tOr', tNot', tYesD, gN, gT, gsN, gsC, iLst, iTupD, iRg1, iRg2, iEnm, iTxt, List.map_cons, List.map_nil, List.length_cons, List.length_nil, List.replicate, List.replicate_succ, List.replicate_zero, List.cons_append, List.nil_append, List.set_cons_zero, List.set_cons_succ, List.getElem?_cons_zero, List.getElem?_cons_succ, Option.some.injEq, D.int.injEq, D.str.injEq, D.bl.injEq, D.lst.injEq, D.tup.injEq, D.dic.injEq, D.ins.injEq, exists_eq_left, exists_eq_left', exists_eq_right, exists_eq_right', exists_and_left, and_true, true_and, Nat.reduceAdd, Nat.reduceSub, Nat.reduceLT, Nat.reduceEqDiff, Nat.add_one_sub_one, Nat.sub_zero, if_true, if_false, Bool.false_eq_true, reduceIte, wipeR, List.cons.injEq, Nat.zero_add, reduceCtorEq, false_and, exists_false, Bool.false_bne, Bool.true_bne, len_lst, len_tup, len_scr, in_lst, in_tup, dKey_str, dKey_int, and_assoc, eq_int, dSub, dLt, dLe, dGt, dGe, isNonD, dIs, dMin, dMax, xMeth, xMeth0, xEqO, xXf, sTry, catchD, offD, add_int, dList, dTuple, xFlt, xFltC, xFltX, xFltCX, xX, sAppP, sClrP, sFldP, sPutP, pVar, pIx, pFld, id, xDisp, pairsD, xNames, xMethF, xMeth0F, aStar, xTGet, xTIn, sPutT, sRaise0, sTryM, catchM, emEq, tKey_strs, famNs, Option.isSome_some, iSqV]
    rw [show fwOf kn xs = none from first_none hb] at q
    exact q
end Dz
namespace Dz
open PySem PySem.Spec PyProof.Rows L2 Evl Bf
end Dz
namespace P01

def sp : List Nat → List Nat
  | [] => [0]
  | a :: l => sp l ++ (sp l).map (a ^^^ ·)

def Fr (l : List Nat) : Prop := (sp l).Nodup

theorem nodup_len {α : Type} [DecidableEq α] : ∀ {l m : List α}, l.Nodup → (∀ x ∈ l, x ∈ m) → l.length ≤ m.length
  | [], _, _, _ => Nat.zero_le _
  | a :: l, m, h, hs => by
    obtain ⟨h1, h2⟩ := List.nodup_cons.mp h
    have ha : a ∈ m := hs a (List.mem_cons_self ..)
    have := nodup_len (m := m.erase a) h2 fun x hx => (List.mem_erase_of_ne fun e => h1 (by rw [← e]; exact hx)).mpr (hs x (List.mem_cons_of_mem _ hx))
    rw [List.length_erase_of_mem ha] at this
    have := List.length_pos_of_mem ha
    simp only [List.length_cons]; omega


def cut (kept : List Nat) (m : Nat) : Nat := kept.foldl (fun m k => min m (m ^^^ k)) m

abbrev Lk (k x : Nat) : Prop := x ≤ x ^^^ k

abbrev Sep (a b : Nat) : Prop := (b ≤ a → Lk a b) ∧ (a ≤ b → Lk b a)

structure Kp (l : List Nat) : Prop where
  lt : ∀ x ∈ l, x < 16 ∧ x ≠ 0
  sep : l.Pairwise Sep

theorem Kp.perm {l m : List Nat} (p : l.Perm m) (h : Kp l) : Kp m :=
  ⟨fun x hx => h.lt x (p.mem_iff.mpr hx), (p.pairwise_iff (fun {_ _} s => ⟨s.2, s.1⟩)).mp h.sep⟩

def apart (srt : List Nat → List Nat) : List Nat → List Nat → Bool
  | [], _ => true
  | m :: l, kept => if cut kept m = 0 then false else apart srt l (srt (kept ++ [cut kept m]))

end P01
namespace P01

structure Mat {α : Type} (c : List α → Nat) : Prop where
  zero : c [] = 0
  mono : ∀ {X Y : List α}, (∀ x ∈ X, x ∈ Y) → c X ≤ c Y
  one : ∀ t X, c (t :: X) ≤ c X + 1
  clos : ∀ X Y, (∀ t ∈ Y, c (t :: X) = c X) → c (Y ++ X) = c X

theorem rest_of {α : Type} [DecidableEq α] : ∀ {Y B : List α}, Y.Nodup → (∀ x ∈ Y, x ∈ B) → ∃ Z, B.Perm (Z ++ Y)
  | [], B, _, _ => ⟨B, by simp⟩
  | y :: Y, B, nd, h => by
    obtain ⟨n1, n2⟩ := List.nodup_cons.mp nd
    obtain ⟨Z, p⟩ := rest_of (B := B.erase y) n2 fun x hx => (List.mem_erase_of_ne fun e => n1 (by rw [← e]; exact hx)).mpr (h x (List.mem_cons_of_mem _ hx))
    exact ⟨Z, ((List.perm_cons_erase (h y (List.mem_cons_self ..))).trans (p.cons y)).trans List.perm_middle.symm⟩

namespace Mat
variable {α : Type} {c : List α → Nat} (M : Mat c)
include M

theorem alike {X Y : List α} (h : ∀ x, x ∈ X ↔ x ∈ Y) : c X = c Y :=
  Nat.le_antisymm (M.mono fun x hx => (h x).mp hx) (M.mono fun x hx => (h x).mpr hx)

theorem perm {X Y : List α} (p : X.Perm Y) : c X = c Y := M.alike fun _ => p.mem_iff

theorem app_le : ∀ (Z Y : List α), c (Z ++ Y) ≤ c Y + Z.length
  | [], Y => by simp
  | t :: Z, Y => by
    have h1 := M.one t (Z ++ Y)
    have h2 := app_le Z Y
    simp only [List.cons_append, List.length_cons]; omega

theorem le_len (X : List α) : c X ≤ X.length := by
  have := M.app_le X []
  rw [List.append_nil, M.zero] at this; omega

theorem part {Z Y B : List α} (p : B.Perm (Z ++ Y)) (h : c B = B.length) : c Y = Y.length := by
  have h1 := M.app_le Z Y
  have h2 := M.le_len Y
  rw [← M.perm p, h, p.length_eq, List.length_append] at h1
  omega

theorem grow {F X : List α} (l : c F < c X) : ∃ t ∈ X, c (t :: F) = c F + 1 := by
  apply Classical.byContradiction
  intro z
  have e : ∀ t ∈ X, c (t :: F) = c F := fun t ht => by
    have h1 := M.one t F
    have h2 := M.mono (X := F) (Y := t :: F) fun x hx => List.mem_cons_of_mem _ hx
    by_cases q : c (t :: F) = c F + 1
    · exact (z ⟨t, ht, q⟩).elim
    · omega
  have h1 := M.clos F X e
  have h2 := M.mono (X := X) (Y := X ++ F) fun x hx => List.mem_append.mpr (.inl hx)
  omega

theorem ext : ∀ (n : Nat) {F X : List α}, (∀ x ∈ F, x ∈ X) → c F = F.length → c X = F.length + n → ∃ E : List α, (∀ x ∈ E ++ F, x ∈ X) ∧ c (E ++ F) = (E ++ F).length ∧ (E ++ F).length = c X
  | 0, F, X, h, f, e => ⟨[], by simpa using h, by simpa using f, by simp; omega⟩
  | n + 1, F, X, h, f, e => by
    obtain ⟨t, ht, q⟩ := M.grow (F := F) (X := X) (by omega)
    obtain ⟨E, h1, h2, h3⟩ := ext n (F := t :: F) (X := X) (fun x hx => by
      rcases List.mem_cons.mp hx with rfl | hx
      · exact ht
      · exact h x hx) (by rw [q, f, List.length_cons]) (by rw [List.length_cons]; omega)
    refine ⟨E ++ [t], ?_, ?_, ?_⟩ <;> simpa only [List.append_assoc, List.singleton_append] using by assumption

end Mat


section
variable {α τ : Type} (a b : τ → α)

def Even (X : List τ) (g : α → α) : Prop := ∀ t ∈ X, g (a t) = g (b t)

structure Marks (le : α → α → Prop) (X : List τ) (f : α → α) : Prop where
  even : Even a b X f
  back : ∀ g, Even a b X g → ∀ p, g (f p) = g p
  low : ∀ p, le (f p) p

variable {a b} {le : α → α → Prop}

theorem Marks.mono (anti : ∀ p q, le p q → le q p → p = q) {X Y : List τ} {f g : α → α} (hf : Marks a b le X f) (hg : Marks a b le Y g) (h : ∀ x ∈ X, x ∈ Y) {p : α} (e : g p = p) : f p = p := by
  have h1 := hf.back g (fun t ht => hg.even t (h t ht)) p
  have h2 := hg.low (f p)
  rw [h1, e] at h2
  exact anti _ _ (hf.low p) h2

theorem Marks.idem {X : List τ} {f : α → α} (h : Marks a b le X f) (p : α) : f (f p) = f p := h.back f h.even p

theorem Marks.step [DecidableEq α] (trans : ∀ p q r, le p q → le q r → le p r) {X : List τ} {f : α → α} (h : Marks a b le X f) (t : τ) {lo hi : α} (hl : le lo hi) (c : (f (a t) = lo ∧ f (b t) = hi) ∨ (f (a t) = hi ∧ f (b t) = lo)) : Marks a b le (t :: X) (fun p => if f p = hi then lo else f p) := by
  have sp : f (a t) = lo ∧ f (b t) = hi ∨ f (a t) = hi ∧ f (b t) = lo := c
  refine ⟨fun s hs => ?_, fun g hg p => ?_, fun p => ?_⟩
  · rcases List.mem_cons.mp hs with rfl | hs
    · rcases c with ⟨c1, c2⟩ | ⟨c1, c2⟩ <;> simp only [c1, c2, if_true] <;> split <;> simp_all
    · have := h.even s hs
      simp only [this]
  · have hb := h.back g fun s hs => hg s (List.mem_cons_of_mem _ hs)
    have ht := hg t (List.mem_cons_self ..)
    show g (if f p = hi then lo else f p) = g p
    split
    · rename_i e
      have e1 : g hi = g p := by rw [← e, hb]
      rw [← e1]
      have ha := hb (a t)
      have hb' := hb (b t)
      rcases c with ⟨c1, c2⟩ | ⟨c1, c2⟩
      · rw [c1] at ha; rw [c2] at hb'; rw [ha, hb', ht]
      · rw [c1] at ha; rw [c2] at hb'; rw [ha, hb', ht]
    · exact hb p
  · show le (if f p = hi then lo else f p) p
    split
    · rename_i e
      have := h.low p
      rw [e] at this
      exact trans _ _ _ hl this
    · exact h.low p

theorem Marks.same {X : List τ} {f : α → α} (h : Marks a b le X f) {t : τ} (e : f (a t) = f (b t)) : Marks a b le (t :: X) f :=
  ⟨fun s hs => by
    rcases List.mem_cons.mp hs with rfl | hs
    · exact e
    · exact h.even s hs, fun g hg => h.back g fun s hs => hg s (List.mem_cons_of_mem _ hs), h.low⟩

theorem Marks.nil (refl : ∀ p, le p p) : Marks a b le [] id := ⟨fun _ h => (List.not_mem_nil h).elim, fun _ _ _ => rfl, refl⟩

theorem Marks.of_mem {X Y : List τ} {f : α → α} (h : Marks a b le X f) (e : ∀ x, x ∈ X ↔ x ∈ Y) : Marks a b le Y f :=
  ⟨fun t ht => h.even t ((e t).mpr ht), fun g hg => h.back g fun t ht => hg t ((e t).mp ht), h.low⟩

theorem Marks.uniq (anti : ∀ p q, le p q → le q p → p = q) {X : List τ} {f g : α → α} (hf : Marks a b le X f) (hg : Marks a b le X g) (p : α) : f p = g p := by
  have h1 := hf.low (g p)
  have h2 := hg.low (f p)
  rw [hf.back g hg.even] at h2
  rw [hg.back f hf.even] at h1
  exact anti _ _ h1 h2

def cnt [DecidableEq α] (ps : List α) (f : α → α) : Nat := (ps.filter fun p => decide (f p ≠ p)).length

theorem cnt_le [DecidableEq α] {ps : List α} {f g : α → α} (h : ∀ p ∈ ps, g p = p → f p = p) : cnt ps f ≤ cnt ps g := by
  simp only [cnt]
  induction ps with
  | nil => exact Nat.le_refl _
  | cons p ps ih =>
    have ih' := ih fun q hq => h q (List.mem_cons_of_mem _ hq)
    have hp := h p (List.mem_cons_self ..)
    by_cases e : g p = p
    · rw [List.filter_cons, List.filter_cons, if_neg (by simpa using hp e), if_neg (by simpa using e)]
      exact ih'
    · rw [List.filter_cons, List.filter_cons (p := fun p => decide (g p ≠ p)), if_pos (c := decide (g p ≠ p) = true) (by simpa using e)]
      split
      · simp only [List.length_cons]; omega
      · simp only [List.length_cons]; omega

theorem cnt_step [DecidableEq α] {f : α → α} (id : ∀ p, f (f p) = f p) {lo hi : α} (hlo : f lo = lo) (hhi : f hi = hi) (ne : lo ≠ hi) : ∀ {ps : List α}, ps.Nodup → cnt ps (fun p => if f p = hi then lo else f p) = cnt ps f + (if hi ∈ ps then 1 else 0)
  | [], _ => by simp [cnt]
  | p :: ps, nd => by
    obtain ⟨n1, n2⟩ := List.nodup_cons.mp nd
    have ih := cnt_step id hlo hhi ne n2
    simp only [cnt] at ih ⊢
    by_cases e : p = hi
    · subst e
      rw [if_neg n1, Nat.add_zero] at ih
      rw [List.filter_cons, List.filter_cons (p := fun q => decide (f q ≠ q)), if_pos (c := decide ((if f p = p then lo else f p) ≠ p) = true) (by rw [if_pos hhi]; simpa using ne), if_neg (c := decide (f p ≠ p) = true) (by simpa using hhi), if_pos (List.mem_cons_self ..), List.length_cons, ih]
    · have q : ((if f p = hi then lo else f p) ≠ p) ↔ (f p ≠ p) := by
        by_cases w : f p = hi
        · rw [if_pos w]
          refine ⟨fun _ z => e (by rw [← z, w]), fun _ z => ne ?_⟩
          rw [← z, hlo] at w
          exact w
        · rw [if_neg w]
      have m : (hi ∈ p :: ps) ↔ hi ∈ ps := by
        rw [List.mem_cons]
        exact ⟨fun z => z.elim (fun z => absurd z.symm e) fun z => z, .inr⟩
      rw [List.filter_cons, List.filter_cons (p := fun q => decide (f q ≠ q))]
      simp only [q, m]
      split
      · simp only [List.length_cons, ih]; omega
      · exact ih

end
end P01
namespace P01

variable {α τ : Type} [DecidableEq α]

structure WebH (ps : List α) (a b : τ → α) (le : α → α → Prop) (mn mx : α → α → α) : Prop where
  nd : ps.Nodup
  ina : ∀ t, a t ∈ ps
  inb : ∀ t, b t ∈ ps
  refl : ∀ p, le p p
  trans : ∀ p q r, le p q → le q r → le p r
  anti : ∀ p q, le p q → le q p → p = q
  mm : ∀ x y, x ≠ y → (mn x y = x ∧ mx x y = y ∧ le x y) ∨ (mn x y = y ∧ mx x y = x ∧ le y x)

def wstep (a b : τ → α) (mn mx : α → α → α) (f : α → α) (t : τ) : α → α :=
  if f (a t) = f (b t) then f else fun p => if f p = mx (f (a t)) (f (b t)) then mn (f (a t)) (f (b t)) else f p

def wmarks (a b : τ → α) (mn mx : α → α → α) (X : List τ) : α → α := X.foldl (wstep a b mn mx) id

namespace WebH
variable {ps : List α} {a b : τ → α} {le : α → α → Prop} {mn mx : α → α → α} (W : WebH ps a b le mn mx)
include W

theorem step_marks {X : List τ} {f : α → α} (h : Marks a b le X f) (t : τ) : Marks a b le (t :: X) (wstep a b mn mx f t) := by
  unfold wstep
  split
  · exact h.same ‹_›
  · rename_i ne
    rcases W.mm _ _ ne with ⟨e1, e2, e3⟩ | ⟨e1, e2, e3⟩
    · rw [e1, e2]; exact h.step W.trans t e3 (.inl ⟨rfl, rfl⟩)
    · rw [e1, e2]; exact h.step W.trans t e3 (.inr ⟨rfl, rfl⟩)

theorem fold_marks : ∀ (Y : List τ) {X : List τ} {f : α → α}, Marks a b le X f → Marks a b le (Y.reverse ++ X) (Y.foldl (wstep a b mn mx) f)
  | [], _, _, h => h
  | t :: Y, X, f, h => by
    have := fold_marks Y (W.step_marks h t)
    rw [List.foldl_cons, List.reverse_cons, List.append_assoc, List.singleton_append]
    exact this

theorem marks (X : List τ) : Marks a b le X (wmarks a b mn mx X) := by
  have := W.fold_marks X (Marks.nil (a := a) (b := b) W.refl)
  exact this.of_mem fun x => by simp

theorem eqM {X : List τ} {f : α → α} (h : Marks a b le X f) : wmarks a b mn mx X = f := funext fun p => (W.marks X).uniq W.anti h p

theorem stays {f : α → α} (h : ∀ p ∈ ps, f p ∈ ps) (t : τ) : ∀ p ∈ ps, wstep a b mn mx f t p ∈ ps := by
  intro p hp
  unfold wstep
  split
  · exact h p hp
  · rename_i ne
    show (if f p = mx (f (a t)) (f (b t)) then mn (f (a t)) (f (b t)) else f p) ∈ ps
    split
    · rcases W.mm _ _ ne with ⟨e1, _, _⟩ | ⟨e1, _, _⟩ <;> rw [e1]
      · exact h _ (W.ina t)
      · exact h _ (W.inb t)
    · exact h p hp

theorem stays_fold : ∀ (Y : List τ) {f : α → α}, (∀ p ∈ ps, f p ∈ ps) → ∀ p ∈ ps, Y.foldl (wstep a b mn mx) f p ∈ ps
  | [], _, h => h
  | t :: Y, _, h => stays_fold Y (W.stays h t)

theorem inP (X : List τ) : ∀ p ∈ ps, wmarks a b mn mx X p ∈ ps := W.stays_fold X fun _ hp => hp

theorem cnt_cons {X : List τ} {f : α → α} (h : Marks a b le X f) (hi : ∀ p ∈ ps, f p ∈ ps) (t : τ) : cnt ps (wstep a b mn mx f t) = cnt ps f + (if f (a t) = f (b t) then 0 else 1) := by
  unfold wstep
  split
  · rfl
  · rename_i ne
    have id := h.idem
    rcases W.mm _ _ ne with ⟨e1, e2, _⟩ | ⟨e1, e2, _⟩
    · rw [e1, e2, cnt_step id (id _) (id _) ne W.nd, if_pos (hi _ (W.inb t))]
    · rw [e1, e2, cnt_step id (id _) (id _) (fun z => ne z.symm) W.nd, if_pos (hi _ (W.ina t))]

theorem mat : Mat (fun X => cnt ps (wmarks a b mn mx X)) where
  zero := by simp [wmarks, cnt]
  mono := fun {X Y} h => cnt_le fun p _ e => (W.marks X).mono W.anti (W.marks Y) h e
  one := fun t X => by
    rw [W.eqM (W.step_marks (W.marks X) t), W.cnt_cons (W.marks X) (W.inP X) t]
    split <;> omega
  clos := fun X Y h => by
    have ev : ∀ t ∈ Y, wmarks a b mn mx X (a t) = wmarks a b mn mx X (b t) := fun t ht => by
      have := h t ht
      rw [W.eqM (W.step_marks (W.marks X) t), W.cnt_cons (W.marks X) (W.inP X) t] at this
      split at this
      · assumption
      · omega
    have mk : ∀ Y : List τ, (∀ t ∈ Y, wmarks a b mn mx X (a t) = wmarks a b mn mx X (b t)) → Marks a b le (Y ++ X) (wmarks a b mn mx X) := by
      intro Y
      induction Y with
      | nil => exact fun _ => W.marks X
      | cons t Y ih => exact fun hy => (ih fun s hs => hy s (List.mem_cons_of_mem _ hs)).same (hy t (List.mem_cons_self ..))
    rw [W.eqM (mk Y ev)]

end WebH


end P01
namespace P01

namespace Mat
variable {α : Type} [DecidableEq α] {c : List α → Nat} (M : Mat c)
include M

omit M in
theorem pick_perm {ns G : List α} (nd : ns.Nodup) (ng : G.Nodup) (h : ∀ x ∈ G, x ∈ ns) : (ns.filter (· ∈ G)).Perm G :=
  (List.perm_ext_iff_of_nodup (nd.sublist List.filter_sublist) ng).mpr fun x => by
    rw [List.mem_filter, decide_eq_true_iff]
    exact ⟨fun z => z.2, fun z => ⟨h x z, z⟩⟩

end Mat


end P01
namespace P01

variable {α : Type}

def longer (lt : α → α → Bool) (ns : List α) (l : List α) : List (List α) :=
  (ns.filter fun t => match l.getLast? with | none => true | some z => lt z t).map (l ++ [·])

def lotsL (lt : α → α → Bool) (ns : List α) : Nat → List (List α)
  | 0 => [[]]
  | k + 1 => (lotsL lt ns k).flatMap (longer lt ns)

theorem sub_of {lt : α → α → Bool} (irr : ∀ x, lt x x = false) (tr : ∀ x y z, lt x y = true → lt y z = true → lt x z = true) : ∀ {B ns : List α}, ns.Pairwise (fun x y => lt x y = true) → B.Pairwise (fun x y => lt x y = true) → (∀ x ∈ B, x ∈ ns) → B.Sublist ns
  | [], _, _, _, _ => List.nil_sublist _
  | b :: B, [], _, _, h => (List.not_mem_nil (h b (List.mem_cons_self ..))).elim
  | b :: B, n :: ns, hn, hb, h => by
    obtain ⟨n1, n2⟩ := List.pairwise_cons.mp hn
    obtain ⟨b1, b2⟩ := List.pairwise_cons.mp hb
    by_cases e : b = n
    · subst e
      refine (sub_of irr tr n2 b2 fun x hx => ?_).cons_cons b
      rcases List.mem_cons.mp (h x (List.mem_cons_of_mem _ hx)) with rfl | z
      · have := b1 x hx
        rw [irr] at this; exact Bool.noConfusion this
      · exact z
    · refine List.Sublist.cons n (sub_of irr tr n2 hb fun x hx => ?_)
      have bm : b ∈ ns := (List.mem_cons.mp (h b (List.mem_cons_self ..))).resolve_left e
      rcases List.mem_cons.mp (h x hx) with rfl | z
      · rcases List.mem_cons.mp hx with w | w
        · exact absurd w.symm e
        · have h1 := b1 x w
          have h2 := n1 b bm
          have := tr _ _ _ h2 h1
          rw [irr] at this; exact Bool.noConfusion this
      · exact z

theorem nil_or_snoc : ∀ l : List α, l = [] ∨ ∃ m z, l = m ++ [z] := fun l => by
  rcases l.eq_nil_or_concat with h | ⟨m, z, h⟩
  · exact .inl h
  · exact .inr ⟨m, z, by rw [h, List.concat_eq_append]⟩

theorem last_lt {lt : α → α → Bool} (tr : ∀ x y z, lt x y = true → lt y z = true → lt x z = true) {l : List α} {t : α} (hl : l.Pairwise (fun x y => lt x y = true)) : ((match l.getLast? with | none => true | some z => lt z t) = true) ↔ ∀ x ∈ l, lt x t = true := by
  rcases nil_or_snoc l with rfl | ⟨m, z, rfl⟩
  · simp
  · rw [List.getLast?_concat]
    refine ⟨fun h x hx => ?_, fun h => h z (by simp)⟩
    rcases List.mem_append.mp hx with hx | hx
    · exact tr _ _ _ ((List.pairwise_append.mp hl).2.2 x hx z (List.mem_singleton.mpr rfl)) h
    · rw [List.mem_singleton.mp hx]; exact h

theorem mem_lots {lt : α → α → Bool} (irr : ∀ x, lt x x = false) (tr : ∀ x y z, lt x y = true → lt y z = true → lt x z = true) {ns : List α} (hn : ns.Pairwise (fun x y => lt x y = true)) : ∀ {k : Nat} {B : List α}, B ∈ lotsL lt ns k ↔ B.Sublist ns ∧ B.length = k
  | 0, B => by
    simp only [lotsL, List.mem_singleton, List.length_eq_zero_iff]
    exact ⟨fun h => ⟨h ▸ List.nil_sublist _, h⟩, fun h => h.2⟩
  | k + 1, B => by
    simp only [lotsL, List.mem_flatMap, longer, List.mem_map, List.mem_filter]
    constructor
    · rintro ⟨l, hl, t, ⟨ht, hc⟩, rfl⟩
      obtain ⟨s, e⟩ := (mem_lots irr tr hn).mp hl
      have pl := hn.sublist s
      refine ⟨sub_of irr tr hn (List.pairwise_append.mpr ⟨pl, List.pairwise_singleton _ _, fun x hx y hy => ?_⟩) fun x hx => ?_, by simp [e]⟩
      · rw [List.mem_singleton.mp hy]; exact (last_lt tr pl).mp hc x hx
      · rcases List.mem_append.mp hx with hx | hx
        · exact s.subset hx
        · rw [List.mem_singleton.mp hx]; exact ht
    · rintro ⟨s, e⟩
      rcases nil_or_snoc B with rfl | ⟨l, t, rfl⟩
      · simp at e
      · have pB := hn.sublist s
        have sl : l.Sublist ns := (List.sublist_append_left l [t]).trans s
        refine ⟨l, (mem_lots irr tr hn).mpr ⟨sl, by simpa using e⟩, t, ⟨s.subset (by simp), ?_⟩, rfl⟩
        exact (last_lt tr (hn.sublist sl)).mpr fun x hx => (List.pairwise_append.mp pB).2.2 x hx t (List.mem_singleton.mpr rfl)

end P01
namespace P01

variable {α : Type} [DecidableEq α]

def inb (X B : List α) : Nat := (X.filter (· ∈ B)).length

structure Told (c : List α → Nat) (ns : List α) (best : List (List α)) (r : Nat) : Prop where
  nd : ns.Nodup
  sub : ∀ B ∈ best, B.Sublist ns ∧ B.length = r
  le : ∀ X : List α, X.Nodup → (∀ x ∈ X, x ∈ ns) → ∀ B ∈ best, inb X B ≤ c X
  eq : ∀ X : List α, X.Nodup → (∀ x ∈ X, x ∈ ns) → ∃ B ∈ best, inb X B = c X

theorem inb_len (X B : List α) : inb X B ≤ X.length := List.length_filter_le _ _

theorem inb_perm {X Y : List α} (p : X.Perm Y) (B : List α) : inb X B = inb Y B := (p.filter _).length_eq

theorem inb_base {ns B : List α} (nd : ns.Nodup) (s : B.Sublist ns) : inb ns B = B.length :=
  (Mat.pick_perm nd (nd.sublist s) fun _ h => s.subset h).length_eq

namespace Told
variable {c : List α → Nat} {ns : List α} {best : List (List α)} {r : Nat} (T : Told c ns best r)
include T

theorem le_len {X : List α} (n : X.Nodup) (h : ∀ x ∈ X, x ∈ ns) : c X ≤ X.length := by
  obtain ⟨B, _, e⟩ := T.eq X n h
  rw [← e]; exact inb_len X B

theorem whole : c ns = r := by
  obtain ⟨B, hB, e⟩ := T.eq ns T.nd fun _ h => h
  rw [← e, inb_base T.nd (T.sub B hB).1, (T.sub B hB).2]

theorem perm {X Y : List α} (p : X.Perm Y) (n : X.Nodup) (h : ∀ x ∈ X, x ∈ ns) : c X = c Y := by
  have n' : Y.Nodup := p.nodup_iff.mp n
  have h' : ∀ x ∈ Y, x ∈ ns := fun x hx => h x (p.mem_iff.mpr hx)
  obtain ⟨B, hB, e⟩ := T.eq X n h
  obtain ⟨C, hC, f⟩ := T.eq Y n' h'
  refine Nat.le_antisymm ?_ ?_
  · rw [← e, inb_perm p]; exact T.le Y n' h' B hB
  · rw [← f, ← inb_perm p]; exact T.le X n h C hC

theorem mono {X : List α} {t : α} (n : (t :: X).Nodup) (h : ∀ x ∈ t :: X, x ∈ ns) : c X ≤ c (t :: X) := by
  obtain ⟨B, hB, e⟩ := T.eq X (List.nodup_cons.mp n).2 fun x hx => h x (List.mem_cons_of_mem _ hx)
  rw [← e]
  refine Nat.le_trans ?_ (T.le _ n h B hB)
  exact ((List.sublist_cons_self t X).filter _).length_le

end Told

end P01
namespace P01

variable {α : Type}

def mostOf [DecidableEq α] (best : List (List α)) (X : List α) : Nat := (best.map (inb X)).foldl max 0

end P01
namespace P01
open Bf PySem PySem.Spec

def ltB (x y : Str) : Bool := !leS y x

theorem ltB_irr (x : Str) : ltB x x = false := by
  have := leS_total x x
  simp only [Bool.or_self] at this
  simp [ltB, this]

theorem ltB_tr (x y z : Str) (h1 : ltB x y = true) (h2 : ltB y z = true) : ltB x z = true := by
  simp only [ltB, Bool.not_eq_true'] at *
  cases h : leS z x with
  | false => rfl
  | true =>
    have h3 : leS x y = true := by
      have := leS_total y x
      rw [h1, Bool.false_or] at this; exact this
    rw [leS_trans z x y h h3] at h2
    exact Bool.noConfusion h2

theorem ltB_ne {x y : Str} (h : leS x y = true) (n : x ≠ y) : ltB x y = true := by
  cases z : leS y x with
  | false => simp [ltB, z]
  | true => exact absurd (leS_antisymm h z) n

theorem srt_lt {xs : List Str} (n : xs.Nodup) : (srt xs).Pairwise (fun x y => ltB x y = true) := by
  have n' : (srt xs).Nodup := (srt_perm xs).nodup_iff.mpr n
  exact ((srt_pw xs).and n').imp fun h => ltB_ne h.1 h.2

def mnS (x y : Str) : Str := if ltB y x = true then y else x
def mxS (x y : Str) : Str := if ltB x y = true then y else x

theorem mmS (x y : Str) (n : x ≠ y) : (mnS x y = x ∧ mxS x y = y ∧ leS x y = true) ∨ (mnS x y = y ∧ mxS x y = x ∧ leS y x = true) := by
  rcases Bool.or_eq_true_iff.mp (leS_total x y) with h | h
  · exact .inl ⟨by simp [mnS, ltB, h], by simp [mxS, ltB_ne h n], h⟩
  · exact .inr ⟨by simp [mnS, ltB_ne h fun e => n e.symm], by simp [mxS, ltB, h], h⟩

theorem webH {τ : Type} {ps : List Str} (n : ps.Nodup) {a b : τ → Str} (ha : ∀ t, a t ∈ ps) (hb : ∀ t, b t ∈ ps) : WebH ps a b (fun x y => leS x y = true) mnS mxS :=
  ⟨n, ha, hb, fun p => by have := leS_total p p; simpa using this, leS_trans, fun p q h1 h2 => leS_antisymm h1 h2, mmS⟩

end P01
namespace P01
open Bf PySem PySem.Spec

theorem lt2_ltB (x y : Str) : Bs.lt2 x y = ltB x y := by
  unfold ltB Bs.lt2
  by_cases h : leS y x = true
  · rw [h]
    have := leS_iff.mp h
    simpa using this
  · have h' : leS y x = false := by simpa using h
    rw [h']
    have : ¬ (y.cps.toList ≤ x.cps.toList) := fun z => h (leS_iff.mpr z)
    simpa using this

theorem min_mnS (x y : Str) : (if Bs.lt2 y x = true then y else x) = mnS x y := by rw [lt2_ltB]; rfl
theorem max_mxS (x y : Str) : (if Bs.lt2 x y = true then y else x) = mxS x y := by rw [lt2_ltB]; rfl

end P01
namespace P01

variable {α : Type} [DecidableEq α]

def greedyL (c : List α → Nat) : List α → List α → List α
  | [], l => l
  | t :: r, l => greedyL c r (if c (l ++ [t]) > l.length then l ++ [t] else l)

def firstL (c : List α → Nat) : List α → List α → List α
  | [], l => l
  | t :: r, l => firstL c r (if c (l ++ [t]) = l.length + 1 then l ++ [t] else l)

theorem Told.first {c : List α → Nat} {ns : List α} {best : List (List α)} {r : Nat} (T : Told c ns best r) : ∀ (w l : List α), (l ++ w).Nodup → (∀ x ∈ l ++ w, x ∈ ns) → greedyL c w l = firstL c w l
  | [], _, _, _ => rfl
  | t :: w, l, n, h => by
    have s1 : (l ++ [t]).Sublist (l ++ t :: w) := (List.Sublist.refl l).append (List.singleton_sublist.mpr (List.mem_cons_self ..))
    have s2 : (l ++ w).Sublist (l ++ t :: w) := (List.Sublist.refl l).append (List.sublist_cons_self t w)
    have le := T.le_len (n.sublist s1) fun x hx => h x (s1.subset hx)
    rw [List.length_append, List.length_singleton] at le
    have e : (c (l ++ [t]) > l.length) ↔ (c (l ++ [t]) = l.length + 1) := by omega
    unfold greedyL firstL
    by_cases q : c (l ++ [t]) = l.length + 1
    · rw [if_pos (e.mpr q), if_pos q]
      exact T.first w _ (by simpa using n) (by simpa using h)
    · rw [if_neg fun z => q (e.mp z), if_neg q]
      exact T.first w l (n.sublist s2) fun x hx => h x (s2.subset hx)

end P01
namespace P01
open PySem

end P01
namespace Dz
open PySem PySem.Spec PyProof.Rows L2 Evl Bf
theorem ite_k {K : Option D → Prop} {b : Bool} {x : D} (h : K (if b = true then some x else none)) : if b = true then K (some x) else K none := by cases b <;> exact h
theorem nd_take {xs : List Str} (h : xs.Nodup) {i : Nat} (hi : i < xs.length) : xs[i] ∉ xs.take i := fun z => by
  obtain ⟨j, hj, e⟩ := List.mem_iff_getElem.mp z
  rw [List.length_take] at hj
  rw [List.getElem_take] at e
  have := (List.getElem_inj h).mp e
  omega
theorem nm_nma {x : Str} (h : isNm x = true) : NmA (.str x) := ⟨rfl, fun z e => by cases e; exact (Bf.nm_ok h).1⟩
theorem fw_none {kn xs : List Str} : fwOf kn xs = none ↔ xs.Nodup ∧ ∀ x ∈ xs, x ∈ kn := by
  constructor
  · intro h
    have hb : ∀ i, i < xs.length → badIt kn xs i = false := fun i hi => by
      unfold fwOf firstOf at h
      have := List.find?_eq_none.mp h i (List.mem_range.mpr hi)
      simpa using this
    have hb2 : ∀ i (hi : i < xs.length), xs[i] ∈ kn ∧ xs[i] ∉ xs.take i := fun i hi => by
      have := hb i hi
      unfold badIt at this
      rw [getD_of (List.getElem?_eq_getElem hi)] at this
      simpa using this
    refine ⟨?_, fun x hx => ?_⟩
    · rw [List.nodup_iff_pairwise_ne, List.pairwise_iff_getElem]
      intro i j hi hj hij e
      refine (hb2 j hj).2 ?_
      rw [← e]
      exact List.mem_iff_getElem.mpr ⟨i, by rw [List.length_take]; omega, List.getElem_take⟩
    · obtain ⟨i, hi, rfl⟩ := List.mem_iff_getElem.mp hx
      exact (hb2 i hi).1
  · rintro ⟨nd, h⟩
    refine first_none fun i hi => ?_
    unfold badIt
    rw [getD_of (List.getElem?_eq_getElem hi), decide_eq_true (h _ (List.getElem_mem hi)), decide_eq_false (nd_take nd hi)]
    rfl
def r_NLot : DS :=
  (sSeq (sSet 2 (xFn F_FirstW (aCons (xVar 1) (aCons (xVar 0) aNil))))
    (sSeq (sIf (tB' (xOp2 (dIs true) (xVar 2) (xC .non)))
    (sRaise "BadLot" "index" (xVar 2))
    sNil)
    (sRet (xB dTuple (aCons (xB dSorted (aCons (xVar 1) aNil)) aNil)))))
def F_NLot : DF := fun ds A Ax => ∃ k kn xs, ds = [k, lstS xs] ∧ seqS k kn ∧ xs.length < 64 ∧ match fwOf kn xs with
  | some i => Ax ⟨"BadLot", [("index", .int (i : Nat))]⟩
  | none => A (tupS (srt xs))
theorem n_NLot (ds : List D) (A : D → Prop) (Ax : XQ) (h : F_NLot ds A Ax) : fnD 0 3 2 r_NLot ds A Ax := by
  obtain ⟨k, kn, xs, rfl, hk, hl, q⟩ := h
  k_dat r_NLot "zS0"
  refine ⟨xs, kn, k, rfl, hk, by omega, ?_⟩
  cases c : fwOf kn xs with
  | some i =>
    rw [c] at q
    exact q
  | none =>
    rw [c] at q
    exact ⟨_, sorted_lst hl, _, rfl, q⟩
def r_Less : DS :=
  (sRet (xB dTuple (aCons (xLc (iTupD (xVar 0)) [2] (gN 2) (tB' (xOp2 (dIn true) (xVar 2) (xVar 1))) (xVar 2)) aNil)))
def lessL (lot gone : List Str) : List Str := lot.filter fun x => decide (x ∉ gone)
def F_Less : DF := fun ds A _ => ∃ lot g gone, ds = [tupS lot, g] ∧ seqS g gone ∧ lot.length ≤ 1000 ∧ A (tupS (lessL lot gone))
theorem n_Less (ds : List D) (A : D → Prop) (Ax : XQ) (h : F_Less ds A Ax) : fnD 0 3 2 r_Less ds A Ax := by
  obtain ⟨lot, gd, gone, rfl, hg, hl, q⟩ := h
  simp only [r_Less, xLc, fnD, iniD, startD, sNil, sSeq, sIf, sRet, sSet, sSetO, sExpr, sApp, sPut, sClr, sExt, sIns, sRaise, sRaise2, sAsg, sFor, sSetM, sAppM, sFld', xPopAt, xPop, xVar, xC, xOp1, xOp2, xNeg, xAnd, xOr, xNot, xIf, xB, xFn, xTup, xLst, xFld, xDGet, xDIn, xSl, xChain, oNone, oSome, aNil, aCons, tB', tAnd', tOr', tNot', tYesD, gN, gT, gsN, gsC, iLst, iTupD, iRg1, iRg2, iEnm, iTxt, List.map_cons, List.map_nil, List.length_cons, List.length_nil, List.replicate, List.replicate_succ, List.replicate_zero, List.cons_append, List.nil_append, List.set_cons_zero, List.set_cons_succ, List.getElem?_cons_zero, List.getElem?_cons_succ, Option.some.injEq, D.int.injEq, D.str.injEq, D.bl.injEq, D.lst.injEq, D.tup.injEq, D.dic.injEq, D.ins.injEq, exists_eq_left, exists_eq_left', exists_eq_right, exists_eq_right', exists_and_left, and_true, true_and, Nat.reduceAdd, Nat.reduceSub, Nat.reduceLT, Nat.reduceEqDiff, Nat.add_one_sub_one, Nat.sub_zero, if_true, if_false, Bool.false_eq_true, reduceIte, wipeR, List.cons.injEq, Nat.zero_add, reduceCtorEq, false_and, exists_false, Bool.false_bne, Bool.true_bne, len_lst, len_tup, len_scr, in_lst, in_tup, dKey_str, dKey_int, and_assoc, eq_int, dSub, dLt, dLe, dGt, dGe, isNonD, dIs, dMin, dMax, xMeth, xMeth0, xEqO, xXf, sTry, catchD, offD, add_int, dList, dTuple, xFlt, xFltC, xFltX, xFltCX, xX, sAppP, sClrP, sFldP, sPutP, pVar, pIx, pFld, id, xDisp, pairsD, xNames, xMethF, xMeth0F, aStar, xTGet, xTIn, sPutT, sRaise0, sTryM, catchM, emEq, tKey_strs, famNs, Option.isSome_some, iSqV, sForW, xJoin, dSortedY, xRevL, sDead, xDead, xDc, sPar, sParO, dMin2, dMax2, dHas, dLenF, xSortR, dXor, xDcT, xMk0, seqOf, xLc, xLenSet]
  refine ⟨by rw [List.length_map]; show _ ≤ 100000; omega, ?_⟩
  refine lc_filT D.str (fun x => decide (x ∉ gone)) D.str lot (fun x hx K k => ?_) q
  walk_at "zS0"
  refine ⟨_, in_seq hg, _, rfl, ?_⟩
  by_cases c : x ∈ gone
  · rw [if_neg (by simp [c])] at k
    rw [if_neg (by simp [c])]
    exact k
  · rw [if_pos (by simp [c])] at k
    rw [if_pos (by simp [c])]
    exact k
def r_WithT : DS :=
  (sRet (xB dTuple (aCons (xB dSorted (aCons (xLst (aStar (xVar 0) (aCons (xVar 1) aNil))) aNil)) aNil)))
def F_WithT : DF := fun ds A _ => ∃ lot x, ds = [tupS lot, .str x] ∧ lot.length < 60 ∧ A (tupS (srt (lot ++ [x])))
theorem n_WithT (ds : List D) (A : D → Prop) (Ax : XQ) (h : F_WithT ds A Ax) : fnD 0 2 2 r_WithT ds A Ax := by
  obtain ⟨lot, x, rfl, hl, q⟩ := h
  k_dat r_WithT "zS0"
  have e : lot.map D.str ++ [D.str x] = (lot ++ [x]).map D.str := by rw [List.map_append]; rfl
  rw [e]
  refine ⟨by rw [List.length_map, List.length_append]; show _ + 1 ≤ 100000; omega, _, sorted_lst (by rw [List.length_append]; show _ + 1 < 64; omega), _, rfl, q⟩
def F_AFCount : DF := fun ds A _ => ∃ fs lot, ds = [.ins "AllFree" fs, tupS lot] ∧ A (.int lot.length)
def shortD (f : D) (k : Int) : D := .ins "Short" [("inner", f), ("cap", .int k)]
def F_ShCount (F_RankI : DF) : DF := fun ds A _ => ∃ f k lot r, ds = [shortD f k, tupS lot] ∧ (famNs f).isSome = true ∧ F_RankI [f, tupS lot] (fun d => d = .int r) (fun _ => False) ∧ A (.int (if r < k then r else k))
def Mono (F : DF) : Prop := ∀ ds A A' Ax Ax', F ds A Ax → (∀ d, A d → A' d) → (∀ x, Ax x → Ax' x) → F ds A' Ax'
def listD (bs : List (List Str)) : D := .ins "Listed" [("lots", .lst (bs.map tupS))]
def F_LiCount : DF := fun ds A _ => ∃ bs lot, ds = [listD bs, tupS lot] ∧ bs ≠ [] ∧ bs.length ≤ 1000 ∧ lot.length ≤ 1000 ∧ A (.int (P01.mostOf bs lot : Nat))
end Dz
namespace Dz
open PySem PySem.Spec PyProof.Rows L2 Evl Bf
theorem putD_new {kvs : List (Key × D)} {k : Key} {v : D} (h : k ∉ kvs.map (·.1)) : putD kvs k v = kvs ++ [(k, v)] := by
  unfold putD
  rw [if_neg fun z => ?_]
  obtain ⟨p, hp, e⟩ := List.any_eq_true.mp z
  exact h (List.mem_map.mpr ⟨p, hp, of_decide_eq_true e⟩)
theorem dc_mapT {α : Type} (c : α → D) (k : α → Key) (f : α → D) {ρ : Ro} {vs : List Nat} {g : DG} {ek ev : DX} {Q : List (Key × D) → Prop} : ∀ (xs : List α) (acc : List (Key × D)), (acc.map (·.1) ++ xs.map k).Nodup →
    (∀ x ∈ xs, ∀ K : Key → D → Prop, K (k x) (f x) → g (c x) (wipeR ρ vs) fun ρ' => ek ρ' (fun kx => ev ρ' (fun y => ∃ kk, dKey kx = some kk ∧ K kk y) fun _ => False) fun _ => False) →
    Q (acc ++ xs.map fun x => (k x, f x)) → dcL ρ vs g ek ev (xs.map c) acc Q
  | [], acc, _, _, q => by rw [List.map_nil, List.append_nil] at q; exact q
  | x :: xs, acc, nd, h, q => by
    rw [List.map_cons]
    refine h x List.mem_cons_self (fun kk y => dcL ρ vs g ek ev (xs.map c) (putD acc kk y) Q) ?_
    have nk : k x ∉ acc.map (·.1) := fun z => (List.nodup_append.mp nd).2.2 _ z _ List.mem_cons_self rfl
    rw [putD_new nk]
    refine dc_mapT c k f xs _ ?_ (fun y hy => h y (List.mem_cons_of_mem _ hy)) ?_
    · rw [List.map_append]
      simpa using nd
    · simpa using q
def dictS (ps : List Str) (f : Str → D) : List (Key × D) := ps.map fun p => (Sum.inr p, f p)
theorem inr_nodup {ps : List Str} (h : ps.Nodup) : (ps.map (Sum.inr : Str → Key)).Nodup := by
  rw [List.nodup_iff_pairwise_ne] at *
  exact List.pairwise_map.mpr (h.imp fun n e => n (Sum.inr.inj e))
theorem dictS_get {f : Str → D} {p : Str} : ∀ {ps : List Str}, p ∈ ps → dVal (dictS ps f) (Sum.inr p) = some (f p)
  | q :: ps, h => by
    unfold dictS dVal
    rw [List.map_cons, List.find?_cons]
    by_cases e : q = p
    · subst e
      rw [decide_eq_true rfl]
      rfl
    · rw [decide_eq_false (fun z => e (Sum.inr.inj z))]
      exact dictS_get ((List.mem_cons.mp h).resolve_left fun z => e z.symm)
theorem dictS_put {f : Str → D} {p : Str} {v : D} {ps : List Str} (h : p ∈ ps) : putD (dictS ps f) (Sum.inr p) v = dictS ps fun q => if q = p then v else f q := by
  unfold putD
  have e : ((dictS ps f).any fun kv => decide (kv.1 = Sum.inr p)) = true := List.any_eq_true.mpr ⟨(Sum.inr p, f p), List.mem_map.mpr ⟨p, h, rfl⟩, decide_eq_true rfl⟩
  rw [if_pos e]
  unfold dictS
  rw [List.map_map]
  refine List.map_congr_left fun q _ => ?_
  show (if (Sum.inr q : Key) = Sum.inr p then ((Sum.inr q : Key), v) else (Sum.inr q, f q)) = _
  by_cases e : q = p
  · subst e; simp
  · rw [if_neg (fun z => e (Sum.inr.inj z))]
    show _ = ((Sum.inr q : Key), if q = p then v else f q)
    rw [if_neg e]
theorem dictS_new {f : Str → D} {p : Str} {v : D} {ps : List Str} (h : p ∉ ps) : putD (dictS ps f) (Sum.inr p) v = dictS (ps ++ [p]) fun q => if q = p then v else f q := by
  rw [putD_new fun z => ?_]
  · unfold dictS
    rw [List.map_append]
    congr 1
    · refine List.map_congr_left fun q hq => ?_
      show _ = ((Sum.inr q : Key), if q = p then v else f q)
      rw [if_neg fun e : q = p => h (e ▸ hq)]
    · simp
  · obtain ⟨q, hq, e⟩ := List.mem_map.mp z
    obtain ⟨r, hr, rfl⟩ := List.mem_map.mp hq
    exact h (Sum.inr.inj e ▸ hr)
theorem dictS_len (ps : List Str) (f : Str → D) : (dictS ps f).length = ps.length := by unfold dictS; rw [List.length_map]
theorem dictS_keys (ps : List Str) (f : Str → D) : (dictS ps f).map (fun q => kD q.1) = ps.map D.str := by unfold dictS; rw [List.map_map]; rfl
theorem dictS_congr {ps : List Str} {f g : Str → D} (h : ∀ p ∈ ps, f p = g p) : dictS ps f = dictS ps g := List.map_congr_left fun p hp => by rw [h p hp]
def webD (ps ns : List Str) (a b : Str → Str) : D := .ins "Web" [("known", tupS ps), ("ending", .dic (dictS ns fun n => tupS [a n, b n]))]
structure WebOk (ps ns : List Str) (a b : Str → Str) : Prop where
  nd : ps.Nodup
  le : ps.length ≤ 16
  nn : ns.Nodup
  nl : ns.length ≤ 24
  ha : ∀ t, a t ∈ ps
  hb : ∀ t, b t ∈ ps
  ok : ∀ x ∈ ps, PyData.strOk x = true
abbrev wm (a b : Str → Str) (lot : List Str) : Str → Str := P01.wmarks a b P01.mnS P01.mxS lot
theorem wm_in {ps ns : List Str} {a b : Str → Str} (h : WebOk ps ns a b) : ∀ (lot : List Str) (p : Str), p ∈ ps → wm a b lot p ∈ ps := by
  intro lot
  have st : ∀ (lot : List Str) (f : Str → Str), (∀ p ∈ ps, f p ∈ ps) → ∀ p ∈ ps, lot.foldl (P01.wstep a b P01.mnS P01.mxS) f p ∈ ps := by
    intro lot
    induction lot with
    | nil => intro f hf; exact hf
    | cons t lot ih =>
      intro f hf
      refine ih _ fun p hp => ?_
      unfold P01.wstep
      split
      · exact hf p hp
      · show (if _ then _ else _) ∈ ps
        split
        · unfold P01.mnS
          split
          · exact hf _ (h.hb t)
          · exact hf _ (h.ha t)
        · exact hf p hp
  exact st lot id fun p hp => hp
def r_WMarks : DS :=
  (sSeq (sSetO 2 (xDc (iTupD (xFld "Web" "known" (xVar 0))) [8] (gN 8) (xVar 8) (xVar 8)))
    (sSeq (sFor (iTupD (xVar 1)) (gN 3)
    (sSeq (sPar 4 5 (aCons (xDGet (xVar 2) (xOp2 dIx (xDGet (xFld "Web" "ending" (xVar 0)) (xVar 3)) (xC (.int 0)))) (aCons (xDGet (xVar 2) (xOp2 dIx (xDGet (xFld "Web" "ending" (xVar 0)) (xVar 3)) (xC (.int 1)))) aNil)))
    (sIf (tB' (xOp2 (dEq true) (xVar 4) (xVar 5)))
    (sSeq (sPar 6 7 (aCons (xB dMin2 (aCons (xVar 4) (aCons (xVar 5) aNil))) (aCons (xB dMax2 (aCons (xVar 4) (aCons (xVar 5) aNil))) aNil)))
    (sFor (iTupD (xFld "Web" "known" (xVar 0))) (gN 8)
    (sIf (tB' (xOp2 (dEq false) (xDGet (xVar 2) (xVar 8)) (xVar 7)))
    (sPut 2 (xVar 8) (xVar 6))
    sNil)))
    sNil)))
    (sRet (xVar 2))))
def markD (ps : List Str) (f : Str → Str) : D := .dic (dictS ps fun p => .str (f p))
def F_WMarks : DF := fun ds A _ => ∃ ps ns a b lot, ds = [webD ps ns a b, tupS lot] ∧ WebOk ps ns a b ∧ (∀ x ∈ lot, x ∈ ns) ∧ lot.length ≤ 1000 ∧ A (markD ps (wm a b lot))
theorem eqS {neg : Bool} {x y : Str} (hx : PyData.strOk x = true) (hy : PyData.strOk y = true) : dEq neg (.str x) (.str y) = some (.bl (neg != decide (x = y))) := by
  refine eq_of (show (D.str x).okE 64 = true from hx) (show (D.str y).okE 64 = true from hy) ?_
  rw [decide_eq_true_iff]
  exact ⟨fun e => e ▸ rfl, fun e => by injection e⟩
theorem n_WMarks (ds : List D) (A : D → Prop) (Ax : XQ) (h : F_WMarks ds A Ax) : fnD 1 9 2 r_WMarks ds A Ax := by
  obtain ⟨ps, ns, a, b, lot, rfl, ok, hx, hl, q⟩ := h
  simp only [r_WMarks, fnD, iniD, startD, sNil, sSeq, sIf, sRet, sSet, sSetO, sExpr, sApp, sPut, sClr, sExt, sIns, sRaise, sRaise2, sAsg, sFor, sSetM, sAppM, sFld', xPopAt, xPop, xVar, xC, xOp1, xOp2, xNeg, xAnd, xOr, xNot, xIf, xB, xFn, xTup, xLst, xFld, xDGet, xDIn, xSl, xChain, oNone, oSome, aNil, aCons, tB', tAnd', tOr', tNot', tYesD, gN, gT, gsN, gsC, iLst, iTupD, iRg1, iRg2, iEnm, iTxt, List.map_cons, List.map_nil, List.length_cons, List.length_nil, List.replicate, List.replicate_succ, List.replicate_zero, List.cons_append, List.nil_append, List.set_cons_zero, List.set_cons_succ, List.getElem?_cons_zero, List.getElem?_cons_succ, Option.some.injEq, D.int.injEq, D.str.injEq, D.bl.injEq, D.lst.injEq, D.tup.injEq, D.dic.injEq, D.ins.injEq, exists_eq_left, exists_eq_left', exists_eq_right, exists_eq_right', exists_and_left, and_true, true_and, Nat.reduceAdd, Nat.reduceSub, Nat.reduceLT, Nat.reduceEqDiff, Nat.add_one_sub_one, Nat.sub_zero, if_true, if_false, Bool.false_eq_true, reduceIte, wipeR, List.cons.injEq, Nat.zero_add, reduceCtorEq, false_and, exists_false, Bool.false_bne, Bool.true_bne, len_lst, len_tup, len_scr, in_lst, in_tup, dKey_str, dKey_int, and_assoc, eq_int, dSub, dLt, dLe, dGt, dGe, isNonD, dIs, dMin, dMax, xMeth, xMeth0, xEqO, xXf, sTry, catchD, offD, add_int, dList, dTuple, xFlt, xFltC, xFltX, xFltCX, xX, sAppP, sClrP, sFldP, sPutP, pVar, pIx, pFld, id, xDisp, pairsD, xNames, xMethF, xMeth0F, aStar, xTGet, xTIn, sPutT, sRaise0, sTryM, catchM, emEq, tKey_strs, famNs, Option.isSome_some, iSqV, sForW, xJoin, dSortedY, xRevL, sDead, xDead, xDc, sPar, sParO, dMin2, dMax2, dHas, dLenF, xSortR, dXor, xDcT, xMk0, seqOf, xLc, xLenSet, webD]
  refine ⟨_, rfl, _, rfl, by rw [List.length_map]; have := ok.le; show _ ≤ 100000; omega, ?_⟩
  refine dc_mapT D.str Sum.inr D.str ps [] (by simpa using inr_nodup ok.nd) (fun x hx K k => ?_) ?_
  · walk_at "zS0"
    exact k
  · rw [List.nil_append]
    refine for_invT D.str lot (fun i ρ => ∃ c d e f g h, ρ = [some (webD ps ns a b), some (tupS lot), some (markD ps (wm a b (lot.take i))), c, d, e, f, g, h]) ⟨none, none, none, none, none, none, rfl⟩ (fun i x ρ N hi p n => ?_) (fun ρ p => ?_)
    · obtain ⟨c, d, e, f, g, h, rfl⟩ := p
      have hxn : x ∈ ns := hx x (List.mem_of_getElem? hi)
      have tn : wm a b (lot.take (i + 1)) = P01.wstep a b P01.mnS P01.mxS (wm a b (lot.take i)) x := by
        show List.foldl _ _ _ = _
        rw [take_next hi, List.foldl_append]
        rfl
      have min_ := wm_in ok (lot.take i)
      generalize wm a b (lot.take i) = m at tn min_ n ⊢
      have ea := min_ _ (ok.ha x)
      have eb := min_ _ (ok.hb x)
      simp only [fnD, iniD, startD, sNil, sSeq, sIf, sRet, sSet, sSetO, sExpr, sApp, sPut, sClr, sExt, sIns, sRaise, sRaise2, sAsg, sFor, sSetM, sAppM, sFld', xPopAt, xPop, xVar, xC, xOp1, xOp2, xNeg, xAnd, xOr, xNot, xIf, xB, xFn, xTup, xLst, xFld, xDGet, xDIn, xSl, xChain, oNone, oSome, aNil, aCons, tB', tAnd', tOr', tNot', tYesD, gN, gT, gsN, gsC, iLst, iTupD, iRg1, iRg2, iEnm, iTxt, List.map_cons, List.map_nil, List.length_cons, List.length_nil, List.replicate, List.replicate_succ, List.replicate_zero, List.cons_append, List.nil_append, List.set_cons_zero, List.set_cons_succ, List.getElem?_cons_zero, List.getElem?_cons_succ, Option.some.injEq, D.int.injEq, D.str.injEq, D.bl.injEq, D.lst.injEq, D.tup.injEq, D.dic.injEq, D.ins.injEq, exists_eq_left, exists_eq_left', exists_eq_right, exists_eq_right', exists_and_left, and_true, true_and, Nat.reduceAdd, Nat.reduceSub, Nat.reduceLT, Nat.reduceEqDiff, Nat.add_one_sub_one, Nat.sub_zero, if_true, if_false, Bool.false_eq_true, reduceIte, wipeR, List.cons.injEq, Nat.zero_add, reduceCtorEq, false_and, exists_false, Bool.false_bne, Bool.true_bne, len_lst, len_tup, len_scr, in_lst, in_tup, dKey_str, dKey_int, and_assoc, eq_int, dSub, dLt, dLe, dGt, dGe, isNonD, dIs, dMin, dMax, xMeth, xMeth0, xEqO, xXf, sTry, catchD, offD, add_int, dList, dTuple, xFlt, xFltC, xFltX, xFltCX, xX, sAppP, sClrP, sFldP, sPutP, pVar, pIx, pFld, id, xDisp, pairsD, xNames, xMethF, xMeth0F, aStar, xTGet, xTIn, sPutT, sRaise0, sTryM, catchM, emEq, tKey_strs, famNs, Option.isSome_some, iSqV, sForW, xJoin, dSortedY, xRevL, sDead, xDead, xDc, sPar, sParO, dMin2, dMax2, dHas, dLenF, xSortR, dXor, xDcT, xMk0, seqOf, xLc, xLenSet, webD, markD]
      refine ⟨_, rfl, _, rfl, _, dictS_get hxn, _, ix_tup' (i := 0) rfl, _, rfl, _, dictS_get (ok.ha x), _, rfl, _, rfl, _, dictS_get hxn, _, ix_tup' (i := 1) rfl, _, rfl, _, dictS_get (ok.hb x), _, eqS (ok.ok _ ea) (ok.ok _ eb), _, rfl, ?_⟩
      by_cases c1 : m (a x) = m (b x)
      · rw [if_neg (by simp [c1])]
        refine n _ ⟨some (.str x), some (.str (m (a x))), some (.str (m (b x))), f, g, h, ?_⟩
        rw [tn]
        unfold P01.wstep
        rw [if_pos c1]
        rfl
      · rw [if_pos (by simp [c1])]
        refine ⟨_, rfl, _, rfl, _, rfl, _, rfl, ?_⟩
        rw [P01.min_mnS, P01.max_mxS]
        have el : PyData.strOk (P01.mxS (m (a x)) (m (b x))) = true := by
          unfold P01.mxS
          split
          · exact ok.ok _ eb
          · exact ok.ok _ ea
        have es : P01.wstep a b P01.mnS P01.mxS m x = fun p => if m p = P01.mxS (m (a x)) (m (b x)) then P01.mnS (m (a x)) (m (b x)) else m p := by
          unfold P01.wstep
          rw [if_neg c1]
        rw [es] at tn
        generalize P01.mxS (m (a x)) (m (b x)) = hi at tn el ⊢
        generalize P01.mnS (m (a x)) (m (b x)) = lo at tn ⊢
        refine for_invT D.str ps (fun i ρ => ∃ h, ρ = [some (webD ps ns a b), some (tupS lot), some (markD ps fun p => if p ∈ ps.take i ∧ m p = hi then lo else m p), some (.str x), some (.str (m (a x))), some (.str (m (b x))), some (.str lo), some (.str hi), h]) ⟨h, ?_⟩ (fun i y ρ N2 hy p n2 => ?_) (fun ρ p => ?_)
        · simp only [List.take_zero, List.not_mem_nil, false_and, if_false]
          rfl
        · obtain ⟨h, rfl⟩ := p
          have hi2 : i < ps.length := (List.getElem?_eq_some_iff.mp hy).1
          have hyp : y ∈ ps := List.mem_of_getElem? hy
          have nt : y ∉ ps.take i := by
            have := nd_take ok.nd hi2
            rwa [show ps[i] = y from (List.getElem?_eq_some_iff.mp hy).2] at this
          simp only [fnD, iniD, startD, sNil, sSeq, sIf, sRet, sSet, sSetO, sExpr, sApp, sPut, sClr, sExt, sIns, sRaise, sRaise2, sAsg, sFor, sSetM, sAppM, sFld', xPopAt, xPop, xVar, xC, xOp1, xOp2, xNeg, xAnd, xOr, xNot, xIf, xB, xFn, xTup, xLst, xFld, xDGet, xDIn, xSl, xChain, oNone, oSome, aNil, aCons, tB', tAnd', tOr', tNot', tYesD, gN, gT, gsN, gsC, iLst, iTupD, iRg1, iRg2, iEnm, iTxt, List.map_cons, List.map_nil, List.length_cons, List.length_nil, List.replicate, List.replicate_succ, List.replicate_zero, List.cons_append, List.nil_append, List.set_cons_zero, List.set_cons_succ, List.getElem?_cons_zero, List.getElem?_cons_succ, Option.some.injEq, D.int.injEq, D.str.injEq, D.bl.injEq, D.lst.injEq, D.tup.injEq, D.dic.injEq, D.ins.injEq, exists_eq_left, exists_eq_left', exists_eq_right, exists_eq_right', exists_and_left, and_true, true_and, Nat.reduceAdd, Nat.reduceSub, Nat.reduceLT, Nat.reduceEqDiff, Nat.add_one_sub_one, Nat.sub_zero, if_true, if_false, Bool.false_eq_true, reduceIte, wipeR, List.cons.injEq, Nat.zero_add, reduceCtorEq, false_and, exists_false, Bool.false_bne, Bool.true_bne, len_lst, len_tup, len_scr, in_lst, in_tup, dKey_str, dKey_int, and_assoc, eq_int, dSub, dLt, dLe, dGt, dGe, isNonD, dIs, dMin, dMax, xMeth, xMeth0, xEqO, xXf, sTry, catchD, offD, add_int, dList, dTuple, xFlt, xFltC, xFltX, xFltCX, xX, sAppP, sClrP, sFldP, sPutP, pVar, pIx, pFld, id, xDisp, pairsD, xNames, xMethF, xMeth0F, aStar, xTGet, xTIn, sPutT, sRaise0, sTryM, catchM, emEq, tKey_strs, famNs, Option.isSome_some, iSqV, sForW, xJoin, dSortedY, xRevL, sDead, xDead, xDc, sPar, sParO, dMin2, dMax2, dHas, dLenF, xSortR, dXor, xDcT, xMk0, seqOf, xLc, xLenSet, webD, markD]
          refine ⟨_, dictS_get hyp, _, eqS (ok.ok _ ?_) el, _, rfl, ?_⟩
          · rw [if_neg fun z => nt z.1]
            exact min_ y hyp
          · rw [if_neg (fun z : y ∈ ps.take i ∧ m y = hi => nt z.1)]
            by_cases c2 : m y = hi
            · rw [if_pos (by simp [c2])]
              refine ⟨by rw [dictS_len]; have := ok.le; show _ < 100000; omega, n2 _ ⟨some (.str y), ?_⟩⟩
              rw [dictS_put hyp]
              have : (fun q => if q = y then D.str lo else D.str (if q ∈ ps.take i ∧ m q = hi then lo else m q)) = fun q => D.str (if q ∈ ps.take (i + 1) ∧ m q = hi then lo else m q) := by
                funext q
                rw [take_next hy]
                by_cases e : q = y
                · subst e; simp [c2]
                · simp [e]
              rw [this]
              rfl
            · rw [if_neg (by simp [c2])]
              refine n2 _ ⟨some (.str y), ?_⟩
              have : (fun q => D.str (if q ∈ ps.take i ∧ m q = hi then lo else m q)) = fun q => D.str (if q ∈ ps.take (i + 1) ∧ m q = hi then lo else m q) := by
                funext q
                rw [take_next hy]
                by_cases e : q = y
                · subst e; simp [c2]
                · simp [e]
              rw [this]
              rfl
        · obtain ⟨h, rfl⟩ := p
          refine n _ ⟨some (.str x), some (.str (m (a x))), some (.str (m (b x))), some (.str lo), some (.str hi), h, ?_⟩
          rw [tn, List.take_length]
          have : markD ps (fun p => if p ∈ ps ∧ m p = hi then lo else m p) = markD ps fun p => if m p = hi then lo else m p := by
            unfold markD
            congr 1
            refine dictS_congr fun p hp => ?_
            simp [hp]
          rw [this]
    · obtain ⟨c, d, e, f, g, h, rfl⟩ := p
      walk_at "zS0"
      rw [List.take_length]
      exact q
end Dz
local macro_rules | `(tactic| k_dat $t:term "zS3") => `(tactic| simp only [$t:term, Dz.fnD, Dz.iniD, Dz.startD, Dz.sNil, Dz.sSeq, Dz.sIf, Dz.sRet, Dz.sSet, Dz.sSetO, Dz.sExpr, Dz.sApp, Dz.sPut, Dz.sClr, Dz.sExt, Dz.sIns, Dz.sRaise, Dz.sRaise2, Dz.sAsg, Dz.sFor, Dz.sSetM, Dz.sAppM, Dz.sFld', Dz.xPopAt, Dz.xPop, Dz.xVar, Dz.xC, Dz.xOp1, Dz.xOp2, Dz.xNeg, Dz.xAnd, Dz.xOr, Dz.xNot, Dz.xIf, Dz.xB, Dz.xFn, Dz.xTup, Dz.xLst, Dz.xFld, Dz.xDGet, Dz.xDIn, Dz.xSl, Dz.xChain, Dz.oNone, Dz.oSome, Dz.aNil, Dz.aCons, Dz.tB', Dz.tAnd', Dz.tOr', Dz.tNot', Dz.tYesD, Dz.gN, Dz.gT, Dz.gsN, Dz.gsC, Dz.iLst, Dz.iTupD, Dz.iRg1, Dz.iRg2, Dz.iEnm, Dz.iTxt, List.map_cons, List.map_nil, List.length_cons, List.length_nil, List.replicate, List.replicate_succ, List.replicate_zero, List.cons_append, List.nil_append, List.set_cons_zero, List.set_cons_succ, List.getElem?_cons_zero, List.getElem?_cons_succ, Option.some.injEq, Dz.D.int.injEq, Dz.D.str.injEq, Dz.D.bl.injEq, Dz.D.lst.injEq, Dz.D.tup.injEq, Dz.D.dic.injEq, Dz.D.ins.injEq, exists_eq_left, exists_eq_left', exists_eq_right, exists_eq_right', exists_and_left, and_true, true_and, Nat.reduceAdd, Nat.reduceSub, Nat.reduceLT, Nat.reduceEqDiff, Nat.add_one_sub_one, Nat.sub_zero, if_true, if_false, Bool.false_eq_true, reduceIte, Dz.wipeR, List.cons.injEq, Nat.zero_add, reduceCtorEq, false_and, exists_false, Bool.false_bne, Bool.true_bne, Dz.len_lst, Dz.len_tup, Dz.len_scr, Dz.in_lst, Dz.in_tup, Dz.dKey_str, Dz.dKey_int, and_assoc, Dz.eq_int, Dz.dSub, Dz.dLt, Dz.dLe, Dz.dGt, Dz.dGe, Dz.isNonD, Dz.dIs, Dz.dMin, Dz.dMax, Dz.xMeth, Dz.xMeth0, Dz.xEqO, Dz.xXf, Dz.sTry, Dz.catchD, Dz.offD, Dz.add_int, Dz.dList, Dz.dTuple, Dz.xFlt, Dz.xFltC, Dz.xFltX, Dz.xFltCX, Dz.xX, Dz.sAppP, Dz.sClrP, Dz.sFldP, Dz.sPutP, Dz.pVar, Dz.pIx, Dz.pFld, id, Dz.xDisp, Dz.pairsD, Dz.xNames, Dz.xMethF, Dz.xMeth0F, Dz.aStar, Dz.xTGet, Dz.xTIn, Dz.sPutT, Dz.sRaise0, Dz.sTryM, Dz.catchM, Dz.emEq, Dz.tKey_strs, Dz.famNs, Option.isSome_some, Dz.iSqV, Dz.sForW, Dz.xJoin, Dz.dSortedY, Dz.xRevL, Dz.sDead, Dz.xDead, Dz.xDc, Dz.sPar, Dz.sParO, Dz.dMin2, Dz.dMax2, Dz.dHas, Dz.dLenF, Dz.xSortR, Dz.dXor, Dz.xDcT, Dz.xMk0, Dz.seqOf, Dz.xLc, Dz.xLenSet, Dz.webD])
namespace Dz
open PySem PySem.Spec PyProof.Rows L2 Evl Bf
theorem fltL_str : ∀ xs : List Str, fltL (xs.map D.str) = true
  | [] => rfl
  | x :: xs => by
    rw [List.map_cons, fltL, fltL_str xs]
    rfl
theorem flt_tupS (xs : List Str) : (tupS xs).flt = true := by rw [D.flt]; exact fltL_str xs
theorem cut_take {α : Type} (xs : List α) (k : Nat) : cut xs none (some (k : Int)) = xs.take k := by
  unfold cut
  rw [HT.sIx_none, HT.sIx_nat, List.drop_zero, Nat.sub_zero, List.take_eq_take_iff]
  omega
def r_WCount : DS :=
  (sSeq (sSet 2 (xMeth "Web" "marks" F_WMarks (xVar 0) (aCons (xVar 1) aNil)))
    (sRet (xB dLen (aCons (xLc (iTupD (xFld "Web" "known" (xVar 0))) [3] (gN 3) (tB' (xOp2 (dEq true) (xDGet (xVar 2) (xVar 3)) (xVar 3))) (xVar 3)) aNil))))
def F_WCount : DF := fun ds A _ => ∃ ps ns a b lot, ds = [webD ps ns a b, tupS lot] ∧ WebOk ps ns a b ∧ (∀ x ∈ lot, x ∈ ns) ∧ lot.length ≤ 1000 ∧ A (.int (P01.cnt ps (wm a b lot) : Nat))
theorem n_WCount (ds : List D) (A : D → Prop) (Ax : XQ) (h : F_WCount ds A Ax) : fnD 0 4 2 r_WCount ds A Ax := by
  obtain ⟨ps, ns, a, b, lot, rfl, ok, hx, hl, q⟩ := h
  k_dat r_WCount "zS3"
  refine ⟨rfl, ps, ns, a, b, lot, rfl, ok, hx, hl, _, rfl, _, rfl, by rw [List.length_map]; have := ok.le; show _ ≤ 100000; omega, ?_⟩
  refine lc_filT D.str (fun p => decide (wm a b lot p ≠ p)) D.str ps (fun p hp K k => ?_) ?_
  · simp only [fnD, iniD, startD, sNil, sSeq, sIf, sRet, sSet, sSetO, sExpr, sApp, sPut, sClr, sExt, sIns, sRaise, sRaise2, sAsg, sFor, sSetM, sAppM, sFld', xPopAt, xPop, xVar, xC, xOp1, xOp2, xNeg, xAnd, xOr, xNot, xIf, xB, xFn, xTup, xLst, xFld, xDGet, xDIn, xSl, xChain, oNone, oSome, aNil, aCons, tB', tAnd', tOr', tNot', tYesD, gN, gT, gsN, gsC, iLst, iTupD, iRg1, iRg2, iEnm, iTxt, List.map_cons, List.map_nil, List.length_cons, List.length_nil, List.replicate, List.replicate_succ, List.replicate_zero, List.cons_append, List.nil_append, List.set_cons_zero, List.set_cons_succ, List.getElem?_cons_zero, List.getElem?_cons_succ, Option.some.injEq, D.int.injEq, D.str.injEq, D.bl.injEq, D.lst.injEq, D.tup.injEq, D.dic.injEq, D.ins.injEq, exists_eq_left, exists_eq_left', exists_eq_right, exists_eq_right', exists_and_left, and_true, true_and, Nat.reduceAdd, Nat.reduceSub, Nat.reduceLT, Nat.reduceEqDiff, Nat.add_one_sub_one, Nat.sub_zero, if_true, if_false, Bool.false_eq_true, reduceIte, wipeR, List.cons.injEq, Nat.zero_add, reduceCtorEq, false_and, exists_false, Bool.false_bne, Bool.true_bne, len_lst, len_tup, len_scr, in_lst, in_tup, dKey_str, dKey_int, and_assoc, eq_int, dSub, dLt, dLe, dGt, dGe, isNonD, dIs, dMin, dMax, xMeth, xMeth0, xEqO, xXf, sTry, catchD, offD, add_int, dList, dTuple, xFlt, xFltC, xFltX, xFltCX, xX, sAppP, sClrP, sFldP, sPutP, pVar, pIx, pFld, id, xDisp, pairsD, xNames, xMethF, xMeth0F, aStar, xTGet, xTIn, sPutT, sRaise0, sTryM, catchM, emEq, tKey_strs, famNs, Option.isSome_some, iSqV, sForW, xJoin, dSortedY, xRevL, sDead, xDead, xDc, sPar, sParO, dMin2, dMax2, dHas, dLenF, xSortR, dXor, xDcT, xMk0, seqOf, xLc, xLenSet, markD]
    refine ⟨_, dictS_get hp, _, eqS (ok.ok _ (wm_in ok lot p hp)) (ok.ok _ hp), _, rfl, ?_⟩
    have e : (true != decide (wm a b lot p = p)) = decide (wm a b lot p ≠ p) := by by_cases c : wm a b lot p = p <;> simp [c]
    rw [e]
    exact ite_k k
  · rw [List.length_map]
    exact q
def r_NPlaces : DS :=
  (sSeq (sIf (tNot' (tB' (xChain dLe dLe (xC (.int 1)) (xB dLen (aCons (xVar 0) aNil)) (xC (.int 16)))))
    (sRaise "BadPlaces" "index" (xNeg (xC (.int 1))))
    sNil)
    (sSeq (sFor (iEnm (xVar 0)) (gT 2 (gsC (gN 1) (gsC (gN 2) gsN)))
    (sIf (tOr' (tNot' (tB' (xFn F_IsName (aCons (xVar 2) aNil)))) (tB' (xOp2 (dIn false) (xVar 2) (xSl (xVar 0) oNone (oSome (xVar 1))))))
    (sRaise "BadPlaces" "index" (xVar 1))
    sNil))
    (sRet (xB dTuple (aCons (xB dSorted (aCons (xVar 0) aNil)) aNil)))))
def F_NPlaces : DF := fun ds A _ => ∃ ps, ds = [lstS ps] ∧ ps.Nodup ∧ (∀ x ∈ ps, isNm x = true) ∧ 1 ≤ ps.length ∧ ps.length ≤ 16 ∧ A (tupS (srt ps))
theorem n_NPlaces (ds : List D) (A : D → Prop) (Ax : XQ) (h : F_NPlaces ds A Ax) : fnD 0 3 1 r_NPlaces ds A Ax := by
  obtain ⟨ps, rfl, nd, nm, l1, l16, q⟩ := h
  k_dat r_NPlaces "zS0"
  rw [List.length_map]
  rw [if_pos (decide_eq_true (by omega)), if_neg (by rw [decide_eq_true (by omega)]; decide)]
  refine for_enum D.str ps (fun i ρ => ∃ c d, ρ = [some (lstS ps), c, d]) ⟨_, _, rfl⟩ (fun i x ρ N hi p n => ?_) (fun ρ p => ?_)
  · obtain ⟨c, d, rfl⟩ := p
    have hx := List.mem_of_getElem? hi
    have hi2 : i < ps.length := (List.getElem?_eq_some_iff.mp hi).1
    walk_at "zS0"
    refine ⟨_, rfl, nm_nma (nm x hx), _, rfl, ?_⟩
    have e0 : isNmD (.str x) = true := nm x hx
    rw [if_neg (by rw [e0]; decide)]
    refine ⟨_, rfl, ?_⟩
    rw [cut_take, ← List.map_take]
    refine ⟨_, in_lst false x (ps.take i), _, rfl, ?_⟩
    have nt : x ∉ ps.take i := by
      have := nd_take nd hi2
      rwa [show ps[i] = x from (List.getElem?_eq_some_iff.mp hi).2] at this
    rw [if_neg (by rw [decide_eq_false nt]; decide)]
    exact n _ ⟨_, _, rfl⟩
  · obtain ⟨c, d, rfl⟩ := p
    walk_at "zS0"
    exact ⟨_, sorted_lst (by omega), _, rfl, q⟩
def r_IsPair : DS :=
  (sSeq (sIf (tOr' (tNot' (tB' (xB dIsi (aCons (xVar 1) (aCons (xC (.ty "tuple")) aNil))))) (tB' (xOp2 (dEq true) (xB dLen (aCons (xVar 1) aNil)) (xC (.int 2)))))
    (sRet (xC (.bl false)))
    sNil)
    (sRet (xB dAll (aCons (xLc (iTupD (xVar 1)) [2] (gN 2) tYesD (xAnd (xB dIsi (aCons (xVar 2) (aCons (xC (.ty "str")) aNil))) (xOp2 (dIn false) (xVar 2) (xVar 0)))) aNil))))
def F_IsPair : DF := fun ds A _ => ∃ kn x y, ds = [tupS kn, tupS [x, y]] ∧ x ∈ kn ∧ y ∈ kn ∧ A (.bl true)
theorem n_IsPair (ds : List D) (A : D → Prop) (Ax : XQ) (h : F_IsPair ds A Ax) : fnD 0 3 2 r_IsPair ds A Ax := by
  obtain ⟨kn, x, y, rfl, hx, hy, q⟩ := h
  have e1 : dIsi [tupS [x, y], .ty "tuple"] = some (.bl true) := isi_of rfl (by decide)
  have e2 : ∀ z, dIsi [.str z, .ty "str"] = some (.bl true) := fun z => isi_of rfl (by decide)
  k_dat r_IsPair "zS0"
  refine ⟨_, e1, _, rfl, ?_⟩
  rw [if_neg (by decide)]
  rw [if_neg (by simp)]
  refine ⟨by decide, ?_⟩
  refine lc_mapT D.str (fun _ => .bl true) [x, y] (fun z hz K k => ?_) ?_
  · walk_at "zS0"
    refine ⟨_, e2 z, _, rfl, ?_⟩
    rw [if_pos rfl]
    have hz2 : z ∈ kn := by
      rcases List.mem_cons.mp hz with rfl | hz
      · exact hx
      · rw [List.mem_singleton.mp hz]; exact hy
    rw [decide_eq_true hz2]
    exact k
  · exact ⟨_, rfl, q⟩
def r_WInit : DS :=
  (sSeq (sFldP 0 "Web" "known" (xFlt (xFn F_NPlaces (aCons (xVar 1) aNil))))
    (sSeq (sFor (iLst (xB dSorted (aCons (xB dListD (aCons (xVar 2) aNil)) aNil))) (gN 3)
    (sIf (tOr' (tNot' (tB' (xFn F_IsName (aCons (xVar 3) aNil)))) (tNot' (tB' (xFn F_IsPair (aCons (xFlt (xFld "Web" "known" (xVar 0))) (aCons (xDGet (xVar 2) (xVar 3)) aNil))))))
    (sRaise "BadTies" "name" (xVar 3))
    sNil))
    (sSeq (sIf (tB' (xOp2 dGt (xB dLenD (aCons (xVar 2) aNil)) (xC (.int 24))))
    (sRaise "TooMany" "limit" (xC (.int 24)))
    sNil)
    (sFldP 0 "Web" "ending" (xFltC (xDc (iLst (xB dSorted (aCons (xB dListD (aCons (xVar 2) aNil)) aNil))) [3] (gN 3) (xVar 3) (xB dTuple (aCons (xB dSorted (aCons (xDGet (xVar 2) (xVar 3)) aNil)) aNil))))))))
theorem srt_pair (x y : Str) : srt [x, y] = [P01.mnS x y, P01.mxS x y] := by
  have p : [P01.mnS x y, P01.mxS x y].Perm [x, y] ∧ leS (P01.mnS x y) (P01.mxS x y) = true := by
    by_cases e : x = y
    · subst e
      have e1 : P01.mnS x x = x := by unfold P01.mnS; split <;> rfl
      have e2 : P01.mxS x x = x := by unfold P01.mxS; split <;> rfl
      rw [e1, e2]
      refine ⟨List.Perm.refl _, ?_⟩
      have := leS_total x x
      simpa using this
    · rcases P01.mmS x y e with ⟨h1, h2, h3⟩ | ⟨h1, h2, h3⟩
      · rw [h1, h2]; exact ⟨List.Perm.refl _, h3⟩
      · rw [h1, h2]; exact ⟨List.Perm.swap _ _ _, h3⟩
  exact ((srt_perm [x, y]).trans p.1.symm).eq_of_pairwise (fun a b _ _ h1 h2 => leS_antisymm h1 h2) (srt_pw _) (List.pairwise_cons.mpr ⟨fun z hz => by rw [List.mem_singleton.mp hz]; exact p.2, List.pairwise_singleton _ _⟩)
theorem dlistS (ps : List Str) (f : Str → D) : dListD [.dic (dictS ps f)] = some (lstS ps) := by
  unfold dListD
  simp only [dictS_keys]
theorem strOk_nm {x : Str} (h : isNm x = true) : PyData.strOk x = true := (Bf.nm_ok h).2
def F_WInit : DF := fun ds A _ => ∃ (ps ts : List Str) (a b : Str → Str), ds = [lstS ps, .dic (dictS ts fun t => tupS [a t, b t])] ∧ ps.Nodup ∧ (∀ x ∈ ps, isNm x = true) ∧ 1 ≤ ps.length ∧ ps.length ≤ 16 ∧ ts.Nodup ∧ (∀ t ∈ ts, isNm t = true ∧ a t ∈ ps ∧ b t ∈ ps) ∧ ts.length ≤ 24 ∧
  A (webD (srt ps) (srt ts) (fun t => P01.mnS (a t) (b t)) (fun t => P01.mxS (a t) (b t)))
theorem i_WInit (ds : List D) (A : D → Prop) (Ax : XQ) (h : F_WInit ds A Ax) : F_WInit ds (fun d => ∃ fs, d = .ins "Web" fs ∧ A d) Ax := by
  obtain ⟨ps, ts, a, b, e, h1, h2, h3, h4, h5, h6, h7, q⟩ := h
  exact ⟨ps, ts, a, b, e, h1, h2, h3, h4, h5, h6, h7, _, rfl, q⟩
theorem n_WInit (ds : List D) (A : D → Prop) (Ax : XQ) (h : F_WInit ds A Ax) : iniD "Web" 4 2 r_WInit ds A Ax := by
  obtain ⟨ps, ts, a, b, rfl, h1, h2, h3, h4, h5, h6, h7, q⟩ := h
  k_dat r_WInit "zS0"
  refine ⟨ps, rfl, h1, h2, h3, h4, ?_⟩
  have e0 : ∀ t ∈ ts, dVal (dictS ts fun t => tupS [a t, b t]) (Sum.inr t) = some (tupS [a t, b t]) := fun t ht => dictS_get ht
  refine ⟨flt_tupS _, _, dlistS ts _, _, sorted_lst (by omega), _, rfl, ?_⟩
  refine for_invT D.str (srt ts) (fun i ρ => ∃ c, ρ = [some (.ins "Web" [("known", tupS (srt ps))]), some (lstS ps), some (.dic (dictS ts fun t => tupS [a t, b t])), c]) ⟨_, rfl⟩ (fun i x ρ N hi p n => ?_) (fun ρ p => ?_)
  · obtain ⟨c, rfl⟩ := p
    have hx : x ∈ ts := srt_mem.mp (List.mem_of_getElem? hi)
    obtain ⟨g1, g2, g3⟩ := h6 x hx
    walk_at "zS0"
    have e1 : isNmD (.str x) = true := g1
    refine ⟨_, rfl, nm_nma g1, _, rfl, ?_⟩
    rw [if_neg (by rw [e1]; decide)]
    refine ⟨_, rfl, flt_tupS _, _, e0 x hx, srt ps, a x, b x, rfl, srt_mem.mpr g2, srt_mem.mpr g3, _, rfl, ?_⟩
    rw [if_neg (by decide)]
    exact n _ ⟨_, rfl⟩
  · obtain ⟨c, rfl⟩ := p
    walk_at "zS0"
    refine ⟨_, rfl, _, rfl, _, rfl, ?_⟩
    rw [dictS_len, if_neg (by rw [decide_eq_false (by omega)]; exact Bool.false_ne_true)]
    refine ⟨_, dlistS ts _, _, sorted_lst (by omega), _, rfl, by rw [List.length_map, srt_len]; show _ ≤ 100000; omega, ?_⟩
    refine dc_mapT D.str Sum.inr (fun t => tupS [P01.mnS (a t) (b t), P01.mxS (a t) (b t)]) (srt ts) [] (by simpa using inr_nodup ((srt_perm ts).nodup_iff.mpr h5)) (fun x hx K k => ?_) ?_
    · walk_at "zS0"
      refine ⟨_, e0 x (srt_mem.mp hx), _, sorted_tup (xs := [a x, b x]) (by show 2 < 64; decide), _, rfl, ?_⟩
      rw [srt_pair]
      exact k
    · rw [List.nil_append]
      refine ⟨?_, q⟩
      show fltK _ = true
      have : ∀ l : List Str, fltK (l.map fun t => ((Sum.inr t : Key), tupS [P01.mnS (a t) (b t), P01.mxS (a t) (b t)])) = true := fun l => by
        induction l with
        | nil => rfl
        | cons t l ih => rw [List.map_cons, fltK, ih, flt_tupS]; rfl
      exact this _
end Dz
namespace Dz
open PySem PySem.Spec PyProof.Rows L2 Evl Bf
theorem sw_trueD {kx vx : Expr} {gs : List Comprehension} {scope : Scope} {pos py : Pos} {y : Str} {l : Nat} {env : Env} (hk : env.scope.kind = .function) (hy : env.scope.names.lookup y = some .local) (hl : (py.line == pos.line) = true)
    (ha : (scope.names.any fun (n, k) => n == y && (k == .local || k == .cell)) = false) : swapsWith (.DictComp kx vx gs scope pos) (some (.Name y py)) l env = pure true := by
  have ky : env.kindOf y = some .local := hy
  have hb : env.blockKind = .function := by unfold Env.blockKind; rw [hk]; rfl
  unfold swapsWith
  simp only [hb, ky, ha, Expr.pos, hl]
  rfl
section
variable {X : Cx} {T : Th X.K} {W : WX} {fz : Nat} {O is Ol : List Nat} {tg iter kx vx : Expr} {φ : DI} {g : DG} {ek ev : DX} {pos spos : Pos} {scope : Scope} {own : List (Str × Nat)}
theorem ps_setDc {i : Nat} {y : Str} {py : Pos} {kx vx tg iter : Expr} {ifs : List Expr} {scope : Scope} {own : List (Str × Nat)} {pos spos : Pos} {wi : TI} {g : TG} {tt : TT} {tk tv : TE} (hc : X.calm = true) (hN : X.N.Nodup) (hy : X.N[i]? = some y) (hyl : X.env.scope.names.lookup y = some .local)
    (hsw : swapsWith (.DictComp kx vx [⟨tg, iter, ifs, 0⟩] scope pos) (some (.Name y py)) spos.line X.env = pure true) (hi : PI X tg iter wi) (ok : BlkOk X.N X.env.scope scope own)
    (hg : ∀ (s : Shared) (H : Hp) (C : Addr) (cl : List (Str × Addr)) (fp : List Addr), PG (X.blk s H scope (compEnvC scope cl C X.env) fp) tg g) (ht : ∀ (s : Shared) (H : Hp) (C : Addr) (cl : List (Str × Addr)) (fp : List Addr), PTs (X.blk s H scope (compEnvC scope cl C X.env) fp) ifs tt)
    (hk : ∀ (s : Shared) (H : Hp) (C : Addr) (cl : List (Str × Addr)) (fp : List Addr), PE (X.blk s H scope (compEnvC scope cl C X.env) fp) kx tk)
    (he : ∀ (s : Shared) (H : Hp) (C : Addr) (cl : List (Str × Addr)) (fp : List Addr), PE (X.blk s H scope (compEnvC scope cl C X.env) fp) vx tv) (hs : ∀ x, foldedSetIterable iter X.env x = pure x := by intro _; rfl) :
    PS X (.Assign [.Name y py] (.DictComp kx vx [⟨tg, iter, ifs, 0⟩] scope pos) spos) (tAsg (tDc wi g tt tk tv (own.map (·.2))) (gName i)) := by
  refine ⟨fun pins s σ H D I h => ?_⟩
  rw [exec_Assign_Name_used _ _ _ _ hsw]
  refine wpAny_bind (wpAny_standAt (wpAny_bind ?_))
  show wpAny _ X.A (do let _ ← comprehension (.DictComp kx vx [⟨tg, iter, ifs, 0⟩] scope pos) scope X.env (firstIterPos [⟨tg, iter, ifs, 0⟩] pos) newDict false (eval iter X.env) (some (assign (.Name y py) X.env))) _ _ s
  have h : tDc wi g tt tk tv (own.map (·.2)) σ H (fun x H1 => gName i x σ H1 D.nx) := h
  refine wpAny_bind (thn (dc_core (Qf := fun _ s' => SP X pins D .next s') hc hN I hi ok hg ht hk he hs h fun L C s' m H' I' q hn f => ?_) fun _ s' hq => wpAny_pure (wpAny_pure hq))
  show wpAny _ _ (assign (.Name y py) X.env (.ref L)) _ _ _
  refine wpAny_assign_Name (store_ok2 (v := V.ref L) I' hN hy (.inl hyl) rfl (fun s2 I2 ⟨a, sb, ha⟩ => ?_) (.inr hyl))
  obtain ⟨f0, f1, f2, f3, f4, f5⟩ := f
  have haC : C ≠ a := by
    rcases ha with z | z
    · rw [z]; exact f1
    · exact fun e => f4 y a z e.symm
  refine ⟨m, hn.sameBut sb haC, fun h3 sb3 => ?_⟩
  exact ⟨_, H', I2.turned (t' := s2.toks) (fun b o hb e => (sb3.2 b hb).trans e) f0 f1 f3 f4 f5, q⟩
theorem s_setDcO {i : Nat} {y : Str} {py : Pos} (hc : X.calm = true) (hN : X.N.Nodup) (hy : X.N[i]? = some y) (hyl : X.env.scope.names.lookup y = some .local) (hsw : swapsWith (.DictComp kx vx [⟨tg, iter, [], 0⟩] scope pos) (some (.Name y py)) spos.line X.env = pure true)
    (hi : PI X tg iter (ioOf T W O φ)) (ok : BlkOk X.N X.env.scope scope own)
    (hg : ∀ (s : Shared) (H : Hp) (C : Addr) (cl : List (Str × Addr)) (fp : List Addr), PG (X.blk s H scope (compEnvC scope cl C X.env) fp) tg (gOf (K := X.K) T O is g))
    (hk : ∀ (s : Shared) (H : Hp) (C : Addr) (cl : List (Str × Addr)) (fp : List Addr), PE (X.blk s H scope (compEnvC scope cl C X.env) fp) kx (eOf (K := X.K) T W0 O ek)) (he : ∀ (s : Shared) (H : Hp) (C : Addr) (cl : List (Str × Addr)) (fp : List Addr), PE (X.blk s H scope (compEnvC scope cl C X.env) fp) vx (eOf (K := X.K) T W0 O ev)) (hv : ((own.map (·.2)).all fun i => fre O i) = true) (hI : (is.all fun i => (own.map (·.2)).contains i) = true)
    (hO : fre O i = true) (i0 : i ≠ 0 := by decide) (hs : ∀ x, foldedSetIterable iter X.env x = pure x := by intro _; rfl) (hb : T.bor.contains i = false := by rfl) : PS X (.Assign [.Name y py] (.DictComp kx vx [⟨tg, iter, [], 0⟩] scope pos) spos) (sOf T W fz O (i :: O) Ol (sSetO i (xDc φ (own.map (·.2)) g ek ev))) :=
  psI (ps_setDc hc hN hy hyl hsw hi ok hg (fun _ _ _ _ _ => pts_nil) hk he hs) fun M σ H h => dc_aux hv hI (setO_aux hO i0 hb M σ H h)
end
end Dz
namespace Dz
open PySem PySem.Spec PyProof.Rows L2 Evl Bf
section
variable {X : Cx} {T : Th X.K} {W : WX} {O : List Nat} {es : List Expr} {φs : DA} {pos : Pos}
theorem be_tupV {x1} (h : PA X es (avOf T W O φs)) : PE X (.Tuple es x1 pos) (eOf T W O (xTup φs)) :=
  peI (pe_tup h) fun σ H Q ⟨ρ, ow0, fr, A, Ax, ok, er, q, k, x⟩ => ⟨ρ, ow0, fr, _, Ax, ok, er, q, fun ds vs G ⟨hl, qd⟩ okG gG rv => ⟨by rw [rv.length]; exact big_sz hl, fun p hp => by
    obtain ⟨h1, h2, h3⟩ := new_tup okG (er.gr T gG).otrk hp rv
    exact k _ _ _ qd h1 (T.trans gG h2) h3⟩, x⟩
end
end Dz
namespace Dz
open PySem PySem.Spec PyProof.Rows L2 Evl Bf
section
variable {prog : Program} {w : World} {A : Around} {E : Value → Shared → Prop} {s : Shared}
end
def iEnmT (φ : DX) : DI := fun ρ A Ax => φ ρ (fun x => ∃ xs, x = .tup xs ∧ A (enumD xs)) Ax
end Dz
local macro_rules | `(tactic| walk_at "zS2") => `(tactic| (simp only [Dz.fnD, Dz.iniD, Dz.startD, Dz.sNil, Dz.sSeq, Dz.sIf, Dz.sRet, Dz.sSet, Dz.sSetO, Dz.sExpr, Dz.sApp, Dz.sPut, Dz.sClr, Dz.sExt, Dz.sIns, Dz.sRaise, Dz.sRaise2, Dz.sAsg, Dz.sFor, Dz.sSetM, Dz.sAppM, Dz.sFld', Dz.xPopAt, Dz.xPop, Dz.xVar, Dz.xC, Dz.xOp1, Dz.xOp2, Dz.xNeg, Dz.xAnd, Dz.xOr, Dz.xNot, Dz.xIf, Dz.xB, Dz.xFn, Dz.xTup, Dz.xLst, Dz.xFld, Dz.xDGet, Dz.xDIn, Dz.xSl, Dz.xChain, Dz.oNone, Dz.oSome, Dz.aNil, Dz.aCons, Dz.tB', Dz.tAnd', Dz.tOr', Dz.tNot', Dz.tYesD, Dz.gN, Dz.gT, Dz.gsN, Dz.gsC, Dz.iLst, Dz.iTupD, Dz.iRg1, Dz.iRg2, Dz.iEnm, Dz.iTxt, List.map_cons, List.map_nil, List.length_cons, List.length_nil, List.replicate, List.replicate_succ, List.replicate_zero, List.cons_append, List.nil_append, List.set_cons_zero, List.set_cons_succ, List.getElem?_cons_zero, List.getElem?_cons_succ, Option.some.injEq, Dz.D.int.injEq, Dz.D.str.injEq, Dz.D.bl.injEq, Dz.D.lst.injEq, Dz.D.tup.injEq, Dz.D.dic.injEq, Dz.D.ins.injEq, exists_eq_left, exists_eq_left', exists_eq_right, exists_eq_right', exists_and_left, and_true, true_and, Nat.reduceAdd, Nat.reduceSub, Nat.reduceLT, Nat.reduceEqDiff, Nat.add_one_sub_one, Nat.sub_zero, if_true, if_false, Bool.false_eq_true, reduceIte, Dz.wipeR, List.cons.injEq, Nat.zero_add, reduceCtorEq, false_and, exists_false, Bool.false_bne, Bool.true_bne, Dz.len_lst, Dz.len_tup, Dz.len_scr, Dz.in_lst, Dz.in_tup, Dz.dKey_str, Dz.dKey_int, and_assoc, Dz.eq_int, Dz.dSub, Dz.dLt, Dz.dLe, Dz.dGt, Dz.dGe, Dz.isNonD, Dz.dIs, Dz.dMin, Dz.dMax, Dz.xMeth, Dz.xMeth0, Dz.xEqO, Dz.xXf, Dz.sTry, Dz.catchD, Dz.offD, Dz.add_int, Dz.dList, Dz.dTuple, Dz.xFlt, Dz.xFltC, Dz.xFltX, Dz.xFltCX, Dz.xX, Dz.sAppP, Dz.sClrP, Dz.sFldP, Dz.sPutP, Dz.pVar, Dz.pIx, Dz.pFld, id, Dz.xDisp, Dz.pairsD, Dz.xNames, Dz.xMethF, Dz.xMeth0F, Dz.aStar, Dz.xTGet, Dz.xTIn, Dz.sPutT, Dz.sRaise0, Dz.sTryM, Dz.catchM, Dz.emEq, Dz.tKey_strs, Dz.famNs, Option.isSome_some, Dz.iSqV, Dz.sForW, Dz.xJoin, Dz.dSortedY, Dz.xRevL, Dz.sDead, Dz.xDead, Dz.xDc, Dz.sPar, Dz.sParO, Dz.dMin2, Dz.dMax2, Dz.dHas, Dz.dLenF, Dz.xSortR, Dz.dXor, Dz.xDcT, Dz.xMk0, Dz.seqOf, Dz.xLc, Dz.xLenSet, Dz.iEnmT]))
local macro_rules | `(tactic| k_dat $t:term "zS2") => `(tactic| simp only [$t:term, Dz.fnD, Dz.iniD, Dz.startD, Dz.sNil, Dz.sSeq, Dz.sIf, Dz.sRet, Dz.sSet, Dz.sSetO, Dz.sExpr, Dz.sApp, Dz.sPut, Dz.sClr, Dz.sExt, Dz.sIns, Dz.sRaise, Dz.sRaise2, Dz.sAsg, Dz.sFor, Dz.sSetM, Dz.sAppM, Dz.sFld', Dz.xPopAt, Dz.xPop, Dz.xVar, Dz.xC, Dz.xOp1, Dz.xOp2, Dz.xNeg, Dz.xAnd, Dz.xOr, Dz.xNot, Dz.xIf, Dz.xB, Dz.xFn, Dz.xTup, Dz.xLst, Dz.xFld, Dz.xDGet, Dz.xDIn, Dz.xSl, Dz.xChain, Dz.oNone, Dz.oSome, Dz.aNil, Dz.aCons, Dz.tB', Dz.tAnd', Dz.tOr', Dz.tNot', Dz.tYesD, Dz.gN, Dz.gT, Dz.gsN, Dz.gsC, Dz.iLst, Dz.iTupD, Dz.iRg1, Dz.iRg2, Dz.iEnm, Dz.iTxt, List.map_cons, List.map_nil, List.length_cons, List.length_nil, List.replicate, List.replicate_succ, List.replicate_zero, List.cons_append, List.nil_append, List.set_cons_zero, List.set_cons_succ, List.getElem?_cons_zero, List.getElem?_cons_succ, Option.some.injEq, Dz.D.int.injEq, Dz.D.str.injEq, Dz.D.bl.injEq, Dz.D.lst.injEq, Dz.D.tup.injEq, Dz.D.dic.injEq, Dz.D.ins.injEq, exists_eq_left, exists_eq_left', exists_eq_right, exists_eq_right', exists_and_left, and_true, true_and, Nat.reduceAdd, Nat.reduceSub, Nat.reduceLT, Nat.reduceEqDiff, Nat.add_one_sub_one, Nat.sub_zero, if_true, if_false, Bool.false_eq_true, reduceIte, Dz.wipeR, List.cons.injEq, Nat.zero_add, reduceCtorEq, false_and, exists_false, Bool.false_bne, Bool.true_bne, Dz.len_lst, Dz.len_tup, Dz.len_scr, Dz.in_lst, Dz.in_tup, Dz.dKey_str, Dz.dKey_int, and_assoc, Dz.eq_int, Dz.dSub, Dz.dLt, Dz.dLe, Dz.dGt, Dz.dGe, Dz.isNonD, Dz.dIs, Dz.dMin, Dz.dMax, Dz.xMeth, Dz.xMeth0, Dz.xEqO, Dz.xXf, Dz.sTry, Dz.catchD, Dz.offD, Dz.add_int, Dz.dList, Dz.dTuple, Dz.xFlt, Dz.xFltC, Dz.xFltX, Dz.xFltCX, Dz.xX, Dz.sAppP, Dz.sClrP, Dz.sFldP, Dz.sPutP, Dz.pVar, Dz.pIx, Dz.pFld, id, Dz.xDisp, Dz.pairsD, Dz.xNames, Dz.xMethF, Dz.xMeth0F, Dz.aStar, Dz.xTGet, Dz.xTIn, Dz.sPutT, Dz.sRaise0, Dz.sTryM, Dz.catchM, Dz.emEq, Dz.tKey_strs, Dz.famNs, Option.isSome_some, Dz.iSqV, Dz.sForW, Dz.xJoin, Dz.dSortedY, Dz.xRevL, Dz.sDead, Dz.xDead, Dz.xDc, Dz.sPar, Dz.sParO, Dz.dMin2, Dz.dMax2, Dz.dHas, Dz.dLenF, Dz.xSortR, Dz.dXor, Dz.xDcT, Dz.xMk0, Dz.seqOf, Dz.xLc, Dz.xLenSet, Dz.iEnmT])
namespace Dz
open PySem PySem.Spec PyProof.Rows L2 Evl Bf
section
variable {X : Cx} {T : Th X.K} {W : WX} {fz : Nat} {O O2 Ol : List Nat} {i : Nat} {x : Str} {ce : Expr} {c : Str} {rest : List Stmt} {ψ : DS} {q1 q2 q3 q4 r1 r2 r3 r4 : Pos}
end
end Dz
namespace Dz
open PySem PySem.Spec PyProof.Rows L2 Evl Bf
section
variable {X : Cx} {T : Th X.K}
end
end Dz
namespace Dz
def rkS : List PySem.Str := ["Drawn", "Joined"]
def rkX : List (PySem.Str × DF) := []
def rkB : List PySem.Str := ["Web"]
def rkN : Nat := 4
end Dz
namespace Dz
open PySem PySem.Spec PyProof.Rows L2 Evl Bf
end Dz
namespace Dz
open PySem PySem.Spec PyProof.Rows L2 Evl Bf
end Dz
namespace Dz
open PySem PySem.Spec PyProof.Rows L2 Evl Bf
def sPar3 (i j l : Nat) (φs : DA) : DS := fun E ρ => φs ρ (fun ds => ∃ d e f, ds = [d, e, f] ∧ E.nx (((ρ.set i (some d)).set j (some e)).set l (some f))) fun x => E.ex x ρ
end Dz
namespace L2
open PySem PySem.Spec PyProof.Rows
section
variable {X : Cx}
end
end L2
namespace Dz
open PySem PySem.Spec PyProof.Rows L2 Evl Bf
def dedL (l : List Int) : List Int := l.foldl (fun acc v => if v ∈ acc then acc else acc ++ [v]) []
def wDic (ns : List Str) (w : Str → Int) : D := .dic (ns.map fun x => (Sum.inr x, D.int (w x)))
def xDvs (di : Nat) : DX := fun ρ A _ => ∃ (ns : List Str) (w : Str → Int), ρ[di]? = some (some (wDic ns w)) ∧ ns.length ≤ big ∧ A (.dic ((dedL (ns.map w)).map fun v => (Sum.inl v, D.bl true)))
section
variable {X : Cx} {T : Th X.K} {W : WX} {O : List Nat} {kx vx tg : Expr} {scope : Scope} {own : List (Str × Nat)} {p pos : Pos} {vi di : Nat} {xd : Str}
end
def xSortRD (φ : DX) : DX := fun ρ A Ax => φ ρ (fun x => ∃ (kvs : List (Key × D)) (ks : List Int), x = .dic kvs ∧ kvs.map (·.1) = ks.map Sum.inl ∧ A (.lst ((srtD ks).map .int))) Ax
section
variable {X : Cx} {T : Th X.K} {W : WX} {O : List Nat} {e : Expr} {φ : DX} {pos p p2 kp : Pos} {j}
end
def dDictD : List D → Option D
  | [.dic kvs] => some (.dic kvs)
  | _ => none
section
variable {X : Cx} {T : Th X.K} {W : WX} {O : List Nat}
theorem cd_dictD : CallD T (fun xs H Q => ∃ (a : Addr) (kvs : List (Key × V)), xs = [.ref a] ∧ Rd H a (.dK kvs) ∧ ∀ p, H p = none → Q (.ref p) (upd H p (.dK kvs))) 1 dDictD := by
  intro H ow vs ds z Q ok tr r hg k
  unfold dDictD at hg
  split at hg
  · rename_i kvs
    cases hg
    obtain ⟨v, rfl, rv⟩ := pair1 r
    obtain ⟨p, ws, rfl, hp, rp⟩ := o_dic rv
    refine ⟨p, ws, rfl, hp, fun l hl => ?_⟩
    obtain ⟨h1, h2, h3⟩ := new_ownD (ow := ow) ok hl rp
    exact k _ _ h1 h2 ⟨l, rfl, hl, h3⟩
  · cases hg
end
def sClrD (i : Nat) : DS := fun E ρ => ∃ kvs, ρ[i]? = some (some (.dic kvs)) ∧ E.nx (ρ.set i (some (.dic [])))
def sAug (i : Nat) (φ : DX) : DS := fun E ρ => ∃ m : Int, ρ[i]? = some (some (.int m)) ∧ φ ρ (fun d => ∃ n : Int, d = .int n ∧ E.nx (ρ.set i (some (.int (m + n))))) fun x => E.ex x ρ
section
variable {X : Cx} {T : Th X.K} {W : WX} {fz : Nat} {O Ol : List Nat} {e : Expr} {φ : DX} {p1 p2 pos pos2 : Pos} {i j : Nat} {x : Str}
theorem s_aug (hN : X.N.Nodup) (hi : X.N[i]? = some x) (hx : Loc X.env.scope x) (hO : fre O i = true) (vd : vis O i = true) (he : PE X e (eOf T W O φ))
    (hf : X.fn x = true ∨ X.env.scope.names.lookup x = some .local := by first | exact .inl rfl | exact .inr rfl | assumption) : PS X (.AugAssign (.Name x p1) .Add e pos) (sOf T W fz O O Ol (sAug i φ)) :=
  psI (ps_aug hN hi hx he ip_add hf) fun M σ H ⟨ρ, H0, owi, ow0, fr, E, s, _, k, m, hm, q⟩ => by
    obtain ⟨v, f1, r1⟩ := s.er.val i _ hm (vis_of vd).1 (vis_of vd).2
    cases r1
    exact ⟨_, f1, ρ, ow0, fr, _, _, s.ok, s.er, q, fun d v G ⟨n, e1, qd⟩ ok g r => by
      subst e1
      cases r
      exact ⟨m, n, rfl, rfl, k.nx _ G _ ow0 ((s.go ok g).set hO (.int _)) qd⟩, k.x s⟩
end
section
variable {X : Cx} {T : Th X.K} {W : WX} {O : List Nat} {a b c : Expr} {φa φb : DX} {t : DT} {pos : Pos}
end
end Dz
namespace P01
section rows
variable {α : Type} (f : α → Nat)
end rows
section few
variable {α : Type} [DecidableEq α]
theorem filt_le {ns X Y : List α} (h : ∀ x ∈ ns, x ∈ X → x ∈ Y) : (ns.filter fun x => decide (x ∈ X)).length ≤ (ns.filter fun x => decide (x ∈ Y)).length := by
  induction ns with
  | nil => exact Nat.le_refl _
  | cons a ns ih =>
    have i := ih fun x hx => h x (List.mem_cons_of_mem _ hx)
    by_cases c : a ∈ X
    · have c2 := h a List.mem_cons_self c
      rw [List.filter_cons_of_pos (by simpa using c), List.filter_cons_of_pos (by simpa using c2), List.length_cons, List.length_cons]
      omega
    · rw [List.filter_cons_of_neg (by simpa using c)]
      refine Nat.le_trans i ?_
      by_cases c2 : a ∈ Y
      · rw [List.filter_cons_of_pos (by simpa using c2), List.length_cons]; omega
      · rw [List.filter_cons_of_neg (by simpa using c2)]; exact Nat.le_refl _
theorem filt_one {ns : List α} (nd : ns.Nodup) (t : α) (X : List α) : (ns.filter fun x => decide (x ∈ t :: X)).length ≤ (ns.filter fun x => decide (x ∈ X)).length + 1 := by
  have : (ns.filter fun x => decide (x ∈ t :: X)).length ≤ (t :: ns.filter fun x => decide (x ∈ X)).length := by
    refine nodup_len (nd.sublist List.filter_sublist) fun x hx => ?_
    obtain ⟨h1, h2⟩ := List.mem_filter.mp hx
    rcases List.mem_cons.mp (of_decide_eq_true h2) with h | h
    · rw [h]; exact List.mem_cons_self
    · exact List.mem_cons_of_mem _ (List.mem_filter.mpr ⟨h1, decide_eq_true h⟩)
  exact this
theorem filt_more {ns : List α} {t : α} {X : List α} (ht : t ∈ ns) (n : t ∉ X) : (ns.filter fun x => decide (x ∈ X)).length < (ns.filter fun x => decide (x ∈ t :: X)).length := by
  induction ns with
  | nil => cases ht
  | cons a ns ih =>
    have le : (ns.filter fun x => decide (x ∈ X)).length ≤ (ns.filter fun x => decide (x ∈ t :: X)).length := filt_le fun x _ hx => List.mem_cons_of_mem _ hx
    by_cases c : a ∈ X
    · rw [List.filter_cons_of_pos (by simpa using c), List.filter_cons_of_pos (by simp [c]), List.length_cons, List.length_cons]
      have : t ∈ ns := (List.mem_cons.mp ht).resolve_left fun e => n (e ▸ c)
      have := ih this
      omega
    · rw [List.filter_cons_of_neg (by simpa using c)]
      by_cases e : a = t
      · rw [List.filter_cons_of_pos (by simp [e]), List.length_cons]; omega
      · rw [List.filter_cons_of_neg (by simp [e, c])]
        exact ih ((List.mem_cons.mp ht).resolve_left fun z => e z.symm)
end few
open PySem Evl Bf
end P01
namespace P01
namespace Mat
variable {α : Type} [DecidableEq α] {c : List α → Nat} (M : Mat c)
include M
omit [DecidableEq α] in
theorem in_same {t : α} {X : List α} (h : t ∈ X) : c (t :: X) = c X := M.alike fun x => by
  rw [List.mem_cons]
  exact ⟨fun z => z.elim (fun e => e ▸ h) id, .inr⟩
omit [DecidableEq α] in
theorem up_le (t : α) (X : List α) : c X ≤ c (t :: X) := M.mono fun x hx => List.mem_cons_of_mem _ hx
omit [DecidableEq α] in
theorem up {W V : List α} {t : α} (h : ∀ x ∈ W, x ∈ V) (e : c (t :: W) = c W) : c (t :: V) = c V := by
  have l1 := M.one t V
  have l2 := M.up_le t V
  apply Classical.byContradiction
  intro n
  have e1 : c (t :: V) = c V + 1 := by omega
  obtain ⟨E, a1, a2, a3⟩ := M.ext (c W) (F := []) (X := W) (fun _ z => (List.not_mem_nil z).elim) (by simpa using M.zero) (by simp)
  rw [List.append_nil] at a1 a2 a3
  have le : c W ≤ c V := M.mono h
  obtain ⟨G, g1, g2, g3⟩ := M.ext (c V - c W) (F := E) (X := V) (fun x hx => h x (a1 x hx)) a2 (by omega)
  obtain ⟨s, hs, q⟩ := M.grow (F := G ++ E) (X := t :: V) (by omega)
  have hst : s = t := by
    rcases List.mem_cons.mp hs with z | z
    · exact z
    · have : c (s :: (G ++ E)) ≤ c V := M.mono fun x hx => (List.mem_cons.mp hx).elim (fun e => e ▸ z) (g1 x)
      omega
  subst hst
  have f1 : c (s :: (G ++ E)) = (s :: (G ++ E)).length := by rw [List.length_cons]; omega
  have f2 : c (s :: E) = (s :: E).length := M.part (Z := G) (B := s :: (G ++ E)) (List.perm_middle.symm) f1
  have f3 : c (s :: E) ≤ c (s :: W) := M.mono fun x hx => (List.mem_cons.mp hx).elim (fun e => e ▸ List.mem_cons_self) fun z => List.mem_cons_of_mem _ (a1 x z)
  rw [List.length_cons] at f2
  omega
omit [DecidableEq α] in
theorem dim {B Y : List α} (h : ∀ x ∈ B, x ∈ Y) : ∀ Z : List α, c (Z ++ Y) + c B ≤ c (Z ++ B) + c Y
  | [] => by simp only [List.nil_append]; omega
  | t :: Z => by
    have ih := dim h Z
    have l1 := M.one t (Z ++ Y)
    have l2 := M.up_le t (Z ++ B)
    have l3 := M.one t (Z ++ B)
    simp only [List.cons_append]
    by_cases e : c (t :: (Z ++ B)) = c (Z ++ B)
    · have := M.up (V := Z ++ Y) (fun x hx => by
        rcases List.mem_append.mp hx with z | z
        · exact List.mem_append_left _ z
        · exact List.mem_append_right _ (h x z)) e
      omega
    · omega
omit [DecidableEq α] in
theorem sub {X Y B : List α} (h : ∀ x ∈ B, x ∈ X ∧ x ∈ Y) : c (X ++ Y) + c B ≤ c X + c Y := by
  have := M.dim (B := B) (Y := Y) (fun x hx => (h x hx).2) X
  have e : c (X ++ B) = c X := M.alike fun x => by
    rw [List.mem_append]
    exact ⟨fun z => z.elim id fun z => (h x z).1, .inl⟩
  omega
theorem free_of {B Y : List α} (h : c B = B.length) (n : Y.Nodup) (s : ∀ x ∈ Y, x ∈ B) : c Y = Y.length := by
  obtain ⟨Z, p⟩ := rest_of n s
  exact M.part p h
theorem more {F G : List α} (hF : c F = F.length) (hG : c G = G.length) (l : F.length < G.length) : ∃ t ∈ G, t ∉ F ∧ c (t :: F) = F.length + 1 := by
  obtain ⟨t, ht, q⟩ := M.grow (F := F) (X := G) (by omega)
  exact ⟨t, ht, fun z => by rw [M.in_same z] at q; omega, by omega⟩
end Mat
end P01
namespace P01
namespace Mat
variable {α : Type} [DecidableEq α] {c : List α → Nat} (M : Mat c)
include M
def IsR (c : List α → Nat) (S : List α) : Prop := c S ≠ S.length ∧ ∀ t ∈ S, c (S.erase t) + 1 = S.length
omit M in
theorem erase_len {t : α} {S : List α} (h : t ∈ S) : (S.erase t).length + 1 = S.length := by
  rw [List.length_erase_of_mem h]
  have := List.length_pos_of_mem h
  omega
theorem IsR.rk {S : List α} (h : IsR c S) (ne : S ≠ []) : c S + 1 = S.length := by
  obtain ⟨t, ht⟩ := List.exists_mem_of_ne_nil S ne
  have h1 := h.2 t ht
  have h2 : c (S.erase t) ≤ c S := M.mono fun x hx => List.mem_of_mem_erase hx
  have h3 := M.le_len S
  have := h.1
  omega
theorem IsR.ne {S : List α} (h : IsR c S) : S ≠ [] := fun e => h.1 (by rw [e]; exact M.zero)
theorem IsR.min {S R : List α} (h : IsR c S) (nR : R.Nodup) (hs : ∀ x ∈ R, x ∈ S) (nf : c R ≠ R.length) : ∀ x ∈ S, x ∈ R := fun x hx => by
  apply Classical.byContradiction
  intro n
  refine nf (M.free_of (B := S.erase x) ?_ nR fun y hy => (List.mem_erase_of_ne fun e : y = x => n (e ▸ hy)).mpr (hs y hy))
  have := h.2 x hx
  have := erase_len hx
  omega
end Mat
end P01
namespace P01
section
variable {α : Type} [DecidableEq α]
abbrev inN (ns X : List α) : List α := ns.filter fun x => decide (x ∈ X)
abbrev outN (ns X : List α) : List α := ns.filter fun x => decide (x ∉ X)
def dualC (c : List α → Nat) (ns X : List α) : Nat := (inN ns X).length + c (outN ns X) - c ns
theorem mem_in {ns X : List α} {x : α} : x ∈ inN ns X ↔ x ∈ ns ∧ x ∈ X := by unfold inN; rw [List.mem_filter, decide_eq_true_iff]
theorem mem_out {ns X : List α} {x : α} : x ∈ outN ns X ↔ x ∈ ns ∧ x ∉ X := by unfold outN; rw [List.mem_filter, decide_eq_true_iff]
theorem in_out_len (ns X : List α) : (inN ns X).length + (outN ns X).length = ns.length := by
  induction ns with
  | nil => rfl
  | cons a ns ih =>
    unfold inN outN at *
    by_cases h : a ∈ X
    · rw [List.filter_cons_of_pos (by simpa using h), List.filter_cons_of_neg (by simpa using h), List.length_cons, List.length_cons]
      omega
    · rw [List.filter_cons_of_neg (by simpa using h), List.filter_cons_of_pos (by simpa using h), List.length_cons, List.length_cons]
      omega
variable {c : List α → Nat} (M : Mat c)
include M
theorem dual_le (ns X : List α) : c ns ≤ (inN ns X).length + c (outN ns X) := by
  have h1 := M.app_le (inN ns X) (outN ns X)
  have h2 : c ns ≤ c (inN ns X ++ outN ns X) := M.mono fun x hx => by
    rw [List.mem_append, mem_in, mem_out]
    by_cases h : x ∈ X
    · exact .inl ⟨hx, h⟩
    · exact .inr ⟨hx, h⟩
  omega
theorem dual_eq (ns X : List α) : dualC c ns X + c ns = (inN ns X).length + c (outN ns X) := by
  have := dual_le M ns X
  unfold dualC
  omega
theorem coloops {R : List α} : ∀ {L : List α}, L.Nodup → (∀ t ∈ L, t ∈ R ∧ c (outN R [t]) < c R) → c (outN R L) + L.length = c R
  | [], _, _ => by
    have : outN R ([] : List α) = R := List.filter_eq_self.mpr fun x _ => by simp
    rw [this]; rfl
  | t :: L, n, h => by
    obtain ⟨n1, n2⟩ := List.nodup_cons.mp n
    have ih := coloops n2 fun s hs => h s (List.mem_cons_of_mem _ hs)
    obtain ⟨tR, tl⟩ := h t List.mem_cons_self
    have e1 : c (t :: outN R (t :: L)) = c (outN R L) := M.alike fun x => by
      rw [List.mem_cons, mem_out, mem_out, List.mem_cons, not_or]
      constructor
      · rintro (e | ⟨a, _, b⟩)
        · rw [e]; exact ⟨tR, n1⟩
        · exact ⟨a, b⟩
      · rintro ⟨a, b⟩
        by_cases e : x = t
        · exact .inl e
        · exact .inr ⟨a, e, b⟩
    have e2 : c (t :: outN R [t]) = c R := M.alike fun x => by
      rw [List.mem_cons, mem_out, List.mem_singleton]
      constructor
      · rintro (e | ⟨a, _⟩)
        · rw [e]; exact tR
        · exact a
      · intro a
        by_cases e : x = t
        · exact .inl e
        · exact .inr ⟨a, e⟩
    have ne : c (t :: outN R (t :: L)) ≠ c (outN R (t :: L)) := fun z => by
      have := M.up (V := outN R [t]) (fun x hx => by
        obtain ⟨a, b⟩ := mem_out.mp hx
        exact mem_out.mpr ⟨a, fun z => b (by rw [List.mem_singleton.mp z]; exact List.mem_cons_self)⟩) z
      omega
    have o1 := M.one t (outN R (t :: L))
    have o2 := M.up_le t (outN R (t :: L))
    rw [List.length_cons]
    omega
theorem dual_mat {ns : List α} (nd : ns.Nodup) : Mat (dualC c ns) where
  zero := by
    have e1 : inN ns ([] : List α) = [] := List.filter_eq_nil_iff.mpr fun x _ => by simp
    have e2 : outN ns ([] : List α) = ns := List.filter_eq_self.mpr fun x _ => by simp
    unfold dualC
    rw [e1, e2]
    simp
  mono := fun {X Y} h => by
    have h1 := dual_eq M ns X
    have h2 := dual_eq M ns Y
    have h3 := M.app_le (inN (outN ns X) Y) (outN ns Y)
    have h4 : c (outN ns X) ≤ c (inN (outN ns X) Y ++ outN ns Y) := M.mono fun x hx => by
      obtain ⟨a, b⟩ := mem_out.mp hx
      by_cases q : x ∈ Y
      · exact List.mem_append_left _ (mem_in.mpr ⟨hx, q⟩)
      · exact List.mem_append_right _ (mem_out.mpr ⟨a, q⟩)
    have h5 : (inN ns X).length + (inN (outN ns X) Y).length ≤ (inN ns Y).length := by
      rw [← List.length_append]
      refine nodup_len (List.nodup_append.mpr ⟨nd.sublist List.filter_sublist, (nd.sublist List.filter_sublist).sublist List.filter_sublist, fun a ha b hb e => ?_⟩) fun x hx => ?_
      · exact (mem_out.mp (mem_in.mp hb).1).2 (e ▸ (mem_in.mp ha).2)
      · rcases List.mem_append.mp hx with q | q
        · obtain ⟨a, b⟩ := mem_in.mp q
          exact mem_in.mpr ⟨a, h x b⟩
        · obtain ⟨a, b⟩ := mem_in.mp q
          exact mem_in.mpr ⟨(mem_out.mp a).1, b⟩
    omega
  one := fun t X => by
    have h1 := dual_eq M ns X
    have h2 := dual_eq M ns (t :: X)
    have h3 : (inN ns (t :: X)).length ≤ (inN ns X).length + 1 := filt_one nd t X
    have h4 : c (outN ns (t :: X)) ≤ c (outN ns X) := M.mono fun x hx => by
      obtain ⟨a, b⟩ := mem_out.mp hx
      exact mem_out.mpr ⟨a, fun z => b (List.mem_cons_of_mem _ z)⟩
    omega
  clos := fun X Y h => by
    -- the things of Y that are new
    have hL : ((outN ns X).filter fun x => decide (x ∈ Y)).Nodup := (nd.sublist List.filter_sublist).sublist List.filter_sublist
    have co := coloops M (R := outN ns X) hL fun t ht => by
      obtain ⟨t1, t2⟩ := mem_in.mp ht
      obtain ⟨t3, t4⟩ := mem_out.mp t1
      refine ⟨t1, ?_⟩
      have e := h t t2
      have h1 := dual_eq M ns X
      have h2 := dual_eq M ns (t :: X)
      have h3 : (inN ns X).length < (inN ns (t :: X)).length := filt_more t3 t4
      have h4 : c (outN ns (t :: X)) = c (outN (outN ns X) [t]) := M.alike fun x => by
        rw [mem_out, mem_out, mem_out, List.mem_cons, not_or, List.mem_singleton]
        constructor
        · rintro ⟨a, b, d⟩; exact ⟨⟨a, d⟩, b⟩
        · rintro ⟨⟨a, d⟩, b⟩; exact ⟨a, b, d⟩
      omega
    have h1 := dual_eq M ns X
    have h2 := dual_eq M ns (Y ++ X)
    have e1 : c (outN ns (Y ++ X)) = c (outN (outN ns X) ((outN ns X).filter fun x => decide (x ∈ Y))) := M.alike fun x => by
      rw [mem_out, mem_out, mem_out, List.mem_append, not_or]
      constructor
      · rintro ⟨a, b, d⟩; exact ⟨⟨a, d⟩, fun z => b (mem_in.mp z).2⟩
      · rintro ⟨⟨a, d⟩, b⟩; exact ⟨a, fun z => b (mem_in.mpr ⟨mem_out.mpr ⟨a, d⟩, z⟩), d⟩
    have e2 : (inN ns (Y ++ X)).length = (inN ns X).length + ((outN ns X).filter fun x => decide (x ∈ Y)).length := by
      rw [← List.length_append]
      refine ((List.perm_ext_iff_of_nodup (nd.sublist List.filter_sublist) (List.nodup_append.mpr ⟨nd.sublist List.filter_sublist, hL, fun a ha b hb e => ?_⟩)).mpr fun x => ?_).length_eq
      · exact (mem_out.mp (mem_in.mp hb).1).2 (e ▸ (mem_in.mp ha).2)
      · rw [List.mem_append]
        constructor
        · intro z
          obtain ⟨a, b⟩ := mem_in.mp z
          by_cases q : x ∈ X
          · exact .inl (mem_in.mpr ⟨a, q⟩)
          · exact .inr (mem_in.mpr ⟨mem_out.mpr ⟨a, q⟩, (List.mem_append.mp b).resolve_right q⟩)
        · rintro (z | z)
          · obtain ⟨a, b⟩ := mem_in.mp z
            exact mem_in.mpr ⟨a, List.mem_append_right _ b⟩
          · obtain ⟨a, b⟩ := mem_in.mp z
            exact mem_in.mpr ⟨(mem_out.mp a).1, List.mem_append_left _ b⟩
    omega
theorem dual_dual {ns : List α} (nd : ns.Nodup) {X : List α} (hs : ∀ x ∈ X, x ∈ ns) : dualC (dualC c ns) ns X = c X := by
  have D := dual_mat M nd
  have h1 := dual_eq D ns X
  have h2 := dual_eq M ns (outN ns X)
  have h3 := dual_eq M ns ns
  have e1 : outN ns (outN ns X) = inN ns X := List.filter_congr fun x hx => by
    rw [Bool.eq_iff_iff, decide_eq_true_iff, decide_eq_true_iff, mem_out]
    constructor
    · intro z
      apply Classical.byContradiction
      intro q
      exact z ⟨hx, q⟩
    · rintro z ⟨_, q⟩
      exact q z
  have e2 : inN ns (outN ns X) = outN ns X := List.filter_congr fun x hx => by
    rw [Bool.eq_iff_iff, decide_eq_true_iff, decide_eq_true_iff, mem_out]
    exact ⟨fun z => z.2, fun z => ⟨hx, z⟩⟩
  have e3 : inN ns ns = ns := List.filter_eq_self.mpr fun x hx => decide_eq_true hx
  have e4 : outN ns ns = [] := List.filter_eq_nil_iff.mpr fun x hx => by simpa using hx
  have e5 : c (inN ns X) = c X := M.alike fun x => by
    rw [mem_in]
    exact ⟨fun z => z.2, fun z => ⟨hs x z, z⟩⟩
  have e6 := in_out_len ns X
  rw [e1, e2, e5] at h2
  rw [e3, e4, M.zero] at h3
  omega
end
end P01
namespace P01
section
variable {α : Type} [DecidableEq α] {c : List α → Nat} (M : Mat c) {ns : List α} (nd : ns.Nodup)
include M nd
theorem dual_in {X : List α} (n : X.Nodup) (hs : ∀ x ∈ X, x ∈ ns) : dualC c ns X + c ns = X.length + c (outN ns X) := by
  rw [dual_eq M ns X, (Mat.pick_perm nd n hs).length_eq]
end
end P01
namespace P01
section
variable {α : Type} [DecidableEq α] {c : List α → Nat} (M : Mat c) {ns : List α} (nd : ns.Nodup)
include M nd
end
end P01
namespace P01
section
variable {α : Type} [DecidableEq α]
def drawC (c : List α → Nat) (L X : List α) : Nat := c (X ++ L) - c L
variable {c : List α → Nat} (M : Mat c)
include M
theorem draw_le (L X : List α) : c L ≤ c (X ++ L) := M.mono fun _ hx => List.mem_append_right _ hx
theorem draw_eq (L X : List α) : drawC c L X + c L = c (X ++ L) := by
  have := draw_le M L X
  unfold drawC
  omega
theorem draw_mat (L : List α) : Mat (drawC c L) where
  zero := by unfold drawC; simp
  mono := fun {X Y} h => by
    have h1 : c (X ++ L) ≤ c (Y ++ L) := M.mono fun x hx => (List.mem_append.mp hx).elim (fun z => List.mem_append_left _ (h x z)) fun z => List.mem_append_right _ z
    unfold drawC
    omega
  one := fun t X => by
    have h1 : c (t :: X ++ L) ≤ c (X ++ L) + 1 := M.one t (X ++ L)
    unfold drawC
    omega
  clos := fun X Y h => by
    have h2 : c (Y ++ (X ++ L)) = c (X ++ L) := M.clos (X ++ L) Y fun t ht => by
      have e := h t ht
      have h1 := draw_eq M L X
      have h2 := draw_eq M L (t :: X)
      have : c (t :: (X ++ L)) = c (t :: X ++ L) := rfl
      omega
    unfold drawC
    rw [List.append_assoc, h2]
theorem out_app (ns L K : List α) : outN (outN ns L) K = outN ns (L ++ K) := by
  unfold outN
  rw [List.filter_filter]
  refine List.filter_congr fun x _ => ?_
  by_cases h1 : x ∈ L <;> by_cases h2 : x ∈ K <;> simp [h1, h2]
theorem dual_without {ns : List α} (nd : ns.Nodup) {L X : List α} (nL : L.Nodup) (nX : X.Nodup) (sL : ∀ x ∈ L, x ∈ ns) (sX : ∀ x ∈ X, x ∈ ns ∧ x ∉ L) : dualC c (outN ns L) X = drawC (dualC c ns) L X := by
  have D := dual_mat M nd
  have nXL : (X ++ L).Nodup := List.nodup_append.mpr ⟨nX, nL, fun a ha b hb e => (sX a ha).2 (e ▸ hb)⟩
  have h1 := dual_in M nd nL sL
  have h2 := dual_in M nd nXL fun x hx => (List.mem_append.mp hx).elim (fun z => (sX x z).1) (sL x)
  have h3 := draw_eq D L X
  have h4 := dual_in M (nd.sublist List.filter_sublist : (outN ns L).Nodup) nX fun x hx => mem_out.mpr (sX x hx)
  have e : c (outN (outN ns L) X) = c (outN ns (X ++ L)) := by
    rw [out_app M]
    exact M.alike fun x => by rw [mem_out, mem_out, List.mem_append, List.mem_append, or_comm]
  rw [List.length_append] at h2
  omega
end
end P01
namespace P01
section
variable {α : Type} [DecidableEq α]
def atK {κ : Type} [DecidableEq κ] (g : α → κ) (v : κ) (X : List α) : List α := X.filter fun x => decide (g x = v)
def abW (w : α → Int) (v : Int) (X : List α) : List α := X.filter fun x => decide (v < w x)
def Cov (w : α → Int) (ns : List α) (vs : List Int) : Prop := ∀ x ∈ ns, w x ∈ vs ∨ ∀ v ∈ vs, v < w x
theorem Cov.tail {w : α → Int} {ns : List α} {v : Int} {vs : List Int} (d : (v :: vs).Pairwise (· > ·)) (h : Cov w ns (v :: vs)) : Cov w ns vs := fun x hx => by
  rcases h x hx with h | h
  · rcases List.mem_cons.mp h with h | h
    · exact .inr fun u hu => by
        have : v > u := (List.pairwise_cons.mp d).1 u hu
        omega
    · exact .inl h
  · exact .inr fun u hu => h u (List.mem_cons_of_mem _ hu)
variable {c : List α → Nat} (M : Mat c)
include M
end
end P01
namespace Dz
open PySem PySem.Spec PyProof.Rows L2 Evl Bf
def F_RankC (cs : List (Str × DF)) : DF := fun ds A _ => ∃ ns src g lot c F fs, ds = [.fam ns src g, tupS lot] ∧ SubN lot ns ∧ src = .ins c fs ∧ (c, F) ∈ cs ∧ fs.lookup ("count_free" : Str) = none ∧ F [src, tupS lot] (fun d => d = .int (rkG g lot : Nat)) (fun _ => False) ∧ A (.int (rkG g lot : Nat))
theorem mono_RankC (cs : List (Str × DF)) : Mono (F_RankC cs) := fun ds A A' Ax Ax' ⟨ns, src, g, lot, c, F, fs, h1, h2, h3, h4, h5, h6, q⟩ ha _ => ⟨ns, src, g, lot, c, F, fs, h1, h2, h3, h4, h5, h6, ha _ q⟩
def F_TuCount (F : DF) : DF := fun ds A _ => ∃ f ns lot, ∃ r : List Str → Nat, ds = [.ins "Turned" [("inner", f)], tupS lot] ∧ famNs f = some ns ∧ ns.length ≤ 24 ∧ lot.length ≤ 24 ∧ (∀ l : List Str, l.Sublist ns → ∀ (A : D → Prop) (Ax : XQ), A (.int (r l : Nat)) → F [f, tupS l] A Ax) ∧ A (.int ((lot.length : Nat) + (r (lessL ns lot) : Nat) - (r ns : Nat)))
def F_DrCount (F : DF) : DF := fun ds A _ => ∃ f ns lot gone, ∃ r : List Str → Nat, ds = [.ins "Drawn" [("inner", f), ("lot", tupS gone)], tupS lot] ∧ famNs f = some ns ∧ lot.length ≤ 24 ∧ gone.length ≤ 24 ∧ (srt (lot ++ gone)).Sublist ns ∧ gone.Sublist ns ∧ (∀ l : List Str, l.Sublist ns → ∀ (A : D → Prop) (Ax : XQ), A (.int (r l : Nat)) → F [f, tupS l] A Ax) ∧ A (.int ((r (srt (lot ++ gone)) : Nat) - (r gone : Nat)))
def F_JoCount (F : DF) : DF := fun ds A _ => ∃ f g ns ms lot, ∃ r q : List Str → Nat, ds = [.ins "Joined" [("first", f), ("second", g)], tupS lot] ∧ famNs f = some ns ∧ famNs g = some ms ∧ lot.length ≤ 24 ∧ (lot.filter fun x => decide (x ∈ ns)).Sublist ns ∧ (lot.filter fun x => decide (x ∈ ms)).Sublist ms ∧ (∀ l : List Str, l.Sublist ns → ∀ (A : D → Prop) (Ax : XQ), A (.int (r l : Nat)) → F [f, tupS l] A Ax) ∧ (∀ l : List Str, l.Sublist ms → ∀ (A : D → Prop) (Ax : XQ), A (.int (q l : Nat)) → F [g, tupS l] A Ax) ∧ A (.int ((r (lot.filter fun x => decide (x ∈ ns)) : Nat) + (q (lot.filter fun x => decide (x ∈ ms)) : Nat)))
def valsL (w : Str → Int) (ks : List Str) : List Int := srtD (dedL (ks.map w))
def heavS (r : List Str → Nat) (ns : List Str) (w : Str → Int) (lot : List Str) (vs : List Int) : Int := (vs.map fun v => ((r (srt (P01.abW w v ns ++ P01.atK w v lot)) : Nat) : Int) - ((r (P01.abW w v ns) : Nat) : Int)).sum
def F_HeCount (F : DF) : DF := fun ds A _ => ∃ f ns ks w lot, ∃ r : List Str → Nat, ds = [.ins "Heaviest" [("inner", f), ("kept", wDic ks w)], tupS lot] ∧ famNs f = some ns ∧ (∀ x ∈ ns, x ∈ ks) ∧ ks.length ≤ 24 ∧ ns.length ≤ 24 ∧ lot.Sublist ns ∧ (∀ v : Int, (srt (P01.abW w v ns ++ P01.atK w v lot)).Sublist ns) ∧ (∀ l : List Str, l.Sublist ns → ∀ (A : D → Prop) (Ax : XQ), A (.int (r l : Nat)) → F [f, tupS l] A Ax) ∧ A (.int (heavS r ns w lot (valsL w ks)))
def F_ReCount (F : DF) : DF := fun ds A _ => ∃ f ns lot ks τ, ∃ r : List Str → Nat, ds = [.ins "Renamed" [("inner", f), ("olds", .dic (dictS ks fun x => .str (τ x)))], tupS lot] ∧ famNs f = some ns ∧ (∀ x ∈ lot, x ∈ ks) ∧ lot.length ≤ 24 ∧ (srt (lot.map τ)).Sublist ns ∧ (∀ l : List Str, l.Sublist ns → ∀ (A : D → Prop) (Ax : XQ), A (.int (r l : Nat)) → F [f, tupS l] A Ax) ∧ A (.int (r (srt (lot.map τ)) : Nat))
def compCs (F : DF) : List (Str × DF) := ([("Short", F_ShCount F), ("Turned", F_TuCount F), ("Drawn", F_DrCount F), ("Joined", F_JoCount F), ("Heaviest", F_HeCount F), ("Renamed", F_ReCount F)] : List (Str × DF)).filter fun p => decide (p.1 ∈ rkS)
def baseCs : List (Str × DF) := (rkX ++ ([("AllFree", F_AFCount), ("Web", F_WCount), ("Listed", F_LiCount)] : List (Str × DF))).filter fun p => decide (p.1 ∈ rkB)
def rkCs (F : Option DF) : List (Str × DF) := baseCs ++ match F with | none => [] | some F => compCs F
def F_RK : Nat → DF
  | 0 => F_RankC (rkCs none)
  | k + 1 => F_RankC (rkCs (some (F_RK k)))
def F_RankN : DF := F_RK rkN
theorem mono_RK : ∀ k, Mono (F_RK k)
  | 0 => mono_RankC _
  | k + 1 => mono_RankC _
theorem rankC_sub {cs cs' : List (Str × DF)} (h : ∀ p ∈ cs, ∃ F', (p.1, F') ∈ cs' ∧ ∀ ds A Ax, p.2 ds A Ax → F' ds A Ax) (ds : List D) (A : D → Prop) (Ax : XQ) (q : F_RankC cs ds A Ax) : F_RankC cs' ds A Ax := by
  obtain ⟨ns, src, g, lot, c, F, fs, h1, h2, h3, h4, h5, h6, h7⟩ := q
  obtain ⟨F', h8, h9⟩ := h _ h4
  exact ⟨ns, src, g, lot, c, F', fs, h1, h2, h3, h8, h5, h9 _ _ _ h6, h7⟩
theorem comp_mono {F G : DF} (h : ∀ ds A Ax, F ds A Ax → G ds A Ax) : ∀ p ∈ compCs F, ∃ F', (p.1, F') ∈ compCs G ∧ ∀ ds A Ax, p.2 ds A Ax → F' ds A Ax := fun p hp => by
  obtain ⟨h1, h2⟩ := List.mem_filter.mp hp
  simp only [List.mem_cons, List.not_mem_nil, or_false] at h1
  rcases h1 with rfl | rfl | rfl | rfl | rfl | rfl
  · exact ⟨F_ShCount G, List.mem_filter.mpr ⟨by simp, h2⟩, fun ds A Ax ⟨f, k, lot, r, a1, a2, a3, a4⟩ => ⟨f, k, lot, r, a1, a2, h _ _ _ a3, a4⟩⟩
  · exact ⟨F_TuCount G, List.mem_filter.mpr ⟨by simp, h2⟩, fun ds A Ax ⟨f, ns, lot, r, a1, a2, a3, a4, a5, a6⟩ => ⟨f, ns, lot, r, a1, a2, a3, a4, fun l hl A Ax z => h _ _ _ (a5 l hl A Ax z), a6⟩⟩
  · exact ⟨F_DrCount G, List.mem_filter.mpr ⟨by simp, h2⟩, fun ds A Ax ⟨f, ns, lot, gone, r, a1, a2, a3, a4, a5, a6, a7, a8⟩ => ⟨f, ns, lot, gone, r, a1, a2, a3, a4, a5, a6, fun l hl A Ax z => h _ _ _ (a7 l hl A Ax z), a8⟩⟩
  · exact ⟨F_JoCount G, List.mem_filter.mpr ⟨by simp, h2⟩, fun ds A Ax ⟨f, g, ns, ms, lot, r, q, a1, a2, a3, a4, a5, a6, a7, a8, a9⟩ => ⟨f, g, ns, ms, lot, r, q, a1, a2, a3, a4, a5, a6, fun l hl A Ax z => h _ _ _ (a7 l hl A Ax z), fun l hl A Ax z => h _ _ _ (a8 l hl A Ax z), a9⟩⟩
  · exact ⟨F_HeCount G, List.mem_filter.mpr ⟨by simp, h2⟩, fun ds A Ax ⟨f, ns, ks, w, lot, r, a1, a2, a3, a4, a5, a6, a7, a8, a9⟩ => ⟨f, ns, ks, w, lot, r, a1, a2, a3, a4, a5, a6, a7, fun l hl A Ax z => h _ _ _ (a8 l hl A Ax z), a9⟩⟩
  · exact ⟨F_ReCount G, List.mem_filter.mpr ⟨by simp, h2⟩, fun ds A Ax ⟨f, ns, lot, ks, τ, r, a1, a2, a3, a4, a5, a6, a7⟩ => ⟨f, ns, lot, ks, τ, r, a1, a2, a3, a4, a5, fun l hl A Ax z => h _ _ _ (a6 l hl A Ax z), a7⟩⟩
theorem rk_up : ∀ (k : Nat) (ds : List D) (A : D → Prop) (Ax : XQ), F_RK k ds A Ax → F_RK (k + 1) ds A Ax
  | 0, ds, A, Ax, q => rankC_sub (fun p hp => ⟨p.2, by
      have hp : p ∈ baseCs := by simpa [rkCs] using hp
      exact List.mem_append_left _ hp, fun _ _ _ z => z⟩) ds A Ax q
  | k + 1, ds, A, Ax, q => rankC_sub (fun p hp => by
      rcases List.mem_append.mp hp with hp | hp
      · exact ⟨p.2, List.mem_append_left _ hp, fun _ _ _ z => z⟩
      · obtain ⟨F', h1, h2⟩ := comp_mono (rk_up k) p hp
        exact ⟨F', List.mem_append_right _ h1, h2⟩) ds A Ax q
theorem rk_le {k : Nat} : ∀ {j : Nat}, k ≤ j → ∀ (ds : List D) (A : D → Prop) (Ax : XQ), F_RK k ds A Ax → F_RK j ds A Ax
  | 0, h, ds, A, Ax, q => by
    have : k = 0 := by omega
    exact this ▸ q
  | j + 1, h, ds, A, Ax, q => by
    by_cases e : k = j + 1
    · exact e ▸ q
    · exact rk_up j ds A Ax (rk_le (by omega) ds A Ax q)
theorem eqN (neg : Bool) (m n : Nat) : dEq neg (.int m) (.int n) = some (.bl (neg != decide (m = n))) := by
  rw [eq_int, show decide ((m : Int) = (n : Int)) = decide (m = n) from decide_eq_decide.mpr (by omega)]
structure FamK (k : Nat) (d : D) (ns : List Str) (r : List Str → Nat) : Prop where
  is : ∃ s g, d = .fam ns s g
  rk : ∀ lot : List Str, lot.Sublist ns → ∀ (A : D → Prop) (Ax : XQ), A (.int (r lot : Nat)) → F_RK k [d, tupS lot] A Ax
  l20 : ns.length ≤ 20
  nd : ns.Nodup
  so : srt ns = ns
  ok : ∀ x ∈ ns, PyData.strOk x = true
theorem FamK.up {k j : Nat} {d : D} {ns : List Str} {r : List Str → Nat} (h : FamK k d ns r) (l : k ≤ j) : FamK j d ns r := { h with rk := fun lot hs A Ax q => rk_le l _ _ _ (h.rk lot hs A Ax q) }
theorem FamK.congr {k : Nat} {d : D} {ns : List Str} {r r' : List Str → Nat} (h : FamK k d ns r) (e : ∀ X : List Str, X.Sublist ns → r X = r' X) : FamK k d ns r' := { h with rk := fun lot hs A Ax q => h.rk lot hs A Ax (by rw [e lot hs]; exact q) }
abbrev FamD (d : D) (ns : List Str) (r : List Str → Nat) : Prop := FamK rkN d ns r
theorem FamK.fam {k : Nat} {d : D} {ns : List Str} {r : List Str → Nat} (h : FamK k d ns r) : (famNs d).isSome = true := by obtain ⟨s, g, rfl⟩ := h.is; rfl
theorem FamK.names {k : Nat} {d : D} {ns : List Str} {r : List Str → Nat} (h : FamK k d ns r) : famNs d = some ns := by obtain ⟨s, g, rfl⟩ := h.is; rfl
structure LotOk (th xs : List Str) : Prop where
  nd : xs.Nodup
  sub : ∀ x ∈ xs, x ∈ th
theorem nodup_len : ∀ {b c : List Str}, b.Nodup → (∀ x ∈ b, x ∈ c) → b.length ≤ c.length := fun h1 h2 => P01.nodup_len h1 h2
theorem lot_len {th xs : List Str} (h : LotOk th xs) : xs.length ≤ th.length := nodup_len h.nd h.sub
theorem srt_filter {th xs : List Str} (so : srt th = th) (nd : xs.Nodup) (nt : th.Nodup) (h : ∀ x ∈ xs, x ∈ th) : srt xs = th.filter fun x => decide (x ∈ xs) := by
  have pw : (th.filter fun x => decide (x ∈ xs)).Pairwise (fun a b => leS a b = true) := by
    have := srt_pw th
    rw [so] at this
    exact List.Pairwise.filter _ this
  have pm : (srt xs).Perm (th.filter fun x => decide (x ∈ xs)) := by
    refine (srt_perm xs).trans ?_
    refine (List.perm_ext_iff_of_nodup nd (nd_filter _ nt)).mpr fun x => ?_
    rw [List.mem_filter]
    exact ⟨fun hx => ⟨h x hx, decide_eq_true hx⟩, fun hx => of_decide_eq_true hx.2⟩
  exact pm.eq_of_pairwise (fun a b _ _ h1 h2 => leS_antisymm h1 h2) (srt_pw xs) pw
theorem srt_sub {th xs : List Str} (so : srt th = th) (nd : xs.Nodup) (nt : th.Nodup) (h : ∀ x ∈ xs, x ∈ th) : (srt xs).Sublist th := by
  rw [srt_filter so nd nt h]
  exact List.filter_sublist
theorem srt_of_sub {ns l : List Str} (so : srt ns = ns) (h : l.Sublist ns) : srt l = l := by
  have pw : l.Pairwise (fun a b => leS a b = true) := by
    have := srt_pw ns
    rw [so] at this
    exact this.sublist h
  exact (srt_perm l).eq_of_pairwise (fun a b _ _ h1 h2 => leS_antisymm h1 h2) (srt_pw l) pw
theorem FamK.srt_sub {kk : Nat} {d : D} {ns : List Str} {r : List Str → Nat} (f : FamK kk d ns r) {xs : List Str} (h : LotOk ns xs) : (srt xs).Sublist ns := Dz.srt_sub f.so h.nd f.nd h.sub
def r_FThings : DS :=
  (sRet (xB dList (aCons (xNames (xVar 0)) aNil)))
def F_FThings : DF := fun ds A _ => ∃ d ns r, ds = [d] ∧ FamD d ns r ∧ A (lstS ns)
theorem n_FThings (ds : List D) (A : D → Prop) (Ax : XQ) (h : F_FThings ds A Ax) : fnD 1 1 1 r_FThings ds A Ax := by
  obtain ⟨d, ns, r, rfl, f, q⟩ := h
  k_dat r_FThings "zS0"
  exact ⟨ns, f.names, q⟩
def r_FLen : DS :=
  (sRet (xB dLen (aCons (xNames (xVar 0)) aNil)))
theorem n_FLen (ds : List D) (A : D → Prop) (Ax : XQ) (h : F_FLen ds A Ax) : fnD 0 1 1 r_FLen ds A Ax := by
  obtain ⟨ns, s, g, rfl, q⟩ := h
  k_dat r_FLen "zS0"
  rw [List.length_map]
  exact q
def r_FHas : DS :=
  (sRet (xOp2 (dIn false) (xVar 1) (xNames (xVar 0))))
theorem n_FHas (ds : List D) (A : D → Prop) (Ax : XQ) (h : F_FHas ds A Ax) : fnD 0 2 2 r_FHas ds A Ax := by
  obtain ⟨ns, s, g, x, rfl, q⟩ := h
  k_dat r_FHas "zS0"
  exact q
def r_FRank : DS :=
  (sRet (xMethF F_RankN (xVar 0) (aCons (xFn F_NLot (aCons (xNames (xVar 0)) (aCons (xVar 1) aNil))) aNil)))
def F_FRank : DF := fun ds A _ => ∃ d ns r xs, ds = [d, lstS xs] ∧ FamD d ns r ∧ LotOk ns xs ∧ A (.int (r (srt xs) : Nat))
theorem n_FRank (ds : List D) (A : D → Prop) (Ax : XQ) (h : F_FRank ds A Ax) : fnD 0 2 2 r_FRank ds A Ax := by
  obtain ⟨d, ns, r, xs, rfl, f, hx, q⟩ := h
  k_dat r_FRank "zS0"
  have := lot_len hx
  have := f.l20
  refine ⟨f.fam, ns, f.names, tupS ns, ns, xs, rfl, .inr rfl, by omega, ?_⟩
  rw [fw_none.mpr ⟨hx.nd, hx.sub⟩]
  exact f.rk _ (f.srt_sub hx) _ _ q
def r_FStuck : DS :=
  (sRet (xLc (iTupD (xNames (xVar 0))) [1] (gN 1) (tB' (xOp2 (dEq false) (xMethF F_RankN (xVar 0) (aCons (xTup (aCons (xVar 1) aNil)) aNil)) (xC (.int 0)))) (xVar 1)))
def stuckL (r : List Str → Nat) (ns : List Str) : List Str := ns.filter fun x => decide (r [x] = 0)
def F_FStuck : DF := fun ds A _ => ∃ d ns r, ds = [d] ∧ FamD d ns r ∧ A (lstS (stuckL r ns))
theorem n_FStuck (ds : List D) (A : D → Prop) (Ax : XQ) (h : F_FStuck ds A Ax) : fnD 1 2 1 r_FStuck ds A Ax := by
  obtain ⟨d, ns, r, rfl, f, q⟩ := h
  k_dat r_FStuck "zS0"
  have := f.l20
  refine ⟨ns, f.names, by rw [List.length_map]; show _ ≤ 100000; omega, ?_⟩
  refine lc_filT D.str (fun x => decide (r [x] = 0)) D.str ns (fun x hx K k => ?_) q
  walk_at "zS0"
  refine ⟨f.fam, by decide, f.rk [x] (List.singleton_sublist.mpr hx) _ _ ⟨_, eqN false _ 0, _, rfl, ?_⟩⟩
  rw [Bool.false_bne]
  exact ite_k k
end Dz
namespace P01
section
variable {α : Type} [DecidableEq α] {c : List α → Nat} (M : Mat c)
include M
end
end P01
namespace P01
end P01
namespace P01
section
variable {α : Type} [DecidableEq α]
variable {c : List α → Nat} (M : Mat c)
include M
omit M in
theorem in_same_len {ns W V : List α} (h : ∀ x ∈ ns, x ∈ W ↔ x ∈ V) : inN ns W = inN ns V := List.filter_congr fun x hx => by
  rw [Bool.eq_iff_iff]
  simp [h x hx]
end
end P01
namespace P01
section
variable {α : Type} [DecidableEq α]
structure JL (c : List α → Nat) (ns : List α) (e : α) (A B : List α) : Prop where
  nA : A.Nodup
  nB : B.Nodup
  sA : ∀ x ∈ A, x ∈ ns ∧ x ≠ e
  sB : ∀ x ∈ B, x ∈ ns ∧ x ≠ e
  dis : ∀ x ∈ A, x ∉ B
  fA : c A = A.length
  fB : c B = B.length
  sp : ∀ z ∈ ns, c (z :: A) = A.length ↔ c (z :: B) = B.length
  me : c (e :: A) = A.length
structure Pair2 (c : List α → Nat) (S A B : List α) : Prop where
  nA : A.Nodup
  nB : B.Nodup
  sA : ∀ x ∈ A, x ∈ S
  sB : ∀ x ∈ B, x ∈ S
  dis : ∀ x ∈ A, x ∉ B
  fA : c A = A.length
  fB : c B = B.length
structure Max2 (c : List α → Nat) (S A B : List α) : Prop extends Pair2 c S A B where
  cl : ∀ t ∈ S, t ∉ A → t ∉ B → ∃ R : List α, R.Nodup ∧ t ∈ R ∧ (∀ x ∈ R, x ∈ A ∨ x ∈ B ∨ x = t) ∧ R.length = 2 * c R + 1
variable {c : List α → Nat} (M : Mat c)
include M
end
end P01
namespace Dz
open PySem PySem.Spec PyProof.Rows L2 Evl Bf
abbrev Lots := List Str × List Str
def atL (L : Lots) (k : Nat) : List Str := if k = 0 then L.1 else L.2
def setL (L : Lots) (k : Nat) (X : List Str) : Lots := if k = 0 then (X, L.2) else (L.1, X)
theorem at_ne {L : Lots} {k s : Nat} {X : List Str} (hk : k < 2) (hs : s < 2) (h : s ≠ k) : atL (setL L k X) s = atL L s := by
  unfold atL setL
  by_cases a : k = 0
  · rw [if_pos a, if_neg (by omega), if_neg (by omega)]
  · rw [if_neg a]
    by_cases b : s = 0
    · rw [if_pos b, if_pos b]
    · omega
structure GPS where
  ks : List Str
  cm : Str → Option (Str × Nat)
structure GoodL (c : List Str → Nat) (L : Lots) : Prop where
  nd : ∀ s, (atL L s).Nodup
  so : ∀ s, srt (atL L s) = atL L s
  fr : ∀ s, c (atL L s) = (atL L s).length
  di : ∀ x, x ∈ L.1 → x ∉ L.2
theorem GoodL.one {c : List Str → Nat} {L : Lots} (g : GoodL c L) {x : Str} {s k : Nat} (hs : s < 2) (hk : k < 2) (h1 : x ∈ atL L s) (h2 : x ∈ atL L k) : s = k := by
  unfold atL at h1 h2
  by_cases a : s = 0 <;> by_cases b : k = 0
  · omega
  · rw [if_pos a] at h1
    rw [if_neg b] at h2
    exact absurd h2 (g.di x h1)
  · rw [if_neg a] at h1
    rw [if_pos b] at h2
    exact absurd h1 (g.di x h2)
  · omega
inductive Ch (c : List Str → Nat) (L : Lots) (t : Str) (cm : Str → Option (Str × Nat)) : List Str → Prop
  | base : cm t = none → Ch c L t cm [t]
  | step {x b : Str} {V : List Str} {s : Nat} : Ch c L t cm (b :: V) → cm x = some (b, s) → s < 2 → x ∈ atL L s → b ∉ atL L s → x ∉ b :: V → c (b :: (atL L s).erase x) = (atL L s).length → c (b :: atL L s) = (atL L s).length →
      (∀ a ∈ V, a ∉ atL L s → c (a :: (atL L s).erase x) ≠ (atL L s).length) → Ch c L t cm (x :: b :: V)
def prs (L : Lots) (s : Nat) : List Str → List (Str × Str)
  | x :: b :: V => prs L s (b :: V) ++ (if x ∈ atL L s then [(b, x)] else [])
  | _ => []
section
variable {c : List Str → Nat} {L : Lots} {t : Str} {cm : Str → Option (Str × Nat)}
theorem Ch.ne {V : List Str} (h : Ch c L t cm V) : ∃ x W, V = x :: W := by cases h <;> exact ⟨_, _, rfl⟩
theorem Ch.nd {V : List Str} (h : Ch c L t cm V) : V.Nodup := by
  induction h with
  | base _ => exact List.nodup_cons.mpr ⟨List.not_mem_nil, List.nodup_nil⟩
  | step _ _ _ _ _ nx _ _ _ ih => exact List.nodup_cons.mpr ⟨nx, ih⟩
theorem Ch.sub {V : List Str} (h : Ch c L t cm V) : ∀ z ∈ V, z = t ∨ ∃ s, s < 2 ∧ z ∈ atL L s := by
  induction h with
  | base _ => exact fun z hz => .inl (List.mem_singleton.mp hz)
  | step _ _ hs xs _ _ _ _ _ ih =>
    intro z hz
    rcases List.mem_cons.mp hz with rfl | hz
    · exact .inr ⟨_, hs, xs⟩
    · exact ih z hz
theorem Ch.mem {V : List Str} (h : Ch c L t cm V) : t ∈ V := by
  induction h with
  | base _ => exact List.mem_singleton.mpr rfl
  | step _ _ _ _ _ _ _ _ _ ih => exact List.mem_cons_of_mem _ ih
theorem Ch.fst {V : List Str} (h : Ch c L t cm V) : ∀ {x W}, V = x :: W → ∀ z ∈ W, ∃ s, s < 2 ∧ z ∈ (prs L s V).map (·.1) := by
  induction h with
  | base _ =>
    intro x W e z hz
    cases e
    cases hz
  | @step x b V s hV _ hs xs _ _ _ _ _ ih =>
    intro x' W e z hz
    cases e
    rcases List.mem_cons.mp hz with rfl | hz
    · refine ⟨s, hs, List.mem_map.mpr ⟨(z, x), ?_, rfl⟩⟩
      show (z, x) ∈ prs L s (z :: V) ++ (if x ∈ atL L s then [(z, x)] else [])
      rw [if_pos xs]
      exact List.mem_append_right _ (List.mem_singleton.mpr rfl)
    · obtain ⟨s', h1, h2⟩ := ih rfl z hz
      obtain ⟨p, h3, h4⟩ := List.mem_map.mp h2
      exact ⟨s', h1, List.mem_map.mpr ⟨p, List.mem_append_left _ h3, h4⟩⟩
end
end Dz
namespace Dz
open PySem PySem.Spec PyProof.Rows L2 Evl Bf
section
variable {c : List Str → Nat} {L : Lots} {t : Str}
structure PInv (c : List Str → Nat) (L : Lots) (t : Str) (i : Nat) (σ : GPS) : Prop where
  nd : σ.ks.Nodup
  sub : ∀ y ∈ σ.ks, y = t ∨ y ∈ L.1 ∨ y ∈ L.2
  hd : σ.ks[0]? = some t
  il : i ≤ σ.ks.length
  c0 : σ.cm t = none
  par : ∀ j y, σ.ks[j]? = some y → 0 < j → ∃ p b s, p < j ∧ σ.ks[p]? = some b ∧ σ.cm y = some (b, s) ∧ s < 2 ∧ y ∈ atL L s ∧ b ∉ atL L s ∧ c (b :: (atL L s).erase y) = (atL L s).length ∧ c (b :: atL L s) = (atL L s).length ∧
    ∀ q a, q < p → σ.ks[q]? = some a → a ∉ atL L s → c (a :: (atL L s).erase y) ≠ (atL L s).length
  done : ∀ q z, q < i → σ.ks[q]? = some z → ∀ k, k < 2 → z ∉ atL L k → c (z :: atL L k) = (atL L k).length ∧ ∀ y ∈ atL L k, c (z :: (atL L k).erase y) = (atL L k).length → y ∈ σ.ks
theorem PInv.start (nt : ∀ s, s < 2 → t ∉ atL L s) : PInv c L t 0 ⟨[t], fun _ => none⟩ where
  nd := List.nodup_cons.mpr ⟨List.not_mem_nil, List.nodup_nil⟩
  sub := fun y hy => .inl (List.mem_singleton.mp hy)
  hd := rfl
  il := Nat.zero_le _
  c0 := rfl
  par := fun j y h l => by
    have := (List.getElem?_eq_some_iff.mp h).1
    have : j < 1 := this
    omega
  done := fun q z h => absurd h (Nat.not_lt_zero q)
theorem PInv.le (g : GoodL c L) {i : Nat} {σ : GPS} (v : PInv c L t i σ) : σ.ks.length ≤ L.1.length + L.2.length + 1 := by
  have := P01.nodup_len v.nd (m := t :: (L.1 ++ L.2)) fun y hy => by
    rw [List.mem_cons, List.mem_append]
    exact v.sub y hy
  rw [List.length_cons, List.length_append] at this
  omega
end
end Dz
namespace Dz
open PySem PySem.Spec PyProof.Rows L2 Evl Bf
section
variable {c : List Str → Nat}
end
end Dz
namespace Dz
open PySem PySem.Spec PyProof.Rows L2 Evl Bf
section
variable {c : List Str → Nat} {ns : List Str} {e : Str}
end
end Dz
namespace Dz
open PySem PySem.Spec PyProof.Rows L2 Evl Bf
section
variable {c : List Str → Nat} {ns : List Str} {e x : Str}
end
end Dz
namespace Bs
open PySem PySem.Spec PyProof.Rows L2
def kp (z : Int × Str) : List (Int ⊕ List Nat) := [Sum.inl z.1, Sum.inr z.2.cps.toList]
def leP (a b : Int × Str) : Bool := !KO.blt (kp b) (kp a)
def srtP (l : List (Int × Str)) : List (Int × Str) := l.mergeSort leP
def shP (i : Nat) : Bool := decide (i ≠ 0)
def PiT (h : Heap) (p : Addr) (z : Int × Str) : Prop := ∃ t1 t2, IsTup h p #[.int z.1 t1, .str z.2 t2]
theorem PiT.key {h : Heap} {p : Addr} {z : Int × Str} (t : PiT h p z) : G.tupKeyC h shP (.ref p) = some (kp z) := by
  obtain ⟨t1, t2, o, ho, hc, n, hd⟩ := t
  have e1 : G.isTupObj h (.ref p) = true := by
    show (match h.get? p with | some o => (match o.cls with | .type n => n == "tuple" | _ => false) | none => false) = true
    rw [ho]
    show (match o.cls with | .type n => n == "tuple" | _ => false) = true
    rw [hc]
    rfl
  unfold G.tupKeyC
  rw [if_pos e1]
  show (match h.get? p with | some o => (match o.data with | .seq xs _ => tupItems shP 0 xs.toList | _ => none) | none => none) = _
  rw [ho]
  show (match o.data with | .seq xs _ => tupItems shP 0 xs.toList | _ => none) = _
  rw [hd]
  rfl
end Bs
namespace Dz
open PySem PySem.Spec PyProof.Rows L2 Evl Bf
def pirE (z : Int × Str) : D := .tup [.int z.1, .str z.2]
def pirD : D → Option (Int × Str)
  | .tup [.int i, .str x] => some (i, x)
  | _ => none
def pirLD : List D → Option (List (Int × Str))
  | [] => some []
  | d :: ds => match pirD d, pirLD ds with
    | some p, some ps => some (p :: ps)
    | _, _ => none
def dSortedP : List D → Option D
  | [.lst ds] => match pirLD ds with
    | some ls => some (.lst ((Bs.srtP ls).map pirE))
    | none => none
  | _ => none
end Dz
local macro_rules | `(tactic| walk_at "zS1") => `(tactic| (simp only [Dz.fnD, Dz.iniD, Dz.startD, Dz.sNil, Dz.sSeq, Dz.sIf, Dz.sRet, Dz.sSet, Dz.sSetO, Dz.sExpr, Dz.sApp, Dz.sPut, Dz.sClr, Dz.sExt, Dz.sIns, Dz.sRaise, Dz.sRaise2, Dz.sAsg, Dz.sFor, Dz.sSetM, Dz.sAppM, Dz.sFld', Dz.xPopAt, Dz.xPop, Dz.xVar, Dz.xC, Dz.xOp1, Dz.xOp2, Dz.xNeg, Dz.xAnd, Dz.xOr, Dz.xNot, Dz.xIf, Dz.xB, Dz.xFn, Dz.xTup, Dz.xLst, Dz.xFld, Dz.xDGet, Dz.xDIn, Dz.xSl, Dz.xChain, Dz.oNone, Dz.oSome, Dz.aNil, Dz.aCons, Dz.tB', Dz.tAnd', Dz.tOr', Dz.tNot', Dz.tYesD, Dz.gN, Dz.gT, Dz.gsN, Dz.gsC, Dz.iLst, Dz.iTupD, Dz.iRg1, Dz.iRg2, Dz.iEnm, Dz.iTxt, List.map_cons, List.map_nil, List.length_cons, List.length_nil, List.replicate, List.replicate_succ, List.replicate_zero, List.cons_append, List.nil_append, List.set_cons_zero, List.set_cons_succ, List.getElem?_cons_zero, List.getElem?_cons_succ, Option.some.injEq, Dz.D.int.injEq, Dz.D.str.injEq, Dz.D.bl.injEq, Dz.D.lst.injEq, Dz.D.tup.injEq, Dz.D.dic.injEq, Dz.D.ins.injEq, exists_eq_left, exists_eq_left', exists_eq_right, exists_eq_right', exists_and_left, and_true, true_and, Nat.reduceAdd, Nat.reduceSub, Nat.reduceLT, Nat.reduceEqDiff, Nat.add_one_sub_one, Nat.sub_zero, if_true, if_false, Bool.false_eq_true, reduceIte, Dz.wipeR, List.cons.injEq, Nat.zero_add, reduceCtorEq, false_and, exists_false, Bool.false_bne, Bool.true_bne, Dz.len_lst, Dz.len_tup, Dz.len_scr, Dz.in_lst, Dz.in_tup, Dz.dKey_str, Dz.dKey_int, and_assoc, Dz.eq_int, Dz.dSub, Dz.dLt, Dz.dLe, Dz.dGt, Dz.dGe, Dz.isNonD, Dz.dIs, Dz.dMin, Dz.dMax, Dz.xMeth, Dz.xMeth0, Dz.xEqO, Dz.xXf, Dz.sTry, Dz.catchD, Dz.offD, Dz.add_int, Dz.dList, Dz.dTuple, Dz.xFlt, Dz.xFltC, Dz.xFltX, Dz.xFltCX, Dz.xX, Dz.sAppP, Dz.sClrP, Dz.sFldP, Dz.sPutP, Dz.pVar, Dz.pIx, Dz.pFld, id, Dz.xDisp, Dz.pairsD, Dz.xNames, Dz.xMethF, Dz.xMeth0F, Dz.aStar, Dz.xTGet, Dz.xTIn, Dz.sPutT, Dz.sRaise0, Dz.sTryM, Dz.catchM, Dz.emEq, Dz.tKey_strs, Dz.famNs, Option.isSome_some, Dz.iSqV, Dz.sForW, Dz.xJoin, Dz.dSortedY, Dz.xRevL, Dz.sDead, Dz.xDead, Dz.xDc, Dz.sPar, Dz.sParO, Dz.dMin2, Dz.dMax2, Dz.dHas, Dz.dLenF, Dz.xSortR, Dz.dXor, Dz.xDcT, Dz.xMk0, Dz.seqOf, Dz.xLc, Dz.xLenSet, Dz.iEnmT, Dz.xDvs, Dz.xSortRD, Dz.sClrD, Dz.sAug, Dz.aStarD, Dz.dSortedP, Dz.sPar3]))
local macro_rules | `(tactic| k_dat $t:term "zS1") => `(tactic| simp only [$t:term, Dz.fnD, Dz.iniD, Dz.startD, Dz.sNil, Dz.sSeq, Dz.sIf, Dz.sRet, Dz.sSet, Dz.sSetO, Dz.sExpr, Dz.sApp, Dz.sPut, Dz.sClr, Dz.sExt, Dz.sIns, Dz.sRaise, Dz.sRaise2, Dz.sAsg, Dz.sFor, Dz.sSetM, Dz.sAppM, Dz.sFld', Dz.xPopAt, Dz.xPop, Dz.xVar, Dz.xC, Dz.xOp1, Dz.xOp2, Dz.xNeg, Dz.xAnd, Dz.xOr, Dz.xNot, Dz.xIf, Dz.xB, Dz.xFn, Dz.xTup, Dz.xLst, Dz.xFld, Dz.xDGet, Dz.xDIn, Dz.xSl, Dz.xChain, Dz.oNone, Dz.oSome, Dz.aNil, Dz.aCons, Dz.tB', Dz.tAnd', Dz.tOr', Dz.tNot', Dz.tYesD, Dz.gN, Dz.gT, Dz.gsN, Dz.gsC, Dz.iLst, Dz.iTupD, Dz.iRg1, Dz.iRg2, Dz.iEnm, Dz.iTxt, List.map_cons, List.map_nil, List.length_cons, List.length_nil, List.replicate, List.replicate_succ, List.replicate_zero, List.cons_append, List.nil_append, List.set_cons_zero, List.set_cons_succ, List.getElem?_cons_zero, List.getElem?_cons_succ, Option.some.injEq, Dz.D.int.injEq, Dz.D.str.injEq, Dz.D.bl.injEq, Dz.D.lst.injEq, Dz.D.tup.injEq, Dz.D.dic.injEq, Dz.D.ins.injEq, exists_eq_left, exists_eq_left', exists_eq_right, exists_eq_right', exists_and_left, and_true, true_and, Nat.reduceAdd, Nat.reduceSub, Nat.reduceLT, Nat.reduceEqDiff, Nat.add_one_sub_one, Nat.sub_zero, if_true, if_false, Bool.false_eq_true, reduceIte, Dz.wipeR, List.cons.injEq, Nat.zero_add, reduceCtorEq, false_and, exists_false, Bool.false_bne, Bool.true_bne, Dz.len_lst, Dz.len_tup, Dz.len_scr, Dz.in_lst, Dz.in_tup, Dz.dKey_str, Dz.dKey_int, and_assoc, Dz.eq_int, Dz.dSub, Dz.dLt, Dz.dLe, Dz.dGt, Dz.dGe, Dz.isNonD, Dz.dIs, Dz.dMin, Dz.dMax, Dz.xMeth, Dz.xMeth0, Dz.xEqO, Dz.xXf, Dz.sTry, Dz.catchD, Dz.offD, Dz.add_int, Dz.dList, Dz.dTuple, Dz.xFlt, Dz.xFltC, Dz.xFltX, Dz.xFltCX, Dz.xX, Dz.sAppP, Dz.sClrP, Dz.sFldP, Dz.sPutP, Dz.pVar, Dz.pIx, Dz.pFld, id, Dz.xDisp, Dz.pairsD, Dz.xNames, Dz.xMethF, Dz.xMeth0F, Dz.aStar, Dz.xTGet, Dz.xTIn, Dz.sPutT, Dz.sRaise0, Dz.sTryM, Dz.catchM, Dz.emEq, Dz.tKey_strs, Dz.famNs, Option.isSome_some, Dz.iSqV, Dz.sForW, Dz.xJoin, Dz.dSortedY, Dz.xRevL, Dz.sDead, Dz.xDead, Dz.xDc, Dz.sPar, Dz.sParO, Dz.dMin2, Dz.dMax2, Dz.dHas, Dz.dLenF, Dz.xSortR, Dz.dXor, Dz.xDcT, Dz.xMk0, Dz.seqOf, Dz.xLc, Dz.xLenSet, Dz.iEnmT, Dz.xDvs, Dz.xSortRD, Dz.sClrD, Dz.sAug, Dz.aStarD, Dz.dSortedP, Dz.sPar3])
namespace Dz
open PySem PySem.Spec PyProof.Rows L2 Evl Bf
end Dz
namespace Dz
open PySem PySem.Spec PyProof.Rows L2 Evl Bf
structure LotsIn (ns : List Str) (ls : List (List Str)) : Prop where
  ne : ls ≠ []
  le : ls.length ≤ 1000
  nd : ∀ l ∈ ls, l.Nodup
  sub : ∀ l ∈ ls, ∀ x ∈ l, x ∈ ns
  apart : (ls.map srt).Nodup
  emp : (∀ l ∈ ls, l ≠ []) ∨ ls = [[]]
  l20 : ns.length ≤ 20
  ok : ∀ x ∈ ns, PyData.strOk x = true
theorem LotsIn.len {ns : List Str} {ls : List (List Str)} (h : LotsIn ns ls) {l : List Str} (hl : l ∈ ls) : l.length ≤ 20 := Nat.le_trans (nodup_len (h.nd l hl) (h.sub l hl)) h.l20
theorem ok_tupS {xs : List Str} (h : ∀ x ∈ xs, PyData.strOk x = true) : (tupS xs).okE 1 = true := ok_tup (ok_strs h)
theorem tupS_inj {a b : List Str} (h : tupS a = tupS b) : a = b := by
  have : a.map D.str = b.map D.str := by injection h
  exact map_inj (fun x y e => by injection e) _ _ this
end Dz
namespace Dz
open PySem PySem.Spec PyProof.Rows L2 Evl Bf
def subs : List Str → List (List Str)
  | [] => [[]]
  | x :: xs => subs xs ++ (subs xs).map (x :: ·)
theorem mem_subs : ∀ {xs lot : List Str}, lot.Sublist xs → lot ∈ subs xs
  | [], lot, h => by rw [List.sublist_nil.mp h]; exact List.mem_cons_self
  | x :: xs, lot, h => by
    cases h with
    | cons _ h => exact List.mem_append_left _ (mem_subs h)
    | cons_cons _ h => exact List.mem_append_right _ (List.mem_map.mpr ⟨_, mem_subs h, rfl⟩)
end Dz
namespace Dz
open PySem PySem.Spec PyProof.Rows L2 Evl Bf
def r_TiesF : DS :=
  (sRet (xFn F_FInit (aCons (xB dSorted (aCons (xB dListD (aCons (xFld "Web" "ending" (xVar 0)) aNil)) aNil)) (aCons (xVar 0) aNil))))
def F_TiesF : DF := fun ds A _ => ∃ ps ns a b, ds = [webD ps ns a b] ∧ WebOk ps ns a b ∧ srt ns = ns ∧ ns.length ≤ 20 ∧ (∀ x ∈ ns, PyData.strOk x = true) ∧ ∀ d, FamK 0 d ns (fun X => P01.cnt ps (wm a b X)) → A d
theorem n_TiesF (ds : List D) (A : D → Prop) (Ax : XQ) (h : F_TiesF ds A Ax) : fnD 0 1 1 r_TiesF ds A Ax := by
  obtain ⟨ps, ns, a, b, rfl, ok, so, l20, oks, q⟩ := h
  k_dat r_TiesF "zS3"
  obtain ⟨g, hg⟩ := rk_ex (subs ns) fun X => P01.cnt ps (wm a b X)
  refine ⟨_, rfl, _, dlistS ns _, _, sorted_lst (by omega), ns, webD ps ns a b, lstS (srt ns), g, by rw [so]; rfl, .inl (by rw [so]), Nat.le_trans l20 (by decide), rfl, q _ ⟨⟨_, _, rfl⟩, fun lot hs A Ax q => ?_, l20, ok.nn, so, oks⟩⟩
  have e := hg lot (mem_subs hs)
  exact ⟨ns, webD ps ns a b, g, lot, "Web", F_WCount, _, rfl, ⟨hs, .inl (by omega)⟩, rfl, List.mem_append_left _ (List.mem_filter.mpr ⟨by simp, show decide (("Web" : Str) ∈ rkB) = true by decide⟩), rfl, ⟨ps, ns, a, b, lot, rfl, ok, fun x hx => hs.subset hx, by have := hs.length_le; omega, by rw [e]⟩, by rw [e]; exact q⟩
end Dz
namespace Dz
open PySem PySem.Spec PyProof.Rows L2 Evl Bf
theorem rng_eq (n : Nat) : rng 0 (n : Int) = (List.range n).map fun i => D.int (0 + (i : Nat)) := by
  unfold rng
  rw [show ((n : Int) - 0).toNat = n by omega]
theorem perm_ers {α : Type} : ∀ {l : List α} {k : Nat} (h : k < l.length), l.Perm (l[k] :: l.eraseIdx k)
  | x :: l, 0, _ => .refl _
  | x :: l, k + 1, h => by
    rw [List.eraseIdx_cons_succ, List.getElem_cons_succ]
    exact .trans (.cons x (perm_ers (by simpa using h))) (.swap _ _ _)
theorem perm_back {α : Type} {f : α → D} (g : D → α) (hg : ∀ a, g (f a) = a) {ys : List D} {xs : List α} (h : ys.Perm (xs.map f)) : ∃ zs : List α, ys = zs.map f ∧ zs.Perm xs := by
  refine ⟨ys.map g, ?_, ?_⟩
  · rw [List.map_map]
    have : ∀ y ∈ ys, (f ∘ g) y = y := fun y hy => by
      obtain ⟨a, _, rfl⟩ := List.mem_map.mp (h.mem_iff.mp hy)
      show f (g (f a)) = f a
      rw [hg]
    exact (List.map_congr_left this).symm ▸ (List.map_id ys).symm
  · have := h.map g
    rw [List.map_map, show g ∘ f = id from funext hg, List.map_id] at this
    exact this
section
variable {ρ : Ro} {vs : List Nat} {g : DG} {t : DT} {e : DX} {Q : List D → Prop}
theorem lc_drawn {α β : Type} (c : α → D) (f : β → D) (R : β → Prop) (xs : List α) (h : ∀ x ∈ xs, ∀ K : D → Prop, (∀ y, R y → K (f y)) → g (c x) (wipeR ρ vs) fun ρ' => e ρ' K fun _ => False) (q : ∀ ys : List β, ys.length = xs.length → (∀ y ∈ ys, R y) → Q (ys.map f)) : lcL ρ vs g tYesD e (xs.map c) [] Q := by
  have key : ∀ (xs : List α) (acc : List β), (∀ x ∈ xs, ∀ K : D → Prop, (∀ y, R y → K (f y)) → g (c x) (wipeR ρ vs) fun ρ' => e ρ' K fun _ => False) → (∀ ys : List β, ys.length = xs.length → (∀ y ∈ ys, R y) → Q ((acc ++ ys).map f)) → lcL ρ vs g tYesD e (xs.map c) (acc.map f) Q := by
    intro xs
    induction xs with
    | nil => intro acc _ q; have := q [] rfl (fun y hy => absurd hy List.not_mem_nil); rw [List.append_nil] at this; exact this
    | cons x xs ih =>
      intro acc h q
      have := h x List.mem_cons_self (fun y => lcL ρ vs g tYesD e (xs.map c) (acc.map f ++ [y]) Q) (fun y hy => by
        have := ih (acc ++ [y]) (fun z hz => h z (List.mem_cons_of_mem _ hz)) (fun ys hl hp => by
          have := q (y :: ys) (by rw [List.length_cons, List.length_cons, hl]) (fun z hz => (List.mem_cons.mp hz).elim (fun e => e ▸ hy) (hp z))
          rw [List.append_assoc]
          exact this)
        rw [List.map_append] at this
        exact this)
      show g (c x) (wipeR ρ vs) fun ρ' => tYesD ρ' (fun b => if b = true then e ρ' (fun y => lcL ρ vs g tYesD e (xs.map c) (acc.map f ++ [y]) Q) (fun _ => False) else lcL ρ vs g tYesD e (xs.map c) (acc.map f) Q) (fun _ => False)
      simpa [tYesD] using this
  exact key xs [] h q
theorem lc_some {α : Type} (c : α → D) (xs : List α) (h : ∀ x ∈ xs, ∀ (K : D → Prop) (N : Prop), K (c x) → N → g (c x) (wipeR ρ vs) fun ρ' => t ρ' (fun b => if b = true then e ρ' K (fun _ => False) else N) fun _ => False) (q : ∀ ys : List α, ys.Sublist xs → Q (ys.map c)) : lcL ρ vs g t e (xs.map c) [] Q := by
  have key : ∀ (xs : List α) (acc : List α), (∀ x ∈ xs, ∀ (K : D → Prop) (N : Prop), K (c x) → N → g (c x) (wipeR ρ vs) fun ρ' => t ρ' (fun b => if b = true then e ρ' K (fun _ => False) else N) fun _ => False) → (∀ ys : List α, ys.Sublist xs → Q ((acc ++ ys).map c)) → lcL ρ vs g t e (xs.map c) (acc.map c) Q := by
    intro xs
    induction xs with
    | nil => intro acc _ q; have := q [] (.refl _); rw [List.append_nil] at this; exact this
    | cons x xs ih =>
      intro acc h q
      refine h x List.mem_cons_self (fun y => lcL ρ vs g t e (xs.map c) (acc.map c ++ [y]) Q) _ ?_ ?_
      · have := ih (acc ++ [x]) (fun z hz => h z (List.mem_cons_of_mem _ hz)) (fun ys hs => by
          have := q (x :: ys) (hs.cons_cons x)
          rw [List.append_assoc]
          exact this)
        rw [List.map_append] at this
        exact this
      · exact ih acc (fun z hz => h z (List.mem_cons_of_mem _ hz)) fun ys hs => q ys (hs.cons x)
  exact key xs [] h q
end
def F_LDraw : DF := fun ds A _ => ∃ m : Int, ds = [.well 0, .int m] ∧ 0 < m ∧ m < 1073741824 ∧ ∀ k : Nat, (k : Int) < m → A (.int k)
def F_LSource : DF := fun ds A _ => ∃ n : Int, ds = [.int n] ∧ A (.well 0)
def r_LPick : DS :=
  (sRet (xOp2 dIx (xVar 1) (xFn F_LDraw (aCons (xVar 0) (aCons (xB dLen (aCons (xVar 1) aNil)) aNil)))))
def F_LPick : DF := fun ds A _ => ∃ d, ds = [.well 0, d] ∧ ((∃ xs, seqOf d = some xs ∧ xs ≠ [] ∧ xs.length ≤ 10000 ∧ ∀ x ∈ xs, A x) ∨ (d = .str abc ∧ ∀ c ∈ abc.cps.toList, A (.str (sign c))))
theorem n_LPick (ds : List D) (A : D → Prop) (Ax : XQ) (h : F_LPick ds A Ax) : fnD 0 2 2 r_LPick ds A Ax := by
  obtain ⟨d, rfl, h⟩ := h
  rcases h with ⟨xs, hd, ne, hl, q⟩ | ⟨rfl, q⟩
  · have e2 : dLen [d] = some (.int xs.length) := by cases d <;> cases hd <;> rfl
    have h0 : 0 < xs.length := List.length_pos_iff.mpr ne
    simp only [r_LPick, fnD, startD, sRet, xOp2, xVar, xFn, xB, aCons, aNil, List.replicate, List.map_cons, List.map_nil, List.cons_append, List.nil_append, List.getElem?_cons_zero, List.getElem?_cons_succ, Option.some.injEq, exists_eq_left', List.length_cons, List.length_nil, Nat.reduceSub, Nat.sub_self, Nat.zero_add, Nat.reduceAdd]
    refine ⟨trivial, _, e2, _, rfl, by omega, by omega, fun k hk => ?_⟩
    have hk2 : k < xs.length := by omega
    refine ⟨xs[k], ?_, q _ (List.getElem_mem hk2)⟩
    have : ∀ d, seqOf d = some xs → dIx d (.int (k : Nat)) = some xs[k] := fun d hd => by
      cases d <;> cases hd
      · exact ix_lst (List.getElem?_eq_getElem hk2)
      · exact ix_tup' (List.getElem?_eq_getElem hk2)
    exact this d hd
  · k_dat r_LPick "zS0"
    have e2 : dLen [.str abc] = some (.int 26) := len_str (z := abc) (by decide +kernel)
    refine ⟨_, e2, 26, rfl, by decide, by decide, fun k hk => ?_⟩
    have hk' : k < abc.cps.toList.length := by rw [abc_len]; omega
    exact ⟨_, ix_str' (List.getElem?_eq_getElem hk') (by decide +kernel), q _ (List.getElem_mem hk')⟩
def r_LShuf : DS :=
  (sSeq (sParO 2 3 (xB dList (aCons (xVar 1) aNil)) (xLst aNil))
    (sSeq (sFor (iRg1 (xB dLen (aCons (xVar 1) aNil))) (gN 4)
    (sAppM 3 (xPopAt 2 (xFn F_LDraw (aCons (xVar 0) (aCons (xB dLen (aCons (xVar 2) aNil)) aNil))))))
    (sRet (xVar 3))))
def F_LShuf : DF := fun ds A _ => ∃ d xs, ds = [.well 0, d] ∧ seqOf d = some xs ∧ xs.length ≤ 10000 ∧ ∀ ys : List D, ys.Perm xs → A (.lst ys)
theorem n_LShuf (ds : List D) (A : D → Prop) (Ax : XQ) (h : F_LShuf ds A Ax) : fnD 1 5 2 r_LShuf ds A Ax := by
  obtain ⟨dd, xs, rfl, hd, hl, q⟩ := h
  have e1 : dList [dd] = some (.lst xs) := by cases dd <;> cases hd <;> rfl
  have e2 : dLen [dd] = some (.int xs.length) := by cases dd <;> cases hd <;> rfl
  k_dat r_LShuf "zS0"
  refine ⟨_, e1, (by decide : 0 ≤ 100000), _, e2, _, rfl, by omega, by omega, ?_⟩
  refine for_range 0 xs.length (fun i ρ => ∃ rest found a, ρ = [some (.well 0), some dd, some (.lst rest), some (.lst found), a] ∧ (rest ++ found).Perm xs ∧ rest.length + i = xs.length) ⟨xs, [], _, rfl, by rw [List.append_nil], rfl⟩ (fun i ρ N hi p n => ?_) (fun ρ p => ?_)
  · obtain ⟨rest, found, a, rfl, hp, hr⟩ := p
    walk_at "zS0"
    have h0 : 0 < rest.length := by omega
    have hf : found.length < 100000 := by
      have := hp.length_eq
      rw [List.length_append] at this
      omega
    refine ⟨⟨_, rfl⟩, (rest.length : Int), rfl, by omega, by omega, fun k hk => ?_⟩
    have hk' : k < rest.length := by omega
    refine ⟨k, rfl, rest[k], List.getElem?_eq_getElem hk', by show k < 100000; omega, hf, n _ ⟨_, _, _, rfl, ?_, ?_⟩⟩
    · refine .trans ?_ hp
      have e : rest.Perm (rest[k] :: rest.eraseIdx k) := perm_ers hk'
      refine .trans ?_ (e.append_right found).symm
      rw [← List.append_assoc]
      exact List.perm_append_comm
    · rw [List.length_eraseIdx_of_lt hk']
      omega
  · obtain ⟨rest, found, a, rfl, hp, hr⟩ := p
    have e0 : rest = [] := List.eq_nil_of_length_eq_zero (by omega)
    subst e0
    exact ⟨_, rfl, q found hp⟩
def r_LLot : DS :=
  (sRet (xLc (iLst (xFn F_LShuf (aCons (xVar 0) (aCons (xVar 1) aNil)))) [2] (gN 2) (tB' (xOp2 (dEq false) (xFn F_LDraw (aCons (xVar 0) (aCons (xC (.int 2)) aNil))) (xC (.int 0)))) (xVar 2)))
def F_LLot : DF := fun ds A _ => ∃ ns, ds = [.well 0, lstS ns] ∧ ns.length ≤ 1000 ∧ ∀ ys zs : List Str, ys.Sublist zs → zs.Perm ns → A (lstS ys)
theorem n_LLot (ds : List D) (A : D → Prop) (Ax : XQ) (h : F_LLot ds A Ax) : fnD 1 3 2 r_LLot ds A Ax := by
  obtain ⟨ns, rfl, hl, q⟩ := h
  k_dat r_LLot "zS0"
  refine ⟨lstS ns, ns.map D.str, rfl, rfl, by rw [List.length_map]; omega, fun ys hp => ?_⟩
  obtain ⟨zs, rfl, hz⟩ := perm_back (f := D.str) (fun d => match d with | .str z => z | _ => "") (fun _ => rfl) hp
  refine ⟨_, rfl, by rw [List.length_map, hz.length_eq]; show _ ≤ 100000; omega, ?_⟩
  refine lc_some D.str zs (fun x hx K N hk hn => ?_) fun ws hs => q ws zs hs hz
  walk_at "zS0"
  refine ⟨2, rfl, by decide, by decide, fun k hk2 => ⟨_, eqN false _ 0, _, rfl, ?_⟩⟩
  by_cases c : k = 0
  · rw [if_pos (by simp [c])]; exact hk
  · rw [if_neg (by simp [c])]; exact hn
theorem viaZ {p : Prop} {C R : Str → Prop} (h1 : (∀ z, R z → C z) → p) (h2 : ∀ z, R z → C z) : p := h1 h2
theorem nm_join {cs : List Nat} (h1 : 1 ≤ cs.length) (h8 : cs.length ≤ 8) (ha : ∀ c ∈ cs, c ∈ abc.cps.toList) : isNm (Txt.join "" (cs.map sign)) = true := by
  have e := join_signs cs
  have el : (Txt.join "" (cs.map sign)).length = cs.length := by rw [← len_toList, e]
  unfold isNm
  rw [el, decide_eq_true h1, decide_eq_true h8, e]
  exact List.all_eq_true.mpr fun c hc => decide_eq_true (ha c hc)
theorem nm_sign {c : Nat} (h : c ∈ abc.cps.toList) : isNm (sign c) = true := by
  have : ∀ c ∈ abc.cps.toList, isNm (sign c) = true := by decide +kernel
  exact this c h
theorem mul_nat {a b : Nat} (h : a < 1000) : dMul (.int a) (.int b) = some (.int ((a * b : Nat) : Int)) := by
  have c : (-(2 ^ 64) < (a : Int) ∧ (a : Int) < 2 ^ 64) ∨ (-(2 ^ 64) < (b : Int) ∧ (b : Int) < 2 ^ 64) := .inl ⟨by omega, by omega⟩
  unfold dMul
  simp only []
  rw [if_pos c, Int.natCast_mul]
theorem cut8 (z : Str) : (cutS z none (some 8)).cps.toList = z.cps.toList.take 8 := by
  unfold cutS
  show ((z.cps.toList.drop (HT.sIx z.length 0 none)).take (HT.sIx z.length z.length (some ((8 : Nat) : Int)) - HT.sIx z.length 0 none)) = z.cps.toList.take 8
  rw [HT.sIx_none, HT.sIx_nat, List.drop_zero, Nat.sub_zero, List.take_eq_take_iff, len_toList]
  omega
def r_LNames : DS :=
  (sSeq (sSet 2 (xC (.str "abcdefghijklmnopqrstuvwxyz")))
    (sSeq (sSetO 3 (xLst aNil))
    (sSeq (sFor (iRg1 (xVar 1)) (gN 4)
    (sSeq (sSet 5 (xSl (xJoin (xC (.str "")) (xLc (iRg1 (xOp2 dAdd (xC (.int 1)) (xOp2 dMul (xFn F_LDraw (aCons (xVar 0) (aCons (xC (.int 3)) aNil))) (xFn F_LDraw (aCons (xVar 0) (aCons (xC (.int 4)) aNil)))))) [7] (gN 7) tYesD (xFn F_LPick (aCons (xVar 0) (aCons (xVar 2) aNil))))) oNone (oSome (xC (.int 8)))))
    (sSeq (sFor (iTxt (xVar 2)) (gN 6)
    (sIf (tAnd' (tB' (xOp2 (dIn false) (xVar 5) (xVar 3))) (tB' (xOp2 (dIn true) (xVar 6) (xVar 3))))
    (sSet 5 (xVar 6))
    sNil))
    (sApp 3 (xVar 5)))))
    (sRet (xVar 3)))))
def NmL (x : Str) : Prop := isNm x = true ∧ x.length ≠ 6 ∧ x.length ≠ 8
def F_LNames : DF := fun ds A _ => ∃ m : Nat, ds = [.well 0, .int m] ∧ m ≤ 26 ∧ ∀ xs : List Str, xs.length = m → (∀ x ∈ xs, NmL x) → xs.Nodup → A (lstS xs)
theorem n_LNames (ds : List D) (A : D → Prop) (Ax : XQ) (h : F_LNames ds A Ax) : fnD 1 8 2 r_LNames ds A Ax := by
  obtain ⟨m, rfl, hm, q⟩ := h
  k_dat r_LNames "zS0"
  refine ⟨(by decide : 0 ≤ 100000), by omega, by omega, ?_⟩
  refine for_range 0 m (fun i ρ => ∃ xs a b c, ρ = [some (.well 0), some (.int m), some (.str abc), some (lstS xs), a, b, c, none] ∧ xs.length = i ∧ (∀ x ∈ xs, NmL x) ∧ xs.Nodup) ⟨[], _, _, _, rfl, rfl, (fun x hx => by cases hx), List.nodup_nil⟩ (fun i ρ N hi p n => ?_) (fun ρ p => ?_)
  · obtain ⟨xs, a, b, c, rfl, hl, hN, nd⟩ := p
    walk_at "zS0"
    refine ⟨3, rfl, by decide, by decide, fun d1 hd1 => ⟨4, rfl, by decide, by decide, fun d2 hd2 => ?_⟩⟩
    have b1 : d1 * d2 ≤ 6 := by
      have : d1 * d2 ≤ 2 * 3 := Nat.mul_le_mul (by omega) (by omega)
      omega
    refine ⟨_, mul_nat (by omega), _, rfl, _, rfl, by omega, by omega, ?_⟩
    have ew : (1 + ((d1 * d2 : Nat) : Int)) = ((1 + d1 * d2 : Nat) : Int) := by omega
    rw [ew]
    generalize hs : 1 + d1 * d2 = s
    refine ⟨by rw [rng_eq, List.length_map, List.length_range]; show s ≤ 100000; omega, ?_⟩
    rw [rng_eq]
    refine lc_drawn (fun j : Nat => D.int (0 + (j : Nat))) (fun c => D.str (sign c)) (fun c => c ∈ abc.cps.toList) _ (fun j _ K k => ?_) fun cs hcl hcs => ?_
    · walk_at "zS0"
      exact ⟨.str abc, rfl, .inr ⟨rfl, fun c hc => k c hc⟩⟩
    · rw [List.length_range] at hcl
      have ey : D.strs (cs.map fun c => D.str (sign c)) = some (cs.map sign) := by
        have := strs_map (cs.map sign)
        rw [List.map_map] at this
        exact this
      have sum1 : ((cs.map sign).map (·.length)).sum = cs.length := by
        rw [List.map_map]
        have : ∀ l : List Nat, (l.map ((·.length) ∘ sign)).sum = l.length := by
          intro l
          induction l with
          | nil => rfl
          | cons x l ih => rw [List.map_cons, List.sum_cons, ih, List.length_cons]; show 1 + _ = _; omega
        exact this cs
      refine ⟨_, ey, by rw [sum1, List.length_map]; show cs.length + cs.length * 0 ≤ _; omega, ?_⟩
      apply viaZ (R := NmL)
      · intro key
        have hz0 := nm_join (cs := cs) (by omega) (by omega) hcs
        have d36 : s ≠ 6 ∧ s ≠ 8 := by
          have : d1 = 0 ∨ d1 = 1 ∨ d1 = 2 := by omega
          rcases this with rfl | rfl | rfl <;> omega
        have lj : (Txt.join "" (cs.map sign)).length = cs.length := congrArg List.length (join_signs cs)
        have hz : NmL (Txt.join "" (cs.map sign)) := ⟨hz0, by omega, by omega⟩
        have e8 : cutS (Txt.join "" (cs.map sign)) none (some 8) = Txt.join "" (cs.map sign) := by
          refine str_ext ?_
          rw [cut8, List.take_of_length_le]
          rw [join_signs]
          omega
        have lz := (Bf.nm_ok hz.1).1
        generalize Txt.join "" (cs.map sign) = z at hz e8 lz ⊢
        refine ⟨.str (cutS z none (some 8)), if_pos (show z.length ≤ 100000 by omega), ?_⟩
        rw [e8]
        exact key z hz
      · intro z hz
        refine for_invT (fun c : Nat => D.str ⟨#[c]⟩) abc.cps.toList (fun t ρ => ∃ z e, ρ = [some (.well 0), some (.int m), some (.str abc), some (lstS xs), some (.int (0 + (i : Nat))), some (.str z), e, none] ∧ NmL z ∧ (z ∉ xs ∨ ∀ j, j < t → sign (abc.cps.toList.getD j 0) ∈ xs)) ⟨z, _, rfl, hz, .inr fun j hj => by omega⟩ (fun t c ρ N2 ht p2 n2 => ?_) (fun ρ p2 => ?_)
        · obtain ⟨z, e, rfl, hz, hor⟩ := p2
          have hc : c ∈ abc.cps.toList := List.mem_of_getElem? ht
          have gc : abc.cps.toList.getD t 0 = c := getD_of ht
          simp only [fnD, iniD, startD, sNil, sSeq, sIf, sRet, sSet, sSetO, sExpr, sApp, sPut, sClr, sExt, sIns, sRaise, sRaise2, sAsg, sFor, sSetM, sAppM, sFld', xPopAt, xPop, xVar, xC, xOp1, xOp2, xNeg, xAnd, xOr, xNot, xIf, xB, xFn, xTup, xLst, xFld, xDGet, xDIn, xSl, xChain, oNone, oSome, aNil, aCons, tB', tAnd', tOr', tNot', tYesD, gN, gT, gsN, gsC, iLst, iTupD, iRg1, iRg2, iEnm, iTxt, List.map_cons, List.map_nil, List.length_cons, List.length_nil, List.replicate, List.replicate_succ, List.replicate_zero, List.cons_append, List.nil_append, List.set_cons_zero, List.set_cons_succ, List.getElem?_cons_zero, List.getElem?_cons_succ, Option.some.injEq, D.int.injEq, D.str.injEq, D.bl.injEq, D.lst.injEq, D.tup.injEq, D.dic.injEq, D.ins.injEq, exists_eq_left, exists_eq_left', exists_eq_right, exists_eq_right', exists_and_left, and_true, true_and, Nat.reduceAdd, Nat.reduceSub, Nat.reduceLT, Nat.reduceEqDiff, Nat.add_one_sub_one, Nat.sub_zero, if_true, if_false, Bool.false_eq_true, reduceIte, wipeR, List.cons.injEq, Nat.zero_add, reduceCtorEq, false_and, exists_false, Bool.false_bne, Bool.true_bne, len_lst, len_tup, len_scr, in_lst, in_tup, dKey_str, dKey_int, and_assoc, eq_int, dSub, dLt, dLe, dGt, dGe, isNonD, dIs, dMin, dMax, xMeth, xMeth0, xEqO, xXf, sTry, catchD, offD, add_int, dList, dTuple, xFlt, xFltC, xFltX, xFltCX, xX, sAppP, sClrP, sFldP, sPutP, pVar, pIx, pFld, id, xDisp, pairsD, xNames, xMethF, xMeth0F, aStar, xTGet, xTIn, sPutT, sRaise0, sTryM, catchM, emEq, tKey_strs, famNs, Option.isSome_some, iSqV, sForW, xJoin, dSortedY, xRevL, sDead, xDead, xDc, sPar, sParO, dMin2, dMax2, dHas, dLenF, xSortR, dXor, xDcT, xMk0, seqOf, xLc, xLenSet, in_lst]
          by_cases c1 : z ∈ xs
          · rw [if_pos (by simp [c1])]
            by_cases c2 : ({ cps := #[c] } : Str) ∈ xs
            · rw [if_neg (by simp [c2])]
              refine n2 _ ⟨z, _, rfl, hz, .inr fun j hj => ?_⟩
              by_cases cj : j = t
              · subst cj; rw [gc]; exact c2
              · exact (hor.resolve_left (fun n => n c1)) j (by omega)
            · rw [if_pos (by simp [c2])]
              exact n2 _ ⟨sign c, _, rfl, ⟨nm_sign hc, (by decide : 1 ≠ 6), (by decide : 1 ≠ 8)⟩, .inl c2⟩
          · rw [if_neg (by simp [c1])]
            exact n2 _ ⟨z, _, rfl, hz, .inl c1⟩
        · obtain ⟨z, e, rfl, hz, hor⟩ := p2
          walk_at "zS0"
          refine ⟨by rw [List.length_map]; show xs.length < 100000; omega, n _ ⟨xs ++ [z], _, _, _, by rw [lstS, List.map_append]; rfl, by rw [List.length_append, hl]; rfl, fun x hx => ?_, ?_⟩⟩
          · rcases List.mem_append.mp hx with hx | hx
            · exact hN x hx
            · rw [List.mem_singleton.mp hx]; exact hz
          · have nz : z ∉ xs := by
              rcases hor with h | h
              · exact h
              · exfalso
                have := all_in (xs := xs) fun i hi => by
                  have := h i (by rw [abc_len]; exact hi)
                  rw [show abc.cps.getD i 0 = abc.cps.toList.getD i 0 by simp]
                  exact this
                omega
            exact List.nodup_append.mpr ⟨nd, List.nodup_cons.mpr ⟨List.not_mem_nil, List.nodup_nil⟩, fun a ha b hb e => nz (by rw [← List.mem_singleton.mp hb, ← e]; exact ha)⟩
  · obtain ⟨xs, a, b, c, rfl, hl, hN, nd⟩ := p
    have hl' : xs.length = m := by omega
    walk_at "zS0"
    exact q xs hl' hN nd
end Dz
namespace Dz
open PySem PySem.Spec PyProof.Rows L2 Evl Bf
theorem at_last {α : Type} (l : List α) (z : α) : atI (l ++ [z]) (-1) = some z := by
  unfold atI ixN
  rw [if_neg (by omega), if_pos (by rw [List.length_append]; show (-((l.length + 1 : Nat) : Int)) ≤ -1; omega)]
  show (l ++ [z])[_]? = _
  have e : ((-1 : Int) + ((l ++ [z]).length : Nat)).toNat = l.length := by rw [List.length_append]; show ((-1 : Int) + ((l.length + 1 : Nat) : Int)).toNat = _; omega
  rw [e, List.getElem?_append_right (Nat.le_refl _), Nat.sub_self]
  rfl
theorem addL {a b : List D} (h : a.length + b.length ≤ big) : dAdd (.lst a) (.lst b) = some (.lst (a ++ b)) := if_pos h
theorem lots_nd {ns : List Str} (hn : ns.Pairwise (fun x y => P01.ltB x y = true)) : ∀ k, (P01.lotsL P01.ltB ns k).Nodup
  | 0 => by simp [P01.lotsL]
  | k + 1 => by
    have nn : ns.Nodup := hn.imp fun {x y} h e => by subst e; rw [P01.ltB_irr] at h; cases h
    rw [List.nodup_iff_pairwise_ne]
    show List.Pairwise _ ((P01.lotsL P01.ltB ns k).flatMap _)
    rw [List.pairwise_flatMap]
    refine ⟨fun l _ => ?_, ?_⟩
    · unfold P01.longer
      rw [List.pairwise_map]
      refine (List.nodup_iff_pairwise_ne.mp (nd_filter _ nn)).imp fun n e => n ?_
      have := List.append_cancel_left e
      injection this
    · refine (List.nodup_iff_pairwise_ne.mp (lots_nd hn k)).imp fun {l m} n x hx y hy e => n ?_
      unfold P01.longer at hx hy
      obtain ⟨s, _, rfl⟩ := List.mem_map.mp hx
      obtain ⟨t, _, rfl⟩ := List.mem_map.mp hy
      exact (List.append_inj' e rfl).1
theorem lots_le {ns : List Str} (hn : ns.Pairwise (fun x y => P01.ltB x y = true)) (k : Nat) : (P01.lotsL P01.ltB ns k).length ≤ 2 ^ ns.length :=
  sub_count ns _ (lots_nd hn k) fun l hl => ((P01.mem_lots P01.ltB_irr P01.ltB_tr hn).mp hl).1
theorem srt_ltB {ths : List Str} (h : ths.Nodup) : (srt ths).Pairwise (fun x y => P01.ltB x y = true) := P01.srt_lt h
end Dz
namespace Dz
open PySem PySem.Spec PyProof.Rows L2 Evl Bf
end Dz
namespace Dz
open PySem PySem.Spec PyProof.Rows L2 Evl Bf
def r_LWebD : DS :=
  (sSeq (sSet 2 (xFn F_LNames (aCons (xVar 0) (aCons (xOp2 dAdd (xC (.int 1)) (xFn F_LDraw (aCons (xVar 0) (aCons (xC (.int 5)) aNil)))) aNil))))
    (sSeq (sSetO 3 (xC (.dic [])))
    (sSeq (sFor (iLst (xFn F_LNames (aCons (xVar 0) (aCons (xFn F_LDraw (aCons (xVar 0) (aCons (xOp2 dAdd (xVar 1) (xC (.int 1))) aNil))) aNil)))) (gN 4)
    (sPut 3 (xVar 4) (xTup (aCons (xFn F_LPick (aCons (xVar 0) (aCons (xVar 2) aNil))) (aCons (xFn F_LPick (aCons (xVar 0) (aCons (xVar 2) aNil))) aNil)))))
    (sRet (xTup (aCons (xVar 2) (aCons (xVar 3) aNil)))))))
def F_LWebL : DF := fun ds A _ => ∃ m : Nat, ds = [.well 0, .int m] ∧ m ≤ 20 ∧ ∀ (ps ts : List Str) (a b : Str → Str), ps.Nodup → (∀ x ∈ ps, NmL x) → 1 ≤ ps.length → ps.length ≤ 5 → ts.Nodup → (∀ x ∈ ts, NmL x) → ts.length ≤ m → (∀ t, a t ∈ ps ∧ b t ∈ ps) → A (.tup [lstS ps, .dic (dictS ts fun t => tupS [a t, b t])])
theorem n_LWebL (ds : List D) (A : D → Prop) (Ax : XQ) (h : F_LWebL ds A Ax) : fnD 0 5 2 r_LWebD ds A Ax := by
  obtain ⟨m, rfl, hm, q⟩ := h
  k_dat r_LWebD "zS0"
  refine ⟨5, rfl, by decide, by decide, fun k hk => ⟨_, rfl, 1 + k, by simp, by omega, fun ps lp np dp => ⟨(m : Int) + 1, rfl, by omega, by omega, fun k2 hk2 => ⟨k2, rfl, by omega, fun ts lt nt dt => ⟨_, rfl, ?_⟩⟩⟩⟩⟩
  have p0 : ∃ p, p ∈ ps := ⟨ps[0]'(by omega), List.getElem_mem _⟩
  obtain ⟨p0, hp0⟩ := p0
  have psne : ps ≠ [] := fun e => by rw [e] at hp0; cases hp0
  refine for_invT D.str ts (fun i ρ => ∃ a b e, ρ = [some (.well 0), some (.int m), some (lstS ps), some (.dic (dictS (ts.take i) fun t => tupS [a t, b t])), e] ∧ ∀ t, a t ∈ ps ∧ b t ∈ ps) ⟨fun _ => p0, fun _ => p0, _, rfl, fun _ => ⟨hp0, hp0⟩⟩ (fun i x ρ N hi p n => ?_) (fun ρ p => ?_)
  · obtain ⟨a, b, e, rfl, hab⟩ := p
    walk_at "zS0"
    refine ⟨by rw [dictS_len, List.length_take]; show _ < 100000; omega, lstS ps, rfl, .inl ⟨ps.map D.str, rfl, by simpa using psne, by rw [List.length_map]; omega, fun d hd => ?_⟩⟩
    obtain ⟨pa, hpa, rfl⟩ := List.mem_map.mp hd
    refine ⟨lstS ps, rfl, .inl ⟨ps.map D.str, rfl, by simpa using psne, by rw [List.length_map]; omega, fun d hd => ?_⟩⟩
    obtain ⟨pb, hpb, rfl⟩ := List.mem_map.mp hd
    have hi2 : i < ts.length := (List.getElem?_eq_some_iff.mp hi).1
    have nt' : x ∉ ts.take i := by
      have := nd_take dt hi2
      rwa [show ts[i] = x from (List.getElem?_eq_some_iff.mp hi).2] at this
    refine ⟨by decide, n _ ⟨fun t => if t = x then pa else a t, fun t => if t = x then pb else b t, some (.str x), ?_, fun t => ?_⟩⟩
    · rw [dictS_new nt', take_next hi]
      have : (fun q => if q = x then D.tup [.str pa, .str pb] else tupS [a q, b q]) = fun t => tupS [if t = x then pa else a t, if t = x then pb else b t] := by
        funext t
        by_cases e : t = x
        · rw [if_pos e, if_pos e, if_pos e]; rfl
        · rw [if_neg e, if_neg e, if_neg e]
      rw [this]
    · by_cases e : t = x
      · simp only [if_pos e]; exact ⟨hpa, hpb⟩
      · simp only [if_neg e]; exact hab t
  · obtain ⟨a, b, e, rfl, hab⟩ := p
    rw [List.take_length]
    walk_at "zS0"
    exact ⟨by decide, q ps ts a b dp np (by omega) (by omega) dt nt (by omega) hab⟩
abbrev r_LWebL : DS := r_LWebD
section
variable {ρ : Ro} {vs : List Nat} {g : DG} {e : DX} {Q : List D → Prop}
end
theorem pairs_map (f : Str → D) : ∀ xs : List Str, pairsOf (xs.map fun x => D.tup [.str x, f x]) = some (dictS xs f)
  | [] => rfl
  | x :: xs => by
    rw [List.map_cons, pairsOf, pairs_map f xs]
    rfl
theorem merge_dictS (f : Str → D) : ∀ (xs pre : List Str), (pre ++ xs).Nodup → mergeD (dictS pre f) (dictS xs f) = dictS (pre ++ xs) f
  | [], pre, _ => by rw [List.append_nil]; rfl
  | x :: xs, pre, nd => by
    have nx : x ∉ pre := fun z => (List.nodup_append.mp nd).2.2 x z x List.mem_cons_self rfl
    have e : mergeD (dictS pre f) (dictS (x :: xs) f) = mergeD (putD (dictS pre f) (Sum.inr x) (f x)) (dictS xs f) := rfl
    rw [e, dictS_new nx]
    have e2 : dictS (pre ++ [x]) (fun q => if q = x then f x else f q) = dictS (pre ++ [x]) f := dictS_congr fun q _ => by by_cases h : q = x <;> simp [h]
    rw [e2, merge_dictS f xs (pre ++ [x]) (by rw [List.append_assoc]; exact nd), List.append_assoc]
    rfl
theorem dDictP_names (f : Str → D) {xs : List Str} (nd : xs.Nodup) : dDictP [.lst (xs.map fun x => D.tup [.str x, f x])] = some (.dic (dictS xs f)) := by
  unfold dDictP
  simp only [pairs_map]
  have := merge_dictS f xs [] (by simpa using nd)
  rw [List.nil_append] at this
  rw [show mergeD [] (dictS xs f) = mergeD (dictS [] f) (dictS xs f) from rfl, this]
theorem mn_mx (x y : Str) : (P01.mnS x y = x ∧ P01.mxS x y = y) ∨ (P01.mnS x y = y ∧ P01.mxS x y = x) := by
  by_cases e : x = y
  · subst e
    exact .inl ⟨by unfold P01.mnS; split <;> rfl, by unfold P01.mxS; split <;> rfl⟩
  · rcases P01.mmS x y e with h | h
    · exact .inl ⟨h.1, h.2.1⟩
    · exact .inr ⟨h.1, h.2.1⟩
theorem wm_ends {ps : List Str} (nd : ps.Nodup) {a b : Str → Str} (ha : ∀ t, a t ∈ ps) (hb : ∀ t, b t ∈ ps) (X : List Str) : wm (fun t => P01.mnS (a t) (b t)) (fun t => P01.mxS (a t) (b t)) X = wm a b X := by
  have ha' : ∀ t, P01.mnS (a t) (b t) ∈ ps := fun t => by rcases mn_mx (a t) (b t) with h | h <;> rw [h.1] <;> simp [ha, hb]
  have hb' : ∀ t, P01.mxS (a t) (b t) ∈ ps := fun t => by rcases mn_mx (a t) (b t) with h | h <;> rw [h.2] <;> simp [ha, hb]
  refine (P01.webH nd ha' hb').eqM ?_
  have m := (P01.webH nd ha hb).marks X
  have ev : ∀ g : Str → Str, P01.Even a b X g ↔ P01.Even (fun t => P01.mnS (a t) (b t)) (fun t => P01.mxS (a t) (b t)) X g := fun g => by
    refine forall_congr' fun t => forall_congr' fun _ => ?_
    show g (a t) = g (b t) ↔ g (P01.mnS (a t) (b t)) = g (P01.mxS (a t) (b t))
    rcases mn_mx (a t) (b t) with h | h
    · rw [h.1, h.2]
    · rw [h.1, h.2]; exact eq_comm
  exact ⟨(ev _).mp m.even, fun g hg => m.back g ((ev g).mpr hg), m.low⟩
end Dz
namespace Dz
open PySem PySem.Spec PyProof.Rows L2 Evl Bf
section
variable {ρ : Ro} {vs : List Nat} {g : DG} {e : DX} {Q : List D → Prop}
end
structure FamWK (k : Nat) (d : D) (ns : List Str) (c : List Str → Nat) : Prop where
  fam : FamK k d ns c
  mat : P01.Mat c
  nm : ∀ x ∈ ns, isNm x = true
theorem FamWK.up {k j : Nat} {d : D} {ns : List Str} {c : List Str → Nat} (h : FamWK k d ns c) (l : k ≤ j) : FamWK j d ns c := ⟨h.fam.up l, h.mat, h.nm⟩
theorem FamWK.pw {k : Nat} {d : D} {ns : List Str} {c : List Str → Nat} (h : FamWK k d ns c) : ns.Pairwise (fun x y => P01.ltB x y = true) := by
  have := srt_ltB h.fam.nd
  rwa [h.fam.so] at this
end Dz
namespace P01
open PySem Evl Bf
def okT (l : List Str) (t : Str) : Bool := match l.getLast? with | none => true | some z => ltB z t
theorem longer_eq (ns l : List Str) : longer ltB ns l = (ns.filter (okT l)).map (l ++ [·]) := by
  unfold longer
  congr 1
  refine List.filter_congr fun t _ => ?_
  unfold okT
  cases l.getLast? <;> rfl
end P01
set_option pp.deepTerms true
set_option pp.maxSteps 100000
namespace Dz
open PySem PySem.Spec PyProof.Rows L2 Evl Bf
def r_NAlike : DS :=
  (sIf (tB' (xOp2 (dEq true) (xMeth0F F_FThings (xVar 0)) (xMeth0F F_FThings (xVar 1))))
    (sRaise0 "UnlikeThings")
    sNil)
def F_NAlike : DF := fun ds A _ => ∃ d e ns r s, ds = [d, e] ∧ FamD d ns r ∧ FamD e ns s ∧ A .non
theorem n_NAlike (ds : List D) (A : D → Prop) (Ax : XQ) (h : F_NAlike ds A Ax) : fnD 0 2 2 r_NAlike ds A Ax := by
  obtain ⟨d, e, ns, r, s, rfl, fd, fe, q⟩ := h
  k_dat r_NAlike "zS2"
  have e1 := eq_of (neg := true) (d := lstS ns) (e := lstS ns) (b := true) (okE_up (by decide : 1 ≤ 64) _ (ok_lst (ok_strs fd.ok))) (okE_up (by decide : 1 ≤ 64) _ (ok_lst (ok_strs fd.ok))) ⟨fun _ => rfl, fun _ => rfl⟩
  refine ⟨fd.fam, d, ns, r, rfl, fd, fe.fam, e, ns, s, rfl, fe, _, e1, _, rfl, ?_⟩
  rw [if_neg (by decide)]
  exact q
def r_NFew : DS :=
  (sIf (tB' (xOp2 dGt (xB dLenF (aCons (xVar 0) aNil)) (xC (.int 12))))
    (sRaise "TooMany" "limit" (xC (.int 12)))
    sNil)
def F_NFew : DF := fun ds A _ => ∃ d ns s g, ds = [d] ∧ d = .fam ns s g ∧ ns.length ≤ 12 ∧ A .non
theorem n_NFew (ds : List D) (A : D → Prop) (Ax : XQ) (h : F_NFew ds A Ax) : fnD 0 1 1 r_NFew ds A Ax := by
  obtain ⟨d, ns, s, g, rfl, rfl, l, q⟩ := h
  k_dat r_NFew "zS2"
  refine ⟨_, if_pos (by omega), _, rfl, _, rfl, ?_⟩
  rw [if_neg (by rw [decide_eq_false (by omega)]; exact Bool.false_ne_true)]
  exact q
theorem lcO_f {α : Type} {ρ : Ro} {vs vs1 : List Nat} {g g1 : DG} {t t1 : DT} {φ1 : DI} {e : DX} {Q : List D → Prop} (c : α → D) (f : α → List D) (xs : List α)
    (h : ∀ i x, xs[i]? = some x → ∀ K : List D → Prop, K ((xs.take (i + 1)).flatMap f) → g (c x) (wipeR ρ vs) fun ρ' => t ρ' (fun b => if b = true then φ1 ρ' (fun items => ((xs.take i).flatMap f).length + items.length ≤ big ∧ lcL ρ' vs1 g1 t1 e items ((xs.take i).flatMap f) K) (fun _ => False) else K ((xs.take i).flatMap f)) fun _ => False)
    (q : Q (xs.flatMap f)) : lcO ρ vs g t φ1 vs1 g1 t1 e (xs.map c) [] Q := by
  have key : ∀ (m i : Nat), i + m = xs.length → lcO ρ vs g t φ1 vs1 g1 t1 e ((xs.drop i).map c) ((xs.take i).flatMap f) Q := fun m => by
    induction m with
    | zero =>
      intro i e
      rw [List.drop_of_length_le (by omega), List.take_of_length_le (by omega)]
      exact q
    | succ m ih =>
      intro i e
      have hi : i < xs.length := by omega
      have hx : xs[i]? = some xs[i] := List.getElem?_eq_getElem hi
      rw [List.drop_eq_getElem_cons hi, List.map_cons]
      exact h i xs[i] hx (fun acc => lcO ρ vs g t φ1 vs1 g1 t1 _ ((xs.drop (i + 1)).map c) acc Q) (ih (i + 1) (by omega))
  have := key xs.length 0 (by omega)
  rw [List.drop_zero, List.take_zero] at this
  exact this
theorem lc_filA {α : Type} {ρ : Ro} {vs : List Nat} {g : DG} {t : DT} {e : DX} {Q : List D → Prop} (c : α → D) (p : α → Bool) (f : α → D) : ∀ (xs : List α) (acc : List D), (∀ x ∈ xs, ∀ K : Option D → Prop, K (if p x = true then some (f x) else none) → g (c x) (wipeR ρ vs) fun ρ' => t ρ' (fun b => if b = true then e ρ' (fun y => K (some y)) (fun _ => False) else K none) fun _ => False) → Q (acc ++ (xs.filter p).map f) → lcL ρ vs g t e (xs.map c) acc Q
  | [], acc, _, q => by rw [List.filter_nil, List.map_nil, List.append_nil] at q; exact q
  | x :: xs, acc, h, q => by
    refine h x List.mem_cons_self (fun o => match o with | some y => lcL ρ vs g t e (xs.map c) (acc ++ [y]) Q | none => lcL ρ vs g t e (xs.map c) acc Q) ?_
    have ih := fun acc (q : Q (acc ++ (xs.filter p).map f)) => lc_filA c p f xs acc (fun z hz => h z (List.mem_cons_of_mem _ hz)) q
    by_cases b : p x = true
    · rw [if_pos b]
      refine ih _ ?_
      rw [List.filter_cons_of_pos b, List.map_cons] at q
      rw [List.append_assoc]
      exact q
    · rw [if_neg b]
      refine ih _ ?_
      rw [List.filter_cons_of_neg b] at q
      exact q
def r_LotsOf : DS :=
  (sSeq (sSet 2 (xLst (aCons (xTup aNil) aNil)))
    (sSeq (sFor (iRg1 (xVar 1)) (gN 3)
    (sSet 2 (xLc2 (iLst (xVar 2)) [4, 5] (gN 4) tYesD (iTupD (xVar 0)) [5] (gN 5) (tOr' (tB' (xOp2 (dEq false) (xVar 4) (xTup aNil))) (tB' (xOp2 dGt (xVar 5) (xOp2 dIx (xVar 4) (xNeg (xC (.int 1))))))) (xTup (aStar (xVar 4) (aCons (xVar 5) aNil))))))
    (sRet (xVar 2))))
def F_LotsOf : DF := fun ds A _ => ∃ ns, ∃ k : Nat, ds = [tupS ns, .int k] ∧ ns.Pairwise (fun x y => P01.ltB x y = true) ∧ ns.length ≤ 8 ∧ k ≤ 12 ∧ (∀ x ∈ ns, PyData.strOk x = true) ∧ A (.lst ((P01.lotsL P01.ltB ns k).map tupS))
theorem n_LotsOf (ds : List D) (A : D → Prop) (Ax : XQ) (h : F_LotsOf ds A Ax) : fnD 0 6 2 r_LotsOf ds A Ax := by
  obtain ⟨ns, k, rfl, hn, l8, k12, ok, q⟩ := h
  k_dat r_LotsOf "zS2"
  have big_ : ∀ i, (P01.lotsL P01.ltB ns i).length ≤ 256 := fun i => Nat.le_trans (lots_le hn i) (Nat.pow_le_pow_right (show 0 < 2 by decide) l8)
  refine ⟨by decide, by decide, by omega, by omega, ?_⟩
  refine for_range 0 k (fun i ρ => ∃ a b c, ρ = [some (tupS ns), some (.int k), some (.lst ((P01.lotsL P01.ltB ns i).map tupS)), a, b, c]) ⟨_, _, _, rfl⟩ (fun i ρ N hi p n => ?_) (fun ρ p => ?_)
  · obtain ⟨a, b, c, rfl⟩ := p
    walk_at "zS2"
    have step : P01.lotsL P01.ltB ns (i + 1) = (P01.lotsL P01.ltB ns i).flatMap (P01.longer P01.ltB ns) := rfl
    have sub : ∀ l ∈ P01.lotsL P01.ltB ns i, l.Sublist ns := fun l h => ((P01.mem_lots P01.ltB_irr P01.ltB_tr hn).mp h).1
    have b1 := big_ i
    have b2 := big_ (i + 1)
    rw [step] at b2 n
    generalize P01.lotsL P01.ltB ns i = L at sub b1 b2 n ⊢
    refine ⟨_, rfl, _, rfl, by rw [List.length_map]; show _ ≤ 100000; omega, lcO_f tupS (fun l => (P01.longer P01.ltB ns l).map tupS) L (fun j l hj K k => ?_) ?_⟩
    · have ls := sub l (List.mem_of_getElem? hj)
      have okl : ∀ x ∈ l, PyData.strOk x = true := fun x hx => ok x (ls.subset hx)
      have fm : ∀ M : List (List Str), (M.flatMap fun l => (P01.longer P01.ltB ns l).map tupS) = (M.flatMap (P01.longer P01.ltB ns)).map tupS := fun M => by rw [List.map_flatMap]
      rw [fm] at k ⊢
      have lj : ((L.take j).flatMap (P01.longer P01.ltB ns)).length ≤ 256 := by
        refine Nat.le_trans (List.Sublist.length_le ?_) b2
        have := List.Sublist.append (List.Sublist.refl ((L.take j).flatMap (P01.longer P01.ltB ns))) (List.nil_sublist ((L.drop j).flatMap (P01.longer P01.ltB ns)))
        rw [List.append_nil, ← List.flatMap_append, List.take_append_drop] at this
        exact this
      walk_at "zS2"
      have el : ns.length ≤ 8 := l8
      refine ⟨by rw [List.length_map, List.length_map]; show _ ≤ 100000; omega, ?_⟩
      refine lc_filA D.str (fun t => P01.okT l t) (fun t => tupS (l ++ [t])) ns _ (fun x hx K k => ?_) ?_
      · walk_at "zS2"
        have e1 : dEq false (tupS l) (.tup []) = some (.bl (decide (l = []))) := by
          have := eq_of (neg := false) (d := tupS l) (e := .tup []) (b := decide (l = [])) (okE_up (by decide : 1 ≤ 64) _ (ok_tupS okl)) (okE_up (by decide : 1 ≤ 64) _ (ok_tup fun d hd => absurd hd List.not_mem_nil)) (by
            rw [decide_eq_true_iff]
            exact ⟨fun e => by rw [e]; rfl, fun e => tupS_inj (b := []) e⟩)
          rw [Bool.false_bne] at this
          exact this
        have lb : (l.map D.str ++ [D.str x]).length ≤ big := by
          rw [List.length_append, List.length_map]
          have := ls.length_le
          show l.length + 1 ≤ 100000
          omega
        have et : D.tup (l.map D.str ++ [D.str x]) = tupS (l ++ [x]) := by rw [tupS, List.map_append]; rfl
        refine ⟨by decide, _, e1, _, rfl, ?_⟩
        rcases P01.nil_or_snoc l with h | ⟨m, z, h⟩
        · rw [if_pos (decide_eq_true h)]
          have o : P01.okT l x = true := by rw [h]; rfl
          rw [o, if_pos rfl, ← et] at k
          exact ⟨lb, k⟩
        · have ne : ¬ l = [] := by rw [h]; simp
          rw [if_neg (by rw [decide_eq_false ne]; exact Bool.false_ne_true)]
          have ei : dIx (tupS l) (.int (-1)) = some (.str z) := by
            rw [h]
            show atI ((m ++ [z]).map D.str) (-1) = _
            rw [List.map_append]
            exact at_last _ _
          have eo : P01.okT l x = P01.ltB z x := by rw [h]; unfold P01.okT; rw [List.getLast?_concat]
          refine ⟨_, ei, _, rfl, _, rfl, ?_⟩
          have eb : decide (z.cps.toList < x.cps.toList) = P01.okT l x := by rw [eo, ← P01.lt2_ltB]
          rw [eb]
          by_cases o : P01.okT l x = true
          · rw [if_pos o]
            rw [if_pos o, ← et] at k
            exact ⟨lb, k⟩
          · rw [if_neg o]
            rw [if_neg o] at k
            exact k
      · have e5 : ((ns.filter fun t => P01.okT l t).map fun t => tupS (l ++ [t])) = (P01.longer P01.ltB ns l).map tupS := by rw [P01.longer_eq, List.map_map]; rfl
        rw [e5, ← List.map_append]
        have tk : (L.take (j + 1)).flatMap (P01.longer P01.ltB ns) = (L.take j).flatMap (P01.longer P01.ltB ns) ++ P01.longer P01.ltB ns l := by rw [take_next hj, List.flatMap_append]; simp
        rw [tk] at k
        exact k
    · rw [← List.map_flatMap]
      exact n _ ⟨_, _, _, rfl⟩
  · obtain ⟨a, b, c, rfl⟩ := p
    walk_at "zS2"
    rw [show ((k : Int) - 0).toNat = k by omega]
    exact q
def r_Alike : DS :=
  (sSeq (sExpr (xFn F_NAlike (aCons (xVar 0) (aCons (xVar 1) aNil))))
    (sSeq (sExpr (xFn F_NFew (aCons (xVar 0) aNil)))
    (sSeq (sFor (iRg1 (xOp2 dAdd (xB dLenF (aCons (xVar 0) aNil)) (xC (.int 1)))) (gN 2)
    (sFor (iLst (xFn F_LotsOf (aCons (xNames (xVar 0)) (aCons (xVar 2) aNil)))) (gN 3)
    (sIf (tB' (xOp2 (dEq true) (xOp2 (dEq false) (xMethF F_RankN (xVar 0) (aCons (xVar 3) aNil)) (xVar 2)) (xOp2 (dEq false) (xMethF F_RankN (xVar 1) (aCons (xVar 3) aNil)) (xVar 2))))
    (sRet (xB dList (aCons (xVar 3) aNil)))
    sNil)))
    (sRet (xC .non)))))
def F_Alike : DF := fun ds A _ => ∃ d e ns r s, ds = [d, e] ∧ FamD d ns r ∧ FamD e ns s ∧ ns.length ≤ 8 ∧ (∀ X : List Str, X.Sublist ns → r X = s X) ∧ A .non
theorem n_Alike (ds : List D) (A : D → Prop) (Ax : XQ) (h : F_Alike ds A Ax) : fnD 0 4 2 r_Alike ds A Ax := by
  obtain ⟨d, e, ns, r, s, rfl, fd, fe, l8, hr, q⟩ := h
  obtain ⟨s0, g0, ed⟩ := fd.is
  have hln : dLenF [d] = some (.int ns.length) := by rw [ed]; exact if_pos (show ns.length ≤ 100000 by omega)
  have hn : ns.Pairwise (fun x y => P01.ltB x y = true) := by
    have := srt_ltB fd.nd
    rwa [fd.so] at this
  k_dat r_Alike "zS2"
  refine ⟨d, e, ns, r, s, rfl, fd, fe, d, ns, s0, g0, rfl, ed, by omega, _, hln, _, rfl, _, rfl, by omega, by omega, ?_⟩
  rw [show ((ns.length : Int) + 1) = ((ns.length + 1 : Nat) : Int) by omega]
  refine for_range 0 (ns.length + 1 : Nat) (fun i ρ => ∃ a b, ρ = [some d, some e, a, b]) ⟨_, _, rfl⟩ (fun i ρ N hi p n => ?_) (fun ρ p => ?_)
  · obtain ⟨a, b, rfl⟩ := p
    walk_at "zS2"
    refine ⟨ns, fd.names, ns, i, by rw [Int.zero_add], hn, l8, by omega, fd.ok, _, rfl, ?_⟩
    refine for_invT tupS (P01.lotsL P01.ltB ns i) (fun j ρ => ∃ b, ρ = [some d, some e, some (.int (0 + (i : Nat))), b]) ⟨_, rfl⟩ (fun j X ρ N2 hj p n2 => ?_) (fun ρ p => ?_)
    · obtain ⟨b, rfl⟩ := p
      obtain ⟨sX, lX⟩ := (P01.mem_lots P01.ltB_irr P01.ltB_tr hn).mp (List.mem_of_getElem? hj)
      walk_at "zS2"
      rw [Int.zero_add]
      refine ⟨fd.fam, fd.rk _ sX _ _ ⟨_, eqN false (r X) i, fe.fam, fe.rk _ sX _ _ ⟨_, eqN false (s X) i, ?_⟩⟩⟩
      rw [hr X sX]
      have eb : ∀ b : Bool, dEq true (.bl b) (.bl b) = some (.bl false) := fun b => by cases b <;> rfl
      refine ⟨_, eb _, _, rfl, ?_⟩
      rw [if_neg (by decide)]
      exact n2 _ ⟨_, by rw [Int.zero_add]⟩
    · obtain ⟨b, rfl⟩ := p
      exact n _ ⟨_, _, rfl⟩
  · obtain ⟨a, b, rfl⟩ := p
    walk_at "zS2"
    exact q
end Dz
namespace Dz
open PySem PySem.Spec PyProof.Rows L2 Evl Bf
end Dz
namespace Dz
open PySem PySem.Spec PyProof.Rows L2 Evl Bf
theorem out_lot {ns : List Str} (nd : ns.Nodup) (X : List Str) : LotOk ns (P01.outN ns X) := ⟨nd.sublist List.filter_sublist, fun _ hx => (P01.mem_out.mp hx).1⟩
theorem all_mapR {α : Type} (p : α → Bool) (xs : List α) : dAll [.lst (xs.map fun x => D.bl (p x))] = some (.bl (xs.all p)) := by
  have e : (xs.map fun x => D.bl (p x)) = (xs.map p).map D.bl := by rw [List.map_map]; rfl
  unfold dAll
  rw [e]
  simp only [bls_map]
  rw [List.all_map]
  rfl
end Dz
namespace Dz
open PySem PySem.Spec PyProof.Rows L2 Evl Bf
def sumC (c q : List Str → Nat) (ns ms : List Str) (X : List Str) : Nat := c (X.filter fun x => decide (x ∈ ns)) + q (X.filter fun x => decide (x ∈ ms))
theorem sum_mat {c q : List Str → Nat} (M : P01.Mat c) (Q : P01.Mat q) {ns ms : List Str} (dj : ∀ x ∈ ns, x ∉ ms) : P01.Mat (sumC c q ns ms) where
  zero := by unfold sumC; rw [List.filter_nil, List.filter_nil, M.zero, Q.zero]
  mono := fun {X Y} h => by
    have h1 := M.mono (X := X.filter fun x => decide (x ∈ ns)) (Y := Y.filter fun x => decide (x ∈ ns)) fun x hx => List.mem_filter.mpr ⟨h x (List.mem_filter.mp hx).1, (List.mem_filter.mp hx).2⟩
    have h2 := Q.mono (X := X.filter fun x => decide (x ∈ ms)) (Y := Y.filter fun x => decide (x ∈ ms)) fun x hx => List.mem_filter.mpr ⟨h x (List.mem_filter.mp hx).1, (List.mem_filter.mp hx).2⟩
    unfold sumC
    omega
  one := fun t X => by
    unfold sumC
    rw [List.filter_cons, List.filter_cons]
    by_cases c1 : t ∈ ns
    · have c2 := dj t c1
      have := M.one t (X.filter fun x => decide (x ∈ ns))
      rw [if_pos (decide_eq_true c1), if_neg (by simpa using c2)]
      omega
    · rw [if_neg (by simpa using c1)]
      have := Q.one t (X.filter fun x => decide (x ∈ ms))
      split <;> omega
  clos := fun X Y h => by
    have key : ∀ t ∈ Y, c ((t :: X).filter fun x => decide (x ∈ ns)) = c (X.filter fun x => decide (x ∈ ns)) ∧ q ((t :: X).filter fun x => decide (x ∈ ms)) = q (X.filter fun x => decide (x ∈ ms)) := fun t ht => by
      have e : sumC c q ns ms (t :: X) = sumC c q ns ms X := h t ht
      unfold sumC at e
      have h1 := M.mono (X := X.filter fun x => decide (x ∈ ns)) (Y := (t :: X).filter fun x => decide (x ∈ ns)) fun x hx => List.mem_filter.mpr ⟨List.mem_cons_of_mem _ (List.mem_filter.mp hx).1, (List.mem_filter.mp hx).2⟩
      have h2 := Q.mono (X := X.filter fun x => decide (x ∈ ms)) (Y := (t :: X).filter fun x => decide (x ∈ ms)) fun x hx => List.mem_filter.mpr ⟨List.mem_cons_of_mem _ (List.mem_filter.mp hx).1, (List.mem_filter.mp hx).2⟩
      omega
    unfold sumC
    rw [List.filter_append, List.filter_append, M.clos _ _ fun t ht => ?_, Q.clos _ _ fun t ht => ?_]
    · obtain ⟨h1, h2⟩ := List.mem_filter.mp ht
      have := (key t h1).2
      rwa [List.filter_cons_of_pos (p := fun x => decide (x ∈ ms)) h2] at this
    · obtain ⟨h1, h2⟩ := List.mem_filter.mp ht
      have := (key t h1).1
      rwa [List.filter_cons_of_pos (p := fun x => decide (x ∈ ns)) h2] at this
def r_JoInit : DS :=
  (sSeq (sFld' 0 "Joined" "first" (xVar 1))
    (sFld' 0 "Joined" "second" (xVar 2)))
def joinD (f g : D) : D := .ins "Joined" [("first", f), ("second", g)]
def F_JoInit : DF := fun ds A _ => ∃ f g, ds = [f, g] ∧ A (joinD f g)
theorem i_JoInit (ds : List D) (A : D → Prop) (Ax : XQ) (h : F_JoInit ds A Ax) : F_JoInit ds (fun d => ∃ fs, d = .ins "Joined" fs ∧ A d) Ax := by
  obtain ⟨f, g, rfl, q⟩ := h
  exact ⟨f, g, rfl, _, rfl, q⟩
theorem n_JoInit (ds : List D) (A : D → Prop) (Ax : XQ) (h : F_JoInit ds A Ax) : iniD "Joined" 3 2 r_JoInit ds A Ax := by
  obtain ⟨f, g, rfl, q⟩ := h
  k_dat r_JoInit "zS1"
  exact ⟨by show 1 < 1000; decide, q⟩
def r_JoCount (F_RankI : DF) : DS :=
  (sSeq (sSet 2 (xC (.int 0)))
    (sSeq (sFor (iTupD (xTup (aCons (xFld "Joined" "first" (xVar 0)) (aCons (xFld "Joined" "second" (xVar 0)) aNil)))) (gN 3)
    (sAug 2 (xMethF F_RankI (xVar 3) (aCons (xB dTuple (aCons (xLc (iTupD (xVar 1)) [4] (gN 4) (tB' (xOp2 (dHas false) (xVar 4) (xVar 3))) (xVar 4)) aNil)) aNil))))
    (sRet (xVar 2))))
theorem n_JoCount {F_RankI : DF} (hF : Mono F_RankI) (ds : List D) (A : D → Prop) (Ax : XQ) (h : F_JoCount F_RankI ds A Ax) : fnD 0 5 2 (r_JoCount F_RankI) ds A Ax := by
  obtain ⟨f, g, ns, ms, lot, r, q, rfl, hn, hm, l1, s1, s2, hr, hq, k⟩ := h
  k_dat r_JoCount "zS1"
  refine ⟨f, rfl, g, rfl, by decide, ?_⟩
  show forL _ _ ([(f, ns, r), (g, ms, q)].map fun z => z.1) _ _
  refine for_invT (fun z : D × List Str × (List Str → Nat) => z.1) [(f, ns, r), (g, ms, q)] (fun i ρ => ∃ s3, ρ = [some (joinD f g), some (tupS lot), some (.int (if i = 0 then 0 else if i = 1 then (r (lot.filter fun x => decide (x ∈ ns)) : Nat) else (r (lot.filter fun x => decide (x ∈ ns)) : Nat) + (q (lot.filter fun x => decide (x ∈ ms)) : Nat))), s3, none]) ⟨_, rfl⟩ (fun i z ρ N hi p n => ?_) (fun ρ p => ?_)
  · obtain ⟨s3, rfl⟩ := p
    obtain ⟨h, ws, t⟩ := z
    have hz : famNs h = some ws ∧ (lot.filter fun x => decide (x ∈ ws)).Sublist ws ∧ (∀ l : List Str, l.Sublist ws → ∀ (A : D → Prop) (Ax : XQ), A (.int (t l : Nat)) → F_RankI [h, tupS l] A Ax) ∧ i < 2 := by
      have l2 := (List.getElem?_eq_some_iff.mp hi).1
      have hm2 := List.mem_of_getElem? hi
      simp only [List.mem_cons, List.not_mem_nil, or_false] at hm2
      rcases hm2 with e | e
      · cases e; exact ⟨hn, s1, hr, l2⟩
      · cases e; exact ⟨hm, s2, hq, l2⟩
    obtain ⟨z1, z2, z3, z4⟩ := hz
    obtain ⟨sh, gh, rfl⟩ : ∃ s g, h = .fam ws s g := by
      cases h with
      | fam a b c => cases z1; exact ⟨_, _, rfl⟩
      | _ => cases z1
    walk_at "zS1"
    refine ⟨by rw [List.length_map]; show _ ≤ 100000; omega, ?_⟩
    refine lc_filT D.str (fun x => decide (x ∈ ws)) D.str lot (fun x hx K k => ?_) ?_
    · walk_at "zS1"
      exact ite_k k
    · refine z3 _ z2 _ _ ⟨_, rfl, n _ ⟨some (.fam ws sh gh), ?_⟩⟩
      have hm2 : i = 0 ∨ i = 1 := by omega
      rcases hm2 with rfl | rfl
      · cases hi
        rw [if_pos rfl, if_neg (by decide), if_pos rfl, Int.zero_add]
      · cases hi
        rw [if_neg (by decide), if_pos rfl, if_neg (by decide), if_neg (by decide)]
  · obtain ⟨s3, rfl⟩ := p
    walk_at "zS1"
    exact k
def r_JoinedF : DS :=
  (sSeq (sFor (iTupD (xNames (xVar 0))) (gN 2)
    (sIf (tB' (xOp2 (dHas false) (xVar 2) (xVar 1)))
    (sRaise "SameThing" "thing" (xVar 2))
    sNil))
    (sSeq (sIf (tB' (xOp2 dGt (xOp2 dAdd (xB dLenF (aCons (xVar 0) aNil)) (xB dLenF (aCons (xVar 1) aNil))) (xC (.int 24))))
    (sRaise "TooMany" "limit" (xC (.int 24)))
    sNil)
    (sRet (xFn F_FInit (aCons (xB dSorted (aCons (xLst (aStar (xNames (xVar 0)) (aStar (xNames (xVar 1)) aNil))) aNil)) (aCons (xFn F_JoInit (aCons (xVar 0) (aCons (xVar 1) aNil))) aNil))))))
def F_JoinedF : DF := fun ds A _ => ∃ f g ns ms c q k, ds = [f, g] ∧ FamWK k f ns c ∧ FamWK k g ms q ∧ (∀ x ∈ ns, x ∉ ms) ∧ ns.length + ms.length ≤ 20 ∧ ∀ d, FamWK (k + 1) d (srt (ns ++ ms)) (sumC c q ns ms) → A d
theorem n_JoinedF (ds : List D) (A : D → Prop) (Ax : XQ) (h : F_JoinedF ds A Ax) : fnD 0 3 2 r_JoinedF ds A Ax := by
  obtain ⟨f, g, ns, ms, c, q, k, rfl, fw, gw, dj, l20, k0⟩ := h
  k_dat r_JoinedF "zS1"
  obtain ⟨s1, g1, e1⟩ := fw.fam.is
  obtain ⟨s2, g2, e2⟩ := gw.fam.is
  refine ⟨ns, fw.fam.names, for_invT D.str ns (fun i ρ => ∃ s, ρ = [some f, some g, s]) ⟨_, rfl⟩ (fun i x ρ N hi p n => ?_) (fun ρ p => ?_)⟩
  · obtain ⟨s, rfl⟩ := p
    have hx := dj x (List.mem_of_getElem? hi)
    walk_at "zS1"
    refine ⟨.bl (decide (x ∈ ms)), by rw [e2], _, rfl, ?_⟩
    rw [if_neg (by simpa using hx)]
    exact n _ ⟨_, rfl⟩
  · obtain ⟨s, rfl⟩ := p
    walk_at "zS1"
    refine ⟨_, by rw [e1]; exact if_pos (by omega), _, by rw [e2]; exact if_pos (by omega), _, rfl, _, rfl, _, rfl, ?_⟩
    rw [if_neg (by rw [decide_eq_false (by omega)]; exact Bool.false_ne_true)]
    refine ⟨ns, fw.fam.names, ms, gw.fam.names, ?_⟩
    rw [List.append_nil, ← List.map_append]
    have l1 : (ns ++ ms).length = ns.length + ms.length := List.length_append
    refine ⟨by rw [List.length_map, l1]; show _ ≤ 100000; omega, _, sorted_lst (by omega), f, g, rfl, ?_⟩
    have nd : (ns ++ ms).Nodup := List.nodup_append.mpr ⟨fw.fam.nd, gw.fam.nd, fun a ha b hb e => dj a ha (e ▸ hb)⟩
    have S := sum_mat fw.mat gw.mat dj
    have memS : ∀ x, x ∈ srt (ns ++ ms) ↔ x ∈ ns ∨ x ∈ ms := fun x => by rw [srt_mem, List.mem_append]
    obtain ⟨gh, hgh⟩ := rk_ex (subs (srt (ns ++ ms))) (sumC c q ns ms)
    refine ⟨srt (ns ++ ms), joinD f g, _, gh, rfl, .inl rfl, by rw [srt_len]; omega, rfl, k0 _ ⟨⟨⟨_, _, rfl⟩, fun lot hs A Ax k1 => ?_, by rw [srt_len]; omega, (srt_perm _).nodup_iff.mpr nd, srt_congr (srt_perm _), fun x hx => ((memS x).mp hx).elim (fw.fam.ok x) (gw.fam.ok x)⟩, S, fun x hx => ((memS x).mp hx).elim (fw.nm x) (gw.nm x)⟩⟩
    have e := hgh lot (mem_subs hs)
    have nl : lot.Nodup := ((srt_perm _).nodup_iff.mpr nd).sublist hs
    have sl : srt lot = lot := srt_of_sub (srt_congr (srt_perm _)) hs
    have ll := hs.length_le
    rw [srt_len, l1] at ll
    have part : ∀ ws : List Str, srt ws = ws → ws.Nodup → (lot.filter fun x => decide (x ∈ ws)).Sublist ws := fun ws so nw => by
      have h1 := srt_sub so (nl.sublist (List.filter_sublist (p := fun x => decide (x ∈ ws)))) nw fun x hx => of_decide_eq_true (List.mem_filter.mp hx).2
      rwa [srt_of_sub sl List.filter_sublist] at h1
    refine ⟨_, joinD f g, gh, lot, "Joined", F_JoCount (F_RK k), _, rfl, ⟨hs, .inl (by rw [srt_len]; omega)⟩, rfl, List.mem_append_right _ (List.mem_filter.mpr ⟨by simp, show decide (("Joined" : Str) ∈ rkS) = true by decide⟩), rfl, ⟨f, g, ns, ms, lot, c, q, rfl, fw.fam.names, gw.fam.names, by omega, part ns fw.fam.so fw.fam.nd, part ms gw.fam.so gw.fam.nd, fw.fam.rk, gw.fam.rk, ?_⟩, by rw [e]; exact k1⟩
    rw [e]
    rfl
end Dz
namespace Dz
open PySem PySem.Spec PyProof.Rows L2 Evl Bf
section
variable {c q : List Str → Nat} {ns ms N : List Str} {e : Str}
end
end Dz
namespace Dz
open PySem PySem.Spec PyProof.Rows L2 Evl Bf
section
variable {c c' q s : List Str → Nat} {ns ms N : List Str} {e x : Str}
def Agr (ns : List Str) (c c' : List Str → Nat) : Prop := ∀ X : List Str, (∀ x ∈ X, x ∈ ns) → c X = c' X
theorem Agr.symm (h : Agr ns c c') : Agr ns c' c := fun X hX => (h X hX).symm
theorem agr_nd (M : P01.Mat c) (M' : P01.Mat c') (nd : ns.Nodup) (h : ∀ X : List Str, X.Nodup → (∀ x ∈ X, x ∈ ns) → c X = c' X) : Agr ns c c' := fun X hX => by
  have a : ∀ z, z ∈ X ↔ z ∈ P01.inN ns X := fun z => by rw [P01.mem_in]; exact ⟨fun q => ⟨hX z q, q⟩, fun q => q.2⟩
  rw [M.alike a, M'.alike a]
  exact h _ (nd.filter _) fun x hx => (P01.mem_in.mp hx).1
abbrev JLc (c : List Str → Nat) (ns : List Str) (e : Str) (L : Lots) : Prop := P01.JL c ns e L.1 L.2
theorem JL.congr {A B : List Str} (h : Agr ns c c') (he : e ∈ ns) (j : P01.JL c ns e A B) : P01.JL c' ns e A B where
  nA := j.nA
  nB := j.nB
  sA := j.sA
  sB := j.sB
  dis := j.dis
  fA := by rw [← h A fun x hx => (j.sA x hx).1]; exact j.fA
  fB := by rw [← h B fun x hx => (j.sB x hx).1]; exact j.fB
  sp := fun z hz => by
    rw [← h (z :: A) fun x hx => (List.mem_cons.mp hx).elim (fun q => q ▸ hz) fun q => (j.sA x q).1, ← h (z :: B) fun x hx => (List.mem_cons.mp hx).elim (fun q => q ▸ hz) fun q => (j.sB x q).1]
    exact j.sp z hz
  me := by
    rw [← h (e :: A) fun x hx => (List.mem_cons.mp hx).elim (fun q => q ▸ he) fun q => (j.sA x q).1]
    exact j.me
theorem agr_dd (M : P01.Mat c) (nd : ns.Nodup) : Agr ns (P01.dualC (P01.dualC c ns) ns) c := fun X hX => P01.dual_dual M nd hX
theorem agr_dw (M : P01.Mat c) (nd : ns.Nodup) (hx : x ∈ ns) : Agr (P01.outN ns [x]) (P01.dualC c (P01.outN ns [x])) (P01.drawC (P01.dualC c ns) [x]) :=
  agr_nd (P01.dual_mat M (nd.filter _)) (P01.draw_mat (P01.dual_mat M nd) [x]) (nd.filter _) fun X nX sX => P01.dual_without M nd (List.nodup_cons.mpr ⟨List.not_mem_nil, List.nodup_nil⟩) nX (fun y hy => by rw [List.mem_singleton.mp hy]; exact hx) fun y hy => P01.mem_out.mp (sX y hy)
theorem Agr.draw (h : Agr ns c c') (hx : x ∈ ns) : Agr (P01.outN ns [x]) (P01.drawC c [x]) (P01.drawC c' [x]) := fun X hX => by
  unfold P01.drawC
  rw [h _ fun y hy => (List.mem_append.mp hy).elim (fun q => (P01.mem_out.mp (hX y q)).1) fun q => by rw [List.mem_singleton.mp q]; exact hx, h [x] fun y hy => by rw [List.mem_singleton.mp hy]; exact hx]
theorem agr_ddw (M : P01.Mat c) (nd : ns.Nodup) (hx : x ∈ ns) : Agr (P01.outN ns [x]) (P01.dualC (P01.dualC c ns) (P01.outN ns [x])) (P01.drawC c [x]) := fun X hX => by
  rw [agr_dw (P01.dual_mat M nd) nd hx X hX]
  exact (agr_dd M nd).draw hx X hX
def parD (x : Str) (L : Lots) : D := .tup [.str x, lstS L.1, lstS L.2]
inductive RP (c : List Str → Nat) (ns : List Str) (e : Str) : D → Prop
  | j (L : Lots) : JLc c ns e L → RP c ns e (parD "joiner" L)
  | c (L : Lots) : JLc (P01.dualC c ns) ns e L → RP c ns e (parD "cutter" L)
  | f (x y : Str) (L K : Lots) : x ∈ ns → x ≠ e → JLc (P01.drawC c [x]) (P01.outN ns [x]) e L → y ∈ ns → y ≠ e → JLc (P01.dualC c (P01.outN ns [y])) (P01.outN ns [y]) e K → RP c ns e (.tup [.str "first", parD x L, parD y K])
def exD : D → D
  | .tup [.str w, a, b] => if w = Str.ofString "first" then .tup [.str "first", b, a] else if w = Str.ofString "joiner" then .tup [.str "cutter", a, b] else .tup [.str "joiner", a, b]
  | d => d
theorem heo (he : e ∈ ns) (ne : x ≠ e) : e ∈ P01.outN ns [x] := P01.mem_out.mpr ⟨he, fun z => ne (List.mem_singleton.mp z).symm⟩
theorem RP.turn (M : P01.Mat c) (nd : ns.Nodup) (he : e ∈ ns) {t : D} (h : RP c ns e t) : RP (P01.dualC c ns) ns e (exD t) := by
  cases h with
  | j L h => exact .c L (JL.congr (agr_dd M nd).symm he h)
  | c L h => exact .j L h
  | f x y L K hx nx h hy ny k => exact .f y x K L hy ny (JL.congr (agr_dw M nd hy) (heo he ny) k) hx nx (JL.congr (agr_ddw M nd hx).symm (heo he nx) h)
theorem RP.back (M : P01.Mat c) (nd : ns.Nodup) (he : e ∈ ns) {t : D} (h : RP (P01.dualC c ns) ns e t) : RP c ns e (exD t) := by
  cases h with
  | j L h => exact .c L h
  | c L h => exact .j L (JL.congr (agr_dd M nd) he h)
  | f x y L K hx nx h hy ny k => exact .f y x K L hy ny (JL.congr (agr_ddw M nd hy) (heo he ny) k) hx nx (JL.congr (agr_dw M nd hx).symm (heo he nx) h)
structure Sm (s : List Str → Nat) (N : List Str) (c : List Str → Nat) (ns : List Str) (q : List Str → Nat) (ms : List Str) : Prop where
  Ms : P01.Mat s
  Mc : P01.Mat c
  Mq : P01.Mat q
  nN : N.Nodup
  nn : ns.Nodup
  nm : ms.Nodup
  dj : ∀ x ∈ ns, x ∉ ms
  mem : ∀ x, x ∈ N ↔ x ∈ ns ∨ x ∈ ms
  eq : ∀ X : List Str, X.Nodup → (∀ x ∈ X, x ∈ N) → s X = c (P01.inN ns X) + q (P01.inN ms X)
theorem Sm.all (h : Sm s N c ns q ms) {X : List Str} (sX : ∀ x ∈ X, x ∈ N) : s X = c (P01.inN ns X) + q (P01.inN ms X) := by
  have a : ∀ z, z ∈ X ↔ z ∈ P01.inN N X := fun z => by rw [P01.mem_in]; exact ⟨fun q => ⟨sX z q, q⟩, fun q => q.2⟩
  rw [h.Ms.alike a, h.eq _ (h.nN.filter _) fun x hx => (P01.mem_in.mp hx).1]
  rw [P01.in_same_len (ns := ns) fun z _ => (a z).symm, P01.in_same_len (ns := ms) fun z _ => (a z).symm]
theorem inN_len (h : Sm s N c ns q ms) (X : List Str) : (P01.inN N X).length = (P01.inN ns X).length + (P01.inN ms X).length := by
  have p : (P01.inN N X).Perm (P01.inN ns X ++ P01.inN ms X) := (List.perm_ext_iff_of_nodup (h.nN.filter _) (List.nodup_append.mpr ⟨h.nn.filter _, h.nm.filter _, fun a ha b hb z => h.dj a (P01.mem_in.mp ha).1 (z ▸ (P01.mem_in.mp hb).1)⟩)).mpr fun x => by
    rw [List.mem_append, P01.mem_in, P01.mem_in, P01.mem_in, h.mem]
    exact ⟨fun z => z.1.elim (fun w => .inl ⟨w, z.2⟩) fun w => .inr ⟨w, z.2⟩, fun z => z.elim (fun w => ⟨.inl w.1, w.2⟩) fun w => ⟨.inr w.1, w.2⟩⟩
  rw [p.length_eq, List.length_append]
theorem Sm.dual (h : Sm s N c ns q ms) : Sm (P01.dualC s N) N (P01.dualC c ns) ns (P01.dualC q ms) ms where
  Ms := P01.dual_mat h.Ms h.nN
  Mc := P01.dual_mat h.Mc h.nn
  Mq := P01.dual_mat h.Mq h.nm
  nN := h.nN
  nn := h.nn
  nm := h.nm
  dj := h.dj
  mem := h.mem
  eq := fun X nX sX => by
    have a1 := P01.dual_eq h.Ms N X
    have a2 := P01.dual_eq h.Mc ns (P01.inN ns X)
    have a3 := P01.dual_eq h.Mq ms (P01.inN ms X)
    have b1 := h.all (X := N) fun x hx => hx
    have b2 := h.all (X := P01.outN N X) fun x hx => (P01.mem_out.mp hx).1
    have i1 : P01.inN ns (P01.inN ns X) = P01.inN ns X := P01.in_same_len fun z hz => by rw [P01.mem_in]; exact ⟨fun q => q.2, fun q => ⟨hz, q⟩⟩
    have i2 : P01.inN ms (P01.inN ms X) = P01.inN ms X := P01.in_same_len fun z hz => by rw [P01.mem_in]; exact ⟨fun q => q.2, fun q => ⟨hz, q⟩⟩
    have c1 : c (P01.inN ns N) = c ns := h.Mc.alike fun z => by rw [P01.mem_in, h.mem]; exact ⟨fun q => q.1, fun q => ⟨q, .inl q⟩⟩
    have c2 : q (P01.inN ms N) = q ms := h.Mq.alike fun z => by rw [P01.mem_in, h.mem]; exact ⟨fun q => q.1, fun q => ⟨q, .inr q⟩⟩
    have c3 : c (P01.inN ns (P01.outN N X)) = c (P01.outN ns (P01.inN ns X)) := h.Mc.alike fun z => by
      rw [P01.mem_in, P01.mem_out, P01.mem_out, P01.mem_in, h.mem]
      exact ⟨fun q => ⟨q.1, fun w => q.2.2 w.2⟩, fun q => ⟨q.1, .inl q.1, fun w => q.2 ⟨q.1, w⟩⟩⟩
    have c4 : q (P01.inN ms (P01.outN N X)) = q (P01.outN ms (P01.inN ms X)) := h.Mq.alike fun z => by
      rw [P01.mem_in, P01.mem_out, P01.mem_out, P01.mem_in, h.mem]
      exact ⟨fun q => ⟨q.1, fun w => q.2.2 w.2⟩, fun q => ⟨q.1, .inr q.1, fun w => q.2 ⟨q.1, w⟩⟩⟩
    have l := inN_len h X
    rw [i1] at a2
    rw [i2] at a3
    omega
theorem Sm.out (h : Sm s N c ns q ms) (hx : x ∈ ns) : Sm s (P01.outN N [x]) c (P01.outN ns [x]) q ms where
  Ms := h.Ms
  Mc := h.Mc
  Mq := h.Mq
  nN := h.nN.filter _
  nn := h.nn.filter _
  nm := h.nm
  dj := fun z hz => h.dj z (P01.mem_out.mp hz).1
  mem := fun z => by
    rw [P01.mem_out, P01.mem_out, h.mem, List.mem_singleton]
    exact ⟨fun w => w.1.elim (fun v => .inl ⟨v, w.2⟩) .inr, fun w => w.elim (fun v => ⟨.inl v.1, v.2⟩) fun v => ⟨.inr v, fun u => h.dj x hx (u ▸ v)⟩⟩
  eq := fun X nX sX => by
    rw [h.all fun z hz => (P01.mem_out.mp (sX z hz)).1]
    congr 1
    exact h.Mc.alike fun z => by
      rw [P01.mem_in, P01.mem_in, P01.mem_out]
      exact ⟨fun w => ⟨⟨w.1, (P01.mem_out.mp (sX z w.2)).2⟩, w.2⟩, fun w => ⟨w.1.1, w.2⟩⟩
theorem Sm.draw (h : Sm s N c ns q ms) (hx : x ∈ ns) : Sm (P01.drawC s [x]) (P01.outN N [x]) (P01.drawC c [x]) (P01.outN ns [x]) q ms where
  Ms := P01.draw_mat h.Ms [x]
  Mc := P01.draw_mat h.Mc [x]
  Mq := h.Mq
  nN := (h.out hx).nN
  nn := (h.out hx).nn
  nm := h.nm
  dj := (h.out hx).dj
  mem := (h.out hx).mem
  eq := fun X nX sX => by
    have xN : x ∈ N := (h.mem x).mpr (.inl hx)
    have xm := h.dj x hx
    have sX' : ∀ z ∈ X ++ [x], z ∈ N := fun z hz => (List.mem_append.mp hz).elim (fun w => (P01.mem_out.mp (sX z w)).1) fun w => by rw [List.mem_singleton.mp w]; exact xN
    have a1 := P01.draw_eq h.Ms [x] X
    have a2 := P01.draw_eq h.Mc [x] (P01.inN (P01.outN ns [x]) X)
    have b1 := h.all sX'
    have b2 := h.all (X := [x]) fun z hz => by rw [List.mem_singleton.mp hz]; exact xN
    have c1 : c (P01.inN ns [x]) = c [x] := h.Mc.alike fun z => by
      rw [P01.mem_in, List.mem_singleton]
      exact ⟨fun w => w.2, fun w => ⟨w ▸ hx, w⟩⟩
    have c2 : q (P01.inN ms [x]) = q [] := h.Mq.alike fun z => by
      rw [P01.mem_in, List.mem_singleton]
      exact ⟨fun w => absurd (w.2 ▸ w.1) xm, fun w => absurd w List.not_mem_nil⟩
    have c3 : c (P01.inN ns (X ++ [x])) = c (P01.inN (P01.outN ns [x]) X ++ [x]) := h.Mc.alike fun z => by
      rw [P01.mem_in, List.mem_append, List.mem_append, P01.mem_in, P01.mem_out, List.mem_singleton]
      refine ⟨fun w => ?_, fun w => w.elim (fun v => ⟨v.1.1, .inl v.2⟩) fun v => ⟨v ▸ hx, .inr v⟩⟩
      by_cases v : z = x
      · exact .inr v
      · exact .inl ⟨⟨w.1, v⟩, w.2.resolve_right v⟩
    have c4 : q (P01.inN ms (X ++ [x])) = q (P01.inN ms X) := h.Mq.alike fun z => by
      rw [P01.mem_in, P01.mem_in, List.mem_append, List.mem_singleton]
      exact ⟨fun w => ⟨w.1, w.2.resolve_right fun v => xm (v ▸ w.1)⟩, fun w => ⟨w.1, .inl w.2⟩⟩
    have z0 := h.Mq.zero
    omega
theorem JL.sum {A B : List Str} (h : Sm s N c ns q ms) (he : e ∈ ns) (j : P01.JL c ns e A B) : P01.JL s N e A B := by
  have z0 := h.Mq.zero
  have inn : ∀ {X : List Str}, (∀ x ∈ X, x ∈ ns) → s X = c X := fun {X} hX => by
    rw [h.all fun x hx => (h.mem x).mpr (.inl (hX x hx))]
    have c1 : c (P01.inN ns X) = c X := h.Mc.alike fun z => by rw [P01.mem_in]; exact ⟨fun w => w.2, fun w => ⟨hX z w, w⟩⟩
    have c2 : q (P01.inN ms X) = q [] := h.Mq.alike fun z => by rw [P01.mem_in]; exact ⟨fun w => absurd w.1 (h.dj z (hX z w.2)), fun w => absurd w List.not_mem_nil⟩
    omega
  have oth : ∀ {X : List Str} {z : Str}, (∀ x ∈ X, x ∈ ns) → z ∈ ms → s (z :: X) = c X + q [z] := fun {X z} hX hz => by
    rw [h.all fun x hx => (h.mem x).mpr ((List.mem_cons.mp hx).elim (fun w => .inr (w ▸ hz)) fun w => .inl (hX x w))]
    have c1 : c (P01.inN ns (z :: X)) = c X := h.Mc.alike fun y => by
      rw [P01.mem_in, List.mem_cons]
      exact ⟨fun w => w.2.resolve_left fun v => h.dj y w.1 (v ▸ hz), fun w => ⟨hX y w, .inr w⟩⟩
    have c2 : q (P01.inN ms (z :: X)) = q [z] := h.Mq.alike fun y => by
      rw [P01.mem_in, List.mem_cons, List.mem_singleton]
      exact ⟨fun w => w.2.resolve_right fun v => h.dj y (hX y v) w.1, fun w => ⟨w ▸ hz, .inl w⟩⟩
    omega
  have sA := fun x hx => (j.sA x hx).1
  have sB := fun x hx => (j.sB x hx).1
  have con : ∀ {X : List Str} {z : Str}, (∀ x ∈ X, x ∈ ns) → z ∈ ns → ∀ x ∈ z :: X, x ∈ ns := fun hX hz x hx => (List.mem_cons.mp hx).elim (fun w => w ▸ hz) (hX x)
  exact {
    nA := j.nA
    nB := j.nB
    sA := fun x hx => ⟨(h.mem x).mpr (.inl (sA x hx)), (j.sA x hx).2⟩
    sB := fun x hx => ⟨(h.mem x).mpr (.inl (sB x hx)), (j.sB x hx).2⟩
    dis := j.dis
    fA := by rw [inn sA]; exact j.fA
    fB := by rw [inn sB]; exact j.fB
    sp := fun z hz => by
      rcases (h.mem z).mp hz with w | w
      · rw [inn (con sA w), inn (con sB w)]
        exact j.sp z w
      · rw [oth sA w, oth sB w]
        have := j.fA
        have := j.fB
        omega
    me := by rw [inn (con sA he)]; exact j.me }
theorem RP.sum (h : Sm s N c ns q ms) (he : e ∈ ns) {t : D} (r : RP c ns e t) : RP s N e t := by
  cases r with
  | j L k => exact .j L (JL.sum h he k)
  | c L k => exact .c L (JL.sum h.dual he k)
  | f x y L K hx nx k hy ny k2 => exact .f x y L K ((h.mem x).mpr (.inl hx)) nx (JL.sum (h.draw hx) (heo he nx) k) ((h.mem y).mpr (.inl hy)) ny (JL.sum (h.out hy).dual (heo he ny) k2)
end
end Dz
namespace P01
section
variable {α : Type} [DecidableEq α]
end
section
variable {α τ : Type} [DecidableEq α] [DecidableEq τ] {ps : List α} {a b : τ → α} {le : α → α → Prop} {mn mx : α → α → α}
variable {ns : List τ}
end
end P01
namespace Dz
open PySem PySem.Spec PyProof.Rows L2 Evl Bf
def wk (ps : List Str) (a b : Str → Str) (X : List Str) : Nat := P01.cnt (srt ps) (wm a b X)
structure WbH (ps : List Str) (a b : Str → Str) : Prop where
  nd : ps.Nodup
  ha : ∀ t, a t ∈ ps
  hb : ∀ t, b t ∈ ps
def con (a b : Str → Str) (X : List Str) (p q : Str) : Prop := ∀ g : Str → Str, P01.Even a b X g → g p = g q
section
variable {ps qs : List Str} {a b a' b' : Str → Str} {X Y : List Str}
theorem WbH.w (h : WbH ps a b) : P01.WebH (srt ps) a b (fun x y => leS x y = true) P01.mnS P01.mxS := P01.webH ((srt_perm ps).nodup_iff.mpr h.nd) (fun t => srt_mem.mpr (h.ha t)) fun t => srt_mem.mpr (h.hb t)
theorem WbH.mat (h : WbH ps a b) : P01.Mat (wk ps a b) := h.w.mat
theorem WbH.con_iff (h : WbH ps a b) (X : List Str) (p q : Str) : wm a b X p = wm a b X q ↔ con a b X p q := by
  have M := h.w.marks X
  exact ⟨fun e g hg => by
    have e : P01.wmarks a b P01.mnS P01.mxS X p = P01.wmarks a b P01.mnS P01.mxS X q := e
    rw [← M.back g hg p, ← M.back g hg q, e], fun c => c _ M.even⟩
theorem WbH.cons (h : WbH ps a b) (t : Str) (X : List Str) : (con a b X (a t) (b t) → wk ps a b (t :: X) = wk ps a b X) ∧ (¬ con a b X (a t) (b t) → wk ps a b (t :: X) = wk ps a b X + 1) := by
  have M := h.w.marks X
  have e : wk ps a b (t :: X) = wk ps a b X + (if wm a b X (a t) = wm a b X (b t) then 0 else 1) := by
    show P01.cnt (srt ps) (P01.wmarks a b P01.mnS P01.mxS (t :: X)) = P01.cnt (srt ps) (P01.wmarks a b P01.mnS P01.mxS X) + _
    rw [h.w.eqM (h.w.step_marks M t)]
    exact h.w.cnt_cons M (h.w.inP X) t
  rw [e]
  exact ⟨fun c => by rw [if_pos ((h.con_iff X _ _).mpr c)]; rfl, fun c => by rw [if_neg fun z => c ((h.con_iff X _ _).mp z)]⟩
theorem wk_nil : wk ps a b [] = 0 := by simp [wk, wm, P01.wmarks, P01.cnt]
theorem wk_even (h : WbH ps a b) (h' : WbH ps a' b') (e : ∀ g : Str → Str, P01.Even a b X g ↔ P01.Even a' b' Y g) : wk ps a b X = wk ps a' b' Y := by
  have M := h.w.marks X
  have M' : P01.Marks a' b' (fun x y => leS x y = true) Y (wm a b X) := ⟨(e _).mp M.even, fun g hg => M.back g ((e g).mpr hg), M.low⟩
  unfold wk
  rw [show wm a' b' Y = wm a b X from h'.w.eqM M']
theorem wk_step {c : List Str → Nat} (M : P01.Mat c) (h : WbH ps a b) {k : Nat} {Z : List Str} (h0 : c Z = k) (hs : ∀ (t : Str) (Y : List Str), (∀ x ∈ t :: Y, x ∈ X) → ((con a b Y (a t) (b t)) ↔ c (t :: (Y ++ Z)) = c (Y ++ Z))) : ∀ Y : List Str, (∀ x ∈ Y, x ∈ X) → c (Y ++ Z) = wk ps a b Y + k
  | [], _ => by rw [wk_nil, Nat.zero_add]; exact h0
  | t :: Y, hY => by
    have ih := wk_step M h h0 hs Y fun x hx => hY x (List.mem_cons_of_mem _ hx)
    have := hs t Y hY
    obtain ⟨c1, c2⟩ := h.cons t Y
    have o1 := M.one t (Y ++ Z)
    have o2 := M.mono (X := Y ++ Z) (Y := t :: (Y ++ Z)) fun x hx => List.mem_cons_of_mem _ hx
    show c (t :: (Y ++ Z)) = _
    by_cases q : con a b Y (a t) (b t)
    · have := this.mp q
      have := c1 q
      omega
    · have n : c (t :: (Y ++ Z)) ≠ c (Y ++ Z) := fun z => q (this.mpr z)
      have := c2 q
      omega
theorem WbH.same_iff (h : WbH ps a b) (t : Str) (X : List Str) : wk ps a b (t :: X) = wk ps a b X ↔ con a b X (a t) (b t) := by
  obtain ⟨c1, c2⟩ := h.cons t X
  by_cases q : con a b X (a t) (b t)
  · exact ⟨fun _ => q, fun _ => c1 q⟩
  · have := c2 q
    exact ⟨fun z => by omega, fun z => absurd z q⟩
def mrg (k g : Str) (p : Str) : Str := if p = g then k else p
theorem mrg_keep {k g x : Str} (f : Str → Str) (h : f k = f g) : f (mrg k g x) = f x := by
  unfold mrg
  split
  · rename_i e; rw [e, h]
  · rfl
def mrgP (k g : Str) (ps : List Str) : List Str := ps.filter fun p => decide (p = k) || decide (p ≠ g)
theorem mrgP_mem {k g p : Str} : p ∈ mrgP k g ps ↔ p ∈ ps ∧ (p = k ∨ p ≠ g) := by
  unfold mrgP
  rw [List.mem_filter, Bool.or_eq_true, decide_eq_true_iff, decide_eq_true_iff]
theorem WbH.merged (h : WbH ps a b) (t0 : Str) : WbH (mrgP (a t0) (b t0) ps) (fun t => mrg (a t0) (b t0) (a t)) (fun t => mrg (a t0) (b t0) (b t)) where
  nd := h.nd.filter _
  ha := fun t => mrgP_mem.mpr (by
    unfold mrg
    split
    · exact ⟨h.ha t0, .inl rfl⟩
    · rename_i n; exact ⟨h.ha t, .inr n⟩)
  hb := fun t => mrgP_mem.mpr (by
    unfold mrg
    split
    · exact ⟨h.ha t0, .inl rfl⟩
    · rename_i n; exact ⟨h.hb t, .inr n⟩)
theorem wk_merged (h : WbH ps a b) (t0 : Str) (Y : List Str) : wk ps a b (Y ++ [t0]) = wk (mrgP (a t0) (b t0) ps) (fun t => mrg (a t0) (b t0) (a t)) (fun t => mrg (a t0) (b t0) (b t)) Y + wk ps a b [t0] :=
  wk_step (X := Y) h.mat (h.merged t0) rfl (fun t Z hZ => by
    rw [h.same_iff]
    have m : ∀ x ∈ Z ++ [t0], x ∈ Z ∨ x = t0 := fun x hx => (List.mem_append.mp hx).imp_right List.mem_singleton.mp
    constructor
    · intro c g hg
      have g0 : g (a t0) = g (b t0) := hg t0 (List.mem_append_right _ (List.mem_singleton.mpr rfl))
      have := c g fun s hs => by
        show g (mrg _ _ (a s)) = g (mrg _ _ (b s))
        rw [mrg_keep g g0, mrg_keep g g0]
        exact hg s (List.mem_append_left _ hs)
      have this : g (mrg (a t0) (b t0) (a t)) = g (mrg (a t0) (b t0) (b t)) := this
      rwa [mrg_keep g g0, mrg_keep g g0] at this
    · intro c g hg
      refine c (fun p => g (mrg (a t0) (b t0) p)) fun s hs => ?_
      rcases m s hs with hs | rfl
      · exact hg s hs
      · show g (mrg (a s) (b s) (a s)) = g (mrg (a s) (b s) (b s))
        unfold mrg
        rw [if_pos rfl]
        split <;> rfl) Y fun x hx => hx
theorem wk_two {p1 p2 pu : List Str} {a1 b1 a2 b2 au bu : Str → Str} {z : Str} (h1 : WbH p1 a1 b1) (h2 : WbH p2 a2 b2) (hu : WbH pu au bu) (com : ∀ x, x ∈ p1 → x ∈ p2 → x = z) {X1 X2 : List Str} (e1 : ∀ t ∈ X1, au t = a1 t ∧ bu t = b1 t) (e2 : ∀ t ∈ X2, au t = a2 t ∧ bu t = b2 t) : wk pu au bu (X2 ++ X1) = wk p2 a2 b2 X2 + wk p1 a1 b1 X1 := by
  have s1 : ∀ Y, (∀ x ∈ Y, x ∈ X1) → ∀ g, P01.Even au bu Y g ↔ P01.Even a1 b1 Y g := fun Y hY g => forall_congr' fun t => forall_congr' fun ht => by rw [(e1 t (hY t ht)).1, (e1 t (hY t ht)).2]
  have k1 : wk pu au bu X1 = wk p1 a1 b1 X1 := by
    have := wk_step (X := X1) (Z := []) hu.mat h1 (k := 0) wk_nil (fun t Y hY => by
      rw [List.append_nil, hu.same_iff]
      have ht := e1 t (hY t List.mem_cons_self)
      rw [ht.1, ht.2]
      exact ⟨fun c g hg => c g ((s1 Y (fun x hx => hY x (List.mem_cons_of_mem _ hx)) g).mp hg), fun c g hg => c g ((s1 Y (fun x hx => hY x (List.mem_cons_of_mem _ hx)) g).mpr hg)⟩) X1 fun x hx => hx
    rw [List.append_nil] at this
    exact this
  refine wk_step (X := X2) hu.mat h2 k1 (fun t Y hY => ?_) X2 fun x hx => hx
  rw [hu.same_iff]
  have ht := e2 t (hY t List.mem_cons_self)
  have hY2 : ∀ x ∈ Y, x ∈ X2 := fun x hx => hY x (List.mem_cons_of_mem _ hx)
  rw [ht.1, ht.2]
  constructor
  · intro c g hg
    refine c g fun s hs => ?_
    have := hg s (List.mem_append_left _ hs)
    rwa [(e2 s (hY2 s hs)).1, (e2 s (hY2 s hs)).2] at this
  · intro c g hg
    have key := c (fun x => if x ∈ p2 then g x else g z) fun s hs => ?_
    · simp only [if_pos (h2.ha t), if_pos (h2.hb t)] at key
      exact key
    · rcases List.mem_append.mp hs with hs | hs
      · rw [(e2 s (hY2 s hs)).1, (e2 s (hY2 s hs)).2]
        simp only [if_pos (h2.ha s), if_pos (h2.hb s)]
        exact hg s hs
      · rw [(e1 s hs).1, (e1 s hs).2]
        have all : ∀ x ∈ p1, (if x ∈ p2 then g x else g z) = g z := fun x hx => by
          split
          · rename_i h; rw [com x hx h]
          · rfl
        show (if a1 s ∈ p2 then g (a1 s) else g z) = if b1 s ∈ p2 then g (b1 s) else g z
        rw [all _ (h1.ha s), all _ (h1.hb s)]
end
end Dz
namespace Dz
open PySem PySem.Spec PyProof.Rows L2 Evl Bf
def r_DrInit : DS :=
  (sSeq (sFld' 0 "Drawn" "inner" (xVar 1))
    (sFld' 0 "Drawn" "lot" (xVar 2)))
def drawD (f : D) (gone : List Str) : D := .ins "Drawn" [("inner", f), ("lot", tupS gone)]
def F_DrInit : DF := fun ds A _ => ∃ f gone, ds = [f, tupS gone] ∧ A (drawD f gone)
theorem i_DrInit (ds : List D) (A : D → Prop) (Ax : XQ) (h : F_DrInit ds A Ax) : F_DrInit ds (fun d => ∃ fs, d = .ins "Drawn" fs ∧ A d) Ax := by
  obtain ⟨f, gone, rfl, q⟩ := h
  exact ⟨f, gone, rfl, _, rfl, q⟩
theorem n_DrInit (ds : List D) (A : D → Prop) (Ax : XQ) (h : F_DrInit ds A Ax) : iniD "Drawn" 3 2 r_DrInit ds A Ax := by
  obtain ⟨f, gone, rfl, q⟩ := h
  k_dat r_DrInit "zS1"
  exact ⟨by show 1 < 1000; decide, q⟩
def r_DrCount (F_RankI : DF) : DS :=
  (sRet (xOp2 dSub (xMethF F_RankI (xFld "Drawn" "inner" (xVar 0)) (aCons (xB dTuple (aCons (xB dSorted (aCons (xLst (aStar (xVar 1) (aStar (xFld "Drawn" "lot" (xVar 0)) aNil))) aNil)) aNil)) aNil)) (xMethF F_RankI (xFld "Drawn" "inner" (xVar 0)) (aCons (xFld "Drawn" "lot" (xVar 0)) aNil))))
theorem n_DrCount {F_RankI : DF} (hF : Mono F_RankI) (ds : List D) (A : D → Prop) (Ax : XQ) (h : F_DrCount F_RankI ds A Ax) : fnD 0 2 2 (r_DrCount F_RankI) ds A Ax := by
  obtain ⟨f, ns, lot, gone, r, rfl, hn, l1, l2, s1, s2, hr, q⟩ := h
  have hn2 : (famNs f).isSome = true := by rw [hn]; rfl
  k_dat r_DrCount "zS1"
  refine ⟨f, rfl, hn2, tupS gone, rfl, gone.map D.str, rfl, ?_⟩
  rw [List.append_nil, ← List.map_append]
  refine ⟨by rw [List.length_map, List.length_append]; show _ ≤ 100000; omega, _, sorted_lst (by rw [List.length_append]; omega), _, rfl, hr _ s1 _ _ ?_⟩
  exact ⟨f, rfl, hn2, tupS gone, rfl, hr _ s2 _ _ ⟨_, rfl, q⟩⟩
def r_Inside : DS :=
  (sRet (xFn F_FInit (aCons (xFn F_NLot (aCons (xNames (xVar 0)) (aCons (xVar 1) aNil))) (aCons (xFn F_DrInit (aCons (xVar 0) (aCons (xTup aNil) aNil))) aNil))))
def r_Without : DS :=
  (sRet (xFn F_FInit (aCons (xFn F_Less (aCons (xNames (xVar 0)) (aCons (xFn F_NLot (aCons (xNames (xVar 0)) (aCons (xVar 1) aNil))) aNil))) (aCons (xFn F_DrInit (aCons (xVar 0) (aCons (xTup aNil) aNil))) aNil))))
def r_DrawnIn : DS :=
  (sSeq (sSet 2 (xFn F_NLot (aCons (xNames (xVar 0)) (aCons (xVar 1) aNil))))
    (sRet (xFn F_FInit (aCons (xFn F_Less (aCons (xNames (xVar 0)) (aCons (xVar 2) aNil))) (aCons (xFn F_DrInit (aCons (xVar 0) (aCons (xVar 2) aNil))) aNil)))))
theorem fam_draw {k : Nat} {f : D} {ns ms gone : List Str} {r : List Str → Nat} (hf : FamK k f ns r) (hm : ms.Sublist ns) (hg : gone.Sublist ns) (dj : ∀ x ∈ ms, x ∉ gone) (mono : ∀ X : List Str, X.Sublist ms → r gone ≤ r (srt (X ++ gone))) {A : D → Prop} (q : ∀ d, FamK (k + 1) d ms (fun X => r (srt (X ++ gone)) - r gone) → A d) : ∃ g, A (.fam ms (drawD f gone) g) := by
  obtain ⟨g, hg2⟩ := rk_ex (subs ms) fun X => r (srt (X ++ gone)) - r gone
  have hn : famNs f = some ns := hf.names
  have so : srt ms = ms := srt_of_sub hf.so hm
  have l20 := hf.l20
  have lm := hm.length_le
  have lg := hg.length_le
  refine ⟨g, q _ ⟨⟨_, _, rfl⟩, fun lot hs A Ax q => ?_, by omega, hf.nd.sublist hm, so, fun x hx => hf.ok x (hm.subset hx)⟩⟩
  have e := hg2 lot (mem_subs hs)
  have ll := hs.length_le
  have sl : (srt (lot ++ gone)).Sublist ns := srt_sub hf.so (List.nodup_append.mpr ⟨(hf.nd.sublist hm).sublist hs, hf.nd.sublist hg, fun a ha b hb z => dj a (hs.subset ha) (z ▸ hb)⟩) hf.nd fun x hx => (List.mem_append.mp hx).elim (fun z => hm.subset (hs.subset z)) fun z => hg.subset z
  refine ⟨ms, drawD f gone, g, lot, "Drawn", F_DrCount (F_RK k), _, rfl, ⟨hs, .inl (by omega)⟩, rfl, List.mem_append_right _ (List.mem_filter.mpr ⟨by simp, show decide (("Drawn" : Str) ∈ rkS) = true by decide⟩), rfl, ⟨f, ns, lot, gone, r, rfl, hn, by omega, by omega, sl, hg, hf.rk, ?_⟩, by rw [e]; exact q⟩
  rw [e]
  have := mono lot hs
  congr 1
  omega
theorem less_srt (ns lot : List Str) : lessL ns (srt lot) = P01.outN ns lot := List.filter_congr fun x _ => decide_eq_decide.mpr (not_congr srt_mem)
theorem fam_part {k : Nat} {f : D} {ns ms : List Str} {c : List Str → Nat} (fw : FamWK k f ns c) (hm : ms.Sublist ns) {A : D → Prop} (q : ∀ d, FamWK (k + 1) d ms c → A d) : ∃ g, A (.fam ms (drawD f []) g) := by
  have M := fw.mat
  refine fam_draw fw.fam hm (List.nil_sublist _) (fun x _ z => (List.not_mem_nil z).elim) (fun X _ => by rw [M.zero]; omega) fun d hd => q d ⟨hd.congr fun X hs => ?_, M, fun x hx => fw.nm x (hm.subset hx)⟩
  rw [M.zero, List.append_nil, M.perm (srt_perm X)]
  rfl
theorem fam_drawn {k : Nat} {f : D} {ns gone : List Str} {c : List Str → Nat} (fw : FamWK k f ns c) (hg : LotOk ns gone) {A : D → Prop} (q : ∀ d, FamWK (k + 1) d (P01.outN ns gone) (P01.drawC c gone) → A d) : ∃ g, A (.fam (P01.outN ns gone) (drawD f (srt gone)) g) := by
  have M := fw.mat
  have eg : c (srt gone) = c gone := M.perm (srt_perm gone)
  have ec : ∀ X : List Str, c (srt (X ++ srt gone)) = c (X ++ gone) := fun X => by
    rw [M.perm (srt_perm _)]
    exact M.perm ((srt_perm gone).append_left X)
  refine fam_draw fw.fam List.filter_sublist (fw.fam.srt_sub hg) (fun x h z => (P01.mem_out.mp h).2 (srt_mem.mp z)) (fun X _ => by rw [ec, eg]; exact P01.draw_le M gone X) fun d hd => q d ⟨hd.congr fun X hs => ?_, P01.draw_mat M gone, fun x hx => fw.nm x (P01.mem_out.mp hx).1⟩
  rw [ec, eg]
  rfl
def F_Inside : DF := fun ds A _ => ∃ f ns c k lot, ds = [f, lstS lot] ∧ FamWK k f ns c ∧ LotOk ns lot ∧ ∀ d, FamWK (k + 1) d (srt lot) c → A d
theorem n_Inside (ds : List D) (A : D → Prop) (Ax : XQ) (h : F_Inside ds A Ax) : fnD 0 2 2 r_Inside ds A Ax := by
  obtain ⟨f, ns, c, k, lot, rfl, fw, hl, q⟩ := h
  k_dat r_Inside "zS1"
  have l20 := fw.fam.l20
  have ll := lot_len hl
  refine ⟨ns, fw.fam.names, tupS ns, ns, lot, rfl, .inr rfl, by omega, ?_⟩
  rw [fw_none.mpr ⟨hl.nd, hl.sub⟩]
  obtain ⟨g, hg⟩ := fam_part fw (fw.fam.srt_sub hl) q
  exact ⟨by decide, f, [], rfl, srt lot, drawD f [], tupS (srt lot), g, rfl, .inr rfl, by rw [srt_len]; omega, rfl, hg⟩
def F_Without : DF := fun ds A _ => ∃ f ns c k lot, ds = [f, lstS lot] ∧ FamWK k f ns c ∧ LotOk ns lot ∧ ∀ d, FamWK (k + 1) d (P01.outN ns lot) c → A d
theorem n_Without (ds : List D) (A : D → Prop) (Ax : XQ) (h : F_Without ds A Ax) : fnD 0 2 2 r_Without ds A Ax := by
  obtain ⟨f, ns, c, k, lot, rfl, fw, hl, q⟩ := h
  k_dat r_Without "zS1"
  have l20 := fw.fam.l20
  have ll := lot_len hl
  refine ⟨ns, fw.fam.names, ns, fw.fam.names, tupS ns, ns, lot, rfl, .inr rfl, by omega, ?_⟩
  rw [fw_none.mpr ⟨hl.nd, hl.sub⟩]
  obtain ⟨g, hg⟩ := fam_part fw (List.filter_sublist : (P01.outN ns lot).Sublist ns) q
  refine ⟨ns, tupS (srt lot), srt lot, rfl, .inr rfl, by omega, ?_⟩
  rw [less_srt]
  have lo := lot_len (out_lot fw.fam.nd lot)
  exact ⟨by decide, f, [], rfl, P01.outN ns lot, drawD f [], tupS (P01.outN ns lot), g, rfl, .inr rfl, by omega, rfl, hg⟩
def F_DrawnIn : DF := fun ds A _ => ∃ f ns c k lot, ds = [f, lstS lot] ∧ FamWK k f ns c ∧ LotOk ns lot ∧ ∀ d, FamWK (k + 1) d (P01.outN ns lot) (P01.drawC c lot) → A d
theorem n_DrawnIn (ds : List D) (A : D → Prop) (Ax : XQ) (h : F_DrawnIn ds A Ax) : fnD 0 3 2 r_DrawnIn ds A Ax := by
  obtain ⟨f, ns, c, k, lot, rfl, fw, hl, q⟩ := h
  k_dat r_DrawnIn "zS1"
  have l20 := fw.fam.l20
  have ll := lot_len hl
  refine ⟨ns, fw.fam.names, tupS ns, ns, lot, rfl, .inr rfl, by omega, ?_⟩
  rw [fw_none.mpr ⟨hl.nd, hl.sub⟩]
  obtain ⟨g, hg⟩ := fam_drawn fw hl q
  refine ⟨ns, fw.fam.names, ns, tupS (srt lot), srt lot, rfl, .inr rfl, by omega, ?_⟩
  rw [less_srt]
  have lo := lot_len (out_lot fw.fam.nd lot)
  exact ⟨f, srt lot, rfl, P01.outN ns lot, drawD f (srt lot), tupS (P01.outN ns lot), g, rfl, .inr rfl, by omega, rfl, hg⟩
end Dz
namespace Dz
open PySem PySem.Spec PyProof.Rows L2 Evl Bf
structure LockT {K : PySem.W.Frag} (T : Th K) : Prop where
  ok : ∀ {H : Hp} {d : Addr} {ob : Obj} {vs : List (Key × V)}, T.Ok H → H d = some (.dK vs) → T.Ok (upd H d (.frz ob (.dK vs)))
  un : ∀ {H G : Hp} {d : Addr} {ob : Obj} {vs : List (Key × V)}, H d = some (.dK vs) → T.Gr (upd H d (.frz ob (.dK vs))) G → T.Ok G → T.Ok (upd G d (.dK vs)) ∧ T.Gr H (upd G d (.dK vs))
theorem lock1 (K : PySem.W.Frag) : LockT (T1 K) where
  ok := fun {H d ob vs} ok hd => by
    have look : ∀ {a : Addr} {o : HO}, (upd H d (.frz ob (.dK vs))) a = some o → (∀ oo u, o ≠ .frz oo u) → H a = some o := fun {a o} e n => by
      by_cases z : a = d
      · rw [z, upd_same] at e; exact absurd (Option.some.inj e).symm (n _ _)
      · rwa [upd_ne z] at e
    have put : ∀ {a : Addr} {o : HO}, H a = some o → (∀ ks, o ≠ .dK ks) → (upd H d (.frz ob (.dK vs))) a = some o := fun {a o} e n => by
      rw [upd_ne fun z => by rw [z, hd] at e; exact n _ (Option.some.inj e).symm]; exact e
    refine ⟨fun a dx t s c g q => ?_, fun a a' dx dx' t t' s s' c g g' q q' => ok.one _ _ _ _ _ _ _ _ _ _ _ (look q fun _ _ z => by cases z) (look q' fun _ _ z => by cases z)⟩
    obtain ⟨ns, ks, h1, h2, h3, h4⟩ := ok.ok _ _ _ _ _ _ (look q fun _ _ z => by cases z)
    exact ⟨ns, ks, put h1 (fun _ z => by cases z), h2, put h3 (fun _ z => by cases z), h4⟩
  un := fun {H G d ob vs} hd g ok => by
    have gd : G d = some (.frz ob (.dK vs)) := g.k1 d _ upd_same fun _ z => by cases z
    have look : ∀ {a : Addr} {o : HO}, (upd G d (.dK vs)) a = some o → (∀ ks, o ≠ .dK ks) → G a = some o ∧ a ≠ d := fun {a o} e n => by
      by_cases z : a = d
      · rw [z, upd_same] at e; exact absurd (Option.some.inj e).symm (n _)
      · rw [upd_ne z] at e; exact ⟨e, z⟩
    have put : ∀ {a : Addr} {o : HO}, G a = some o → (∀ oo u, o ≠ .frz oo u) → (upd G d (.dK vs)) a = some o := fun {a o} e n => by
      rw [upd_ne fun z => by rw [z, gd] at e; exact n _ _ (Option.some.inj e).symm]; exact e
    have up : ∀ {a : Addr} {o : HO}, H a = some o → a ≠ d → (upd H d (.frz ob (.dK vs))) a = some o := fun {a o} e n => by rw [upd_ne n]; exact e
    have memo : ∀ {c : Addr}, isMemo K (upd H d (.frz ob (.dK vs))) c ↔ isMemo K H c := fun {c} => by
      constructor
      · rintro ⟨a, dx, t, s, gg, q⟩
        refine ⟨a, dx, t, s, gg, ?_⟩
        by_cases z : a = d
        · rw [z, upd_same] at q; cases q
        · rwa [upd_ne z] at q
      · rintro ⟨a, dx, t, s, gg, q⟩
        exact ⟨a, dx, t, s, gg, by rw [upd_ne fun z => by rw [z, hd] at q; cases q]; exact q⟩
    refine ⟨⟨fun a dx t s c gg q => ?_, fun a a' dx dx' t t' s s' c gg gg' q q' => ok.one _ _ _ _ _ _ _ _ _ _ _ (look q fun _ z => by cases z).1 (look q' fun _ z => by cases z).1⟩, ⟨fun a o e n => ?_, fun a ks e => ?_, fun a ks e n => ?_, fun c z n => ?_⟩⟩
    · obtain ⟨ns, ks, h1, h2, h3, h4⟩ := ok.ok _ _ _ _ _ _ (look q fun _ z => by cases z).1
      exact ⟨ns, ks, put h1 (fun _ _ z => by cases z), h2, put h3 (fun _ _ z => by cases z), h4⟩
    · by_cases z : a = d
      · subst z; rw [hd] at e; rw [upd_same]; exact e
      · rw [upd_ne z]; exact g.k1 a o (up e z) n
    · have z : a ≠ d := fun z => by rw [z, hd] at e; cases e
      obtain ⟨k', h⟩ := g.k2 a ks (up e z)
      exact ⟨k', by rw [upd_ne z]; exact h⟩
    · have z : a ≠ d := fun z => by rw [z, hd] at e; cases e
      rw [upd_ne z]
      exact g.k3 a ks (up e z) fun q => n (memo.mp q)
    · obtain ⟨a, dx, t, s, gg, q⟩ := z
      refine memo.mp (g.k4 c ⟨a, dx, t, s, gg, (look q fun _ z => by cases z).1⟩ ?_)
      by_cases e : c = d
      · rw [e, upd_same]; exact fun z => by cases z
      · rw [upd_ne e]; exact n
theorem ER.lock {K : PySem.W.Frag} {H : Hp} {ow0 : Addr → Prop} {fr : Fr} {O : List Nat} {σ : L2.St} {ρ : Ro} {d : Addr} {ob : Obj} {vs : List (Key × V)} (e : ER K H ow0 fr O σ ρ) (hd : H d = some (.dK vs)) (nd : ¬ owOf ow0 O σ d) : ER K (upd H d (.frz ob (.dK vs))) ow0 fr O σ ρ where
  val := fun i x h n m => let ⟨v, h1, h2⟩ := e.val i x h n m; ⟨v, h1, h2.mv (Mv.lock hd)⟩
  own := fun i h l => by
    obtain ⟨a, x, h1, h2, h3, h4, h5⟩ := e.own i h l
    have ne : a ≠ d := fun z => nd (.inr ⟨i, h, z ▸ h2⟩)
    exact ⟨a, x, h1, h2, h3, h4.mv (Mv.lock hd) (fun o z _ => by rw [upd_ne ne]; exact z) (hl2 := fun _ => keepD_put ne (by intro _ _ _ z; cases z)), h5⟩
  frm := fun p hp => (e.frm p hp).mv (Mv.lock hd)
  dep := let ⟨rg, h⟩ := e.dep; ⟨rg, fun i l hi => (h i l hi).mv (Mv.lock hd) (fun a z _ o q _ => by rw [upd_ne fun q2 : a = d => nd (.inl (q2 ▸ z))]; exact q) fun a z _ n => ⟨z, n⟩⟩
  nwq := fun i hi => let ⟨v, x, h1, h2, h3⟩ := e.nwq i hi; ⟨v, x, h1, h2, h3.mv (Mv.lock hd)⟩
  trk := fun a h => by
    by_cases z : a = d
    · rw [z, upd_same]; exact fun z => by cases z
    · rw [upd_ne z]; exact e.trk a h
  len := e.len
  slt := e.slt
  sml := e.sml
def WlkG {K : PySem.W.Frag} (T : Th K) (J : It) (items : List D) (H1 : Hp) : Prop := ∀ G, T.Ok G → T.Gr H1 G → (∀ i, i < items.length → J.go i G) ∧ J.stop items.length G ∧ ∀ i x G', i < items.length → J.yld i G x G' → T.Ok G' ∧ T.Gr G G' ∧ ∃ d, items[i]? = some d ∧ ∀ ow, Rep K G' ow x d
theorem repK_keysD {K : PySem.W.Frag} {H : Hp} {ow : Addr → Prop} : ∀ {vs : List (Key × V)} {kvs : List (Key × D)}, RepK K H ow vs kvs → kvs.map (fun p => kD p.1) = vs.map fun p => kD p.1
  | _, _, .nil => rfl
  | _, _, .cons a b => by rw [List.map_cons, List.map_cons, repK_keysD b]
theorem kD_rep {K : PySem.W.Frag} {H : Hp} (ow : Addr → Prop) (k : Key) : Rep K H ow (kV k) (kD k) := by
  cases k with
  | inl i => exact .int i
  | inr x => exact .str x
theorem wlk_keys {K : PySem.W.Frag} {T : Th K} {d : Addr} {ob : Obj} {vs : List (Key × V)} {H1 : Hp} (h : H1 d = some (.frz ob (.dK vs))) : WlkG T (Itk d ob vs) (vs.map fun p => kD p.1) H1 := fun G ok g => by
  have gd : G d = some (.frz ob (.dK vs)) := T.keep g h fun _ z => by cases z
  rw [List.length_map]
  refine ⟨fun i hi => ⟨gd, hi⟩, ⟨gd, Nat.le_refl _⟩, fun i x G' hi y => ?_⟩
  obtain ⟨rfl, k, v, hk, rfl⟩ := y
  refine ⟨ok, T.refl _, kD k, ?_, fun ow => kD_rep ow k⟩
  rw [List.getElem?_map, hk]
  rfl
def lcBody (J : It) (g : TG) (tt : TT) (te : TE) (vs : List Nat) (σ : L2.St) (H1 : Hp) (Q : VK) : Prop := ∀ D, H1 D = none → ∃ W : Nat → Nat → Hp → Prop, (∃ m, W 0 m (upd H1 D (.lst []))) ∧ ∀ i m H, W i m H →
  (J.stop i H ∧ Q (.ref D) H) ∨ (J.go i H ∧ ∃ Nx : Hp → Prop, (∀ H', Nx H' → ∃ m', m' < m ∧ W (i + 1) m' H') ∧ ∀ x H', J.yld i H x H' → g x (wipe σ vs) H' fun σ2 H2 => wipe σ2 vs = wipe σ vs ∧ tt σ2 H2 fun b H3 =>
    if b = true then te σ2 H3 fun y H4 => ∃ acc, H4 D = some (.lst acc) ∧ acc.length < sizeLine ∧ Nx (upd H4 D (.lst (acc ++ [y]))) else Nx H3)
section
variable {X : Cx} {T : Th X.K} {W : WX} {O is vs : List Nat} {tg iter elt : Expr} {ifs : List Expr} {g : DG} {t : DT} {e : DX} {pos : Pos} {scope : Scope} {own : List (Str × Nat)}
theorem lc_grow {σ : L2.St} {H1 : Hp} {Q : VK} {ρ : Ro} {ow0 : Addr → Prop} {fr : Fr} {A : D → Prop} {items : List D} {J : It} (hv : (vs.all fun i => fre O i) = true) (hi : (is.all fun i => vs.contains i) = true) (ok1 : T.Ok H1) (er1 : ER X.K H1 ow0 fr O σ ρ) (hl : items.length ≤ big) (qi : lcL ρ vs g t e items [] fun ys => A (.lst ys)) (wk : WlkG T J items H1)
    (k : ∀ d p G, A d → T.Ok G → T.Gr H1 G → H1 p = none → OwnR X.K G (fun a => owOf ow0 O σ a ∨ a = p) p d → Q (.ref p) G) : lcBody J (gOf T O is g) (tOf T W0 O t) (eOf T W0 O e) vs σ H1 Q := by
  have hV' : ∀ i ∈ vs, fre O i = true := fun i hi => List.all_eq_true.mp hv i hi
  have hV : ∀ i ∈ vs, i ∉ O := fun i hi => (fre_of (hV' i hi)).1
  have hI : ∀ i ∈ is, i ∈ vs := fun i h => by simpa using List.all_eq_true.mp hi i h
  intro p hp
  obtain ⟨n1, n2⟩ := T.new (o := .lst []) ok1 hp rfl
  have er2 := (er1.more T hp n2).wipe hV'
  have eo : owOf (fun a => ow0 a ∨ a = p) O (wipe σ vs) = fun a => owOf ow0 O σ a ∨ a = p := by rw [ow_wipe hV, ow_more]
  refine ⟨fun i m G => m = items.length - i ∧ i ≤ items.length ∧ ∃ acc av, T.Ok G ∧ T.Gr H1 G ∧ ER X.K G (fun a => ow0 a ∨ a = p) { vd := fr.vd, iw := fun a => fr.iw a ∨ a = p } O (wipe σ vs) (wipeR ρ vs) ∧ G p = some (.lst av) ∧
      RepL X.K G (fun a => owOf ow0 O σ a ∨ a = p) av acc ∧ acc.length ≤ i ∧ lcL ρ vs g t e (items.drop i) acc fun ys => A (.lst ys), ⟨items.length, by simp, Nat.zero_le _, [], [], n1, n2, ⟨er2.val, er2.own, er2.frm, er2.dep, er2.nwq, er2.trk, er2.len, (fun v z => nomatch z), er2.sml⟩, upd_same, .nil, Nat.zero_le _, by rw [List.drop_zero]; exact qi⟩, ?_⟩
  rintro i m G ⟨rfl, hi, acc, av, okG, gG, erG, hG, lG, al, qG⟩
  have trG : ∀ a, (fun a => owOf ow0 O σ a ∨ a = p) a → G a ≠ none := by rw [← eo]; exact erG.otrk
  obtain ⟨w1, w2, w3⟩ := wk G okG gG
  by_cases hlt : i < items.length
  · refine .inr ⟨w1 i hlt, fun G' => i + 1 ≤ items.length ∧ ∃ acc av, T.Ok G' ∧ T.Gr H1 G' ∧ ER X.K G' (fun a => ow0 a ∨ a = p) { vd := fr.vd, iw := fun a => fr.iw a ∨ a = p } O (wipe σ vs) (wipeR ρ vs) ∧ G' p = some (.lst av) ∧
      RepL X.K G' (fun a => owOf ow0 O σ a ∨ a = p) av acc ∧ acc.length ≤ i + 1 ∧ lcL ρ vs g t e (items.drop (i + 1)) acc fun ys => A (.lst ys), fun G' h' => ⟨items.length - (i + 1), by omega, rfl, h'⟩, fun x G2 y => ?_⟩
    obtain ⟨ok2, g2, d, hd, rx⟩ := w3 i x G2 hlt y
    have e1 : items.drop i = d :: items.drop (i + 1) := by
      rw [List.drop_eq_getElem_cons hlt]
      rw [List.getElem?_eq_getElem hlt] at hd
      rw [Option.some.inj hd]
    rw [e1] at qG
    have er3 := erG.gr T g2
    have rx := rx (owOf (fun a => ow0 a ∨ a = p) O (wipe σ vs))
    refine ⟨wipeR ρ vs, _, { vd := fr.vd, iw := fun a => fr.iw a ∨ a = p }, d, _, ok2, er3, rx, qG, fun τ ρ' erT sb qT => ⟨wipe_same sb hI, ?_⟩⟩
    have eoT : owOf (fun a => ow0 a ∨ a = p) O τ = fun a => owOf ow0 O σ a ∨ a = p := by
      rw [← eo]
      exact ow_same sb fun i z => hV i (hI i z)
    have lo : ∀ {L : Hp}, T.Gr G L → T.Ok L → lcL ρ vs g t e (items.drop (i + 1)) acc (fun ys => A (.lst ys)) → (i + 1 ≤ items.length ∧ ∃ acc av, T.Ok L ∧ T.Gr H1 L ∧ ER X.K L (fun a => ow0 a ∨ a = p) { vd := fr.vd, iw := fun a => fr.iw a ∨ a = p } O (wipe σ vs) (wipeR ρ vs) ∧ L p = some (.lst av) ∧
      RepL X.K L (fun a => owOf ow0 O σ a ∨ a = p) av acc ∧ acc.length ≤ i + 1 ∧ lcL ρ vs g t e (items.drop (i + 1)) acc fun ys => A (.lst ys)) := fun gL okL qL =>
      ⟨hlt, acc, av, okL, T.trans gG gL, erG.gr T gL, T.keep gL hG (fun _ z => by cases z), lG.gr T gL, by omega, qL⟩
    refine ⟨ρ', _, { vd := fr.vd, iw := fun a => fr.iw a ∨ a = p }, _, _, ok2, erT, qT, fun b L qb okL gL => ?_, fun x d G a => absurd a (fun z => z)⟩
    have g3 := T.trans g2 gL
    cases b with
    | false => exact lo g3 okL qb
    | true =>
      refine ⟨ρ', _, { vd := fr.vd, iw := fun a => fr.iw a ∨ a = p }, _, _, okL, erT.gr T gL, qb, fun y v L2 qy okL2 gL2 ry => ?_, fun x d G a => absurd a (fun z => z)⟩
      have g4 := T.trans g3 gL2
      have hp4 := T.keep g4 hG (fun _ z => by cases z)
      have al2 : av.length < 100000 := by
        have h1 : av.length = acc.length := lG.length
        have h2 : items.length ≤ 100000 := hl
        omega
      refine ⟨av, hp4, sz_lt al2, hlt, acc ++ [y], av ++ [v], ?_⟩
      rw [eoT] at ry
      obtain ⟨p1, p2⟩ := T.put (o' := .lst (av ++ [v])) (T.trans gG g4) hp okL2 hp4 (fun _ z => by cases z) (fun _ z => by cases z) (fun _ z => by cases z) rfl rfl
      have mp : Mv X.K L2 (fun a => owOf ow0 O σ a ∨ a = p) (upd L2 p (.lst (av ++ [v]))) (fun a => owOf ow0 O σ a ∨ a = p) := Mv.put hp4 (fun _ z => by cases z) (fun _ z => by cases z) (fun _ _ z => by cases z) (fun _ z => by cases z) (.inr rfl) fun a z => z
      exact ⟨p1, p2, (erG.gr T g4).put0 hp4 (fun _ z => by cases z) (fun _ z => by cases z) (fun _ _ z => by cases z) (fun _ z => by cases z) (.inr rfl) (.inr rfl), upd_same, ((lG.gr T g4).mv mp).append (.cons (ry.mv mp) .nil), by rw [List.length_append]; show acc.length + 1 ≤ i + 1; omega, qy⟩
  · have e1 : i = items.length := by omega
    subst e1
    rw [List.drop_length] at qG
    exact .inl ⟨w2, k _ p G qG okG gG hp (.lst hG lG)⟩
end
section
variable {X : Cx} {T : Th X.K} {W : WX} {O is vs : List Nat} {tg iter kx vx : Expr} {ifs : List Expr} {g : DG} {t : DT} {ek ev : DX} {pos : Pos} {scope : Scope} {own : List (Str × Nat)}
end
def iKey (φ : DX) : DI := fun ρ A Ax => φ ρ (fun x => ∃ kvs, x = .dic kvs ∧ A (kvs.map fun p => kD p.1)) Ax
def PathE (X : Cx) (O : List Nat) (e : Expr) (φ : DX) : Prop := ∃ td : TE, PE X e td ∧ ∀ σ H ρ ow0 fr A Ax, ER X.K H ow0 fr O σ ρ → φ ρ A Ax → ∃ v d, A d ∧ Rep X.K H (owOf ow0 O σ) v d ∧ ∀ H', Mv X.K H (owOf ow0 O σ) H' (owOf ow0 O σ) → ∀ Q : VK, Q v H' → td σ H' Q
section
variable {X : Cx} {O : List Nat} {e : Expr} {φ : DX} {pos : Pos}
theorem path_var {i : Nat} {x : Str} (hN : X.N[i]? = some x) (hv : Vis X.env.scope x) (hO : vis O i = true) (hd : (x == ("__debug__" : Str)) = false := by decide) (hcd : (x == ("__classdict__" : Str)) = false := by decide) : PathE X O (.Name x pos) (xVar i) :=
  ⟨_, pe_var hN hv hd hcd, fun σ H ρ ow0 fr A Ax er ⟨d, h1, h2⟩ => by
    obtain ⟨v, e1, r⟩ := er.val i d h1 (vis_of hO).1 (vis_of hO).2
    exact ⟨v, d, h2, r, fun H' m Q q => ⟨v, e1, q⟩⟩⟩
end
section
variable {X : Cx} {T : Th X.K} {W : WX} {O is : List Nat} {tg iter elt kx vx : Expr} {ifs : List Expr} {φ : DX} {g : DG} {t : DT} {e ek ev : DX} {pos : Pos} {scope : Scope} {own : List (Str × Nat)}
theorem post_un (L : LockT T) {H : Hp} {ow : Addr → Prop} {a : Addr} {od : Obj} {vs : List (Key × V)} (raw : H a = some (.dK vs)) {Q : VK} {A : D → Prop} (k : ∀ d v G, A d → T.Ok G → T.Gr H G → PostR X.K H G ow 1 v d → Q v G) :
    ∀ d p G, A d → T.Ok G → T.Gr (upd H a (.frz od (.dK vs))) G → (upd H a (.frz od (.dK vs))) p = none → OwnR X.K G (fun b => ow b ∨ b = p) p d → G a = some (.frz od (.dK vs)) ∧ Q (.ref p) (upd G a (.dK vs)) := fun d p G hA okG gG hp o => by
  have ga : G a = some (.frz od (.dK vs)) := T.keep gG upd_same fun _ z => by cases z
  have pa : p ≠ a := fun z => by rw [z, upd_same] at hp; cases hp
  obtain ⟨u1, u2⟩ := L.un raw gG okG
  refine ⟨ga, k d _ _ hA u1 u2 ⟨p, rfl, by rwa [upd_ne pa] at hp, ?_⟩⟩
  exact o.mv (Mv.unlock ga) (fun o z _ => by rw [upd_ne pa]; exact z) (hl2 := fun _ => keepD_put pa (by intro _ _ _ z; cases z))
theorem bf_lcK (L : LockT T) (hc : X.calm = true) (hN : X.N.Nodup) (P : PathE X O iter φ) (ok : BlkOk X.N X.env.scope scope own)
    (hg : ∀ (s : Shared) (H : Hp) (C : Addr) (cl : List (Str × Addr)) (fp : List Addr), PG (X.blk s H scope (compEnvC scope cl C X.env) fp) tg (gOf (K := X.K) T O is g))
    (ht : ∀ (s : Shared) (H : Hp) (C : Addr) (cl : List (Str × Addr)) (fp : List Addr), PTs (X.blk s H scope (compEnvC scope cl C X.env) fp) ifs (tOf (K := X.K) T W0 O t)) (he : ∀ (s : Shared) (H : Hp) (C : Addr) (cl : List (Str × Addr)) (fp : List Addr), PE (X.blk s H scope (compEnvC scope cl C X.env) fp) elt (eOf (K := X.K) T W0 O e)) (hv : ((own.map (·.2)).all fun i => fre O i) = true) (hI : (is.all fun i => (own.map (·.2)).contains i) = true)
    (hs : ∀ x, foldedSetIterable iter X.env x = pure x := by intro _; rfl) : PE X (.ListComp elt [⟨tg, iter, ifs, 0⟩] scope pos) (efOf T W O (xLc (iKey φ) (own.map (·.2)) g t e)) := by
  obtain ⟨td, hp, path⟩ := P
  have h0 := pe_lc hc hN (pi_keys hp) ok hg ht he hs (pos := pos)
  refine ⟨fun pins s σ H Q I h => ?_⟩
  obtain ⟨ρ, ow0, fr, A, Ax, okH, er, q, k, _⟩ := h
  obtain ⟨v, dd, ⟨kvs, rfl, hl, qi⟩, r, tr⟩ := path σ H ρ ow0 fr _ Ax er q
  cases r with
  | @dic a vs _ hd nd rk =>
    rw [repK_keysD rk] at hl qi
    rcases hd with raw | ⟨ob, fz⟩
    · exact (pe_lock h0).run pins s σ H Q I ⟨a, .dK vs, raw, trivial, fun od => tr (upd H a (.frz od (.dK vs))) (Mv.lock raw) _ ⟨a, od, rfl, .inl ⟨vs, upd_same, lc_grow (Q := fun v H' => H' a = some (.frz od (.dK vs)) ∧ Q v (upd H' a (.dK vs))) hv hI (L.ok okH raw) (er.lock raw nd) hl qi (wlk_keys upd_same) (post_un (od := od) L raw k)⟩⟩⟩
    · exact h0.run pins s σ H Q I (tr H (Mv.less fun _ z => z) _ ⟨a, ob, rfl, .inl ⟨vs, fz, lc_grow hv hI okH er hl qi (wlk_keys fz) fun d p G hA okG gG hp o => k d _ G hA okG gG ⟨p, rfl, hp, o⟩⟩⟩)
end
end Dz
namespace Dz
open PySem PySem.Spec PyProof.Rows L2 Evl Bf
section
variable {X : Cx} {T : Th X.K} {W : WX} {fz : Nat} {O Ol : List Nat} {xd xe xx : Str} {i j x : Nat} {tg : Expr} {p p1 p2 p3 p4 p5 p6 p7 pos : Pos}
end
end Dz
namespace Bf
open PySem PySem.Spec PyProof.Rows L2 Bs
end Bf
namespace Dz
open PySem PySem.Spec PyProof.Rows L2 Evl Bf
section
variable {X : Cx} {T : Th X.K} {W : WX} {O : List Nat} {a b : Expr} {φs : DA} {p p2 q pos : Pos}
end
end Dz
namespace Bs
open PySem PySem.Spec PyProof.Rows L2
section
variable {pr : Program} {w : World}
def SetK (pr : Program) (w : World) (h : Heap) (a : Addr) (S : Key → Bool) (n : Nat) : Prop :=
  ∃ o es ep t, h.get? a = some o ∧ o.ExactSet ∧ o.data = .set es ep t ∧ ElemsOf (mixKind pr w) es.toList ∧ (∀ k, S k = true ↔ ∃ e ∈ es.toList, (mixKind pr w).is k e.2 = true) ∧
    es.size < scanBound ∧ t.fits es.size = true ∧ es.size = n ∧ Ris t.place.toList ∧ (w.params.followText "set-order" = true ∨ t.led = true)
theorem SetK.at {h h' : Heap} {a : Addr} {S : Key → Bool} {n : Nat} (R : SetK pr w h a S n) (k : ∀ o, h.get? a = some o → h'.get? a = some o) : SetK pr w h' a S n := by
  obtain ⟨o, es, ep, t, ho, r⟩ := R
  exact ⟨o, es, ep, t, k o ho, r⟩
theorem SetK.congr {h : Heap} {a : Addr} {S S' : Key → Bool} {n : Nat} (R : SetK pr w h a S n) (e : ∀ k, S' k = S k) : SetK pr w h a S' n := by
  rw [show S' = S from funext e]; exact R
variable {A : Around} {E : Value → Shared → Prop} {s : Shared} {a : Addr} {S : Key → Bool} {n : Nat}
def HasL (pr : Program) (w : World) (h : Heap) (a : Addr) (l : List Key) : Prop := SetK pr w h a (hasK l) l.length
theorem HasL.stay {h h' : Heap} {a : Addr} {l : List Key} (x : HasL pr w h a l) (k : ∀ o, h.get? a = some o → h'.get? a = some o) : HasL pr w h' a l := SetK.at x k
theorem HasL.step {h : Heap} {a : Addr} {l : List Key} {k : Key} (x : SetK pr w h a (fun k' => hasK l k' || decide (k' = k)) (if hasK l k = true then l.length else l.length + 1)) : HasL pr w h a (stepK l k) := by
  have e1 : (fun k' => hasK l k' || decide (k' = k)) = hasK (stepK l k) := funext fun k' => by
    unfold stepK
    by_cases c : hasK l k = true
    · rw [if_pos c]
      by_cases e : k' = k
      · subst e; simp [c]
      · simp [e]
    · rw [if_neg c]
      unfold hasK
      rw [List.any_append]
      by_cases e : k' = k
      · subst e; simp
      · have e' : ¬ k = k' := fun z => e z.symm
        simp [e, e']
  have e2 : (if hasK l k = true then l.length else l.length + 1) = (stepK l k).length := by
    unfold stepK
    split
    · rfl
    · rw [List.length_append]; rfl
  unfold HasL
  rw [← e1, ← e2]
  exact x
variable {R : Result → Shared → Prop} {I : Addr} {fp wr : List Addr} {G : Array GenState → Array GenState → Prop} {P : Nat → Value → Prop} {St : Nat → Shared → Prop}
end
section
variable {pr : Program} {w : World} {A : Around} {E : Value → Shared → Prop} {s : Shared} {l : Addr} {its : Array Value} {ks : List Key}
end
end Bs
namespace Bs
open PySem PySem.Spec PyProof.Rows L2
section
variable {pr : Program} {w : World} {A : Around} {E : Value → Shared → Prop} {s : Shared} {a : Addr}
end
section
variable {X : Cx}
end
end Bs
namespace Dz
open PySem PySem.Spec PyProof.Rows L2 Evl Bf
end Dz
namespace Bs
open PySem PySem.Spec PyProof.Rows L2
section
variable {X : Cx} {e : Expr} {te : TE} {p apos cpos pos : Pos}
end
end Bs
namespace Dz
open PySem PySem.Spec PyProof.Rows L2 Evl Bf
end Dz
namespace Bf
open PySem PySem.Spec PyProof.Rows L2
def CalG (P : Program) (w : World) (K : PySem.W.Frag) (mg : Str → Option Value) (base : Heap) (CX : CXT) (k : Nat) (x : Str) (ps : List Str) (sp : Sp) : Prop :=
  ∃ (f : Addr) (fd : FuncData), FnG P w K mg base CX k f fd ps sp ∧ mg x = some (.ref f) ∧ PySem.W.keepIn K (.ref f) = true ∧ Binds K fd ps []
section
variable {P : Program} {w : World} {K : PySem.W.Frag} {mg : Str → Option Value} {base : Heap} {CX : CXT} {k : Nat} {x : Str} {ps : List Str} {sp sp' : Sp}
theorem CalG.imp (C : CalG P w K mg base CX k x ps sp) (h : ∀ vs H Q E, sp' vs H Q E → sp vs H Q E) : CalG P w K mg base CX k x ps sp' := by
  obtain ⟨f, fd, F, g, kp, b⟩ := C
  exact ⟨f, fd, ⟨fun vs H Q E q => F.len vs H Q E (h _ _ _ _ q), fun hg hr he hb hv hs => F.run hg hr he hb hv (h _ _ _ _ hs)⟩, g, kp, b⟩
end
section
variable {X : Cx} {CX : CXT} {k : Nat} {ps : List Str} {sp : Sp} {E : L2.St → XK} {x : Str} {p pos : Pos} {e : Expr} {es : List Expr} {t : TA} {f : Addr} {fd : FuncData}
end
end Bf
namespace Dz
open PySem PySem.Spec PyProof.Rows L2 Evl Bf
abbrev FnGD (P : Program) (w : World) {K : PySem.W.Frag} (T : Th K) (mg : Str → Option Value) (base : Heap) (k : Nat) (x : Str) (ps : List Str) (fz : Nat) (F : DF) : Prop := CalG P w K mg base (L2.CX P w) k x ps (spOf T fz ps.length F)
theorem FnGD.to {P : Program} {w : World} {K : PySem.W.Frag} {T : Th K} {mg : Str → Option Value} {base : Heap} {k : Nat} {x : Str} {ps : List Str} {fz : Nat} {F F' : DF} (C : FnGD P w T mg base k x ps fz F) (h : ∀ ds A Ax, F' ds A Ax → F ds A Ax) : FnGD P w T mg base k x ps fz F' :=
  CalG.imp C fun vs H Q E s => sp_imp h s
section
variable {X : Cx} {T : Th X.K} {W : WX} {O : List Nat} {e : Expr} {es : List Expr} {φ : DX} {φs : DA} {pp pos p : Pos} {k : Nat} {x : Str} {ps : List Str} {fz : Nat} {F : DF}
structure RpAny (p : PyData) : Prop where
  sh : p.showable = true
  sz : p.shown.length ≤ sizeLine
  dp : p.depth ≤ 150
end
end Dz
namespace Bs
open PySem PySem.Spec PyProof.Rows L2
section
variable {X : Cx} {e : Expr} {te : TE} {apos cpos : Pos}
end
end Bs
namespace Dz
open PySem PySem.Spec PyProof.Rows L2 Evl Bf
section
variable {X : Cx} {T : Th X.K} {W : WX} {O : List Nat} {e : Expr} {φ : DX} {pos p p2 kp apos cpos : Pos} {j}
end
end Dz
namespace Dz
open PySem PySem.Spec PyProof.Rows L2 Evl
section
variable {X : Cx} {T : Th X.K} {W : WX} {fz : Nat} {O Ol : List Nat} {e : Expr} {φ : DX} {p1 p2 p3 pos pos2 : Pos} {i j : Nat} {x : Str}
end
end Dz
namespace Dz
open PySem PySem.Spec PyProof.Rows L2 Evl
section
variable {X : Cx} {T : Th X.K} {W : WX} {O : List Nat} {o e f a b : Expr} {φd φk φf φ ψ : DX} {p apos cpos pos : Pos}
end
end Dz
namespace Dz
open PySem PySem.Spec PyProof.Rows L2 Evl
section
variable {X : Cx}
variable {T : Th X.K}
end
end Dz
namespace Bs
open PySem PySem.Spec PyProof.Rows L2
section
variable {prog : Program} {w : World} {A : Around} {E : Value → Shared → Prop} {s : Shared} {d : Addr} {vs : List (Key × Value)} {ep : Nat}
end
section
variable {X : Cx}
end
end Bs
namespace Dz
open PySem PySem.Spec PyProof.Rows L2 Evl
section
variable {X : Cx} {T : Th X.K}
end
end Dz
namespace RT
open PySem PySem.Spec PyProof.Rows L2
section
variable {prog : Program} {w : World} {A : Around} {E : Value → Shared → Prop} {s : Shared}
theorem IsTup.at' {h h' : Heap} {t : Addr} {items : Array Value} (x : IsTup h t items) (e : ∀ o, h.get? t = some o → h'.get? t = some o) : IsTup h' t items := let ⟨o, ho, r⟩ := x; ⟨o, e _ ho, r⟩
end
end RT
namespace Bf
open PySem PySem.Spec PyProof.Rows L2 RT
end Bf
namespace Dz
open PySem PySem.Spec PyProof.Rows L2 Evl Bf
end Dz
namespace Bs
open PySem PySem.Spec PyProof.Rows L2
section
variable {X : Cx}
end
end Bs
namespace Dz
open PySem PySem.Spec PyProof.Rows L2 Evl Bf
section
variable {X : Cx} {T : Th X.K} {W : WX} {O : List Nat} {e : Expr} {es : List Expr} {φ : DX} {φs : DA} {pos p pp apos cpos : Pos} {k : Nat} {x : Str} {ps : List Str} {fz : Nat} {F : DF}
end
end Dz
namespace Dz
open PySem PySem.Spec PyProof.Rows L2 Evl Bf
section
variable {X : Cx} {T : Th X.K} {W : WX} {fz : Nat} {O On Ol : List Nat} {e : Expr} {es : List Expr} {φ : DX} {φs : DA} {pos p1 : Pos} {i k : Nat} {x xi : Str} {ps : List Str} {F : DF} {rest : List Stmt} {ψ1 ψ2 : DS}
end
end Dz
namespace Dz
open PySem PySem.Spec PyProof.Rows L2 Evl Bf
section
variable {X : Cx} {T : Th X.K} {W : WX} {O : List Nat} {e : Expr} {φ : DX} {F : DF} {pos p p2 : Pos} {k j : Nat} {x y : Str} {ps : List Str}
end
section
variable {X : Cx} {T : Th X.K} {W : WX} {O is : List Nat} {tg iter kx vx : Expr} {φ : DI} {g : DG} {ek ev : DX} {pos spos : Pos} {scope : Scope} {own : List (Str × Nat)}
end
end Dz
namespace Bf
open PySem PySem.Spec PyProof.Rows L2
section
variable {X : Cx}
def rNeD0 : R2 := fun x y H Q => ∃ a b ks, x = .ref a ∧ y = .ref b ∧ Rd H a (.dK ks) ∧ Rd H b (.dK []) ∧ Q (.bl (ks.length != 0)) H
theorem op_neD0 (hu : X.A.units + 65 < cLine) : OpR X (compareOp .NotEq) rNeD0 := by
  intro pins s σ H x y v u Q I rx ry h
  obtain ⟨a, b, ks, rfl, rfl, ha, hb, q⟩ := h
  obtain rfl : v = Value.ref a := rx
  obtain rfl : u = Value.ref b := ry
  obtain ⟨_, ya, va, ra, da⟩ := (show ObjOk X.prog X.w H s.heap a (.dK ks) from ha.ok I.hok)
  obtain ⟨_, yb, vb, rb, db⟩ := (show ObjOk X.prog X.w H s.heap b (.dK []) from hb.ok I.hok)
  have lb : vb.length = 0 := by rw [← rb.length]; rfl
  have la : va.length = ks.length := ra.length.symm
  refine PySem.W.keq_ne (knd := mixKind X.prog X.w) (r := true) ya yb da db (by omega) (fun e => ?_) ?_
  · have : va = [] := List.length_eq_zero_iff.mp (by omega)
    rw [this]
    exact .nil
  · refine ⟨.bl _, H, I, rfl, ?_⟩
    have e : (!(va.length == vb.length && true)) = (ks.length != 0) := by rw [lb, la, Bool.and_true]; rfl
    rw [e]
    exact q
end
end Bf
namespace Dz
open PySem PySem.Spec PyProof.Rows L2 Evl Bf
def dNeD0 : D → D → Option D
  | .dic a, .dic [] => some (.bl (a.length != 0))
  | _, _ => none
theorem repK_len {K : PySem.W.Frag} {H : Hp} {ow : Addr → Prop} : ∀ {vs : List (Key × V)} {ds : List (Key × D)}, RepK K H ow vs ds → vs.length = ds.length
  | _, _, .nil => rfl
  | _, _, .cons _ b => by rw [List.length_cons, List.length_cons, repK_len b]
theorem od_neD0 {X : Cx} {T : Th X.K} : OpD T rNeD0 dNeD0 := by
  intro H ow x y d e z Q ok tr rx ry hg k
  unfold dNeD0 at hg
  split at hg
  · cases hg
    obtain ⟨p, ks, rfl, hp, rp⟩ := o_dic rx
    obtain ⟨q, ls, rfl, hq, rq⟩ := o_dic ry
    cases rq
    refine ⟨p, q, ks, rfl, rfl, hp, hq, ?_⟩
    rw [repK_len rp]
    exact k _ H ok (T.refl H) (.bl _)
  · cases hg
end Dz
namespace Dz
open PySem PySem.Spec PyProof.Rows L2 Evl Bf
def D.isInt : D → Bool
  | .int _ => true
  | _ => false
def D.nlF : D → Bool
  | .lst (x :: xs) => x.isInt && xs.all D.isInt
  | .dic kvs => fltK kvs
  | d => d.flt
def D.nl : D → Bool
  | .ins _ fs => fs.all fun p => p.2.nlF
  | d => d.flt
def D.isIns : D → Bool
  | .ins _ _ => true
  | _ => false
section
variable {K : PySem.W.Frag} {H G : Hp} {ow : Addr → Prop} {p : Addr} {ws : List V}
end
section
variable {X : Cx} {T : Th X.K} {W : WX} {O : List Nat} {e : Expr} {es : List Expr} {φ : DX} {φs : DA} {pos p : Pos} {i : Nat}
variable {k : Nat} {x : Str} {ps : List Str} {F : DF}
end
structure MkNK (P : Program) (w : World) {K : PySem.W.Frag} (T : Th K) (mg : Str → Option Value) (base : Heap) (k : Nat) (c : Str) (n : Nat) (ks : List Str) (F : DF) : Prop where
  g : mg c = some (.ref (He.ga K c))
  ex : ∃ (fi : Addr) (fd : FuncData) (ps : List Str), Mk K (He.ga K c) fi ∧ FnOk P w K mg base (L2.CX P w) k fi fd ps (spIniN T c (n + ks.length) F) ∧ KBn K fd ps (n + 1) ks (fun us ws => us ++ ws) (fun vs zs => vs ++ zs)
theorem MkNK.to {P : Program} {w : World} {K : PySem.W.Frag} {T : Th K} {mg : Str → Option Value} {base : Heap} {k n : Nat} {c : Str} {ks : List Str} {F F' : DF} (M : MkNK P w T mg base k c n ks F) (h : ∀ ds A Ax, F' ds A Ax → F ds A Ax) : MkNK P w T mg base k c n ks F' := by
  obtain ⟨g, fi, fd, ps, h1, h2, h3⟩ := M
  refine ⟨g, fi, fd, ps, h1, h2.imp fun vs H Q E ⟨l, y, dy, ds, ws, ow, A, Ax, H1, a1, a2, a3, a4, a5, a6, a7, a8, a9, a10⟩ => ⟨l, y, dy, ds, ws, ow, A, Ax, H1, a1, a2, a3, a4, a5, a6, a7, a8, h _ _ _ a9, a10⟩, h3⟩
section
variable {X : Cx} {T : Th X.K} {W : WX} {O : List Nat} {e e2 : Expr} {φ ψ : DX} {pos p kpos : Pos} {k : Nat} {c kw : Str} {F : DF}
end
end Dz
namespace Dz
open PySem PySem.Spec PyProof.Rows L2 Evl Bf
section
variable {X : Cx} {T : Th X.K} {W : WX} {fz : Nat} {O Ol : List Nat} {e : Expr} {φ : DX} {pos pos2 px py pr : Pos}
end
end Dz
namespace Dz
open PySem PySem.Spec PyProof.Rows L2 Evl Bf
def DcA (K : PySem.W.Frag) (H : Hp) (p : Addr) : Prop := (∃ kvs, H p = some (.dK kvs)) ∨ (∃ kvs, H p = some (.dT kvs) ∧ ¬ isMemo K H p) ∨ ∃ vs, H p = some (.lst vs)
structure HoleD {K : PySem.W.Frag} (T : Th K) : Prop where
  ok : ∀ {H : Hp} {p : Addr}, T.Ok H → DcA K H p → T.Ok (hole H p)
  gr : ∀ {H : Hp} {p : Addr}, DcA K H p → T.Gr (hole H p) H
  cut : ∀ {H0 H : Hp} {p : Addr}, T.Gr H0 H → H0 p = none → DcA K H p → T.Gr H0 (hole H p)
section
variable {K : PySem.W.Frag} {H : Hp} {ow ow' : Addr → Prop} {p : Addr}
end
def holes (H : Hp) : List Addr → Hp
  | [] => H
  | p :: ps => holes (hole H p) ps
section
variable {K : PySem.W.Frag} {T : Th K}
end
section
variable {O : List Nat} {i : Nat}
theorem Paired.len {α β : Type} {F : α → β → Prop} {xs : List α} {ys : List β} (h : Paired F xs ys) : xs.length = ys.length := by
  induction h with
  | nil => rfl
  | cons a r ih => rw [List.length_cons, List.length_cons, ih]
end
end Dz
namespace Dz
open PySem PySem.Spec PyProof.Rows L2 Evl Bf
def Th.lend {K : PySem.W.Frag} (T : Th K) (js : List Nat) : Th K := { T with bor := js }
theorem HoleD.lend {K : PySem.W.Frag} {T : Th K} (h : HoleD T) (js : List Nat) : HoleD (T.lend js) := ⟨h.ok, h.gr, h.cut⟩
def spBor {K : PySem.W.Frag} (T : Th K) (n m : Nat) (F : DF) : Sp := fun vs H Q _ => vs.length = n ∧ ∃ (ws : List V) (ps : List Addr) (es ds : List D) (ow : Addr → Prop) (A : D → Prop), vs = ws ++ ps.map V.ref ∧ ps.length = m ∧ T.Ok H ∧ (∀ a, ow a → H a ≠ none) ∧ ps.Nodup ∧ (∀ p ∈ ps, ¬ ow p ∧ DcA K H p) ∧ RepL K H (fun a => ow a ∨ a ∈ ps) ws es ∧
  Paired (fun p d => OwnR K H (fun a => ow a ∨ a ∈ ps) p d ∧ DcD d) ps ds ∧ F (es ++ ds) A (fun _ => False) ∧
  ∀ r ds' v G, A (.tup (r :: ds')) → T.Ok G → T.Gr (holes H ps) G → Rep K G (fun a => ow a ∨ a ∈ ps) v r → Paired (fun p d => OwnR K G (fun a => ow a ∨ a ∈ ps) p d ∧ DcD d) ps ds' → Q v G
abbrev FnB (P : Program) (w : World) {K : PySem.W.Frag} (T : Th K) (mg : Str → Option Value) (base : Heap) (k : Nat) (x : Str) (ps : List Str) (m : Nat) (F : DF) : Prop := Cal P w K mg base (L2.CX P w) k x ps (spBor T ps.length m F)
theorem FnB.to {P : Program} {w : World} {K : PySem.W.Frag} {T : Th K} {mg : Str → Option Value} {base : Heap} {k : Nat} {x : Str} {ps : List Str} {m : Nat} {F F' : DF} (C : FnB P w T mg base k x ps m F) (h : ∀ ds A Ax, F' ds A Ax → F ds A Ax) : FnB P w T mg base k x ps m F' :=
  Cal.imp C fun vs H Q E ⟨hn, ws, q, es, ds, ow, A, h1, h2, h3, h4, h5, h6, h7, h8, h9, h10⟩ => ⟨hn, ws, q, es, ds, ow, A, h1, h2, h3, h4, h5, h6, h7, h8, h _ _ _ h9, h10⟩
theorem FnB.lend {P : Program} {w : World} {K : PySem.W.Frag} {T : Th K} {mg : Str → Option Value} {base : Heap} {k : Nat} {x : Str} {ps : List Str} {m : Nat} {F : DF} (C : FnB P w T mg base k x ps m F) (js : List Nat) : FnB P w (T.lend js) mg base k x ps m F := C
theorem Fn.lend {P : Program} {w : World} {K : PySem.W.Frag} {T : Th K} {mg : Str → Option Value} {base : Heap} {k : Nat} {x : Str} {ps : List Str} {fz : Nat} {F : DF} (C : Fn P w T mg base k x ps fz F) (js : List Nat) : Fn P w (T.lend js) mg base k x ps fz F := C
end Dz
namespace Dz
open PySem PySem.Spec PyProof.Rows L2 Evl Bf
section
variable {P : Program} {w : World} {K : PySem.W.Frag} {mg : Str → Option Value} {base : Heap} {x q : Str} {st : Stmt} {f : Addr} {fd : FuncData} {N ps : List Str} {k : Nat} {T : Th K} {c m : Nat} {On : List Nat} {φ : DS}
end
section
variable {X : Cx} {T : Th X.K} {W : WX} {O On Ol : List Nat} {e : Expr} {φe : DX} {pos : Pos}
end
end Dz
namespace Dz
open PySem PySem.Spec PyProof.Rows L2 Evl Bf
section
variable {X : Cx} {T : Th X.K} {W : WX} {O is : List Nat} {nk c i : Nat} {e : Expr} {es : List Expr} {φ : DX} {φs : DA} {pos p1 : Pos} {x : Str}
end
section
variable {K : PySem.W.Frag} {T : Th K} {H0 H G J : Hp} {owi ow0 : Addr → Prop} {fr : Fr} {O is : List Nat} {σ : L2.St} {ρ : Ro} {ps : List Addr} {vs : List V} {es ds : List D} {n m : Nat} {F : DF} {A : D → Prop} {Q : VK} {E : XK}
end
end Dz
namespace Dz
open PySem PySem.Spec PyProof.Rows L2 Evl Bf
section
variable {K : PySem.W.Frag} {T : Th K} {H0 H G J : Hp} {owi ow0 : Addr → Prop} {fr : Fr} {O is : List Nat} {σ : L2.St} {ρ : Ro} {ps : List Addr} {vs : List V} {es ds : List D} {n m nk c : Nat} {F : DF} {A : D → Prop} {Q : VK} {E : XK}
end
section
variable {X : Cx} {T : Th X.K} {W : WX} {fz : Nat} {O On Ol is : List Nat} {nk c m k j : Nat} {F : DF} {e a : Expr} {es : List Expr} {body : List Stmt} {φs : DA} {t : DT} {ψ : DS} {pos p1 p2 p3 : Pos} {x xj : Str} {ps : List Str}
end
end Dz
namespace Dz
open PySem PySem.Spec PyProof.Rows L2 Evl Bf
section
variable {X : Cx} {o e : Expr} {to te : TE} {apos cpos : Pos}
end
section
variable {X : Cx} {T : Th X.K} {W : WX} {fz i : Nat} {O Ol : List Nat} {e : Expr} {φ : DX} {pos pos2 pos3 pos4 : Pos} {x : Str}
end
end Dz
namespace Dz
open PySem PySem.Spec PyProof.Rows L2 Evl Bf
def spOL {K : PySem.W.Frag} (T : Th K) (n : Nat) (F : DF) : Sp := fun vs H Q E => vs.length = n ∧ ∃ (ws : List V) (p : Addr) (es : List D) (d2 : D) (ow : Addr → Prop) (A : D → Prop) (Ax : XQ), vs = ws ++ [.ref p] ∧ T.Ok H ∧ (∀ a, ow a → H a ≠ none) ∧ ow p ∧ RepL K H ow ws es ∧ OwnR K H ow p d2 ∧ F (es ++ [d2]) A Ax ∧
  (∀ d u G, A d → T.Ok G → T.Gr H G → Rep K G ow u d → Q u G) ∧ (∀ x d G, Ax x → T.Ok G → T.Gr H G → XRep K G ow d x → E (.ref (He.ga K x.cls)) d G)
abbrev FnOL (P : Program) (w : World) {K : PySem.W.Frag} (T : Th K) (mg : Str → Option Value) (base : Heap) (k : Nat) (x : Str) (ps : List Str) (F : DF) : Prop := Cal P w K mg base (L2.CX P w) k x ps (spOL T ps.length F)
theorem FnOL.to {P : Program} {w : World} {K : PySem.W.Frag} {T : Th K} {mg : Str → Option Value} {base : Heap} {k : Nat} {x : Str} {ps : List Str} {F F' : DF} (C : FnOL P w T mg base k x ps F) (h : ∀ ds A Ax, F' ds A Ax → F ds A Ax) : FnOL P w T mg base k x ps F' :=
  Cal.imp C fun vs H Q E ⟨hn, ws, p, es, d2, ow, A, Ax, h1, h2, h3, h4, h5, h6, h7, h8, h9⟩ => ⟨hn, ws, p, es, d2, ow, A, Ax, h1, h2, h3, h4, h5, h6, h _ _ _ h7, h8, h9⟩
section
variable {X : Cx} {T : Th X.K} {W : WX} {O : List Nat} {e1 e2 : Expr} {φ1 φ2 : DX} {F : DF} {pos p p2 : Pos} {k j : Nat} {x y : Str} {ps : List Str}
end
section
variable {P : Program} {w : World} {K : PySem.W.Frag} {mg : Str → Option Value} {base : Heap} {x q : Str} {st : Stmt} {f : Addr} {fd : FuncData} {N ps : List Str} {k : Nat} {T : Th K} {c i1 i2 : Nat} {On : List Nat} {φ1 φ2 : DX} {φt : DS}
end
end Dz
namespace Dz
open PySem PySem.Spec PyProof.Rows L2 Evl Bf
structure ExtT {K : PySem.W.Frag} (T : Th K) : Prop where
  ext : ∀ {H : Hp} {d : Addr} {o : HO}, H d = none → isIns o = false → T.Gr H (upd H d o)
  cut : ∀ {H G : Hp} {d : Addr} {o : HO}, T.Gr H G → T.Ok G → H d = none → G d = some o → isIns o = false → (∀ ks, o ≠ .dT ks) → T.Gr (upd H d o) G
theorem memo_ext {K : PySem.W.Frag} {H : Hp} {d : Addr} {o : HO} (hd : H d = none) (n : isIns o = false) {c : Addr} : isMemo K (upd H d o) c ↔ isMemo K H c := by
  constructor
  · rintro ⟨a, dx, t, s, g, q⟩
    refine ⟨a, dx, t, s, g, ?_⟩
    by_cases z : a = d
    · rw [z, upd_same] at q; cases q; cases n
    · rwa [upd_ne z] at q
  · rintro ⟨a, dx, t, s, g, q⟩
    exact ⟨a, dx, t, s, g, by rw [upd_ne fun z => by rw [z, hd] at q; cases q]; exact q⟩
theorem ext1 (K : PySem.W.Frag) : ExtT (T1 K) where
  ext := fun {H d o} hd n => by
    have ne : ∀ {a : Addr} {u : HO}, H a = some u → a ≠ d := fun e z => by rw [z, hd] at e; cases e
    exact ⟨fun a u e _ => by rw [upd_ne (ne e)]; exact e, fun a ks e => ⟨ks, by rw [upd_ne (ne e)]; exact e⟩, fun a ks e _ => by rw [upd_ne (ne e)]; exact e, fun c z _ => (memo_ext hd n).mp z⟩
  cut := fun {H G d o} g ok hd gd n nt => by
    refine ⟨fun a u e h => ?_, fun a ks e => ?_, fun a ks e h => ?_, fun c z h => ?_⟩
    · by_cases z : a = d
      · rw [z, upd_same] at e; rw [z, gd]; exact e
      · rw [upd_ne z] at e; exact g.k1 a u e h
    · by_cases z : a = d
      · rw [z, upd_same] at e; exact absurd (Option.some.inj e) (nt _)
      · rw [upd_ne z] at e; exact g.k2 a ks e
    · by_cases z : a = d
      · rw [z, upd_same] at e; exact absurd (Option.some.inj e) (nt _)
      · rw [upd_ne z] at e; exact g.k3 a ks e fun q => h ((memo_ext hd n).mpr q)
    · by_cases q : c = d
      · obtain ⟨a, dx, t, s, gg, e⟩ := z
        obtain ⟨ns, ks, _, _, h3, _⟩ := ok.ok _ _ _ _ _ _ e
        rw [q, gd] at h3
        exact absurd (Option.some.inj h3) (nt _)
      · rw [upd_ne q] at h
        exact (memo_ext hd n).mpr (g.k4 c z h)
def frLK (fr : Fr) (H0 : Hp) (d : Addr) (o : HO) : Fr := { fr with iw := fun a => upd H0 d o a ≠ none }
section
variable {K : PySem.W.Frag} {T : Th K} {H0 H G : Hp} {owi ow0 : Addr → Prop} {fr : Fr} {O : List Nat} {σ : L2.St} {ρ : Ro} {i : Nat} {d : Addr} {ob : Obj} {vs : List (Key × V)}
theorem nodq (hq : (O.all fun c => decide (c < dq)) = true) (j : Nat) : j + dq ∉ O := fun z => by
  have := of_decide_eq_true (List.all_eq_true.mp hq _ z)
  omega
theorem Sr.walk (hE : ExtT T) (s : Sr T H0 owi ow0 fr O σ H ρ) (hq : (O.all fun c => decide (c < dq)) = true) (h0 : H0 d = none) (nd : ¬ owOf ow0 O σ d) (ok : T.Ok G) (g : T.Gr H0 G) (e : ER K G ow0 fr O σ ρ) (gd : G d = some (.frz ob (.dK vs))) :
    Sr T (upd H0 d (.frz ob (.dK vs))) owi ow0 (frLK fr H0 d (.frz ob (.dK vs))) O σ G ρ := by
  have g2 := hE.cut g ok h0 gd rfl fun _ z => by cases z
  refine ⟨ok, g2, ⟨e.val, e.own, e.frm, ?_, fun j hj => absurd hj (nodq hq j), e.trk, e.len, e.slt, e.sml⟩, fun a z => ⟨(s.sub a z).1, ?_⟩, fun j hj a z => ?_, rfl⟩
  · obtain ⟨rg, hD⟩ := e.dep
    refine ⟨rg, fun j l hj => ?_⟩
    obtain ⟨v, x, fp, h1, h2, h3, h4, h5⟩ := hD j l hj
    refine ⟨v, x, fp, h1, h2, h3, h4, fun a ha => ⟨(h5 a ha).1, (h5 a ha).2.1, fun z => ?_⟩⟩
    have na : a ≠ d := fun q => nd (.inl (q ▸ (h5 a ha).1))
    refine (h5 a ha).2.2 ?_
    rw [s.iwH]
    have z : upd H0 d (.frz ob (.dK vs)) a ≠ none := z
    rwa [upd_ne na] at z
  · have := (s.sub a z).2
    rw [s.iwH] at this
    show upd H0 d (.frz ob (.dK vs)) a ≠ none
    by_cases q : a = d
    · rw [q, upd_same]; exact fun z => by cases z
    · rw [upd_ne q]; exact this
  · obtain ⟨n1, n2⟩ := s.new j hj a z
    have na : a ≠ d := fun q => nd (.inr ⟨j, hj, q ▸ z⟩)
    exact ⟨by rw [upd_ne na]; exact n1, n2⟩
theorem Sr.out (hE : ExtT T) {u : HO} (s : Sr T (upd H0 d u) owi ow0 (frLK fr H0 d u) O σ G ρ) (iwH : fr.iw = fun a => H0 a ≠ none) (hi : ∀ a, owi a → fr.iw a) (hq : (O.all fun c => decide (c < dq)) = true) (h0 : H0 d = none) (nu : isIns u = false) : Sr T H0 owi ow0 fr O σ G ρ := by
  have dn : ∀ {a : Addr}, upd H0 d u a = none → H0 a = none := fun {a} z => by
    by_cases q : a = d
    · rw [q, upd_same] at z; cases z
    · rwa [upd_ne q] at z
  refine ⟨s.ok, T.trans (hE.ext h0 nu) s.gr, ⟨s.er.val, s.er.own, s.er.frm, ?_, fun j hj => absurd hj (nodq hq j), s.er.trk, s.er.len, s.er.slt, s.er.sml⟩, fun a z => ⟨(s.sub a z).1, hi a z⟩, fun j hj a z => ⟨dn (s.new j hj a z).1, (s.new j hj a z).2⟩, iwH⟩
  obtain ⟨rg, hD⟩ := s.er.dep
  refine ⟨rg, fun j l hj => ?_⟩
  obtain ⟨v, x, fp, h1, h2, h3, h4, h5⟩ := hD j l hj
  refine ⟨v, x, fp, h1, h2, h3, h4, fun a ha => ⟨(h5 a ha).1, (h5 a ha).2.1, fun z => (h5 a ha).2.2 ?_⟩⟩
  show upd H0 d u a ≠ none
  rw [iwH] at z
  exact fun q => z (dn q)
theorem Sr.outU (hE : ExtT T) (s : Sr T (upd H0 d (.frz ob (.dK vs))) owi ow0 (frLK fr H0 d (.frz ob (.dK vs))) O σ G ρ) (iwH : fr.iw = fun a => H0 a ≠ none) (hi : ∀ a, owi a → fr.iw a) (hq : (O.all fun c => decide (c < dq)) = true) (h0 : H0 d = none) : Sr T H0 owi ow0 fr O σ (upd G d (.dK vs)) ρ := by
  have gd : G d = some (.frz ob (.dK vs)) := T.keep s.gr upd_same fun _ z => by cases z
  have s2 := s.out hE iwH hi hq h0 rfl
  obtain ⟨p1, p2⟩ := T.put (o' := .dK vs) s2.gr h0 s2.ok gd (fun _ z => by cases z) (fun _ z => by cases z) (fun _ z => by cases z) rfl rfl
  have nw : ∀ {a : Addr}, upd H0 d (.frz ob (.dK vs)) a = none → a ≠ d := fun {a} z q => by rw [q, upd_same] at z; cases z
  refine ⟨p1, p2, ⟨fun j x h n m => let ⟨v, h1, h2⟩ := s2.er.val j x h n m; ⟨v, h1, h2.mv (Mv.unlock gd)⟩, fun j h l => ?_, fun p hp => (s2.er.frm p hp).mv (Mv.unlock gd), ?_, fun j hj => absurd hj (nodq hq j), fun a z => ?_, s2.er.len, s2.er.slt, s2.er.sml⟩, s2.sub, s2.new, iwH⟩
  · obtain ⟨a, x, h1, h2, h3, h4, h5⟩ := s2.er.own j h l
    have ne : a ≠ d := nw (s.new j h a h2).1
    exact ⟨a, x, h1, h2, h3, h4.mv (Mv.unlock gd) (fun o z _ => by rw [upd_ne ne]; exact z) (hl2 := fun _ => keepD_put ne (by intro _ _ _ z; cases z)), h5⟩
  · obtain ⟨rg, hD⟩ := s.er.dep
    obtain ⟨rg2, hD2⟩ := s2.er.dep
    refine ⟨rg, fun j l hj => ?_⟩
    refine (hD j l hj).mv (Mv.unlock gd) (fun a _ z o q _ => ?_) fun a z _ n => ⟨z, fun q => n ?_⟩
    · have z : ¬ (upd H0 d (.frz ob (.dK vs)) a ≠ none) := z
      rw [upd_ne (nw (Classical.not_not.mp z))]; exact q
    · show upd H0 d (.frz ob (.dK vs)) a ≠ none
      rw [iwH] at q
      by_cases z : a = d
      · rw [z, upd_same]; exact fun z => by cases z
      · rw [upd_ne z]; exact q
  · by_cases q : a = d
    · rw [q, upd_same]; exact fun z => by cases z
    · rw [upd_ne q]; exact s2.er.trk a z
end
section
variable {X : Cx} {T : Th X.K} {W : WX} {fz : Nat} {O Ol : List Nat} {xd : Str} {i x : Nat} {tg : Expr} {p pos : Pos} {body : List Stmt} {φ : DS}
end
end Dz
namespace Dz
open PySem PySem.Spec PyProof.Rows L2 Evl Bf
section
variable {X : Cx} {T : Th X.K} {W : WX} {O : List Nat} {a b : Expr} {φ : DP} {ψ : DX} {pos : Pos} {i : Nat}
end
theorem OwnK.gr {K : PySem.W.Frag} {H G : Hp} {ow : Addr → Prop} (T : Th K) (g : T.Gr H G) {f : List Addr} {vs : List (Key × V)} {ds : List (Key × D)} (h : OwnK K H ow f vs ds) : OwnK K G ow f vs ds := h.mv (Mv.gr T g) (keeps_gr T g)
section
variable {X : Cx} {T : Th X.K} {W : WX} {O is vs : List Nat} {tg iter kx vx : Expr} {φ : DI} {g : DG} {ek ev : DX} {pos spos : Pos} {scope : Scope} {own : List (Str × Nat)} {fz : Nat} {Ol : List Nat}
end
end Dz
namespace Bf
open PySem PySem.Spec PyProof.Rows L2 PySem.W
end Bf
namespace Dz
open PySem PySem.Spec PyProof.Rows L2 Evl Bf
section
variable {X : Cx} {T : Th X.K}
end
section
variable {X : Cx} {T : Th X.K} {W : WX} {fz : Nat} {O is Ol : List Nat} {tg kx vx : Expr} {g : DG} {ek ev : DX} {pos spos p : Pos} {scope : Scope} {own : List (Str × Nat)} {c i : Nat} {xd y : Str} {py : Pos}
end
end Dz
namespace Dz
open PySem PySem.Spec PyProof.Rows L2 Evl Bf
section
variable {X : Cx} {T : Th X.K} {W : WX} {O On Ol : List Nat} {e f : Expr} {φ ψ : DX} {kk : Nat} {p2 pos : Pos}
variable {a b c : Expr} {t : DT} {φa φb : DX}
end
end Dz
namespace Bf
open PySem PySem.Spec PyProof.Rows L2 PySem.W
abbrev TupB := Addr × List V
def RTup (h : Heap) (u : Value) (b : TupB) : Prop := u = .ref b.1 ∧ ∃ its : List Value, its.length = b.2.length ∧ IsTup h b.1 its.toArray
theorem RTup.keep {h h' : Heap} {u : Value} {b : TupB} (k : ∀ c o, h.get? c = some o → h'.get? c = some o) (r : RTup h u b) : RTup h' u b := by
  obtain ⟨e, its, l, o, e1, e2⟩ := r
  exact ⟨e, its, l, o, k _ _ e1, e2⟩
end Bf
namespace Dz
open PySem PySem.Spec PyProof.Rows L2 Evl Bf
section
variable {K : PySem.W.Frag} {H : Hp} {ow : Addr → Prop}
end
section
variable {X : Cx} {T : Th X.K} {W : WX} {O : List Nat} {e : Expr} {φ : DX} {pos p p2 kp : Pos}
end
end Dz
namespace Dz
open PySem PySem.Spec PyProof.Rows L2 Evl Bf
section
variable {X : Cx} {T : Th X.K} {W : WX} {fz : Nat} {O Ol : List Nat} {e e2 : Expr} {φ ψ : DX} {pos pos2 pos3 : Pos} {i : Nat} {x : Str}
end
end Dz
namespace Dz
open PySem PySem.Spec PyProof.Rows L2 Evl Bf
section
variable {X : Cx} {T : Th X.K} {W : WX} {O O2 On Ol : List Nat} {e : Expr} {ψ : DX} {kk c : Nat} {p1 p2 pos : Pos} {xc : Str}
end
end Dz
namespace Dz
open PySem PySem.Spec PyProof.Rows L2 Evl Bf
section
variable {X : Cx} {T : Th X.K} {W : WX} {O : List Nat} {e o i : Expr} {φ φa φb : DX} {φl φh : DO} {pos p2 : Pos}
end
end Dz
namespace Bf
open PySem PySem.Spec PyProof.Rows L2 Evl
end Bf
namespace Dz
open PySem PySem.Spec PyProof.Rows L2 Evl Bf
end Dz
namespace Dz
open PySem PySem.Spec PyProof.Rows L2 Evl Bf
end Dz
namespace PySem.SeqAt
open AutoSeq1 (wpAny_loadPart')
open MeetsSeq MeetsSeq2 MeetsSeq3 SeqRoads2
section
variable {prog : Program} {w : World}
end
end PySem.SeqAt
namespace Bf
open PySem PySem.Spec PyProof.Rows L2 Evl
section
variable {X : Cx}
end
end Bf
namespace Dz
open PySem PySem.Spec PyProof.Rows L2 Evl Bf
section
variable {X : Cx} {T : Th X.K} {W : WX} {fz : Nat} {O Ol : List Nat} {i : Nat} {base : Expr} {φ : DP} {pos2 pos3 pos4 : Pos}
end
end Dz
namespace Bf
open PySem PySem.Spec PyProof.Rows L2 Evl
end Bf
namespace Dz
open PySem PySem.Spec PyProof.Rows L2 Evl Bf
end Dz
namespace Dz
open PySem PySem.Spec PyProof.Rows L2 Evl Bf
structure LockG {K : PySem.W.Frag} (T : Th K) : Prop where
  gin : ∀ {H0 H : Hp} {d : Addr} {ob : Obj} {vs : List (Key × V)}, T.Gr H0 H → H0 d = some (.dK vs) → T.Gr (upd H0 d (.frz ob (.dK vs))) (upd H d (.frz ob (.dK vs)))
  tab : ∀ {H0 H : Hp} {d : Addr} {ks : List (List Key × V)}, T.Gr H0 H → H0 d = some (.dT ks) → ∃ ks', H d = some (.dT ks')
theorem memo_lockP {K : PySem.W.Frag} {H : Hp} {d : Addr} {ob : Obj} {vs : List (Key × V)} (hd : H d = some (.dK vs)) {c : Addr} : isMemo K (upd H d (.frz ob (.dK vs))) c ↔ isMemo K H c := by
  constructor
  · rintro ⟨a, dx, t, s, gg, q⟩
    refine ⟨a, dx, t, s, gg, ?_⟩
    by_cases z : a = d
    · rw [z, upd_same] at q; cases q
    · rwa [upd_ne z] at q
  · rintro ⟨a, dx, t, s, gg, q⟩
    exact ⟨a, dx, t, s, gg, by rw [upd_ne fun z => by rw [z, hd] at q; cases q]; exact q⟩
theorem lockG1 (K : PySem.W.Frag) : LockG (T1 K) where
  gin := fun {H0 H d ob vs} g h0 => by
    have h1 : H d = some (.dK vs) := g.k1 d _ h0 fun _ z => by cases z
    refine ⟨fun a o e n => ?_, fun a ks e => ?_, fun a ks e n => ?_, fun c z n => ?_⟩
    · by_cases z : a = d
      · rw [z, upd_same] at e ⊢; exact e
      · rw [upd_ne z] at e ⊢; exact g.k1 a o e n
    · by_cases z : a = d
      · rw [z, upd_same] at e; cases e
      · rw [upd_ne z] at e; rw [upd_ne z]; exact g.k2 a ks e
    · by_cases z : a = d
      · rw [z, upd_same] at e; cases e
      · rw [upd_ne z] at e; rw [upd_ne z]; exact g.k3 a ks e fun q => n ((memo_lockP h0).mpr q)
    · refine (memo_lockP h0).mpr (g.k4 c ((memo_lockP h1).mp z) ?_)
      by_cases q : c = d
      · rw [q, h0]; exact fun z => by cases z
      · rwa [upd_ne q] at n
  tab := fun g e => g.k2 _ _ e
section
variable {K : PySem.W.Frag} {T : Th K} {H0 H G : Hp} {owi ow0 : Addr → Prop} {fr : Fr} {O : List Nat} {σ : L2.St} {ρ : Ro} {i : Nat} {d : Addr} {ob : Obj} {vs : List (Key × V)}
theorem frLK_iw (iwH : fr.iw = fun a => H0 a ≠ none) {u : HO} (h0 : H0 d ≠ none) : frLK fr H0 d u = fr := by
  unfold frLK
  have e : (fun a => upd H0 d u a ≠ none) = fr.iw := by
    rw [iwH]
    funext a
    by_cases z : a = d
    · rw [z, upd_same]; exact propext ⟨fun _ => h0, fun _ z => by cases z⟩
    · rw [upd_ne z]
  rw [e]
theorem Sr.walkP (L : LockT T) (LG : LockG T) (s : Sr T H0 owi ow0 fr O σ H ρ) (h0 : H0 d = some (.dK vs)) (nd : ¬ owOf ow0 O σ d) (raw : H d = some (.dK vs)) :
    Sr T (upd H0 d (.frz ob (.dK vs))) owi ow0 fr O σ (upd H d (.frz ob (.dK vs))) ρ := by
  refine ⟨L.ok s.ok raw, LG.gin s.gr h0, s.er.lock raw nd, s.sub, fun j hj a z => ?_, ?_⟩
  · obtain ⟨n1, n2⟩ := s.new j hj a z
    have na : a ≠ d := fun q => by rw [q, h0] at n1; cases n1
    exact ⟨by rw [upd_ne na]; exact n1, n2⟩
  · have := frLK_iw (fr := fr) (u := .frz ob (.dK vs)) s.iwH (by rw [h0]; exact fun z => by cases z)
    rw [← this]
    rfl
theorem Sr.outP (L : LockT T) (s : Sr T (upd H0 d (.frz ob (.dK vs))) owi ow0 fr O σ G ρ) (iwH : fr.iw = fun a => H0 a ≠ none) (hq : (O.all fun c => decide (c < dq)) = true) (h0 : H0 d = some (.dK vs)) : Sr T H0 owi ow0 fr O σ (upd G d (.dK vs)) ρ := by
  have gd : G d = some (.frz ob (.dK vs)) := T.keep s.gr upd_same fun _ z => by cases z
  obtain ⟨p1, p2⟩ := L.un h0 s.gr s.ok
  have nw : ∀ {a : Addr}, upd H0 d (.frz ob (.dK vs)) a = none → a ≠ d := fun {a} z q => by rw [q, upd_same] at z; cases z
  have dn : ∀ {a : Addr}, upd H0 d (.frz ob (.dK vs)) a = none → H0 a = none := fun {a} z => by
    have := nw z
    rwa [upd_ne this] at z
  refine ⟨p1, p2, ⟨fun j x h n m => let ⟨v, h1, h2⟩ := s.er.val j x h n m; ⟨v, h1, h2.mv (Mv.unlock gd)⟩, fun j h l => ?_, fun p hp => (s.er.frm p hp).mv (Mv.unlock gd), ?_, fun j hj => absurd hj (nodq hq j), fun a z => ?_, s.er.len, s.er.slt, s.er.sml⟩, s.sub, fun j hj a z => ⟨dn (s.new j hj a z).1, (s.new j hj a z).2⟩, iwH⟩
  · obtain ⟨a, x, h1, h2, h3, h4, h5⟩ := s.er.own j h l
    have ne : a ≠ d := nw (s.new j h a h2).1
    exact ⟨a, x, h1, h2, h3, h4.mv (Mv.unlock gd) (fun o z _ => by rw [upd_ne ne]; exact z) (hl2 := fun _ => keepD_put ne (by intro _ _ _ z; cases z)), h5⟩
  · obtain ⟨rg, hD⟩ := s.er.dep
    refine ⟨rg, fun j l hj => ?_⟩
    refine (hD j l hj).mv (Mv.unlock gd) (fun a _ z o q _ => ?_) fun a z _ n => ⟨z, n⟩
    have na : a ≠ d := fun e => z (by rw [iwH]; show H0 a ≠ none; rw [e, h0]; exact fun z => by cases z)
    rw [upd_ne na]; exact q
  · by_cases q : a = d
    · rw [q, upd_same]; exact fun z => by cases z
    · rw [upd_ne q]; exact s.er.trk a z
end
def frP (φ : DS) (x : Nat) (E : DE) : List Key → Ro → Prop
  | [], ρ => E.nx ρ
  | k :: r, ρ => φ { nx := frP φ x E r, rt := fun _ => False, bk := E.nx, ct := frP φ x E r, ex := fun _ _ => False } (ρ.set x (some (kD k)))
def sForP (i x : Nat) (φ : DS) : DS := fun E ρ => ∃ kvs, ρ[i]? = some (some (.dic kvs)) ∧ frP φ x E (kvs.map (·.1)) ρ
section
variable {X : Cx} {T : Th X.K} {W : WX} {fz : Nat} {O Ol : List Nat} {xd : Str} {i x : Nat} {tg : Expr} {p pos : Pos} {body : List Stmt} {φ : DS}
theorem s_forP (hE : ExtT T) (L : LockT T) (LG : LockG T) (hp : PassesOwn (model X.prog X.w) X.A X.env X.xe) (hc : X.calm = true) (hD : X.N[i]? = some xd) (vD : Vis X.env.scope xd) (hO : vis O i = true) (hg : PG X tg (gName x)) (hb : PSs X body (sOf T W fz O O O φ)) (oX : fre O x = true) (hq : (O.all fun c => decide (c < dq)) = true)
    (dD : (xd == ("__debug__" : Str)) = false := by decide) (dD2 : (xd == ("__classdict__" : Str)) = false := by decide) (hs : ∀ x, foldedSetIterable (.Name xd p) X.env x = pure x := by intro _; rfl) :
    PS X (.For tg (.Name xd p) body [] pos) (sOf T W fz O O Ol (sForP i x φ)) := by
  have h0 := ps_for hp hc (pi_keys (pe_var hD vD dD dD2)) hg hb hs (pos := pos)
  refine ⟨fun pins s σ H M I h => ?_⟩
  obtain ⟨ρ, H0, owi, ow0, fr, E, S, tr, k, kvs, e1, q⟩ := h
  obtain ⟨v, g2, g3⟩ := S.er.val i _ e1 (vis_of hO).1 (vis_of hO).2
  cases g3 with
  | @dic d vs _ hd1 nd rk =>
    have hsub : ∀ a, owi a → fr.iw a := fun a z => (S.sub a z).2
    -- the loop
    have main : ∀ (Hs : Hp) (frs : Fr) (Hl : Hp) (ob : Obj) (M' : Ends), frs.pin = fr.pin → (∀ {σ' H' ρ' ow'}, Sr T Hs owi ow' frs O σ' H' ρ' → H' d = some (.frz ob (.dK vs))) → (∀ a, H0 a ≠ none → Hs a ≠ none) → Sr T Hs owi ow0 frs O σ Hl ρ → (∀ σ' H' ρ' ow', Sr T Hs owi ow' frs O σ' H' ρ' → E.nx ρ' → M'.nx σ' H') →
        tFor (iKeys (tVar i)) (gName x) (sOf T W fz O O O φ) M' σ Hl := by
      intro Hs frs Hl ob M' hpn ld hst Sl fin
      refine ⟨.ref d, g2, d, ob, rfl, .inl ⟨vs, ld Sl, ?_⟩⟩
      have lenk : vs.length = kvs.length := rk.length
      refine ⟨fun n m σ' H' => m = vs.length - n ∧ n ≤ vs.length ∧ ∃ ρ' ow', Sr T Hs owi ow' frs O σ' H' ρ' ∧ frP φ x E ((kvs.map (·.1)).drop n) ρ', ⟨vs.length, by simp, Nat.zero_le _, ρ, ow0, Sl, by rw [List.drop_zero]; exact q⟩, ?_⟩
      rintro n m σ' H' ⟨rfl, hn, ρ', ow', S', q'⟩
      by_cases c : n < vs.length
      · refine .inr ⟨⟨ld S', c⟩, fun σ2 H2 => ∃ ρ2 ow2, Sr T Hs owi ow2 frs O σ2 H2 ρ2 ∧ frP φ x E ((kvs.map (·.1)).drop (n + 1)) ρ2, fun σ2 H2 z => ⟨vs.length - (n + 1), by omega, rfl, by omega, z⟩, fun y H2 yy => ?_⟩
        obtain ⟨rfl, kk, vv, hk, rfl⟩ := yy
        have ek : (kvs.map (·.1))[n]? = some kk := by
          have h1 : (kvs.map (·.1)) = vs.map (·.1) := (repK_keys rk).symm
          rw [h1, List.getElem?_map, hk]; rfl
        have e2 : (kvs.map (·.1)).drop n = kk :: (kvs.map (·.1)).drop (n + 1) := by
          have lt : n < (kvs.map (·.1)).length := by rw [List.length_map, ← lenk]; exact c
          rw [List.drop_eq_getElem_cons lt]
          rw [List.getElem?_eq_getElem lt] at ek
          rw [Option.some.inj ek]
        rw [e2] at q'
        exact ⟨ρ'.set x (some (kD kk)), _, owi, ow', _, { nx := frP φ x E ((kvs.map (·.1)).drop (n + 1)), rt := fun _ => False, bk := E.nx, ct := frP φ x E ((kvs.map (·.1)).drop (n + 1)), ex := fun _ _ => False }, S'.set (v := kV kk) oX (kD_rep _ kk), ⟨fun a z => hst a (tr.1 a z), by rw [hpn]; exact tr.2⟩, ⟨fun σ3 H3 ρ3 ow3 s3 a => ⟨ρ3, ow3, s3, a⟩, fun _ _ _ _ _ _ a => a.elim, fun σ3 H3 ρ3 ow3 s3 a => fin σ3 H3 ρ3 ow3 s3 a, fun σ3 H3 ρ3 ow3 s3 a => ⟨ρ3, ow3, s3, a⟩, fun _ _ _ _ _ _ _ _ a => a.elim⟩, q'⟩
      · have e : n = vs.length := by omega
        subst e
        rw [lenk, ← List.length_map (as := kvs) (·.1), List.drop_length] at q'
        exact .inl ⟨⟨ld S', Nat.le_refl _⟩, fin _ _ _ _ S' q'⟩
    have up : ∀ (u : HO) (a : Addr), H0 a ≠ none → upd H0 d u a ≠ none := fun u a z => by
      by_cases q : a = d
      · rw [q, upd_same]; exact fun z => by cases z
      · rw [upd_ne q]; exact z
    by_cases h0d : H0 d = none
    · have ldK : ∀ (ob : Obj) {σ' H' ρ' ow'}, Sr T (upd H0 d (.frz ob (.dK vs))) owi ow' (frLK fr H0 d (.frz ob (.dK vs))) O σ' H' ρ' → H' d = some (.frz ob (.dK vs)) := fun ob {_ _ _ _} s => T.keep s.gr upd_same fun _ z => by cases z
      rcases hd1 with raw | ⟨ob, fz⟩
      · refine (ps_lock h0).run pins s σ H M I ⟨d, .dK vs, raw, trivial, fun od => ?_⟩
        obtain ⟨p1, p2⟩ := T.put (o' := .frz od (.dK vs)) S.gr h0d S.ok raw (fun _ z => by cases z) (fun _ z => by cases z) (fun _ z => by cases z) rfl rfl
        refine main _ (frLK fr H0 d (.frz od (.dK vs))) _ od _ rfl (ldK od) (up _) (S.walk hE hq h0d nd p1 p2 (S.er.lock raw nd) upd_same) fun σ' H' ρ' ow' s' a => ⟨T.keep s'.gr upd_same (fun _ z => by cases z), ?_⟩
        exact k.nx _ _ _ _ (s'.outU hE S.iwH hsub hq h0d) a
      · exact h0.run pins s σ H M I (main (upd H0 d (.frz ob (.dK vs))) (frLK fr H0 d (.frz ob (.dK vs))) H ob M rfl (ldK ob) (up _) (S.walk hE hq h0d nd S.ok S.gr S.er fz) fun σ' H' ρ' ow' s' a => k.nx _ _ _ _ (s'.out hE S.iwH hsub hq h0d rfl) a)
    · have was : ∀ {o : HO}, H d = some o → (∀ ks, o ≠ .dT ks) → H0 d = some o := fun {o} e n => by
        cases e2 : H0 d with
        | none => exact absurd e2 h0d
        | some u =>
          by_cases nt : ∀ ks, u ≠ .dT ks
          · rw [T.keep S.gr e2 nt] at e
            exact e
          · obtain ⟨ks, hks⟩ := Classical.not_forall.mp nt
            have hks := Classical.not_not.mp hks
            subst hks
            obtain ⟨ks', e3⟩ := LG.tab S.gr e2
            rw [e3] at e
            exact absurd (Option.some.inj e).symm (n _)
      rcases hd1 with raw | ⟨ob, fz⟩
      · have h0v : H0 d = some (.dK vs) := was raw fun _ z => by cases z
        refine (ps_lock h0).run pins s σ H M I ⟨d, .dK vs, raw, trivial, fun od => ?_⟩
        refine main _ _ _ od _ rfl (fun {_ _ _ _} s => T.keep s.gr upd_same fun _ z => by cases z) (up _) (S.walkP L LG h0v nd raw) fun σ' H' ρ' ow' s' a => ⟨T.keep s'.gr upd_same (fun _ z => by cases z), ?_⟩
        exact k.nx _ _ _ _ (s'.outP L S.iwH hq h0v) a
      · have h0v : H0 d = some (.frz ob (.dK vs)) := was fz fun _ z => by cases z
        exact h0.run pins s σ H M I (main H0 fr H ob M rfl (fun {_ _ _ _} s => T.keep s.gr h0v fun _ z => by cases z) (fun a z => z) S fun σ' H' ρ' ow' s' a => k.nx _ _ _ _ s' a)
end
end Dz
namespace Dz
open PySem PySem.Spec PyProof.Rows L2 Evl Bf
section
variable {X : Cx} {T : Th X.K} {W : WX} {fz : Nat} {O is Ol : List Nat} {tg iter elt : Expr} {ifs : List Expr} {φ : DX} {g : DG} {t : DT} {e : DX} {pos spos : Pos} {scope : Scope} {own : List (Str × Nat)}
end
end Dz
namespace Dz
open PySem PySem.Spec PyProof.Rows L2 Bf
end Dz
namespace Dz
open PySem PySem.Spec PyProof.Rows L2 Evl Bf
end Dz
namespace Bs
open PySem PySem.Spec PyProof.Rows L2 Bf
section
variable {X : Cx} {e : Expr} {te : TE} {p apos cpos pos : Pos}
end
end Bs
namespace Dz
open PySem PySem.Spec PyProof.Rows L2 Evl Bf
end Dz
namespace Dz
open PySem PySem.Spec PyProof.Rows L2 Evl Bf
section
variable {X : Cx} {T : Th X.K} {W : WX} {fz : Nat}
end
end Dz
namespace Bs
open PySem PySem.Spec PyProof.Rows L2 Bf
section
variable {X : Cx} {tg : Expr}
end
end Bs
namespace Dz
open PySem PySem.Spec PyProof.Rows L2 Evl Bf
section
variable {X : Cx} {T : Th X.K} {W : WX} {O : List Nat} {tg a b c : Expr} {φ ψ : DX} {p pos : Pos}
end
end Dz
namespace Dz
open PySem PySem.Spec PyProof.Rows L2 Evl Bf
section
variable {K : PySem.W.Frag} {H G : Hp} {ow0 ow1 iw1 : Addr → Prop} {fr : Fr} {O : List Nat} {σ : L2.St} {ρ : Ro} {i : Nat} {p : Addr} {d : D}
end
section
variable {X : Cx} {T : Th X.K} {W : WX} {fz : Nat} {O Ol : List Nat} {e : Expr} {φ : DX} {pos p1 p2 p3 : Pos} {i j kk : Nat} {xi xj : Str}
end
end Dz
namespace Dz
open PySem PySem.Spec PyProof.Rows L2 Evl Bf
section
variable {K : PySem.W.Frag} {T : Th K} {H0 H G : Hp} {owi ow0 : Addr → Prop} {fr : Fr} {O O' : List Nat} {σ : L2.St} {ρ ρ' : Ro}
end
section
variable {X : Cx} {T : Th X.K} {W : WX} {fz : Nat} {O O' Ol : List Nat} {body : List Stmt} {pos px py pt pu p1 p2 : Pos} {fV : List V → List V}
end
end Dz
namespace Bs
open PySem PySem.Spec PyProof.Rows L2
section
variable {pr : Program} {w : World} {A : Around} {E : Value → Shared → Prop} {s : Shared} {a : Addr}
end
def SetKO (pr : Program) (w : World) (a : Addr) (l : List Key) : HO := .ext fun h => HasL pr w h a l
section
variable {X : Cx}
end
section
variable {prog : Program} {w : World} {A : Around} {R : Result → Shared → Prop} {s : Shared} {elt t0 i0 t1 i1 : Expr} {ifs0 ifs1 : List Expr} {scope : Scope} {pos : Pos} {it acc : Value} {env : Env}
end

section
variable {X : Cx}
end
end Bs
namespace Dz
open PySem PySem.Spec PyProof.Rows L2 Evl Bf
section
variable {P : Program} {w : World} {a : Addr} {l : List Key}
theorem sk1 : ∀ xs, Bs.SetKO P w a l ≠ .tup xs := fun _ z => by have z' : HO.ext _ = HO.tup _ := z; cases z'
theorem sk2 : ∀ xs, Bs.SetKO P w a l ≠ .dT xs := fun _ z => by have z' : HO.ext _ = HO.dT _ := z; cases z'
theorem sk3 : ∀ ob u, Bs.SetKO P w a l ≠ .frz ob u := fun _ _ z => by have z' : HO.ext _ = HO.frz _ _ := z; cases z'
theorem sk4 : ∀ xs, Bs.SetKO P w a l ≠ .xd xs := fun _ z => by have z' : HO.ext _ = HO.xd _ := z; cases z'
theorem sk5 : ∀ C dx fs, Bs.SetKO P w a l = .ins C dx fs → C ≠ q := fun _ _ _ z => by have z' : HO.ext _ = HO.ins _ _ _ := z; cases z'
end
theorem RepP.putK {K : PySem.W.Frag} {H : Hp} {ow : Addr → Prop} {p : Addr} {v : V} {d : D} {P : Program} {w : World} {l l' : List Key} (hp : H p = some (Bs.SetKO P w p l)) (h : RepP K H ow p v d) : RepP K (upd H p (Bs.SetKO P w p l')) ow p v d := by
  have mp : Mv K H (fun a => ow a ∨ a = p) (upd H p (Bs.SetKO P w p l')) (fun a => ow a ∨ a = p) := Mv.put hp sk1 sk2 sk3 sk4 (.inr rfl) (fun a z => z) sk5
  rcases h with z | ⟨a, e1, n, z⟩
  · exact .inl (z.mv mp)
  · exact .inr ⟨a, e1, n, z.mv mp (fun o z2 _ => by rw [upd_ne n]; exact z2) (hl2 := fun _ => keepD_put n sk5)⟩
structure ScS {K : PySem.W.Frag} (P : Program) (w : World) (T : Th K) (O : List Nat) (H1 : Hp) (ow0 : Addr → Prop) (fr : Fr) (ow : Addr → Prop) (p : Addr) (vd : List (V × D)) (σ : L2.St) (ρ : Ro) (G : Hp) (acc : List Str) : Prop where
  ok : T.Ok G
  gr : T.Gr H1 G
  er : ER K G (fun a => ow0 a ∨ a = p) { vd := fr.vd, iw := fun a => fr.iw a ∨ a = p } O σ ρ
  vd : ∀ q ∈ vd, RepP K G ow p q.1 q.2
  pt : G p = some (Bs.SetKO P w p (Bs.ddK (acc.map Sum.inr)))
section
variable {K : PySem.W.Frag} {P : Program} {w : World} {T : Th K} {O : List Nat} {H1 : Hp} {ow0 : Addr → Prop} {fr : Fr} {ow : Addr → Prop} {p : Addr} {vd : List (V × D)} {σ : L2.St} {ρ : Ro} {G L : Hp} {acc : List Str}
theorem ScS.grow (s : ScS P w T O H1 ow0 fr ow p vd σ ρ G acc) (g : T.Gr G L) (ok : T.Ok L) : ScS P w T O H1 ow0 fr ow p vd σ ρ L acc :=
  ⟨ok, T.trans s.gr g, s.er.gr T g, fun q hq => (s.vd q hq).gr T g, T.keep g s.pt sk2⟩
theorem ScS.mp (s : ScS P w T O H1 ow0 fr ow p vd σ ρ G acc) (ys : List Key) : Mv K G (fun a => ow a ∨ a = p) (upd G p (Bs.SetKO P w p ys)) (fun a => ow a ∨ a = p) :=
  Mv.put s.pt sk1 sk2 sk3 sk4 (.inr rfl) (fun a z => z) sk5
theorem ScS.erp (s : ScS P w T O H1 ow0 fr ow p vd σ ρ G acc) (ys : List Key) {τ : L2.St} {ρ2 : Ro} (er : ER K G (fun a => ow0 a ∨ a = p) { vd := fr.vd, iw := fun a => fr.iw a ∨ a = p } O τ ρ2) : ER K (upd G p (Bs.SetKO P w p ys)) (fun a => ow0 a ∨ a = p) { vd := fr.vd, iw := fun a => fr.iw a ∨ a = p } O τ ρ2 :=
  er.put0 s.pt sk1 sk2 sk3 sk4 (.inr rfl) (.inr rfl) sk5
theorem ScS.push (s : ScS P w T O H1 ow0 fr ow p vd σ ρ G acc) (hp : H1 p = none) (x : Str) : ScS P w T O H1 ow0 fr ow p vd σ ρ (upd G p (Bs.SetKO P w p (Bs.stepK (Bs.ddK (acc.map Sum.inr)) (Sum.inr x)))) (acc ++ [x]) := by
  obtain ⟨p1, p2⟩ := T.put (o' := Bs.SetKO P w p (Bs.stepK (Bs.ddK (acc.map Sum.inr)) (Sum.inr x))) s.gr hp s.ok s.pt sk1 sk2 sk2 rfl rfl
  refine ⟨p1, p2, s.erp _ s.er, fun q hq => RepP.putK s.pt (s.vd q hq), ?_⟩
  rw [upd_same, List.map_append, List.map_singleton, Bs.ddK_snoc]
end
section
variable {X : Cx} {T : Th X.K} {W : WX} {O is vs is1 vs1 : List Nat} {tg iter tg1 iter1 elt : Expr} {ifs ifs1 : List Expr} {φ φ1 : DI} {g g1 : DG} {t t1 : DT} {e : DX} {pos ppos ppos2 : Pos} {scope : Scope} {own : List (Str × Nat)}
end
end Dz
namespace Dz
open PySem PySem.Spec PyProof.Rows L2 Evl Bf
section
variable {X : Cx} {T : Th X.K} {W : WX} {fz : Nat} {O O' Ol : List Nat} {body : List Stmt} {pos px py : Pos} {fV : List V → List V}
end
end Dz
namespace Dz
open PySem PySem.Spec PyProof.Rows L2 Evl Bf
section
variable {X : Cx} {T : Th X.K} {W : WX} {O : List Nat} {e : Expr} {φ : DX} {apos cpos : Pos}
end
end Dz
namespace Dz
open PySem PySem.Spec PyProof.Rows L2 Evl Bf
section
variable {X : Cx} {T : Th X.K} {W : WX} {O On Ol On' Ol' : List Nat} {i : Nat} {rest : List Stmt} {φ : DS}
end
end Dz
namespace Dz
open PySem PySem.Spec PyProof.Rows L2 Evl Bf
section
variable {X : Cx} {T : Th X.K} {W : WX} {fz : Nat} {O O' Ol : List Nat} {body : List Stmt} {pos px py pc ps p2 : Pos} {kk} {fV : List V → List V}
end
section
variable {X : Cx} {T : Th X.K} {W : WX} {O O2 On Ol : List Nat} {e : Expr} {ψ : DX} {kk c : Nat} {p0 p1 p2 pos : Pos} {xc c0 : Str} {jj}
end
end Dz
namespace Bf
open PySem PySem.Spec PyProof PyProof.Rows L2 Evl
end Bf
namespace Dz
open PySem PySem.Spec PyProof.Rows L2 Evl Bf
section
variable {X : Cx} {T : Th X.K} {W : WX} {O : List Nat} {o e : Expr} {φo φe : DX} {apos pos : Pos}
end
end Dz
namespace Dz
open PySem PySem.Spec PyProof.Rows L2 Evl Bf
section
variable {X : Cx} {T : Th X.K} {W : WX} {fz : Nat} {O O' On Ol : List Nat} {rest : List Stmt} {ψ : DS} {t : DT} {ce : Expr}
end
end Dz
namespace Dz
open PySem PySem.Spec PyProof.Rows L2 Evl Bf
section
variable {X : Cx} {T : Th X.K} {W : WX} {O : List Nat} {e : Expr} {φ : DX} {pp pos : Pos}
end
end Dz
namespace Dz
open PySem PySem.Spec PyProof.Rows L2 Evl Bf
mutual
def D.pyX : D → Option PyData
  | .non => some .none
  | .bl b => some (.bool b)
  | .int i => some (.int i)
  | .str s => some (.str s)
  | .lst xs => match pyXL xs with | some ys => some (.list ys) | none => none
  | .tup xs => match pyXL xs with | some ys => some (.tuple ys) | none => none
  | .dic [] => some (.dict [])
  | _ => none
def pyXL : List D → Option (List PyData)
  | [] => some []
  | d :: ds => match d.pyX, pyXL ds with
    | some v, some vs => some (v :: vs)
    | _, _ => none
end
section
variable {X : Cx} {pins : List (Addr × Obj)} {σ : L2.St} {H : Hp} {s : Shared}
mutual
theorem reads_x (I : Inv X pins σ H s) (sm : SmT X.K) {v : V} {d : D} (hr : Rep X.K H nb v d) {u : Value} {p : PyData} (ru : RelV v u) (e : d.pyX = some p) : ∃ as, Reads s.heap u p as ∧ sysModules ∉ as :=
  match hr with
  | .non => by
    cases e; cases ru
    exact ⟨_, Reads.none, List.not_mem_nil⟩
  | .bl b => by
    cases e; cases ru
    exact ⟨_, Reads.bool b, List.not_mem_nil⟩
  | .int i => by
    cases e
    obtain ⟨t, rfl⟩ := ru
    exact ⟨_, Reads.int i t, List.not_mem_nil⟩
  | .str x => by
    cases e
    obtain ⟨t, rfl⟩ := ru
    exact ⟨_, Reads.str x t, List.not_mem_nil⟩
  | .lst (a := a) (ds := ds) h1 h2 h3 => by
    unfold D.pyX at e
    split at e
    · rename_i ys e1
      cases e
      cases ru
      obtain ⟨its, rv, ⟨o, n, ho, hc, _, hd⟩, _⟩ := I.list (.inl (.inl h1))
      obtain ⟨as, r1, r2⟩ := reads_xl I sm h3 rv e1
      refine ⟨_, Reads.list ho hc hd r1, fun z => ?_⟩
      rcases List.mem_cons.mp z with z | z
      · rw [← z] at ho
        rw [Inv.sm I sm _ ho] at hc
        exact absurd (Value.type.inj hc) (by decide)
      · exact r2 z
    · cases e
  | .tup (a := a) (ds := ds) h1 h3 => by
    unfold D.pyX at e
    split at e
    · rename_i ys e1
      cases e
      cases ru
      obtain ⟨its, rv, ⟨o, ho, hc, n, hd⟩, _⟩ := I.tuple (SqH h1)
      obtain ⟨as, r1, r2⟩ := reads_xl I sm h3 rv e1
      exact ⟨_, Reads.tuple ho hc hd r1, r2⟩
    · cases e
  | .dic (a := a) (ds := ds) h1 h2 h3 => by
    cases ds with
    | cons kv r => cases e
    | nil =>
      cases e
      cases h3
      cases ru
      obtain ⟨_, hd, vs, kv, o, es, ep, g1, g2, g3, g4, g5, g6⟩ := dk_rd I.hok h1
      obtain ⟨bs, r1, r2, r3⟩ := reads_k (w := X.w) (P := X.prog) (ds := []) (ps := []) I sm rfl .nil kv g5
      refine ⟨a :: [] ++ bs, .dict g1 g2.1 g3 r1 r2, fun z => ?_⟩
      rcases List.mem_cons.mp z with z | z
      · rw [← z] at hd
        exact absurd hd (by decide)
      · exact r3 z
  | .ins a b c => by cases e
  | .ty n => by cases e
  | .cls c => by cases e
  | .scr a => by cases e
  | .exc0 => by cases e
  | .exc a b => by cases e
  | .well a b => by cases e
  | .fam a b c d => by cases e
  | .dit a b c d => by cases e
theorem reads_xl (I : Inv X pins σ H s) (sm : SmT X.K) {vs : List V} {ds : List D} (hr : RepL X.K H nb vs ds) {us : List Value} {ps : List PyData} (ru : Vals vs us) (e : pyXL ds = some ps) : ∃ as, ReadsAll s.heap us ps as ∧ sysModules ∉ as :=
  match hr with
  | .nil => by
    cases e; cases ru
    exact ⟨[], .nil, List.not_mem_nil⟩
  | .cons r1 r2 => by
    unfold pyXL at e
    split at e
    · rename_i p ps e1 e2
      cases e
      cases ru with
      | cons k1 k2 =>
        obtain ⟨as, f1, f2⟩ := reads_x I sm r1 k1 e1
        obtain ⟨bs, g2, g3⟩ := reads_xl I sm r2 k2 e2
        exact ⟨as ++ bs, .cons f1 g2, fun z => (List.mem_append.mp z).elim f2 g3⟩
    · cases e
end
end
section
variable {X : Cx} {T : Th X.K} {W : WX} {O : List Nat} {e : Expr} {φ : DX} {pp pos : Pos}
end
end Dz
namespace Dz
open PySem PySem.Spec PyProof.Rows L2 Evl Bf
section
variable {X : Cx} {T : Th X.K} {W : WX} {O : List Nat} {e o : Expr} {es : List Expr} {φ : DX} {φs : DA} {pos apos p : Pos} {k n : Nat} {c m : Str} {fz : Nat} {F : DF}
end
end Dz
namespace Dz
open PySem PySem.Spec PyProof.Rows L2 Evl Bf
def dRevP : D → Option D
  | .tup [x, y] => some (.tup [y, x])
  | _ => none
section
variable {X : Cx} {T : Th X.K} {W : WX} {O : List Nat} {e : Expr} {φ : DX} {pos : Pos}
theorem be_revP {kk : Nat} {p1 p2 p3 : Pos} (he : PE X e (eoOf T W O φ)) : PE X (.Subscript e (.Slice none none (some (.UnaryOp .USub (.Constant (.int 1) kk p1) p2)) p3) pos) (eOf T W O (xOp1 dRevP φ)) :=
  peI (pe_revP he) fun σ H Q ⟨ρ, ow0, fr, A, Ax, ok, er, q, k, x⟩ => ⟨ρ, ow0, fr, _, Ax, ok, er, q, fun d v G ⟨z, ez, qz⟩ okG gG rv => (by
    unfold dRevP at ez
    split at ez
    · cases ez
      obtain ⟨p, ws, rfl, hp, rp⟩ := o_tup rv
      cases rp with
      | cons r1 r2 => cases r2 with
        | cons r2 r3 =>
          cases r3
          refine ⟨p, _, _, rfl, SqH hp, fun y hy => ?_⟩
          obtain ⟨h1, h2, h3⟩ := new_tup okG (er.gr T gG).otrk hy (.cons r2 (.cons r1 .nil))
          exact k _ _ _ qz h1 (T.trans gG h2) h3
    · cases ez), x⟩
end
end Dz
namespace Dz
open PySem PySem.Spec PyProof.Rows L2 Evl Bf
theorem for_invPW {φ : DS} {x : Nat} {E : DE} (ks : List Str) (P : Nat → Ro → Prop) (st : ∀ i k ρ N, ks[i]? = some k → P i ρ → (∀ ρ', P (i + 1) ρ' → N ρ') → φ { nx := N, rt := fun _ => False, bk := E.nx, ct := N, ex := fun _ _ => False } (ρ.set x (some (.str k)))) (fin : ∀ ρ, P ks.length ρ → E.nx ρ) {ρ : Ro} (p0 : P 0 ρ) : frP φ x E (ks.map Sum.inr) ρ := by
  have go : ∀ (n i : Nat) (ρ : Ro), ks.length = n + i → P i ρ → frP φ x E ((ks.drop i).map Sum.inr) ρ := fun n => by
    induction n with
    | zero =>
      intro i ρ e p
      rw [List.drop_of_length_le (by omega)]
      have ei : i = ks.length := by omega
      exact fin ρ (ei ▸ p)
    | succ n ih =>
      intro i ρ e p
      have lt : i < ks.length := by omega
      rw [List.drop_eq_getElem_cons lt, List.map_cons]
      exact st i ks[i] ρ _ (List.getElem?_eq_getElem lt) p fun ρ' p' => ih (i + 1) ρ' (by omega) p'
  have := go ks.length 0 ρ (by omega) p0
  rwa [List.drop_zero] at this
structure WebP (ps ts : List Str) (a b : Str → Str) : Prop where
  w : WbH ps a b
  np : ∀ x ∈ ps, isNm x = true
  l1 : 1 ≤ ps.length
  l16 : ps.length ≤ 16
  td : ts.Nodup
  nt : ∀ t ∈ ts, isNm t = true
  l20 : ts.length ≤ 20
def tieD (ts : List Str) (a b : Str → Str) : D := .dic (dictS ts fun t => tupS [a t, b t])
def r_L11Family : DS :=
  (sRet (xFn F_TiesF (aCons (xX (xFn F_WInit (aCons (xOp2 dIx (xVar 0) (xC (.int 0))) (aCons (xOp2 dIx (xVar 0) (xC (.int 1))) aNil)))) aNil)))
def F_L11Family : DF := fun ds A _ => ∃ ps ts a b, ds = [.tup [lstS ps, tieD ts a b]] ∧ WebP ps ts a b ∧ ∀ d, FamWK 0 d (srt ts) (wk ps a b) → A d
theorem n_L11Family (ds : List D) (A : D → Prop) (Ax : XQ) (h : F_L11Family ds A Ax) : fnD 0 1 1 r_L11Family ds A Ax := by
  obtain ⟨ps, ts, a, b, rfl, w, q⟩ := h
  simp only [r_L11Family, tieD, fnD, iniD, startD, sNil, sSeq, sIf, sRet, sSet, sSetO, sExpr, sApp, sPut, sClr, sExt, sIns, sRaise, sRaise2, sAsg, sFor, sSetM, sAppM, sFld', xPopAt, xPop, xVar, xC, xOp1, xOp2, xNeg, xAnd, xOr, xNot, xIf, xB, xFn, xTup, xLst, xFld, xDGet, xDIn, xSl, xChain, oNone, oSome, aNil, aCons, tB', tAnd', tOr', tNot', tYesD, gN, gT, gsN, gsC, iLst, iTupD, iRg1, iRg2, iEnm, iTxt, List.map_cons, List.map_nil, List.length_cons, List.length_nil, List.replicate, List.replicate_succ, List.replicate_zero, List.cons_append, List.nil_append, List.set_cons_zero, List.set_cons_succ, List.getElem?_cons_zero, List.getElem?_cons_succ, Option.some.injEq, D.int.injEq, D.str.injEq, D.bl.injEq, D.lst.injEq, D.tup.injEq, D.dic.injEq, D.ins.injEq, exists_eq_left, exists_eq_left', exists_eq_right, exists_eq_right', exists_and_left, and_true, true_and, Nat.reduceAdd, Nat.reduceSub, Nat.reduceLT, Nat.reduceEqDiff, Nat.add_one_sub_one, Nat.sub_zero, if_true, if_false, Bool.false_eq_true, reduceIte, wipeR, List.cons.injEq, Nat.zero_add, reduceCtorEq, false_and, exists_false, Bool.false_bne, Bool.true_bne, len_lst, len_tup, len_scr, in_lst, in_tup, dKey_str, dKey_int, and_assoc, eq_int, dSub, dLt, dLe, dGt, dGe, isNonD, dIs, dMin, dMax, xMeth, xMeth0, xEqO, xXf, sTry, catchD, offD, add_int, dList, dTuple, xFlt, xFltC, xFltX, xFltCX, xX, sAppP, sClrP, sFldP, sPutP, pVar, pIx, pFld, id, xDisp, pairsD, xNames, xMethF, xMeth0F, aStar, xTGet, xTIn, sPutT, sRaise0, sTryM, catchM, emEq, tKey_strs, famNs, Option.isSome_some, iSqV, sForW, xJoin, dSortedY, xRevL, sDead, xDead, xDc, sPar, sParO, dMin2, dMax2, dHas, dLenF, xSortR, dXor, xDcT, xMk0, seqOf, xLc, xLenSet, iEnmT, xDvs, xSortRD, sClrD, sAug, aStarD, dSortedP, sPar3]
  have dps : (srt ps).Nodup := (srt_perm ps).nodup_iff.mpr w.w.nd
  have ha : ∀ t, a t ∈ srt ps := fun t => srt_mem.mpr (w.w.ha t)
  have hb : ∀ t, b t ∈ srt ps := fun t => srt_mem.mpr (w.w.hb t)
  have hmn : ∀ t, P01.mnS (a t) (b t) ∈ srt ps := fun t => by rcases mn_mx (a t) (b t) with h | h <;> rw [h.1] <;> simp [ha, hb]
  have hmx : ∀ t, P01.mxS (a t) (b t) ∈ srt ps := fun t => by rcases mn_mx (a t) (b t) with h | h <;> rw [h.2] <;> simp [ha, hb]
  have l16 := w.l16
  have l20 := w.l20
  refine ⟨_, rfl, _, rfl, ps, ts, a, b, rfl, w.w.nd, w.np, w.l1, l16, w.td, fun t ht => ⟨w.nt t ht, w.w.ha t, w.w.hb t⟩, by omega, ?_⟩
  refine ⟨_, _, _, _, rfl, ⟨dps, by rw [srt_len]; omega, (srt_perm ts).nodup_iff.mpr w.td, by rw [srt_len]; omega, hmn, hmx, fun x hx => strOk_nm (w.np x (srt_mem.mp hx))⟩, srt_congr (srt_perm ts), by rw [srt_len]; omega, fun x hx => strOk_nm (w.nt x (srt_mem.mp hx)), fun d fd => ?_⟩
  exact q d ⟨fd.congr fun X _ => by rw [wm_ends dps ha hb]; rfl, w.w.mat, fun x hx => w.nt x (srt_mem.mp hx)⟩
def r_L11Merged : DS :=
  (sSeq (sAsg (xDGet (xVar 1) (xVar 2)) (gT 2 (gsC (gN 3) (gsC (gN 4) gsN))))
    (sSeq (sSetO 5 (xC (.dic [])))
    (sSeq (sForP 1 6
    (sIf (tB' (xOp2 (dEq true) (xVar 6) (xVar 2)))
    (sPut 5 (xVar 6) (xB dTuple (aCons (xLc (iTupD (xDGet (xVar 1) (xVar 6))) [7] (gN 7) tYesD (xIf (tB' (xOp2 (dEq false) (xVar 7) (xVar 4))) (xVar 3) (xVar 7))) aNil)))
    sNil))
    (sRet (xTup (aCons (xLc (iLst (xVar 0)) [7] (gN 7) (tOr' (tB' (xOp2 (dEq false) (xVar 7) (xVar 3))) (tB' (xOp2 (dEq true) (xVar 7) (xVar 4)))) (xVar 7)) (aCons (xVar 5) aNil)))))))
def F_L11Merged : DF := fun ds A _ => ∃ ps ts a b t0, ds = [lstS ps, tieD ts a b, .str t0] ∧ WebP ps ts a b ∧ t0 ∈ ts ∧ A (.tup [lstS (mrgP (a t0) (b t0) ps), tieD (ts.filter fun t => decide (t ≠ t0)) (fun t => mrg (a t0) (b t0) (a t)) fun t => mrg (a t0) (b t0) (b t)])
theorem n_L11Merged (ds : List D) (A : D → Prop) (Ax : XQ) (h : F_L11Merged ds A Ax) : fnD 0 8 3 r_L11Merged ds A Ax := by
  obtain ⟨ps, ts, a, b, t0, rfl, w, h0, q⟩ := h
  simp only [r_L11Merged, tieD, sForP, fnD, iniD, startD, sNil, sSeq, sIf, sRet, sSet, sSetO, sExpr, sApp, sPut, sClr, sExt, sIns, sRaise, sRaise2, sAsg, sFor, sSetM, sAppM, sFld', xPopAt, xPop, xVar, xC, xOp1, xOp2, xNeg, xAnd, xOr, xNot, xIf, xB, xFn, xTup, xLst, xFld, xDGet, xDIn, xSl, xChain, oNone, oSome, aNil, aCons, tB', tAnd', tOr', tNot', tYesD, gN, gT, gsN, gsC, iLst, iTupD, iRg1, iRg2, iEnm, iTxt, List.map_cons, List.map_nil, List.length_cons, List.length_nil, List.replicate, List.replicate_succ, List.replicate_zero, List.cons_append, List.nil_append, List.set_cons_zero, List.set_cons_succ, List.getElem?_cons_zero, List.getElem?_cons_succ, Option.some.injEq, D.int.injEq, D.str.injEq, D.bl.injEq, D.lst.injEq, D.tup.injEq, D.dic.injEq, D.ins.injEq, exists_eq_left, exists_eq_left', exists_eq_right, exists_eq_right', exists_and_left, and_true, true_and, Nat.reduceAdd, Nat.reduceSub, Nat.reduceLT, Nat.reduceEqDiff, Nat.add_one_sub_one, Nat.sub_zero, if_true, if_false, Bool.false_eq_true, reduceIte, wipeR, List.cons.injEq, Nat.zero_add, reduceCtorEq, false_and, exists_false, Bool.false_bne, Bool.true_bne, len_lst, len_tup, len_scr, in_lst, in_tup, dKey_str, dKey_int, and_assoc, eq_int, dSub, dLt, dLe, dGt, dGe, isNonD, dIs, dMin, dMax, xMeth, xMeth0, xEqO, xXf, sTry, catchD, offD, add_int, dList, dTuple, xFlt, xFltC, xFltX, xFltCX, xX, sAppP, sClrP, sFldP, sPutP, pVar, pIx, pFld, id, xDisp, pairsD, xNames, xMethF, xMeth0F, aStar, xTGet, xTIn, sPutT, sRaise0, sTryM, catchM, emEq, tKey_strs, famNs, Option.isSome_some, iSqV, sForW, xJoin, dSortedY, xRevL, sDead, xDead, xDc, sPar, sParO, dMin2, dMax2, dHas, dLenF, xSortR, dXor, xDcT, xMk0, seqOf, xLc, xLenSet, iEnmT, xDvs, xSortRD, sClrD, sAug, aStarD, dSortedP, sPar3]
  have ok : ∀ x ∈ ps, PyData.strOk x = true := fun x hx => strOk_nm (w.np x hx)
  have l16 := w.l16
  have l20 := w.l20
  refine ⟨_, dictS_get h0, _, rfl, rfl, _, _, rfl, _, _, rfl, rfl, ?_⟩
  have ek : (dictS ts fun t => tupS [a t, b t]).map (fun x => x.fst) = ts.map Sum.inr := by unfold dictS; rw [List.map_map]; rfl
  rw [ek]
  refine for_invPW ts (fun i ρ => ∃ s6, ρ = [some (lstS ps), some (tieD ts a b), some (.str t0), some (.str (a t0)), some (.str (b t0)), some (tieD ((ts.take i).filter fun t => decide (t ≠ t0)) (fun t => mrg (a t0) (b t0) (a t)) fun t => mrg (a t0) (b t0) (b t)), s6, none]) (fun i x ρ N hx pr nx => ?_) (fun ρ pr => ?_) ⟨_, rfl⟩
  · obtain ⟨s6, rfl⟩ := pr
    have hm := List.mem_of_getElem? hx
    simp only [tieD, fnD, iniD, startD, sNil, sSeq, sIf, sRet, sSet, sSetO, sExpr, sApp, sPut, sClr, sExt, sIns, sRaise, sRaise2, sAsg, sFor, sSetM, sAppM, sFld', xPopAt, xPop, xVar, xC, xOp1, xOp2, xNeg, xAnd, xOr, xNot, xIf, xB, xFn, xTup, xLst, xFld, xDGet, xDIn, xSl, xChain, oNone, oSome, aNil, aCons, tB', tAnd', tOr', tNot', tYesD, gN, gT, gsN, gsC, iLst, iTupD, iRg1, iRg2, iEnm, iTxt, List.map_cons, List.map_nil, List.length_cons, List.length_nil, List.replicate, List.replicate_succ, List.replicate_zero, List.cons_append, List.nil_append, List.set_cons_zero, List.set_cons_succ, List.getElem?_cons_zero, List.getElem?_cons_succ, Option.some.injEq, D.int.injEq, D.str.injEq, D.bl.injEq, D.lst.injEq, D.tup.injEq, D.dic.injEq, D.ins.injEq, exists_eq_left, exists_eq_left', exists_eq_right, exists_eq_right', exists_and_left, and_true, true_and, Nat.reduceAdd, Nat.reduceSub, Nat.reduceLT, Nat.reduceEqDiff, Nat.add_one_sub_one, Nat.sub_zero, if_true, if_false, Bool.false_eq_true, reduceIte, wipeR, List.cons.injEq, Nat.zero_add, reduceCtorEq, false_and, exists_false, Bool.false_bne, Bool.true_bne, len_lst, len_tup, len_scr, in_lst, in_tup, dKey_str, dKey_int, and_assoc, eq_int, dSub, dLt, dLe, dGt, dGe, isNonD, dIs, dMin, dMax, xMeth, xMeth0, xEqO, xXf, sTry, catchD, offD, add_int, dList, dTuple, xFlt, xFltC, xFltX, xFltCX, xX, sAppP, sClrP, sFldP, sPutP, pVar, pIx, pFld, id, xDisp, pairsD, xNames, xMethF, xMeth0F, aStar, xTGet, xTIn, sPutT, sRaise0, sTryM, catchM, emEq, tKey_strs, famNs, Option.isSome_some, iSqV, sForW, xJoin, dSortedY, xRevL, sDead, xDead, xDc, sPar, sParO, dMin2, dMax2, dHas, dLenF, xSortR, dXor, xDcT, xMk0, seqOf, xLc, xLenSet, iEnmT, xDvs, xSortRD, sClrD, sAug, aStarD, dSortedP, sPar3]
    refine ⟨_, eqS (strOk_nm (w.nt x hm)) (strOk_nm (w.nt t0 h0)), _, rfl, ?_⟩
    have tk : ts.take (i + 1) = ts.take i ++ [x] := take_next hx
    by_cases c : x = t0
    · rw [if_neg (by rw [decide_eq_true c]; decide)]
      refine nx _ ⟨some (.str x), ?_⟩
      rw [tk, List.filter_append, List.filter_cons_of_neg (by simp [c]), List.filter_nil, List.append_nil]
      rfl
    · rw [if_pos (by rw [decide_eq_false c]; rfl)]
      have hi : i < ts.length := (List.getElem?_eq_some_iff.mp hx).1
      have lf := List.length_filter_le (fun t => decide (t ≠ t0)) (ts.take i)
      have lt : (ts.take i).length ≤ i := by rw [List.length_take]; omega
      refine ⟨by rw [dictS_len]; show _ < 100000; omega, _, dictS_get hm, _, rfl, by show 2 ≤ 100000; decide, ?_⟩
      refine lc_mapT D.str (fun p => .str (mrg (a t0) (b t0) p)) [a x, b x] (fun p hp K k => ?_) ?_
      · have hp : p ∈ ps := by
          simp only [List.mem_cons, List.not_mem_nil, or_false] at hp
          rcases hp with rfl | rfl
          · exact w.w.ha x
          · exact w.w.hb x
        walk_at "zS1"
        refine ⟨_, eqS (ok _ hp) (ok _ (w.w.hb t0)), _, rfl, ?_⟩
        unfold mrg at k
        by_cases e : p = b t0
        · rw [if_pos (by rw [decide_eq_true e]; rfl)]
          rw [if_pos e] at k
          exact k
        · rw [if_neg (by rw [decide_eq_false e]; decide)]
          rw [if_neg e] at k
          exact k
      · refine nx _ ⟨some (.str x), ?_⟩
        have nin : x ∉ (ts.take i).filter fun t => decide (t ≠ t0) := fun z => nd_take w.td hi (by
          rw [(List.getElem?_eq_some_iff.mp hx).2]; exact (List.mem_filter.mp z).1)
        rw [tk, List.filter_append, List.filter_cons_of_pos (by simp [c]), List.filter_nil]
        have e : (dictS ((ts.take i).filter (fun t => decide (t ≠ t0)) ++ [x]) fun q => if q = x then D.tup (List.map (fun p => D.str (mrg (a t0) (b t0) p)) [a x, b x]) else tupS [mrg (a t0) (b t0) (a q), mrg (a t0) (b t0) (b q)]) = dictS ((ts.take i).filter (fun t => decide (t ≠ t0)) ++ [x]) fun t => tupS [mrg (a t0) (b t0) (a t), mrg (a t0) (b t0) (b t)] := dictS_congr fun q _ => by
          by_cases e : q = x
          · rw [if_pos e, e]; rfl
          · rw [if_neg e]
        rw [dictS_new nin, e]
        rfl
  · obtain ⟨s6, rfl⟩ := pr
    simp only [tieD, fnD, iniD, startD, sNil, sSeq, sIf, sRet, sSet, sSetO, sExpr, sApp, sPut, sClr, sExt, sIns, sRaise, sRaise2, sAsg, sFor, sSetM, sAppM, sFld', xPopAt, xPop, xVar, xC, xOp1, xOp2, xNeg, xAnd, xOr, xNot, xIf, xB, xFn, xTup, xLst, xFld, xDGet, xDIn, xSl, xChain, oNone, oSome, aNil, aCons, tB', tAnd', tOr', tNot', tYesD, gN, gT, gsN, gsC, iLst, iTupD, iRg1, iRg2, iEnm, iTxt, List.map_cons, List.map_nil, List.length_cons, List.length_nil, List.replicate, List.replicate_succ, List.replicate_zero, List.cons_append, List.nil_append, List.set_cons_zero, List.set_cons_succ, List.getElem?_cons_zero, List.getElem?_cons_succ, Option.some.injEq, D.int.injEq, D.str.injEq, D.bl.injEq, D.lst.injEq, D.tup.injEq, D.dic.injEq, D.ins.injEq, exists_eq_left, exists_eq_left', exists_eq_right, exists_eq_right', exists_and_left, and_true, true_and, Nat.reduceAdd, Nat.reduceSub, Nat.reduceLT, Nat.reduceEqDiff, Nat.add_one_sub_one, Nat.sub_zero, if_true, if_false, Bool.false_eq_true, reduceIte, wipeR, List.cons.injEq, Nat.zero_add, reduceCtorEq, false_and, exists_false, Bool.false_bne, Bool.true_bne, len_lst, len_tup, len_scr, in_lst, in_tup, dKey_str, dKey_int, and_assoc, eq_int, dSub, dLt, dLe, dGt, dGe, isNonD, dIs, dMin, dMax, xMeth, xMeth0, xEqO, xXf, sTry, catchD, offD, add_int, dList, dTuple, xFlt, xFltC, xFltX, xFltCX, xX, sAppP, sClrP, sFldP, sPutP, pVar, pIx, pFld, id, xDisp, pairsD, xNames, xMethF, xMeth0F, aStar, xTGet, xTIn, sPutT, sRaise0, sTryM, catchM, emEq, tKey_strs, famNs, Option.isSome_some, iSqV, sForW, xJoin, dSortedY, xRevL, sDead, xDead, xDc, sPar, sParO, dMin2, dMax2, dHas, dLenF, xSortR, dXor, xDcT, xMk0, seqOf, xLc, xLenSet, iEnmT, xDvs, xSortRD, sClrD, sAug, aStarD, dSortedP, sPar3]
    rw [List.take_length]
    refine ⟨by rw [List.length_map]; show _ ≤ 100000; omega, ?_⟩
    refine lc_filT D.str (fun p => decide (p = a t0) || decide (p ≠ b t0)) D.str ps (fun p hp K k => ?_) ⟨by decide, q⟩
    walk_at "zS1"
    refine ⟨_, eqS (ok _ hp) (ok _ (w.w.ha t0)), _, rfl, ?_⟩
    by_cases c : p = a t0
    · rw [decide_eq_true c, Bool.true_or] at k
      rw [if_pos (by rw [decide_eq_true c]; rfl)]
      exact k
    · rw [decide_eq_false c, Bool.false_or] at k
      rw [if_neg (by rw [decide_eq_false c]; decide)]
      refine ⟨_, eqS (ok _ hp) (ok _ (w.w.hb t0)), _, rfl, ?_⟩
      rw [show (true != decide (p = b t0)) = decide (p ≠ b t0) by by_cases c : p = b t0 <;> simp [c]]
      exact ite_k k
def r_L11Without : DS :=
  (sRet (xTup (aCons (xVar 0) (aCons (xB dDictP (aCons (xLc (iKey (xVar 1)) [3] (gN 3) (tB' (xOp2 (dIn true) (xVar 3) (xVar 2))) (xTup (aCons (xVar 3) (aCons (xDGet (xVar 1) (xVar 3)) aNil)))) aNil)) aNil))))
def F_L11Without : DF := fun ds A _ => ∃ ps ts a b L, ds = [lstS ps, tieD ts a b, lstS L] ∧ WebP ps ts a b ∧ A (.tup [lstS ps, tieD (ts.filter fun t => decide (t ∉ L)) a b])
theorem n_L11Without (ds : List D) (A : D → Prop) (Ax : XQ) (h : F_L11Without ds A Ax) : fnD 0 4 3 r_L11Without ds A Ax := by
  obtain ⟨ps, ts, a, b, L, rfl, w, q⟩ := h
  simp only [r_L11Without, tieD, iKey, fnD, iniD, startD, sNil, sSeq, sIf, sRet, sSet, sSetO, sExpr, sApp, sPut, sClr, sExt, sIns, sRaise, sRaise2, sAsg, sFor, sSetM, sAppM, sFld', xPopAt, xPop, xVar, xC, xOp1, xOp2, xNeg, xAnd, xOr, xNot, xIf, xB, xFn, xTup, xLst, xFld, xDGet, xDIn, xSl, xChain, oNone, oSome, aNil, aCons, tB', tAnd', tOr', tNot', tYesD, gN, gT, gsN, gsC, iLst, iTupD, iRg1, iRg2, iEnm, iTxt, List.map_cons, List.map_nil, List.length_cons, List.length_nil, List.replicate, List.replicate_succ, List.replicate_zero, List.cons_append, List.nil_append, List.set_cons_zero, List.set_cons_succ, List.getElem?_cons_zero, List.getElem?_cons_succ, Option.some.injEq, D.int.injEq, D.str.injEq, D.bl.injEq, D.lst.injEq, D.tup.injEq, D.dic.injEq, D.ins.injEq, exists_eq_left, exists_eq_left', exists_eq_right, exists_eq_right', exists_and_left, and_true, true_and, Nat.reduceAdd, Nat.reduceSub, Nat.reduceLT, Nat.reduceEqDiff, Nat.add_one_sub_one, Nat.sub_zero, if_true, if_false, Bool.false_eq_true, reduceIte, wipeR, List.cons.injEq, Nat.zero_add, reduceCtorEq, false_and, exists_false, Bool.false_bne, Bool.true_bne, len_lst, len_tup, len_scr, in_lst, in_tup, dKey_str, dKey_int, and_assoc, eq_int, dSub, dLt, dLe, dGt, dGe, isNonD, dIs, dMin, dMax, xMeth, xMeth0, xEqO, xXf, sTry, catchD, offD, add_int, dList, dTuple, xFlt, xFltC, xFltX, xFltCX, xX, sAppP, sClrP, sFldP, sPutP, pVar, pIx, pFld, id, xDisp, pairsD, xNames, xMethF, xMeth0F, aStar, xTGet, xTIn, sPutT, sRaise0, sTryM, catchM, emEq, tKey_strs, famNs, Option.isSome_some, iSqV, sForW, xJoin, dSortedY, xRevL, sDead, xDead, xDc, sPar, sParO, dMin2, dMax2, dHas, dLenF, xSortR, dXor, xDcT, xMk0, seqOf, xLc, xLenSet, iEnmT, xDvs, xSortRD, sClrD, sAug, aStarD, dSortedP, sPar3]
  have l20 := w.l20
  have ek : (dictS ts fun t => tupS [a t, b t]).map (fun p => kD p.fst) = ts.map D.str := dictS_keys _ _
  rw [ek]
  refine ⟨by rw [List.length_map]; show _ ≤ 100000; omega, ?_⟩
  refine lc_filT D.str (fun t => decide (t ∉ L)) (fun t => .tup [.str t, tupS [a t, b t]]) ts (fun t ht K k => ?_) ?_
  · walk_at "zS1"
    by_cases c : t ∈ L
    · rw [if_neg (by rw [decide_eq_true c]; decide)]
      rw [if_neg (by simp [c])] at k
      exact k
    · rw [if_pos (by rw [decide_eq_false c]; rfl)]
      rw [if_pos (by simp [c])] at k
      exact ⟨_, dictS_get ht, by decide, k⟩
  · refine ⟨_, dDictP_names (fun t => tupS [a t, b t]) (w.td.filter _), by decide, q⟩
end Dz
namespace Dz
open PySem PySem.Spec PyProof.Rows L2 Evl Bf
def q8 : Str := "qqqqqqqq"
def r8 : Str := "rrrrrrrr"
def dbl (t0 p0 : Str) (u w : Str → Str) (t : Str) : Str := if t = r8 then p0 else if t = q8 then u t0 else w t
theorem dbl_r (t0 p0 : Str) (u w : Str → Str) : dbl t0 p0 u w r8 = p0 := if_pos rfl
theorem dbl_q (t0 p0 : Str) (u w : Str → Str) : dbl t0 p0 u w q8 = u t0 := by
  unfold dbl
  rw [if_neg (by decide), if_pos rfl]
theorem nml_q {x : Str} (h : NmL x) : x ≠ q8 := fun e => h.2.2 (by rw [e]; rfl)
theorem nml_r {x : Str} (h : NmL x) : x ≠ r8 := fun e => h.2.2 (by rw [e]; rfl)
theorem dbl_o (t0 p0 : Str) (u w : Str → Str) {t : Str} (h : NmL t) : dbl t0 p0 u w t = w t := by
  unfold dbl
  rw [if_neg (nml_r h), if_neg (nml_q h)]
section
variable {ps ts : List Str} {a b : Str → Str} {t0 p0 : Str}
theorem WebP.dbl (w : WebP ps ts a b) (nl : ∀ x ∈ ts, NmL x) (hp : p0 ∈ ps) (l : ts.length ≤ 18) : WebP ps ((ts ++ [q8]) ++ [r8]) (dbl t0 p0 b a) (dbl t0 p0 a b) where
  w := ⟨w.w.nd, fun t => by unfold Dz.dbl; split; exact hp; split; exact w.w.hb _; exact w.w.ha _, fun t => by unfold Dz.dbl; split; exact hp; split; exact w.w.ha _; exact w.w.hb _⟩
  np := w.np
  l1 := w.l1
  l16 := w.l16
  td := by
    have h1 : q8 ∉ ts := fun z => nml_q (nl _ z) rfl
    have h2 : r8 ∉ ts := fun z => nml_r (nl _ z) rfl
    refine List.nodup_append.mpr ⟨List.nodup_append.mpr ⟨w.td, by simp, fun x hx y hy e => ?_⟩, by simp, fun x hx y hy e => ?_⟩
    · rw [List.mem_singleton.mp hy] at e
      exact h1 (e ▸ hx)
    · rw [List.mem_singleton.mp hy] at e
      subst e
      rcases List.mem_append.mp hx with h | h
      · exact h2 h
      · exact absurd (List.mem_singleton.mp h) (by decide)
  nt := fun t ht => by
    rcases List.mem_append.mp ht with h | h
    · rcases List.mem_append.mp h with h | h
      · exact w.nt t h
      · rw [List.mem_singleton.mp h]; decide
    · rw [List.mem_singleton.mp h]; decide
  l20 := by rw [List.length_append, List.length_append]; show ts.length + 1 + 1 ≤ 20; omega
theorem wk_same {a' b' : Str → Str} {X Y : List Str} (h : WbH ps a b) (h' : WbH ps a' b') (e : ∀ g : Str → Str, (∀ t ∈ X, g (a' t) = g (b' t)) ↔ ∀ t ∈ Y, g (a t) = g (b t)) : wk ps a' b' X = wk ps a b Y := wk_even h' h e
theorem wk_agr {a' b' : Str → Str} {X : List Str} (h : WbH ps a b) (h' : WbH ps a' b') (ea : ∀ t ∈ X, a' t = a t) (eb : ∀ t ∈ X, b' t = b t) : wk ps a' b' X = wk ps a b X := wk_same h h' fun g => forall_congr' fun t => forall_congr' fun ht => by rw [ea t ht, eb t ht]
end
theorem eqLs11 {neg : Bool} {xs ys : List Str} (h1 : ∀ x ∈ xs, PyData.strOk x = true) (h2 : ∀ x ∈ ys, PyData.strOk x = true) : dEq neg (lstS xs) (lstS ys) = some (.bl (neg != decide (xs = ys))) :=
  eq_of (okE_up (by decide : 1 ≤ 64) _ (ok_lst (ok_strs h1))) (okE_up (by decide : 1 ≤ 64) _ (ok_lst (ok_strs h2))) (by
    rw [decide_eq_true_iff]
    refine ⟨fun e => by rw [e], fun e => ?_⟩
    have : xs.map D.str = ys.map D.str := by injection e
    exact map_inj (fun x y e => by injection e) _ _ this)
def r_L11Doubled : DS :=
  (sSeq (sSet 4 (xFn F_LPick (aCons (xVar 0) (aCons (xB dSortedDk (aCons (xVar 2) aNil)) aNil))))
    (sSeq (sSetO 5 (xB dDictD (aCons (xVar 2) aNil)))
    (sSeq (sPut 5 (xC (.str "qqqqqqqq")) (xOp1 dRevP (xDGet (xVar 2) (xVar 4))))
    (sSeq (sPut 5 (xC (.str "rrrrrrrr")) (xTup (aCons (xOp2 dIx (xVar 1) (xC (.int 0))) (aCons (xOp2 dIx (xVar 1) (xC (.int 0))) aNil))))
    (sSeq (sSet 6 (xFn F_L11Family (aCons (xTup (aCons (xVar 1) (aCons (xVar 5) aNil))) aNil)))
    (sSeq (sSet 7 (xFn F_LLot (aCons (xVar 0) (aCons (xLc (iKey (xVar 2)) [9] (gN 9) (tB' (xOp2 (dEq true) (xVar 9) (xVar 4))) (xVar 9)) aNil))))
    (sSeq (sSet 8 (xOp2 dAdd (xOp2 dAdd (xMeth0F F_FStuck (xVar 3)) (xLst (aCons (xC (.str "rrrrrrrr")) aNil))) (xLc (iLst (xLst (aCons (xC (.str "qqqqqqqq")) aNil))) [9] (gN 9) (tB' (xOp2 (dIn false) (xVar 4) (xMeth0F F_FStuck (xVar 3)))) (xVar 9))))
    (sSeq (sIf (tOr' (tB' (xOp2 (dEq true) (xMethF F_FRank (xVar 6) (aCons (xOp2 dAdd (xVar 7) (xLst (aCons (xC (.str "qqqqqqqq")) aNil))) aNil)) (xMethF F_FRank (xVar 3) (aCons (xOp2 dAdd (xVar 7) (xLst (aCons (xVar 4) aNil))) aNil)))) (tB' (xOp2 (dEq true) (xMeth0F F_FStuck (xVar 6)) (xB dSorted (aCons (xVar 8) aNil)))))
    (sRet (xC (.bl false)))
    sNil)
    (sSeq (sIf (tB' (xOp2 (dEq true) (xMethF F_FRank (xVar 6) (aCons (xOp2 dAdd (xVar 7) (xLst (aCons (xVar 4) (aCons (xC (.str "qqqqqqqq")) (aCons (xC (.str "rrrrrrrr")) aNil))))) aNil)) (xMethF F_FRank (xVar 3) (aCons (xOp2 dAdd (xVar 7) (xLst (aCons (xVar 4) aNil))) aNil))))
    (sRet (xC (.bl false)))
    sNil)
    (sRet (xOp2 (dIs false) (xFn F_Alike (aCons (xFn F_Inside (aCons (xVar 6) (aCons (xB dSortedDk (aCons (xVar 2) aNil)) aNil))) (aCons (xVar 3) aNil))) (xC .non))))))))))))
def F_L11Doubled : DF := fun ds A _ => ∃ ps ts a b d, ds = [.well 0, lstS ps, tieD ts a b, d] ∧ WebP ps ts a b ∧ (∀ x ∈ ts, NmL x) ∧ ts ≠ [] ∧ ts.length ≤ 7 ∧ FamWK 0 d (srt ts) (wk ps a b) ∧ A (.bl true)
theorem n_L11Doubled (ds : List D) (A : D → Prop) (Ax : XQ) (h : F_L11Doubled ds A Ax) : fnD 0 10 4 r_L11Doubled ds A Ax := by
  obtain ⟨ps, ts, a, b, d, rfl, w, nl, ne, l7, fw, q⟩ := h
  obtain ⟨p0, pr, rfl⟩ : ∃ p0 pr, ps = p0 :: pr := by
    have := w.l1
    cases ps with
    | nil => exact absurd this (by decide)
    | cons p0 pr => exact ⟨p0, pr, rfl⟩
  simp only [r_L11Doubled, tieD, iKey, fnD, iniD, startD, sNil, sSeq, sIf, sRet, sSet, sSetO, sExpr, sApp, sPut, sClr, sExt, sIns, sRaise, sRaise2, sAsg, sFor, sSetM, sAppM, sFld', xPopAt, xPop, xVar, xC, xOp1, xOp2, xNeg, xAnd, xOr, xNot, xIf, xB, xFn, xTup, xLst, xFld, xDGet, xDIn, xSl, xChain, oNone, oSome, aNil, aCons, tB', tAnd', tOr', tNot', tYesD, gN, gT, gsN, gsC, iLst, iTupD, iRg1, iRg2, iEnm, iTxt, List.map_cons, List.map_nil, List.length_cons, List.length_nil, List.replicate, List.replicate_succ, List.replicate_zero, List.cons_append, List.nil_append, List.set_cons_zero, List.set_cons_succ, List.getElem?_cons_zero, List.getElem?_cons_succ, Option.some.injEq, D.int.injEq, D.str.injEq, D.bl.injEq, D.lst.injEq, D.tup.injEq, D.dic.injEq, D.ins.injEq, exists_eq_left, exists_eq_left', exists_eq_right, exists_eq_right', exists_and_left, and_true, true_and, Nat.reduceAdd, Nat.reduceSub, Nat.reduceLT, Nat.reduceEqDiff, Nat.add_one_sub_one, Nat.sub_zero, if_true, if_false, Bool.false_eq_true, reduceIte, wipeR, List.cons.injEq, Nat.zero_add, reduceCtorEq, false_and, exists_false, Bool.false_bne, Bool.true_bne, len_lst, len_tup, len_scr, in_lst, in_tup, dKey_str, dKey_int, and_assoc, eq_int, dSub, dLt, dLe, dGt, dGe, isNonD, dIs, dMin, dMax, xMeth, xMeth0, xEqO, xXf, sTry, catchD, offD, add_int, dList, dTuple, xFlt, xFltC, xFltX, xFltCX, xX, sAppP, sClrP, sFldP, sPutP, pVar, pIx, pFld, id, xDisp, pairsD, xNames, xMethF, xMeth0F, aStar, xTGet, xTIn, sPutT, sRaise0, sTryM, catchM, emEq, tKey_strs, famNs, Option.isSome_some, iSqV, sForW, xJoin, dSortedY, xRevL, sDead, xDead, xDc, sPar, sParO, dMin2, dMax2, dHas, dLenF, xSortR, dXor, xDcT, xMk0, seqOf, xLc, xLenSet, iEnmT, xDvs, xSortRD, sClrD, sAug, aStarD, dSortedP, sPar3]
  have l16 := w.l16
  have okt : ∀ x ∈ ts, PyData.strOk x = true := fun x hx => strOk_nm (w.nt x hx)
  have es : dSortedDk [.dic (dictS ts fun t => tupS [a t, b t])] = some (lstS (srt ts)) := by
    unfold dSortedDk
    simp only [dictS_keys, strs_map]
    rw [if_pos (by omega)]
  have hne : (srt ts).map D.str ≠ [] := fun z => ne (by
    have := congrArg List.length z
    rw [List.length_map, srt_len] at this
    exact List.eq_nil_of_length_eq_zero this)
  refine ⟨_, es, _, rfl, .inl ⟨(srt ts).map D.str, rfl, hne, by rw [List.length_map, srt_len]; omega, fun x hx => ?_⟩⟩
  obtain ⟨t0, h0, rfl⟩ := List.mem_map.mp hx
  have h0 := srt_mem.mp h0
  have nq : q8 ∉ ts := fun z => nml_q (nl _ z) rfl
  have nr : r8 ∉ ts ++ [q8] := fun z => (List.mem_append.mp z).elim (fun z => nml_r (nl _ z) rfl) fun z => absurd (List.mem_singleton.mp z) (by decide)
  have hp0 : p0 ∈ p0 :: pr := List.mem_cons_self
  have w' := w.dbl (t0 := t0) nl hp0 (by omega)
  have ed : D.dic (putD (putD (dictS ts fun t => tupS [a t, b t]) (Sum.inr q8) (tupS [b t0, a t0])) (Sum.inr r8) (tupS [p0, p0])) = tieD ((ts ++ [q8]) ++ [r8]) (dbl t0 p0 b a) (dbl t0 p0 a b) := by
    unfold tieD
    rw [dictS_new nq, dictS_new nr]
    refine congrArg D.dic (dictS_congr fun t ht => ?_)
    by_cases c : t = r8
    · subst c; rw [if_pos rfl, dbl_r, dbl_r]
    · rw [if_neg c]
      by_cases c2 : t = q8
      · subst c2; rw [if_pos rfl, dbl_q, dbl_q]
      · rw [if_neg c2]
        unfold dbl
        rw [if_neg c, if_neg c2, if_neg c, if_neg c2]
  obtain ⟨ts', ets⟩ : ∃ l, l = (ts ++ [q8]) ++ [r8] := ⟨_, rfl⟩
  rw [← ets] at ed w'
  have lts' : ts'.length = ts.length + 2 := by rw [ets, List.length_append, List.length_append]; rfl
  have mts' : ∀ x, x ∈ ts' ↔ x ∈ ts ∨ x = q8 ∨ x = r8 := fun x => by rw [ets, List.mem_append, List.mem_append, List.mem_singleton, List.mem_singleton, or_assoc]
  obtain ⟨c, ec⟩ : ∃ c, c = wk (p0 :: pr) a b := ⟨_, rfl⟩
  obtain ⟨c', ec'⟩ : ∃ c, c = wk (p0 :: pr) (dbl t0 p0 b a) (dbl t0 p0 a b) := ⟨_, rfl⟩
  have agr : ∀ X : List Str, (∀ x ∈ X, x ∈ ts) → c' X = c X := fun X hX => by
    rw [ec, ec']
    exact wk_agr w.w w'.w (fun t ht => dbl_o _ _ _ _ (nl t (hX t ht))) fun t ht => dbl_o _ _ _ _ (nl t (hX t ht))
  have eve : ∀ X : List Str, (∀ x ∈ X, x ∈ ts) → ∀ g : Str → Str, (∀ t ∈ X, g (dbl t0 p0 b a t) = g (dbl t0 p0 a b t)) ↔ ∀ t ∈ X, g (a t) = g (b t) := fun X hX g => forall_congr' fun t => forall_congr' fun ht => by rw [dbl_o _ _ _ _ (nl t (hX t ht)), dbl_o _ _ _ _ (nl t (hX t ht))]
  have evq : ∀ g : Str → Str, g (dbl t0 p0 b a q8) = g (dbl t0 p0 a b q8) ↔ g (a t0) = g (b t0) := fun g => by rw [dbl_q, dbl_q]; exact eq_comm
  have evr : ∀ g : Str → Str, g (dbl t0 p0 b a r8) = g (dbl t0 p0 a b r8) := fun g => by rw [dbl_r, dbl_r]
  have c1 : ∀ L : List Str, (∀ x ∈ L, x ∈ ts) → c' (L ++ [q8]) = c (L ++ [t0]) := fun L hL => by
    rw [ec, ec']
    refine wk_same w.w w'.w fun g => ?_
    simp only [List.forall_mem_append, List.forall_mem_singleton]
    rw [eve L hL g, evq g]
  have c2 : ∀ L : List Str, (∀ x ∈ L, x ∈ ts) → c' (L ++ [t0, q8, r8]) = c (L ++ [t0]) := fun L hL => by
    rw [ec, ec']
    refine wk_same w.w w'.w fun g => ?_
    simp only [List.forall_mem_append, List.forall_mem_singleton, List.forall_mem_cons]
    have e0 := eve [t0] (fun x hx => by rw [List.mem_singleton.mp hx]; exact h0) g
    simp only [List.forall_mem_singleton] at e0
    rw [eve L hL g, evq g, e0]
    exact ⟨fun h => ⟨h.1, h.2.1⟩, fun h => ⟨h.1, h.2, h.2, evr g⟩⟩
  have c3 : c' [r8] = 0 := by
    rw [ec', ← wk_nil (ps := p0 :: pr) (a := a) (b := b)]
    refine wk_same w.w w'.w fun g => ?_
    simp only [List.forall_mem_singleton]
    exact ⟨fun _ t ht => absurd ht List.not_mem_nil, fun _ => evr g⟩
  have M' : P01.Mat c' := by rw [ec']; exact w'.w.mat
  have lk : (dictS ts fun t => tupS [a t, b t]).length = ts.length := dictS_len _ _
  have lq : (putD (dictS ts fun t => tupS [a t, b t]) (Sum.inr q8) (tupS [b t0, a t0])).length = ts.length + 1 := by
    rw [dictS_new nq, dictS_len, List.length_append]; rfl
  have ix0 : dIx (lstS (p0 :: pr)) (.int 0) = some (.str p0) := ix_lst (i := 0) rfl
  refine ⟨_, rfl, _, rfl, by rw [lk]; show _ < 100000; omega, _, rfl, _, dictS_get h0, _, rfl, by show (putD (dictS ts fun t => tupS [a t, b t]) (Sum.inr q8) (tupS [b t0, a t0])).length < 100000; omega, _, ix0, _, ix0, by decide, by decide, _, ts', _, _, congrArg (fun x => [D.tup [lstS (p0 :: pr), x]]) ed, w', fun d' fw' => ?_⟩
  rw [← ec'] at fw'
  rw [← ec] at fw
  have ek : (dictS ts fun t => tupS [a t, b t]).map (fun p => kD p.fst) = ts.map D.str := dictS_keys _ _
  rw [ek]
  refine ⟨by rw [List.length_map]; show _ ≤ 100000; omega, ?_⟩
  refine lc_filT D.str (fun t => decide (t ≠ t0)) D.str ts (fun t ht K k => ?_) ?_
  · walk_at "zS1"
    refine ⟨_, eqS (okt t ht) (okt t0 h0), _, rfl, ?_⟩
    rw [show (true != decide (t = t0)) = decide (t ≠ t0) by by_cases c : t = t0 <;> simp [c]]
    exact ite_k k
  have lf := List.length_filter_le (fun t => decide (t ≠ t0)) ts
  refine ⟨ts.filter fun t => decide (t ≠ t0), rfl, by omega, fun L zs hs hz => ?_⟩
  have fL : ∀ x ∈ L, x ∈ ts ∧ x ≠ t0 := fun x hx => by
    have := List.mem_filter.mp (hz.mem_iff.mp (hs.subset hx))
    exact ⟨this.1, of_decide_eq_true this.2⟩
  have nL : L.Nodup := (hz.nodup_iff.mpr (w.td.filter _)).sublist hs
  have fwd := (fw.up (Nat.zero_le rkN))
  have fwd' := (fw'.up (Nat.zero_le rkN))
  refine ⟨fwd.fam.fam, d, srt ts, c, rfl, fwd.fam, ?_⟩
  have dns : (srt ts).Nodup := (srt_perm ts).nodup_iff.mpr w.td
  have dns' : (srt ts').Nodup := (srt_perm ts').nodup_iff.mpr w'.td
  obtain ⟨S, eS⟩ : ∃ S, S = stuckL c (srt ts) := ⟨_, rfl⟩
  have mS : ∀ x, x ∈ S ↔ x ∈ ts ∧ c [x] = 0 := fun x => by
    rw [eS]
    unfold stuckL
    rw [List.mem_filter, srt_mem, decide_eq_true_iff]
  have nS : S.Nodup := by rw [eS]; exact dns.filter _
  have lS : S.length ≤ ts.length := P01.nodup_len nS fun x hx => ((mS x).mp hx).1
  have st : stuckL c' (srt ts') = srt ((S ++ [r8]) ++ [q8].filter fun _ => decide (t0 ∈ S)) := by
    have e1 : srt (stuckL c' (srt ts')) = stuckL c' (srt ts') := srt_of_sub (srt_congr (srt_perm ts')) List.filter_sublist
    rw [← e1]
    refine srt_congr ((List.perm_ext_iff_of_nodup (dns'.filter _) ?_).mpr fun x => ?_)
    · refine List.nodup_append.mpr ⟨List.nodup_append.mpr ⟨nS, by simp, fun x hx y hy e => ?_⟩, List.Pairwise.filter _ (show [q8].Nodup by simp), fun x hx y hy e => ?_⟩
      · rw [List.mem_singleton.mp hy] at e
        exact nml_r (nl x ((mS x).mp hx).1) e
      · rw [List.mem_singleton.mp (List.mem_filter.mp hy).1] at e
        rcases List.mem_append.mp hx with h | h
        · exact nml_q (nl x ((mS x).mp h).1) e
        · rw [List.mem_singleton.mp h] at e; exact absurd e (by decide)
    · rw [List.mem_filter, srt_mem, decide_eq_true_iff, mts', List.mem_append, List.mem_append, mS, List.mem_singleton, List.mem_filter, List.mem_singleton, decide_eq_true_iff, mS]
      have e0 : c' [q8] = c [t0] := c1 [] fun x hx => absurd hx List.not_mem_nil
      constructor
      · rintro ⟨h | h | h, z⟩
        · rw [agr [x] (fun y hy => by rw [List.mem_singleton.mp hy]; exact h)] at z
          exact .inl (.inl ⟨h, z⟩)
        · subst h; exact .inr ⟨rfl, h0, by rw [← e0]; exact z⟩
        · exact .inl (.inr h)
      · rintro ((⟨h, z⟩ | h) | ⟨h, h2, z⟩)
        · exact ⟨.inl h, by rw [agr [x] (fun y hy => by rw [List.mem_singleton.mp hy]; exact h)]; exact z⟩
        · subst h; exact ⟨.inr (.inr rfl), c3⟩
        · subst h; exact ⟨.inr (.inl rfl), by rw [e0]; exact z⟩
  rw [← eS]
  have addE : ∀ {P Q : List Str}, P.length + Q.length ≤ 100000 → dAdd (lstS P) (lstS Q) = some (lstS (P ++ Q)) := fun {P Q} h => by
    rw [addL (by rw [List.length_map, List.length_map]; exact h), lstS, List.map_append]
  have lL : L.length ≤ ts.length := P01.nodup_len nL fun x hx => (fL x hx).1
  have lt0 : ([t0] : List Str).length = 1 := rfl
  have l1 : ∀ x : Str, ([x] : List Str).length = 1 := fun _ => rfl
  refine ⟨by decide, _, addE (P := S) (Q := [r8]) (by rw [l1]; omega), by decide, by decide, ?_⟩
  have lf2 := List.length_filter_le (fun _ => decide (t0 ∈ S)) [q8]
  rw [l1] at lf2
  refine lc_filT D.str (fun _ => decide (t0 ∈ S)) D.str [q8] (fun t ht K k => ?_) ?_
  · walk_at "zS1"
    refine ⟨fwd.fam.fam, d, srt ts, c, rfl, fwd.fam, ?_⟩
    rw [← eS]
    exact ⟨_, in_lst false t0 S, _, rfl, by rw [Bool.false_bne]; exact ite_k k⟩
  have oL : LotOk (srt ts) (L ++ [t0]) := ⟨List.nodup_append.mpr ⟨nL, by simp, fun x hx y hy e => (fL x hx).2 (by rw [e, List.mem_singleton.mp hy])⟩, fun x hx => srt_mem.mpr ((List.mem_append.mp hx).elim (fun h => (fL x h).1) fun h => by rw [List.mem_singleton.mp h]; exact h0)⟩
  have oL1 : LotOk (srt ts') (L ++ [q8]) := ⟨List.nodup_append.mpr ⟨nL, by simp, fun x hx y hy e => nml_q (nl x (fL x hx).1) (by rw [e, List.mem_singleton.mp hy])⟩, fun x hx => srt_mem.mpr ((mts' x).mpr ((List.mem_append.mp hx).imp (fun h => (fL x h).1) fun h => .inl (List.mem_singleton.mp h)))⟩
  have oL2 : LotOk (srt ts') (L ++ [t0, q8, r8]) := ⟨List.nodup_append.mpr ⟨nL, by
      have a1 := nml_q (nl t0 h0)
      have a2 := nml_r (nl t0 h0)
      have a3 : q8 ≠ r8 := by decide
      simp [a1, a2, a3], fun x hx y hy e => by
      simp only [List.mem_cons, List.not_mem_nil, or_false] at hy
      rcases hy with h | h | h
      · exact (fL x hx).2 (e.trans h)
      · exact nml_q (nl x (fL x hx).1) (e.trans h)
      · exact nml_r (nl x (fL x hx).1) (e.trans h)⟩, fun x hx => srt_mem.mpr ((mts' x).mpr (by
      rcases List.mem_append.mp hx with h | h
      · exact .inl (fL x h).1
      · simp only [List.mem_cons, List.not_mem_nil, or_false] at h
        rcases h with h | h | h
        · rw [h]; exact .inl h0
        · exact .inr (.inl h)
        · exact .inr (.inr h)))⟩
  refine ⟨_, addE (by rw [List.length_append, l1]; omega), fwd'.fam.fam, by decide, _, addE (P := L) (Q := [q8]) (by rw [l1]; omega), d', srt ts', c', _, rfl, fwd'.fam, oL1, ?_⟩
  have fL1 : ∀ x ∈ L, x ∈ ts := fun x hx => (fL x hx).1
  rw [M'.perm (srt_perm _), c1 L fL1]
  refine ⟨fwd.fam.fam, by decide, _, addE (P := L) (Q := [t0]) (by rw [l1]; omega), d, srt ts, c, _, rfl, fwd.fam, oL, ?_⟩
  rw [fw.mat.perm (srt_perm _)]
  have eqn : ∀ n : Nat, dEq true (.int (n : Int)) (.int (n : Int)) = some (.bl false) := fun n => by rw [eqN true n n, decide_eq_true rfl]; rfl
  refine ⟨_, eqn _, _, rfl, ?_⟩
  rw [if_neg (by decide)]
  refine ⟨fwd'.fam.fam, d', srt ts', c', rfl, fwd'.fam, _, sorted_lst (by rw [List.length_append, List.length_append, l1]; omega), ?_⟩
  rw [st]
  have okS : ∀ x ∈ srt ((S ++ [r8]) ++ [q8].filter fun _ => decide (t0 ∈ S)), PyData.strOk x = true := fun x hx => by
    rw [← st] at hx
    exact strOk_nm (w'.nt x (srt_mem.mp (List.mem_filter.mp hx).1))
  refine ⟨_, eqLs11 okS okS, _, rfl, ?_⟩
  rw [if_neg (by rw [decide_eq_true rfl]; decide)]
  refine ⟨fwd'.fam.fam, by decide, _, addE (P := L) (Q := [t0, q8, r8]) (by show L.length + 3 ≤ 100000; omega), d', srt ts', c', _, rfl, fwd'.fam, oL2, ?_⟩
  rw [M'.perm (srt_perm _), c2 L fL1]
  refine ⟨fwd.fam.fam, by decide, _, addE (P := L) (Q := [t0]) (by rw [l1]; omega), d, srt ts, c, _, rfl, fwd.fam, oL, ?_⟩
  rw [fw.mat.perm (srt_perm _)]
  refine ⟨_, eqn _, _, rfl, ?_⟩
  rw [if_neg (by decide)]
  have oI : LotOk (srt ts') (srt ts) := ⟨dns, fun x hx => srt_mem.mpr ((mts' x).mpr (.inl (srt_mem.mp hx)))⟩
  refine ⟨_, es, d', srt ts', c', 0, srt ts, rfl, fw', oI, fun d2 fw2 => ?_⟩
  have fw2 := fw2.up (show 1 ≤ rkN by decide)
  rw [show srt (srt ts) = srt ts from srt_congr (srt_perm ts)] at fw2
  exact ⟨d2, d, srt ts, c', c, rfl, fw2.fam, fwd.fam, by rw [srt_len]; omega, fun X hX => agr X fun x hx => srt_mem.mp (hX.subset hx), q⟩
end Dz
namespace Dz
open PySem PySem.Spec PyProof.Rows L2 Evl Bf
def ltr (k : Nat) : Str := ⟨#[97 + k]⟩
def plN (k : Nat) : Str := (Str.ofString "place") ++ ltr k
def edN (k : Nat) : Str := (Str.ofString "edges") ++ ltr k
theorem plN_ok : ∀ k, k < 8 → isNm (plN k) = true ∧ (plN k).length = 6 := by decide
theorem edN_ok : ∀ k, k < 8 → isNm (edN k) = true ∧ (edN k).length = 6 := by decide
theorem plN_inj : ∀ i, i < 8 → ∀ j, j < 8 → plN i = plN j → i = j := by decide
theorem edN_inj : ∀ i, i < 8 → ∀ j, j < 8 → edN i = edN j → i = j := by decide
theorem plN_add {k : Nat} (h : k < 8) : dAdd (.str (Str.ofString "place")) (.str (ltr k)) = some (.str (plN k)) := by
  match k, h with
  | 0, _ => rfl
  | 1, _ => rfl
  | 2, _ => rfl
  | 3, _ => rfl
  | 4, _ => rfl
  | 5, _ => rfl
  | 6, _ => rfl
  | 7, _ => rfl
theorem edN_add {k : Nat} (h : k < 8) : dAdd (.str (Str.ofString "edges")) (.str (ltr k)) = some (.str (edN k)) := by
  match k, h with
  | 0, _ => rfl
  | 1, _ => rfl
  | 2, _ => rfl
  | 3, _ => rfl
  | 4, _ => rfl
  | 5, _ => rfl
  | 6, _ => rfl
  | 7, _ => rfl
theorem ltr_8 {k : Nat} (h : k < 8) : dIx (.str (Str.ofString "abcdefgh")) (.int (k : Nat)) = some (.str (ltr k)) := by
  match k, h with
  | 0, _ => exact ix_str' rfl (by decide)
  | 1, _ => exact ix_str' rfl (by decide)
  | 2, _ => exact ix_str' rfl (by decide)
  | 3, _ => exact ix_str' rfl (by decide)
  | 4, _ => exact ix_str' rfl (by decide)
  | 5, _ => exact ix_str' rfl (by decide)
  | 6, _ => exact ix_str' rfl (by decide)
  | 7, _ => exact ix_str' rfl (by decide)
theorem ltr_3 {k : Nat} (h : k < 3) : dIx (.str (Str.ofString "abc")) (.int (k : Nat)) = some (.str (ltr k)) := by
  match k, h with
  | 0, _ => exact ix_str' rfl (by decide)
  | 1, _ => exact ix_str' rfl (by decide)
  | 2, _ => exact ix_str' rfl (by decide)
theorem nodup_mapE11 {f : Str → Str} : ∀ {l : List Str}, l.Nodup → (∀ x ∈ l, ∀ y ∈ l, f x = f y → x = y) → (l.map f).Nodup
  | [], _, _ => List.nodup_nil
  | x :: l, nd, inj => by
    rw [List.map_cons]
    refine List.nodup_cons.mpr ⟨fun z => ?_, nodup_mapE11 (List.nodup_cons.mp nd).2 fun y hy w hw => inj y (List.mem_cons_of_mem _ hy) w (List.mem_cons_of_mem _ hw)⟩
    obtain ⟨y, hy, e⟩ := List.mem_map.mp z
    exact (List.nodup_cons.mp nd).1 (inj y (List.mem_cons_of_mem _ hy) x List.mem_cons_self e ▸ hy)
section
variable {ps ts qs us es : List Str} {a b a2 b2 : Str → Str} {nm ut : Str → Str} {z : Str}
theorem WebP.moved (v : WebP qs us a2 b2) (hn : ∀ x ∈ qs, isNm (nm x) = true) (inj : ∀ x ∈ qs, ∀ y ∈ qs, nm x = nm y → x = y) (ne : es.Nodup) (he : ∀ x ∈ es, isNm x = true) (le : es.length ≤ 20) : WebP (qs.map nm) es (fun e => nm (a2 (ut e))) fun e => nm (b2 (ut e)) where
  w := ⟨nodup_mapE11 v.w.nd inj, fun t => List.mem_map_of_mem (v.w.ha _), fun t => List.mem_map_of_mem (v.w.hb _)⟩
  np := fun x hx => by
    obtain ⟨y, hy, rfl⟩ := List.mem_map.mp hx
    exact hn y hy
  l1 := by rw [List.length_map]; exact v.l1
  l16 := by rw [List.length_map]; exact v.l16
  td := ne
  nt := he
  l20 := le
def bothF (es : List Str) (u w : Str → Str) (t : Str) : Str := if t ∈ es then u t else w t
def bothP (ps qs : List Str) (nm : Str → Str) : List Str := ps ++ (qs.filter fun x => decide (nm x ∉ ps)).map nm
theorem bothP_mem {x : Str} : x ∈ bothP ps qs nm ↔ x ∈ ps ∨ x ∈ qs.map nm := by
  unfold bothP
  rw [List.mem_append]
  constructor
  · rintro (h | h)
    · exact .inl h
    · obtain ⟨y, hy, rfl⟩ := List.mem_map.mp h
      exact .inr (List.mem_map_of_mem (List.mem_filter.mp hy).1)
  · rintro (h | h)
    · exact .inl h
    · by_cases c : x ∈ ps
      · exact .inl c
      · obtain ⟨y, hy, rfl⟩ := List.mem_map.mp h
        exact .inr (List.mem_map.mpr ⟨y, List.mem_filter.mpr ⟨hy, decide_eq_true c⟩, rfl⟩)
theorem WebP.both (w : WebP ps ts a b) (v : WebP qs us a2 b2) (hn : ∀ x ∈ qs, isNm (nm x) = true) (inj : ∀ x ∈ qs, ∀ y ∈ qs, nm x = nm y → x = y) (ne : es.Nodup) (he : ∀ x ∈ es, isNm x = true) (dj : ∀ x ∈ ts, x ∉ es) (lp : ps.length + qs.length ≤ 16) (le : ts.length + es.length ≤ 20) : WebP (bothP ps qs nm) (ts ++ es) (bothF es (fun e => nm (a2 (ut e))) a) (bothF es (fun e => nm (b2 (ut e))) b) where
  w := ⟨List.nodup_append.mpr ⟨w.w.nd, nodup_mapE11 (v.w.nd.filter _) fun x hx y hy => inj x (List.mem_filter.mp hx).1 y (List.mem_filter.mp hy).1, fun x hx y hy e => by
      obtain ⟨q, hq, rfl⟩ := List.mem_map.mp hy
      exact of_decide_eq_true (List.mem_filter.mp hq).2 (e ▸ hx)⟩, fun t => bothP_mem.mpr (by
      unfold bothF
      split
      · exact .inr (List.mem_map_of_mem (v.w.ha _))
      · exact .inl (w.w.ha _)), fun t => bothP_mem.mpr (by
      unfold bothF
      split
      · exact .inr (List.mem_map_of_mem (v.w.hb _))
      · exact .inl (w.w.hb _))⟩
  np := fun x hx => by
    rcases bothP_mem.mp hx with h | h
    · exact w.np x h
    · obtain ⟨y, hy, rfl⟩ := List.mem_map.mp h
      exact hn y hy
  l1 := by unfold bothP; rw [List.length_append]; have := w.l1; omega
  l16 := by
    unfold bothP
    rw [List.length_append, List.length_map]
    have := List.length_filter_le (fun x => decide (nm x ∉ ps)) qs
    omega
  td := List.nodup_append.mpr ⟨w.td, ne, fun x hx y hy e => dj x hx (e ▸ hy)⟩
  nt := fun t ht => (List.mem_append.mp ht).elim (w.nt t) (he t)
  l20 := by rw [List.length_append]; exact le
theorem wk_both (w : WebP ps ts a b) (v : WebP qs us a2 b2) (hn : ∀ x ∈ qs, isNm (nm x) = true) (inj : ∀ x ∈ qs, ∀ y ∈ qs, nm x = nm y → x = y) (ne : es.Nodup) (he : ∀ x ∈ es, isNm x = true) (dj : ∀ x ∈ ts, x ∉ es) (lp : ps.length + qs.length ≤ 16) (le : ts.length + es.length ≤ 20) (com : ∀ x, x ∈ ps → x ∈ qs.map nm → x = z) {X : List Str} (hX : ∀ x ∈ X, x ∈ ts ++ es) :
    wk (bothP ps qs nm) (bothF es (fun e => nm (a2 (ut e))) a) (bothF es (fun e => nm (b2 (ut e))) b) X = sumC (wk ps a b) (wk (qs.map nm) (fun e => nm (a2 (ut e))) fun e => nm (b2 (ut e))) (srt ts) (srt es) X := by
  have wu := w.both (ut := ut) v hn inj ne he dj lp le
  have wm := v.moved (ut := ut) hn inj ne he (by omega)
  have M := wu.w.mat
  obtain ⟨X1, e1⟩ : ∃ Y, Y = X.filter fun x => decide (x ∈ srt ts) := ⟨_, rfl⟩
  obtain ⟨X2, e2⟩ : ∃ Y, Y = X.filter fun x => decide (x ∈ srt es) := ⟨_, rfl⟩
  have m1 : ∀ x, x ∈ X1 ↔ x ∈ X ∧ x ∈ ts := fun x => by rw [e1, List.mem_filter, decide_eq_true_iff, srt_mem]
  have m2 : ∀ x, x ∈ X2 ↔ x ∈ X ∧ x ∈ es := fun x => by rw [e2, List.mem_filter, decide_eq_true_iff, srt_mem]
  unfold sumC
  rw [← e1, ← e2, Nat.add_comm]
  have t := wk_two w.w wm.w wu.w com (X1 := X1) (X2 := X2) (fun t ht => by
    have := dj t ((m1 t).mp ht).2
    unfold bothF
    rw [if_neg this, if_neg this]
    exact ⟨rfl, rfl⟩) fun t ht => by
    unfold bothF
    rw [if_pos ((m2 t).mp ht).2, if_pos ((m2 t).mp ht).2]
    exact ⟨rfl, rfl⟩
  rw [← t]
  refine Nat.le_antisymm (M.mono fun x hx => ?_) (M.mono fun x hx => ?_)
  · rcases List.mem_append.mp (hX x hx) with h | h
    · exact List.mem_append_right _ ((m1 x).mpr ⟨hx, h⟩)
    · exact List.mem_append_left _ ((m2 x).mpr ⟨hx, h⟩)
  · exact (List.mem_append.mp hx).elim (fun h => ((m2 x).mp h).1) fun h => ((m1 x).mp h).1
end
def nm0 (qs : List Str) (x : Str) : Str := plN (qs.idxOf x)
def edL (n : Nat) : List Str := (List.range n).map edN
def utF (us : List Str) (e : Str) : Str := ((srt us)[(edL us.length).idxOf e]?).getD (Str.ofString "")
theorem edL_nd {n : Nat} (h : n ≤ 8) : (edL n).Nodup := List.pairwise_map.mpr (List.nodup_range.imp_of_mem fun {i j} hi hj ne e => ne (edN_inj i (by have := List.mem_range.mp hi; omega) j (by have := List.mem_range.mp hj; omega) e))
theorem edL_at {n i : Nat} (h : i < n) : (edL n)[i]? = some (edN i) := by unfold edL; rw [List.getElem?_map, List.getElem?_range h]; rfl
theorem edL_len (n : Nat) : (edL n).length = n := by unfold edL; rw [List.length_map, List.length_range]
theorem edL_mem {n : Nat} {x : Str} (hx : x ∈ edL n) : ∃ i, i < n ∧ x = edN i := by
  obtain ⟨i, hi, rfl⟩ := List.mem_map.mp hx
  exact ⟨i, List.mem_range.mp hi, rfl⟩
theorem utF_at {us : List Str} {i : Nat} (h : i < us.length) (l8 : us.length ≤ 8) : (srt us)[i]? = some (utF us (edN i)) := by
  have e : (edL us.length).idxOf (edN i) = i := by
    have := edL_at h
    obtain ⟨h2, e⟩ := List.getElem?_eq_some_iff.mp this
    rw [← e]
    exact List.Nodup.idxOf_getElem (edL_nd l8) i h2
  unfold utF
  rw [e, List.getElem?_eq_getElem (by rw [srt_len]; exact h)]
  rfl
def b11Rest : DS :=
  (sSeq (sSetO 5 (xB dDictD (aCons (xOp2 dIx (xVar 1) (xC (.int 1))) aNil)))
    (sSeq (sSetO 6 (xC (.dic [])))
    (sSeq (sFor (iRg1 (xB dLenD (aCons (xOp2 dIx (xVar 2) (xC (.int 1))) aNil))) (gN 7)
    (sSeq (sSet 8 (xB dTuple (aCons (xLc (iTupD (xDGet (xOp2 dIx (xVar 2) (xC (.int 1))) (xOp2 dIx (xB dSortedDk (aCons (xOp2 dIx (xVar 2) (xC (.int 1))) aNil)) (xVar 7)))) [11] (gN 11) tYesD (xDGet (xVar 4) (xVar 11))) aNil)))
    (sSeq (sPut 5 (xOp2 dAdd (xC (.str "edges")) (xOp2 dIx (xC (.str "abc")) (xVar 7))) (xVar 8))
    (sPut 6 (xOp2 dAdd (xC (.str "edges")) (xOp2 dIx (xC (.str "abc")) (xVar 7))) (xVar 8)))))
    (sSeq (sSet 9 (xOp2 dAdd (xOp2 dIx (xVar 1) (xC (.int 0))) (xLc (iLst (xOp2 dIx (xVar 2) (xC (.int 0)))) [11] (gN 11) (tB' (xOp2 (dIn true) (xDGet (xVar 4) (xVar 11)) (xOp2 dIx (xVar 1) (xC (.int 0))))) (xDGet (xVar 4) (xVar 11)))))
    (sSeq (sSet 10 (xFn F_JoinedF (aCons (xFn F_L11Family (aCons (xVar 1) aNil)) (aCons (xFn F_L11Family (aCons (xTup (aCons (xLc (iLst (xOp2 dIx (xVar 2) (xC (.int 0)))) [11] (gN 11) tYesD (xDGet (xVar 4) (xVar 11))) (aCons (xVar 6) aNil))) aNil)) aNil))))
    (sRet (xOp2 (dIs false) (xFn F_Alike (aCons (xFn F_L11Family (aCons (xTup (aCons (xVar 9) (aCons (xVar 5) aNil))) aNil)) (aCons (xVar 10) aNil))) (xC .non))))))))
def r11S : DS :=
  (sSeq (sSetO 4 (xB dDictP (aCons (xLc (iRg1 (xB dLen (aCons (xOp2 dIx (xVar 2) (xC (.int 0))) aNil))) [7] (gN 7) tYesD (xTup (aCons (xOp2 dIx (xOp2 dIx (xVar 2) (xC (.int 0))) (xVar 7)) (aCons (xOp2 dAdd (xC (.str "place")) (xOp2 dIx (xC (.str "abcdefgh")) (xVar 7))) aNil)))) aNil)))
    (sSeq (sIf (tB' (xVar 3))
    (sPut 4 (xOp2 dIx (xOp2 dIx (xVar 2) (xC (.int 0))) (xC (.int 0))) (xOp2 dIx (xOp2 dIx (xVar 1) (xC (.int 0))) (xC (.int 0))))
    sNil) b11Rest))
theorem rest11 {ps ts qs us : List Str} {a b a2 b2 nm : Str → Str} {z : Str} {B : Bool} {A : D → Prop} {Ax : XQ} (w : WebP ps ts a b) (v : WebP qs us a2 b2) (nlt : ∀ x ∈ ts, NmL x) (l5 : ps.length ≤ 5) (lq : qs.length ≤ 5) (l4 : ts.length ≤ 4) (l3 : us.length ≤ 3)
    (hn : ∀ x ∈ qs, isNm (nm x) = true) (inj : ∀ x ∈ qs, ∀ y ∈ qs, nm x = nm y → x = y) (com : ∀ x, x ∈ ps → x ∈ qs.map nm → x = z) (q : A (.bl true)) :
    b11Rest { nx := fun x => A D.non, rt := A, bk := fun x => False, ct := fun x => False, ex := fun x x_1 => Ax x } [some (.well 0), some (.tup [lstS ps, tieD ts a b]), some (.tup [lstS qs, tieD us a2 b2]), some (.bl B), some (.dic (dictS qs fun x => .str (nm x))), none, none, none, none, none, none, none] := by
  obtain ⟨es, ees⟩ : ∃ l, l = edL us.length := ⟨_, rfl⟩
  have les : es.length = us.length := by rw [ees, edL_len]
  have nes : es.Nodup := by rw [ees]; exact edL_nd (by omega)
  have hes : ∀ x ∈ es, isNm x = true := fun x hx => by
    obtain ⟨i, hi, rfl⟩ := edL_mem (ees ▸ hx)
    exact (edN_ok i (by omega)).1
  have dj : ∀ x ∈ ts, x ∉ es := fun x hx z => by
    obtain ⟨i, hi, rfl⟩ := edL_mem (ees ▸ z)
    exact (nlt _ hx).2.1 (edN_ok i (by omega)).2
  have wu := w.both (ut := utF us) v hn inj nes hes dj (by omega) (by omega)
  have wm := v.moved (ut := utF us) hn inj nes hes (by omega)
  simp only [b11Rest, tieD, fnD, iniD, startD, sNil, sSeq, sIf, sRet, sSet, sSetO, sExpr, sApp, sPut, sClr, sExt, sIns, sRaise, sRaise2, sAsg, sFor, sSetM, sAppM, sFld', xPopAt, xPop, xVar, xC, xOp1, xOp2, xNeg, xAnd, xOr, xNot, xIf, xB, xFn, xTup, xLst, xFld, xDGet, xDIn, xSl, xChain, oNone, oSome, aNil, aCons, tB', tAnd', tOr', tNot', tYesD, gN, gT, gsN, gsC, iLst, iTupD, iRg1, iRg2, iEnm, iTxt, List.map_cons, List.map_nil, List.length_cons, List.length_nil, List.replicate, List.replicate_succ, List.replicate_zero, List.cons_append, List.nil_append, List.set_cons_zero, List.set_cons_succ, List.getElem?_cons_zero, List.getElem?_cons_succ, Option.some.injEq, D.int.injEq, D.str.injEq, D.bl.injEq, D.lst.injEq, D.tup.injEq, D.dic.injEq, D.ins.injEq, exists_eq_left, exists_eq_left', exists_eq_right, exists_eq_right', exists_and_left, and_true, true_and, Nat.reduceAdd, Nat.reduceSub, Nat.reduceLT, Nat.reduceEqDiff, Nat.add_one_sub_one, Nat.sub_zero, if_true, if_false, Bool.false_eq_true, reduceIte, wipeR, List.cons.injEq, Nat.zero_add, reduceCtorEq, false_and, exists_false, Bool.false_bne, Bool.true_bne, len_lst, len_tup, len_scr, in_lst, in_tup, dKey_str, dKey_int, and_assoc, eq_int, dSub, dLt, dLe, dGt, dGe, isNonD, dIs, dMin, dMax, xMeth, xMeth0, xEqO, xXf, sTry, catchD, offD, add_int, dList, dTuple, xFlt, xFltC, xFltX, xFltCX, xX, sAppP, sClrP, sFldP, sPutP, pVar, pIx, pFld, id, xDisp, pairsD, xNames, xMethF, xMeth0F, aStar, xTGet, xTIn, sPutT, sRaise0, sTryM, catchM, emEq, tKey_strs, famNs, Option.isSome_some, iSqV, sForW, xJoin, dSortedY, xRevL, sDead, xDead, xDc, sPar, sParO, dMin2, dMax2, dHas, dLenF, xSortR, dXor, xDcT, xMk0, seqOf, xLc, xLenSet, iEnmT, xDvs, xSortRD, sClrD, sAug, aStarD, dSortedP, sPar3]
  have lkd : (dictS us fun t => tupS [a2 t, b2 t]).length = us.length := dictS_len _ _
  have lend : dLenD [.dic (dictS us fun t => tupS [a2 t, b2 t])] = some (.int (us.length : Nat)) := by
    show some (D.int ((dictS us fun t => tupS [a2 t, b2 t]).length : Nat)) = _
    rw [lkd]
  refine ⟨_, rfl, _, rfl, _, rfl, _, lend, _, rfl, by omega, by omega, ?_⟩
  refine for_range 0 us.length (fun i ρ => ∃ s7 s8, ρ = [some (.well 0), some (.tup [lstS ps, tieD ts a b]), some (.tup [lstS qs, tieD us a2 b2]), some (.bl B), some (.dic (dictS qs fun x => .str (nm x))), some (tieD (ts ++ es.take i) (bothF es (fun e => nm (a2 (utF us e))) a) (bothF es (fun e => nm (b2 (utF us e))) b)), some (tieD (es.take i) (fun e => nm (a2 (utF us e))) fun e => nm (b2 (utF us e))), s7, s8, none, none, none]) ⟨none, none, ?_⟩ (fun i ρ N hi p n => ?_) (fun ρ p => ?_)
  · rw [List.take_zero, List.append_nil]
    have e : dictS ts (fun t => tupS [bothF es (fun e => nm (a2 (utF us e))) a t, bothF es (fun e => nm (b2 (utF us e))) b t]) = dictS ts fun t => tupS [a t, b t] := dictS_congr fun t ht => by
      unfold bothF
      rw [if_neg (dj t ht), if_neg (dj t ht)]
    unfold tieD
    rw [e]
    rfl
  · obtain ⟨s7, s8, rfl⟩ := p
    simp only [tieD, fnD, iniD, startD, sNil, sSeq, sIf, sRet, sSet, sSetO, sExpr, sApp, sPut, sClr, sExt, sIns, sRaise, sRaise2, sAsg, sFor, sSetM, sAppM, sFld', xPopAt, xPop, xVar, xC, xOp1, xOp2, xNeg, xAnd, xOr, xNot, xIf, xB, xFn, xTup, xLst, xFld, xDGet, xDIn, xSl, xChain, oNone, oSome, aNil, aCons, tB', tAnd', tOr', tNot', tYesD, gN, gT, gsN, gsC, iLst, iTupD, iRg1, iRg2, iEnm, iTxt, List.map_cons, List.map_nil, List.length_cons, List.length_nil, List.replicate, List.replicate_succ, List.replicate_zero, List.cons_append, List.nil_append, List.set_cons_zero, List.set_cons_succ, List.getElem?_cons_zero, List.getElem?_cons_succ, Option.some.injEq, D.int.injEq, D.str.injEq, D.bl.injEq, D.lst.injEq, D.tup.injEq, D.dic.injEq, D.ins.injEq, exists_eq_left, exists_eq_left', exists_eq_right, exists_eq_right', exists_and_left, and_true, true_and, Nat.reduceAdd, Nat.reduceSub, Nat.reduceLT, Nat.reduceEqDiff, Nat.add_one_sub_one, Nat.sub_zero, if_true, if_false, Bool.false_eq_true, reduceIte, wipeR, List.cons.injEq, Nat.zero_add, reduceCtorEq, false_and, exists_false, Bool.false_bne, Bool.true_bne, len_lst, len_tup, len_scr, in_lst, in_tup, dKey_str, dKey_int, and_assoc, eq_int, dSub, dLt, dLe, dGt, dGe, isNonD, dIs, dMin, dMax, xMeth, xMeth0, xEqO, xXf, sTry, catchD, offD, add_int, dList, dTuple, xFlt, xFltC, xFltX, xFltCX, xX, sAppP, sClrP, sFldP, sPutP, pVar, pIx, pFld, id, xDisp, pairsD, xNames, xMethF, xMeth0F, aStar, xTGet, xTIn, sPutT, sRaise0, sTryM, catchM, emEq, tKey_strs, famNs, Option.isSome_some, iSqV, sForW, xJoin, dSortedY, xRevL, sDead, xDead, xDc, sPar, sParO, dMin2, dMax2, dHas, dLenF, xSortR, dXor, xDcT, xMk0, seqOf, xLc, xLenSet, iEnmT, xDvs, xSortRD, sClrD, sAug, aStarD, dSortedP, sPar3]
    have hi : i < us.length := by omega
    have e0 : (0 : Int) + (i : Nat) = (i : Nat) := by omega
    rw [e0]
    have su : dSortedDk [.dic (dictS us fun t => tupS [a2 t, b2 t])] = some (lstS (srt us)) := by
      unfold dSortedDk
      simp only [dictS_keys, strs_map]
      rw [if_pos (by omega)]
    have gu : dIx (lstS (srt us)) (.int (i : Nat)) = some (.str (utF us (edN i))) := ix_lst (by rw [List.getElem?_map, utF_at hi (by omega)]; rfl)
    have mu : utF us (edN i) ∈ us := srt_mem.mp (List.mem_of_getElem? (utF_at hi (by omega)))
    refine ⟨_, rfl, _, rfl, _, su, _, gu, _, rfl, _, rfl, _, dictS_get mu, _, rfl, by show 2 ≤ 100000; decide, ?_⟩
    refine lc_mapT D.str (fun p => .str (nm p)) [a2 (utF us (edN i)), b2 (utF us (edN i))] (fun p hp K k => ?_) ?_
    · have hp : p ∈ qs := by
        simp only [List.mem_cons, List.not_mem_nil, or_false] at hp
        rcases hp with rfl | rfl
        · exact v.w.ha _
        · exact v.w.hb _
      walk_at "zS1"
      exact ⟨_, dictS_get hp, k⟩
    have lt : (es.take i).length ≤ i := by rw [List.length_take]; omega
    have hei : es[i]? = some (edN i) := by rw [ees]; exact edL_at hi
    have tk : es.take (i + 1) = es.take i ++ [edN i] := take_next hei
    have me : edN i ∈ es := List.mem_of_getElem? hei
    have n1 : edN i ∉ es.take i := fun z => nd_take nes (by omega : i < es.length) (by rw [(List.getElem?_eq_some_iff.mp hei).2]; exact z)
    have n2 : edN i ∉ ts ++ es.take i := fun z => (List.mem_append.mp z).elim (fun z => dj _ z me) n1
    refine ⟨by rw [dictS_len, List.length_append]; show _ < 100000; omega, _, ltr_3 (by omega), _, edN_add (by omega), _, rfl, by rw [dictS_len]; show _ < 100000; omega, _, ltr_3 (by omega), _, edN_add (by omega), _, rfl, n _ ⟨some (.int (i : Nat)), some (.tup ([a2 (utF us (edN i)), b2 (utF us (edN i))].map fun p => .str (nm p))), ?_⟩⟩
    rw [dictS_new n1, dictS_new n2, tk, ← List.append_assoc]
    have g1 : (dictS (ts ++ es.take i ++ [edN i]) fun q => if q = edN i then D.tup (List.map (fun p => D.str (nm p)) [a2 (utF us (edN i)), b2 (utF us (edN i))]) else tupS [bothF es (fun e => nm (a2 (utF us e))) a q, bothF es (fun e => nm (b2 (utF us e))) b q]) = dictS (ts ++ es.take i ++ [edN i]) fun t => tupS [bothF es (fun e => nm (a2 (utF us e))) a t, bothF es (fun e => nm (b2 (utF us e))) b t] := dictS_congr fun t _ => by
      by_cases c : t = edN i
      · rw [if_pos c, c]
        unfold bothF
        rw [if_pos me, if_pos me]
        rfl
      · rw [if_neg c]
    have g2 : (dictS (es.take i ++ [edN i]) fun q => if q = edN i then D.tup (List.map (fun p => D.str (nm p)) [a2 (utF us (edN i)), b2 (utF us (edN i))]) else tupS [nm (a2 (utF us q)), nm (b2 (utF us q))]) = dictS (es.take i ++ [edN i]) fun t => tupS [nm (a2 (utF us t)), nm (b2 (utF us t))] := dictS_congr fun t _ => by
      by_cases c : t = edN i
      · rw [if_pos c, c]
        rfl
      · rw [if_neg c]
    rw [g1, g2]
    rfl
  · obtain ⟨s7, s8, rfl⟩ := p
    simp only [tieD, fnD, iniD, startD, sNil, sSeq, sIf, sRet, sSet, sSetO, sExpr, sApp, sPut, sClr, sExt, sIns, sRaise, sRaise2, sAsg, sFor, sSetM, sAppM, sFld', xPopAt, xPop, xVar, xC, xOp1, xOp2, xNeg, xAnd, xOr, xNot, xIf, xB, xFn, xTup, xLst, xFld, xDGet, xDIn, xSl, xChain, oNone, oSome, aNil, aCons, tB', tAnd', tOr', tNot', tYesD, gN, gT, gsN, gsC, iLst, iTupD, iRg1, iRg2, iEnm, iTxt, List.map_cons, List.map_nil, List.length_cons, List.length_nil, List.replicate, List.replicate_succ, List.replicate_zero, List.cons_append, List.nil_append, List.set_cons_zero, List.set_cons_succ, List.getElem?_cons_zero, List.getElem?_cons_succ, Option.some.injEq, D.int.injEq, D.str.injEq, D.bl.injEq, D.lst.injEq, D.tup.injEq, D.dic.injEq, D.ins.injEq, exists_eq_left, exists_eq_left', exists_eq_right, exists_eq_right', exists_and_left, and_true, true_and, Nat.reduceAdd, Nat.reduceSub, Nat.reduceLT, Nat.reduceEqDiff, Nat.add_one_sub_one, Nat.sub_zero, if_true, if_false, Bool.false_eq_true, reduceIte, wipeR, List.cons.injEq, Nat.zero_add, reduceCtorEq, false_and, exists_false, Bool.false_bne, Bool.true_bne, len_lst, len_tup, len_scr, in_lst, in_tup, dKey_str, dKey_int, and_assoc, eq_int, dSub, dLt, dLe, dGt, dGe, isNonD, dIs, dMin, dMax, xMeth, xMeth0, xEqO, xXf, sTry, catchD, offD, add_int, dList, dTuple, xFlt, xFltC, xFltX, xFltCX, xX, sAppP, sClrP, sFldP, sPutP, pVar, pIx, pFld, id, xDisp, pairsD, xNames, xMethF, xMeth0F, aStar, xTGet, xTIn, sPutT, sRaise0, sTryM, catchM, emEq, tKey_strs, famNs, Option.isSome_some, iSqV, sForW, xJoin, dSortedY, xRevL, sDead, xDead, xDc, sPar, sParO, dMin2, dMax2, dHas, dLenF, xSortR, dXor, xDcT, xMk0, seqOf, xLc, xLenSet, iEnmT, xDvs, xSortRD, sClrD, sAug, aStarD, dSortedP, sPar3]
    have en : (↑us.length - (0 : Int)).toNat = es.length := by omega
    rw [en, List.take_length]
    refine ⟨_, rfl, _, rfl, _, rfl, by rw [List.length_map]; show _ ≤ 100000; omega, ?_⟩
    refine lc_filT D.str (fun x => decide (nm x ∉ ps)) (fun x => .str (nm x)) qs (fun x hx K k => ?_) ?_
    · walk_at "zS1"
      refine ⟨_, dictS_get hx, _, rfl, _, in_lst true (nm x) ps, _, rfl, ?_⟩
      by_cases c : nm x ∈ ps
      · rw [if_neg (by rw [decide_eq_true c]; decide)]
        rw [if_neg (by simp [c])] at k
        exact k
      · rw [if_pos (by rw [decide_eq_false c]; rfl)]
        rw [if_pos (by simp [c])] at k
        exact ⟨_, dictS_get hx, k⟩
    have lfq := List.length_filter_le (fun x => decide (nm x ∉ ps)) qs
    have eb : dAdd (lstS ps) (.lst ((qs.filter fun x => decide (nm x ∉ ps)).map fun x => .str (nm x))) = some (lstS (bothP ps qs nm)) := by
      unfold bothP
      rw [addL (by rw [List.length_map, List.length_map]; show _ ≤ 100000; omega), lstS, List.map_append, List.map_map]
      rfl
    refine ⟨_, eb, ps, ts, a, b, rfl, w, fun d1 f1 => ⟨_, rfl, _, rfl, by rw [List.length_map]; show _ ≤ 100000; omega, ?_⟩⟩
    refine lc_mapT D.str (fun x => .str (nm x)) qs (fun x hx K k => ?_) ?_
    · walk_at "zS1"
      exact ⟨_, dictS_get hx, k⟩
    refine ⟨by decide, qs.map nm, es, _, _, by rw [lstS, List.map_map]; rfl, wm, fun d2 f2 => ?_⟩
    have djs : ∀ x ∈ srt ts, x ∉ srt es := fun x hx hy => dj x (srt_mem.mp hx) (srt_mem.mp hy)
    have ess : srt (srt ts ++ srt es) = srt (ts ++ es) := srt_congr ((srt_perm ts).append (srt_perm es))
    refine ⟨d1, d2, srt ts, srt es, _, _, 0, rfl, f1, f2, djs, by rw [srt_len, srt_len]; omega, fun d3 f3 => ⟨by decide, _, ts ++ es, _, _, rfl, wu, fun d4 f4 => ?_⟩⟩
    rw [ess] at f3
    refine ⟨d4, d3, srt (ts ++ es), _, _, rfl, (f4.up (Nat.zero_le rkN)).fam, (f3.up (show 1 ≤ rkN by decide)).fam, by rw [srt_len, List.length_append]; omega, fun X hX => ?_, q⟩
    exact wk_both w v hn inj nes hes dj (by omega) (by omega) com fun x hx => srt_mem.mp (hX.subset hx)
def r_L11Side : DS :=
  (sSeq (sSetO 4 (xB dDictP (aCons (xLc (iRg1 (xB dLen (aCons (xOp2 dIx (xVar 2) (xC (.int 0))) aNil))) [7] (gN 7) tYesD (xTup (aCons (xOp2 dIx (xOp2 dIx (xVar 2) (xC (.int 0))) (xVar 7)) (aCons (xOp2 dAdd (xC (.str "place")) (xOp2 dIx (xC (.str "abcdefgh")) (xVar 7))) aNil)))) aNil)))
    (sSeq (sIf (tB' (xVar 3))
    (sPut 4 (xOp2 dIx (xOp2 dIx (xVar 2) (xC (.int 0))) (xC (.int 0))) (xOp2 dIx (xOp2 dIx (xVar 1) (xC (.int 0))) (xC (.int 0))))
    sNil)
    (sSeq (sSetO 5 (xB dDictD (aCons (xOp2 dIx (xVar 1) (xC (.int 1))) aNil)))
    (sSeq (sSetO 6 (xC (.dic [])))
    (sSeq (sFor (iRg1 (xB dLenD (aCons (xOp2 dIx (xVar 2) (xC (.int 1))) aNil))) (gN 7)
    (sSeq (sSet 8 (xB dTuple (aCons (xLc (iTupD (xDGet (xOp2 dIx (xVar 2) (xC (.int 1))) (xOp2 dIx (xB dSortedDk (aCons (xOp2 dIx (xVar 2) (xC (.int 1))) aNil)) (xVar 7)))) [11] (gN 11) tYesD (xDGet (xVar 4) (xVar 11))) aNil)))
    (sSeq (sPut 5 (xOp2 dAdd (xC (.str "edges")) (xOp2 dIx (xC (.str "abc")) (xVar 7))) (xVar 8))
    (sPut 6 (xOp2 dAdd (xC (.str "edges")) (xOp2 dIx (xC (.str "abc")) (xVar 7))) (xVar 8)))))
    (sSeq (sSet 9 (xOp2 dAdd (xOp2 dIx (xVar 1) (xC (.int 0))) (xLc (iLst (xOp2 dIx (xVar 2) (xC (.int 0)))) [11] (gN 11) (tB' (xOp2 (dIn true) (xDGet (xVar 4) (xVar 11)) (xOp2 dIx (xVar 1) (xC (.int 0))))) (xDGet (xVar 4) (xVar 11)))))
    (sSeq (sSet 10 (xFn F_JoinedF (aCons (xFn F_L11Family (aCons (xVar 1) aNil)) (aCons (xFn F_L11Family (aCons (xTup (aCons (xLc (iLst (xOp2 dIx (xVar 2) (xC (.int 0)))) [11] (gN 11) tYesD (xDGet (xVar 4) (xVar 11))) (aCons (xVar 6) aNil))) aNil)) aNil))))
    (sRet (xOp2 (dIs false) (xFn F_Alike (aCons (xFn F_L11Family (aCons (xTup (aCons (xVar 9) (aCons (xVar 5) aNil))) aNil)) (aCons (xVar 10) aNil))) (xC .non))))))))))
def F_L11Side : DF := fun ds A _ => ∃ ps ts qs us a b a2 b2 B, ds = [.well 0, .tup [lstS ps, tieD ts a b], .tup [lstS qs, tieD us a2 b2], .bl B] ∧ WebP ps ts a b ∧ WebP qs us a2 b2 ∧ (∀ x ∈ ps, NmL x) ∧ (∀ x ∈ ts, NmL x) ∧ ps.length ≤ 5 ∧ qs.length ≤ 5 ∧ ts.length ≤ 4 ∧ us.length ≤ 3 ∧ A (.bl true)
theorem n_L11Side (ds : List D) (A : D → Prop) (Ax : XQ) (h : F_L11Side ds A Ax) : fnD 0 12 4 r_L11Side ds A Ax := by
  obtain ⟨ps, ts, qs, us, a, b, a2, b2, B, rfl, w, v, nlp, nlt, l5, lq, l4, l3, q⟩ := h
  obtain ⟨p0, pr, ep⟩ : ∃ p0 pr, ps = p0 :: pr := by
    have := w.l1
    cases ps with
    | nil => exact absurd this (by decide)
    | cons p0 pr => exact ⟨p0, pr, rfl⟩
  obtain ⟨q0, qr, eq⟩ : ∃ p0 pr, qs = p0 :: pr := by
    have := v.l1
    cases qs with
    | nil => exact absurd this (by decide)
    | cons p0 pr => exact ⟨p0, pr, rfl⟩
  have ixp : dIx (lstS ps) (.int 0) = some (.str p0) := by rw [ep]; exact ix_lst (i := 0) rfl
  have ixq : dIx (lstS qs) (.int 0) = some (.str q0) := by rw [eq]; exact ix_lst (i := 0) rfl
  have hp0 : p0 ∈ ps := by rw [ep]; exact List.mem_cons_self
  have hq0 : q0 ∈ qs := by rw [eq]; exact List.mem_cons_self
  show fnD 0 12 4 r11S _ _ _
  simp only [r11S, tieD, fnD, iniD, startD, sNil, sSeq, sIf, sRet, sSet, sSetO, sExpr, sApp, sPut, sClr, sExt, sIns, sRaise, sRaise2, sAsg, sFor, sSetM, sAppM, sFld', xPopAt, xPop, xVar, xC, xOp1, xOp2, xNeg, xAnd, xOr, xNot, xIf, xB, xFn, xTup, xLst, xFld, xDGet, xDIn, xSl, xChain, oNone, oSome, aNil, aCons, tB', tAnd', tOr', tNot', tYesD, gN, gT, gsN, gsC, iLst, iTupD, iRg1, iRg2, iEnm, iTxt, List.map_cons, List.map_nil, List.length_cons, List.length_nil, List.replicate, List.replicate_succ, List.replicate_zero, List.cons_append, List.nil_append, List.set_cons_zero, List.set_cons_succ, List.getElem?_cons_zero, List.getElem?_cons_succ, Option.some.injEq, D.int.injEq, D.str.injEq, D.bl.injEq, D.lst.injEq, D.tup.injEq, D.dic.injEq, D.ins.injEq, exists_eq_left, exists_eq_left', exists_eq_right, exists_eq_right', exists_and_left, and_true, true_and, Nat.reduceAdd, Nat.reduceSub, Nat.reduceLT, Nat.reduceEqDiff, Nat.add_one_sub_one, Nat.sub_zero, if_true, if_false, Bool.false_eq_true, reduceIte, wipeR, List.cons.injEq, Nat.zero_add, reduceCtorEq, false_and, exists_false, Bool.false_bne, Bool.true_bne, len_lst, len_tup, len_scr, in_lst, in_tup, dKey_str, dKey_int, and_assoc, eq_int, dSub, dLt, dLe, dGt, dGe, isNonD, dIs, dMin, dMax, xMeth, xMeth0, xEqO, xXf, sTry, catchD, offD, add_int, dList, dTuple, xFlt, xFltC, xFltX, xFltCX, xX, sAppP, sClrP, sFldP, sPutP, pVar, pIx, pFld, id, xDisp, pairsD, xNames, xMethF, xMeth0F, aStar, xTGet, xTIn, sPutT, sRaise0, sTryM, catchM, emEq, tKey_strs, famNs, Option.isSome_some, iSqV, sForW, xJoin, dSortedY, xRevL, sDead, xDead, xDc, sPar, sParO, dMin2, dMax2, dHas, dLenF, xSortR, dXor, xDcT, xMk0, seqOf, xLc, xLenSet, iEnmT, xDvs, xSortRD, sClrD, sAug, aStarD, dSortedP, sPar3]
  have lenq : dLen [lstS qs] = some (.int (qs.length : Nat)) := by show some (D.int ((qs.map D.str).length : Nat)) = _; rw [List.length_map]
  refine ⟨_, rfl, _, lenq, _, rfl, by omega, by omega, ?_⟩
  rw [show rng 0 (qs.length : Int) = (List.range qs.length).map fun i => D.int (0 + (i : Nat)) from rng_eq qs.length]
  refine ⟨by rw [List.length_map, List.length_range]; show _ ≤ 100000; omega, ?_⟩
  refine lc_mapT (fun i : Nat => D.int (0 + (i : Nat))) (fun i => .tup [.str (qs.getD i ""), .str (plN i)]) (List.range qs.length) (fun i hi K k => ?_) ?_
  · have hi := List.mem_range.mp hi
    walk_at "zS1"
    have e0 : (0 : Int) + (i : Nat) = (i : Nat) := by omega
    rw [e0]
    have gi : dIx (lstS qs) (.int (i : Nat)) = some (.str (qs.getD i "")) := ix_lst (by rw [List.getElem?_map, List.getElem?_eq_getElem hi, List.getD_eq_getElem?_getD, List.getElem?_eq_getElem hi]; rfl)
    exact ⟨_, rfl, _, gi, _, ltr_8 (by omega), _, plN_add (by omega), by decide, k⟩
  have em : ((List.range qs.length).map fun i => D.tup [.str (qs.getD i ""), .str (plN i)]) = qs.map fun x => D.tup [.str x, .str (nm0 qs x)] := by
    refine List.ext_getElem (by simp) fun i h1 h2 => ?_
    rw [List.length_map] at h2
    rw [List.getElem_map, List.getElem_map, List.getElem_range]
    unfold nm0
    rw [List.Nodup.idxOf_getElem v.w.nd i h2, List.getD_eq_getElem?_getD, List.getElem?_eq_getElem h2]
    rfl
  rw [em]
  refine ⟨_, dDictP_names (fun x => .str (nm0 qs x)) v.w.nd, ?_⟩
  have n0ok : ∀ x ∈ qs, isNm (nm0 qs x) = true ∧ (nm0 qs x).length = 6 := fun x hx => plN_ok _ (by have := List.idxOf_lt_length_of_mem hx; omega)
  have n0inj : ∀ x ∈ qs, ∀ y ∈ qs, nm0 qs x = nm0 qs y → x = y := fun x hx y hy e => by
    have h1 := List.idxOf_lt_length_of_mem hx
    have h2 := List.idxOf_lt_length_of_mem hy
    have := plN_inj _ (by omega) _ (by omega) e
    rw [← List.getElem_idxOf h1, ← List.getElem_idxOf h2]
    simp only [this]
  have nin : ∀ x ∈ qs, nm0 qs x ∉ ps := fun x hx z => (nlp _ z).2.1 (n0ok x hx).2
  cases B with
  | false =>
    rw [if_neg (by decide)]
    refine rest11 (z := p0) w v nlt l5 lq l4 l3 (fun x hx => (n0ok x hx).1) n0inj (fun x hx hy => ?_) q
    obtain ⟨y, hw, rfl⟩ := List.mem_map.mp hy
    exact absurd hx (nin y hw)
  | true =>
    rw [if_pos rfl]
    refine ⟨_, rfl, by rw [dictS_len]; show _ < 100000; omega, _, rfl, _, ixp, _, rfl, _, ixq, _, rfl, ?_⟩
    rw [dictS_put hq0]
    have e : (dictS qs fun x => if x = q0 then D.str p0 else .str (nm0 qs x)) = dictS qs fun x => .str (if x = q0 then p0 else nm0 qs x) := dictS_congr fun x _ => by split <;> rfl
    rw [e]
    refine rest11 (z := p0) w v nlt l5 lq l4 l3 (fun x hx => ?_) (fun x hx y hy e => ?_) (fun x hx hy => ?_) q
    · split
      · exact w.np _ hp0
      · exact (n0ok x hx).1
    · by_cases c1 : x = q0 <;> by_cases c2 : y = q0
      · rw [c1, c2]
      · rw [if_pos c1, if_neg c2] at e
        exact absurd hp0 (e ▸ nin y hy)
      · rw [if_neg c1, if_pos c2] at e
        exact absurd hp0 (e ▸ nin x hx)
      · rw [if_neg c1, if_neg c2] at e
        exact n0inj x hx y hy e
    · obtain ⟨y, hw, rfl⟩ := List.mem_map.mp hy
      by_cases c : y = q0
      · rw [if_pos c]
      · rw [if_neg c] at hx
        exact absurd hx (nin y hw)
end Dz
namespace Dz
open PySem PySem.Spec PyProof.Rows L2 Evl Bf
theorem pyKD_tie {a b : Str → Str} : ∀ {ts : List Str}, (∀ t ∈ ts, (tupS [a t, b t]).okE 1 = true) → ∃ l, pyKD (dictS ts fun t => tupS [a t, b t]) = some l ∧ l.length = ts.length
  | [], _ => ⟨[], rfl, rfl⟩
  | x :: ts, h => by
    obtain ⟨l, e, hl⟩ := pyKD_tie fun t ht => h t (List.mem_cons_of_mem x ht)
    obtain ⟨p, ep, c, d⟩ := okE_py 1 _ (h x List.mem_cons_self)
    have sh : SeqAt.shaped p = true := by
      show (p.canLay0 && decide (p.depth ≤ 64)) = true
      rw [c, decide_eq_true (by omega)]
      rfl
    refine ⟨(Sum.inr x, p) :: l, ?_, by rw [List.length_cons, List.length_cons, hl]⟩
    show pyKD ((Sum.inr x, tupS [a x, b x]) :: dictS ts fun t => tupS [a t, b t]) = _
    rw [pyKD, ep, e]
    show (if SeqAt.shaped p = true then _ else _) = _
    rw [if_pos sh]
theorem tie_nil {a b : Str → Str} {ts : List Str} (h : ∀ t ∈ ts, PyData.strOk (a t) = true ∧ PyData.strOk (b t) = true) : dEqDD (.dic (dictS ts fun t => tupS [a t, b t])) (.dic []) = some (.bl (decide (ts = []))) := by
  obtain ⟨l, e, hl⟩ := pyKD_tie (a := a) (b := b) (ts := ts) fun t ht => ok_tupS fun x hx => by
    simp only [List.mem_cons, List.not_mem_nil, or_false] at hx
    rcases hx with rfl | rfl
    · exact (h t ht).1
    · exact (h t ht).2
  unfold dEqDD
  dsimp only
  rw [e]
  show some (D.bl (dictEq l [])) = _
  cases ts with
  | nil =>
    rw [List.eq_nil_of_length_eq_zero hl]
    rfl
  | cons x ts =>
    rw [decide_eq_false (by simp)]
    unfold dictEq
    rw [hl]
    rfl
section
variable {ρ : Ro} {vs : List Nat} {g : DG} {t : DT} {e : DX} {Q : List D → Prop}
theorem lc_someP {α : Type} (c : α → D) (P : α → Prop) (xs : List α) (h : ∀ x ∈ xs, ∀ (K : D → Prop) (N : Prop), (P x → K (c x)) → N → g (c x) (wipeR ρ vs) fun ρ' => t ρ' (fun b => if b = true then e ρ' K (fun _ => False) else N) fun _ => False) (q : ∀ ys : List α, ys.Sublist xs → (∀ y ∈ ys, P y) → Q (ys.map c)) : lcL ρ vs g t e (xs.map c) [] Q := by
  have key : ∀ (xs : List α) (acc : List α), (∀ x ∈ xs, ∀ (K : D → Prop) (N : Prop), (P x → K (c x)) → N → g (c x) (wipeR ρ vs) fun ρ' => t ρ' (fun b => if b = true then e ρ' K (fun _ => False) else N) fun _ => False) → (∀ ys : List α, ys.Sublist xs → (∀ y ∈ ys, P y) → Q ((acc ++ ys).map c)) → lcL ρ vs g t e (xs.map c) (acc.map c) Q := by
    intro xs
    induction xs with
    | nil => intro acc _ q; have := q [] (.refl _) (fun y hy => absurd hy List.not_mem_nil); rw [List.append_nil] at this; exact this
    | cons x xs ih =>
      intro acc h q
      refine h x List.mem_cons_self (fun y => lcL ρ vs g t e (xs.map c) (acc.map c ++ [y]) Q) _ (fun px => ?_) ?_
      · have := ih (acc ++ [x]) (fun z hz => h z (List.mem_cons_of_mem _ hz)) (fun ys hs hp => by
          have := q (x :: ys) (hs.cons_cons x) fun y hy => (List.mem_cons.mp hy).elim (fun e => e ▸ px) (hp y)
          rw [List.append_assoc]
          exact this)
        rw [List.map_append] at this
        exact this
      · exact ih acc (fun z hz => h z (List.mem_cons_of_mem _ hz)) fun ys hs hp => q ys (hs.cons x) hp
  exact key xs [] h q
end
section
variable {ps ts : List Str} {a b : Str → Str} {t0 : Str}
theorem WebP.merged (w : WebP ps ts a b) : WebP (mrgP (a t0) (b t0) ps) (ts.filter fun t => decide (t ≠ t0)) (fun t => mrg (a t0) (b t0) (a t)) fun t => mrg (a t0) (b t0) (b t) where
  w := w.w.merged t0
  np := fun x hx => w.np x (mrgP_mem.mp hx).1
  l1 := List.length_pos_of_mem (mrgP_mem.mpr ⟨w.w.ha t0, .inl rfl⟩)
  l16 := Nat.le_trans (List.length_filter_le _ _) w.l16
  td := w.td.filter _
  nt := fun t ht => w.nt t (List.mem_filter.mp ht).1
  l20 := Nat.le_trans (List.length_filter_le _ _) w.l20
theorem WebP.less (w : WebP ps ts a b) (p : Str → Bool) : WebP ps (ts.filter p) a b where
  w := w.w
  np := w.np
  l1 := w.l1
  l16 := w.l16
  td := w.td.filter _
  nt := fun t ht => w.nt t (List.mem_filter.mp ht).1
  l20 := Nat.le_trans (List.length_filter_le _ _) w.l20
theorem WebP.part (w : WebP ps ts a b) {us : List Str} (nd : us.Nodup) (h : ∀ x ∈ us, x ∈ ts) (l : us.length ≤ 20) : WebP ps us a b where
  w := w.w
  np := w.np
  l1 := w.l1
  l16 := w.l16
  td := nd
  nt := fun t ht => w.nt t (h t ht)
  l20 := l
theorem srt_out (nd : ts.Nodup) (L : List Str) : P01.outN (srt ts) L = srt (ts.filter fun t => decide (t ∉ L)) := by
  have dns : (srt ts).Nodup := (srt_perm ts).nodup_iff.mpr nd
  rw [srt_filter (th := srt ts) (srt_congr (srt_perm ts)) (nd.filter _) dns fun x hx => srt_mem.mpr (List.mem_filter.mp hx).1]
  unfold P01.outN
  refine List.filter_congr fun x hx => decide_eq_decide.mpr ?_
  rw [List.mem_filter, decide_eq_true_iff]
  exact ⟨fun h => ⟨srt_mem.mp hx, h⟩, fun h => h.2⟩
end
def r_L11Steps : DS :=
  (sSeq (sFor (iRg1 (xC (.int 3))) (gN 4)
    (sSeq (sIf (tB' (xOp2 dEqDD (xVar 2) (xC (.dic []))))
    (sRet (xC (.bl true)))
    sNil)
    (sSeq (sSet 5 (xFn F_LPick (aCons (xVar 0) (aCons (xB dSortedDk (aCons (xVar 2) aNil)) aNil))))
    (sSeq (sIf (tB' (xOp2 (dEq false) (xFn F_LDraw (aCons (xVar 0) (aCons (xC (.int 2)) aNil))) (xC (.int 0))))
    (sSeq (sAsg (xFn F_L11Merged (aCons (xVar 1) (aCons (xVar 2) (aCons (xVar 5) aNil)))) (gT 2 (gsC (gN 1) (gsC (gN 2) gsN))))
    (sSet 3 (xFn F_DrawnIn (aCons (xVar 3) (aCons (xLst (aCons (xVar 5) aNil)) aNil)))))
    (sSeq (sSet 6 (xOp2 dAdd (xLst (aCons (xVar 5) aNil)) (xLc (iKey (xVar 2)) [7] (gN 7) (tAnd' (tB' (xOp2 (dEq true) (xVar 7) (xVar 5))) (tB' (xOp2 (dEq false) (xFn F_LDraw (aCons (xVar 0) (aCons (xC (.int 4)) aNil))) (xC (.int 0))))) (xVar 7))))
    (sSeq (sAsg (xFn F_L11Without (aCons (xVar 1) (aCons (xVar 2) (aCons (xVar 6) aNil)))) (gT 2 (gsC (gN 1) (gsC (gN 2) gsN))))
    (sSet 3 (xFn F_Without (aCons (xVar 3) (aCons (xVar 6) aNil)))))))
    (sIf (tB' (xOp2 (dIs true) (xFn F_Alike (aCons (xFn F_L11Family (aCons (xTup (aCons (xVar 1) (aCons (xVar 2) aNil))) aNil)) (aCons (xVar 3) aNil))) (xC .non)))
    (sRet (xC (.bl false)))
    sNil)))))
    (sRet (xC (.bl true))))
def F_L11Steps : DF := fun ds A _ => ∃ ps ts a b d, ds = [.well 0, lstS ps, tieD ts a b, d] ∧ WebP ps ts a b ∧ ts.length ≤ 7 ∧ FamWK 0 d (srt ts) (wk ps a b) ∧ A (.bl true)
theorem n_L11Steps (ds : List D) (A : D → Prop) (Ax : XQ) (h : F_L11Steps ds A Ax) : fnD 0 8 4 r_L11Steps ds A Ax := by
  obtain ⟨ps, ts, a, b, d, rfl, w, l7, fw, q⟩ := h
  k_dat r_L11Steps "zS1"
  refine ⟨by decide, by decide, ?_⟩
  refine for_range 0 3 (fun i ρ => ∃ ps ts a b d c s4 s5 s6, ρ = [some (.well 0), some (lstS ps), some (tieD ts a b), some d, s4, s5, s6, none] ∧ WebP ps ts a b ∧ ts.length ≤ 7 ∧ FamWK i d (srt ts) c ∧ ∀ X : List Str, (∀ x ∈ X, x ∈ ts) → c X = wk ps a b X) ⟨ps, ts, a, b, d, _, none, none, none, rfl, w, l7, fw, fun _ _ => rfl⟩ (fun i ρ N hi p n => ?_) (fun ρ p => ?_)
  · obtain ⟨ps, ts, a, b, d, c, s4, s5, s6, rfl, w, l7, fw, agr⟩ := p
    have i3 : i < 3 := hi
    have okp : ∀ x ∈ ps, PyData.strOk x = true := fun x hx => strOk_nm (w.np x hx)
    have okt : ∀ x ∈ ts, PyData.strOk x = true := fun x hx => strOk_nm (w.nt x hx)
    simp only [tieD, iKey, fnD, iniD, startD, sNil, sSeq, sIf, sRet, sSet, sSetO, sExpr, sApp, sPut, sClr, sExt, sIns, sRaise, sRaise2, sAsg, sFor, sSetM, sAppM, sFld', xPopAt, xPop, xVar, xC, xOp1, xOp2, xNeg, xAnd, xOr, xNot, xIf, xB, xFn, xTup, xLst, xFld, xDGet, xDIn, xSl, xChain, oNone, oSome, aNil, aCons, tB', tAnd', tOr', tNot', tYesD, gN, gT, gsN, gsC, iLst, iTupD, iRg1, iRg2, iEnm, iTxt, List.map_cons, List.map_nil, List.length_cons, List.length_nil, List.replicate, List.replicate_succ, List.replicate_zero, List.cons_append, List.nil_append, List.set_cons_zero, List.set_cons_succ, List.getElem?_cons_zero, List.getElem?_cons_succ, Option.some.injEq, D.int.injEq, D.str.injEq, D.bl.injEq, D.lst.injEq, D.tup.injEq, D.dic.injEq, D.ins.injEq, exists_eq_left, exists_eq_left', exists_eq_right, exists_eq_right', exists_and_left, and_true, true_and, Nat.reduceAdd, Nat.reduceSub, Nat.reduceLT, Nat.reduceEqDiff, Nat.add_one_sub_one, Nat.sub_zero, if_true, if_false, Bool.false_eq_true, reduceIte, wipeR, List.cons.injEq, Nat.zero_add, reduceCtorEq, false_and, exists_false, Bool.false_bne, Bool.true_bne, len_lst, len_tup, len_scr, in_lst, in_tup, dKey_str, dKey_int, and_assoc, eq_int, dSub, dLt, dLe, dGt, dGe, isNonD, dIs, dMin, dMax, xMeth, xMeth0, xEqO, xXf, sTry, catchD, offD, add_int, dList, dTuple, xFlt, xFltC, xFltX, xFltCX, xX, sAppP, sClrP, sFldP, sPutP, pVar, pIx, pFld, id, xDisp, pairsD, xNames, xMethF, xMeth0F, aStar, xTGet, xTIn, sPutT, sRaise0, sTryM, catchM, emEq, tKey_strs, famNs, Option.isSome_some, iSqV, sForW, xJoin, dSortedY, xRevL, sDead, xDead, xDc, sPar, sParO, dMin2, dMax2, dHas, dLenF, xSortR, dXor, xDcT, xMk0, seqOf, xLc, xLenSet, iEnmT, xDvs, xSortRD, sClrD, sAug, aStarD, dSortedP, sPar3]
    refine ⟨_, tie_nil fun t _ => ⟨okp _ (w.w.ha t), okp _ (w.w.hb t)⟩, _, rfl, ?_⟩
    by_cases ne : ts = []
    · rw [if_pos (decide_eq_true ne)]
      exact q
    rw [if_neg (by rw [decide_eq_false ne]; decide)]
    have es : dSortedDk [.dic (dictS ts fun t => tupS [a t, b t])] = some (lstS (srt ts)) := by
      unfold dSortedDk
      simp only [dictS_keys, strs_map]
      rw [if_pos (by omega)]
    have hne : (srt ts).map D.str ≠ [] := fun z => ne (by
      have := congrArg List.length z
      rw [List.length_map, srt_len] at this
      exact List.eq_nil_of_length_eq_zero this)
    refine ⟨_, es, _, rfl, .inl ⟨(srt ts).map D.str, rfl, hne, by rw [List.length_map, srt_len]; omega, fun x hx => ?_⟩⟩
    obtain ⟨t0, h0, rfl⟩ := List.mem_map.mp hx
    have h0 := srt_mem.mp h0
    refine ⟨2, rfl, by decide, by decide, fun k hk => ?_⟩
    have M := fw.mat
    have o1 : LotOk (srt ts) [t0] := ⟨by simp, fun x hx => by rw [List.mem_singleton.mp hx]; exact srt_mem.mpr h0⟩
    refine ⟨_, eq_int false _ _, _, rfl, ?_⟩
    by_cases ck : (k : Int) = 0
    · rw [if_pos (by rw [decide_eq_true ck]; rfl)]
      refine ⟨ps, ts, a, b, t0, rfl, w, h0, _, rfl, rfl, _, _, rfl, _, _, rfl, rfl, by decide, d, srt ts, c, i, [t0], rfl, fw, o1, fun d2 fw2 => ⟨by decide, ?_⟩⟩
      have wm := w.merged (t0 := t0)
      have ef : ts.filter (fun t => decide (t ∉ [t0])) = ts.filter fun t => decide (t ≠ t0) := List.filter_congr fun x _ => decide_eq_decide.mpr (not_congr List.mem_singleton)
      rw [srt_out w.td, ef] at fw2
      have lf := List.length_filter_le (fun t => decide (t ≠ t0)) ts
      have agr2 : ∀ X : List Str, (∀ x ∈ X, x ∈ ts.filter fun t => decide (t ≠ t0)) → P01.drawC c [t0] X = wk (mrgP (a t0) (b t0) ps) (fun t => mrg (a t0) (b t0) (a t)) (fun t => mrg (a t0) (b t0) (b t)) X := fun X hX => by
        have e1 : c (X ++ [t0]) = wk ps a b (X ++ [t0]) := agr _ fun x hx => (List.mem_append.mp hx).elim (fun h => (List.mem_filter.mp (hX x h)).1) fun h => by rw [List.mem_singleton.mp h]; exact h0
        have e2 : c [t0] = wk ps a b [t0] := agr _ fun x hx => by rw [List.mem_singleton.mp hx]; exact h0
        unfold P01.drawC
        rw [e1, e2, wk_merged w.w t0 X]
        omega
      refine ⟨_, _, _, _, rfl, wm, fun d3 fw3 => ⟨d3, d2, srt (ts.filter fun t => decide (t ≠ t0)), _, _, rfl, (fw3.up (Nat.zero_le rkN)).fam, (fw2.up (show i + 1 ≤ rkN by show i + 1 ≤ 4; omega)).fam, by rw [srt_len]; omega, fun X hX => (agr2 X fun x hx => srt_mem.mp (hX.subset hx)).symm, ?_⟩⟩
      show ite _ _ _
      rw [if_neg (by decide)]
      exact n _ ⟨_, _, _, _, d2, _, _, _, _, rfl, wm, by omega, fw2, agr2⟩
    · rw [if_neg (by rw [decide_eq_false ck]; decide)]
      have ek : (dictS ts fun t => tupS [a t, b t]).map (fun p => kD p.fst) = ts.map D.str := dictS_keys _ _
      rw [ek]
      refine ⟨by decide, by rw [List.length_map]; show _ ≤ 100000; omega, ?_⟩
      refine lc_someP D.str (fun t => t ≠ t0) ts (fun t ht K N kp kn => ?_) (fun L hs hL => ?_)
      · walk_at "zS1"
        refine ⟨_, eqS (okt t ht) (okt t0 h0), _, rfl, ?_⟩
        by_cases c2 : t = t0
        · rw [if_neg (by rw [decide_eq_true c2]; decide)]
          exact kn
        · rw [if_pos (by rw [decide_eq_false c2]; rfl)]
          refine ⟨4, rfl, by decide, by decide, fun k2 hk2 => ⟨_, eq_int false _ _, _, rfl, ?_⟩⟩
          show ite _ _ _
          split
          · exact kp c2
          · exact kn
      have fL : ∀ x ∈ L, x ∈ ts := fun x hx => hs.subset hx
      have nL : L.Nodup := w.td.sublist hs
      have lL := hs.length_le
      have eA : dAdd (.lst [.str t0]) (.lst (L.map D.str)) = some (lstS (t0 :: L)) := addL (a := [.str t0]) (by rw [List.length_map]; show 1 + L.length ≤ 100000; omega)
      have oL : LotOk (srt ts) (t0 :: L) := ⟨List.nodup_cons.mpr ⟨fun z => hL _ z rfl, nL⟩, fun x hx => srt_mem.mpr ((List.mem_cons.mp hx).elim (fun e => e ▸ h0) (fL x))⟩
      refine ⟨_, eA, ps, ts, a, b, t0 :: L, rfl, w, _, rfl, rfl, _, _, rfl, _, _, rfl, rfl, d, srt ts, c, i, t0 :: L, rfl, fw, oL, fun d2 fw2 => ⟨by decide, ?_⟩⟩
      have wl := w.less fun t => decide (t ∉ t0 :: L)
      rw [srt_out w.td] at fw2
      have lf := List.length_filter_le (fun t => decide (t ∉ t0 :: L)) ts
      have agr2 : ∀ X : List Str, (∀ x ∈ X, x ∈ ts.filter fun t => decide (t ∉ t0 :: L)) → c X = wk ps a b X := fun X hX => agr X fun x hx => (List.mem_filter.mp (hX x hx)).1
      refine ⟨_, _, _, _, rfl, wl, fun d3 fw3 => ⟨d3, d2, srt (ts.filter fun t => decide (t ∉ t0 :: L)), _, _, rfl, (fw3.up (Nat.zero_le rkN)).fam, (fw2.up (show i + 1 ≤ rkN by show i + 1 ≤ 4; omega)).fam, by rw [srt_len]; omega, fun X hX => (agr2 X fun x hx => srt_mem.mp (hX.subset hx)).symm, ?_⟩⟩
      show ite _ _ _
      rw [if_neg (by decide)]
      exact n _ ⟨_, _, _, _, d2, _, _, _, _, rfl, wl, by omega, fw2, agr2⟩
  · obtain ⟨ps, ts, a, b, d, c, s4, s5, s6, rfl, w, l7, fw, agr⟩ := p
    walk_at "zS1"
    exact q
theorem iteD {c : Bool} {F : (D → Prop) → Prop} {Z R : Prop} (h : c = true → ∀ K : D → Prop, K (.bl true) → F K) (r : R) : if c = true then F (fun x => ∃ c, x = .bl c ∧ if (!c) = true then Z else R) else R := by
  split
  · rename_i e
    exact h e _ ⟨true, rfl, by rw [if_neg (by decide)]; exact r⟩
  · exact r
theorem webP_of {ps ts : List Str} {a b : Str → Str} (dp : ps.Nodup) (np : ∀ x ∈ ps, NmL x) (l1 : 1 ≤ ps.length) (l5 : ps.length ≤ 5) (dt : ts.Nodup) (nt : ∀ x ∈ ts, NmL x) (l7 : ts.length ≤ 7) (hab : ∀ t, a t ∈ ps ∧ b t ∈ ps) : WebP ps ts a b where
  w := ⟨dp, fun t => (hab t).1, fun t => (hab t).2⟩
  np := fun x hx => (np x hx).1
  l1 := l1
  l16 := by omega
  td := dt
  nt := fun x hx => (nt x hx).1
  l20 := by omega
def r_L11Right : DS :=
  (sSeq (sAsg (xFn F_LWebL (aCons (xVar 0) (aCons (xC (.int 7)) aNil))) (gT 2 (gsC (gN 1) (gsC (gN 2) gsN))))
    (sSeq (sSet 3 (xFn F_L11Family (aCons (xTup (aCons (xVar 1) (aCons (xVar 2) aNil))) aNil)))
    (sSeq (sIf (tAnd' (tB' (xOp2 dNeD0 (xVar 2) (xC (.dic [])))) (tNot' (tB' (xFn F_L11Doubled (aCons (xVar 0) (aCons (xVar 1) (aCons (xVar 2) (aCons (xVar 3) aNil))))))))
    (sRet (xC (.bl false)))
    sNil)
    (sSeq (sIf (tNot' (tB' (xFn F_L11Steps (aCons (xVar 0) (aCons (xVar 1) (aCons (xVar 2) (aCons (xVar 3) aNil)))))))
    (sRet (xC (.bl false)))
    sNil)
    (sSeq (sSet 4 (xFn F_LWebL (aCons (xVar 0) (aCons (xC (.int 3)) aNil))))
    (sSeq (sSet 5 (xTup (aCons (xVar 1) (aCons (xB dDictP (aCons (xLc (iLst (xSl (xB dSortedDk (aCons (xVar 2) aNil)) oNone (oSome (xC (.int 4))))) [6] (gN 6) tYesD (xTup (aCons (xVar 6) (aCons (xDGet (xVar 2) (xVar 6)) aNil)))) aNil)) aNil))))
    (sRet (xFn F_L11Side (aCons (xVar 0) (aCons (xVar 5) (aCons (xVar 4) (aCons (xOp2 (dEq false) (xFn F_LDraw (aCons (xVar 0) (aCons (xC (.int 2)) aNil))) (xC (.int 0))) aNil))))))))))))
def F_L11Right : DF := fun ds A _ => ds = [.well 0] ∧ A (.bl true)
theorem n_L11Right (ds : List D) (A : D → Prop) (Ax : XQ) (h : F_L11Right ds A Ax) : fnD 0 7 1 r_L11Right ds A Ax := by
  obtain ⟨rfl, q⟩ := h
  k_dat r_L11Right "zS1"
  refine ⟨7, rfl, by decide, fun ps ts a b dp np l1 l5 dt nt l7 hab => ⟨_, rfl, rfl, _, _, rfl, _, _, rfl, rfl, by decide, ?_⟩⟩
  have w := webP_of dp np l1 l5 dt nt l7 hab
  refine ⟨ps, ts, a, b, rfl, w, fun d fw => ?_⟩
  have en : dNeD0 (.dic (dictS ts fun t => tupS [a t, b t])) (.dic []) = some (.bl (ts.length != 0)) := by
    show some (D.bl ((dictS ts fun t => tupS [a t, b t]).length != 0)) = _
    rw [dictS_len]
  refine ⟨_, en, _, rfl, ?_⟩
  refine iteD (F := fun K => F_L11Doubled _ K _) (fun e K k => ⟨ps, ts, a, b, d, rfl, w, nt, fun z => by rw [z] at e; exact absurd e (by decide), l7, fw, k⟩) ?_
  refine ⟨ps, ts, a, b, d, rfl, w, l7, fw, true, rfl, ?_⟩
  rw [if_neg (by decide)]
  refine ⟨3, rfl, by decide, fun qs us a2 b2 dq nq l1q l5q du nu l3 hab2 => ?_⟩
  have v := webP_of dq nq l1q l5q du nu (by omega) hab2
  have es : dSortedDk [.dic (dictS ts fun t => tupS [a t, b t])] = some (lstS (srt ts)) := by
    unfold dSortedDk
    simp only [dictS_keys, strs_map]
    rw [if_pos (by omega)]
  have ecut : dSl (lstS (srt ts)) none (some 4) = some (lstS ((srt ts).take 4)) := by
    show some (D.lst (cut ((srt ts).map D.str) none (some ((4 : Nat) : Int)))) = _
    rw [cut_take, ← List.map_take]
  have dns : (srt ts).Nodup := (srt_perm ts).nodup_iff.mpr dt
  have nd4 : ((srt ts).take 4).Nodup := dns.sublist (List.take_sublist _ _)
  have m4 : ∀ x ∈ (srt ts).take 4, x ∈ ts := fun x hx => srt_mem.mp (List.mem_of_mem_take hx)
  have l4 : ((srt ts).take 4).length ≤ 4 := by rw [List.length_take]; omega
  refine ⟨_, es, _, ecut, _, rfl, by rw [List.length_map]; show _ ≤ 100000; omega, ?_⟩
  refine lc_mapT D.str (fun t => .tup [.str t, tupS [a t, b t]]) ((srt ts).take 4) (fun t ht K k => ?_) ?_
  · walk_at "zS1"
    exact ⟨_, dictS_get (m4 t ht), by decide, k⟩
  refine ⟨_, dDictP_names (fun t => tupS [a t, b t]) nd4, by decide, 2, rfl, by decide, by decide, fun k hk => ⟨_, eq_int false _ _, ?_⟩⟩
  exact ⟨ps, (srt ts).take 4, qs, us, a, b, a2, b2, _, rfl, w.part nd4 m4 (by omega), v, np, fun x hx => nt x (m4 x hx), l5, l5q, l4, l3, q⟩
def r_Law11 : DS :=
  (sRet (xB dAll (aCons (xLc (iLst (xOp2 dAdd (xSl (xVar 0) oNone (oSome (xC (.int 2)))) (xLst (aCons (xC (.int 0)) aNil)))) [1] (gN 1) tYesD (xFn F_L11Right (aCons (xFn F_LSource (aCons (xVar 1) aNil)) aNil))) aNil)))
def F_Law11 : DF := fun ds A _ => ∃ ns, ds = [.scr ns] ∧ A (.bl true)
theorem n_Law11 (ds : List D) (A : D → Prop) (Ax : XQ) (h : F_Law11 ds A Ax) : fnD 0 2 1 r_Law11 ds A Ax := by
  obtain ⟨ns, rfl, q⟩ := h
  k_dat r_Law11 "zS1"
  refine ⟨_, rfl, by decide, ?_⟩
  rw [show (2 : Int) = ((2 : Nat) : Int) from rfl, cut_take]
  have e : ((ns.take 2).map D.int ++ [D.int 0]) = (ns.take 2 ++ [0]).map D.int := by rw [List.map_append]; rfl
  have l2 : (ns.take 2).length ≤ 2 := by rw [List.length_take]; omega
  refine ⟨_, addL (by rw [List.length_map]; show (ns.take 2).length + 1 ≤ 100000; omega), _, rfl, ?_⟩
  rw [e]
  refine ⟨by rw [List.length_map, List.length_append]; show (ns.take 2).length + 1 ≤ 100000; omega, ?_⟩
  refine lc_mapT D.int (fun _ => .bl true) (ns.take 2 ++ [0]) (fun x hx K k => ?_) ?_
  · walk_at "zS1"
    exact ⟨x, rfl, rfl, k⟩
  · refine ⟨_, all_mapR (fun _ => true) _, ?_⟩
    rw [List.all_eq_true.mpr fun x hx => rfl]
    exact q
end Dz
namespace L11
open PySem PySem.Spec PyProof.Rows L2 Evl Bf Dz
section
variable {P : Program} {w : World} {K : PySem.W.Frag} {mg : Str → Option Value} {base : Heap} {f : Addr} {fd : FuncData} {k : Nat}
theorem ok_fam0 (FS : FnS K "__init__" "Family.__init__" sFInit f fd) (B : Bl mg) (TF : ClsF K "Family" ["names", "source", "counted"]) : FnOk P w K mg base CX0 1 f fd ["self", "names", "world"] (spFam0 K) := by
  refine okD FS scFInit (fun vs H Q E h => ?_) (fun cdv A outer s H vs Q E hr h => ?_)
  · obtain ⟨y, dy, p, s, ns, rfl, _⟩ := h
    rfl
  · obtain ⟨y, dy, p, s, ns, rfl, hy, py, h⟩ := h
    refine ⟨_, pss_cons (ps_fld (pv 0) (pe_callTy call_tuple_of (by rfl) B.tuple (by decide +kernel) (pa_cons (pv 1) pa_nil)) rfl) (pss_cons (ps_fld (pv 0) (pv 2) rfl) (pss_one (ps_fld (pv 0) pe_dnewT rfl))), ?_⟩
    have nF : ∀ x ∈ (["names", "source", "counted"] : List Str), NoAttr K (He.ga K "Family") x := fun x hx => TF.nF x hx
    rcases h with ⟨hp, q⟩ | ⟨hp, q⟩
    · refine ⟨_, rfl, p, ns, rfl, .inl ⟨.inl (.inl hp), fun t ht => ⟨_, rfl, y, _, dy, [], rfl, ?_, TF.cl, nF _ (by decide), (by decide : 0 < 1000), _, rfl, _, rfl, y, _, dy, _, rfl, upd_same, TF.cl, nF _ (by decide), (by decide : 1 < 1000), fun c hc => ⟨_, rfl, y, _, dy, [("names", .ref t), ("source", .ref s)], rfl, ?_, TF.cl, nF _ (by decide), (by decide : 2 < 1000), ?_⟩⟩⟩⟩
      · rw [upd_ne fun z => by rw [← z, hy] at ht; cases ht]
        exact hy
      · have cy : c ≠ y := fun z => by rw [z, upd_same] at hc; cases hc
        rw [upd_ne cy.symm]
        exact upd_same
      · have cy : c ≠ y := fun z => by rw [z, upd_same] at hc; cases hc
        rw [upd_ne cy, upd_ne cy] at hc
        have ct : c ≠ t := fun z => by rw [z, upd_same] at hc; cases hc
        rw [upd_ne ct] at hc
        rw [upd_shuffle cy]
        exact q t c ht hc ct.symm
    · refine ⟨_, rfl, p, ns, rfl, .inr ⟨.inl (.inl hp), _, rfl, y, _, dy, _, rfl, hy, TF.cl, nF _ (by decide), (by decide : 0 < 1000), _, rfl, _, rfl, y, _, dy, _, rfl, upd_same, TF.cl, nF _ (by decide), (by decide : 1 < 1000), fun c hc => ⟨_, rfl, y, _, dy, [("names", .ref p), ("source", .ref s)], rfl, ?_, TF.cl, nF _ (by decide), (by decide : 2 < 1000), ?_⟩⟩⟩
      · have cy : c ≠ y := fun z => by rw [z, upd_same] at hc; cases hc
        rw [upd_ne cy.symm]
        exact upd_same
      · have cy : c ≠ y := fun z => by rw [z, upd_same] at hc; cases hc
        rw [upd_ne cy, upd_ne cy] at hc
        rw [upd_shuffle cy]
        exact q c hc
theorem okr_RankC {cs : List (Str × DF)} (FS : FnS K "rank_of" "Family.rank_of" sRankN f fd) (TF : ClsF K "Family" ["names", "source", "counted"]) (MM : ∀ p ∈ cs, MtD P w (T1 K) mg base k p.1 "count_free" 2 0 p.2) :
    FnOk P w K mg base (L2.CX P w) (k + 1) f fd ["self", "lot"] (spOf (T1 K) 0 2 (F_RankC cs)) := by
  refine okE FS scRankN (fun vs H Q E h => h.1) fun cdv A outer s H vs Q E hr h tk => ?_
  obtain ⟨hn, ds, ow, A1, Ax, ok, tr, r, ⟨ns, src, g, lot, c, F, fs, rfl, hs, rfl, hc0, hf, q, qa⟩, k1, k2⟩ := h
  have M : MtD P w (T1 K) mg base k c "count_free" 2 0 F := MM _ hc0
  cases r with
  | cons r1 r2 => cases r2 with
    | cons r2 r3 =>
      cases r3
      obtain ⟨a, dx, t, s0, c0, rfl, ha, na, ht, rs⟩ := rep_fam r1
      obtain ⟨q0, rfl, hq⟩ := rep_strs r2
      obtain ⟨fm, fdm, ps, a1, a2, a3⟩ := M.ex
      have hu := hu_of hr
      refine ⟨_, pss_cons (ps_if (L2.pt_cmp (pc_dnotin hu (pv 1) (pe_fld (pv 0) rfl)) rfl)
        (pss_one (ps_dputF hu (pe_fld (pv 0) rfl) (pv 1) (pe_mtS (pe_fld (pv 0) rfl) M.cl a1 a2 hr a3 (fun σ => passAt tk σ) (pa_cons (pv 1) pa_nil)) rfl)) pss_nil)
        (pss_one (ps_ret (pe_dget hu (pe_fld (pv 0) rfl) (pv 1) (fun _ _ => rfl)))), ?_⟩
      have nF : ∀ x ∈ (["names", "source", "counted"] : List Str), NoAttr K (He.ga K "Family") x := fun x hx => TF.nF x hx
      obtain ⟨ns', kvs, t1, hl, hc, mm⟩ := ok.ok _ _ _ _ _ _ ha
      rw [ht] at t1
      have e := map_inj (fun x y e => V.str.inj e) _ _ (HO.tup.inj (Option.some.inj t1))
      subst e
      have hqk : H q0 = some (.tup ((lot.map Sum.inr).map kV)) := by rw [key_map]; exact hq
      refine ⟨_, rfl, _, rfl, a, _, dx, _, .ref c0, rfl, ha, TF.cl, nF _ (by decide), rfl, c0, _, rfl, .inr ⟨kvs, lot.map Sum.inr, q0, .inl hc, rfl, hqk, rfl⟩, _, rfl, ?_⟩
      cases cv : valV kvs (lot.map Sum.inr) with
      | some v =>
        have e := memo_val mm cv
        subst e
        exact ⟨_, rfl, a, _, dx, _, .ref c0, rfl, ha, TF.cl, nF _ (by decide), rfl, _, rfl, c0, _, rfl, .inr ⟨kvs, lot.map Sum.inr, q0, .inl hc, rfl, hqk, cv.symm⟩, k1 _ _ H qa ok ((T1 K).refl H) (.int _)⟩
      | none =>
        obtain ⟨sa, sdx, svs, e1, hsa, sl⟩ := ins_cases rs hf
        cases e1
        refine ⟨_, rfl, a, _, dx, _, .ref s0, rfl, ha, TF.cl, nF _ (by decide), rfl, s0, sdx, svs, rfl, hsa, sl, _, rfl, ?_⟩
        refine ⟨rfl, _, ow, _, _, ok, tr, .cons rs (.cons r2 .nil), q, fun d v G e okG gG rv => ?_, fun x d G z => z.elim⟩
        subst e
        rw [rep_int rv]
        have haG := gG.k1 _ _ ha (fun _ z => by cases z)
        have hqG := gG.k1 _ _ hqk (fun _ z => by cases z)
        obtain ⟨ns2, kvs2, t2, hl2, hc2, mm2⟩ := okG.ok _ _ _ _ _ _ haG
        have htG := gG.k1 _ _ ht (fun _ z => by cases z)
        rw [htG] at t2
        have e := map_inj (fun x y e => V.str.inj e) _ _ (HO.tup.inj (Option.some.inj t2))
        subst e
        obtain ⟨o3, g3⟩ := fams_memo okG haG htG hc2 (memo_put2 mm2 hs)
        have ca : c0 ≠ a := fun z => by rw [z, haG] at hc2; cases hc2
        have cq : c0 ≠ q0 := fun z => by rw [z, hqG] at hc2; cases hc2
        refine ⟨_, rfl, a, _, dx, _, .ref c0, rfl, haG, TF.cl, nF _ (by decide), rfl, _, rfl, c0, _, rfl, .inr ⟨kvs2, lot.map Sum.inr, q0, hc2, rfl, hqG, memo_len2 (memo_put2 mm2 hs) hl, rfl⟩, ?_⟩
        refine ⟨_, rfl, a, _, dx, _, .ref c0, rfl, by rw [upd_ne ca.symm]; exact haG, TF.cl, nF _ (by decide), rfl, _, rfl, c0, _, rfl, .inr ⟨_, lot.map Sum.inr, q0, .inl upd_same, rfl, by rw [upd_ne cq.symm]; exact hqG, val_put2.symm⟩, ?_⟩
        exact k1 _ _ _ qa o3 ((T1 K).trans gG g3) (.int _)
theorem okr_FInit (FS : FnS K "__init__" "Family.__init__" sFInit f fd) (B : Bl mg) (TF : ClsF K "Family" ["names", "source", "counted"]) : FnOk P w K mg base (L2.CX P w) 1 f fd ["self", "names", "world"] (spFamI K F_FInit) := fn_up (fam_ini rfl (ok_fam0 FS B TF))
theorem mtd_up {j n : Nat} {c m : Str} {fz : Nat} {F : DF} (M : MtD P w (T1 K) mg base j c m n fz F) (h : j ≤ k) : MtD P w (T1 K) mg base k c m n fz F := by
  obtain ⟨cl, f, fd, ps, h1, h2, h3⟩ := M
  exact ⟨cl, f, fd, ps, h1, h2.mono h, h3⟩
theorem rank_m0 (M1 : MtD P w (T1 K) mg base 2 "Web" "count_free" 2 0 F_WCount) :
    ∀ p ∈ rkCs none, MtD P w (T1 K) mg base 3 p.1 "count_free" 2 0 p.2 := fun p hp => by
  have hp : p ∈ ([("Web", F_WCount)] : List (Str × DF)) := hp
  simp only [List.mem_cons, List.not_mem_nil, or_false] at hp
  rcases hp with rfl
  · exact mtd_up M1 (by decide)
theorem rank_mk {F : DF} {kl : Nat} (M1 : MtD P w (T1 K) mg base 2 "Web" "count_free" 2 0 F_WCount) (M2 : MtD P w (T1 K) mg base (kl + 2) "Drawn" "count_free" 2 0 (F_DrCount F)) (M3 : MtD P w (T1 K) mg base (kl + 2) "Joined" "count_free" 2 0 (F_JoCount F)) :
    ∀ p ∈ rkCs (some F), MtD P w (T1 K) mg base (kl + 2) p.1 "count_free" 2 0 p.2 := fun p hp => by
  have hp : p ∈ ([("Web", F_WCount), ("Drawn", F_DrCount F), ("Joined", F_JoCount F)] : List (Str × DF)) := hp
  simp only [List.mem_cons, List.not_mem_nil, or_false] at hp
  rcases hp with rfl | rfl | rfl
  · exact mtd_up M1 (by omega)
  · exact M2
  · exact M3
end
end L11
namespace L11
open PySem PySem.Spec PyProof.Rows L2 Evl Bf Dz
section
variable {P : Program} {w : World} {K : PySem.W.Frag} {mg : Str → Option Value} {base : Heap} {f : Addr} {fd : FuncData} {T : Th K}
abbrev w3 (i j k : Int) : List V := [.int i, .int j, .int k]
theorem ok_source0 (F : FnS K "_law_source" "_law_source" sLSource f fd) (B : Bl mg) : FnOk P w K mg base CX0 1 f fd ["_law_cell"] spSource0 := by
  refine okD F scLSource (fun vs H Q E h => ?_) (fun cdv A outer s H vs Q E hr h => ?_)
  · obtain ⟨v, rfl, _⟩ := h
    rfl
  · obtain ⟨n, rfl, q⟩ := h
    refine ⟨_, (pss_cons (ps_set (i := 1) scLSource.nd rfl (.inl rfl) (pe_ifExp (pt_cmpR op_ge (pv 0) pe_int (nomark _)) (pv 0) (pe_op op_sub (pe_op op_sub pe_int (pe_op op_mul pe_int (pv 0))) pe_int)))
      (pss_one (ps_ret (pe_lst (pa_cons (pe_op op_mul (pv 1) (pe_callTy call_int1 (by rfl) B.int (by decide +kernel) (pa_cons (pe_cmpR op_ge (pv 1) (pe_op op_pow pe_int pe_int) (nomark _)) pa_nil))) (pa_cons (pe_op op_modN (pe_callTy call_int1 (by rfl) B.int (by decide +kernel) (pa_cons (pv 1) pa_nil)) pe_int) (pa_cons pe_int pa_nil))))))), ?_⟩
    have hm : ∀ (m : Int) (b : Bool), CMul m (if b = true then 1 else 0) := fun m b => .inr (by cases b <;> decide)
    refine ⟨_, rfl, _, _, rfl, rfl, _, rfl, iteB (fun h1 => ?_) (fun h1 => ?_)⟩
    · refine ⟨_, rfl, ?_⟩
      refine ⟨_, rfl, _, rfl, 10, 18, rfl, rfl, ⟨by decide, by decide, by decide⟩, _, _, rfl, rfl, .inr ⟨_, rfl, _, _, rfl, rfl, hm _ _, ?_⟩⟩
      refine ⟨_, rfl, .inl ⟨_, rfl, _, _, rfl, rfl, (by decide : (2147483629 : Int) ≠ 0), by show 3 ≤ sizeLine; decide, fun p hp => q p _ _ _ hp⟩⟩
    · refine ⟨_, rfl, _, _, rfl, rfl, .inl (by decide), _, _, rfl, rfl, _, _, rfl, rfl, ?_⟩
      refine ⟨_, rfl, _, rfl, 10, 18, rfl, rfl, ⟨by decide, by decide, by decide⟩, _, _, rfl, rfl, .inr ⟨_, rfl, _, _, rfl, rfl, hm _ _, ?_⟩⟩
      refine ⟨_, rfl, .inl ⟨_, rfl, _, _, rfl, rfl, (by decide : (2147483629 : Int) ≠ 0), by show 3 ≤ sizeLine; decide, fun p hp => q p _ _ _ hp⟩⟩
theorem ok_draw0 (F : FnS K "_law_draw" "_law_draw" sLDraw f fd) (B : Bl mg) : FnOk P w K mg base CX0 1 f fd ["_law_well", "_law_many"] spDraw0 := by
  refine okD F scLDraw (fun vs H Q E h => ?_) (fun cdv A outer s H vs Q E hr h => ?_)
  · obtain ⟨a, i, j, k, n, rfl, _⟩ := h
    rfl
  · obtain ⟨a, i, j, k, n, rfl, ha, n0, n1, q⟩ := h
    refine ⟨_, (pss_cons (ps_if (pt_cmpR op_gt (pe_ix ix_list (pv 0) pe_int (fun _ _ => rfl)) pe_int (nomark _))
      (pss_cons (ps_set (i := 2) scLDraw.nd rfl (.inl rfl) (pe_op op_modN (pe_callTy call_int1 (by rfl) B.int (by decide +kernel) (pa_cons (pe_ix ix_list (pv 0) pe_int (fun _ _ => rfl)) pa_nil)) (pv 1)))
      (pss_cons (ps_asg (pe_op op_fdivN (pe_ix ix_list (pv 0) pe_int (fun _ _ => rfl)) (pv 1)) (pg_sub (pv 0) pe_int set_list))
      (pss_one (ps_ret (pv 2)))))
      pss_nil)
      (pss_cons (ps_asg (pe_op op_add (pe_ix ix_list (pv 0) pe_int (fun _ _ => rfl)) pe_int) (pg_sub (pv 0) pe_int set_list))
      (pss_cons (ps_set (i := 3) scLDraw.nd rfl (.inl rfl) (pe_op op_modN (pe_callTy call_int1 (by rfl) B.int (by decide +kernel) (pa_cons (pe_op op_mul (pe_op op_add (pe_op op_add (pe_ix ix_list (pv 0) pe_int (fun _ _ => rfl)) (pe_op op_mul pe_int (pe_ix ix_list (pv 0) pe_int (fun _ _ => rfl)))) pe_int) pe_int) pa_nil)) pe_int))
      (pss_cons (ps_set (i := 3) scLDraw.nd rfl (.inl rfl) (pe_op op_modN (pe_callTy call_int1 (by rfl) B.int (by decide +kernel) (pa_cons (pe_op op_mul (pv 3) (pe_op op_add (pe_op op_add (pe_op op_fdivN (pv 3) pe_int) pe_int) (pe_ix ix_list (pv 0) pe_int (fun _ _ => rfl)))) pa_nil)) pe_int))
      (pss_one (ps_ret (pe_op op_modN (pe_callTy call_int1 (by rfl) B.int (by decide +kernel) (pa_cons (pe_op op_fdivN (pe_op op_modN (pe_callTy call_int1 (by rfl) B.int (by decide +kernel) (pa_cons (pe_op op_mul (pv 3) (pe_op op_add (pe_op op_fdivN (pv 3) pe_int) pe_int)) pa_nil)) pe_int) pe_int) pa_nil)) (pv 1)))))))), ?_⟩
    have L0 : SqL K H a [.int i, .int j, .int k] := sq_of ha
    refine ⟨_, rfl, a, _, 0, _, rfl, rfl, L0, rfl, _, _, rfl, rfl, _, rfl, iteB (fun h1 => ?_) (fun h1 => ?_)⟩
    · refine ⟨_, rfl, a, _, 0, _, rfl, rfl, L0, rfl, .inl ⟨_, rfl, _, rfl, _, _, rfl, rfl, (by omega : n ≠ 0), ?_⟩⟩
      refine ⟨_, rfl, a, _, 0, _, rfl, rfl, L0, rfl, _, rfl, _, _, rfl, rfl, ⟨by omega, by omega⟩, _, rfl, a, _, 0, 0, rfl, rfl, ha, rfl, _, rfl, ?_⟩
      exact q _ _ _ _ (Int.fmod_nonneg_of_pos _ n0) (Int.fmod_lt_of_pos _ n0)
    · refine ⟨_, rfl, a, _, 2, _, rfl, rfl, L0, rfl, _, _, rfl, rfl, _, rfl, a, _, 2, 2, rfl, rfl, ha, rfl, ?_⟩
      have L1 : SqL K (upd H a (wl i j (k + 1))) a [.int i, .int j, .int (k + 1)] := sq_of upd_same
      refine ⟨_, rfl, a, _, 1, _, rfl, rfl, L1, rfl, _, rfl, a, _, 2, _, rfl, rfl, L1, rfl, _, _, rfl, rfl, .inl (by decide), _, _, rfl, rfl, _, _, rfl, rfl, _, _, rfl, rfl, .inr (by decide), .inl ⟨_, rfl, _, _, rfl, rfl, (by decide : (2147483647 : Int) ≠ 0), ?_⟩⟩
      have b1 : ∀ x : Int, 0 ≤ x.fmod 2147483647 ∧ x.fmod 2147483647 < 2147483647 := fun x => ⟨Int.fmod_nonneg_of_pos _ (by decide), Int.fmod_lt_of_pos _ (by decide)⟩
      have b2 : ∀ x : Int, 0 ≤ x.fmod 2147483587 ∧ x.fmod 2147483587 < 2147483587 := fun x => ⟨Int.fmod_nonneg_of_pos _ (by decide), Int.fmod_lt_of_pos _ (by decide)⟩
      refine ⟨_, rfl, _, rfl, _, _, rfl, rfl, ⟨by decide, by decide⟩, _, _, rfl, rfl, _, rfl, a, _, 2, _, rfl, rfl, L1, rfl, _, _, rfl, rfl, _, _, rfl, rfl, .inl ?_, .inl ⟨_, rfl, _, _, rfl, rfl, (by decide : (2147483587 : Int) ≠ 0), ?_⟩⟩
      · have := b1 ((j + 104729 * (k + 1) + 11) * 48271)
        constructor <;> omega
      refine ⟨_, rfl, _, rfl, _, _, rfl, rfl, ⟨by decide, by decide⟩, _, _, rfl, rfl, _, _, rfl, rfl, .inl ?_, .inl ⟨_, rfl, _, _, rfl, rfl, (by decide : (2147483563 : Int) ≠ 0), _, _, rfl, rfl, ⟨by decide, by decide⟩, .inl ⟨_, rfl, _, rfl, _, _, rfl, rfl, (by omega : n ≠ 0), ?_⟩⟩⟩
      · have := b2 (((j + 104729 * (k + 1) + 11) * 48271).fmod 2147483647 * ((((j + 104729 * (k + 1) + 11) * 48271).fmod 2147483647).fdiv 1009 + 69621 + (k + 1)))
        constructor <;> omega
      exact q _ _ _ _ (Int.fmod_nonneg_of_pos _ n0) (Int.fmod_lt_of_pos _ n0)
theorem okr_LDraw (F : FnS K "_law_draw" "_law_draw" sLDraw f fd) (B : Bl mg) : FnOk P w K mg base (L2.CX P w) 1 f fd ["_law_well", "_law_many"] (spOf T 0 2 F_LDraw) := by
  refine (fn_up (abs_fn (sp := fun vs H Q E => ∃ (a : Addr) (m : Int), vs = [.ref a, .int m] ∧ WellK H (fun _ => False) a 0 ∧ 0 < m ∧ m < 1073741824 ∧ ∀ d : Int, 0 ≤ d → d < m → Q (.int d) H) (fun vs H Q E h => ?_) (fun vs H Q E h => ?_) (ok_draw0 F B))).imp fun vs H Q E h => ?_
  · obtain ⟨a, m, rfl, _⟩ := h
    rfl
  · obtain ⟨a, m, rfl, h1, m0, m1, q⟩ := h
    refine ⟨a, Well3, h1, fun xs hx => ?_⟩
    obtain ⟨i, j, k, rfl⟩ := hx
    exact ⟨a, i, j, k, m, rfl, upd_same, m0, m1, fun d i' j' k' d0 d1 => ⟨_, ⟨i', j', k', rfl⟩, upd_upd, q d d0 d1⟩⟩
  · obtain ⟨hn, ds, ow, A, Ax, ok, tr, r, ⟨m, rfl, m0, m1, q⟩, k1, _⟩ := h
    cases r with
    | cons r1 r2 => cases r2 with
      | cons r2 r3 =>
        cases r3
        rw [rep_int r2]
        cases r1 with
        | @well a _ hw nw =>
          refine ⟨a, m, rfl, hw, m0, m1, fun d d0 d1 => ?_⟩
          obtain ⟨d, rfl⟩ := Int.eq_ofNat_of_zero_le d0
          exact k1 _ _ H (q d d1) ok (T.refl H) (.int _)
theorem okr_LSource (F : FnS K "_law_source" "_law_source" sLSource f fd) (B : Bl mg) : FnOk P w K mg base (L2.CX P w) 1 f fd ["_law_cell"] (spOf T 0 1 F_LSource) := by
  have F2 := abs_new (fun vs H Q E h => by obtain ⟨n, rfl, _⟩ := h; rfl) (ok_source0 (P := P) (w := w) (base := base) F B)
  refine (fn_up F2).imp fun vs H Q E h => ?_
  obtain ⟨hn, ds, ow, A, Ax, ok, tr, r, ⟨n, rfl, q⟩, k1, _⟩ := h
  cases r with
  | cons r1 r2 =>
    cases r2
    rw [rep_int r1]
    refine ⟨n, rfl, fun a i j k ha => ⟨a, Well3, _, _, ⟨i, j, k, rfl⟩, ha, Ex.refl H, rfl, rfl, ?_⟩⟩
    obtain ⟨o2, g2⟩ := T.new (o := absL a Well3) ok ha rfl
    refine k1 _ _ _ q o2 g2 (.well (show (upd H a (absL a Well3)) a = some (absL a Well3) from upd_same) fun z => tr a z ha)
end
end L11
namespace L11
open PySem PySem.Spec PyProof.Rows L2 Evl Bf Dz
section
variable {P : Program} {w : World} {K : PySem.W.Frag} {mg : Str → Option Value} {base : Heap} {f : Addr} {fd : FuncData} {T : Th K}
theorem okr_IsName (F : FnS K "is_name" "is_name" sIsName f fd) (B : Bl mg) (c_LETTERS : ∃ t, mg "LETTERS" = some (.str "abcdefghijklmnopqrstuvwxyz" t)) (c_MOST_LETTERS : ∃ t, mg "MOST_LETTERS" = some (.int 8 t)) : FnOk P w K mg base (L2.CX P w) 1 f fd ["thing"] (spOf (T1 K) 0 1 (fnD 0 nIsName.length 1 r_IsName)) := by
  refine ok_fn (On := []) F scIsName fun cdv A outer s H E hr tk => ?_
  exact (ss_cons (s_if (PW.pt (bw_or (bt_not (bt_val (be_bf call_isi cd_isi (by rfl) B.isinstance (by decide +kernel) (bo_cons (be_o (be_var (i := 0) rfl (by walk_at "zL") rfl)) (bo_cons (be_o (be_ty (by rfl) B.str (by decide +kernel))) bo_nil))))) (bw_or1 (bt_not (bt_chain or_le od_le or_le od_le (be_o be_int) (be_o (be_bf call_len cd_len (by rfl) B.len (by decide +kernel) (bo_cons (be_o (be_var (i := 0) rfl (by walk_at "zL") rfl)) bo_nil))) (be_o (be_gi c_MOST_LETTERS)))))))
    (ss_one (s_ret be_bl))
    ss_nil)
    (ss_one (s_ret (be_bf (cr_all rfl) cd_all (by rfl) B.all (by decide +kernel) (bo_cons (be_o (be_f (bf_lc (own := [("letter", 1)]) (is := [1]) (by rfl) scIsName.nd (i_io (i_str (be_var (i := 0) rfl (by walk_at "zL") rfl))) (blkOk_by (own := [("letter", 1)]) (N := nIsName) (sc := defScope sIsName) (by decide +kernel)) (fun _ _ _ _ _ => (g_name (i := 1) scIsName.nd rfl (by walk_at "zM") rfl)) (fun _ _ _ _ _ => pts0) (fun _ _ _ _ _ => (be_cmp or_in od_in (be_o (be_var (i := 1) rfl (by walk_at "zL") rfl)) (be_o (be_gs c_LETTERS)) (by rfl))) rfl rfl))) bo_nil)))))
theorem okr_FirstW (F : FnS K "first_wrong" "first_wrong" sFirstW f fd) (B : Bl mg) : FnOk P w K mg base (L2.CX P w) 1 f fd ["items", "known"] (spOf (T1 K) 0 2 (fnD 0 nFirstW.length 2 r_FirstW)) := by
  refine ok_fn (On := []) F scFirstW fun cdv A outer s H E hr tk => ?_
  have hu := hu_of hr
  exact (ss_cons (s_setO (i := 2) scFirstW.nd rfl (by walk_at "zM") rfl bf_dnew)
    (ss_cons (s_for (passes_of rfl) (by rfl) (i_enum (by rfl) B.enumerate (be_var (i := 0) rfl (by walk_at "zL") rfl)) (g_tup (is := ([3] ++ ([4] ++ []))) (n := 2) (by rfl) (g_cons (is := [3]) (g_name (i := 3) scFirstW.nd rfl (by walk_at "zM") rfl) (g_cons (is := [4]) (g_name (i := 4) scFirstW.nd rfl (by walk_at "zM") rfl) g_nil rfl) rfl)) rfl
    (ss_cons (s_if (PW.pt (bw_or (bt_cmp or_notin od_notin (be_o (be_var (i := 4) rfl (by walk_at "zL") rfl)) (be_o (be_var (i := 1) rfl (by walk_at "zL") rfl)) (by rfl)) (bw_or1 (bt_din hu (be_var (i := 4) rfl (by walk_at "zL") rfl) (bo_var (i := 2) rfl (by walk_at "zL") rfl)))))
    (ss_one (s_ret (be_var (i := 3) rfl (by walk_at "zL") rfl)))
    ss_nil)
    (ss_one (s_put hu (i := 2) rfl (by walk_at "zL") rfl (be_var (i := 4) rfl (by walk_at "zL") rfl) be_bl))))
    (ss_one (s_ret be_non))))
theorem okr_NLot (F : FnS K "need_lot" "need_lot" sNLot f fd) (B : Bl mg) (f_first_wrong : Fn P w (T1 K) mg base 1 "first_wrong" ["items", "known"] 0 F_FirstW) (x_BadLot : ExT P w K mg base "BadLot" "index" (He.ga K "BadLot")) : FnOk P w K mg base (L2.CX P w) 3 f fd ["known", "lot"] (spOf (T1 K) 0 2 (fnD 0 nNLot.length 2 r_NLot)) := by
  refine ok_fn (On := []) F scNLot fun cdv A outer s H E hr tk => ?_
  exact (ss_cons (s_set (i := 2) scNLot.nd rfl (by walk_at "zM") rfl (be_fn f_first_wrong (hr.mono (by decide)) tk (ba_cons (be_var (i := 1) rfl (by walk_at "zL") rfl) (ba_cons (be_var (i := 0) rfl (by walk_at "zL") rfl) ba_nil))))
    (ss_cons (s_if (bt_cmp op_notN od_isnot (be_o (be_var (i := 2) rfl (by walk_at "zL") rfl)) (be_o be_non) (nomark _))
    (ss_one (s_raise x_BadLot (by rfl) tk (hr.mono (by decide)) (be_var (i := 2) rfl (by walk_at "zL") rfl)))
    ss_nil)
    (ss_one (s_ret (be_bt call_tuple_of cd_tuple (by rfl) B.tuple (by decide +kernel) (bo_cons (be_o (be_f (bf_bf cr_sortedD cd_sorted (by rfl) B.sorted (by decide +kernel) (bo_cons (be_o (be_var (i := 1) rfl (by walk_at "zL") rfl)) bo_nil)))) bo_nil))))))
theorem okr_Less (F : FnS K "less" "less" sLess f fd) (B : Bl mg) : FnOk P w K mg base (L2.CX P w) 1 f fd ["lot", "gone"] (spOf (T1 K) 0 2 (fnD 0 nLess.length 2 r_Less)) := by
  refine ok_fn (On := []) F scLess fun cdv A outer s H E hr tk => ?_
  exact (ss_one (s_ret (be_bt call_tuple_of cd_tuple (by rfl) B.tuple (by decide +kernel) (bo_cons (be_o (be_f (bf_lc (own := [("thing", 2)]) (is := [2]) (by rfl) scLess.nd (i_io (i_tup (be_var (i := 0) rfl (by walk_at "zL") rfl))) (blkOk_by (own := [("thing", 2)]) (N := nLess) (sc := defScope sLess) (by decide +kernel)) (fun _ _ _ _ _ => (g_name (i := 2) scLess.nd rfl (by walk_at "zM") rfl)) (fun _ _ _ _ _ => (pts_one (bt_cmp or_notin od_notin (be_o (be_var (i := 2) rfl (by walk_at "zL") rfl)) (be_o (be_var (i := 1) rfl (by walk_at "zL") rfl)) (by rfl)))) (fun _ _ _ _ _ => (be_var (i := 2) rfl (by walk_at "zL") rfl)) rfl rfl))) bo_nil))))
theorem okr_WithT (F : FnS K "with_thing" "with_thing" sWithT f fd) (B : Bl mg) : FnOk P w K mg base (L2.CX P w) 1 f fd ["lot", "thing"] (spOf (T1 K) 0 2 (fnD 0 nWithT.length 2 r_WithT)) := by
  refine ok_fn (On := []) F scWithT fun cdv A outer s H E hr tk => ?_
  exact (ss_one (s_ret (be_bt call_tuple_of cd_tuple (by rfl) B.tuple (by decide +kernel) (bo_cons (be_o (be_f (bf_bf cr_sortedD cd_sorted (by rfl) B.sorted (by decide +kernel) (bo_cons (be_o (be_f (bf_lstV (av_star (be_o (be_var (i := 0) rfl (by walk_at "zL") rfl)) (av_cons (be_var (i := 1) rfl (by walk_at "zL") rfl) av_nil))))) bo_nil)))) bo_nil))))
theorem okr_WMarks (F : FnS K "marks" "Web.marks" sWMarks f fd) (B : Bl mg) (T_Web : ClsT K "Web" ["known", "ending"]) : FnOk P w K mg base (L2.CX P w) 1 f fd ["self", "lot"] (spOf (T1 K) 1 2 (fnD 1 nWMarks.length 2 r_WMarks)) := by
  refine ok_fn (On := []) F scWMarks fun cdv A outer s H E hr tk => ?_
  have hu := hu_of hr
  exact (ss_cons (s_setDcO (i := 2) (own := [("place", 8)]) (is := [8]) (by rfl) scWMarks.nd rfl rfl (sw_trueD rfl rfl rfl (by decide +kernel)) (i_io (i_tup (be_fld (c := "Web") T_Web.cl (T_Web.nF "known" (by decide)) (be_o (be_var (i := 0) rfl (by walk_at "zL") rfl)) rfl))) (blkOk_by (own := [("place", 8)]) (N := nWMarks) (sc := defScope sWMarks) (by decide +kernel)) (fun _ _ _ _ _ => (g_name (i := 8) scWMarks.nd rfl (by walk_at "zM") rfl)) (fun _ _ _ _ _ => (be_var (i := 8) rfl (by walk_at "zL") rfl)) (fun _ _ _ _ _ => (be_var (i := 8) rfl (by walk_at "zL") rfl)) rfl rfl rfl)
    (ss_cons (s_for (passes_of rfl) (by rfl) (i_tup (be_var (i := 1) rfl (by walk_at "zL") rfl)) (g_name (i := 3) scWMarks.nd rfl (by walk_at "zM") rfl) rfl
    (ss_cons (s_par (i := 4) (j := 5) (by rfl) scWMarks.nd rfl rfl (by decide) rfl rfl rfl rfl (ba_cons (be_dget hu (bo_var (i := 2) rfl (by walk_at "zL") rfl) (be_ix ix_seq od_ix (be_o (be_dget hu (be_o (be_fld (c := "Web") T_Web.cl (T_Web.nF "ending" (by decide)) (be_o (be_var (i := 0) rfl (by walk_at "zL") rfl)) rfl)) (be_var (i := 3) rfl (by walk_at "zL") rfl) (fun _ _ => rfl))) (be_o be_int) (fun _ _ => rfl)) (fun _ _ => rfl)) (ba_cons (be_dget hu (bo_var (i := 2) rfl (by walk_at "zL") rfl) (be_ix ix_seq od_ix (be_o (be_dget hu (be_o (be_fld (c := "Web") T_Web.cl (T_Web.nF "ending" (by decide)) (be_o (be_var (i := 0) rfl (by walk_at "zL") rfl)) rfl)) (be_var (i := 3) rfl (by walk_at "zL") rfl) (fun _ _ => rfl))) (be_o be_int) (fun _ _ => rfl)) (fun _ _ => rfl)) ba_nil)) (by first | rfl | kernel_rfl))
    (ss_one (s_if (bt_cmp (op_neD hr.units) od_ne (be_o (be_var (i := 4) rfl (by walk_at "zL") rfl)) (be_o (be_var (i := 5) rfl (by walk_at "zL") rfl)) (nomark _))
    (ss_cons (s_par (i := 6) (j := 7) (by rfl) scWMarks.nd rfl rfl (by decide) rfl rfl rfl rfl (ba_cons (be_bf (Bs.cr_min2S rfl) cd_min2S (by rfl) B.min (by decide +kernel) (bo_cons (be_o (be_var (i := 4) rfl (by walk_at "zL") rfl)) (bo_cons (be_o (be_var (i := 5) rfl (by walk_at "zL") rfl)) bo_nil))) (ba_cons (be_bf (Bs.cr_max2S rfl) cd_max2S (by rfl) B.max (by decide +kernel) (bo_cons (be_o (be_var (i := 4) rfl (by walk_at "zL") rfl)) (bo_cons (be_o (be_var (i := 5) rfl (by walk_at "zL") rfl)) bo_nil))) ba_nil)) (by first | rfl | kernel_rfl))
    (ss_one (s_for (passes_of rfl) (by rfl) (i_tup (be_fld (c := "Web") T_Web.cl (T_Web.nF "known" (by decide)) (be_o (be_var (i := 0) rfl (by walk_at "zL") rfl)) rfl)) (g_name (i := 8) scWMarks.nd rfl (by walk_at "zM") rfl) rfl
    (ss_one (s_if (bt_cmp (op_eqD hr.units) od_eq (be_o (be_dget hu (bo_var (i := 2) rfl (by walk_at "zL") rfl) (be_var (i := 8) rfl (by walk_at "zL") rfl) (fun _ _ => rfl))) (be_o (be_var (i := 7) rfl (by walk_at "zL") rfl)) (nomark _))
    (ss_one (s_put hu (i := 2) rfl (by walk_at "zL") rfl (be_var (i := 8) rfl (by walk_at "zL") rfl) (be_var (i := 6) rfl (by walk_at "zL") rfl)))
    ss_nil)))))
    ss_nil))))
    (ss_one (s_retO (i := 2) rfl (by walk_at "zL") rfl))))
theorem okr_WCount (F : FnS K "count_free" "Web.count_free" sWCount f fd) (B : Bl mg) (T_Web : ClsT K "Web" ["known", "ending"]) (m_Web_marks : MtD P w (T1 K) mg base 1 "Web" "marks" 2 1 F_WMarks) : FnOk P w K mg base (L2.CX P w) 2 f fd ["self", "lot"] (spOf (T1 K) 0 2 (fnD 0 nWCount.length 2 r_WCount)) := by
  refine ok_fn (On := []) F scWCount fun cdv A outer s H E hr tk => ?_
  have hu := hu_of hr
  exact (ss_cons (s_set (i := 2) scWCount.nd rfl (by walk_at "zM") rfl (be_meth m_Web_marks (hr.mono (by decide)) tk (be_var (i := 0) rfl (by walk_at "zL") rfl) (ba_cons (be_var (i := 1) rfl (by walk_at "zL") rfl) ba_nil)))
    (ss_one (s_ret (be_bf call_len cd_len (by rfl) B.len (by decide +kernel) (bo_cons (be_o (be_f (bf_lc (own := [("place", 3)]) (is := [3]) (by rfl) scWCount.nd (i_io (i_tup (be_fld (c := "Web") T_Web.cl (T_Web.nF "known" (by decide)) (be_o (be_var (i := 0) rfl (by walk_at "zL") rfl)) rfl))) (blkOk_by (own := [("place", 3)]) (N := nWCount) (sc := defScope sWCount) (by decide +kernel)) (fun _ _ _ _ _ => (g_name (i := 3) scWCount.nd rfl (by walk_at "zM") rfl)) (fun _ _ _ _ _ => (pts_one (bt_cmp (op_neD hr.units) od_ne (be_o (be_dget hu (be_o (be_var (i := 2) rfl (by walk_at "zL") rfl)) (be_var (i := 3) rfl (by walk_at "zL") rfl) (fun _ _ => rfl))) (be_o (be_var (i := 3) rfl (by walk_at "zL") rfl)) (nomark _)))) (fun _ _ _ _ _ => (be_var (i := 3) rfl (by walk_at "zL") rfl)) rfl rfl))) bo_nil)))))
theorem okr_DrInit (F : FnS K "__init__" "Drawn.__init__" sDrInit f fd) (T_Drawn : ClsT K "Drawn" ["inner", "lot"]) : FnOk P w K mg base (L2.CX P w) 1 f fd ["self", "family", "lot"] (spIni (T1 K) "Drawn" 2 (iniD "Drawn" nDrInit.length 2 r_DrInit)) := by
  refine ok_ini F scDrInit (by decide) rfl fun cdv A outer s H E hr tk => ?_
  exact (ss_cons (s_fld (i := 0) (c := "Drawn") rfl (by walk_at "zL") rfl T_Drawn.cl (T_Drawn.nF "inner" (by decide)) T_Drawn.nfam (be_var (i := 1) rfl (by walk_at "zL") rfl))
    (ss_one (s_fld (i := 0) (c := "Drawn") rfl (by walk_at "zL") rfl T_Drawn.cl (T_Drawn.nF "lot" (by decide)) T_Drawn.nfam (be_var (i := 2) rfl (by walk_at "zL") rfl))))
theorem okr_JoInit (F : FnS K "__init__" "Joined.__init__" sJoInit f fd) (T_Joined : ClsT K "Joined" ["first", "second"]) : FnOk P w K mg base (L2.CX P w) 1 f fd ["self", "first", "second"] (spIni (T1 K) "Joined" 2 (iniD "Joined" nJoInit.length 2 r_JoInit)) := by
  refine ok_ini F scJoInit (by decide) rfl fun cdv A outer s H E hr tk => ?_
  exact (ss_cons (s_fld (i := 0) (c := "Joined") rfl (by walk_at "zL") rfl T_Joined.cl (T_Joined.nF "first" (by decide)) T_Joined.nfam (be_var (i := 1) rfl (by walk_at "zL") rfl))
    (ss_one (s_fld (i := 0) (c := "Joined") rfl (by walk_at "zL") rfl T_Joined.cl (T_Joined.nF "second" (by decide)) T_Joined.nfam (be_var (i := 2) rfl (by walk_at "zL") rfl))))
theorem okr_FHas (F : FnS K "__contains__" "Family.__contains__" sFHas f fd) (T_Family : ClsF K "Family" ["names", "source", "counted"]) : FnOk P w K mg base (L2.CX P w) 1 f fd ["self", "thing"] (spOf (T1 K) 0 2 (fnD 0 nFHas.length 2 r_FHas)) := by
  refine ok_fn (On := []) F scFHas fun cdv A outer s H E hr tk => ?_
  exact (ss_one (s_ret (be_cmp or_in od_in (be_o (be_var (i := 1) rfl (by walk_at "zL") rfl)) (be_o (be_famN T_Family.cl (T_Family.nF "names" (by decide)) (be_var (i := 0) rfl (by walk_at "zL") rfl) rfl)) (by rfl))))
theorem okr_DrCount {F_RankI : DF} {kl : Nat} (F : FnS K "count_free" "Drawn.count_free" sDrCount f fd) (B : Bl mg) (T_Drawn : ClsT K "Drawn" ["inner", "lot"]) (m_Family_rank_of : MtD P w (T1 K) mg base (kl + 1) "Family" "rank_of" 2 0 F_RankI) : FnOk P w K mg base (L2.CX P w) (kl + 2) f fd ["self", "lot"] (spOf (T1 K) 0 2 (fnD 0 nDrCount.length 2 (r_DrCount F_RankI))) := by
  refine ok_fn (On := []) F scDrCount fun cdv A outer s H E hr tk => ?_
  exact (ss_one (s_ret (be_op op_sub od_sub (be_o (be_methF m_Family_rank_of (hr.mono (by omega)) tk (be_fld (c := "Drawn") T_Drawn.cl (T_Drawn.nF "inner" (by decide)) (be_o (be_var (i := 0) rfl (by walk_at "zL") rfl)) rfl) (ba_cons (be_bt call_tuple_of cd_tuple (by rfl) B.tuple (by decide +kernel) (bo_cons (be_o (be_f (bf_bf cr_sortedD cd_sorted (by rfl) B.sorted (by decide +kernel) (bo_cons (be_o (be_f (bf_lstV (av_star (be_o (be_var (i := 1) rfl (by walk_at "zL") rfl)) (av_star (be_o (be_fld (c := "Drawn") T_Drawn.cl (T_Drawn.nF "lot" (by decide)) (be_o (be_var (i := 0) rfl (by walk_at "zL") rfl)) rfl)) av_nil))))) bo_nil)))) bo_nil)) ba_nil))) (be_o (be_methF m_Family_rank_of (hr.mono (by omega)) tk (be_fld (c := "Drawn") T_Drawn.cl (T_Drawn.nF "inner" (by decide)) (be_o (be_var (i := 0) rfl (by walk_at "zL") rfl)) rfl) (ba_cons (be_fld (c := "Drawn") T_Drawn.cl (T_Drawn.nF "lot" (by decide)) (be_o (be_var (i := 0) rfl (by walk_at "zL") rfl)) rfl) ba_nil))))))
theorem okr_JoCount {F_RankI : DF} {kl : Nat} (F : FnS K "count_free" "Joined.count_free" sJoCount f fd) (B : Bl mg) (T_Joined : ClsT K "Joined" ["first", "second"]) (m_Family___contains__ : MtD P w (T1 K) mg base 1 "Family" "__contains__" 2 0 F_FHas) (m_Family_rank_of : MtD P w (T1 K) mg base (kl + 1) "Family" "rank_of" 2 0 F_RankI) : FnOk P w K mg base (L2.CX P w) (kl + 2) f fd ["self", "lot"] (spOf (T1 K) 0 2 (fnD 0 nJoCount.length 2 (r_JoCount F_RankI))) := by
  refine ok_fn (On := []) F scJoCount fun cdv A outer s H E hr tk => ?_
  exact (ss_cons (s_set (i := 2) scJoCount.nd rfl (by walk_at "zM") rfl be_int)
    (ss_cons (s_for (passes_of rfl) (by rfl) (i_tup (be_tup (ba_cons (be_fld (c := "Joined") T_Joined.cl (T_Joined.nF "first" (by decide)) (be_o (be_var (i := 0) rfl (by walk_at "zL") rfl)) rfl) (ba_cons (be_fld (c := "Joined") T_Joined.cl (T_Joined.nF "second" (by decide)) (be_o (be_var (i := 0) rfl (by walk_at "zL") rfl)) rfl) ba_nil)))) (g_name (i := 3) scJoCount.nd rfl (by walk_at "zM") rfl) rfl
    (ss_one (s_aug (i := 2) scJoCount.nd rfl (by walk_at "zM") rfl rfl (be_methF m_Family_rank_of (hr.mono (by omega)) tk (be_var (i := 3) rfl (by walk_at "zL") rfl) (ba_cons (be_bt call_tuple_of cd_tuple (by rfl) B.tuple (by decide +kernel) (bo_cons (be_o (be_f (bf_lc (own := [("thing", 4)]) (is := [4]) (by rfl) scJoCount.nd (i_io (i_tup (be_var (i := 1) rfl (by walk_at "zL") rfl))) (blkOk_by (own := [("thing", 4)]) (N := nJoCount) (sc := defScope sJoCount) (by decide +kernel)) (fun _ _ _ _ _ => (g_name (i := 4) scJoCount.nd rfl (by walk_at "zM") rfl)) (fun _ _ _ _ _ => (pts_one (bt_has m_Family___contains__ (hr.mono (by omega)) (be_var (i := 4) rfl (by walk_at "zL") rfl) (be_var (i := 3) rfl (by walk_at "zL") rfl) (by rfl)))) (fun _ _ _ _ _ => (be_var (i := 4) rfl (by walk_at "zL") rfl)) rfl rfl))) bo_nil)) ba_nil)))))
    (ss_one (s_ret (be_var (i := 2) rfl (by walk_at "zL") rfl)))))
end
end L11
namespace L11
open PySem PySem.Spec PyProof.Rows L2 Evl Bf Dz
section
variable {P : Program} {w : World} {K : PySem.W.Frag} {mg : Str → Option Value} {base : Heap} {f : Addr} {fd : FuncData} {T : Th K}
theorem okr_FThings (F : FnS K "things" "Family.things" sFThings f fd) (B : Bl mg) (T_Family : ClsF K "Family" ["names", "source", "counted"]) : FnOk P w K mg base (L2.CX P w) 1 f fd ["self"] (spOf (T1 K) 1 1 (fnD 1 nFThings.length 1 r_FThings)) := by
  refine ok_fn (On := []) F scFThings fun cdv A outer s H E hr tk => ?_
  exact (ss_one (s_retF (bf_bt call_list_of cd_list (by rfl) B.list (by decide +kernel) (bo_cons (be_o (be_famN T_Family.cl (T_Family.nF "names" (by decide)) (be_var (i := 0) rfl (by walk_at "zL") rfl) rfl)) bo_nil))))
theorem okr_FLen (F : FnS K "__len__" "Family.__len__" sFLen f fd) (B : Bl mg) (T_Family : ClsF K "Family" ["names", "source", "counted"]) : FnOk P w K mg base (L2.CX P w) 1 f fd ["self"] (spOf (T1 K) 0 1 (fnD 0 nFLen.length 1 r_FLen)) := by
  refine ok_fn (On := []) F scFLen fun cdv A outer s H E hr tk => ?_
  exact (ss_one (s_ret (be_bf call_len cd_len (by rfl) B.len (by decide +kernel) (bo_cons (be_o (be_famN T_Family.cl (T_Family.nF "names" (by decide)) (be_var (i := 0) rfl (by walk_at "zL") rfl) rfl)) bo_nil))))
theorem okr_FRank (F : FnS K "rank" "Family.rank" sFRank f fd) (f_need_lot : Fn P w (T1 K) mg base 3 "need_lot" ["known", "lot"] 0 F_NLot) (T_Family : ClsF K "Family" ["names", "source", "counted"]) (m_Family_rank_of : MtD P w (T1 K) mg base 12 "Family" "rank_of" 2 0 F_RankN) : FnOk P w K mg base (L2.CX P w) 13 f fd ["self", "lot"] (spOf (T1 K) 0 2 (fnD 0 nFRank.length 2 r_FRank)) := by
  refine ok_fn (On := []) F scFRank fun cdv A outer s H E hr tk => ?_
  exact (ss_one (s_ret (be_methF m_Family_rank_of (hr.mono (by decide)) tk (be_var (i := 0) rfl (by walk_at "zL") rfl) (ba_cons (be_fn f_need_lot (hr.mono (by decide)) tk (ba_cons (be_famN T_Family.cl (T_Family.nF "names" (by decide)) (be_var (i := 0) rfl (by walk_at "zL") rfl) rfl) (ba_cons (be_var (i := 1) rfl (by walk_at "zL") rfl) ba_nil))) ba_nil))))
theorem okr_FStuck (F : FnS K "stuck" "Family.stuck" sFStuck f fd) (T_Family : ClsF K "Family" ["names", "source", "counted"]) (m_Family_rank_of : MtD P w (T1 K) mg base 12 "Family" "rank_of" 2 0 F_RankN) : FnOk P w K mg base (L2.CX P w) 13 f fd ["self"] (spOf (T1 K) 1 1 (fnD 1 nFStuck.length 1 r_FStuck)) := by
  refine ok_fn (On := []) F scFStuck fun cdv A outer s H E hr tk => ?_
  exact (ss_one (s_retF (bf_lc (own := [("thing", 1)]) (is := [1]) (by rfl) scFStuck.nd (i_io (i_tup (be_famN T_Family.cl (T_Family.nF "names" (by decide)) (be_var (i := 0) rfl (by walk_at "zL") rfl) rfl))) (blkOk_by (own := [("thing", 1)]) (N := nFStuck) (sc := defScope sFStuck) (by decide +kernel)) (fun _ _ _ _ _ => (g_name (i := 1) scFStuck.nd rfl (by walk_at "zM") rfl)) (fun _ _ _ _ _ => (pts_one (bt_cmp (op_eqD hr.units) od_eq (be_o (be_methF m_Family_rank_of (hr.mono (by decide)) takes0 (be_var (i := 0) rfl (by walk_at "zL") rfl) (ba_cons (be_tup (ba_cons (be_var (i := 1) rfl (by walk_at "zL") rfl) ba_nil)) ba_nil))) (be_o be_int) (nomark _)))) (fun _ _ _ _ _ => (be_var (i := 1) rfl (by walk_at "zL") rfl)) rfl rfl)))
theorem okr_NAlike (F : FnS K "need_alike" "need_alike" sNAlike f fd) (x0_UnlikeThings : Ex0T K mg "UnlikeThings") (m_Family_things : MtD P w (T1 K) mg base 1 "Family" "things" 1 1 F_FThings) : FnOk P w K mg base (L2.CX P w) 3 f fd ["one", "other"] (spOf (T1 K) 0 2 (fnD 0 nNAlike.length 2 r_NAlike)) := by
  refine ok_fn (On := []) F scNAlike fun cdv A outer s H E hr tk => ?_
  exact (ss_one (s_if (bt_cmp (op_neD hr.units) od_ne (be_o (be_f (bf_meth0F m_Family_things (hr.mono (by decide)) tk (be_var (i := 0) rfl (by walk_at "zL") rfl)))) (be_o (be_f (bf_meth0F m_Family_things (hr.mono (by decide)) tk (be_var (i := 1) rfl (by walk_at "zL") rfl)))) (nomark _))
    (ss_one (s_raise0 x0_UnlikeThings (by rfl) tk))
    ss_nil))
theorem okr_NFew (F : FnS K "need_few" "need_few" sNFew f fd) (B : Bl mg) (c_MOST_LISTED : ∃ t, mg "MOST_LISTED" = some (.int 12 t)) (x_TooMany : ExT P w K mg base "TooMany" "limit" (He.ga K "TooMany")) (m_Family___len__ : MtD P w (T1 K) mg base 1 "Family" "__len__" 1 0 F_FLen) : FnOk P w K mg base (L2.CX P w) 3 f fd ["family"] (spOf (T1 K) 0 1 (fnD 0 nNFew.length 1 r_NFew)) := by
  refine ok_fn (On := []) F scNFew fun cdv A outer s H E hr tk => ?_
  exact (ss_one (s_if (bt_cmp or_gt od_gt (be_o (be_lenF m_Family___len__ (hr.mono (by decide)) (by rfl) B.len (be_var (i := 0) rfl (by walk_at "zL") rfl))) (be_o (be_gi c_MOST_LISTED)) (nomark _))
    (ss_one (s_raise x_TooMany (by rfl) tk (hr.mono (by decide)) (be_gi c_MOST_LISTED)))
    ss_nil))
end
end L11
namespace L11
open PySem PySem.Spec PyProof.Rows L2 Evl Bf Dz
section
variable {P : Program} {w : World} {K : PySem.W.Frag} {mg : Str → Option Value} {base : Heap} {f : Addr} {fd : FuncData} {T : Th K}
theorem okr_LotsOf (F : FnS K "lots_of" "lots_of" sLotsOf f fd) (B : Bl mg) : FnOk P w K mg base (L2.CX P w) 1 f fd ["things", "many"] (spOf (T1 K) 0 2 (fnD 0 nLotsOf.length 2 r_LotsOf)) := by
  refine ok_fn (On := []) F scLotsOf fun cdv A outer s H E hr tk => ?_
  exact (ss_cons (s_set (i := 2) scLotsOf.nd rfl (by walk_at "zM") rfl (be_f (bf_lst (ba_cons (be_tup ba_nil) ba_nil))))
    (ss_cons (s_for (passes_of rfl) (by rfl) (i_range1 (by rfl) B.range (be_var (i := 1) rfl (by walk_at "zL") rfl)) (g_name (i := 3) scLotsOf.nd rfl (by walk_at "zM") rfl) rfl
    (ss_one (s_setLc2 (i := 2) (own := [("lot", 4), ("thing", 5)]) (is := [4]) (is1 := [5]) (vs1 := [5]) (by rfl) scLotsOf.nd rfl rfl (sw_true rfl rfl rfl (by decide +kernel)) (i_io (i_list (be_var (i := 2) rfl (by walk_at "zL") rfl))) (blkOk_by (own := [("lot", 4), ("thing", 5)]) (N := nLotsOf) (sc := defScope sLotsOf) (by decide +kernel)) (fun _ _ _ _ _ => (g_name (i := 4) scLotsOf.nd rfl (by walk_at "zM") rfl)) (fun _ _ _ _ _ => pts0) (fun _ _ _ _ _ => (i_tup (be_var (i := 0) rfl (by walk_at "zL") rfl))) (fun _ _ _ _ _ => (g_name (i := 5) scLotsOf.nd rfl (by walk_at "zM") rfl)) (fun _ _ _ _ _ => (pts_one (PW.pt (bw_or (bt_cmp (op_eqD hr.units) od_eq (be_o (be_var (i := 4) rfl (by walk_at "zL") rfl)) (be_o (be_tup ba_nil)) (nomark _)) (bw_or1 (bt_cmp or_gt od_gt (be_o (be_var (i := 5) rfl (by walk_at "zL") rfl)) (be_o (be_ix ix_seq od_ix (be_o (be_var (i := 4) rfl (by walk_at "zL") rfl)) (be_o (be_neg be_int)) (fun _ _ => rfl))) (nomark _))))))) (fun _ _ _ _ _ => (be_tupV (av_star (be_o (be_var (i := 4) rfl (by walk_at "zL") rfl)) (av_cons (be_var (i := 5) rfl (by walk_at "zL") rfl) av_nil)))) rfl rfl rfl rfl rfl)))
    (ss_one (s_ret (be_var (i := 2) rfl (by walk_at "zL") rfl)))))
theorem okr_Alike (F : FnS K "alike" "alike" sAlike f fd) (B : Bl mg) (f_lots_of : Fn P w (T1 K) mg base 1 "lots_of" ["things", "many"] 0 F_LotsOf) (f_need_alike : Fn P w (T1 K) mg base 3 "need_alike" ["one", "other"] 0 F_NAlike) (f_need_few : Fn P w (T1 K) mg base 3 "need_few" ["family"] 0 F_NFew) (T_Family : ClsF K "Family" ["names", "source", "counted"]) (m_Family___len__ : MtD P w (T1 K) mg base 1 "Family" "__len__" 1 0 F_FLen) (m_Family_rank_of : MtD P w (T1 K) mg base 12 "Family" "rank_of" 2 0 F_RankN) : FnOk P w K mg base (L2.CX P w) 14 f fd ["one", "other"] (spOf (T1 K) 0 2 (fnD 0 nAlike.length 2 r_Alike)) := by
  refine ok_fn (On := []) F scAlike fun cdv A outer s H E hr tk => ?_
  exact (ss_cons (s_expr (be_fn f_need_alike (hr.mono (by decide)) tk (ba_cons (be_var (i := 0) rfl (by walk_at "zL") rfl) (ba_cons (be_var (i := 1) rfl (by walk_at "zL") rfl) ba_nil))))
    (ss_cons (s_expr (be_fn f_need_few (hr.mono (by decide)) tk (ba_cons (be_var (i := 0) rfl (by walk_at "zL") rfl) ba_nil)))
    (ss_cons (s_for (passes_of rfl) (by rfl) (i_range1 (by rfl) B.range (be_op or_add od_add (be_o (be_lenF m_Family___len__ (hr.mono (by decide)) (by rfl) B.len (be_var (i := 0) rfl (by walk_at "zL") rfl))) (be_o be_int))) (g_name (i := 2) scAlike.nd rfl (by walk_at "zM") rfl) rfl
    (ss_one (s_for (passes_of rfl) (by rfl) (i_list (be_fn f_lots_of (hr.mono (by decide)) tk (ba_cons (be_famN T_Family.cl (T_Family.nF "names" (by decide)) (be_var (i := 0) rfl (by walk_at "zL") rfl) rfl) (ba_cons (be_var (i := 2) rfl (by walk_at "zL") rfl) ba_nil)))) (g_name (i := 3) scAlike.nd rfl (by walk_at "zM") rfl) rfl
    (ss_one (s_if (bt_cmp (op_neD hr.units) od_ne (be_o (be_cmp (op_eqD hr.units) od_eq (be_o (be_methF m_Family_rank_of (hr.mono (by decide)) tk (be_var (i := 0) rfl (by walk_at "zL") rfl) (ba_cons (be_var (i := 3) rfl (by walk_at "zL") rfl) ba_nil))) (be_o (be_var (i := 2) rfl (by walk_at "zL") rfl)) (nomark _))) (be_o (be_cmp (op_eqD hr.units) od_eq (be_o (be_methF m_Family_rank_of (hr.mono (by decide)) tk (be_var (i := 1) rfl (by walk_at "zL") rfl) (ba_cons (be_var (i := 3) rfl (by walk_at "zL") rfl) ba_nil))) (be_o (be_var (i := 2) rfl (by walk_at "zL") rfl)) (nomark _))) (nomark _))
    (ss_one (s_ret (be_f (bf_bt call_list_of cd_list (by rfl) B.list (by decide +kernel) (bo_cons (be_o (be_var (i := 3) rfl (by walk_at "zL") rfl)) bo_nil)))))
    ss_nil)))))
    (ss_one (s_ret be_non)))))
theorem okr_Inside (F : FnS K "inside" "inside" sInside f fd) (f_need_lot : Fn P w (T1 K) mg base 3 "need_lot" ["known", "lot"] 0 F_NLot) (T_Family : ClsF K "Family" ["names", "source", "counted"]) (m_Drawn : MkD P w (T1 K) mg base 1 "Drawn" 2 F_DrInit) (m_Family : MkF P w K mg base 1 F_FInit) : FnOk P w K mg base (L2.CX P w) 4 f fd ["family", "lot"] (spOf (T1 K) 0 2 (fnD 0 nInside.length 2 r_Inside)) := by
  refine ok_fn (On := []) F scInside fun cdv A outer s H E hr tk => ?_
  exact (ss_one (s_ret (be_mkF m_Family (hr.mono (by decide)) tk (ba_cons (be_fn f_need_lot (hr.mono (by decide)) tk (ba_cons (be_famN T_Family.cl (T_Family.nF "names" (by decide)) (be_var (i := 0) rfl (by walk_at "zL") rfl) rfl) (ba_cons (be_var (i := 1) rfl (by walk_at "zL") rfl) ba_nil))) (ba_cons (be_f (bf_mk m_Drawn i_DrInit (hr.mono (by decide)) tk (ba_cons (be_var (i := 0) rfl (by walk_at "zL") rfl) (ba_cons (be_tup ba_nil) ba_nil)))) ba_nil)))))
theorem okr_Without (F : FnS K "without" "without" sWithout f fd) (f_less : Fn P w (T1 K) mg base 1 "less" ["lot", "gone"] 0 F_Less) (f_need_lot : Fn P w (T1 K) mg base 3 "need_lot" ["known", "lot"] 0 F_NLot) (T_Family : ClsF K "Family" ["names", "source", "counted"]) (m_Drawn : MkD P w (T1 K) mg base 1 "Drawn" 2 F_DrInit) (m_Family : MkF P w K mg base 1 F_FInit) : FnOk P w K mg base (L2.CX P w) 4 f fd ["family", "lot"] (spOf (T1 K) 0 2 (fnD 0 nWithout.length 2 r_Without)) := by
  refine ok_fn (On := []) F scWithout fun cdv A outer s H E hr tk => ?_
  exact (ss_one (s_ret (be_mkF m_Family (hr.mono (by decide)) tk (ba_cons (be_fn f_less (hr.mono (by decide)) tk (ba_cons (be_famN T_Family.cl (T_Family.nF "names" (by decide)) (be_var (i := 0) rfl (by walk_at "zL") rfl) rfl) (ba_cons (be_fn f_need_lot (hr.mono (by decide)) tk (ba_cons (be_famN T_Family.cl (T_Family.nF "names" (by decide)) (be_var (i := 0) rfl (by walk_at "zL") rfl) rfl) (ba_cons (be_var (i := 1) rfl (by walk_at "zL") rfl) ba_nil))) ba_nil))) (ba_cons (be_f (bf_mk m_Drawn i_DrInit (hr.mono (by decide)) tk (ba_cons (be_var (i := 0) rfl (by walk_at "zL") rfl) (ba_cons (be_tup ba_nil) ba_nil)))) ba_nil)))))
theorem okr_DrawnIn (F : FnS K "drawn_in" "drawn_in" sDrawnIn f fd) (f_less : Fn P w (T1 K) mg base 1 "less" ["lot", "gone"] 0 F_Less) (f_need_lot : Fn P w (T1 K) mg base 3 "need_lot" ["known", "lot"] 0 F_NLot) (T_Family : ClsF K "Family" ["names", "source", "counted"]) (m_Drawn : MkD P w (T1 K) mg base 1 "Drawn" 2 F_DrInit) (m_Family : MkF P w K mg base 1 F_FInit) : FnOk P w K mg base (L2.CX P w) 4 f fd ["family", "lot"] (spOf (T1 K) 0 2 (fnD 0 nDrawnIn.length 2 r_DrawnIn)) := by
  refine ok_fn (On := []) F scDrawnIn fun cdv A outer s H E hr tk => ?_
  exact (ss_cons (s_set (i := 2) scDrawnIn.nd rfl (by walk_at "zM") rfl (be_fn f_need_lot (hr.mono (by decide)) tk (ba_cons (be_famN T_Family.cl (T_Family.nF "names" (by decide)) (be_var (i := 0) rfl (by walk_at "zL") rfl) rfl) (ba_cons (be_var (i := 1) rfl (by walk_at "zL") rfl) ba_nil))))
    (ss_one (s_ret (be_mkF m_Family (hr.mono (by decide)) tk (ba_cons (be_fn f_less (hr.mono (by decide)) tk (ba_cons (be_famN T_Family.cl (T_Family.nF "names" (by decide)) (be_var (i := 0) rfl (by walk_at "zL") rfl) rfl) (ba_cons (be_var (i := 2) rfl (by walk_at "zL") rfl) ba_nil))) (ba_cons (be_f (bf_mk m_Drawn i_DrInit (hr.mono (by decide)) tk (ba_cons (be_var (i := 0) rfl (by walk_at "zL") rfl) (ba_cons (be_var (i := 2) rfl (by walk_at "zL") rfl) ba_nil)))) ba_nil))))))
theorem okr_JoinedF (F : FnS K "joined" "joined" sJoinedF f fd) (B : Bl mg) (c_MOST_THINGS : ∃ t, mg "MOST_THINGS" = some (.int 24 t)) (x_SameThing : ExT P w K mg base "SameThing" "thing" (He.ga K "SameThing")) (x_TooMany : ExT P w K mg base "TooMany" "limit" (He.ga K "TooMany")) (T_Family : ClsF K "Family" ["names", "source", "counted"]) (m_Family : MkF P w K mg base 1 F_FInit) (m_Family___contains__ : MtD P w (T1 K) mg base 1 "Family" "__contains__" 2 0 F_FHas) (m_Family___len__ : MtD P w (T1 K) mg base 1 "Family" "__len__" 1 0 F_FLen) (m_Joined : MkD P w (T1 K) mg base 1 "Joined" 2 F_JoInit) : FnOk P w K mg base (L2.CX P w) 4 f fd ["one", "other"] (spOf (T1 K) 0 2 (fnD 0 nJoinedF.length 2 r_JoinedF)) := by
  refine ok_fn (On := []) F scJoinedF fun cdv A outer s H E hr tk => ?_
  exact (ss_cons (s_for (passes_of rfl) (by rfl) (i_tup (be_famN T_Family.cl (T_Family.nF "names" (by decide)) (be_var (i := 0) rfl (by walk_at "zL") rfl) rfl)) (g_name (i := 2) scJoinedF.nd rfl (by walk_at "zM") rfl) rfl
    (ss_one (s_if (bt_has m_Family___contains__ (hr.mono (by decide)) (be_var (i := 2) rfl (by walk_at "zL") rfl) (be_var (i := 1) rfl (by walk_at "zL") rfl) (by rfl))
    (ss_one (s_raise x_SameThing (by rfl) tk (hr.mono (by decide)) (be_var (i := 2) rfl (by walk_at "zL") rfl)))
    ss_nil)))
    (ss_cons (s_if (bt_cmp or_gt od_gt (be_o (be_op or_add od_add (be_o (be_lenF m_Family___len__ (hr.mono (by decide)) (by rfl) B.len (be_var (i := 0) rfl (by walk_at "zL") rfl))) (be_o (be_lenF m_Family___len__ (hr.mono (by decide)) (by rfl) B.len (be_var (i := 1) rfl (by walk_at "zL") rfl))))) (be_o (be_gi c_MOST_THINGS)) (nomark _))
    (ss_one (s_raise x_TooMany (by rfl) tk (hr.mono (by decide)) (be_gi c_MOST_THINGS)))
    ss_nil)
    (ss_one (s_ret (be_mkF m_Family (hr.mono (by decide)) tk (ba_cons (be_f (bf_bf cr_sortedD cd_sorted (by rfl) B.sorted (by decide +kernel) (bo_cons (be_o (be_f (bf_lstV (av_star (be_o (be_famN T_Family.cl (T_Family.nF "names" (by decide)) (be_var (i := 0) rfl (by walk_at "zL") rfl) rfl)) (av_star (be_o (be_famN T_Family.cl (T_Family.nF "names" (by decide)) (be_var (i := 1) rfl (by walk_at "zL") rfl) rfl)) av_nil))))) bo_nil))) (ba_cons (be_f (bf_mk m_Joined i_JoInit (hr.mono (by decide)) tk (ba_cons (be_var (i := 0) rfl (by walk_at "zL") rfl) (ba_cons (be_var (i := 1) rfl (by walk_at "zL") rfl) ba_nil)))) ba_nil)))))))
end
end L11
namespace L11
open PySem PySem.Spec PyProof.Rows L2 Evl Bf Dz
section
variable {P : Program} {w : World} {K : PySem.W.Frag} {mg : Str → Option Value} {base : Heap} {f : Addr} {fd : FuncData} {T : Th K}
theorem okr_NPlaces (F : FnS K "need_places" "need_places" sNPlaces f fd) (B : Bl mg) (c_MOST_PLACES : ∃ t, mg "MOST_PLACES" = some (.int 16 t)) (f_is_name : Fn P w (T1 K) mg base 1 "is_name" ["thing"] 0 F_IsName) (x_BadPlaces : ExT P w K mg base "BadPlaces" "index" (He.ga K "BadPlaces")) : FnOk P w K mg base (L2.CX P w) 3 f fd ["places"] (spOf (T1 K) 0 1 (fnD 0 nNPlaces.length 1 r_NPlaces)) := by
  refine ok_fn (On := []) F scNPlaces fun cdv A outer s H E hr tk => ?_
  exact (ss_cons (s_if (bt_not (bt_chain or_le od_le or_le od_le (be_o be_int) (be_o (be_bf call_len cd_len (by rfl) B.len (by decide +kernel) (bo_cons (be_o (be_var (i := 0) rfl (by walk_at "zL") rfl)) bo_nil))) (be_o (be_gi c_MOST_PLACES))))
    (ss_one (s_raise x_BadPlaces (by rfl) tk (hr.mono (by decide)) (be_neg be_int)))
    ss_nil)
    (ss_cons (s_for (passes_of rfl) (by rfl) (i_enum (by rfl) B.enumerate (be_var (i := 0) rfl (by walk_at "zL") rfl)) (g_tup (is := ([1] ++ ([2] ++ []))) (n := 2) (by rfl) (g_cons (is := [1]) (g_name (i := 1) scNPlaces.nd rfl (by walk_at "zM") rfl) (g_cons (is := [2]) (g_name (i := 2) scNPlaces.nd rfl (by walk_at "zM") rfl) g_nil rfl) rfl)) rfl
    (ss_one (s_if (PW.pt (bw_or (bt_not (bt_val (be_fn f_is_name (hr.mono (by decide)) tk (ba_cons (be_var (i := 2) rfl (by walk_at "zL") rfl) ba_nil)))) (bw_or1 (bt_cmp or_in od_in (be_o (be_var (i := 2) rfl (by walk_at "zL") rfl)) (be_o (be_slice (be_o (be_var (i := 0) rfl (by walk_at "zL") rfl)) bp_none (bp_some (be_var (i := 1) rfl (by walk_at "zL") rfl)))) (by rfl)))))
    (ss_one (s_raise x_BadPlaces (by rfl) tk (hr.mono (by decide)) (be_var (i := 1) rfl (by walk_at "zL") rfl)))
    ss_nil)))
    (ss_one (s_ret (be_bt call_tuple_of cd_tuple (by rfl) B.tuple (by decide +kernel) (bo_cons (be_o (be_f (bf_bf cr_sortedD cd_sorted (by rfl) B.sorted (by decide +kernel) (bo_cons (be_o (be_var (i := 0) rfl (by walk_at "zL") rfl)) bo_nil)))) bo_nil))))))
theorem okr_IsPair (F : FnS K "is_pair" "is_pair" sIsPair f fd) (B : Bl mg) : FnOk P w K mg base (L2.CX P w) 1 f fd ["known", "thing"] (spOf (T1 K) 0 2 (fnD 0 nIsPair.length 2 r_IsPair)) := by
  refine ok_fn (On := []) F scIsPair fun cdv A outer s H E hr tk => ?_
  exact (ss_cons (s_if (PW.pt (bw_or (bt_not (bt_val (be_bf call_isi cd_isi (by rfl) B.isinstance (by decide +kernel) (bo_cons (be_o (be_var (i := 1) rfl (by walk_at "zL") rfl)) (bo_cons (be_o (be_ty (by rfl) B.tuple (by decide +kernel))) bo_nil))))) (bw_or1 (bt_cmp (op_neD hr.units) od_ne (be_o (be_bf call_len cd_len (by rfl) B.len (by decide +kernel) (bo_cons (be_o (be_var (i := 1) rfl (by walk_at "zL") rfl)) bo_nil))) (be_o be_int) (nomark _)))))
    (ss_one (s_ret be_bl))
    ss_nil)
    (ss_one (s_ret (be_bf (cr_all rfl) cd_all (by rfl) B.all (by decide +kernel) (bo_cons (be_o (be_f (bf_lc (own := [("place", 2)]) (is := [2]) (by rfl) scIsPair.nd (i_io (i_tup (be_var (i := 1) rfl (by walk_at "zL") rfl))) (blkOk_by (own := [("place", 2)]) (N := nIsPair) (sc := defScope sIsPair) (by decide +kernel)) (fun _ _ _ _ _ => (g_name (i := 2) scIsPair.nd rfl (by walk_at "zM") rfl)) (fun _ _ _ _ _ => pts0) (fun _ _ _ _ _ => (be_and (be_bf call_isi cd_isi (by rfl) B.isinstance (by decide +kernel) (bo_cons (be_o (be_var (i := 2) rfl (by walk_at "zL") rfl)) (bo_cons (be_o (be_ty (by rfl) B.str (by decide +kernel))) bo_nil))) (be_one (be_cmp or_in od_in (be_o (be_var (i := 2) rfl (by walk_at "zL") rfl)) (be_o (be_var (i := 0) rfl (by walk_at "zL") rfl)) (by rfl))))) rfl rfl))) bo_nil)))))
theorem okr_WInit (F : FnS K "__init__" "Web.__init__" sWInit f fd) (B : Bl mg) (c_MOST_THINGS : ∃ t, mg "MOST_THINGS" = some (.int 24 t)) (f_is_name : Fn P w (T1 K) mg base 1 "is_name" ["thing"] 0 F_IsName) (f_is_pair : Fn P w (T1 K) mg base 1 "is_pair" ["known", "thing"] 0 F_IsPair) (f_need_places : Fn P w (T1 K) mg base 3 "need_places" ["places"] 0 F_NPlaces) (x_BadTies : ExT P w K mg base "BadTies" "name" (He.ga K "BadTies")) (x_TooMany : ExT P w K mg base "TooMany" "limit" (He.ga K "TooMany")) (T_Web : ClsT K "Web" ["known", "ending"]) : FnOk P w K mg base (L2.CX P w) 4 f fd ["self", "places", "ties"] (spIniN (T1 K) "Web" 2 (iniD "Web" nWInit.length 2 r_WInit)) := by
  refine ok_iniN F scWInit (by decide) rfl fun cdv A outer s H E hr tk => ?_
  have hu := hu_of hr
  exact (ss_post (O2 := [1000]) (On := [2000]) (ss_cons (s_fldP (i := 0) (c := "Web") rfl (by walk_at "zL") rfl rfl rfl T_Web.cl (T_Web.nF "known" (by decide)) T_Web.nfam (es_e (be_fn f_need_places (hr.mono (by decide)) tk (ba_cons (be_var (i := 1) rfl (by walk_at "zL") rfl) ba_nil))))
    (ss_cons (s_for (passes_of rfl) (by rfl) (i_list (be_f (bf_bf cr_sortedD cd_sorted (by rfl) B.sorted (by decide +kernel) (bo_cons (be_o (be_f (bf_bt (call_listD rfl) cd_listD (by rfl) B.list (by decide +kernel) (bo_cons (be_o (be_var (i := 2) rfl (by walk_at "zL") rfl)) bo_nil)))) bo_nil)))) (g_name (i := 3) scWInit.nd rfl (by walk_at "zM") rfl) rfl
    (ss_one (s_if (PW.pt (bw_or (bt_not (bt_val (be_fn f_is_name (hr.mono (by decide)) tk (ba_cons (be_var (i := 3) rfl (by walk_at "zL") rfl) ba_nil)))) (bw_or1 (bt_not (bt_val (be_fn f_is_pair (hr.mono (by decide)) tk (ba_cons (be_r (er_fld (c := "Web") T_Web.cl (T_Web.nF "known" (by decide)) (er_var (i := 0) rfl (by walk_at "zL") rfl) rfl)) (ba_cons (be_dget hu (be_o (be_var (i := 2) rfl (by walk_at "zL") rfl)) (be_var (i := 3) rfl (by walk_at "zL") rfl) (fun _ _ => rfl)) ba_nil))))))))
    (ss_one (s_raise x_BadTies (by rfl) tk (hr.mono (by decide)) (be_var (i := 3) rfl (by walk_at "zL") rfl)))
    ss_nil)))
    (ss_cons (s_if (bt_cmp or_gt od_gt (be_o (be_bf call_lenDR cd_lenD (by rfl) B.len (by decide +kernel) (bo_cons (be_o (be_var (i := 2) rfl (by walk_at "zL") rfl)) bo_nil))) (be_o (be_gi c_MOST_THINGS)) (nomark _))
    (ss_one (s_raise x_TooMany (by rfl) tk (hr.mono (by decide)) (be_gi c_MOST_THINGS)))
    ss_nil)
    (ss_one (s_fldP (i := 0) (c := "Web") rfl (by walk_at "zL") rfl rfl rfl T_Web.cl (T_Web.nF "ending" (by decide)) T_Web.nfam (es_f (bf_dc (own := [("name", 3)]) (is := [3]) (by rfl) scWInit.nd (i_io (i_list (be_f (bf_bf cr_sortedD cd_sorted (by rfl) B.sorted (by decide +kernel) (bo_cons (be_o (be_f (bf_bt (call_listD rfl) cd_listD (by rfl) B.list (by decide +kernel) (bo_cons (be_o (be_var (i := 2) rfl (by walk_at "zL") rfl)) bo_nil)))) bo_nil))))) (blkOk_by (own := [("name", 3)]) (N := nWInit) (sc := defScope sWInit) (by decide +kernel)) (fun _ _ _ _ _ => (g_name (i := 3) scWInit.nd rfl (by walk_at "zM") rfl)) (fun _ _ _ _ _ => (be_var (i := 3) rfl (by walk_at "zL") rfl)) (fun _ _ _ _ _ => (be_bt call_tuple_of cd_tuple (by rfl) B.tuple (by decide +kernel) (bo_cons (be_o (be_f (bf_bf cr_sortedD cd_sorted (by rfl) B.sorted (by decide +kernel) (bo_cons (be_o (be_dget hu (be_o (be_var (i := 2) rfl (by walk_at "zL") rfl)) (be_var (i := 3) rfl (by walk_at "zL") rfl) (fun _ _ => rfl))) bo_nil)))) bo_nil))) rfl rfl))))))) rfl)
theorem okr_TiesF (F : FnS K "ties_family" "ties_family" sTiesF f fd) (B : Bl mg) (T_Web : ClsT K "Web" ["known", "ending"]) (m_Family : MkF P w K mg base 1 F_FInit) : FnOk P w K mg base (L2.CX P w) 3 f fd ["web"] (spOf (T1 K) 0 1 (fnD 0 nTiesF.length 1 r_TiesF)) := by
  refine ok_fn (On := []) F scTiesF fun cdv A outer s H E hr tk => ?_
  exact (ss_one (s_ret (be_mkF m_Family (hr.mono (by decide)) tk (ba_cons (be_f (bf_bf cr_sortedD cd_sorted (by rfl) B.sorted (by decide +kernel) (bo_cons (be_o (be_f (bf_bt (call_listD rfl) cd_listD (by rfl) B.list (by decide +kernel) (bo_cons (be_o (be_fld (c := "Web") T_Web.cl (T_Web.nF "ending" (by decide)) (be_o (be_var (i := 0) rfl (by walk_at "zL") rfl)) rfl)) bo_nil)))) bo_nil))) (ba_cons (be_var (i := 0) rfl (by walk_at "zL") rfl) ba_nil)))))
end
end L11
namespace L11
open PySem PySem.Spec PyProof.Rows L2 Evl Bf Dz
section
variable {P : Program} {w : World} {K : PySem.W.Frag} {mg : Str → Option Value} {base : Heap} {f : Addr} {fd : FuncData} {T : Th K}
theorem okr_LPick (F : FnS K "_law_pick" "_law_pick" sLPick f fd) (B : Bl mg) (f__law_draw : Fn P w (T1 K) mg base 1 "_law_draw" ["_law_well", "_law_many"] 0 F_LDraw) : FnOk P w K mg base (L2.CX P w) 2 f fd ["_law_well", "_law_some"] (spOf (T1 K) 0 2 (fnD 0 nLPick.length 2 r_LPick)) := by
  refine ok_fn (On := []) F scLPick fun cdv A outer s H E hr tk => ?_
  exact (ss_one (s_ret (be_ix ix_seq od_ix (be_o (be_var (i := 1) rfl (by walk_at "zL") rfl)) (be_o (be_fn f__law_draw (hr.mono (by decide)) tk (ba_cons (be_var (i := 0) rfl (by walk_at "zL") rfl) (ba_cons (be_bf call_len cd_len (by rfl) B.len (by decide +kernel) (bo_cons (be_o (be_var (i := 1) rfl (by walk_at "zL") rfl)) bo_nil)) ba_nil)))) (fun _ _ => rfl))))
theorem okr_LNames (F : FnS K "_law_names" "_law_names" sLNames f fd) (B : Bl mg) (f__law_draw : Fn P w (T1 K) mg base 1 "_law_draw" ["_law_well", "_law_many"] 0 F_LDraw) (f__law_pick : Fn P w (T1 K) mg base 2 "_law_pick" ["_law_well", "_law_some"] 0 F_LPick) : FnOk P w K mg base (L2.CX P w) 3 f fd ["_law_well", "_law_many"] (spOf (T1 K) 1 2 (fnD 1 nLNames.length 2 r_LNames)) := by
  refine ok_fn (On := []) F scLNames fun cdv A outer s H E hr tk => ?_
  exact (ss_cons (s_set (i := 2) scLNames.nd rfl (by walk_at "zM") rfl be_str)
    (ss_cons (s_setO (i := 3) scLNames.nd rfl (by walk_at "zM") rfl (bf_lst ba_nil))
    (ss_cons (s_for (passes_of rfl) (by rfl) (i_range1 (by rfl) B.range (be_var (i := 1) rfl (by walk_at "zL") rfl)) (g_name (i := 4) scLNames.nd rfl (by walk_at "zM") rfl) rfl
    (ss_cons (s_set (i := 5) scLNames.nd rfl (by walk_at "zM") rfl (be_slice (be_o (be_join be_str (be_o (be_f (bf_lc (own := [("_law_j", 7)]) (is := [7]) (by rfl) scLNames.nd (i_io (i_range1 (by rfl) B.range (be_op or_add od_add (be_o be_int) (be_o (be_op or_mul od_mul (be_o (be_fn f__law_draw (hr.mono (by decide)) tk (ba_cons (be_var (i := 0) rfl (by walk_at "zL") rfl) (ba_cons be_int ba_nil)))) (be_o (be_fn f__law_draw (hr.mono (by decide)) tk (ba_cons (be_var (i := 0) rfl (by walk_at "zL") rfl) (ba_cons be_int ba_nil))))))))) (blkOk_by (own := [("_law_j", 7)]) (N := nLNames) (sc := defScope sLNames) (by decide +kernel)) (fun _ _ _ _ _ => (g_name (i := 7) scLNames.nd rfl (by walk_at "zM") rfl)) (fun _ _ _ _ _ => pts0) (fun _ _ _ _ _ => (be_fn f__law_pick (hr.mono (by decide)) takes0 (ba_cons (be_var (i := 0) rfl (by walk_at "zL") rfl) (ba_cons (be_var (i := 2) rfl (by walk_at "zL") rfl) ba_nil)))) rfl rfl))))) bp_none (bp_some be_int)))
    (ss_cons (s_for (passes_of rfl) (by rfl) (i_str (be_var (i := 2) rfl (by walk_at "zL") rfl)) (g_name (i := 6) scLNames.nd rfl (by walk_at "zM") rfl) rfl
    (ss_one (s_if (PW.pt (bw_and (bt_cmp or_in od_in (be_o (be_var (i := 5) rfl (by walk_at "zL") rfl)) (bo_var (i := 3) rfl (by walk_at "zL") rfl) (by rfl)) (bw_and1 (bt_cmp or_notin od_notin (be_o (be_var (i := 6) rfl (by walk_at "zL") rfl)) (bo_var (i := 3) rfl (by walk_at "zL") rfl) (by rfl)))))
    (ss_one (s_set (i := 5) scLNames.nd rfl (by walk_at "zM") rfl (be_var (i := 6) rfl (by walk_at "zL") rfl)))
    ss_nil)))
    (ss_one (s_app (i := 3) rfl (by walk_at "zL") rfl (be_var (i := 5) rfl (by walk_at "zL") rfl) rfl rfl rfl (L2.pe_bm PySem.F.plainAttrs_list PySem.F.slot_list_append PySem.F.type_list_append mt_append (pv 3) (ba_cons (be_var (i := 5) rfl (by walk_at "zL") rfl) ba_nil)))))))
    (ss_one (s_retO (i := 3) rfl (by walk_at "zL") rfl)))))
theorem okr_LShuf (F : FnS K "_law_shuffled" "_law_shuffled" sLShuf f fd) (B : Bl mg) (f__law_draw : Fn P w (T1 K) mg base 1 "_law_draw" ["_law_well", "_law_many"] 0 F_LDraw) : FnOk P w K mg base (L2.CX P w) 2 f fd ["_law_well", "_law_some"] (spOf (T1 K) 1 2 (fnD 1 nLShuf.length 2 r_LShuf)) := by
  refine ok_fn (On := []) F scLShuf fun cdv A outer s H E hr tk => ?_
  exact (ss_cons (s_parOO (i := 2) (j := 3) (by rfl) scLShuf.nd rfl rfl (by decide) (by decide) (by decide) rfl rfl rfl rfl (bf_bt call_list_of cd_list (by rfl) B.list (by decide +kernel) (bo_cons (be_o (be_var (i := 1) rfl (by walk_at "zL") rfl)) bo_nil)) (bf_lst ba_nil) (by first | rfl | kernel_rfl))
    (ss_cons (s_for (passes_of rfl) (by rfl) (i_range1 (by rfl) B.range (be_bf call_len cd_len (by rfl) B.len (by decide +kernel) (bo_cons (be_o (be_var (i := 1) rfl (by walk_at "zL") rfl)) bo_nil))) (g_name (i := 4) scLShuf.nd rfl (by walk_at "zM") rfl) rfl
    (ss_one (s_appM (i := 3) rfl (by walk_at "zL") rfl (m_popAt (i := 2) rfl (by walk_at "zL") rfl (be_fn f__law_draw (hr.mono (by decide)) tk (ba_cons (be_var (i := 0) rfl (by walk_at "zL") rfl) (ba_cons (be_bf call_len cd_len (by rfl) B.len (by decide +kernel) (bo_cons (bo_var (i := 2) rfl (by walk_at "zL") rfl) bo_nil)) ba_nil))) (L2.pe_bm PySem.F.plainAttrs_list PySem.F.slot_list_pop PySem.F.type_list_pop mt_popAt (pv 2) (ba_cons (be_fn f__law_draw (hr.mono (by decide)) tk (ba_cons (be_var (i := 0) rfl (by walk_at "zL") rfl) (ba_cons (be_bf call_len cd_len (by rfl) B.len (by decide +kernel) (bo_cons (bo_var (i := 2) rfl (by walk_at "zL") rfl) bo_nil)) ba_nil))) ba_nil))) (L2.pe_bm PySem.F.plainAttrs_list PySem.F.slot_list_append PySem.F.type_list_append mt_append (pv 3) (pa_cons (m_popAt (i := 2) rfl (by walk_at "zL") rfl (be_fn f__law_draw (hr.mono (by decide)) tk (ba_cons (be_var (i := 0) rfl (by walk_at "zL") rfl) (ba_cons (be_bf call_len cd_len (by rfl) B.len (by decide +kernel) (bo_cons (bo_var (i := 2) rfl (by walk_at "zL") rfl) bo_nil)) ba_nil))) (L2.pe_bm PySem.F.plainAttrs_list PySem.F.slot_list_pop PySem.F.type_list_pop mt_popAt (pv 2) (ba_cons (be_fn f__law_draw (hr.mono (by decide)) tk (ba_cons (be_var (i := 0) rfl (by walk_at "zL") rfl) (ba_cons (be_bf call_len cd_len (by rfl) B.len (by decide +kernel) (bo_cons (bo_var (i := 2) rfl (by walk_at "zL") rfl) bo_nil)) ba_nil))) ba_nil))) pa_nil (by rfl))))))
    (ss_one (s_retO (i := 3) rfl (by walk_at "zL") rfl))))
theorem okr_LLot (F : FnS K "_law_lot" "_law_lot" sLLot f fd) (f__law_draw : Fn P w (T1 K) mg base 1 "_law_draw" ["_law_well", "_law_many"] 0 F_LDraw) (f__law_shuffled : Fn P w (T1 K) mg base 2 "_law_shuffled" ["_law_well", "_law_some"] 1 F_LShuf) : FnOk P w K mg base (L2.CX P w) 3 f fd ["_law_well", "_law_things"] (spOf (T1 K) 1 2 (fnD 1 nLLot.length 2 r_LLot)) := by
  refine ok_fn (On := []) F scLLot fun cdv A outer s H E hr tk => ?_
  exact (ss_one (s_retF (bf_lc (own := [("_law_thing", 2)]) (is := [2]) (by rfl) scLLot.nd (i_io (i_list (be_f (bf_fn f__law_shuffled (hr.mono (by decide)) tk (ba_cons (be_var (i := 0) rfl (by walk_at "zL") rfl) (ba_cons (be_var (i := 1) rfl (by walk_at "zL") rfl) ba_nil)))))) (blkOk_by (own := [("_law_thing", 2)]) (N := nLLot) (sc := defScope sLLot) (by decide +kernel)) (fun _ _ _ _ _ => (g_name (i := 2) scLLot.nd rfl (by walk_at "zM") rfl)) (fun _ _ _ _ _ => (pts_one (bt_cmp (op_eqD hr.units) od_eq (be_o (be_fn f__law_draw (hr.mono (by decide)) takes0 (ba_cons (be_var (i := 0) rfl (by walk_at "zL") rfl) (ba_cons be_int ba_nil)))) (be_o be_int) (nomark _)))) (fun _ _ _ _ _ => (be_var (i := 2) rfl (by walk_at "zL") rfl)) rfl rfl)))
theorem okr_LWebL (F : FnS K "_law_web_drawn" "_law_web_drawn" sLWebL f fd) (f__law_draw : Fn P w (T1 K) mg base 1 "_law_draw" ["_law_well", "_law_many"] 0 F_LDraw) (f__law_names : Fn P w (T1 K) mg base 3 "_law_names" ["_law_well", "_law_many"] 1 F_LNames) (f__law_pick : Fn P w (T1 K) mg base 2 "_law_pick" ["_law_well", "_law_some"] 0 F_LPick) : FnOk P w K mg base (L2.CX P w) 4 f fd ["_law_well", "_law_most"] (spOf (T1 K) 0 2 (fnD 0 nLWebL.length 2 r_LWebL)) := by
  refine ok_fn (On := []) F scLWebL fun cdv A outer s H E hr tk => ?_
  have hu := hu_of hr
  exact (ss_cons (s_set (i := 2) scLWebL.nd rfl (by walk_at "zM") rfl (be_f (bf_fn f__law_names (hr.mono (by decide)) tk (ba_cons (be_var (i := 0) rfl (by walk_at "zL") rfl) (ba_cons (be_op or_add od_add (be_o be_int) (be_o (be_fn f__law_draw (hr.mono (by decide)) tk (ba_cons (be_var (i := 0) rfl (by walk_at "zL") rfl) (ba_cons be_int ba_nil))))) ba_nil)))))
    (ss_cons (s_setO (i := 3) scLWebL.nd rfl (by walk_at "zM") rfl bf_dnew)
    (ss_cons (s_for (passes_of rfl) (by rfl) (i_list (be_f (bf_fn f__law_names (hr.mono (by decide)) tk (ba_cons (be_var (i := 0) rfl (by walk_at "zL") rfl) (ba_cons (be_fn f__law_draw (hr.mono (by decide)) tk (ba_cons (be_var (i := 0) rfl (by walk_at "zL") rfl) (ba_cons (be_op or_add od_add (be_o (be_var (i := 1) rfl (by walk_at "zL") rfl)) (be_o be_int)) ba_nil))) ba_nil))))) (g_name (i := 4) scLWebL.nd rfl (by walk_at "zM") rfl) rfl
    (ss_one (s_put hu (i := 3) rfl (by walk_at "zL") rfl (be_var (i := 4) rfl (by walk_at "zL") rfl) (be_tup (ba_cons (be_fn f__law_pick (hr.mono (by decide)) tk (ba_cons (be_var (i := 0) rfl (by walk_at "zL") rfl) (ba_cons (be_var (i := 2) rfl (by walk_at "zL") rfl) ba_nil))) (ba_cons (be_fn f__law_pick (hr.mono (by decide)) tk (ba_cons (be_var (i := 0) rfl (by walk_at "zL") rfl) (ba_cons (be_var (i := 2) rfl (by walk_at "zL") rfl) ba_nil))) ba_nil))))))
    (ss_pre (O2 := []) (ss_one (s_ret (be_tup (ba_cons (be_var (i := 2) rfl (by walk_at "zL") rfl) (ba_cons (be_var (i := 3) rfl (by walk_at "zL") rfl) ba_nil))))) rfl))))
end
end L11
namespace L11
open PySem PySem.Spec PyProof.Rows L2 Evl Bf Dz
section
variable {P : Program} {w : World} {K : PySem.W.Frag} {mg : Str → Option Value} {base : Heap} {f : Addr} {fd : FuncData} {T : Th K}
theorem okr_L11Merged (F : FnS K "_law_merged" "_law_merged" sL11Merged f fd) (B : Bl mg) : FnOk P w K mg base (L2.CX P w) 1 f fd ["_law_places", "_law_ties", "_law_tie"] (spOf (T1 K) 0 3 (fnD 0 nL11Merged.length 3 r_L11Merged)) := by
  refine ok_fn (On := []) F scL11Merged fun cdv A outer s H E hr tk => ?_
  have hu := hu_of hr
  exact (ss_cons (s_asg (be_dget hu (be_o (be_var (i := 1) rfl (by walk_at "zL") rfl)) (be_var (i := 2) rfl (by walk_at "zL") rfl) (fun _ _ => rfl)) (g_tup (is := ([3] ++ ([4] ++ []))) (n := 2) (by rfl) (g_cons (is := [3]) (g_name (i := 3) scL11Merged.nd rfl (by walk_at "zM") rfl) (g_cons (is := [4]) (g_name (i := 4) scL11Merged.nd rfl (by walk_at "zM") rfl) g_nil rfl) rfl)) rfl)
    (ss_cons (s_setO (i := 5) scL11Merged.nd rfl (by walk_at "zM") rfl bf_dnew)
    (ss_cons (s_forP (i := 1) (x := 6) (ext1 K) (lock1 K) (lockG1 K) (passes_of rfl) (by rfl) rfl (by walk_at "zL") rfl (pg_name (i := 6) scL11Merged.nd rfl (by walk_at "zM")) (ss_one (s_if (bt_cmp (op_neD hr.units) od_ne (be_o (be_var (i := 6) rfl (by walk_at "zL") rfl)) (be_o (be_var (i := 2) rfl (by walk_at "zL") rfl)) (nomark _))
    (ss_one (s_put hu (i := 5) rfl (by walk_at "zL") rfl (be_var (i := 6) rfl (by walk_at "zL") rfl) (be_bt call_tuple_of cd_tuple (by rfl) B.tuple (by decide +kernel) (bo_cons (be_o (be_f (bf_lc (own := [("_law_place", 7)]) (is := [7]) (by rfl) scL11Merged.nd (i_io (i_tup (be_dget hu (be_o (be_var (i := 1) rfl (by walk_at "zL") rfl)) (be_var (i := 6) rfl (by walk_at "zL") rfl) (fun _ _ => rfl)))) (blkOk_by (own := [("_law_place", 7)]) (N := nL11Merged) (sc := defScope sL11Merged) (by decide +kernel)) (fun _ _ _ _ _ => (g_name (i := 7) scL11Merged.nd rfl (by walk_at "zM") rfl)) (fun _ _ _ _ _ => pts0) (fun _ _ _ _ _ => (be_ifExp (bt_cmp (op_eqD hr.units) od_eq (be_o (be_var (i := 7) rfl (by walk_at "zL") rfl)) (be_o (be_var (i := 4) rfl (by walk_at "zL") rfl)) (nomark _)) (be_var (i := 3) rfl (by walk_at "zL") rfl) (be_var (i := 7) rfl (by walk_at "zL") rfl))) rfl rfl))) bo_nil))))
    ss_nil)) rfl rfl)
    (ss_pre (O2 := []) (ss_one (s_ret (be_tup (ba_cons (be_f (bf_lc (own := [("_law_place", 7)]) (is := [7]) (by rfl) scL11Merged.nd (i_io (i_list (be_var (i := 0) rfl (by walk_at "zL") rfl))) (blkOk_by (own := [("_law_place", 7)]) (N := nL11Merged) (sc := defScope sL11Merged) (by decide +kernel)) (fun _ _ _ _ _ => (g_name (i := 7) scL11Merged.nd rfl (by walk_at "zM") rfl)) (fun _ _ _ _ _ => (pts_one (PW.pt (bw_or (bt_cmp (op_eqD hr.units) od_eq (be_o (be_var (i := 7) rfl (by walk_at "zL") rfl)) (be_o (be_var (i := 3) rfl (by walk_at "zL") rfl)) (nomark _)) (bw_or1 (bt_cmp (op_neD hr.units) od_ne (be_o (be_var (i := 7) rfl (by walk_at "zL") rfl)) (be_o (be_var (i := 4) rfl (by walk_at "zL") rfl)) (nomark _))))))) (fun _ _ _ _ _ => (be_var (i := 7) rfl (by walk_at "zL") rfl)) rfl rfl)) (ba_cons (be_var (i := 5) rfl (by walk_at "zL") rfl) ba_nil))))) rfl))))
theorem okr_L11Without (F : FnS K "_law_without" "_law_without" sL11Without f fd) (B : Bl mg) : FnOk P w K mg base (L2.CX P w) 1 f fd ["_law_places", "_law_ties", "_law_lot_here"] (spOf (T1 K) 0 3 (fnD 0 nL11Without.length 3 r_L11Without)) := by
  refine ok_fn (On := []) F scL11Without fun cdv A outer s H E hr tk => ?_
  have hu := hu_of hr
  exact (ss_one (s_ret (be_tup (ba_cons (be_var (i := 0) rfl (by walk_at "zL") rfl) (ba_cons (be_f (bf_bt (call_dictP rfl) cd_dictP (by rfl) B.dict (by decide +kernel) (bo_cons (be_o (be_f (bf_lcK (own := [("_law_name", 3)]) (is := [3]) (lock1 K) (by rfl) scL11Without.nd (path_var rfl (by walk_at "zL") rfl) (blkOk_by (own := [("_law_name", 3)]) (N := nL11Without) (sc := defScope sL11Without) (by decide +kernel)) (fun _ _ _ _ _ => (g_name (i := 3) scL11Without.nd rfl (by walk_at "zM") rfl)) (fun _ _ _ _ _ => (pts_one (bt_cmp or_notin od_notin (be_o (be_var (i := 3) rfl (by walk_at "zL") rfl)) (be_o (be_var (i := 2) rfl (by walk_at "zL") rfl)) (by rfl)))) (fun _ _ _ _ _ => (be_tup (ba_cons (be_var (i := 3) rfl (by walk_at "zL") rfl) (ba_cons (be_dget hu (be_o (be_var (i := 1) rfl (by walk_at "zL") rfl)) (be_var (i := 3) rfl (by walk_at "zL") rfl) (fun _ _ => rfl)) ba_nil)))) rfl rfl))) bo_nil))) ba_nil)))))
theorem okr_L11Family (F : FnS K "_law_family" "_law_family" sL11Family f fd) (f_ties_family : Fn P w (T1 K) mg base 3 "ties_family" ["web"] 0 F_TiesF) (m_Web : MkN P w (T1 K) mg base 4 "Web" 2 F_WInit) : FnOk P w K mg base (L2.CX P w) 6 f fd ["_law_parts"] (spOf (T1 K) 0 1 (fnD 0 nL11Family.length 1 r_L11Family)) := by
  refine ok_fn (On := []) F scL11Family fun cdv A outer s H E hr tk => ?_
  exact (ss_one (s_ret (be_fn f_ties_family (hr.mono (by decide)) tk (ba_cons (be_mkN m_Web i_WInit (hr.mono (by decide)) tk (ar_cons (er_o (be_o (be_ix ix_seq od_ix (be_o (be_var (i := 0) rfl (by walk_at "zL") rfl)) (be_o be_int) (fun _ _ => rfl)))) (ar_cons (er_o (be_o (be_ix ix_seq od_ix (be_o (be_var (i := 0) rfl (by walk_at "zL") rfl)) (be_o be_int) (fun _ _ => rfl)))) ar_nil))) ba_nil))))
end
end L11
namespace L11
open PySem PySem.Spec PyProof.Rows L2 Evl Bf Dz
section
variable {P : Program} {w : World} {K : PySem.W.Frag} {mg : Str → Option Value} {base : Heap} {f : Addr} {fd : FuncData} {T : Th K}
theorem okr_L11Doubled (F : FnS K "_law_doubled" "_law_doubled" sL11Doubled f fd) (B : Bl mg) (f__law_family : Fn P w (T1 K) mg base 6 "_law_family" ["_law_parts"] 0 F_L11Family) (f__law_lot : Fn P w (T1 K) mg base 3 "_law_lot" ["_law_well", "_law_things"] 1 F_LLot) (f__law_pick : Fn P w (T1 K) mg base 2 "_law_pick" ["_law_well", "_law_some"] 0 F_LPick) (f_alike : Fn P w (T1 K) mg base 14 "alike" ["one", "other"] 0 F_Alike) (f_inside : Fn P w (T1 K) mg base 4 "inside" ["family", "lot"] 0 F_Inside) (m_Family_rank : MtD P w (T1 K) mg base 13 "Family" "rank" 2 0 F_FRank) (m_Family_stuck : MtD P w (T1 K) mg base 13 "Family" "stuck" 1 1 F_FStuck) : FnOk P w K mg base (L2.CX P w) 17 f fd ["_law_well", "_law_places", "_law_ties", "_law_family_here"] (spOf (T1 K) 0 4 (fnD 0 nL11Doubled.length 4 r_L11Doubled)) := by
  refine ok_fn (On := []) F scL11Doubled fun cdv A outer s H E hr tk => ?_
  have hu := hu_of hr
  exact (ss_cons (s_set (i := 4) scL11Doubled.nd rfl (by walk_at "zM") rfl (be_fn f__law_pick (hr.mono (by decide)) tk (ba_cons (be_var (i := 0) rfl (by walk_at "zL") rfl) (ba_cons (be_f (bf_bf (call_sortedD rfl) cd_sortedDk (by rfl) B.sorted (by decide +kernel) (bo_cons (be_o (be_var (i := 2) rfl (by walk_at "zL") rfl)) bo_nil))) ba_nil))))
    (ss_cons (s_setO (i := 5) scL11Doubled.nd rfl (by walk_at "zM") rfl (bf_bt call_dictD cd_dictD (by rfl) B.dict (by decide +kernel) (bo_cons (be_o (be_var (i := 2) rfl (by walk_at "zL") rfl)) bo_nil)))
    (ss_cons (s_put hu (i := 5) rfl (by walk_at "zL") rfl be_str (be_revP (be_o (be_dget hu (be_o (be_var (i := 2) rfl (by walk_at "zL") rfl)) (be_var (i := 4) rfl (by walk_at "zL") rfl) (fun _ _ => rfl)))))
    (ss_cons (s_put hu (i := 5) rfl (by walk_at "zL") rfl be_str (be_tup (ba_cons (be_ix ix_seq od_ix (be_o (be_var (i := 1) rfl (by walk_at "zL") rfl)) (be_o be_int) (fun _ _ => rfl)) (ba_cons (be_ix ix_seq od_ix (be_o (be_var (i := 1) rfl (by walk_at "zL") rfl)) (be_o be_int) (fun _ _ => rfl)) ba_nil))))
    (ss_pre (O2 := []) (ss_cons (s_set (i := 6) scL11Doubled.nd rfl (by walk_at "zM") rfl (be_fn f__law_family (hr.mono (by decide)) tk (ba_cons (be_tup (ba_cons (be_var (i := 1) rfl (by walk_at "zL") rfl) (ba_cons (be_var (i := 5) rfl (by walk_at "zL") rfl) ba_nil))) ba_nil)))
    (ss_cons (s_set (i := 7) scL11Doubled.nd rfl (by walk_at "zM") rfl (be_f (bf_fn f__law_lot (hr.mono (by decide)) tk (ba_cons (be_var (i := 0) rfl (by walk_at "zL") rfl) (ba_cons (be_f (bf_lcK (own := [("_law_name", 9)]) (is := [9]) (lock1 K) (by rfl) scL11Doubled.nd (path_var rfl (by walk_at "zL") rfl) (blkOk_by (own := [("_law_name", 9)]) (N := nL11Doubled) (sc := defScope sL11Doubled) (by decide +kernel)) (fun _ _ _ _ _ => (g_name (i := 9) scL11Doubled.nd rfl (by walk_at "zM") rfl)) (fun _ _ _ _ _ => (pts_one (bt_cmp (op_neD hr.units) od_ne (be_o (be_var (i := 9) rfl (by walk_at "zL") rfl)) (be_o (be_var (i := 4) rfl (by walk_at "zL") rfl)) (nomark _)))) (fun _ _ _ _ _ => (be_var (i := 9) rfl (by walk_at "zL") rfl)) rfl rfl)) ba_nil)))))
    (ss_cons (s_set (i := 8) scL11Doubled.nd rfl (by walk_at "zM") rfl (be_op or_add od_add (be_o (be_op or_add od_add (be_o (be_f (bf_meth0F m_Family_stuck (hr.mono (by decide)) tk (be_var (i := 3) rfl (by walk_at "zL") rfl)))) (be_o (be_f (bf_lst (ba_cons be_str ba_nil)))))) (be_o (be_f (bf_lc (own := [("_law_name", 9)]) (is := [9]) (by rfl) scL11Doubled.nd (i_io (i_list (be_f (bf_lst (ba_cons be_str ba_nil))))) (blkOk_by (own := [("_law_name", 9)]) (N := nL11Doubled) (sc := defScope sL11Doubled) (by decide +kernel)) (fun _ _ _ _ _ => (g_name (i := 9) scL11Doubled.nd rfl (by walk_at "zM") rfl)) (fun _ _ _ _ _ => (pts_one (bt_cmp or_in od_in (be_o (be_var (i := 4) rfl (by walk_at "zL") rfl)) (be_o (be_f (bf_meth0F m_Family_stuck (hr.mono (by decide)) takes0 (be_var (i := 3) rfl (by walk_at "zL") rfl)))) (by rfl)))) (fun _ _ _ _ _ => (be_var (i := 9) rfl (by walk_at "zL") rfl)) rfl rfl)))))
    (ss_cons (s_if (PW.pt (bw_or (bt_cmp (op_neD hr.units) od_ne (be_o (be_methF m_Family_rank (hr.mono (by decide)) tk (be_var (i := 6) rfl (by walk_at "zL") rfl) (ba_cons (be_op or_add od_add (be_o (be_var (i := 7) rfl (by walk_at "zL") rfl)) (be_o (be_f (bf_lst (ba_cons be_str ba_nil))))) ba_nil))) (be_o (be_methF m_Family_rank (hr.mono (by decide)) tk (be_var (i := 3) rfl (by walk_at "zL") rfl) (ba_cons (be_op or_add od_add (be_o (be_var (i := 7) rfl (by walk_at "zL") rfl)) (be_o (be_f (bf_lst (ba_cons (be_var (i := 4) rfl (by walk_at "zL") rfl) ba_nil))))) ba_nil))) (nomark _)) (bw_or1 (bt_cmp (op_neD hr.units) od_ne (be_o (be_f (bf_meth0F m_Family_stuck (hr.mono (by decide)) tk (be_var (i := 6) rfl (by walk_at "zL") rfl)))) (be_o (be_f (bf_bf cr_sortedD cd_sorted (by rfl) B.sorted (by decide +kernel) (bo_cons (be_o (be_var (i := 8) rfl (by walk_at "zL") rfl)) bo_nil)))) (nomark _)))))
    (ss_one (s_ret be_bl))
    ss_nil)
    (ss_cons (s_if (bt_cmp (op_neD hr.units) od_ne (be_o (be_methF m_Family_rank (hr.mono (by decide)) tk (be_var (i := 6) rfl (by walk_at "zL") rfl) (ba_cons (be_op or_add od_add (be_o (be_var (i := 7) rfl (by walk_at "zL") rfl)) (be_o (be_f (bf_lst (ba_cons (be_var (i := 4) rfl (by walk_at "zL") rfl) (ba_cons be_str (ba_cons be_str ba_nil))))))) ba_nil))) (be_o (be_methF m_Family_rank (hr.mono (by decide)) tk (be_var (i := 3) rfl (by walk_at "zL") rfl) (ba_cons (be_op or_add od_add (be_o (be_var (i := 7) rfl (by walk_at "zL") rfl)) (be_o (be_f (bf_lst (ba_cons (be_var (i := 4) rfl (by walk_at "zL") rfl) ba_nil))))) ba_nil))) (nomark _))
    (ss_one (s_ret be_bl))
    ss_nil)
    (ss_one (s_ret (be_cmp op_isN od_is (be_o (be_fn f_alike (hr.mono (by decide)) tk (ba_cons (be_fn f_inside (hr.mono (by decide)) tk (ba_cons (be_var (i := 6) rfl (by walk_at "zL") rfl) (ba_cons (be_f (bf_bf (call_sortedD rfl) cd_sortedDk (by rfl) B.sorted (by decide +kernel) (bo_cons (be_o (be_var (i := 2) rfl (by walk_at "zL") rfl)) bo_nil))) ba_nil))) (ba_cons (be_var (i := 3) rfl (by walk_at "zL") rfl) ba_nil)))) (be_o be_non) (nomark _))))))))) rfl)))))
theorem okr_L11Side (F : FnS K "_law_side_by_side" "_law_side_by_side" sL11Side f fd) (B : Bl mg) (f__law_family : Fn P w (T1 K) mg base 6 "_law_family" ["_law_parts"] 0 F_L11Family) (f_alike : Fn P w (T1 K) mg base 14 "alike" ["one", "other"] 0 F_Alike) (f_joined : Fn P w (T1 K) mg base 4 "joined" ["one", "other"] 0 F_JoinedF) : FnOk P w K mg base (L2.CX P w) 17 f fd ["_law_well", "_law_one", "_law_other", "_law_has_common"] (spOf (T1 K) 0 4 (fnD 0 nL11Side.length 4 r_L11Side)) := by
  refine ok_fn (On := []) F scL11Side fun cdv A outer s H E hr tk => ?_
  have hu := hu_of hr
  exact (ss_cons (s_setO (i := 4) scL11Side.nd rfl (by walk_at "zM") rfl (bf_bt (call_dictP rfl) cd_dictP (by rfl) B.dict (by decide +kernel) (bo_cons (be_o (be_f (bf_lc (own := [("_law_k", 7)]) (is := [7]) (by rfl) scL11Side.nd (i_io (i_range1 (by rfl) B.range (be_bf call_len cd_len (by rfl) B.len (by decide +kernel) (bo_cons (be_o (be_ix ix_seq od_ix (be_o (be_var (i := 2) rfl (by walk_at "zL") rfl)) (be_o be_int) (fun _ _ => rfl))) bo_nil)))) (blkOk_by (own := [("_law_k", 7)]) (N := nL11Side) (sc := defScope sL11Side) (by decide +kernel)) (fun _ _ _ _ _ => (g_name (i := 7) scL11Side.nd rfl (by walk_at "zM") rfl)) (fun _ _ _ _ _ => pts0) (fun _ _ _ _ _ => (be_tup (ba_cons (be_ix ix_seq od_ix (be_o (be_ix ix_seq od_ix (be_o (be_var (i := 2) rfl (by walk_at "zL") rfl)) (be_o be_int) (fun _ _ => rfl))) (be_o (be_var (i := 7) rfl (by walk_at "zL") rfl)) (fun _ _ => rfl)) (ba_cons (be_op or_add od_add (be_o be_str) (be_o (be_ix ix_seq od_ix (be_o be_str) (be_o (be_var (i := 7) rfl (by walk_at "zL") rfl)) (fun _ _ => rfl)))) ba_nil)))) rfl rfl))) bo_nil)))
    (ss_cons (s_if (bt_val (be_var (i := 3) rfl (by walk_at "zL") rfl))
    (ss_one (s_put hu (i := 4) rfl (by walk_at "zL") rfl (be_ix ix_seq od_ix (be_o (be_ix ix_seq od_ix (be_o (be_var (i := 2) rfl (by walk_at "zL") rfl)) (be_o be_int) (fun _ _ => rfl))) (be_o be_int) (fun _ _ => rfl)) (be_ix ix_seq od_ix (be_o (be_ix ix_seq od_ix (be_o (be_var (i := 1) rfl (by walk_at "zL") rfl)) (be_o be_int) (fun _ _ => rfl))) (be_o be_int) (fun _ _ => rfl))))
    ss_nil)
    (ss_cons (s_setO (i := 5) scL11Side.nd rfl (by walk_at "zM") rfl (bf_bt call_dictD cd_dictD (by rfl) B.dict (by decide +kernel) (bo_cons (be_o (be_ix ix_seq od_ix (be_o (be_var (i := 1) rfl (by walk_at "zL") rfl)) (be_o be_int) (fun _ _ => rfl))) bo_nil)))
    (ss_cons (s_setO (i := 6) scL11Side.nd rfl (by walk_at "zM") rfl bf_dnew)
    (ss_cons (s_for (passes_of rfl) (by rfl) (i_range1 (by rfl) B.range (be_bf call_lenDR cd_lenD (by rfl) B.len (by decide +kernel) (bo_cons (be_o (be_ix ix_seq od_ix (be_o (be_var (i := 2) rfl (by walk_at "zL") rfl)) (be_o be_int) (fun _ _ => rfl))) bo_nil))) (g_name (i := 7) scL11Side.nd rfl (by walk_at "zM") rfl) rfl
    (ss_cons (s_set (i := 8) scL11Side.nd rfl (by walk_at "zM") rfl (be_bt call_tuple_of cd_tuple (by rfl) B.tuple (by decide +kernel) (bo_cons (be_o (be_f (bf_lc (own := [("_law_place", 11)]) (is := [11]) (by rfl) scL11Side.nd (i_io (i_tup (be_dget hu (be_o (be_ix ix_seq od_ix (be_o (be_var (i := 2) rfl (by walk_at "zL") rfl)) (be_o be_int) (fun _ _ => rfl))) (be_ix ix_seq od_ix (be_o (be_f (bf_bf (call_sortedD rfl) cd_sortedDk (by rfl) B.sorted (by decide +kernel) (bo_cons (be_o (be_ix ix_seq od_ix (be_o (be_var (i := 2) rfl (by walk_at "zL") rfl)) (be_o be_int) (fun _ _ => rfl))) bo_nil)))) (be_o (be_var (i := 7) rfl (by walk_at "zL") rfl)) (fun _ _ => rfl)) (fun _ _ => rfl)))) (blkOk_by (own := [("_law_place", 11)]) (N := nL11Side) (sc := defScope sL11Side) (by decide +kernel)) (fun _ _ _ _ _ => (g_name (i := 11) scL11Side.nd rfl (by walk_at "zM") rfl)) (fun _ _ _ _ _ => pts0) (fun _ _ _ _ _ => (be_dget hu (bo_var (i := 4) rfl (by walk_at "zL") rfl) (be_var (i := 11) rfl (by walk_at "zL") rfl) (fun _ _ => rfl))) rfl rfl))) bo_nil)))
    (ss_cons (s_put hu (i := 5) rfl (by walk_at "zL") rfl (be_op or_add od_add (be_o be_str) (be_o (be_ix ix_seq od_ix (be_o be_str) (be_o (be_var (i := 7) rfl (by walk_at "zL") rfl)) (fun _ _ => rfl)))) (be_var (i := 8) rfl (by walk_at "zL") rfl))
    (ss_one (s_put hu (i := 6) rfl (by walk_at "zL") rfl (be_op or_add od_add (be_o be_str) (be_o (be_ix ix_seq od_ix (be_o be_str) (be_o (be_var (i := 7) rfl (by walk_at "zL") rfl)) (fun _ _ => rfl)))) (be_var (i := 8) rfl (by walk_at "zL") rfl))))))
    (ss_cons (s_set (i := 9) scL11Side.nd rfl (by walk_at "zM") rfl (be_op or_add od_add (be_o (be_ix ix_seq od_ix (be_o (be_var (i := 1) rfl (by walk_at "zL") rfl)) (be_o be_int) (fun _ _ => rfl))) (be_o (be_f (bf_lc (own := [("_law_place", 11)]) (is := [11]) (by rfl) scL11Side.nd (i_io (i_list (be_ix ix_seq od_ix (be_o (be_var (i := 2) rfl (by walk_at "zL") rfl)) (be_o be_int) (fun _ _ => rfl)))) (blkOk_by (own := [("_law_place", 11)]) (N := nL11Side) (sc := defScope sL11Side) (by decide +kernel)) (fun _ _ _ _ _ => (g_name (i := 11) scL11Side.nd rfl (by walk_at "zM") rfl)) (fun _ _ _ _ _ => (pts_one (bt_cmp or_notin od_notin (be_o (be_dget hu (bo_var (i := 4) rfl (by walk_at "zL") rfl) (be_var (i := 11) rfl (by walk_at "zL") rfl) (fun _ _ => rfl))) (be_o (be_ix ix_seq od_ix (be_o (be_var (i := 1) rfl (by walk_at "zL") rfl)) (be_o be_int) (fun _ _ => rfl))) (by rfl)))) (fun _ _ _ _ _ => (be_dget hu (bo_var (i := 4) rfl (by walk_at "zL") rfl) (be_var (i := 11) rfl (by walk_at "zL") rfl) (fun _ _ => rfl))) rfl rfl)))))
    (ss_pre (O2 := [5, 4]) (ss_cons (s_set (i := 10) scL11Side.nd rfl (by walk_at "zM") rfl (be_fn f_joined (hr.mono (by decide)) tk (ba_cons (be_fn f__law_family (hr.mono (by decide)) tk (ba_cons (be_var (i := 1) rfl (by walk_at "zL") rfl) ba_nil)) (ba_cons (be_fn f__law_family (hr.mono (by decide)) tk (ba_cons (be_tup (ba_cons (be_f (bf_lc (own := [("_law_place", 11)]) (is := [11]) (by rfl) scL11Side.nd (i_io (i_list (be_ix ix_seq od_ix (be_o (be_var (i := 2) rfl (by walk_at "zL") rfl)) (be_o be_int) (fun _ _ => rfl)))) (blkOk_by (own := [("_law_place", 11)]) (N := nL11Side) (sc := defScope sL11Side) (by decide +kernel)) (fun _ _ _ _ _ => (g_name (i := 11) scL11Side.nd rfl (by walk_at "zM") rfl)) (fun _ _ _ _ _ => pts0) (fun _ _ _ _ _ => (be_dget hu (bo_var (i := 4) rfl (by walk_at "zL") rfl) (be_var (i := 11) rfl (by walk_at "zL") rfl) (fun _ _ => rfl))) rfl rfl)) (ba_cons (be_var (i := 6) rfl (by walk_at "zL") rfl) ba_nil))) ba_nil)) ba_nil))))
    (ss_pre (O2 := [4]) (ss_one (s_ret (be_cmp op_isN od_is (be_o (be_fn f_alike (hr.mono (by decide)) tk (ba_cons (be_fn f__law_family (hr.mono (by decide)) tk (ba_cons (be_tup (ba_cons (be_var (i := 9) rfl (by walk_at "zL") rfl) (ba_cons (be_var (i := 5) rfl (by walk_at "zL") rfl) ba_nil))) ba_nil)) (ba_cons (be_var (i := 10) rfl (by walk_at "zL") rfl) ba_nil)))) (be_o be_non) (nomark _)))) rfl)) rfl)))))))
theorem okr_L11Steps (F : FnS K "_law_steps_right" "_law_steps_right" sL11Steps f fd) (B : Bl mg) (f__law_draw : Fn P w (T1 K) mg base 1 "_law_draw" ["_law_well", "_law_many"] 0 F_LDraw) (f__law_family : Fn P w (T1 K) mg base 6 "_law_family" ["_law_parts"] 0 F_L11Family) (f__law_merged : Fn P w (T1 K) mg base 1 "_law_merged" ["_law_places", "_law_ties", "_law_tie"] 0 F_L11Merged) (f__law_pick : Fn P w (T1 K) mg base 2 "_law_pick" ["_law_well", "_law_some"] 0 F_LPick) (f__law_without : Fn P w (T1 K) mg base 1 "_law_without" ["_law_places", "_law_ties", "_law_lot_here"] 0 F_L11Without) (f_alike : Fn P w (T1 K) mg base 14 "alike" ["one", "other"] 0 F_Alike) (f_drawn_in : Fn P w (T1 K) mg base 4 "drawn_in" ["family", "lot"] 0 F_DrawnIn) (f_without : Fn P w (T1 K) mg base 4 "without" ["family", "lot"] 0 F_Without) : FnOk P w K mg base (L2.CX P w) 17 f fd ["_law_well", "_law_places", "_law_ties", "_law_family_here"] (spOf (T1 K) 0 4 (fnD 0 nL11Steps.length 4 r_L11Steps)) := by
  refine ok_fn (On := []) F scL11Steps fun cdv A outer s H E hr tk => ?_
  exact (ss_cons (s_for (passes_of rfl) (by rfl) (i_range1 (by rfl) B.range be_int) (g_name (i := 4) scL11Steps.nd rfl (by walk_at "zM") rfl) rfl
    (ss_cons (s_if (bt_cmp (op_eqDD (u65 hr)) od_eqDD (be_o (be_var (i := 2) rfl (by walk_at "zL") rfl)) (be_o (be_f bf_dnew)) (nomark _))
    (ss_one (s_ret be_bl))
    ss_nil)
    (ss_cons (s_set (i := 5) scL11Steps.nd rfl (by walk_at "zM") rfl (be_fn f__law_pick (hr.mono (by decide)) tk (ba_cons (be_var (i := 0) rfl (by walk_at "zL") rfl) (ba_cons (be_f (bf_bf (call_sortedD rfl) cd_sortedDk (by rfl) B.sorted (by decide +kernel) (bo_cons (be_o (be_var (i := 2) rfl (by walk_at "zL") rfl)) bo_nil))) ba_nil))))
    (ss_cons (s_if (bt_cmp (op_eqD hr.units) od_eq (be_o (be_fn f__law_draw (hr.mono (by decide)) tk (ba_cons (be_var (i := 0) rfl (by walk_at "zL") rfl) (ba_cons be_int ba_nil)))) (be_o be_int) (nomark _))
    (ss_cons (s_asg (be_fn f__law_merged (hr.mono (by decide)) tk (ba_cons (be_var (i := 1) rfl (by walk_at "zL") rfl) (ba_cons (be_var (i := 2) rfl (by walk_at "zL") rfl) (ba_cons (be_var (i := 5) rfl (by walk_at "zL") rfl) ba_nil)))) (g_tup (is := ([1] ++ ([2] ++ []))) (n := 2) (by rfl) (g_cons (is := [1]) (g_name (i := 1) scL11Steps.nd rfl (by walk_at "zM") rfl) (g_cons (is := [2]) (g_name (i := 2) scL11Steps.nd rfl (by walk_at "zM") rfl) g_nil rfl) rfl)) rfl)
    (ss_one (s_set (i := 3) scL11Steps.nd rfl (by walk_at "zM") rfl (be_fn f_drawn_in (hr.mono (by decide)) tk (ba_cons (be_var (i := 3) rfl (by walk_at "zL") rfl) (ba_cons (be_f (bf_lst (ba_cons (be_var (i := 5) rfl (by walk_at "zL") rfl) ba_nil))) ba_nil))))))
    (ss_cons (s_set (i := 6) scL11Steps.nd rfl (by walk_at "zM") rfl (be_op or_add od_add (be_o (be_f (bf_lst (ba_cons (be_var (i := 5) rfl (by walk_at "zL") rfl) ba_nil)))) (be_o (be_f (bf_lcK (own := [("_law_name", 7)]) (is := [7]) (lock1 K) (by rfl) scL11Steps.nd (path_var rfl (by walk_at "zL") rfl) (blkOk_by (own := [("_law_name", 7)]) (N := nL11Steps) (sc := defScope sL11Steps) (by decide +kernel)) (fun _ _ _ _ _ => (g_name (i := 7) scL11Steps.nd rfl (by walk_at "zM") rfl)) (fun _ _ _ _ _ => (pts_one (PW.pt (bw_and (bt_cmp (op_neD hr.units) od_ne (be_o (be_var (i := 7) rfl (by walk_at "zL") rfl)) (be_o (be_var (i := 5) rfl (by walk_at "zL") rfl)) (nomark _)) (bw_and1 (bt_cmp (op_eqD hr.units) od_eq (be_o (be_fn f__law_draw (hr.mono (by decide)) takes0 (ba_cons (be_var (i := 0) rfl (by walk_at "zL") rfl) (ba_cons be_int ba_nil)))) (be_o be_int) (nomark _))))))) (fun _ _ _ _ _ => (be_var (i := 7) rfl (by walk_at "zL") rfl)) rfl rfl)))))
    (ss_cons (s_asg (be_fn f__law_without (hr.mono (by decide)) tk (ba_cons (be_var (i := 1) rfl (by walk_at "zL") rfl) (ba_cons (be_var (i := 2) rfl (by walk_at "zL") rfl) (ba_cons (be_var (i := 6) rfl (by walk_at "zL") rfl) ba_nil)))) (g_tup (is := ([1] ++ ([2] ++ []))) (n := 2) (by rfl) (g_cons (is := [1]) (g_name (i := 1) scL11Steps.nd rfl (by walk_at "zM") rfl) (g_cons (is := [2]) (g_name (i := 2) scL11Steps.nd rfl (by walk_at "zM") rfl) g_nil rfl) rfl)) rfl)
    (ss_one (s_set (i := 3) scL11Steps.nd rfl (by walk_at "zM") rfl (be_fn f_without (hr.mono (by decide)) tk (ba_cons (be_var (i := 3) rfl (by walk_at "zL") rfl) (ba_cons (be_var (i := 6) rfl (by walk_at "zL") rfl) ba_nil))))))))
    (ss_one (s_if (bt_cmp op_notN od_isnot (be_o (be_fn f_alike (hr.mono (by decide)) tk (ba_cons (be_fn f__law_family (hr.mono (by decide)) tk (ba_cons (be_tup (ba_cons (be_var (i := 1) rfl (by walk_at "zL") rfl) (ba_cons (be_var (i := 2) rfl (by walk_at "zL") rfl) ba_nil))) ba_nil)) (ba_cons (be_var (i := 3) rfl (by walk_at "zL") rfl) ba_nil)))) (be_o be_non) (nomark _))
    (ss_one (s_ret be_bl))
    ss_nil))))))
    (ss_one (s_ret be_bl)))
end
end L11
namespace L11
open PySem PySem.Spec PyProof.Rows L2 Evl Bf Dz
section
variable {P : Program} {w : World} {K : PySem.W.Frag} {mg : Str → Option Value} {base : Heap} {f : Addr} {fd : FuncData} {T : Th K}
theorem okr_L11Right (F : FnS K "_law_right" "_law_right" sL11Right f fd) (B : Bl mg) (f__law_doubled : Fn P w (T1 K) mg base 17 "_law_doubled" ["_law_well", "_law_places", "_law_ties", "_law_family_here"] 0 F_L11Doubled) (f__law_draw : Fn P w (T1 K) mg base 1 "_law_draw" ["_law_well", "_law_many"] 0 F_LDraw) (f__law_family : Fn P w (T1 K) mg base 6 "_law_family" ["_law_parts"] 0 F_L11Family) (f__law_side_by_side : Fn P w (T1 K) mg base 17 "_law_side_by_side" ["_law_well", "_law_one", "_law_other", "_law_has_common"] 0 F_L11Side) (f__law_steps_right : Fn P w (T1 K) mg base 17 "_law_steps_right" ["_law_well", "_law_places", "_law_ties", "_law_family_here"] 0 F_L11Steps) (f__law_web_drawn : Fn P w (T1 K) mg base 4 "_law_web_drawn" ["_law_well", "_law_most"] 0 F_LWebL) : FnOk P w K mg base (L2.CX P w) 18 f fd ["_law_well"] (spOf (T1 K) 0 1 (fnD 0 nL11Right.length 1 r_L11Right)) := by
  refine ok_fn (On := []) F scL11Right fun cdv A outer s H E hr tk => ?_
  have hu := hu_of hr
  exact (ss_cons (s_asg (be_fn f__law_web_drawn (hr.mono (by decide)) tk (ba_cons (be_var (i := 0) rfl (by walk_at "zL") rfl) (ba_cons be_int ba_nil))) (g_tup (is := ([1] ++ ([2] ++ []))) (n := 2) (by rfl) (g_cons (is := [1]) (g_name (i := 1) scL11Right.nd rfl (by walk_at "zM") rfl) (g_cons (is := [2]) (g_name (i := 2) scL11Right.nd rfl (by walk_at "zM") rfl) g_nil rfl) rfl)) rfl)
    (ss_cons (s_set (i := 3) scL11Right.nd rfl (by walk_at "zM") rfl (be_fn f__law_family (hr.mono (by decide)) tk (ba_cons (be_tup (ba_cons (be_var (i := 1) rfl (by walk_at "zL") rfl) (ba_cons (be_var (i := 2) rfl (by walk_at "zL") rfl) ba_nil))) ba_nil)))
    (ss_cons (s_if (PW.pt (bw_and (bt_cmp (op_neD0 (u65 hr)) od_neD0 (be_o (be_var (i := 2) rfl (by walk_at "zL") rfl)) (be_o (be_f bf_dnew)) (nomark _)) (bw_and1 (bt_not (bt_val (be_fn f__law_doubled (hr.mono (by decide)) tk (ba_cons (be_var (i := 0) rfl (by walk_at "zL") rfl) (ba_cons (be_var (i := 1) rfl (by walk_at "zL") rfl) (ba_cons (be_var (i := 2) rfl (by walk_at "zL") rfl) (ba_cons (be_var (i := 3) rfl (by walk_at "zL") rfl) ba_nil))))))))))
    (ss_one (s_ret be_bl))
    ss_nil)
    (ss_cons (s_if (bt_not (bt_val (be_fn f__law_steps_right (hr.mono (by decide)) tk (ba_cons (be_var (i := 0) rfl (by walk_at "zL") rfl) (ba_cons (be_var (i := 1) rfl (by walk_at "zL") rfl) (ba_cons (be_var (i := 2) rfl (by walk_at "zL") rfl) (ba_cons (be_var (i := 3) rfl (by walk_at "zL") rfl) ba_nil)))))))
    (ss_one (s_ret be_bl))
    ss_nil)
    (ss_cons (s_set (i := 4) scL11Right.nd rfl (by walk_at "zM") rfl (be_fn f__law_web_drawn (hr.mono (by decide)) tk (ba_cons (be_var (i := 0) rfl (by walk_at "zL") rfl) (ba_cons be_int ba_nil))))
    (ss_cons (s_set (i := 5) scL11Right.nd rfl (by walk_at "zM") rfl (be_tup (ba_cons (be_var (i := 1) rfl (by walk_at "zL") rfl) (ba_cons (be_f (bf_bt (call_dictP rfl) cd_dictP (by rfl) B.dict (by decide +kernel) (bo_cons (be_o (be_f (bf_lc (own := [("_law_name", 6)]) (is := [6]) (by rfl) scL11Right.nd (i_io (i_list (be_slice (be_o (be_f (bf_bf (call_sortedD rfl) cd_sortedDk (by rfl) B.sorted (by decide +kernel) (bo_cons (be_o (be_var (i := 2) rfl (by walk_at "zL") rfl)) bo_nil)))) bp_none (bp_some be_int)))) (blkOk_by (own := [("_law_name", 6)]) (N := nL11Right) (sc := defScope sL11Right) (by decide +kernel)) (fun _ _ _ _ _ => (g_name (i := 6) scL11Right.nd rfl (by walk_at "zM") rfl)) (fun _ _ _ _ _ => pts0) (fun _ _ _ _ _ => (be_tup (ba_cons (be_var (i := 6) rfl (by walk_at "zL") rfl) (ba_cons (be_dget hu (be_o (be_var (i := 2) rfl (by walk_at "zL") rfl)) (be_var (i := 6) rfl (by walk_at "zL") rfl) (fun _ _ => rfl)) ba_nil)))) rfl rfl))) bo_nil))) ba_nil))))
    (ss_one (s_ret (be_fn f__law_side_by_side (hr.mono (by decide)) tk (ba_cons (be_var (i := 0) rfl (by walk_at "zL") rfl) (ba_cons (be_var (i := 5) rfl (by walk_at "zL") rfl) (ba_cons (be_var (i := 4) rfl (by walk_at "zL") rfl) (ba_cons (be_cmp (op_eqD hr.units) od_eq (be_o (be_fn f__law_draw (hr.mono (by decide)) tk (ba_cons (be_var (i := 0) rfl (by walk_at "zL") rfl) (ba_cons be_int ba_nil)))) (be_o be_int) (nomark _)) ba_nil)))))))))))))
theorem okr_Law11 (F : FnS K "law" "law" sLaw11 f fd) (B : Bl mg) (f__law_right : Fn P w (T1 K) mg base 18 "_law_right" ["_law_well"] 0 F_L11Right) (f__law_source : Fn P w (T1 K) mg base 1 "_law_source" ["_law_cell"] 0 F_LSource) : FnOk P w K mg base (L2.CX P w) 19 f fd ["_law_script"] (spOf (T1 K) 0 1 (fnD 0 nLaw11.length 1 r_Law11)) := by
  refine ok_fn (On := []) F scLaw11 fun cdv A outer s H E hr tk => ?_
  exact (ss_one (s_ret (be_bf (cr_all rfl) cd_all (by rfl) B.all (by decide +kernel) (bo_cons (be_o (be_f (bf_lc (own := [("_law_cell", 1)]) (is := [1]) (by rfl) scLaw11.nd (i_io (i_list (be_op or_add od_add (be_o (be_slice (be_o (be_var (i := 0) rfl (by walk_at "zL") rfl)) bp_none (bp_some be_int))) (be_o (be_f (bf_lst (ba_cons be_int ba_nil))))))) (blkOk_by (own := [("_law_cell", 1)]) (N := nLaw11) (sc := defScope sLaw11) (by decide +kernel)) (fun _ _ _ _ _ => (g_name (i := 1) scLaw11.nd rfl (by walk_at "zM") rfl)) (fun _ _ _ _ _ => pts0) (fun _ _ _ _ _ => (be_fn f__law_right (hr.mono (by decide)) takes0 (ba_cons (be_fn f__law_source (hr.mono (by decide)) takes0 (ba_cons (be_var (i := 1) rfl (by walk_at "zL") rfl) ba_nil)) ba_nil))) rfl rfl))) bo_nil))))
end
end L11
namespace L11
open PySem PySem.Spec PyProof.Rows L2 Evl Bf Dz

section
variable {P : Program} {w : World} {K : PySem.W.Frag} {mg : Str → Option Value} {base : Heap}
def spL (K : PySem.W.Frag) : Sp := fun vs H Q _ => spOf (T1 K) 0 1 F_Law11 vs H Q fun _ _ _ => False
theorem facts {h : Heap} {f : Addr} (X : K.In h) (G : h.Ns mainGlobals mg) (hfa : mg ("law" : Str) = some (.ref f)) (c : Bf.SayB fn ex K) :
    ∃ fd : FuncData, (∀ (s : Shared) (v : Value), BindsTo s fd ⟨[v], []⟩ [("_law_script", v)]) ∧ ∀ base : Heap, K.In base → base.Ns mainGlobals mg → FnOk P w K mg base CX0 19 f fd ["_law_script"] (spL K) := by
  obtain ⟨h1, h'⟩ := Bool.and_eq_true_iff.mp c.more
  obtain ⟨h2, h'⟩ := Bool.and_eq_true_iff.mp h'
  obtain ⟨h3, h'⟩ := Bool.and_eq_true_iff.mp h'
  obtain ⟨e0, h'⟩ := Bool.and_eq_true_iff.mp h'
  obtain ⟨e1, h'⟩ := Bool.and_eq_true_iff.mp h'
  obtain ⟨e2, h'⟩ := Bool.and_eq_true_iff.mp h'
  obtain ⟨e3, h'⟩ := Bool.and_eq_true_iff.mp h'
  obtain ⟨e4, h'⟩ := Bool.and_eq_true_iff.mp h'
  obtain ⟨e5, h'⟩ := Bool.and_eq_true_iff.mp h'
  obtain ⟨e6, h'⟩ := Bool.and_eq_true_iff.mp h'
  obtain ⟨e7, h'⟩ := Bool.and_eq_true_iff.mp h'
  obtain ⟨e8, h'⟩ := Bool.and_eq_true_iff.mp h'
  obtain ⟨e9, h'⟩ := Bool.and_eq_true_iff.mp h'
  have e10 := h'
  have g : ∀ {x : Str}, x ∈ globs → mg x = some (.ref (He.ga K x)) := fun hx => globB_ok X G h1 hx
  have B : Bl mg := bl_of X G h2
  have a : ∀ {q : He.Fa} (i : Nat), fa[i]? = some q → q.ok K = true := fun i hq => List.all_eq_true.mp h3 _ (List.mem_of_getElem? hq)
  obtain ⟨fd_IsName, D_IsName⟩ := SayB.def_ c 0 (d := dd "is_name" sIsName) rfl
  replace D_IsName : FnS K "is_name" "is_name" sIsName (He.ga K "is_name") fd_IsName := D_IsName
  obtain ⟨fd_FirstW, D_FirstW⟩ := SayB.def_ c 1 (d := dd "first_wrong" sFirstW) rfl
  replace D_FirstW : FnS K "first_wrong" "first_wrong" sFirstW (He.ga K "first_wrong") fd_FirstW := D_FirstW
  obtain ⟨fd_NLot, D_NLot⟩ := SayB.def_ c 2 (d := dd "need_lot" sNLot) rfl
  replace D_NLot : FnS K "need_lot" "need_lot" sNLot (He.ga K "need_lot") fd_NLot := D_NLot
  obtain ⟨fd_FInit, D_FInit⟩ := SayB.def_ c 3 (d := dm "Family" "__init__" "Family.__init__" sFInit) rfl
  replace D_FInit : FnS K "__init__" "Family.__init__" sFInit (He.ma K (He.ga K "Family") "__init__") fd_FInit := D_FInit
  obtain ⟨fd_RankN, D_RankN⟩ := SayB.def_ c 4 (d := dm "Family" "rank_of" "Family.rank_of" sRankN) rfl
  replace D_RankN : FnS K "rank_of" "Family.rank_of" sRankN (He.ma K (He.ga K "Family") "rank_of") fd_RankN := D_RankN
  obtain ⟨fd_NPlaces, D_NPlaces⟩ := SayB.def_ c 5 (d := dd "need_places" sNPlaces) rfl
  replace D_NPlaces : FnS K "need_places" "need_places" sNPlaces (He.ga K "need_places") fd_NPlaces := D_NPlaces
  obtain ⟨fd_IsPair, D_IsPair⟩ := SayB.def_ c 6 (d := dd "is_pair" sIsPair) rfl
  replace D_IsPair : FnS K "is_pair" "is_pair" sIsPair (He.ga K "is_pair") fd_IsPair := D_IsPair
  obtain ⟨fd_WInit, D_WInit⟩ := SayB.def_ c 7 (d := dm "Web" "__init__" "Web.__init__" sWInit) rfl
  replace D_WInit : FnS K "__init__" "Web.__init__" sWInit (He.ma K (He.ga K "Web") "__init__") fd_WInit := D_WInit
  obtain ⟨fd_WMarks, D_WMarks⟩ := SayB.def_ c 8 (d := dm "Web" "marks" "Web.marks" sWMarks) rfl
  replace D_WMarks : FnS K "marks" "Web.marks" sWMarks (He.ma K (He.ga K "Web") "marks") fd_WMarks := D_WMarks
  obtain ⟨fd_WCount, D_WCount⟩ := SayB.def_ c 9 (d := dm "Web" "count_free" "Web.count_free" sWCount) rfl
  replace D_WCount : FnS K "count_free" "Web.count_free" sWCount (He.ma K (He.ga K "Web") "count_free") fd_WCount := D_WCount
  obtain ⟨fd_TiesF, D_TiesF⟩ := SayB.def_ c 10 (d := dd "ties_family" sTiesF) rfl
  replace D_TiesF : FnS K "ties_family" "ties_family" sTiesF (He.ga K "ties_family") fd_TiesF := D_TiesF
  obtain ⟨fd_LSource, D_LSource⟩ := SayB.def_ c 11 (d := dd "_law_source" sLSource) rfl
  replace D_LSource : FnS K "_law_source" "_law_source" sLSource (He.ga K "_law_source") fd_LSource := D_LSource
  obtain ⟨fd_LDraw, D_LDraw⟩ := SayB.def_ c 12 (d := dd "_law_draw" sLDraw) rfl
  replace D_LDraw : FnS K "_law_draw" "_law_draw" sLDraw (He.ga K "_law_draw") fd_LDraw := D_LDraw
  obtain ⟨fd_LPick, D_LPick⟩ := SayB.def_ c 13 (d := dd "_law_pick" sLPick) rfl
  replace D_LPick : FnS K "_law_pick" "_law_pick" sLPick (He.ga K "_law_pick") fd_LPick := D_LPick
  obtain ⟨fd_LNames, D_LNames⟩ := SayB.def_ c 14 (d := dd "_law_names" sLNames) rfl
  replace D_LNames : FnS K "_law_names" "_law_names" sLNames (He.ga K "_law_names") fd_LNames := D_LNames
  obtain ⟨fd_LShuf, D_LShuf⟩ := SayB.def_ c 15 (d := dd "_law_shuffled" sLShuf) rfl
  replace D_LShuf : FnS K "_law_shuffled" "_law_shuffled" sLShuf (He.ga K "_law_shuffled") fd_LShuf := D_LShuf
  obtain ⟨fd_LWebL, D_LWebL⟩ := SayB.def_ c 16 (d := dd "_law_web_drawn" sLWebL) rfl
  replace D_LWebL : FnS K "_law_web_drawn" "_law_web_drawn" sLWebL (He.ga K "_law_web_drawn") fd_LWebL := D_LWebL
  obtain ⟨fd_Less, D_Less⟩ := SayB.def_ c 17 (d := dd "less" sLess) rfl
  replace D_Less : FnS K "less" "less" sLess (He.ga K "less") fd_Less := D_Less
  obtain ⟨fd_WithT, D_WithT⟩ := SayB.def_ c 18 (d := dd "with_thing" sWithT) rfl
  replace D_WithT : FnS K "with_thing" "with_thing" sWithT (He.ga K "with_thing") fd_WithT := D_WithT
  obtain ⟨fd_DrInit, D_DrInit⟩ := SayB.def_ c 19 (d := dm "Drawn" "__init__" "Drawn.__init__" sDrInit) rfl
  replace D_DrInit : FnS K "__init__" "Drawn.__init__" sDrInit (He.ma K (He.ga K "Drawn") "__init__") fd_DrInit := D_DrInit
  obtain ⟨fd_JoInit, D_JoInit⟩ := SayB.def_ c 20 (d := dm "Joined" "__init__" "Joined.__init__" sJoInit) rfl
  replace D_JoInit : FnS K "__init__" "Joined.__init__" sJoInit (He.ma K (He.ga K "Joined") "__init__") fd_JoInit := D_JoInit
  obtain ⟨fd_FThings, D_FThings⟩ := SayB.def_ c 21 (d := dm "Family" "things" "Family.things" sFThings) rfl
  replace D_FThings : FnS K "things" "Family.things" sFThings (He.ma K (He.ga K "Family") "things") fd_FThings := D_FThings
  obtain ⟨fd_FLen, D_FLen⟩ := SayB.def_ c 22 (d := dm "Family" "__len__" "Family.__len__" sFLen) rfl
  replace D_FLen : FnS K "__len__" "Family.__len__" sFLen (He.ma K (He.ga K "Family") "__len__") fd_FLen := D_FLen
  obtain ⟨fd_FHas, D_FHas⟩ := SayB.def_ c 23 (d := dm "Family" "__contains__" "Family.__contains__" sFHas) rfl
  replace D_FHas : FnS K "__contains__" "Family.__contains__" sFHas (He.ma K (He.ga K "Family") "__contains__") fd_FHas := D_FHas
  obtain ⟨fd_FRank, D_FRank⟩ := SayB.def_ c 24 (d := dm "Family" "rank" "Family.rank" sFRank) rfl
  replace D_FRank : FnS K "rank" "Family.rank" sFRank (He.ma K (He.ga K "Family") "rank") fd_FRank := D_FRank
  obtain ⟨fd_FStuck, D_FStuck⟩ := SayB.def_ c 25 (d := dm "Family" "stuck" "Family.stuck" sFStuck) rfl
  replace D_FStuck : FnS K "stuck" "Family.stuck" sFStuck (He.ma K (He.ga K "Family") "stuck") fd_FStuck := D_FStuck
  obtain ⟨fd_NAlike, D_NAlike⟩ := SayB.def_ c 26 (d := dd "need_alike" sNAlike) rfl
  replace D_NAlike : FnS K "need_alike" "need_alike" sNAlike (He.ga K "need_alike") fd_NAlike := D_NAlike
  obtain ⟨fd_NFew, D_NFew⟩ := SayB.def_ c 27 (d := dd "need_few" sNFew) rfl
  replace D_NFew : FnS K "need_few" "need_few" sNFew (He.ga K "need_few") fd_NFew := D_NFew
  obtain ⟨fd_LotsOf, D_LotsOf⟩ := SayB.def_ c 28 (d := dd "lots_of" sLotsOf) rfl
  replace D_LotsOf : FnS K "lots_of" "lots_of" sLotsOf (He.ga K "lots_of") fd_LotsOf := D_LotsOf
  obtain ⟨fd_Alike, D_Alike⟩ := SayB.def_ c 29 (d := dd "alike" sAlike) rfl
  replace D_Alike : FnS K "alike" "alike" sAlike (He.ga K "alike") fd_Alike := D_Alike
  obtain ⟨fd_Inside, D_Inside⟩ := SayB.def_ c 30 (d := dd "inside" sInside) rfl
  replace D_Inside : FnS K "inside" "inside" sInside (He.ga K "inside") fd_Inside := D_Inside
  obtain ⟨fd_Without, D_Without⟩ := SayB.def_ c 31 (d := dd "without" sWithout) rfl
  replace D_Without : FnS K "without" "without" sWithout (He.ga K "without") fd_Without := D_Without
  obtain ⟨fd_DrawnIn, D_DrawnIn⟩ := SayB.def_ c 32 (d := dd "drawn_in" sDrawnIn) rfl
  replace D_DrawnIn : FnS K "drawn_in" "drawn_in" sDrawnIn (He.ga K "drawn_in") fd_DrawnIn := D_DrawnIn
  obtain ⟨fd_JoinedF, D_JoinedF⟩ := SayB.def_ c 33 (d := dd "joined" sJoinedF) rfl
  replace D_JoinedF : FnS K "joined" "joined" sJoinedF (He.ga K "joined") fd_JoinedF := D_JoinedF
  obtain ⟨fd_LLot, D_LLot⟩ := SayB.def_ c 34 (d := dd "_law_lot" sLLot) rfl
  replace D_LLot : FnS K "_law_lot" "_law_lot" sLLot (He.ga K "_law_lot") fd_LLot := D_LLot
  obtain ⟨fd_L11Merged, D_L11Merged⟩ := SayB.def_ c 35 (d := dd "_law_merged" sL11Merged) rfl
  replace D_L11Merged : FnS K "_law_merged" "_law_merged" sL11Merged (He.ga K "_law_merged") fd_L11Merged := D_L11Merged
  obtain ⟨fd_L11Without, D_L11Without⟩ := SayB.def_ c 36 (d := dd "_law_without" sL11Without) rfl
  replace D_L11Without : FnS K "_law_without" "_law_without" sL11Without (He.ga K "_law_without") fd_L11Without := D_L11Without
  obtain ⟨fd_L11Family, D_L11Family⟩ := SayB.def_ c 37 (d := dd "_law_family" sL11Family) rfl
  replace D_L11Family : FnS K "_law_family" "_law_family" sL11Family (He.ga K "_law_family") fd_L11Family := D_L11Family
  obtain ⟨fd_L11Doubled, D_L11Doubled⟩ := SayB.def_ c 38 (d := dd "_law_doubled" sL11Doubled) rfl
  replace D_L11Doubled : FnS K "_law_doubled" "_law_doubled" sL11Doubled (He.ga K "_law_doubled") fd_L11Doubled := D_L11Doubled
  obtain ⟨fd_L11Side, D_L11Side⟩ := SayB.def_ c 39 (d := dd "_law_side_by_side" sL11Side) rfl
  replace D_L11Side : FnS K "_law_side_by_side" "_law_side_by_side" sL11Side (He.ga K "_law_side_by_side") fd_L11Side := D_L11Side
  obtain ⟨fd_L11Steps, D_L11Steps⟩ := SayB.def_ c 40 (d := dd "_law_steps_right" sL11Steps) rfl
  replace D_L11Steps : FnS K "_law_steps_right" "_law_steps_right" sL11Steps (He.ga K "_law_steps_right") fd_L11Steps := D_L11Steps
  obtain ⟨fd_L11Right, D_L11Right⟩ := SayB.def_ c 41 (d := dd "_law_right" sL11Right) rfl
  replace D_L11Right : FnS K "_law_right" "_law_right" sL11Right (He.ga K "_law_right") fd_L11Right := D_L11Right
  obtain ⟨fd_Law11, D_Law11⟩ := SayB.def_ c 42 (d := dd "law" sLaw11) rfl
  replace D_Law11 : FnS K "law" "law" sLaw11 (He.ga K "law") fd_Law11 := D_Law11
  obtain ⟨fd_DrCount, D_DrCount⟩ := SayB.def_ c 43 (d := dm "Drawn" "count_free" "Drawn.count_free" sDrCount) rfl
  replace D_DrCount : FnS K "count_free" "Drawn.count_free" sDrCount (He.ma K (He.ga K "Drawn") "count_free") fd_DrCount := D_DrCount
  obtain ⟨fd_JoCount, D_JoCount⟩ := SayB.def_ c 44 (d := dm "Joined" "count_free" "Joined.count_free" sJoCount) rfl
  replace D_JoCount : FnS K "count_free" "Joined.count_free" sJoCount (He.ma K (He.ga K "Joined") "count_free") fd_JoCount := D_JoCount
  obtain ⟨fd_BadLot, D_BadLot⟩ := SayB.def_ c 45 (d := dm "BadLot" "__init__" "BadLot.__init__" xBadLot) rfl
  replace D_BadLot : FnS K "__init__" "BadLot.__init__" xBadLot (He.ma K (He.ga K "BadLot") "__init__") fd_BadLot := D_BadLot
  obtain ⟨fd_TooMany, D_TooMany⟩ := SayB.def_ c 46 (d := dm "TooMany" "__init__" "TooMany.__init__" xTooMany) rfl
  replace D_TooMany : FnS K "__init__" "TooMany.__init__" xTooMany (He.ma K (He.ga K "TooMany") "__init__") fd_TooMany := D_TooMany
  obtain ⟨fd_BadPlaces, D_BadPlaces⟩ := SayB.def_ c 47 (d := dm "BadPlaces" "__init__" "BadPlaces.__init__" xBadPlaces) rfl
  replace D_BadPlaces : FnS K "__init__" "BadPlaces.__init__" xBadPlaces (He.ma K (He.ga K "BadPlaces") "__init__") fd_BadPlaces := D_BadPlaces
  obtain ⟨fd_BadTies, D_BadTies⟩ := SayB.def_ c 48 (d := dm "BadTies" "__init__" "BadTies.__init__" xBadTies) rfl
  replace D_BadTies : FnS K "__init__" "BadTies.__init__" xBadTies (He.ma K (He.ga K "BadTies") "__init__") fd_BadTies := D_BadTies
  obtain ⟨fd_SameThing, D_SameThing⟩ := SayB.def_ c 49 (d := dm "SameThing" "__init__" "SameThing.__init__" xSameThing) rfl
  replace D_SameThing : FnS K "__init__" "SameThing.__init__" xSameThing (He.ma K (He.ga K "SameThing") "__init__") fd_SameThing := D_SameThing
  have e := hfa.symm.trans (g (x := "law") (by decide))
  cases e
  have b := FunD.bindsA (ps := ["_law_script"]) D_Law11 (fun _ _ _ _ _ _ us hl => match us, hl with | [_], _ => rfl)
  refine ⟨fd_Law11, fun s v => b s [v] rfl, fun base _ _ => ?_⟩
  have x_BadLot : ExT P w K mg base "BadLot" "index" (He.ga K "BadLot") := excB_ok e0 (g (by decide)) (by
    obtain ⟨ps, o⟩ := ok_xinit (P := P) (w := w) (mg := mg) (base := base) (fld := "index") D_BadLot rfl ⟨rfl, rfl, rfl, by decide +kernel, rfl, by decide +kernel, by decide +kernel⟩ rfl rfl (by decide) (by decide) (fun _ _ _ _ _ _ us hl => match us, hl with | [_, _], _ => rfl)
    exact ⟨fd_BadLot, ps, o⟩)
  have x_TooMany : ExT P w K mg base "TooMany" "limit" (He.ga K "TooMany") := excB_ok e1 (g (by decide)) (by
    obtain ⟨ps, o⟩ := ok_xinit (P := P) (w := w) (mg := mg) (base := base) (fld := "limit") D_TooMany rfl ⟨rfl, rfl, rfl, by decide +kernel, rfl, by decide +kernel, by decide +kernel⟩ rfl rfl (by decide) (by decide) (fun _ _ _ _ _ _ us hl => match us, hl with | [_, _], _ => rfl)
    exact ⟨fd_TooMany, ps, o⟩)
  have x_BadPlaces : ExT P w K mg base "BadPlaces" "index" (He.ga K "BadPlaces") := excB_ok e2 (g (by decide)) (by
    obtain ⟨ps, o⟩ := ok_xinit (P := P) (w := w) (mg := mg) (base := base) (fld := "index") D_BadPlaces rfl ⟨rfl, rfl, rfl, by decide +kernel, rfl, by decide +kernel, by decide +kernel⟩ rfl rfl (by decide) (by decide) (fun _ _ _ _ _ _ us hl => match us, hl with | [_, _], _ => rfl)
    exact ⟨fd_BadPlaces, ps, o⟩)
  have x_BadTies : ExT P w K mg base "BadTies" "name" (He.ga K "BadTies") := excB_ok e3 (g (by decide)) (by
    obtain ⟨ps, o⟩ := ok_xinit (P := P) (w := w) (mg := mg) (base := base) (fld := "name") D_BadTies rfl ⟨rfl, rfl, rfl, by decide +kernel, rfl, by decide +kernel, by decide +kernel⟩ rfl rfl (by decide) (by decide) (fun _ _ _ _ _ _ us hl => match us, hl with | [_, _], _ => rfl)
    exact ⟨fd_BadTies, ps, o⟩)
  have x_SameThing : ExT P w K mg base "SameThing" "thing" (He.ga K "SameThing") := excB_ok e4 (g (by decide)) (by
    obtain ⟨ps, o⟩ := ok_xinit (P := P) (w := w) (mg := mg) (base := base) (fld := "thing") D_SameThing rfl ⟨rfl, rfl, rfl, by decide +kernel, rfl, by decide +kernel, by decide +kernel⟩ rfl rfl (by decide) (by decide) (fun _ _ _ _ _ _ us hl => match us, hl with | [_, _], _ => rfl)
    exact ⟨fd_SameThing, ps, o⟩)
  have c_LETTERS := He.str_ok X G (a 0 rfl)
  have c_MOST_LETTERS := He.int_ok X G (a 1 rfl)
  have c_MOST_THINGS := He.int_ok X G (a 2 rfl)
  have c_MOST_PLACES := He.int_ok X G (a 3 rfl)
  have c_MOST_LISTED := He.int_ok X G (a 4 rfl)
  have T_Family : ClsF K "Family" ["names", "source", "counted"] := clsFB_ok e6
  have g_Family : mg "Family" = some (.ref (He.ga K "Family")) := g (by decide)
  have T_Web : ClsT K "Web" ["known", "ending"] := clsB_ok e7
  have g_Web : mg "Web" = some (.ref (He.ga K "Web")) := g (by decide)
  have T_Drawn : ClsT K "Drawn" ["inner", "lot"] := clsB_ok e8
  have g_Drawn : mg "Drawn" = some (.ref (He.ga K "Drawn")) := g (by decide)
  have T_Joined : ClsT K "Joined" ["first", "second"] := clsB_ok e9
  have g_Joined : mg "Joined" = some (.ref (He.ga K "Joined")) := g (by decide)
  have x0_UnlikeThings : Ex0T K mg "UnlikeThings" := exc0B_ok e5 (g (by decide))
  have g_BadLot : mg "BadLot" = some (.ref (He.ga K "BadLot")) := g (by decide)
  have g_TooMany : mg "TooMany" = some (.ref (He.ga K "TooMany")) := g (by decide)
  have g_BadPlaces : mg "BadPlaces" = some (.ref (He.ga K "BadPlaces")) := g (by decide)
  have g_BadTies : mg "BadTies" = some (.ref (He.ga K "BadTies")) := g (by decide)
  have g_SameThing : mg "SameThing" = some (.ref (He.ga K "SameThing")) := g (by decide)
  have xm : ExmT K ["BadLot", "TooMany", "BadPlaces", "BadTies", "UnlikeThings", "SameThing"] := exmB_ok e10
  have f_is_name : Fn P w (T1 K) mg base 1 "is_name" ["thing"] 0 F_IsName := Fn.to (fn_of_ok D_IsName (okr_IsName (P := P) (w := w) (base := base) D_IsName B c_LETTERS c_MOST_LETTERS) (g (by decide)) (fun _ _ _ _ _ _ us hl => match us, hl with | [_], _ => rfl)) n_IsName
  have f_first_wrong : Fn P w (T1 K) mg base 1 "first_wrong" ["items", "known"] 0 F_FirstW := Fn.to (fn_of_ok D_FirstW (okr_FirstW (P := P) (w := w) (base := base) D_FirstW B) (g (by decide)) (fun _ _ _ _ _ _ us hl => match us, hl with | [_, _], _ => rfl)) n_FirstW
  have f_need_lot : Fn P w (T1 K) mg base 3 "need_lot" ["known", "lot"] 0 F_NLot := Fn.to (fn_of_ok D_NLot (okr_NLot (P := P) (w := w) (base := base) D_NLot B f_first_wrong x_BadLot) (g (by decide)) (fun _ _ _ _ _ _ us hl => match us, hl with | [_, _], _ => rfl)) n_NLot
  have f_less : Fn P w (T1 K) mg base 1 "less" ["lot", "gone"] 0 F_Less := Fn.to (fn_of_ok D_Less (okr_Less (P := P) (w := w) (base := base) D_Less B) (g (by decide)) (fun _ _ _ _ _ _ us hl => match us, hl with | [_, _], _ => rfl)) n_Less
  have f_with_thing : Fn P w (T1 K) mg base 1 "with_thing" ["lot", "thing"] 0 F_WithT := Fn.to (fn_of_ok D_WithT (okr_WithT (P := P) (w := w) (base := base) D_WithT B) (g (by decide)) (fun _ _ _ _ _ _ us hl => match us, hl with | [_, _], _ => rfl)) n_WithT
  have m_Web_marks : MtD P w (T1 K) mg base 1 "Web" "marks" 2 1 F_WMarks := MtD.to ⟨T_Web.cl, _, fd_WMarks, _, He.meth_ok (a 10 rfl), (okr_WMarks (P := P) (w := w) (base := base) D_WMarks B T_Web), D_WMarks.bindsN (fun _ _ _ _ _ _ us hl => match us, hl with | [_, _], _ => rfl)⟩ n_WMarks
  have m_Web_count_free : MtD P w (T1 K) mg base 2 "Web" "count_free" 2 0 F_WCount := MtD.to ⟨T_Web.cl, _, fd_WCount, _, He.meth_ok (a 11 rfl), (okr_WCount (P := P) (w := w) (base := base) D_WCount B T_Web m_Web_marks), D_WCount.bindsN (fun _ _ _ _ _ _ us hl => match us, hl with | [_, _], _ => rfl)⟩ n_WCount
  have m_Drawn : MkD P w (T1 K) mg base 1 "Drawn" 2 F_DrInit := MkD.to ⟨g (by decide), _, fd_DrInit, _, He.mkr_ok (a 7 rfl), (okr_DrInit (P := P) (w := w) (base := base) D_DrInit T_Drawn), D_DrInit.bindsN (fun _ _ _ _ _ _ us hl => match us, hl with | [_, _, _], _ => rfl)⟩ n_DrInit
  have m_Joined : MkD P w (T1 K) mg base 1 "Joined" 2 F_JoInit := MkD.to ⟨g (by decide), _, fd_JoInit, _, He.mkr_ok (a 8 rfl), (okr_JoInit (P := P) (w := w) (base := base) D_JoInit T_Joined), D_JoInit.bindsN (fun _ _ _ _ _ _ us hl => match us, hl with | [_, _, _], _ => rfl)⟩ n_JoInit
  have m_Family___contains__ : MtD P w (T1 K) mg base 1 "Family" "__contains__" 2 0 F_FHas := MtD.to ⟨T_Family.cl, _, fd_FHas, _, He.meth_ok (a 14 rfl), (okr_FHas (P := P) (w := w) (base := base) D_FHas T_Family), D_FHas.bindsN (fun _ _ _ _ _ _ us hl => match us, hl with | [_, _], _ => rfl)⟩ n_FHas
  have m_Family : MkF P w K mg base 1 F_FInit := ⟨g (by decide), _, fd_FInit, _, He.mkr_ok (a 5 rfl), okr_FInit (P := P) (w := w) (base := base) D_FInit B T_Family, D_FInit.bindsN (fun _ _ _ _ _ _ us hl => match us, hl with | [_, _, _], _ => rfl)⟩
  have m_R0 : MtD P w (T1 K) mg base 4 "Family" "rank_of" 2 0 (F_RK 0) := ⟨T_Family.cl, _, fd_RankN, _, He.meth_ok (a 9 rfl), okr_RankC (P := P) (w := w) (base := base) (k := 3) D_RankN T_Family (rank_m0 m_Web_count_free), D_RankN.bindsN (fun _ _ _ _ _ _ us hl => match us, hl with | [_, _], _ => rfl)⟩
  have m_Dr0 : MtD P w (T1 K) mg base 5 "Drawn" "count_free" 2 0 (F_DrCount (F_RK 0)) := MtD.to ⟨T_Drawn.cl, _, fd_DrCount, _, He.meth_ok (a 17 rfl), okr_DrCount (P := P) (w := w) (base := base) (kl := 3) D_DrCount B T_Drawn m_R0, D_DrCount.bindsN (fun _ _ _ _ _ _ us hl => match us, hl with | [_, _], _ => rfl)⟩ (n_DrCount (mono_RK _))
  have m_Jo0 : MtD P w (T1 K) mg base 5 "Joined" "count_free" 2 0 (F_JoCount (F_RK 0)) := MtD.to ⟨T_Joined.cl, _, fd_JoCount, _, He.meth_ok (a 18 rfl), okr_JoCount (P := P) (w := w) (base := base) (kl := 3) D_JoCount B T_Joined m_Family___contains__ m_R0, D_JoCount.bindsN (fun _ _ _ _ _ _ us hl => match us, hl with | [_, _], _ => rfl)⟩ (n_JoCount (mono_RK _))
  have m_R1 : MtD P w (T1 K) mg base 6 "Family" "rank_of" 2 0 (F_RK 1) := ⟨T_Family.cl, _, fd_RankN, _, He.meth_ok (a 9 rfl), okr_RankC (P := P) (w := w) (base := base) (k := 5) D_RankN T_Family (rank_mk m_Web_count_free m_Dr0 m_Jo0), D_RankN.bindsN (fun _ _ _ _ _ _ us hl => match us, hl with | [_, _], _ => rfl)⟩
  have m_Dr1 : MtD P w (T1 K) mg base 7 "Drawn" "count_free" 2 0 (F_DrCount (F_RK 1)) := MtD.to ⟨T_Drawn.cl, _, fd_DrCount, _, He.meth_ok (a 17 rfl), okr_DrCount (P := P) (w := w) (base := base) (kl := 5) D_DrCount B T_Drawn m_R1, D_DrCount.bindsN (fun _ _ _ _ _ _ us hl => match us, hl with | [_, _], _ => rfl)⟩ (n_DrCount (mono_RK _))
  have m_Jo1 : MtD P w (T1 K) mg base 7 "Joined" "count_free" 2 0 (F_JoCount (F_RK 1)) := MtD.to ⟨T_Joined.cl, _, fd_JoCount, _, He.meth_ok (a 18 rfl), okr_JoCount (P := P) (w := w) (base := base) (kl := 5) D_JoCount B T_Joined m_Family___contains__ m_R1, D_JoCount.bindsN (fun _ _ _ _ _ _ us hl => match us, hl with | [_, _], _ => rfl)⟩ (n_JoCount (mono_RK _))
  have m_R2 : MtD P w (T1 K) mg base 8 "Family" "rank_of" 2 0 (F_RK 2) := ⟨T_Family.cl, _, fd_RankN, _, He.meth_ok (a 9 rfl), okr_RankC (P := P) (w := w) (base := base) (k := 7) D_RankN T_Family (rank_mk m_Web_count_free m_Dr1 m_Jo1), D_RankN.bindsN (fun _ _ _ _ _ _ us hl => match us, hl with | [_, _], _ => rfl)⟩
  have m_Dr2 : MtD P w (T1 K) mg base 9 "Drawn" "count_free" 2 0 (F_DrCount (F_RK 2)) := MtD.to ⟨T_Drawn.cl, _, fd_DrCount, _, He.meth_ok (a 17 rfl), okr_DrCount (P := P) (w := w) (base := base) (kl := 7) D_DrCount B T_Drawn m_R2, D_DrCount.bindsN (fun _ _ _ _ _ _ us hl => match us, hl with | [_, _], _ => rfl)⟩ (n_DrCount (mono_RK _))
  have m_Jo2 : MtD P w (T1 K) mg base 9 "Joined" "count_free" 2 0 (F_JoCount (F_RK 2)) := MtD.to ⟨T_Joined.cl, _, fd_JoCount, _, He.meth_ok (a 18 rfl), okr_JoCount (P := P) (w := w) (base := base) (kl := 7) D_JoCount B T_Joined m_Family___contains__ m_R2, D_JoCount.bindsN (fun _ _ _ _ _ _ us hl => match us, hl with | [_, _], _ => rfl)⟩ (n_JoCount (mono_RK _))
  have m_R3 : MtD P w (T1 K) mg base 10 "Family" "rank_of" 2 0 (F_RK 3) := ⟨T_Family.cl, _, fd_RankN, _, He.meth_ok (a 9 rfl), okr_RankC (P := P) (w := w) (base := base) (k := 9) D_RankN T_Family (rank_mk m_Web_count_free m_Dr2 m_Jo2), D_RankN.bindsN (fun _ _ _ _ _ _ us hl => match us, hl with | [_, _], _ => rfl)⟩
  have m_Dr3 : MtD P w (T1 K) mg base 11 "Drawn" "count_free" 2 0 (F_DrCount (F_RK 3)) := MtD.to ⟨T_Drawn.cl, _, fd_DrCount, _, He.meth_ok (a 17 rfl), okr_DrCount (P := P) (w := w) (base := base) (kl := 9) D_DrCount B T_Drawn m_R3, D_DrCount.bindsN (fun _ _ _ _ _ _ us hl => match us, hl with | [_, _], _ => rfl)⟩ (n_DrCount (mono_RK _))
  have m_Jo3 : MtD P w (T1 K) mg base 11 "Joined" "count_free" 2 0 (F_JoCount (F_RK 3)) := MtD.to ⟨T_Joined.cl, _, fd_JoCount, _, He.meth_ok (a 18 rfl), okr_JoCount (P := P) (w := w) (base := base) (kl := 9) D_JoCount B T_Joined m_Family___contains__ m_R3, D_JoCount.bindsN (fun _ _ _ _ _ _ us hl => match us, hl with | [_, _], _ => rfl)⟩ (n_JoCount (mono_RK _))
  have m_R4 : MtD P w (T1 K) mg base 12 "Family" "rank_of" 2 0 (F_RK 4) := ⟨T_Family.cl, _, fd_RankN, _, He.meth_ok (a 9 rfl), okr_RankC (P := P) (w := w) (base := base) (k := 11) D_RankN T_Family (rank_mk m_Web_count_free m_Dr3 m_Jo3), D_RankN.bindsN (fun _ _ _ _ _ _ us hl => match us, hl with | [_, _], _ => rfl)⟩
  have m_Family_rank_of : MtD P w (T1 K) mg base 12 "Family" "rank_of" 2 0 F_RankN := m_R4
  have m_Family_things : MtD P w (T1 K) mg base 1 "Family" "things" 1 1 F_FThings := MtD.to ⟨T_Family.cl, _, fd_FThings, _, He.meth_ok (a 12 rfl), (okr_FThings (P := P) (w := w) (base := base) D_FThings B T_Family), D_FThings.bindsN (fun _ _ _ _ _ _ us hl => match us, hl with | [_], _ => rfl)⟩ n_FThings
  have m_Family___len__ : MtD P w (T1 K) mg base 1 "Family" "__len__" 1 0 F_FLen := MtD.to ⟨T_Family.cl, _, fd_FLen, _, He.meth_ok (a 13 rfl), (okr_FLen (P := P) (w := w) (base := base) D_FLen B T_Family), D_FLen.bindsN (fun _ _ _ _ _ _ us hl => match us, hl with | [_], _ => rfl)⟩ n_FLen
  have m_Family_rank : MtD P w (T1 K) mg base 13 "Family" "rank" 2 0 F_FRank := MtD.to ⟨T_Family.cl, _, fd_FRank, _, He.meth_ok (a 15 rfl), (okr_FRank (P := P) (w := w) (base := base) D_FRank f_need_lot T_Family m_Family_rank_of), D_FRank.bindsN (fun _ _ _ _ _ _ us hl => match us, hl with | [_, _], _ => rfl)⟩ n_FRank
  have m_Family_stuck : MtD P w (T1 K) mg base 13 "Family" "stuck" 1 1 F_FStuck := MtD.to ⟨T_Family.cl, _, fd_FStuck, _, He.meth_ok (a 16 rfl), (okr_FStuck (P := P) (w := w) (base := base) D_FStuck T_Family m_Family_rank_of), D_FStuck.bindsN (fun _ _ _ _ _ _ us hl => match us, hl with | [_], _ => rfl)⟩ n_FStuck
  have f_need_places : Fn P w (T1 K) mg base 3 "need_places" ["places"] 0 F_NPlaces := Fn.to (fn_of_ok D_NPlaces (okr_NPlaces (P := P) (w := w) (base := base) D_NPlaces B c_MOST_PLACES f_is_name x_BadPlaces) (g (by decide)) (fun _ _ _ _ _ _ us hl => match us, hl with | [_], _ => rfl)) n_NPlaces
  have f_is_pair : Fn P w (T1 K) mg base 1 "is_pair" ["known", "thing"] 0 F_IsPair := Fn.to (fn_of_ok D_IsPair (okr_IsPair (P := P) (w := w) (base := base) D_IsPair B) (g (by decide)) (fun _ _ _ _ _ _ us hl => match us, hl with | [_, _], _ => rfl)) n_IsPair
  have m_Web : MkN P w (T1 K) mg base 4 "Web" 2 F_WInit := MkN.to ⟨g (by decide), _, fd_WInit, _, He.mkr_ok (a 6 rfl), (okr_WInit (P := P) (w := w) (base := base) D_WInit B c_MOST_THINGS f_is_name f_is_pair f_need_places x_BadTies x_TooMany T_Web), D_WInit.bindsN (fun _ _ _ _ _ _ us hl => match us, hl with | [_, _, _], _ => rfl)⟩ n_WInit
  have f_ties_family : Fn P w (T1 K) mg base 3 "ties_family" ["web"] 0 F_TiesF := Fn.to (fn_of_ok D_TiesF (okr_TiesF (P := P) (w := w) (base := base) D_TiesF B T_Web m_Family) (g (by decide)) (fun _ _ _ _ _ _ us hl => match us, hl with | [_], _ => rfl)) n_TiesF
  have f__law_source : Fn P w (T1 K) mg base 1 "_law_source" ["_law_cell"] 0 F_LSource := fn_of_ok D_LSource (okr_LSource (P := P) (w := w) (base := base) D_LSource B) (g (by decide)) (fun _ _ _ _ _ _ us hl => match us, hl with | [_], _ => rfl)
  have f__law_draw : Fn P w (T1 K) mg base 1 "_law_draw" ["_law_well", "_law_many"] 0 F_LDraw := fn_of_ok D_LDraw (okr_LDraw (P := P) (w := w) (base := base) D_LDraw B) (g (by decide)) (fun _ _ _ _ _ _ us hl => match us, hl with | [_, _], _ => rfl)
  have f__law_pick : Fn P w (T1 K) mg base 2 "_law_pick" ["_law_well", "_law_some"] 0 F_LPick := Fn.to (fn_of_ok D_LPick (okr_LPick (P := P) (w := w) (base := base) D_LPick B f__law_draw) (g (by decide)) (fun _ _ _ _ _ _ us hl => match us, hl with | [_, _], _ => rfl)) n_LPick
  have f__law_names : Fn P w (T1 K) mg base 3 "_law_names" ["_law_well", "_law_many"] 1 F_LNames := Fn.to (fn_of_ok D_LNames (okr_LNames (P := P) (w := w) (base := base) D_LNames B f__law_draw f__law_pick) (g (by decide)) (fun _ _ _ _ _ _ us hl => match us, hl with | [_, _], _ => rfl)) n_LNames
  have f__law_shuffled : Fn P w (T1 K) mg base 2 "_law_shuffled" ["_law_well", "_law_some"] 1 F_LShuf := Fn.to (fn_of_ok D_LShuf (okr_LShuf (P := P) (w := w) (base := base) D_LShuf B f__law_draw) (g (by decide)) (fun _ _ _ _ _ _ us hl => match us, hl with | [_, _], _ => rfl)) n_LShuf
  have f__law_lot : Fn P w (T1 K) mg base 3 "_law_lot" ["_law_well", "_law_things"] 1 F_LLot := Fn.to (fn_of_ok D_LLot (okr_LLot (P := P) (w := w) (base := base) D_LLot f__law_draw f__law_shuffled) (g (by decide)) (fun _ _ _ _ _ _ us hl => match us, hl with | [_, _], _ => rfl)) n_LLot
  have f__law_web_drawn : Fn P w (T1 K) mg base 4 "_law_web_drawn" ["_law_well", "_law_most"] 0 F_LWebL := Fn.to (fn_of_ok D_LWebL (okr_LWebL (P := P) (w := w) (base := base) D_LWebL f__law_draw f__law_names f__law_pick) (g (by decide)) (fun _ _ _ _ _ _ us hl => match us, hl with | [_, _], _ => rfl)) n_LWebL
  have f_need_alike : Fn P w (T1 K) mg base 3 "need_alike" ["one", "other"] 0 F_NAlike := Fn.to (fn_of_ok D_NAlike (okr_NAlike (P := P) (w := w) (base := base) D_NAlike x0_UnlikeThings m_Family_things) (g (by decide)) (fun _ _ _ _ _ _ us hl => match us, hl with | [_, _], _ => rfl)) n_NAlike
  have f_need_few : Fn P w (T1 K) mg base 3 "need_few" ["family"] 0 F_NFew := Fn.to (fn_of_ok D_NFew (okr_NFew (P := P) (w := w) (base := base) D_NFew B c_MOST_LISTED x_TooMany m_Family___len__) (g (by decide)) (fun _ _ _ _ _ _ us hl => match us, hl with | [_], _ => rfl)) n_NFew
  have f_lots_of : Fn P w (T1 K) mg base 1 "lots_of" ["things", "many"] 0 F_LotsOf := Fn.to (fn_of_ok D_LotsOf (okr_LotsOf (P := P) (w := w) (base := base) D_LotsOf B) (g (by decide)) (fun _ _ _ _ _ _ us hl => match us, hl with | [_, _], _ => rfl)) n_LotsOf
  have f_alike : Fn P w (T1 K) mg base 14 "alike" ["one", "other"] 0 F_Alike := Fn.to (fn_of_ok D_Alike (okr_Alike (P := P) (w := w) (base := base) D_Alike B f_lots_of f_need_alike f_need_few T_Family m_Family___len__ m_Family_rank_of) (g (by decide)) (fun _ _ _ _ _ _ us hl => match us, hl with | [_, _], _ => rfl)) n_Alike
  have f_inside : Fn P w (T1 K) mg base 4 "inside" ["family", "lot"] 0 F_Inside := Fn.to (fn_of_ok D_Inside (okr_Inside (P := P) (w := w) (base := base) D_Inside f_need_lot T_Family m_Drawn m_Family) (g (by decide)) (fun _ _ _ _ _ _ us hl => match us, hl with | [_, _], _ => rfl)) n_Inside
  have f_without : Fn P w (T1 K) mg base 4 "without" ["family", "lot"] 0 F_Without := Fn.to (fn_of_ok D_Without (okr_Without (P := P) (w := w) (base := base) D_Without f_less f_need_lot T_Family m_Drawn m_Family) (g (by decide)) (fun _ _ _ _ _ _ us hl => match us, hl with | [_, _], _ => rfl)) n_Without
  have f_drawn_in : Fn P w (T1 K) mg base 4 "drawn_in" ["family", "lot"] 0 F_DrawnIn := Fn.to (fn_of_ok D_DrawnIn (okr_DrawnIn (P := P) (w := w) (base := base) D_DrawnIn f_less f_need_lot T_Family m_Drawn m_Family) (g (by decide)) (fun _ _ _ _ _ _ us hl => match us, hl with | [_, _], _ => rfl)) n_DrawnIn
  have f_joined : Fn P w (T1 K) mg base 4 "joined" ["one", "other"] 0 F_JoinedF := Fn.to (fn_of_ok D_JoinedF (okr_JoinedF (P := P) (w := w) (base := base) D_JoinedF B c_MOST_THINGS x_SameThing x_TooMany T_Family m_Family m_Family___contains__ m_Family___len__ m_Joined) (g (by decide)) (fun _ _ _ _ _ _ us hl => match us, hl with | [_, _], _ => rfl)) n_JoinedF
  have f__law_merged : Fn P w (T1 K) mg base 1 "_law_merged" ["_law_places", "_law_ties", "_law_tie"] 0 F_L11Merged := Fn.to (fn_of_ok D_L11Merged (okr_L11Merged (P := P) (w := w) (base := base) D_L11Merged B) (g (by decide)) (fun _ _ _ _ _ _ us hl => match us, hl with | [_, _, _], _ => rfl)) n_L11Merged
  have f__law_without : Fn P w (T1 K) mg base 1 "_law_without" ["_law_places", "_law_ties", "_law_lot_here"] 0 F_L11Without := Fn.to (fn_of_ok D_L11Without (okr_L11Without (P := P) (w := w) (base := base) D_L11Without B) (g (by decide)) (fun _ _ _ _ _ _ us hl => match us, hl with | [_, _, _], _ => rfl)) n_L11Without
  have f__law_family : Fn P w (T1 K) mg base 6 "_law_family" ["_law_parts"] 0 F_L11Family := Fn.to (fn_of_ok D_L11Family (okr_L11Family (P := P) (w := w) (base := base) D_L11Family f_ties_family m_Web) (g (by decide)) (fun _ _ _ _ _ _ us hl => match us, hl with | [_], _ => rfl)) n_L11Family
  have f__law_doubled : Fn P w (T1 K) mg base 17 "_law_doubled" ["_law_well", "_law_places", "_law_ties", "_law_family_here"] 0 F_L11Doubled := Fn.to (fn_of_ok D_L11Doubled (okr_L11Doubled (P := P) (w := w) (base := base) D_L11Doubled B f__law_family f__law_lot f__law_pick f_alike f_inside m_Family_rank m_Family_stuck) (g (by decide)) (fun _ _ _ _ _ _ us hl => match us, hl with | [_, _, _, _], _ => rfl)) n_L11Doubled
  have f__law_side_by_side : Fn P w (T1 K) mg base 17 "_law_side_by_side" ["_law_well", "_law_one", "_law_other", "_law_has_common"] 0 F_L11Side := Fn.to (fn_of_ok D_L11Side (okr_L11Side (P := P) (w := w) (base := base) D_L11Side B f__law_family f_alike f_joined) (g (by decide)) (fun _ _ _ _ _ _ us hl => match us, hl with | [_, _, _, _], _ => rfl)) n_L11Side
  have f__law_steps_right : Fn P w (T1 K) mg base 17 "_law_steps_right" ["_law_well", "_law_places", "_law_ties", "_law_family_here"] 0 F_L11Steps := Fn.to (fn_of_ok D_L11Steps (okr_L11Steps (P := P) (w := w) (base := base) D_L11Steps B f__law_draw f__law_family f__law_merged f__law_pick f__law_without f_alike f_drawn_in f_without) (g (by decide)) (fun _ _ _ _ _ _ us hl => match us, hl with | [_, _, _, _], _ => rfl)) n_L11Steps
  have f__law_right : Fn P w (T1 K) mg base 18 "_law_right" ["_law_well"] 0 F_L11Right := Fn.to (fn_of_ok D_L11Right (okr_L11Right (P := P) (w := w) (base := base) D_L11Right B f__law_doubled f__law_draw f__law_family f__law_side_by_side f__law_steps_right f__law_web_drawn) (g (by decide)) (fun _ _ _ _ _ _ us hl => match us, hl with | [_], _ => rfl)) n_L11Right
  have okL := fn_down (okr_Law11 (P := P) (w := w) (base := base) D_Law11 B f__law_right f__law_source)
  exact okL.imp fun vs H Q E hs => sp_imp n_Law11 hs
end
theorem fams_only {K : PySem.W.Frag} {H : Hp} (h : Only H) : FamsOk K H := ⟨fun a dx t s c g e => by
    rcases h a with z | ⟨o, xs, z⟩
    · rw [z] at e; cases e
    · rw [z] at e; exact (by cases e), fun a a2 dx dx2 t t2 s s2 c g g2 e => by
    rcases h a with z | ⟨o, xs, z⟩
    · rw [z] at e; cases e
    · rw [z] at e; cases e⟩
end L11
open PySem PySem.W PySem.Calls PyProof.Rows
theorem PySem.Challenge.cw_bothfree_k11_whole_webs_that_change_holds : PySem.Challenge.rw_bothfree_k11_whole_webs_that_change.Holds := by
  w_on; o_law
  refine HandSHeadRun.head_any (r := OpenLaw.row PySem.Challenge.rw_bothfree_k11_whole_webs_that_change) (q := view (OpenLaw.row PySem.Challenge.rw_bothfree_k11_whole_webs_that_change).prog [55]) (H := L11.hk) (ob := L11.ob) (M := 76000) (loose := L11.loose) (d := HandSHeadRun.topDef (OpenLaw.row PySem.Challenge.rw_bothfree_k11_whole_webs_that_change).prog 55) (kwd := []) L11.ob_eq
    (by kernel_rfl) (fun s => by kernel_rfl) L11.run (by kernel_rfl) (by kernel_rfl) (by kernel_rfl) (by rfl) (by first | assumption | decide +kernel) (by decide +kernel) ⟨rfl, rfl, rfl, rfl, rfl, by decide +kernel⟩ ?hw ?hc
  case hw => w_witness2
  case hc =>
    refine L2.walk_ofE (l := PySem.Challenge.rw_bothfree_k11_whole_webs_that_change) (n := 63) (k := 19) (x := "_law_script") (CX := L2.CX0) rfl (by decide) (by kernel_rfl) ⟨rfl, by decide, by decide⟩ ?F (fun _ _ _ _ z => z)
    intro w mg fa h Y G hmg0
    obtain ⟨K, KX, c⟩ := Y
    have hmg : mg ("law" : PySem.Str) = some (.ref fa) := by
      have e : (HandSHeadRun.topDef (OpenLaw.row PySem.Challenge.rw_bothfree_k11_whole_webs_that_change).prog 55).name = ("law" : PySem.Str) := by kernel_rfl
      rw [← e]
      exact hmg0
    obtain ⟨fd, hb, hF⟩ := L11.facts (P := (PySem.Challenge.rw_bothfree_k11_whole_webs_that_change).prog) (w := w) KX G hmg c
    refine ⟨K, fd, L11.spL K, KX, hb, fun H a ns hl hO hS => ?_, hF⟩
    have sq : Dz.SqF K H a (ns.map L2.V.int) := by
      rcases hS with (hS | hS) | hS
      · rcases hO a with z | ⟨o, xs, z⟩
        · rw [z] at hS; cases hS
        · rw [z] at hS; cases hS
      · exact .inl hS
      · exact .inr hS
    exact ⟨rfl, [.scr ns], fun _ => False, fun d => d = .bl true, fun _ => False, L11.fams_only hO, fun _ z => z.elim, .cons (.scr sq) .nil, ⟨ns, rfl, rfl⟩, fun d v G e _ _ r => by subst e; exact Dz.rep_bl r, fun _ _ _ z => z.elim⟩

