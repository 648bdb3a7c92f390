import PyProof.Rows.All
import Wide.All
import OpenK.AllK
import Wide.FinOn
import KE.KStateDown
import HandS.Base
import HandS.Call
import HandS.Ends
import HandS.More
import HandS.Words
import HandS.WordsExc
import HandS.Defaults
import HandS.Head0
import HandS.Head1
import HandS.Head2
import HandS.Head3
import HandS.HeadEnd
import HandS.HeadHook1
import HandS.HeadHook2
import HandS.HeadHook3
import HandS.HeadHook4
import HandS.EndTab
import HandS.HeadWalk
import PySem.Challenge.RW_damworks_k62_across_curves
import PyProof.SumAny
import PyProof.WalksMore
import HandS.List
import HandS.Style
import PyProof.GenCompD
import KE.GoesMore
import KE.GoesZip
import HandS.IsInst
import HandS.Comp
import HandS.AnyAll
import PyProof.ZipIter
import PyProof.ListNew
import KE.KDictZip
import KE.KItemsList
import KE.KTurns
import HandS.ExcValue
import HandS.Zip0
import HandS.Codes
import HandS.Star
import HandS.TupAny
import HandS.Zip
import HandS.Gcd
set_option Elab.async false
set_option linter.all false
set_option maxRecDepth 100000
set_option maxHeartbeats 0
namespace Dw
open PySem PySem.Spec PyProof.Rows L2
/-! the text's statements -/
def top (i : Nat) : Stmt := PySem.Challenge.pw_damworks_k62_across_curves.main.body.getD i (.Pass ⟨0, 0, 0, 0⟩)
def dfd (x : Str) (i : Nat) : He.DefD := ⟨(x, none), x, x, defArgs (top i), defBody (top i), defScope (top i), [], []⟩
def fn : List He.DefD := [dfd "ratio" 9, dfd "less" 10, dfd "is_in" 15, dfd "are_flows" 16, dfd "need_dam" 17, dfd "most_held" 18, dfd "need_plans" 19, dfd "need_demands" 20, dfd "run_of" 21, dfd "run" 22, dfd "spans" 24, dfd "need_inflows" 26, dfd "flood_curve" 27, dfd "fill_curve" 28, dfd "span_peak" 30, dfd "peak_of" 31, dfd "least_peak" 32, dfd "need_lack" 34, dfd "total_lack" 35, dfd "_law_taken" 37, dfd "_law_pick" 38, dfd "_law_less" 44, dfd "_law_flow" 46, dfd "_law_dam" 47, dfd "_law_demands" 48, dfd "law" 52]
def glos : List Str := ["ratio", "less", "is_in", "are_flows", "need_dam", "most_held", "need_plans", "need_demands", "run_of", "run", "spans", "need_inflows", "flood_curve", "fill_curve", "span_peak", "peak_of", "least_peak", "need_lack", "total_lack", "_law_taken", "_law_pick", "_law_less", "_law_flow", "_law_dam", "_law_demands", "law"]
def frees : List Str := ["isinstance", "int", "bool", "tuple", "len", "all", "min", "max", "zip", "range", "list", "sum"]
def fa : List He.Fa := glos.map He.Fa.glo ++ frees.map He.Fa.free ++ [.int "MOST_CAPACITY" 1000, .int "MOST_MONTHS" 12, .int "MOST_FLOW" 1000]
def tf : List He.Defn := [("are_flows", none), ("need_dam", none), ("total_lack", none)]
def ex (K : PySem.W.Frag) : Bool := He.eqO (PySem.W.nsIn K mainGlobals "gcd") (some (some (.builtin "math.gcd")))
abbrev R : PySem.W.OpenRow := PySem.W.OpenLaw.row PySem.Challenge.rw_damworks_k62_across_curves
abbrev hk : PySem.W.Hook := He.hookX 2 fa fn [] tf ex
def ob (s : PySem.W.SharedT) : He.AlX := He.obsX 2 fa fn [] tf ex (HandSHeadRun.getT s)
theorem ob_eq (s : PySem.W.SharedT) : ob s = hk.obs s.abs := He.obsX_eq (HandSHeadRun.getT_eq s)
def loose1 : List Str := ["DamError", "BadDam", "BadDemands", "BadInflows", "BadCapacity", "NoPlan", "ratio", "less", "MOST_CAPACITY", "MOST_MONTHS", "MOST_FLOW", "is_in", "are_flows", "need_dam", "most_held", "need_plans", "need_demands", "run_of", "run", "spans", "need_inflows", "flood_curve", "fill_curve"]
def loose2 : List Str := ["span_peak", "peak_of", "least_peak", "need_lack", "total_lack", "_law_taken", "_law_pick", "_law_alike", "_law_ratio", "_law_plus", "_law_by", "_law_sum", "_law_less", "_law_is_ratio", "_law_flow", "_law_dam", "_law_demands", "_law_most_held", "_law_levels", "_law_can"]
def loose : List Str := loose1 ++ loose2
theorem run (w : World) : HandSHeadRun.RunEqI R (PySem.W.view R.prog [0, 52]) hk ob 20000 loose w := by
  unfold HandSHeadRun.RunEqI
  kernel_rfl
end Dw
set_option maxHeartbeats 4000000
/-! rules that the layer lacks: a tuple read backwards, the sum of a tuple -/
namespace Dw
open PySem PySem.Spec PyProof.Rows L2
section
variable {prog : Program} {w : World} {A : Around} {E : Value → Shared → Prop} {s : Shared}
theorem back_adjust (n : Nat) : Builtin.Slice.sliceAdjust none none (-1) (n : Int) = ((n : Int) - 1, -1) := by
  unfold Builtin.Slice.sliceAdjust
  have h1 : ((-1 : Int) < 0) := by omega
  simp only [h1, if_true]
theorem back_places (n : Nat) : Builtin.Slice.slicePlaces ((n : Int) - 1) (-1) (-1) = n := by
  unfold Builtin.Slice.slicePlaces
  have h1 : ¬ ((-1 : Int) > 0) := by omega
  simp only [h1, if_false]
  by_cases h : (n : Int) - 1 > -1
  · simp only [h, if_true]
    have e : - (-1 : Int) = 1 := by omega
    rw [e, Int.ediv_one]
    omega
  · simp only [h, if_false]
    omega
theorem fm_congr {a b : Type} {f g : a → Option b} : ∀ {l : List a}, (∀ x ∈ l, f x = g x) → l.filterMap f = l.filterMap g
  | [], _ => rfl
  | x :: t, h => by
    have h1 := h x (.head _)
    have h2 := fm_congr (l := t) fun y hy => h y (.tail _ hy)
    rw [List.filterMap_cons, List.filterMap_cons, h1, h2]
theorem back_pick (xs : Array Value) : ((List.range xs.size).filterMap fun (k : Nat) => xs[((xs.size : Int) - 1 + (k : Int) * (-1)).toNat]?).toArray = xs.toList.reverse.toArray := by
  have e : ∀ k ∈ List.range xs.size, (fun (k : Nat) => xs[((xs.size : Int) - 1 + (k : Int) * (-1)).toNat]?) k = (fun k => xs[xs.size - 1 - k]?) k := fun k hk => by
    have hk2 := List.mem_range.mp hk
    show xs[((xs.size : Int) - 1 + (k : Int) * (-1)).toNat]? = xs[xs.size - 1 - k]?
    rw [show ((xs.size : Int) - 1 + (k : Int) * (-1)).toNat = xs.size - 1 - k by omega]
  rw [fm_congr e]
  have q := PySem.W.krv_range xs.size
  have e2 : (fun k => xs[xs.size - 1 - k]?) = (fun i => xs[i]?) ∘ (fun k => xs.size - 1 - k) := rfl
  rw [e2, ← List.filterMap_map, q, List.filterMap_reverse, PySem.W.krv_all]
/-- t[::-1]: always a new tuple -/
theorem get_back {t sl : Addr} {items : Array Value} {vl vu vs : Value} {Q : Value → Shared → Prop} (ht : IsTup s.heap t items) (hs : s.heap.IsSliceOf sl vl vu vs) (pl : IsPart vl none) (pu : IsPart vu none) (pst : IsPart vs (some (-1))) (hz : items.size ≤ sizeLine)
    (h : Q (.ref s.heap.objs.size) { s with heap := s.heap.push { cls := .type "tuple", data := .seq items.toList.reverse.toArray } }) : wpAny (model prog w) A (getItem (.ref t) (.ref sl)) Q E s := by
  obtain ⟨os, hos, hcs, hds⟩ := id hs
  have hTs : s.TypeIs (.ref sl) "slice" := ⟨os, hos, hcs⟩
  have room : sizeOk (.seq items.toList.reverse.toArray) := by
    show items.toList.reverse.toArray.size ≤ sizeLine
    rw [List.size_toArray, List.length_reverse, Array.length_toList]
    exact hz
  unfold getItem
  try with_reducible refine wpAny_holding ?_
  first | refine wpAny_bind (wpAny_pure ?_) | skip
  refine wpAny_bind (wpAny_sequenceKey ht.typeIs (by decide) ?_)
  refine wpAny_bind (wpAny_callSpecial?_slot (name := Str.ofString "__getitem__") ht.typeIs PyProof.Rows.slot_tuple_getitem (wpAny_call_entry PyProof.Rows.slot_tuple_getitem ht.typeIs entry_tuple_getitem ?_ (args_tuple_getitem _ _)))
  show wpAny _ _ (Builtin.Tuple.tupleItemsOf (.ref t) >>= _) _ _ s
  refine wpAny_bind (tupleItemsOf_ ht (wpAny_bind (wpAny_typeOf hTs ?_)))
  rw [if_pos (by decide)]
  refine wpAny_bind ?_
  unfold Builtin.Slice.sliceApplied Builtin.Slice.sliceFields
  refine wpAny_bind (wpAny_bind (wpAny_field hos hds (x := vl) rfl (wpAny_bind (wpAny_field hos hds (x := vu) rfl (wpAny_bind (wpAny_field hos hds (x := vs) rfl (wpAny_pure ?_)))))))
  refine wpAny_bind (HT.slicePart_ pst ?_)
  show wpAny _ _ (if ((-1 : Int) == 0) = true then _ else _) _ _ s
  rw [if_neg (by decide)]
  refine wpAny_bind (HT.slicePart_ pl (wpAny_bind (HT.slicePart_ pu (wpAny_bind (wpAny_pure ?_)))))
  show wpAny _ _ (match Builtin.Slice.sliceAdjust none none (-1) (items.size : Int) with | (lo, hi) => pure (lo, (-1 : Int), Builtin.Slice.slicePlaces lo hi (-1))) _ _ s
  rw [back_adjust]
  show wpAny _ _ (pure ((items.size : Int) - 1, (-1 : Int), Builtin.Slice.slicePlaces ((items.size : Int) - 1) (-1) (-1))) _ _ s
  rw [back_places]
  refine wpAny_pure ?_
  have hno : ¬ (((items.size : Int) - 1 == 0 && (-1 : Int) == 1 && items.size == items.size) = true) := by
    intro q
    rw [Bool.and_eq_true, Bool.and_eq_true] at q
    exact absurd q.1.2 (by decide)
  show wpAny _ _ (if ((items.size : Int) - 1 == 0 && (-1 : Int) == 1 && items.size == items.size) = true then _ else _) _ _ s
  rw [if_neg hno, back_pick]
  first
    | exact wpAny_bind (m := Builtin.Tuple.tupleExact _) (wpAny_newObj_type (wpAny_pure ⟨_, rfl, wpAny_pure h⟩) room)
    | exact wpAny_bind (m := Builtin.Tuple.tupleExact _) (wpAny_newObj_type (wpAny_bind (wpAny_pure (wpAny_pure ⟨_, rfl, wpAny_pure h⟩))) room)
    | exact wpAny_bind (wpAny_bind (m := Builtin.Tuple.tupleExact _) (wpAny_newObj_type (wpAny_pure (wpAny_pure ⟨_, rfl, wpAny_pure h⟩)) room))
    | exact wpAny_bind (wpAny_bind (m := Builtin.Tuple.tupleExact _) (wpAny_newObj_type (wpAny_pure ⟨_, rfl, wpAny_pure h⟩) room))
/-- sum(t) of a tuple of ints -/
theorem sum_tup {t : Addr} {vs : List Value} {ns : List Int} {Q : Value → Shared → Prop} (hh : A.handled = none) (ht : IsTup s.heap t vs.toArray) (hi : IntsAre vs ns)
    (h : ∀ h' tk t', (∀ b o, s.heap.get? b = some o → h'.get? b = some o) → Q (.int ns.sum t') { s with heap := h', toks := tk }) : wpAny (model prog w) A (call (.builtin "sum") [.ref t]) Q E s := by
  obtain ⟨xs, hx⟩ := hi.allInts.items
  have hn : numsOf vs.toArray.toList = ns := by rw [show vs.toArray.toList = vs from rfl, hi.numsOf]
  rw [hx] at ht hn
  rw [nums_intItems] at hn
  refine PySem.W.ktm_sumG hh ht fun h' tk t' hk => ?_
  have q := h h' tk t' hk
  rw [preSum_eq, List.take_of_length_le (by simp), hn]
  exact q
end
section
variable {X : Cx}
/-- e[::-1], e a tuple -/
def tRevT (K : PySem.W.Frag) (te : TE) : TE := fun σ H Q => te σ H fun x H1 => ∃ a xs, x = .ref a ∧ SqT K H1 a xs ∧ ∀ p, H1 p = none → Q (.ref p) (upd H1 p (.tup xs.reverse))
theorem vals_rev : ∀ {xs : List V} {us : List Value}, Vals xs us → Vals xs.reverse us.reverse
  | _, _, .nil => .nil
  | _, _, .cons r t => by
    rw [List.reverse_cons, List.reverse_cons]
    exact (vals_rev t).append (.cons r .nil)
theorem pe_revT {e : Expr} {te : TE} {k : Nat} {p1 p2 p3 pos : Pos} (he : PE X e te) : PE X (.Subscript e (.Slice none none (some (.UnaryOp .USub (.Constant (.int 1) k p1) p2)) p3) pos) (tRevT X.K te) := by
  refine ⟨fun pins s σ H Q I h => Subscript_ (thn (he.run pins s σ H _ I h) fun v s1 ⟨x, H1, I1, r1, a, xs, ex, hx, q⟩ => ?_)⟩
  subst ex
  cases r1
  have hst : PO X (some (.UnaryOp .USub (.Constant (.int 1) k p1) p2)) (tPart (tUn (rU fun i => .int (-i)) (tC (.int 1)))) := po_some (pe_un un_neg pe_int)
  refine wpAny_Slice (thn (po_none.run pins s1 σ H1 (fun o H2 => o = none ∧ H2 = H1) I1 ⟨rfl, rfl⟩) fun vl s2 ⟨l, H2, I2, pl, el, e2⟩ => ?_)
  subst el e2
  refine thn (po_none.run pins s2 σ H2 (fun o H3 => o = none ∧ H3 = H2) I2 ⟨rfl, rfl⟩) fun vu s3 ⟨u, H3, I3, pu, eu, e3⟩ => ?_
  subst eu e3
  refine thn (hst.run pins s3 σ H3 (fun o H4 => o = some (-1) ∧ H4 = H3) I3 ⟨1, rfl, -1, rfl, rfl, rfl⟩) fun vs s4 ⟨o, H4, I4, pst, eo, e4⟩ => ?_
  subst eo e4
  have I5 : Inv X pins σ H4 { s4 with heap := s4.heap.push { cls := .type "slice", data := .fields #[vl, vu, vs] } } := I4.kept (t' := s4.toks) fun b ob q => Heap.get?_push_of_some _ q
  obtain ⟨its, r, ht, hz⟩ := I5.tuple hx
  have hlen := r.length
  show wpAny (model X.prog X.w) X.A (subscriptTail e (.Slice none none (some (.UnaryOp .USub (.Constant (.int 1) k p1) p2)) p3) (.ref a) (.ref s4.heap.objs.size)) (EP X pins σ Q) X.xe { s4 with heap := s4.heap.push { cls := .type "slice", data := .fields #[vl, vu, vs] } }
  refine tail_any (ops := [.ref a, .ref s4.heap.objs.size]) ht.typeIs PyProof.Rows.slot_tuple_getitem.lookup ?_ (by with_unfolding_all rfl)
  refine get_back ht (Heap.IsSliceOf.new _ vl vu vs) pl pu pst (by rw [List.size_toArray]; omega) ?_
  refine ⟨.ref _, _, I5.laid (t' := s4.toks) (o := .tup xs.reverse) (fun b ob q => Heap.get?_push_of_some _ q) (Nat.le_refl _) ?_, rfl, q _ (I5.hok.fresh (Nat.le_refl _))⟩
  exact ⟨by rw [List.length_reverse]; exact hz, _, vals_rev r, IsTup.new _ _⟩
/-- sum(t) -/
def rSumT (K : PySem.W.Frag) : List V → Hp → VK → Prop := fun vs H Q => ∃ (a : Addr) (ns : List Int), vs = [V.ref a] ∧ SqT K H a (ns.map V.int) ∧ Q (.int ns.sum) H
theorem cr_sumT (hc : X.calm = true) : CallR X (.builtin "sum") (rSumT X.K) := by
  intro pins s σ H vs us Q I r h
  obtain ⟨a, ns, rfl, hs, q⟩ := h
  obtain ⟨its, rv, hl, _⟩ := I.tuple hs
  obtain ⟨u, rfl, ru⟩ := vals1 r
  cases ru
  exact sum_tup (I.ok.hd hc) hl (intsAre_of rv) fun h' tk t' hk => ⟨.int _, H, I.kept hk, ⟨_, rfl⟩, q⟩
end
end Dw
set_option maxHeartbeats 4000000
/-! a generator expression over any Goes: any target, an element that may call -/
namespace Dw
open PySem PySem.Spec PyProof.Rows
/-- s' is s, but the frame at C has moved on, and more stands -/
def KB (C : Addr) (s s' : Shared) : Prop := ∃ h' tk, s' = { s with heap := h', toks := tk } ∧ (∃ m, h'.Ns C m) ∧ ∀ b o, b ≠ C → s.heap.get? b = some o → h'.get? b = some o
def all1 : Nat → Bool := fun _ => true
/-- one turn of the generator -/
structure QG (prog : Program) (w : World) (cenv : Env) (target elt : Expr) (fp wr : List Addr) (n : Nat) (Y : Nat → Value → Heap → Prop) (F : Nat → Value → Prop) (href : Heap) (D U : Nat) : Prop where
  turn : ∀ (A' : Around) (i : Nat) (v : Value) (s₂ : Shared) (m₂ : Str → Option Value), A'.handled = none → A'.depth ≤ D → A'.units ≤ U → i < n → Y i v s₂.heap → s₂.heap.Ns cenv.locals m₂ →
    (∀ b ∈ fp, b ∉ wr → ∀ o, href.get? b = some o → s₂.heap.get? b = some o) →
    wpAny (model prog w) A' (assign target cenv v) (fun _ s₃ => wpAny (model prog w) A' (eval elt cenv) (fun y s₄ => F i y ∧ KB cenv.locals s₂ s₄) (fun _ _ => False) s₃) (fun _ _ => False) s₂
section
variable {prog : Program} {w : World} {A : Around} {target elt iter : Expr} {scope : Scope} {pos : Pos} {I : Addr} {fp wr : List Addr} {n₀ : Nat} {Y : Nat → Value → Heap → Prop} {St₀ : Nat → Heap → Prop} {cenv : Env}
theorem seg_gLoop (hh : A.handled = none) (W₀ : ∀ A' : Around, A'.handled = none → Goes prog w A' target I fp wr n₀ Y St₀) (F : Nat → Value → Prop) (href : Heap)
    (hco : cenv.scope.isCoroutine = false) (hCf : cenv.locals ∉ fp) (hq : QG prog w cenv target elt fp wr n₀ Y F href (A.depth + 1) (A.units + 3)) :
    ∀ (k i : Nat) (s₀ s : Shared) (m : Str → Option Value), n₀ - i = k → i ≤ n₀ → St₀ i s.heap → s.heap.Ns cenv.locals m → GenSince cenv.locals wr s₀ s →
      (∀ b ∈ fp, b ∉ wr → ∀ o, href.get? b = some o → s.heap.get? b = some o) →
      Seg (model prog w) A (fun n s₀ r s₁ => r = .ok .next ∧ (n = 0 ∧ GenSince cenv.locals wr s₀ s₁)) (genProto cenv.locals fp wr all1 n₀ F) (passing all1 n₀ i).length s₀
        (.compLoop (.GeneratorExp elt [⟨target, iter, [], 0⟩] scope pos) 0 (.ref I) .none cenv)
        ((model prog w).den (.compLoop (.GeneratorExp elt [⟨target, iter, [], 0⟩] scope pos) 0 (.ref I) .none cenv)) [] s := by
  have hh' : (A.over (.compLoop (.GeneratorExp elt [⟨target, iter, [], 0⟩] scope pos) 0 (.ref I) .none cenv) []).handled = none := hh
  have hdep' : (A.over (.compLoop (.GeneratorExp elt [⟨target, iter, [], 0⟩] scope pos) 0 (.ref I) .none cenv) []).depth ≤ A.depth + 1 := Nat.le_of_eq rfl
  have huni' : (A.over (.compLoop (.GeneratorExp elt [⟨target, iter, [], 0⟩] scope pos) 0 (.ref I) .none cenv) []).units ≤ A.units + 3 := Nat.le_of_eq rfl
  have hCw : cenv.locals ∉ wr := fun h => hCf ((W₀ A hh).sub _ h)
  intro k
  induction k with
  | zero =>
    intro i s₀ s m hk hi hst hn hsince hkp
    have hin : i = n₀ := by omega
    subst hin
    show Seg _ A _ _ _ s₀ _ ((compTurn (.GeneratorExp elt [⟨target, iter, [], 0⟩] scope pos) 0 (.ref I) .none cenv).onRaise (leaving cenv)) [] s
    rw [compTurn_gen, Sem.onRaise_eq_wrap]
    refine seg_bind_wrap (wpAny_standAt ?_)
    refine seg_bind_wrap (wpAny_mono ((W₀ _ hh').stops s (fun s₁ => ∃ h' tk, (∀ b o, b ∉ wr → s.heap.get? b = some o → h'.get? b = some o) ∧ s₁ = { s with heap := h', toks := tk }) _ hst fun h' tk hk' _ => ⟨h', tk, hk', rfl⟩) (fun r s₁ h₁ => ?_) fun _ _ e => e)
    obtain ⟨rfl, h', tk, hk', rfl⟩ := h₁
    exact seg_end (.ok .next) ⟨rfl, by rw [passing_end]; rfl, hsince.step fun b o _ hw e => hk' b o hw e⟩
  | succ k ih =>
    intro i s₀ s m hk hi hst hn hsince hkp
    have hlt : i < n₀ := by omega
    show Seg _ A _ _ _ s₀ _ ((compTurn (.GeneratorExp elt [⟨target, iter, [], 0⟩] scope pos) 0 (.ref I) .none cenv).onRaise (leaving cenv)) [] s
    rw [compTurn_gen, Sem.onRaise_eq_wrap]
    refine seg_bind_wrap (wpAny_standAt ?_)
    refine seg_bind_wrap (wpAny_mono ((W₀ _ hh').goes i s (fun v s₁ => ∃ h' tk, Y i v h' ∧ St₀ (i + 1) h' ∧ (∀ b o, b ∉ wr → s.heap.get? b = some o → h'.get? b = some o) ∧ s₁ = { s with heap := h', toks := tk }) (fun _ _ => False) hlt hst fun v h' tk hY hst' hk' _ => ⟨h', tk, hY, hst', hk', rfl⟩) (fun r s₁ h₁ => ?_) fun _ _ e => e.elim)
    obtain ⟨v, rfl, h₁⟩ := h₁
    refine seg_bind_wrap (wpAny_mono h₁ (fun _ s₂ h₂ => ?_) fun _ _ e => e.elim)
    obtain ⟨h₂, tk₂, hY, hst₂, hk₂, rfl⟩ := h₂
    have hn₂ : h₂.Ns cenv.locals m := hn.at' fun o e => hk₂ _ o hCw e
    have hkp₂ : ∀ b ∈ fp, b ∉ wr → ∀ o, href.get? b = some o → h₂.get? b = some o := fun b hb hbw o e => hk₂ b o hbw (hkp b hb hbw o e)
    refine seg_bind_wrap (wpAny_mono (hq.turn _ i v { s with heap := h₂, toks := tk₂ } m hh' hdep' huni' hlt hY hn₂ hkp₂) (fun _ s₃ h₃ => ?_) fun _ _ e => e.elim)
    simp only [List.forIn_nil]
    refine seg_bind_wrap (wpAny_pure ?_)
    rw [passing_true hlt rfl, List.length_cons]
    simp only [if_true]
    have hy : ∀ v, yieldOut cenv v = yieldValue v := fun v => by simp only [yieldOut, hco, Bool.false_eq_true, if_false]
    simp only [hy]
    rw [Sem.bind_eq_wrap', Sem.bind_eq_wrap', Sem.wrap_wrap, Sem.wrap_wrap]
    refine seg_wrap (wpAny_mono h₃ (fun y s₄ h₄ => ?_) fun _ _ e => e.elim)
    obtain ⟨hFy, h₄, tk₄, rfl, ⟨m₄, hn₄⟩, hk₄⟩ := h₄
    have hst₄ : St₀ (i + 1) h₄ := (W₀ A hh).frame _ _ _ hst₂ fun b hb o e => hk₄ b o (fun h => hCf (h ▸ hb)) e
    refine seg_at (seg_yield rfl rfl rfl ⟨⟨i, passing_here hlt rfl, hFy⟩, hsince.step fun b o hbC hbw e => hk₄ b o hbC (hk₂ b o hbw e), fun s'' hal => ?_⟩)
    refine seg_again rfl (ih (i + 1) s'' s'' m₄ (by omega) hlt ((W₀ A hh).frame _ _ _ hst₄ fun b hb o e => hal b (List.mem_cons_of_mem _ hb) o e)
      (hn₄.at' fun o e => hal _ (List.mem_cons_self ..) o e) (GenSince.refl _ _ _) fun b hb hbw o e => hal b (List.mem_cons_of_mem _ hb) o (hk₄ b o (fun h => hCf (h ▸ hb)) (hkp₂ b hb hbw o e)))
theorem seg_gStart (hh : A.handled = none) (W₀ : ∀ A' : Around, A'.handled = none → Goes prog w A' target I fp wr n₀ Y St₀) (F : Nat → Value → Prop) (href : Heap)
    (hco : cenv.scope.isCoroutine = false) (hCf : cenv.locals ∉ fp) (hq : QG prog w cenv target elt fp wr n₀ Y F href (A.depth + 1) (A.units + 3))
    (s₀ s : Shared) (m : Str → Option Value) (hst : St₀ 0 s.heap) (hn : s.heap.Ns cenv.locals m) (hsince : GenSince cenv.locals wr s₀ s)
    (hkp : ∀ b ∈ fp, b ∉ wr → ∀ o, href.get? b = some o → s.heap.get? b = some o) :
    Seg (model prog w) A (fun n s₀ r s₁ => r = .ok .next ∧ (n = 0 ∧ GenSince cenv.locals wr s₀ s₁)) (genProto cenv.locals fp wr all1 n₀ F) (passing all1 n₀ 0).length s₀
      (.compStart (.GeneratorExp elt [⟨target, iter, [], 0⟩] scope pos) 0 (.ref I) .none cenv)
      ((model prog w).den (.compStart (.GeneratorExp elt [⟨target, iter, [], 0⟩] scope pos) 0 (.ref I) .none cenv)) [] s := by
  have hh' : (A.over (.compStart (.GeneratorExp elt [⟨target, iter, [], 0⟩] scope pos) 0 (.ref I) .none cenv) []).handled = none := hh
  have loop := seg_gLoop (iter := iter) (scope := scope) (pos := pos) hh W₀ F href hco hCf hq n₀ 0 s₀ s m (Nat.sub_zero _) (Nat.zero_le _) hst hn hsince hkp
  show Seg _ A _ _ _ s₀ _ ((compStart (.GeneratorExp elt [⟨target, iter, [], 0⟩] scope pos) 0 (.ref I) .none cenv).onRaise (leaving cenv)) [] s
  unfold compStart
  rw [Sem.onRaise_eq_wrap]
  show Seg _ A _ _ _ s₀ _ ((ask >>= _).wrap _ _ _ _) [] s
  refine seg_bind_wrap (wpAny_askSetting ?_)
  split
  · exact seg_again rfl loop
  · first
      | exact seg_bind_wrap (wpAny_rule (seg_bind_wrap (wpAny_standAt (seg_bind_wrap ((W₀ _ hh').self 0 s _ _ hst (seg_again rfl loop))))))
      | (refine seg_bind_wrap (wpAny_rule ?_); show Seg _ A _ _ _ s₀ _ ((standAt iter.pos >>= _).wrap _ _ _ _) [] s; exact seg_bind_wrap (wpAny_standAt (seg_bind_wrap ((W₀ _ hh').self 0 s _ _ hst (seg_again rfl loop)))))
theorem fresh_g {a : Addr} {g : Nat} (hh : A.handled = none) (W₀ : ∀ A' : Around, A'.handled = none → Goes prog w A' target I fp wr n₀ Y St₀) (F : Nat → Value → Prop)
    (hco : cenv.scope.isCoroutine = false) (hCf : cenv.locals ∉ fp) {s : Shared} {m : Str → Option Value} (hq : QG prog w cenv target elt fp wr n₀ Y F s.heap (A.depth + 1) (A.units + 4))
    (hg : s.heap.IsGen a g) (hgs : s.gens[g]? = some (.fresh (.compStart (.GeneratorExp elt [⟨target, iter, [], 0⟩] scope pos) 0 (.ref I) .none cenv)))
    (hst : St₀ 0 s.heap) (hn : s.heap.Ns cenv.locals m) (hl : s.heap.NoLimit) : GenAt prog w A a g cenv.locals fp wr all1 n₀ F 0 s :=
  ⟨hg, hl, _, hgs, fun s'' hal => ⟨rfl, seg_gStart (A := A.in1) hh W₀ F s.heap hco hCf hq s'' s'' m ((W₀ A hh).frame _ _ _ hst fun b hb o e => hal b (List.mem_cons_of_mem _ hb) o e)
    (hn.at' fun o e => hal _ (List.mem_cons_self ..) o e) (GenSince.refl _ _ _) fun b hb _ o e => hal b (List.mem_cons_of_mem _ hb) o e⟩⟩
theorem goes_fp {fp' : List Addr} (W : Goes prog w A target I fp wr n₀ Y St₀) (h : ∀ b ∈ fp, b ∈ fp') : Goes prog w A target I fp' wr n₀ Y St₀ where
  sub := fun b hb => h b (W.sub b hb)
  frame := fun i h₁ h₂ st hk => W.frame i h₁ h₂ st fun b hb o e => hk b (h b hb) o e
  goes := W.goes
  stops := W.stops
  self := W.self
/-- the generator stands: what it owes before it is walked -/
theorem genexp_goes {E : Value → Shared → Prop} {s : Shared} {env : Env} {cl : List (Str × Addr)} {Q : Value → Shared → Prop}
    (hh : A.handled = none) (hco : scope.isCoroutine = false) (hclos : closureFor scope env = pure cl) (hcell : ∀ y ∈ scope.names, y.2 ≠ .cell) (h0 : scope.names.lookup (".0" : Str) = some NameKind.local)
    (hkind : scope.kind = .function) (hroom : A.depth < recursionLimit)
    (h : wpAny (model prog w) A (eval iter env) (fun xv s₁ => wpAny (model prog w) A (pyIter xv) (fun it s₂ => s₂.heap.NoLimit ∧
      wpAny (model prog w) A (genexprCode env pos (env.qual ++ "<genexpr>") scope) (fun code s₃ => wpAny (model prog w) A (builtinsFor env.globals env.builtins) (fun bi s₄ =>
        ∃ I fp wr n₀ Y St₀ F, it = .ref I ∧ (∀ A' : Around, A'.handled = none → Goes prog w A' target I fp wr n₀ Y St₀) ∧ St₀ 0 s₄.heap ∧ (∀ b ∈ fp, b < s₄.heap.objs.size) ∧ s₄.heap.NoLimit ∧ cStatics ∉ wr ∧
          (∀ href : Heap, (∀ b o, s₄.heap.get? b = some o → href.get? b = some o) →
            QG prog w (genEnv scope cl s₄.heap.objs.size code bi env) target elt (List.range s₄.heap.objs.size) wr n₀ Y F href (A.depth + 1) (A.units + 8)) ∧
          (∀ a h₅ tk gs, gs.bare = true → s₄.heap.objs.size < a → h₅.objs.size = a + 1 → (∀ b o, s₄.heap.get? b = some o → h₅.get? b = some o) →
            WalksS prog w A.in4 a (a :: s₄.heap.objs.size :: List.range s₄.heap.objs.size) (s₄.heap.objs.size :: wr) (GenOnlyQ s₄.gens.size) (passing all1 n₀ 0).length
              (fun j y => ∃ i, (passing all1 n₀ 0)[j]? = some i ∧ F i y) (GenAt prog w A.in4 a s₄.gens.size s₄.heap.objs.size (List.range s₄.heap.objs.size) wr all1 n₀ F) →
            GenAt prog w A.in4 a s₄.gens.size s₄.heap.objs.size (List.range s₄.heap.objs.size) wr all1 n₀ F 0 { s₄ with gens := s₄.gens.push gs, toks := tk, heap := h₅ } →
            Q (.ref a) { s₄ with gens := s₄.gens.push gs, toks := tk, heap := h₅ })) E s₃) E s₂) E s₁) E s)
    (hs : ∀ x, genFold iter env x = pure x) :
    wpAny (model prog w) A (eval (.GeneratorExp elt [⟨target, iter, [], 0⟩] scope pos) env) Q E s := by
  refine wpAny_GeneratorExp_make hco hclos hcell h0 hkind hroom (wpAny_mono h (fun xv s₁ h₁ => wpAny_mono h₁ (fun it s₂ h₂ => ⟨h₂.1, wpAny_mono h₂.2 (fun code s₃ h₃ => wpAny_mono h₃ (fun bi s₄ h₄ => ?_)
    fun _ _ e => e) fun _ _ e => e⟩) fun _ _ e => e) fun _ _ e => e) hs
  obtain ⟨I, fp, wr, n₀, Y, St₀, F, rfl, W₀, hst, hfp, hl₄, hcw, hq, hQ⟩ := h₄
  have hclt : cStatics < s₄.heap.objs.size := let ⟨_, hn, _⟩ := hl₄; hn.lt
  intro h' hn' hs'
  have hsz : h'.objs.size = s₄.heap.objs.size + 1 := by rw [hs'.1, Heap.size_push]
  have keep' : ∀ b o, s₄.heap.get? b = some o → h'.get? b = some o := fun b o e => hs'.extBut b o (Nat.ne_of_lt (Heap.lt_size e)) (Heap.get?_push_of_some _ e)
  have hsub : ∀ b ∈ wr, b ∈ List.range s₄.heap.objs.size := fun b hb => List.mem_range.mpr (hfp b ((W₀ A hh).sub b hb))
  have haC : h'.objs.size ≠ s₄.heap.objs.size := by rw [hsz]; exact Nat.succ_ne_self _
  have haf : h'.objs.size ∉ List.range s₄.heap.objs.size := fun hm => by have := List.mem_range.mp hm; omega
  have keep₅ : ∀ b o, s₄.heap.get? b = some o → (h'.push { cls := .type "generator", data := .fields #[.int s₄.gens.size 0, .str "<genexpr>" (s₄.toks + 1), .str (env.qual ++ "<genexpr>") (s₄.toks + 1 + 1)] }).get? b = some o :=
    fun b o e => Heap.get?_push_of_some _ (keep' b o e)
  refine hQ _ _ _ _ rfl (by omega) (by rw [Heap.size_push]) keep₅ (WalksS.genexpQ (A := A.in4) hh _ _ _ _ wr all1 n₀ F haC haf hsub hroom (List.mem_range.mpr hclt) (Nat.ne_of_lt hclt) hcw) ?_
  refine fresh_g (A := A.in4) (cenv := genEnv scope cl s₄.heap.objs.size code bi env) (m := fun y => if y = ".0" then some (.ref I) else none) hh
    (fun A' hA => goes_fp (W₀ A' hA) fun b hb => List.mem_range.mpr (hfp b hb)) F hco
    (fun hm => Nat.lt_irrefl _ (List.mem_range.mp hm)) (hq _ keep₅) ⟨_, _, _, Heap.get?_push_size _ rfl, rfl, rfl, rfl⟩ (Array.getElem?_push_size ..) ((W₀ A hh).frame _ _ _ hst fun b _ o e => keep₅ b o e) (hn'.push _) (hl₄.keeps keep₅)
end
end Dw
set_option maxHeartbeats 4000000
namespace Dw
open PySem PySem.Spec PyProof.Rows L2
theorem if_true_of {c : Bool} {A B : Prop} (hc : c = true) (h : A) : if c = true then A else B := by
  rw [if_pos hc]
  exact h
theorem if_false_of {c : Bool} {A B : Prop} (hc : c = false) (h : B) : if c = true then A else B := by
  rw [hc, if_neg Bool.false_ne_true]
  exact h
section
variable {prog : Program} {w : World} {A : Around} {E : Value → Shared → Prop} {s : Shared} {K : PySem.W.Frag} {mg : Str → Option Value}
theorem isin_raw {f : Addr} {fd : FuncData} {n lo hi : Int} {t1 t2 t3 : Tok} {Q : Value → Shared → Prop} (F : FunD K "is_in" "is_in" (defArgs (top 15)) (defBody (top 15)) (defScope (top 15)) [] [] f fd)
    (X : K.In s.heap) (hg : s.heap.Ns mainGlobals mg) (hb : ∃ mb, s.heap.Ns builtinsNs mb ∧ ∀ x : Str, x ≠ "__name__" → mb x = bootBuiltins x) (hlim : s.heap.NoLimit) (hroom : A.depth < recursionLimit)
    (m1 : mg "isinstance" = none) (m2 : mg "int" = none) (m3 : mg "bool" = none) (h1 : lo ≤ n) (h2 : n ≤ hi)
    (hQ : ∀ h' tk, (∀ b o, s.heap.get? b = some o → h'.get? b = some o) → Q (.bool true) { s with heap := h', toks := tk }) :
    wpAny (model prog w) A (call (.ref f) [.int n t1, .int lo t2, .int hi t3]) Q E s := by
  obtain ⟨oc, od, dV, kV, doc, pm, an, cdv, ct, osl, rfl, lk, hcd, hD, _⟩ := F.ex
  have hD2 : dV = .none := by
    rcases hD with ⟨_, e⟩ | ⟨e, _⟩
    · exact e
    · exact absurd rfl e
  subst hD2
  refine wpAny_call ?_
  refine Att.call_fn (binds := [("value", .int n t1), ("least", .int lo t2), ("most", .int hi t3)]) X hlim lk hcd hroom (BindsTo.of_eq (by first | rfl | with_unfolding_all rfl)) (by first | rfl | decide | with_unfolding_all rfl) (fun s₁ IC => ?_) rfl rfl rfl
  obtain ⟨h₁, tk₁, rfl⟩ := IC.toInCall.same
  have k : ∀ b o, s.heap.get? b = some o → h₁.get? b = some o := IC.toInCall.keep
  have hn := IC.toInCall.ns
  have X₁ : K.In h₁ := X.keeps k
  have hg₁ : h₁.Ns mainGlobals mg := hg.keeps k
  obtain ⟨mb, hb1, hb2⟩ := hb
  have hb₁ : h₁.Ns builtinsNs mb := hb1.keeps k
  have lv : ∀ {A : Around} {E : Value → Shared → Prop} {x : Str} {v : Value} {p : Pos} {Q' : Value → Shared → Prop} {s' : Shared}, (∀ b o, h₁.get? b = some o → s'.heap.get? b = some o) → (envOfC "is_in" (defScope (top 15)) s.heap.objs.size f cdv).kindOf x = some .local →
      (bindL (envOfC "is_in" (defScope (top 15)) s.heap.objs.size f cdv).kindOf [("value", .int n t1), ("least", .int lo t2), ("most", .int hi t3)] fun x => none) x = some v → (x == ("__debug__" : Str)) = false → Q' v s' → wpAny (model prog w) A (eval (.Name x p) (envOfC "is_in" (defScope (top 15)) s.heap.objs.size f cdv)) Q' E s' :=
    fun kk e1 e2 e3 q => wpAny_Name (wpAny_loadName_local rfl e1 (hn.keeps kk) e2 q) e3
  have lb : ∀ {A : Around} {E : Value → Shared → Prop} {x : Str} {v : Value} {p : Pos} {Q' : Value → Shared → Prop} {s' : Shared}, (∀ b o, h₁.get? b = some o → s'.heap.get? b = some o) → (envOfC "is_in" (defScope (top 15)) s.heap.objs.size f cdv).kindOf x = some .globalImplicit →
      mg x = none → x ≠ "__name__" → bootBuiltins x = some v → (x == ("__debug__" : Str)) = false → Q' v s' → wpAny (model prog w) A (eval (.Name x p) (envOfC "is_in" (defScope (top 15)) s.heap.objs.size f cdv)) Q' E s' :=
    fun kk e1 e2 e3 e4 e5 q => Calls.Name_function_global rfl e1 (Calls.loadGlobal_builtin (hg₁.keeps kk) e2 (hb₁.keeps kk) ((hb2 _ e3).trans e4) q) e5
  refine wpAny_execs_cons (wpAny_Return_some ?_)
  refine BoolOp_and (wpAny_Call_Name_kw (lb (fun _ _ e => e) rfl m1 (by decide) (show bootBuiltins "isinstance" = some (.builtin "isinstance") by kernel_rfl) rfl ?_))
  refine PyProof.Rows.callWith_builtin1 (Calls.spliced_cons (lv (fun _ _ e => e) rfl (by first | rfl | with_unfolding_all rfl | kernel_rfl) rfl (Calls.spliced_cons (lb (fun _ _ e => e) rfl m2 (by decide) (show bootBuiltins "int" = some (.type "int") by kernel_rfl) rfl (Calls.spliced_nil ?_))))) rfl rfl
  refine PySem.W.kia_one (K := K) PySem.W.kitx_int X₁ True.intro (kit_ty (r := true) (by decide +kernel)) (fun z => nomatch z) fun tk2 => ?_
  refine wpAny_truthy_bool (if_true_of rfl ?_)
  refine BoolOp_and (UnaryOp_ (wpAny_Call_Name_kw (lb (fun _ _ e => e) rfl m1 (by decide) (show bootBuiltins "isinstance" = some (.builtin "isinstance") by kernel_rfl) rfl ?_)))
  refine PyProof.Rows.callWith_builtin1 (Calls.spliced_cons (lv (fun _ _ e => e) rfl (by first | rfl | with_unfolding_all rfl | kernel_rfl) rfl (Calls.spliced_cons (lb (fun _ _ e => e) rfl m3 (by decide) (show bootBuiltins "bool" = some (.type "bool") by kernel_rfl) rfl (Calls.spliced_nil ?_))))) rfl rfl
  refine PySem.W.kia_one (K := K) PySem.W.kitx_int X₁ True.intro (kit_ty (r := false) (by decide +kernel)) (fun z => nomatch z) fun tk3 => ?_
  refine not_of (wpAny_truthy_bool (wpAny_truthy_bool (if_true_of rfl ?_)))
  refine BoolOp_one (Compare_chain (lv (fun _ _ e => e) rfl (by first | rfl | with_unfolding_all rfl | kernel_rfl) rfl (chain_link (lv (fun _ _ e => e) rfl (by first | rfl | with_unfolding_all rfl | kernel_rfl) rfl (le_int (wpAny_truthy_bool (if_true_of (decide_eq_true h1) (chain_last (lv (fun _ _ e => e) rfl (by first | rfl | with_unfolding_all rfl | kernel_rfl) rfl (le_int ?_))))))))) (by with_unfolding_all rfl))
  rw [decide_eq_true h2]
  exact hQ h₁ tk3 k
end
end Dw
set_option maxHeartbeats 4000000
namespace Dw
open PySem PySem.Spec PyProof.Rows L2
section
variable {X : Cx}
/-- the generator expression's own scope -/
structure GSc (env : Env) (scope : Scope) : Prop where
  kind : scope.kind = .function
  co : scope.isCoroutine = false
  cell : ∀ y ∈ scope.names, y.2 ≠ .cell
  dot : scope.names.lookup (".0" : Str) = some NameKind.local
  free : ∀ y ∈ scope.names, y.2 = .free → ∃ c, env.cells.lookup y.1 = some c
/-- the generator g stands ready; H1: what was held before -/
def ReadyG (X : Cx) (pins : List (Addr × Obj)) (σ : L2.St) (H1 : Hp) (P : Addr) (n : Nat) (F : Nat → Value → Prop) (g : Addr) (s5 : Shared) : Prop :=
  ∃ (fp wr : List Addr) (G : Array GenState → Array GenState → Prop) (St : Nat → Shared → Prop),
    WalksS X.prog X.w X.A.in1 g fp wr G n (fun j y => ∃ i, (List.range n)[j]? = some i ∧ F i y) St ∧ St 0 s5 ∧ (∀ b ∈ fp, b < s5.heap.objs.size) ∧
    ∀ s', Moved wr G s5 s' → ∃ H2, GxR.Tabbed P H1 H2 ∧ Inv X pins σ H2 s'
/-- a turn over the ground sB -/
def TurnG (X : Cx) (P : Addr) (scope : Scope) (target elt : Expr) (sB : Shared) (n : Nat) (Y : Nat → Value → Heap → Prop) (F : Nat → Value → Prop) : Prop :=
  ∀ (cenv : Env) (A' : Around) (i : Nat) (v : Value) (s3 : Shared) (m3 : Str → Option Value), cenv.scope = scope → cenv.globals = mainGlobals → cenv.cells = cloFrom X.env.cells scope.names [] → sB.heap.objs.size ≤ cenv.locals →
    A'.handled = none → A'.depth ≤ X.A.depth + 1 → A'.units ≤ X.A.units + 8 → i < n → Y i v s3.heap → s3.heap.Ns cenv.locals m3 → (∀ b o, b ≠ P → sB.heap.get? b = some o → s3.heap.get? b = some o) →
    wpAny (model X.prog X.w) A' (assign target cenv v) (fun _ s4 => wpAny (model X.prog X.w) A' (eval elt cenv) (fun y s5 => F i y ∧ KB cenv.locals s3 s5) (fun _ _ => False) s4) (fun _ _ => False) s3
/-- what is owed where the iterator stands -/
def GSrc (X : Cx) (pins : List (Addr × Obj)) (σ : L2.St) (P : Addr) (scope : Scope) (target elt : Expr) (Q' : Value → Shared → Prop) (it : Value) (s2 : Shared) : Prop :=
  ∃ (sB : Shared) (H1 : Hp) (ps : Array Value) (I : Addr) (fp wr : List Addr) (n : Nat) (Y : Nat → Value → Heap → Prop) (St : Nat → Heap → Prop) (F : Nat → Value → Prop) (h2 : Heap) (tk2 : Nat),
    it = .ref I ∧ Inv X pins σ H1 sB ∧ H1 P = some (.tbl ps) ∧ TriplesOk ps.toList ∧ s2 = { sB with heap := h2, toks := tk2 } ∧ sB.heap.objs.size ≤ h2.objs.size ∧ (∀ b o, sB.heap.get? b = some o → h2.get? b = some o) ∧ (∀ b ∈ wr, sB.heap.objs.size ≤ b) ∧
    (∀ b ∈ fp, ∃ o, h2.get? b = some o ∧ o.cls ≠ .none) ∧ (∀ A' : Around, A'.handled = none → Goes X.prog X.w A' target I fp wr n Y St) ∧ St 0 h2 ∧ TurnG X P scope target elt sB n Y F ∧
    ∀ g s5, ReadyG X pins σ H1 P n F g s5 → Q' (.ref g) s5
theorem gen_goes {c P : Addr} {target elt iter : Expr} {gpos : Pos} {scope : Scope} {k : Nat} {pins : List (Addr × Obj)} {σ : L2.St} {s : Shared} {Q' : Value → Shared → Prop}
    (hr : Room k X.A) (TB : GxR.TabB X.base X.mg c P) (hcode : X.env.code = .ref c) (S : GSc X.env scope) (hs : ∀ v, genFold iter X.env v = pure v)
    (h : wpAny (model X.prog X.w) X.A (eval iter X.env) (fun xv s1 => wpAny (model X.prog X.w) X.A (pyIter xv) (fun it s2 => GSrc X pins σ P scope target elt Q' it s2) X.xe s1) X.xe s) :
    wpAny (model X.prog X.w) X.A (eval (.GeneratorExp elt [⟨target, iter, [], 0⟩] scope gpos) X.env) Q' X.xe s := by
  refine genexp_goes hr.hd S.co (closure_ok S.free) S.cell S.dot S.kind (by have := hr.dp; omega) ?_ hs
  refine wpAny_mono h (fun xv s1 h1 => wpAny_mono h1 (fun it s2 h2 => ?_) fun _ _ e => e) fun _ _ e => e
  obtain ⟨sB, H1, ps, I, fp, wr, n, Y, St, F, h2, tk2, rfl, I1, hP, ht, rfl, hsz2, kB, hwr, hfp, W, hst, hT, hQ⟩ := h2
  have hPs : sB.heap.get? P = some { cls := .none, data := .fields ps } := I1.hok P _ hP
  have hPlt : P < sB.heap.objs.size := Heap.lt_size hPs
  have hP2 : h2.get? P = some { cls := .none, data := .fields ps } := kB _ _ hPs
  have cd : PySem.W.CodeHd h2 c P := TB.code.keeps fun b u e => kB _ _ (I1.bk b u e)
  have lim2 : h2.NoLimit := I1.nolimit.keeps kB
  have nP : ∀ b ∈ fp, b ≠ P := fun b hb z => by
    obtain ⟨o, ho, hc⟩ := hfp b hb
    rw [z, hP2] at ho
    cases ho
    exact hc rfl
  have hcB : cStatics < sB.heap.objs.size := let ⟨_, hns, _⟩ := I1.nolimit; hns.lt
  have cont : ∀ (code : Value) (h3 : Heap) (tk : Nat) (ps' : Array Value), Heap.ExtBut P h2 h3 → h2.objs.size ≤ h3.objs.size → h3.get? P = some { cls := .none, data := .fields ps' } → (∃ more, ps' = ps ++ more) → TriplesOk ps'.toList →
      wpAny (model X.prog X.w) X.A (builtinsFor X.env.globals X.env.builtins) (fun bi s₄ =>
        ∃ Ia fp wr n₀ Y St₀ F, Value.ref I = .ref Ia ∧ (∀ A' : Around, A'.handled = none → Goes X.prog X.w A' target Ia fp wr n₀ Y St₀) ∧ St₀ 0 s₄.heap ∧ (∀ b ∈ fp, b < s₄.heap.objs.size) ∧ s₄.heap.NoLimit ∧ cStatics ∉ wr ∧
          (∀ href : Heap, (∀ b o, s₄.heap.get? b = some o → href.get? b = some o) →
            QG X.prog X.w (genEnv scope (cloFrom X.env.cells scope.names []) s₄.heap.objs.size code bi X.env) target elt (List.range s₄.heap.objs.size) wr n₀ Y F href (X.A.depth + 1) (X.A.units + 8)) ∧
          (∀ a h₅ tk gs, gs.bare = true → s₄.heap.objs.size < a → h₅.objs.size = a + 1 → (∀ b o, s₄.heap.get? b = some o → h₅.get? b = some o) →
            WalksS X.prog X.w X.A.in4 a (a :: s₄.heap.objs.size :: List.range s₄.heap.objs.size) (s₄.heap.objs.size :: wr) (GenOnlyQ s₄.gens.size) (passing all1 n₀ 0).length
              (fun j y => ∃ i, (passing all1 n₀ 0)[j]? = some i ∧ F i y) (GenAt X.prog X.w X.A.in4 a s₄.gens.size s₄.heap.objs.size (List.range s₄.heap.objs.size) wr all1 n₀ F) →
            GenAt X.prog X.w X.A.in4 a s₄.gens.size s₄.heap.objs.size (List.range s₄.heap.objs.size) wr all1 n₀ F 0 { s₄ with gens := s₄.gens.push gs, toks := tk, heap := h₅ } →
            Q' (.ref a) { s₄ with gens := s₄.gens.push gs, toks := tk, heap := h₅ })) X.xe { sB with heap := h3, toks := tk } := by
    intro code h3 tk ps' hx hsz hP3 hmore ht3
    obtain ⟨bm, ob, e1, e2, e3, e4, e5, e6, e7, e8⟩ := TB.bm
    have hcP : cStatics ≠ P := fun e => by
      obtain ⟨_, hns, _⟩ := I1.nolimit
      obtain ⟨o', es, ep, ho, hd, _⟩ := hns
      rw [e, hPs] at ho
      cases ho
      cases hd
    have keep3 : ∀ b u, b ≠ P → sB.heap.get? b = some u → h3.get? b = some u := fun b u hb e => hx b u hb (kB _ _ e)
    refine wpAny_builtinsFor (m := X.mg) (by rw [I1.ok.glob]; exact ((I1.mod.glob.keeps I1.bk).keeps kB).extBut hx TB.gP) e1 e2 (keep3 _ _ e4 (I1.bk _ _ e5)) e6 e7 e8 ?_
    have hfp3 : ∀ b ∈ fp, b < h3.objs.size := fun b hb => by
      obtain ⟨o, ho, _⟩ := hfp b hb
      exact Heap.lt_size (hx b o (nP b hb) ho)
    have hsB3 : sB.heap.objs.size ≤ h3.objs.size := Nat.le_trans hsz2 hsz
    have hwrs : ∀ b, b < sB.heap.objs.size → b ∉ wr := fun b hl hb => Nat.lt_irrefl _ (Nat.lt_of_lt_of_le hl (hwr b hb))
    refine ⟨I, fp, wr, n, Y, St, F, rfl, W, (W X.A hr.hd).frame 0 _ _ hst fun b hb o e => hx b o (nP b hb) e, hfp3, lim2.extBut hx hcP, hwrs _ hcB, fun href hhref => ⟨fun A' i v s₂ m₂ hA hD hU hi hY hn hk => ?_⟩, ?_⟩
    · refine hT _ A' i v s₂ m₂ rfl I1.ok.glob rfl hsB3 hA hD hU hi hY hn fun b o hb e => ?_
      have hl := Heap.lt_size e
      exact hk b (List.mem_range.mpr (Nat.lt_of_lt_of_le hl hsB3)) (hwrs b hl) o (hhref b o (keep3 b o hb e))
    · intro g h5 tk5 gs hgb hag hsz5 hk5 W5 hat
      have W6 := W5
      have ep : passing all1 n 0 = List.range n := GxR.passing_true n
      rw [ep, List.length_range] at W6
      refine hQ g _ ⟨_, _, _, _, W6.in4_1, hat, ?_, fun s' hm => ?_⟩
      · intro b hb
        show b < h5.objs.size
        rw [hsz5]
        rcases List.mem_cons.mp hb with z | z
        · rw [z]; exact Nat.lt_succ_self _
        · have hag' : h3.objs.size < g := hag
          rcases List.mem_cons.mp z with z | z
          · rw [z]
            exact Nat.lt_succ_of_lt hag'
          · exact Nat.lt_succ_of_lt (Nat.lt_trans (show b < h3.objs.size from List.mem_range.mp z) hag')
      · obtain ⟨more, em⟩ := hmore
        have nwr : ∀ b u, sB.heap.get? b = some u → b ∉ h3.objs.size :: wr := fun b u e hb => by
          have hl := Heap.lt_size e
          rcases List.mem_cons.mp hb with z | z
          · rw [z] at hl
            exact Nat.lt_irrefl _ (Nat.lt_of_lt_of_le hl hsB3)
          · exact hwrs b hl z
        have J := GxR.inv_tab (more := more) (h' := s'.heap) (g' := s'.gens) (d' := s'.drawn) (t' := s'.toks) I1 hP (fun b u hb e => hm.heap b u (nwr b u e) (hk5 b u (keep3 b u hb e)))
          (by rw [← em]; exact hm.heap P _ (nwr P _ hPs) (hk5 P _ hP3)) (AllBare.movedS (I1.bare.push hgb) hm)
        rw [GxR.sh_eta sB s' hm.os] at J
        exact ⟨upd H1 P (.tbl (ps ++ more)), ⟨⟨ps ++ more, upd_same, by rw [← em]; exact ht3⟩, fun b hb => upd_ne hb⟩, J⟩
  refine ⟨lim2, ?_⟩
  cases hf : codeAmong gpos ps.toList with
  | none =>
    refine wpAny_genexprCodeX hcode (cd.code hP2 ht) (cd.tab hP2) hf fun c' h' tk hx hge hlt hco' _ htab' _ => ?_
    obtain ⟨o1, vs, f1, tf, fl, tg, inF, tx, tt, op, _, _, _, _, _, _, _, _, _, htr, _⟩ := hco'
    exact cont _ h' tk _ hx (Nat.le_trans hge (Nat.le_of_lt hlt)) htab'.2 ⟨_, rfl⟩ htr
  | some cv =>
    refine wpAny_genexprCode_hit hcode (cd.code hP2 ht) hf ?_
    exact cont cv h2 tk2 ps (Heap.ExtBut.refl _ _) (Nat.le_refl _) hP2 ⟨#[], by simp⟩ ht
end
end Dw
set_option maxHeartbeats 4000000
namespace Dw
open PySem PySem.Spec PyProof.Rows L2
section
variable {X : Cx}
theorem base_up {pins : List (Addr × Obj)} {σ : L2.St} {H1 : Hp} {sB s4 : Shared} {P : Addr} (I : Inv X pins σ H1 sB) (hP : ∃ o, H1 P = some o) (kp : ∀ b o, b ≠ P → sB.heap.get? b = some o → s4.heap.get? b = some o) :
    ∀ b o, X.base.get? b = some o → s4.heap.get? b = some o := fun b o e => by
  have q := I.bs b o e
  refine kp b o (fun z => ?_) q.1
  obtain ⟨u, hu⟩ := hP
  rw [z, hu] at q
  exact absurd q.2 (by simp)
/-- an element of the turn: of the int n at the name x the test is true -/
def EltOk (X : Cx) (P : Addr) (scope : Scope) (x : Str) (elt : Expr) (Pre : L2.St → Hp → Int → Prop) : Prop :=
  ∀ (pins : List (Addr × Obj)) (σ : L2.St) (H1 : Hp) (sB : Shared) (M : Int), Inv X pins σ H1 sB → (∃ ps, H1 P = some (.tbl ps)) → Pre σ H1 M →
    ∀ (cenv : Env) (A' : Around) (n : Int) (t : Tok) (s4 : Shared) (m4 : Str → Option Value), cenv.scope = scope → cenv.globals = mainGlobals → cenv.cells = cloFrom X.env.cells scope.names [] → A'.handled = none → A'.depth ≤ X.A.depth + 1 →
      0 ≤ n → n ≤ M → s4.heap.Ns cenv.locals m4 → m4 x = some (.int n t) → (∀ b o, b ≠ P → sB.heap.get? b = some o → s4.heap.get? b = some o) →
      wpAny (model X.prog X.w) A' (eval elt cenv) (fun y s5 => y = .bool true ∧ Keeps s4 s5) (fun _ _ => False) s4
/-- all(test for x in e), e a tuple of ints within 0 .. M -/
def tAllOne (K : PySem.W.Frag) (P : Addr) (Pre : L2.St → Hp → Int → Prop) (te : TE) : TE := fun σ H Q => te σ H fun v H1 => ∃ (a : Addr) (ns : List Int) (M : Int), v = .ref a ∧ SqT K H1 a (ns.map V.int) ∧ Pre σ H1 M ∧ (∀ n ∈ ns, 0 ≤ n ∧ n ≤ M) ∧ GxR.TabG H1 P ∧
  ∀ H2, GxR.Tabbed P H1 H2 → Q (.bl true) H2
theorem vals_int {ns : List Int} {its : List Value} (r : Vals (ns.map V.int) its) {i : Nat} {v : Value} (h : its[i]? = some v) : ∃ n t, ns[i]? = some n ∧ v = .int n t := by
  have hl := r.length
  have hi : i < its.length := (List.getElem?_eq_some_iff.mp h).1
  have hi2 : i < (ns.map V.int).length := by omega
  obtain ⟨w, ew, rw'⟩ := r.get (List.getElem?_eq_getElem hi2)
  rw [h] at ew
  cases ew
  have hi3 : i < ns.length := by rw [List.length_map] at hi2; exact hi2
  rw [List.getElem_map] at rw'
  obtain ⟨t, e⟩ := rw'
  exact ⟨ns[i], t, List.getElem?_eq_getElem hi3, e⟩
theorem cls_none_ne {T : String} : (Value.type T) ≠ Value.none := fun z => by cases z
theorem pe_allOne {c P : Addr} {elt iter : Expr} {x : Str} {px p pos gpos : Pos} {scope : Scope} {Pre : L2.St → Hp → Int → Prop} {te : TE} {k : Nat}
    (hr : Room k X.A) (hg : Gl X "all") (hm : X.mg "all" = none) (hb : bootBuiltins "all" = some (.builtin "all")) (TB : GxR.TabB X.base X.mg c P) (hcode : X.env.code = .ref c) (S : GSc X.env scope) (hx : scope.names.lookup x = some .local) (hi : PE X iter te) (hel : EltOk X P scope x elt Pre)
    (hs : ∀ v, genFold iter X.env v = pure v)
    (he : starEach [.GeneratorExp elt [⟨.Name x px, iter, [], 0⟩] scope gpos] X.env = (false, eval (.GeneratorExp elt [⟨.Name x px, iter, [], 0⟩] scope gpos) X.env) :: starEach [] X.env := by rfl) :
    PE X (.Call (.Name "all" p) [.GeneratorExp elt [⟨.Name x px, iter, [], 0⟩] scope gpos] [] pos) (tAllOne X.K P Pre te) := by
  refine ⟨fun pins s σ H Q I h => ?_⟩
  refine wpAny_Call_Name_kw (ld_blt I hg hm hb ?_)
  refine PyProof.Rows.callWith_builtin1 ?_ he (by rfl)
  rw [he]
  show wpAny _ _ (spliced ((false, eval (.GeneratorExp elt [⟨.Name x px, iter, [], 0⟩] scope gpos) X.env) :: backTo pos (starEach [] X.env))) _ _ s
  refine Calls.spliced_cons (gen_goes (pins := pins) (σ := σ) hr TB hcode S hs ?_)
  refine thn (hi.run pins s σ H _ I h) fun xv s1 ⟨v, H1, I1, r1, q1⟩ => ?_
  obtain ⟨a, ns, M, rfl, hq, hpre, hns, ⟨ps, hP, hps⟩, hQ⟩ := q1
  obtain rfl : xv = Value.ref a := r1
  obtain ⟨its, rv, ht, hz⟩ := I1.tuple hq
  have ht' : s1.heap.IsTuple a its.toArray := ht
  refine wpAny_pyIter_tuple ht' ?_
  have hPs : s1.heap.get? P = some { cls := .none, data := .fields ps } := I1.hok P _ hP
  obtain ⟨oa, hoa, hca, hda⟩ := id ht
  have hal : a < s1.heap.objs.size := Heap.lt_size hoa
  have kp : ∀ b o, s1.heap.get? b = some o → (s1.heap.push { cls := .type "tuple_iterator", data := .fields #[.ref a, .int 0 0] }).get? b = some o := fun b o e => Heap.get?_push_of_some _ e
  refine ⟨s1, H1, ps, s1.heap.objs.size, [s1.heap.objs.size, a], [s1.heap.objs.size], its.toArray.size, (fun i v _ => its.toArray[i]? = some v), (fun i h => h.IsTupleIter s1.heap.objs.size a i ∧ h.IsTuple a its.toArray), (fun _ y => y = .bool true), _, s1.toks, rfl, I1, hP, hps, rfl, by rw [Heap.size_push]; exact Nat.le_succ _, kp, ?_, ?_, fun A' hA => Goes.tuple hA _ _ (Nat.ne_of_lt hal) _, ?_, ?_, ?_⟩
  · intro b hb
    rw [List.mem_singleton.mp hb]
    exact Nat.le_refl _
  · intro b hb
    rcases List.mem_cons.mp hb with z | z
    · rw [z]
      exact ⟨_, Heap.get?_push_size _ rfl, cls_none_ne⟩
    · rw [List.mem_singleton.mp z]
      exact ⟨oa, kp _ _ hoa, by rw [hca]; exact cls_none_ne⟩
  · exact ⟨⟨_, Heap.get?_push_size _ rfl, rfl, rfl⟩, ht'.at fun o e => kp _ _ e⟩
  · intro cenv A' i v s3 m3 e1 e2 e3 hC hA hD hU hi2 hY hn hk
    obtain ⟨n, t, hn1, rfl⟩ := vals_int rv (by rw [← List.getElem?_toArray]; exact hY)
    have hmem : n ∈ ns := List.mem_of_getElem? hn1
    refine wpAny_assign_Name (wpAny_storeName_local (show cenv.scope.names.lookup x = some .local by rw [e1]; exact hx) hn (fun h' hn' hs' => ?_) (by rw [e1]; simp [S.kind]))
    have kC : ∀ b o, b ≠ cenv.locals → s3.heap.get? b = some o → h'.get? b = some o := fun b o hb e => hs'.extBut b o hb e
    refine wpAny_mono (hel pins σ H1 s1 M I1 ⟨ps, hP⟩ hpre cenv A' n t _ _ e1 e2 e3 hA hD (hns n hmem).1 (hns n hmem).2 hn' (by simp) fun b o hb e => kC b o (fun z => by have := Heap.lt_size e; rw [z] at this; exact Nat.lt_irrefl _ (Nat.lt_of_lt_of_le this hC)) (hk b o hb e)) (fun y s5 hy => ?_) fun _ _ e => e
    obtain ⟨rfl, h5, tk5, rfl, hk5⟩ := hy
    exact ⟨rfl, h5, tk5, rfl, ⟨_, hn'.keeps hk5⟩, fun b o hb e => hk5 b o (kC b o hb e)⟩
  · intro g s5 hG
    obtain ⟨fp, wr, G, St, W, hst, _, hI⟩ := hG
    refine Calls.spliced_nil ?_
    refine call_all_walkS (W.self 0 _ _ _ hst ⟨g, fp, wr, G, _, _, St, (fun _ => true), rfl, W, hst, ?_, fun s' hmv => ?_⟩)
    · intro j y sj Qj Ej hy hQj
      obtain ⟨i, _, rfl⟩ := hy
      exact wpAny_truthy_bool hQj
    · obtain ⟨H2, hT, J⟩ := hI s' hmv
      have e : ((List.range its.toArray.size).all fun _ => true) = true := by simp
      rw [e]
      exact ⟨.bl true, H2, J, rfl, hQ H2 hT⟩
end
end Dw
set_option maxHeartbeats 4000000
namespace Dw
open PySem PySem.Spec PyProof.Rows L2
section
variable {X : Cx}
/-- what is_in's calls need of the module -/
structure IsInT (K : PySem.W.Frag) (mg : Str → Option Value) (f : Addr) (fd : FuncData) : Prop where
  F : FunD K "is_in" "is_in" (defArgs (top 15)) (defBody (top 15)) (defScope (top 15)) [] [] f fd
  g : mg "is_in" = some (.ref f)
  n1 : mg "isinstance" = none
  n2 : mg "int" = none
  n3 : mg "bool" = none
theorem elt_isinM {f : Addr} {fd : FuncData} {P : Addr} {scope : Scope} {p0 p1 p2 p3 pos : Pos} {j : Nat} {tM : Tok} {k : Nat} (hr : Room k X.A) (T : IsInT X.K X.mg f fd) (hM : X.mg "MOST_FLOW" = some (.int 1000 tM)) (S : GSc X.env scope)
    (l1 : scope.names.lookup ("is_in" : Str) = some .globalImplicit) (l2 : scope.names.lookup ("one" : Str) = some .local) (l3 : scope.names.lookup ("MOST_FLOW" : Str) = some .globalImplicit) :
    EltOk X P scope "one" (.Call (.Name "is_in" p0) [.Name "one" p1, .Constant (.int 0) j p2, .Name "MOST_FLOW" p3] [] pos) (fun _ _ M => M = 1000) := by
  intro pins σ H1 sB M I hP hpre cenv A' n t s4 m4 e1 e2 e3 hA hD h0 h1 hn hm hk
  subst hpre
  have kb := base_up I (let ⟨_, q⟩ := hP; ⟨_, q⟩) hk
  have Xs : X.K.In s4.heap := I.ok.mod.kin.keeps kb
  have gl : s4.heap.Ns mainGlobals X.mg := I.mod.glob.keeps kb
  have kd : cenv.scope.kind = .function := by rw [e1]; exact S.kind
  have kind : ∀ {x : Str} {q : NameKind}, scope.names.lookup x = some q → cenv.kindOf x = some q := fun {x q} e => by
    show cenv.scope.names.lookup x = some q
    rw [e1]
    exact e
  obtain ⟨mb, b1, b2⟩ := I.mod.blt
  refine wpAny_Call_Name_kw (Calls.Name_function_global kd (kind l1) (Calls.loadGlobal_global (by rw [e2]; exact gl) T.g ?_) rfl)
  refine PySem.W.callWith_K (h₀ := X.base) I.ok.mod.kin T.F.kp ?_ rfl rfl
  refine Calls.spliced_cons (wpAny_Name (wpAny_loadName_local kd (kind l2) hn hm ?_) rfl)
  refine Calls.spliced_cons (wpAny_Constant_int (k := j) (pos := p2) ?_)
  refine Calls.spliced_cons (Calls.Name_function_global kd (kind l3) (Calls.loadGlobal_global (by rw [e2]; exact gl) hM ?_) rfl)
  refine Calls.spliced_nil ⟨Xs, ?_⟩
  refine isin_raw T.F Xs gl ⟨mb, b1.keeps kb, b2⟩ (I.ok.mod.nolimit.keeps kb) (by have := hr.dp; omega) T.n1 T.n2 T.n3 h0 h1 fun h' tk hk' => ⟨rfl, h', tk, rfl, hk'⟩
/-- the dam's tuple at the captured name: its first item is M -/
def PreDam (K : PySem.W.Frag) (i : Nat) : L2.St → Hp → Int → Prop := fun σ H M => ∃ (d : Addr) (rest : List V), σ[i]? = some (some (.ref d)) ∧ SqT K H d (.int M :: rest)
theorem elt_isinD {f : Addr} {fd : FuncData} {P : Addr} {scope : Scope} {p0 p1 p2 p3 p4 p5 pos : Pos} {j j2 : Nat} {k : Nat} {cd : Addr} (hr : Room k X.A) (T : IsInT X.K X.mg f fd) (S : GSc X.env scope)
    (l1 : scope.names.lookup ("is_in" : Str) = some .globalImplicit) (l2 : scope.names.lookup ("one" : Str) = some .local) (l3 : scope.names.lookup ("dam" : Str) = some .free) (hN : X.N[0]? = some ("dam" : Str)) (hv : X.env.scope.names.lookup ("dam" : Str) = some .cell) (hc : X.env.cells.lookup ("dam" : Str) = some cd) (hc2 : (cloFrom X.env.cells scope.names []).lookup ("dam" : Str) = some cd) :
    EltOk X P scope "one" (.Call (.Name "is_in" p0) [.Name "one" p1, .Constant (.int 0) j p2, .Subscript (.Name "dam" p3) (.Constant (.int 0) j2 p4) p5] [] pos) (PreDam X.K 0) := by
  intro pins σ H1 sB M I hP hpre cenv A' n t s4 m4 e1 e2 e3 hA hD h0 h1 hn hm hk
  obtain ⟨d, rest, hσ, hd⟩ := hpre
  obtain ⟨ps, hP⟩ := hP
  have hPs : sB.heap.get? P = some { cls := .none, data := .fields ps } := I.hok P _ hP
  have kb := base_up I ⟨_, hP⟩ hk
  have Xs : X.K.In s4.heap := I.ok.mod.kin.keeps kb
  have gl : s4.heap.Ns mainGlobals X.mg := I.mod.glob.keeps kb
  have kd : cenv.scope.kind = .function := by rw [e1]; exact S.kind
  have kind : ∀ {x : Str} {q : NameKind}, scope.names.lookup x = some q → cenv.kindOf x = some q := fun {x q} e => by
    show cenv.scope.names.lookup x = some q
    rw [e1]
    exact e
  obtain ⟨mb, b1, b2⟩ := I.mod.blt
  -- the cell
  obtain ⟨m, hns, hl⟩ := I.loc
  obtain ⟨u, ru, lk⟩ := hl 0 ("dam" : Str) (.ref d) hN hσ (.inr (.inl hv))
  obtain rfl : u = Value.ref d := ru
  have hcell : sB.heap.IsCell cd (some (.ref d)) := by
    rcases lk with ⟨q, _⟩ | ⟨_, c', h1', h2'⟩
    · rw [show X.env.kindOf ("dam" : Str) = some .cell from hv] at q
      cases q
    · rw [hc] at h1'
      cases h1'
      exact h2'
  have hcell4 : s4.heap.IsCell cd (some (.ref d)) := by
    obtain ⟨o, ho, hdo⟩ := hcell
    refine ⟨o, hk cd o (fun z => ?_) ho, hdo⟩
    rw [z, hPs] at ho
    cases ho
    cases hdo
  obtain ⟨its, rv, ht, hz⟩ := I.tuple hd
  have ht4 : IsTup s4.heap d its.toArray := by
    obtain ⟨o, ho, hco, nd⟩ := ht
    refine ⟨o, hk d o (fun z => ?_) ho, hco, nd⟩
    rw [z, hPs] at ho
    cases ho
    cases hco
  obtain ⟨w0, hw0, rw0⟩ := rv.get (show (V.int M :: rest)[0]? = some (V.int M) from rfl)
  obtain ⟨tM, rfl⟩ := rw0
  have hlen : 0 < its.length := (List.getElem?_eq_some_iff.mp hw0).1
  refine wpAny_Call_Name_kw (Calls.Name_function_global kd (kind l1) (Calls.loadGlobal_global (by rw [e2]; exact gl) T.g ?_) rfl)
  refine PySem.W.callWith_K (h₀ := X.base) I.ok.mod.kin T.F.kp ?_ rfl rfl
  refine Calls.spliced_cons (wpAny_Name (wpAny_loadName_local kd (kind l2) hn hm ?_) rfl)
  refine Calls.spliced_cons (wpAny_Constant_int (k := j) (pos := p2) ?_)
  refine Calls.spliced_cons (Subscript_ (wpAny_Name (wpAny_loadName_free kd (kind l3) (by rw [e3]; exact hc2) hcell4 (wpAny_Constant_int (k := j2) (pos := p4) ?_)) rfl))
  refine subscriptTail_builtinR (x := .int M tM) ht4.typeIs slot_tuple_getitem.lookup (getItem_tuple (j := 0) (show IsTup s4.heap d its.toArray from ht4) (by omega) (by omega) (by simp [seqIndex?, hlen]) (by simpa using hw0) ⟨rfl, ?_⟩) (by with_unfolding_all rfl)
  refine Calls.spliced_nil ⟨Xs, ?_⟩
  refine isin_raw T.F Xs gl ⟨mb, b1.keeps kb, b2⟩ (I.ok.mod.nolimit.keeps kb) (by have := hr.dp; omega) T.n1 T.n2 T.n3 h0 h1 fun h' tk hk' => ⟨rfl, h', tk, rfl, hk'⟩
end
end Dw
set_option maxHeartbeats 4000000
namespace Dw
open PySem PySem.Spec PyProof.Rows L2
section
variable {X : Cx}
/-- the rows of a run: tuples of three ints at the addresses ads -/
def RowsAt (H : Hp) (ads : List Addr) (rows : List (Int × Int × Int)) : Prop := ads.length = rows.length ∧ ∀ (i : Nat) (p : Addr) (r : Int × Int × Int), ads[i]? = some p → rows[i]? = some r → H p = some (.tup [.int r.1, .int r.2.1, .int r.2.2])
def lackAt (ds : List Int) (rows : List (Int × Int × Int)) (i : Nat) : Int := ds.getD i 0 - (rows.getD i (0, 0, 0)).1
/-- sum(a - b for a, (b, c, d) in zip(e1, e2)), e1 a tuple of ints, e2 a list of triples -/
def tSumZ (K : PySem.W.Frag) (P : Addr) (ta : TA) : TE := fun σ H Q => ta σ H fun vs H1 => ∃ (a l : Addr) (ds : List Int) (ads : List Addr) (rows : List (Int × Int × Int)), vs = [.ref a, .ref l] ∧ SqT K H1 a (ds.map V.int) ∧ SqL K H1 l (ads.map V.ref) ∧ RowsAt H1 ads rows ∧ rows.length = ds.length ∧ GxR.TabG H1 P ∧
  ∀ H2, GxR.Tabbed P H1 H2 → Q (.int (preSum (lackAt ds rows) ds.length)) H2
theorem vals_ref {ads : List Addr} {its : List Value} (r : Vals (ads.map V.ref) its) {i : Nat} {v : Value} (h : its[i]? = some v) : ∃ p, ads[i]? = some p ∧ v = .ref p := by
  have hl := r.length
  have hi : i < its.length := (List.getElem?_eq_some_iff.mp h).1
  have hi2 : i < (ads.map V.ref).length := by omega
  obtain ⟨w, ew, rw'⟩ := r.get (List.getElem?_eq_getElem hi2)
  rw [h] at ew
  cases ew
  have hi3 : i < ads.length := by rw [List.length_map] at hi2; exact hi2
  rw [List.getElem_map] at rw'
  exact ⟨ads[i], List.getElem?_eq_getElem hi3, rw'⟩
theorem pe_sumZ {c P : Addr} {e1 e2 : Expr} {ta : TA} {p p2 pos pos2 gpos q1 q2 q3 q4 q5 q6 q7 q8 q9 : Pos} {kt k2 : Nat} {scope : Scope} {k : Nat}
    (hr : Room k X.A) (hg : Gl X "sum") (hm : X.mg "sum" = none) (hgz : Gl X "zip") (hmz : X.mg "zip" = none) (TB : GxR.TabB X.base X.mg c P) (hcode : X.env.code = .ref c) (S : GSc X.env scope)
    (l1 : scope.names.lookup ("demand" : Str) = some .local) (l2 : scope.names.lookup ("given" : Str) = some .local) (l3 : scope.names.lookup ("spilled" : Str) = some .local) (l4 : scope.names.lookup ("held" : Str) = some .local) (ha : PA X [e1, e2] ta)
    (hs2 : starEach [e1, e2] X.env = (false, eval e1 X.env) :: starEach [e2] X.env := by rfl) (hpl : (backTo pos2 (starEach [e2] X.env)).any (·.1) = false := by rfl) :
    PE X (.Call (.Name "sum" p) [.GeneratorExp (.BinOp (.Name "demand" q1) .Sub (.Name "given" q2) q3) [⟨.Tuple [.Name "demand" q4, .Tuple [.Name "given" q5, .Name "spilled" q6, .Name "held" q7] k2 q8] kt q9, .Call (.Name "zip" p2) [e1, e2] [] pos2, [], 0⟩] scope gpos] [] pos) (tSumZ X.K P ta) := by
  refine ⟨fun pins s σ H Q I h => ?_⟩
  refine wpAny_Call_Name_kw (ld_blt I hg hm (show bootBuiltins "sum" = some (.builtin "sum") by kernel_rfl) ?_)
  refine PyProof.Rows.callWith_builtin1 ?_ (by rfl) (by rfl)
  refine Calls.spliced_cons (gen_goes (pins := pins) (σ := σ) hr TB hcode S (fun v => rfl) ?_)
  refine Call_ (ld_blt I hgz hmz PyProof.Rows.boot_zip (PyProof.Rows.callWith_type1 (thn (ha.run pos2 pins s σ H _ I h) fun us s1 ⟨vs, H1, I1, r1, q1⟩ => ?_) hs2 hpl))
  obtain ⟨a, l, ds, ads, rows, rfl, hq, hql, hrow, hlen, ⟨ps, hP, hps⟩, hQ⟩ := q1
  obtain ⟨u1, u2, rfl, ra, rl⟩ := vals2 r1
  obtain rfl : u1 = Value.ref a := ra
  obtain rfl : u2 = Value.ref l := rl
  obtain ⟨its, rv, ht, hz⟩ := I1.tuple hq
  obtain ⟨its2, rv2, hL, hz2⟩ := I1.list hql
  have ht' : s1.heap.IsTuple a its.toArray := ht
  have hL' : s1.heap.IsList l its2.toArray := hL.isList
  obtain ⟨oa, hoa, hca, hda⟩ := id ht
  obtain ⟨ol, nl, hol, hcl, hdl, _⟩ := id hL
  have hal : a < s1.heap.objs.size := Heap.lt_size hoa
  have hll : l < s1.heap.objs.size := Heap.lt_size hol
  have hPs : s1.heap.get? P = some { cls := .none, data := .fields ps } := I1.hok P _ hP
  refine zip_begins2 (begins_tuple a its.toArray) (begins_list l its2.toArray) ht' hL' fun h' hz' hTI hTO g1 g2 hsz hk => ?_
  refine wpAny_pyIter_zip hz' ?_
  have S2 : ZipSep2 (s1.heap.objs.size + 4) (s1.heap.objs.size + 2) (s1.heap.objs.size + 3) s1.heap.objs.size (s1.heap.objs.size + 1) [s1.heap.objs.size, a] [s1.heap.objs.size + 1, l] := by
    have na : ∀ j, s1.heap.objs.size + j ≠ a := fun j z => Nat.lt_irrefl _ (Nat.lt_of_le_of_lt (Nat.le_add_right s1.heap.objs.size j) (by rw [z]; exact hal))
    have nl' : ∀ j, s1.heap.objs.size + j ≠ l := fun j z => Nat.lt_irrefl _ (Nat.lt_of_le_of_lt (Nat.le_add_right s1.heap.objs.size j) (by rw [z]; exact hll))
    have nj : ∀ i j : Nat, i ≠ j → s1.heap.objs.size + i ≠ s1.heap.objs.size + j := fun i j h z => h (Nat.add_left_cancel z)
    exact { TIz := nj 2 4 (by decide), TOz := nj 3 4 (by decide), TITO := nj 2 3 (by decide), TIi1 := nj 2 0 (by decide), mem1 := List.mem_cons_self,
            zf1 := fun z => by
              rcases List.mem_cons.mp z with z | z
              · exact nj 4 0 (by decide) z
              · exact na 4 (List.mem_singleton.mp z)
            Tf1 := fun z => by
              rcases List.mem_cons.mp z with z | z
              · exact nj 3 0 (by decide) z
              · exact na 3 (List.mem_singleton.mp z)
            TIi2 := nj 2 1 (by decide), mem2 := List.mem_cons_self,
            zf2 := fun z => by
              rcases List.mem_cons.mp z with z | z
              · exact nj 4 1 (by decide) z
              · exact nl' 4 (List.mem_singleton.mp z)
            Tf2 := fun z => by
              rcases List.mem_cons.mp z with z | z
              · exact nj 3 1 (by decide) z
              · exact nl' 3 (List.mem_singleton.mp z)
            sep1_2 := fun z => by
              rcases List.mem_cons.mp z with z | z
              · exact nj 0 1 (by decide) z
              · exact nl' 0 (List.mem_singleton.mp z)
            sep2_1 := fun z => by
              rcases List.mem_cons.mp z with z | z
              · exact nj 1 0 (by decide) z
              · exact na 1 (List.mem_singleton.mp z) }
  have n1 : its.toArray.size = ds.length := by rw [List.size_toArray, ← rv.length, List.length_map]
  have n2 : its2.toArray.size = ds.length := by rw [List.size_toArray, ← rv2.length, List.length_map, hrow.1, hlen]
  have W0 : ∀ A' : Around, A'.handled = none → Goes X.prog X.w A' (.Tuple [.Name "demand" q4, .Tuple [.Name "given" q5, .Name "spilled" q6, .Name "held" q7] k2 q8] kt q9) (s1.heap.objs.size + 4) _ _ _ _ _ := fun A' hA =>
    Goes.ofWalksU (WalksT.zipD2 S2 (Draws.tuple (A := A'.in1) hA s1.heap.objs.size a (Nat.ne_of_lt hal) its.toArray) (Draws.list (A := A'.in1) hA (s1.heap.objs.size + 1) l (Nat.ne_of_lt (Nat.lt_succ_of_lt hll)) its2.toArray)).toU
  refine ⟨s1, H1, ps, s1.heap.objs.size + 4, _, _, _, _, _, (fun i y => ∃ t, y = .int (lackAt ds rows i) t), h', s1.toks, rfl, I1, hP, hps, rfl, by rw [hsz]; exact Nat.le_add_right _ _, hk, ?_, ?_, W0, ?_, ?_, ?_⟩
  · intro b hb
    have hb' : b = s1.heap.objs.size + 4 ∨ b = s1.heap.objs.size + 3 ∨ b = s1.heap.objs.size ∨ b = s1.heap.objs.size + 1 := by simpa using hb
    rcases hb' with z | z | z | z
    · rw [z]; exact Nat.le_add_right _ _
    · rw [z]; exact Nat.le_add_right _ _
    · rw [z]; exact Nat.le_refl _
    · rw [z]; exact Nat.le_add_right _ _
  · intro b hb
    have hb' : b = s1.heap.objs.size + 4 ∨ b = s1.heap.objs.size + 2 ∨ b = s1.heap.objs.size + 3 ∨ b = s1.heap.objs.size ∨ b = a ∨ b = s1.heap.objs.size + 1 ∨ b = l := by simpa using hb
    rcases hb' with z | z | z | z | z | z | z
    · rw [z]; exact ⟨_, hz', cls_none_ne⟩
    · rw [z]; exact ⟨_, hTI, cls_none_ne⟩
    · rw [z]; exact ⟨_, hTO, cls_none_ne⟩
    · rw [z]; exact ⟨_, g1, cls_none_ne⟩
    · rw [z]; exact ⟨oa, hk _ _ hoa, by rw [hca]; exact cls_none_ne⟩
    · rw [z]; exact ⟨_, g2, cls_none_ne⟩
    · rw [z]; exact ⟨ol, hk _ _ hol, by rw [hcl]; exact cls_none_ne⟩
  · exact ⟨hz', hTI, ⟨_, _, hTO⟩, ⟨⟨_, g1, rfl, rfl⟩, ht'.at fun o e => hk _ _ e⟩, ⟨⟨_, g2, rfl, rfl⟩, hL'.at fun o e => hk _ _ e⟩⟩
  · intro cenv A' i v s3 m3 e1 e2 e3 hC hA hD hU hi2 hY hn hk3
    obtain ⟨hh3, gg3, dd3, tt3, oo3⟩ := s3
    replace hn : hh3.Ns cenv.locals m3 := hn
    replace hk3 : ∀ b o, b ≠ P → s1.heap.get? b = some o → hh3.get? b = some o := hk3
    obtain ⟨T, vals, rfl, ⟨x1, x2, hx1, hx2, rfl⟩, hT⟩ := hY
    obtain ⟨d, td, hd, rfl⟩ := vals_int rv (by rw [← List.getElem?_toArray]; exact hx1)
    obtain ⟨pr, hpr, rfl⟩ := vals_ref rv2 (by rw [← List.getElem?_toArray]; exact hx2)
    have hir : i < rows.length := by rw [← hrow.1]; exact (List.getElem?_eq_some_iff.mp hpr).1
    have hr3 := hrow.2 i pr rows[i] hpr (List.getElem?_eq_getElem hir)
    obtain ⟨_, its3, rv3, hT3⟩ : _ ∧ ∃ its3 : List Value, Vals [V.int rows[i].1, V.int rows[i].2.1, V.int rows[i].2.2] its3 ∧ IsTup s1.heap pr its3.toArray := I1.hok pr _ hr3
    obtain ⟨g3, it2, rfl, ⟨tg, rfl⟩, rv4⟩ : ∃ u us, its3 = u :: us ∧ RelV (V.int rows[i].1) u ∧ Vals [V.int rows[i].2.1, V.int rows[i].2.2] us := by
      cases rv3 with
      | cons r t => exact ⟨_, _, rfl, r, t⟩
    obtain ⟨u2, u3, rfl, _, _⟩ := vals2 rv4
    have hT4 : hh3.IsTuple pr #[.int rows[i].1 tg, u2, u3] := by
      obtain ⟨o, ho, hco, nd⟩ := hT3
      refine ⟨o, hk3 pr o (fun z => ?_) ho, hco, nd⟩
      rw [z, hPs] at ho
      cases ho
      cases hco
    have kd : cenv.scope.kind = .function := by rw [e1]; exact S.kind
    have hp : (cenv.scope.kind == .class || (cenv.scope.kind == .module && cenv.locals != cenv.globals)) = false := by rw [kd]; rfl
    have kind : ∀ {x : Str} {q : NameKind}, scope.names.lookup x = some q → cenv.kindOf x = some q := fun {x q} e => by
      show cenv.scope.names.lookup x = some q
      rw [e1]
      exact e
    refine wpAny_assign_Tuple hA hT rfl rfl fun h4 hx4 => ?_
    have k4 : ∀ b o, hh3.get? b = some o → h4.get? b = some o := fun b o e => hx4 b o (Nat.ne_of_lt (Heap.lt_size e)) e
    show wpAny _ _ (do holding [.ref pr] (assign (.Name "demand" q4) cenv (.int d td)); do holding [] (assign (.Tuple [.Name "given" q5, .Name "spilled" q6, .Name "held" q7] k2 q8) cenv (.ref pr)); pure ()) _ _ _
    refine wpAny_bind (wpAny_holding (wpAny_assign_Name (wpAny_storeName_local (kind l1) (hn.keeps k4) (fun h5 hn5 hs5 => ?_) hp)))
    have k5 : ∀ b o, b ≠ cenv.locals → hh3.get? b = some o → h5.get? b = some o := fun b o hb e => hs5.extBut b o hb (k4 b o e)
    have hprC : pr ≠ cenv.locals := fun z => by
      obtain ⟨o, ho, _⟩ := hT3
      have q := Heap.lt_size ho
      rw [z] at q
      exact Nat.lt_irrefl _ (Nat.lt_of_lt_of_le q hC)
    have hT5 : h5.IsTuple pr #[.int rows[i].1 tg, u2, u3] := hT4.at fun o e => k5 _ o hprC e
    refine wpAny_bind (wpAny_holding (wpAny_assign_Tuple (s := ⟨h5, gg3, dd3, _, oo3⟩) hA hT5 rfl rfl fun h6 hx6 => ?_))
    have k6 : ∀ b o, h5.get? b = some o → h6.get? b = some o := fun b o e => hx6 b o (Nat.ne_of_lt (Heap.lt_size e)) e
    show wpAny _ _ (do holding [u2, u3] (assign (.Name "given" q5) cenv (.int rows[i].1 tg)); do holding [u3] (assign (.Name "spilled" q6) cenv u2); do holding [] (assign (.Name "held" q7) cenv u3); pure ()) _ _ _
    refine wpAny_bind (wpAny_holding (wpAny_assign_Name (wpAny_storeName_local (kind l2) (hn5.keeps k6) (fun h7 hn7 hs7 => ?_) hp)))
    refine wpAny_bind (wpAny_holding (wpAny_assign_Name (wpAny_storeName_local (kind l3) hn7 (fun h8 hn8 hs8 => ?_) hp)))
    refine wpAny_bind (wpAny_holding (wpAny_assign_Name (wpAny_storeName_local (kind l4) hn8 (fun h9 hn9 hs9 => wpAny_pure (wpAny_pure ?_)) hp)))
    have k9 : ∀ b o, b ≠ cenv.locals → hh3.get? b = some o → h9.get? b = some o := fun b o hb e => hs9.extBut b o hb (hs8.extBut b o hb (hs7.extBut b o hb (k6 b o (k5 b o hb e))))
    have ed : ds.getD i 0 = d := by rw [List.getD_eq_getElem?_getD, hd]; rfl
    have er : rows.getD i (0, 0, 0) = rows[i] := by rw [List.getD_eq_getElem?_getD, List.getElem?_eq_getElem hir]; rfl
    have ev : lackAt ds rows i = d - rows[i].1 := by
      unfold lackAt
      rw [ed, er]
    have fin : ∀ (tk : Nat) (t : Tok), (∃ t', Value.int (d - rows[i].1) t = .int (lackAt ds rows i) t') ∧ KB cenv.locals ⟨hh3, gg3, dd3, tt3, oo3⟩ ⟨h9, gg3, dd3, tk, oo3⟩ := fun tk t => ⟨⟨t, by rw [ev]⟩, h9, tk, rfl, ⟨_, hn9⟩, k9⟩
    refine wpAny_BinOp (wpAny_Name (wpAny_loadName_local kd (kind l1) hn9 (v := .int d td) (by simp (decide := true)) ?_) rfl)
    refine wpAny_Name (wpAny_loadName_local kd (kind l2) hn9 (v := .int rows[i].1 tg) (by simp (decide := true)) ?_) rfl
    exact sub_int (fin _ _)
  · intro g s5 hG
    obtain ⟨fp, wr, G, St, W, hst, hfp, hI⟩ := hG
    refine Calls.spliced_nil ?_
    refine call_sum_walkAnyS (W.self 0 _ _ _ hst ⟨g, fp, wr, G, _, _, St, lackAt ds rows, rfl, W, hst, hfp, ?_, fun s' t' hmv => ?_⟩)
    · intro j y hy
      obtain ⟨i, hij, t, rfl⟩ := hy
      obtain ⟨hj, ej⟩ := List.getElem?_eq_some_iff.mp hij
      rw [List.getElem_range] at ej
      subst ej
      exact ⟨t, rfl⟩
    · obtain ⟨H2, hT, J⟩ := hI s' hmv
      refine ⟨.int _, H2, J, ⟨t', rfl⟩, ?_⟩
      have e : min its.toArray.size its2.toArray.size = ds.length := by rw [n1, n2]; exact Nat.min_self _
      rw [e]
      exact hQ H2 hT
end
end Dw
set_option maxHeartbeats 4000000
namespace Dw
open PySem PySem.Spec PyProof.Rows
theorem zip_nolen : typeLookup (.type "zip") "__len__" = pure none := by rw [typeLookup_type, builtinLookup_eq_fast]; kernel_rfl
theorem zip_nohint : typeLookup (.type "zip") "__length_hint__" = pure none := by rw [typeLookup_type, builtinLookup_eq_fast]; kernel_rfl
section
variable {prog : Program} {w : World} {A : Around} {E : Value → Shared → Prop} {s : Shared}
theorem zt_item_held {z TI TO T i1 i2 l1 l2 : Addr} {f : Bool} {oT : Obj} {k1 k2 : Nat} {xs ys : Array Value} {x y : Value} {Q : Value → Shared → Prop} (D : ZipApart z TI TO i1 i2 l1 l2)
    (hz : IsZipHeld s.heap z TI TO T f) (hT : s.heap.get? T = some oT) (hTI : IsPair s.heap TI (.ref i1) (.ref i2))
    (h1 : s.heap.IsTupleIter i1 l1 k1) (h2 : s.heap.IsTupleIter i2 l2 k2) (hl1 : s.heap.IsTuple l1 xs) (hl2 : s.heap.IsTuple l2 ys) (hx : xs[k1]? = some x) (hy : ys[k2]? = some y)
    (hQ : ∀ h', IsZipHeld h' z TI TO T true → h'.IsTupleIter i1 l1 (k1 + 1) → h'.IsTupleIter i2 l2 (k2 + 1) → IsPair h' s.heap.objs.size x y → h'.objs.size = s.heap.objs.size + 1 →
      (∀ c o, c ≠ z → c ≠ i1 → c ≠ i2 → s.heap.get? c = some o → h'.get? c = some o) → Q (.ref s.heap.objs.size) { s with heap := h' }) :
    wpAny (model prog w) A (Builtin.«zip.__next__» ⟨[.ref z], []⟩) (fun fin s' => ∃ v, fin = .done (.ret v) ∧ Q v s') E s := by
  show wpAny _ _ (field (.ref z) 2 >>= _) _ _ _
  refine wpAny_bind (wpAny_field hz rfl (x := .bool false) rfl ?_)
  show wpAny _ _ (field (.ref z) 3 >>= _) _ _ _
  refine wpAny_bind (wpAny_field hz rfl (x := .ref TI) rfl ?_)
  refine wpAny_bind (wpAny_seqItems hTI rfl ?_)
  show wpAny _ _ (Builtin.SmallTypes.ownedTupleIsFree (.ref z) >>= _) _ _ _
  refine wpAny_bind (wpAny_tupleHeld_zip hz hT fun h₁ hz₁ hs₁ => ?_)
  simp only [Bool.false_eq_true, if_false]
  refine wpAny_bind ?_
  rw [← Array.forIn_toList]
  simp only [List.forIn_cons, List.forIn_nil]
  refine wpAny_bind (wpAny_bind (wpAny_holding ?_))
  show wpAny _ _ (Builtin.SmallTypes.nextOf (.ref i1) >>= _) _ _ _
  refine wpAny_bind (RZ.nextOf_tuple_item (s := { s with heap := h₁ }) (h1.extBut hs₁.extBut D.i1z) (hl1.extBut hs₁.extBut D.l1z) hx fun h₂ h1₂ hs₂ => wpAny_pure ?_)
  refine wpAny_pure ?_
  refine wpAny_bind (wpAny_bind (wpAny_holding ?_))
  show wpAny _ _ (Builtin.SmallTypes.nextOf (.ref i2) >>= _) _ _ _
  refine wpAny_bind (RZ.nextOf_tuple_item (s := { s with heap := h₂ }) ((h2.extBut hs₁.extBut D.i2z).extBut hs₂.extBut D.i12.symm) ((hl2.extBut hs₁.extBut D.l2z).extBut hs₂.extBut D.l2i1) hy fun h₃ h2₃ hs₃ => wpAny_pure ?_)
  refine wpAny_pure (wpAny_pure ?_)
  show wpAny _ _ (newTuple [x, y] >>= _) _ _ _
  refine wpAny_bind (wpAny_newTuple ?_)
  have hsz : h₃.objs.size = s.heap.objs.size := by rw [hs₃.1, hs₂.1, hs₁.1]
  have hz₃ : IsZipHeld h₃ z TI TO T true := hs₃.extBut _ _ D.i2z.symm (hs₂.extBut _ _ D.i1z.symm hz₁)
  have hk : ∀ c o, c ≠ z → c ≠ i1 → c ≠ i2 → s.heap.get? c = some o → h₃.get? c = some o := fun c o c1 c2 c3 e => hs₃.extBut _ _ c3 (hs₂.extBut _ _ c2 (hs₁.extBut _ _ c1 e))
  have h1₃ : h₃.IsTupleIter i1 l1 (k1 + 1) := h1₂.extBut hs₃.extBut D.i12
  refine wpAny_pure ⟨_, rfl, ?_⟩
  show Q (.ref h₃.objs.size) _
  have hp : IsPair (h₃.push { cls := .type "tuple", data := .seq #[x, y] }) h₃.objs.size x y := Heap.get?_push_size _ rfl
  have hz4 : (h₃.push { cls := .type "tuple", data := .seq #[x, y] }).objs.size = h₃.objs.size + 1 := Heap.size_push ..
  rw [hsz] at hp hz4 ⊢
  exact hQ _ (Heap.get?_push_of_some _ hz₃) (h1₃.at fun o e => Heap.get?_push_of_some _ e) (h2₃.at fun o e => Heap.get?_push_of_some _ e) hp hz4 fun c o c1 c2 c3 e => Heap.get?_push_of_some _ (hk c o c1 c2 c3 e)
theorem zt_end_held {z TI TO T i1 i2 l1 l2 : Addr} {f : Bool} {oT : Obj} {k1 k2 : Nat} {xs ys : Array Value} {Q : Fin → Shared → Prop} (hh : A.handled = none) (D : ZipApart z TI TO i1 i2 l1 l2)
    (hz : IsZipHeld s.heap z TI TO T f) (hT : s.heap.get? T = some oT) (hTI : IsPair s.heap TI (.ref i1) (.ref i2))
    (h1 : s.heap.IsTupleIter i1 l1 k1) (h2 : s.heap.IsTupleIter i2 l2 k2) (hl1 : s.heap.IsTuple l1 xs) (hl2 : s.heap.IsTuple l2 ys) (hx : xs[k1]? = none)
    (hE : ∀ h' e, (∀ c o, c ≠ z → c ≠ i1 → c ≠ i2 → s.heap.get? c = some o → h'.get? c = some o) → (∃ o, h'.get? e = some o ∧ o.cls = .type "StopIteration") → E (.ref e) { s with heap := h' }) :
    wpAny (model prog w) A (Builtin.«zip.__next__» ⟨[.ref z], []⟩) Q E s := by
  show wpAny _ _ (field (.ref z) 2 >>= _) _ _ _
  refine wpAny_bind (wpAny_field hz rfl (x := .bool false) rfl ?_)
  show wpAny _ _ (field (.ref z) 3 >>= _) _ _ _
  refine wpAny_bind (wpAny_field hz rfl (x := .ref TI) rfl ?_)
  refine wpAny_bind (wpAny_seqItems hTI rfl ?_)
  show wpAny _ _ (Builtin.SmallTypes.ownedTupleIsFree (.ref z) >>= _) _ _ _
  refine wpAny_bind (wpAny_tupleHeld_zip hz hT fun h₁ hz₁ hs₁ => ?_)
  simp only [Bool.false_eq_true, if_false]
  refine wpAny_bind ?_
  rw [← Array.forIn_toList]
  simp only [List.forIn_cons, List.forIn_nil]
  refine wpAny_bind (wpAny_bind (wpAny_holding ?_))
  show wpAny _ _ (Builtin.SmallTypes.nextOf (.ref i1) >>= _) _ _ _
  refine wpAny_bind (RZ.nextOf_tuple_end (s := { s with heap := h₁ }) hh (h1.extBut hs₁.extBut D.i1z) (hl1.extBut hs₁.extBut D.l1z) hx fun h₂ e hs₂ he => ?_)
  exact hE h₂ e (fun c o c1 c2 _ x => hs₂ _ _ c2 (hs₁.extBut _ _ c1 x)) he
/-- a zip of two tuples in the midst of list(..): i pairs are out, in S's hold -/
structure ZS (h : Heap) (z TI TO i1 i2 l1 l2 S : Addr) (xs ys : Array Value) (i : Nat) : Prop where
  ti : IsPair h TI (.ref i1) (.ref i2)
  to : ∃ a b, IsPair h TO a b
  a1 : h.IsTupleIter i1 l1 i
  a2 : h.IsTupleIter i2 l2 i
  b1 : h.IsTuple l1 xs
  b2 : h.IsTuple l2 ys
  zz : IsZip h z TI TO .none ∨ ∃ T f oT, IsZipHeld h z TI TO T f ∧ h.get? T = some oT ∧ T ≠ z ∧ T ≠ TO ∧ T ≠ i1 ∧ T ≠ i2 ∧ T ≠ S
variable {z TI TO i1 i2 l1 l2 S : Addr} {xs ys : Array Value} {i : Nat}
theorem ZS.keep {h h' : Heap} (st : ZS h z TI TO i1 i2 l1 l2 S xs ys i) (k : ∀ b o, b ≠ S → h.get? b = some o → h'.get? b = some o) (n1 : TI ≠ S) (n2 : TO ≠ S) (n3 : i1 ≠ S) (n4 : i2 ≠ S) (n5 : l1 ≠ S) (n6 : l2 ≠ S) (n7 : z ≠ S) : ZS h' z TI TO i1 i2 l1 l2 S xs ys i where
  ti := k _ _ n1 st.ti
  to := let ⟨a, b, e⟩ := st.to; ⟨a, b, k _ _ n2 e⟩
  a1 := st.a1.at fun o e => k _ o n3 e
  a2 := st.a2.at fun o e => k _ o n4 e
  b1 := st.b1.at fun o e => k _ o n5 e
  b2 := st.b2.at fun o e => k _ o n6 e
  zz := by
    rcases st.zz with e | ⟨T, f, oT, e1, e2, q1, q2, q3, q4, q5⟩
    · exact .inl (k _ _ n7 e)
    · exact .inr ⟨T, f, oT, k _ _ n7 e1, k _ _ q5 e2, q1, q2, q3, q4, q5⟩
theorem zs_item {x y : Value} {Q : Option Value → Shared → Prop} (D : ZipApart z TI TO i1 i2 l1 l2) (hS : S < s.heap.objs.size) (st : ZS s.heap z TI TO i1 i2 l1 l2 S xs ys i) (hx : xs[i]? = some x) (hy : ys[i]? = some y)
    (hQ : ∀ h', ZS h' z TI TO i1 i2 l1 l2 S xs ys (i + 1) → IsPair h' s.heap.objs.size x y → h'.objs.size = s.heap.objs.size + 1 → (∀ c o, c ≠ z → c ≠ TO → c ≠ i1 → c ≠ i2 → s.heap.get? c = some o → h'.get? c = some o) → Q (some (.ref s.heap.objs.size)) { s with heap := h' }) :
    wpAny (model prog w) A (pyNext (.ref z)) Q E s := by
  obtain ⟨ta, tb, hTO⟩ := st.to
  have lt : ∀ {c o}, s.heap.get? c = some o → s.heap.objs.size ≠ c := fun e => Nat.ne_of_gt (Heap.lt_size e)
  have nTO := lt hTO
  have nTI := lt st.ti
  have n1 : s.heap.objs.size ≠ i1 := let ⟨_, e, _⟩ := st.a1; lt e
  have n2 : s.heap.objs.size ≠ i2 := let ⟨_, e, _⟩ := st.a2; lt e
  have nS : s.heap.objs.size ≠ S := Nat.ne_of_gt hS
  rcases st.zz with hz | ⟨T, f, oT, hz, hT, q1, q2, q3, q4, q5⟩
  · exact RZ.pyNext_zipT_item D hz st.ti hTO st.a1 st.a2 st.b1 st.b2 hx hy fun h' z1 z2 z3 z4 z5 z6 z7 => hQ h'
      ⟨z7 _ _ D.TIz D.TITO D.TIi1 D.TIi2 st.ti, ⟨_, _, z2⟩, z3, z4, st.b1.at fun o e => z7 _ o D.l1z D.l1TO D.l1i1 D.l1i2 e, st.b2.at fun o e => z7 _ o D.l2z D.l2TO D.l2i1 D.l2i2 e,
        .inr ⟨s.heap.objs.size, false, _, z1, z5, lt hz, nTO, n1, n2, nS⟩⟩ z5 z6 z7
  · have hTy : s.TypeIs (.ref z) "zip" := ⟨_, hz, rfl⟩
    unfold pyNext
    refine wpAny_bind (wpAny_attempt (wpAny_callSpecial?_slot (name := Str.ofString "__next__") hTy F.slot_zip_next
      (wpAny_call_entry F.slot_zip_next hTy F.entry_zip_next (zt_item_held D hz hT st.ti st.a1 st.a2 st.b1 st.b2 hx hy fun h' z1 z3 z4 z5 z6 z7 => ?_) (F.args_zip_next_1 _))))
    refine wpAny_pure (hQ h' ⟨z7 _ _ D.TIz D.TIi1 D.TIi2 st.ti, ⟨_, _, z7 _ _ D.TOz D.TOi1 D.TOi2 hTO⟩, z3, z4, st.b1.at fun o e => z7 _ o D.l1z D.l1i1 D.l1i2 e, st.b2.at fun o e => z7 _ o D.l2z D.l2i1 D.l2i2 e,
        .inr ⟨T, true, oT, z1, z7 _ _ q1 q3 q4 hT, q1, q2, q3, q4, q5⟩⟩ z5 z6 fun c o c1 c2 c3 c4 e => z7 c o c1 c3 c4 e)
theorem zs_done {Q : Option Value → Shared → Prop} (hh : A.handled = none) (D : ZipApart z TI TO i1 i2 l1 l2) (st : ZS s.heap z TI TO i1 i2 l1 l2 S xs ys i) (hx : xs[i]? = none)
    (hQ : ∀ h', (∀ c o, c ≠ z → c ≠ TO → c ≠ i1 → c ≠ i2 → s.heap.get? c = some o → h'.get? c = some o) → Q none { s with heap := h' }) : wpAny (model prog w) A (pyNext (.ref z)) Q E s := by
  obtain ⟨ta, tb, hTO⟩ := st.to
  rcases st.zz with hz | ⟨T, f, oT, hz, hT, q1, q2, q3, q4, q5⟩
  · exact RZ.pyNext_zipT_end hh D hz st.ti hTO st.a1 st.a2 st.b1 st.b2 (.inl hx) hQ
  · have hTy : s.TypeIs (.ref z) "zip" := ⟨_, hz, rfl⟩
    unfold pyNext
    refine wpAny_bind (wpAny_attempt (wpAny_callSpecial?_slot (name := Str.ofString "__next__") hTy F.slot_zip_next
      (wpAny_call_entry F.slot_zip_next hTy F.entry_zip_next (zt_end_held hh D hz hT st.ti st.a1 st.a2 st.b1 st.b2 hx fun h' e hk he => ?_) (F.args_zip_next_1 _))))
    obtain ⟨o, ho, hc⟩ := he
    refine wpAny_bind (wpAny_isInstance (T := "StopIteration") (b := true) ⟨o, ho, hc⟩ isSubtype_stop ?_)
    exact wpAny_pure (hQ _ fun c o c1 _ c3 c4 e => hk c o c1 c3 c4 e)
/-- the pairs stand at the addresses as -/
structure LzG (xs ys : Array Value) (S lo : Addr) (h : Heap) (as : List Addr) : Prop where
  rise : as.Pairwise (· < ·)
  above : ∀ a ∈ as, lo < a
  pairs : ∀ (j : Nat) (a : Addr), as[j]? = some a → ∃ x y, xs[j]? = some x ∧ ys[j]? = some y ∧ IsPair h a x y
theorem LzG.there {lo : Addr} {h : Heap} {as : List Addr} (g : LzG xs ys S lo h as) {a : Addr} (ha : a ∈ as) : a < h.objs.size := by
  obtain ⟨j, hj⟩ := List.mem_iff_getElem?.mp ha
  obtain ⟨_, _, _, _, e⟩ := g.pairs j a hj
  exact Heap.lt_size e
end
section
variable {prog : Program} {w : World} {A : Around} {s : Shared} {R : Result → Shared → Prop} {z TI TO i1 i2 l1 l2 S : Addr} {xs ys : Array Value}
theorem lz_loop (hh : A.handled = none) (D : ZipApart z TI TO i1 i2 l1 l2) (n1 : TI ≠ S) (n2 : TO ≠ S) (n3 : i1 ≠ S) (n4 : i2 ≠ S) (n5 : l1 ≠ S) (n6 : l2 ≠ S) (n7 : z ≠ S) (lo : Addr) (hlo : ∀ b, b = z ∨ b = TO ∨ b = i1 ∨ b = i2 ∨ b = S → b ≤ lo) (hsz : xs.size = ys.size) (hn : xs.size ≤ sizeLine) (res : Value) {h₁ : Heap}
    (hR : ∀ h' tk acc c as, (∀ b o, b ≠ S → b ≠ z → b ≠ TO → b ≠ i1 → b ≠ i2 → h₁.get? b = some o → h'.get? b = some o) → h'.get? S = some { cls := .type "list", dict := none, data := .seq acc c, slots := #[] } → as.length = xs.size → LzG xs ys S lo h' as →
      acc.toList = as.map Value.ref → R (.ok (.ret res)) { s with heap := h', toks := tk }) :
    ∀ (k i : Nat) (h : Heap) (tk c : Nat) (acc : Array Value) (as : List Addr), xs.size - i = k → i ≤ xs.size → ZS h z TI TO i1 i2 l1 l2 S xs ys i → (∀ b o, b ≠ S → b ≠ z → b ≠ TO → b ≠ i1 → b ≠ i2 → h₁.get? b = some o → h.get? b = some o) →
      h.get? S = some { cls := .type "list", dict := none, data := .seq acc c, slots := #[] } → acc.toList = as.map Value.ref → as.length = i → LzG xs ys S lo h as → lo < h.objs.size →
      codeAny (model prog w) A (.builtin "list.extend.loop" ⟨[.ref S, .ref z, res], []⟩) R { s with heap := h, toks := tk } := by
  have ab : ∀ {a b : Addr}, lo < a → (b = z ∨ b = TO ∨ b = i1 ∨ b = i2 ∨ b = S) → a ≠ b := fun h1 h2 e => by
    have q := hlo _ h2
    rw [← e] at q
    exact Nat.lt_irrefl _ (Nat.lt_of_lt_of_le h1 q)
  intro k
  induction k with
  | zero =>
    intro i h tk c acc as hk hi hst hkeep hS hacc hal hG hIs
    have hin : i = xs.size := by omega
    refine codeAny_builtin PySem.F.entry_extend_loop ?_
    rw [Around.under_plainId PySem.F.plain_extend_loop _]
    show wpAny _ A.in1 (pyNext (.ref z) >>= _) _ _ _
    refine wpAny_bind (zs_done (s := { s with heap := h, toks := tk }) (A := A.in1) hh D hst (by rw [hin]; simp) fun h' he => ?_)
    refine wpAny_pure (hR h' tk acc c as (fun b o q1 q2 q3 q4 q5 e => he b o q2 q3 q4 q5 (hkeep b o q1 q2 q3 q4 q5 e)) (he S _ n7.symm n2.symm n3.symm n4.symm hS) (by omega) ⟨hG.rise, hG.above, fun j a hj => ?_⟩ hacc)
    obtain ⟨x, y, hx, hy, e3⟩ := hG.pairs j a hj
    have ha := hG.above a (List.mem_of_getElem? hj)
    exact ⟨x, y, hx, hy, he a _ (ab ha (.inl rfl)) (ab ha (.inr (.inl rfl))) (ab ha (.inr (.inr (.inl rfl)))) (ab ha (.inr (.inr (.inr (.inl rfl))))) e3⟩
  | succ k ih =>
    intro i h tk c acc as hk hi hst hkeep hS hacc hal hG hIs
    have hlt : i < xs.size := by omega
    have hlt2 : i < ys.size := by omega
    have hsz2 : acc.size = i := by rw [← Array.length_toList, hacc, List.length_map, hal]
    refine codeAny_builtin PySem.F.entry_extend_loop ?_
    rw [Around.under_plainId PySem.F.plain_extend_loop _]
    show wpAny _ A.in1 (pyNext (.ref z) >>= _) _ _ _
    refine wpAny_bind (zs_item (s := { s with heap := h, toks := tk }) (S := S) D (Heap.lt_size hS) hst (Array.getElem?_eq_getElem hlt) (Array.getElem?_eq_getElem hlt2) fun h' hst' ht hz hkp => ?_)
    dsimp only at ht hz hkp ⊢
    have hS' := hkp S _ n7.symm n2.symm n3.symm n4.symm hS
    have up : ∀ b o, b ≠ S → h'.get? b = some o → (h'.update S (Obj.mapSeq (·.push (Value.ref h.objs.size)))).get? b = some o := fun b o hb e => (Heap.get?_update_other _ _ (Ne.symm hb)).trans e
    have hSl : S < h.objs.size := Heap.lt_size hS
    show wpAny _ A.in1 (updateSeq S (·.push (Value.ref h.objs.size)) >>= _) _ _ _
    refine wpAny_bind ?_
    refine wpAny_updateSeq hS' rfl (wpAny_pure ⟨plainId_quiet PySem.F.plain_extend_loop _, ih (i + 1) _ tk _ (acc.push (Value.ref h.objs.size)) (as ++ [h.objs.size]) (by omega) hlt (hst'.keep up n1 n2 n3 n4 n5 n6 n7)
      (fun b o q1 q2 q3 q4 q5 e => up b o q1 (hkp b o q2 q3 q4 q5 (hkeep b o q1 q2 q3 q4 q5 e))) (Heap.get?_update_self _ hS' rfl) (by rw [Array.toList_push, hacc, List.map_append]; rfl) (by rw [List.length_append, hal]; rfl) ⟨?_, ?_, ?_⟩ ?_⟩) (by rw [hsz2]; omega) (by show (acc.push (Value.ref h.objs.size)).size ≤ sizeLine + 1; rw [Array.size_push, hsz2]; omega)
    · refine List.pairwise_append.mpr ⟨hG.rise, List.pairwise_singleton _ _, fun a ha b hb => ?_⟩
      rw [List.mem_singleton.mp hb]
      exact hG.there ha
    · intro a ha
      rcases List.mem_append.mp ha with ha | ha
      · exact hG.above a ha
      · rw [List.mem_singleton.mp ha]; exact hIs
    · intro j b hj
      rcases Nat.lt_trichotomy j as.length with h1 | h1 | h1
      · rw [List.getElem?_append_left h1] at hj
        obtain ⟨x, y, hx, hy, e3⟩ := hG.pairs j b hj
        have hb := hG.above b (List.mem_of_getElem? hj)
        exact ⟨x, y, hx, hy, up b _ (ab hb (.inr (.inr (.inr (.inr rfl))))) (hkp b _ (ab hb (.inl rfl)) (ab hb (.inr (.inl rfl))) (ab hb (.inr (.inr (.inl rfl)))) (ab hb (.inr (.inr (.inr (.inl rfl))))) e3)⟩
      · subst h1
        have hb : h.objs.size = b := by simpa using hj
        subst hb
        exact ⟨_, _, by rw [hal]; exact Array.getElem?_eq_getElem hlt, by rw [hal]; exact Array.getElem?_eq_getElem hlt2, up _ _ (Nat.ne_of_gt hSl) ht⟩
      · have hnone : (as ++ [h.objs.size])[j]? = none := List.getElem?_eq_none (by rw [List.length_append, List.length_singleton]; omega)
        rw [hnone] at hj; cases hj
    · have e : (h'.update S (Obj.mapSeq (·.push (Value.ref h.objs.size)))).get? h.objs.size = _ := up _ _ (Nat.ne_of_gt hSl) ht
      exact Nat.lt_trans hIs (Heap.lt_size e)
end
end Dw
set_option maxHeartbeats 4000000
namespace Dw
open PySem PySem.Spec PyProof.Rows
section
variable {prog : Program} {w : World} {A : Around} {E : Value → Shared → Prop} {s : Shared} {z TI TO i1 i2 l1 l2 : Addr} {xs ys : Array Value}
theorem lz_call {Q : Value → Shared → Prop} (hh : A.handled = none) (D : ZipApart z TI TO i1 i2 l1 l2) (hz : IsZip s.heap z TI TO .none) (hTI : IsPair s.heap TI (.ref i1) (.ref i2)) (hTO : ∃ a b, IsPair s.heap TO a b) (h1 : s.heap.IsTupleIter i1 l1 0) (h2 : s.heap.IsTupleIter i2 l2 0)
    (hl1 : s.heap.IsTuple l1 xs) (hl2 : s.heap.IsTuple l2 ys) (hsz : xs.size = ys.size) (hn : xs.size ≤ sizeLine)
    (hQ : ∀ h' tk acc c as, (∀ b o, b ≠ z → b ≠ TO → b ≠ i1 → b ≠ i2 → s.heap.get? b = some o → h'.get? b = some o) → h'.get? s.heap.objs.size = some { cls := .type "list", dict := none, data := .seq acc c, slots := #[] } → as.length = xs.size → LzG xs ys s.heap.objs.size s.heap.objs.size h' as →
      acc.toList = as.map Value.ref → Q (.ref s.heap.objs.size) { s with heap := h', toks := tk }) :
    wpAny (model prog w) A (call (.type "list") [.ref z]) Q E s := by
  obtain ⟨ta, tb, hTO⟩ := hTO
  have lt : ∀ {c o}, s.heap.get? c = some o → c ≠ s.heap.objs.size := fun e => Nat.ne_of_lt (Heap.lt_size e)
  have lz : z ≠ s.heap.objs.size := lt hz
  have lTI : TI ≠ s.heap.objs.size := lt hTI
  have lTO : TO ≠ s.heap.objs.size := lt hTO
  have li1 : i1 ≠ s.heap.objs.size := let ⟨_, e, _⟩ := h1; lt e
  have li2 : i2 ≠ s.heap.objs.size := let ⟨_, e, _⟩ := h2; lt e
  have ll1 : l1 ≠ s.heap.objs.size := let ⟨_, e, _⟩ := hl1; lt e
  have ll2 : l2 ≠ s.heap.objs.size := let ⟨_, e, _⟩ := hl2; lt e
  refine callType_codes (Q₁ := fun obj s₁ => obj = .ref s.heap.objs.size ∧ s₁ = { s with heap := s.heap.push { cls := .type "list", data := .seq #[] } }) PySem.F.called_list (PySem.F.typeCall_list_1 _) PySem.F.entry_list_init
    (code_list_new _ ⟨rfl, rfl⟩) fun obj s₁ h₁ => ?_
  obtain ⟨rfl, rfl⟩ := h₁
  have hS : (s.heap.push { cls := .type "list", data := .seq #[] }).get? s.heap.objs.size = some { cls := .type "list", data := .seq #[] } := Heap.get?_push_size _ rfl
  refine ⟨⟨_, hS, rfl⟩, PySem.F.args_list_init_2 _ _, ?_⟩
  show wpAny _ A.in1.in1 (do let old ← Builtin.List.listItems (.ref s.heap.objs.size); Builtin.List.listUpdate (.ref s.heap.objs.size) (fun _ => #[]); letGo old.toList.reverse; Builtin.List.listExtendWith (.ref s.heap.objs.size) (.ref z) .none) _ _ _
  refine wpAny_bind ?_
  unfold Builtin.List.listItems
  refine wpAny_bind (wpAny_seqItems hS rfl (wpAny_pure ?_))
  show wpAny _ A.in1.in1 (updateSeq s.heap.objs.size (fun _ => #[]) >>= fun _ => letGo (#[] : Array Value).toList.reverse >>= fun _ => Builtin.List.listExtendWith (.ref s.heap.objs.size) (.ref z) .none) _ _ _
  refine wpAny_bind (wpAny_updateSeq hS rfl ?_)
  have hS2 := Heap.get?_update_self (Obj.mapSeq (fun _ => (#[] : Array Value))) hS rfl
  refine wpAny_bind (wpAny_letGo ?_)
  unfold Builtin.List.listExtendWith
  have up : ∀ (h : Heap) (f : Obj → Obj), (∀ b o, s.heap.get? b = some o → h.get? b = some o) → ∀ b o, s.heap.get? b = some o → (h.update s.heap.objs.size f).get? b = some o := fun h f q b o e =>
    (Heap.get?_update_other _ _ (Ne.symm (Nat.ne_of_lt (Heap.lt_size e)))).trans (q b o e)
  have k1 : ∀ b o, s.heap.get? b = some o → (s.heap.push { cls := .type "list", data := .seq #[] }).get? b = some o := fun b o e => Heap.get?_push_of_some _ e
  have k2 := up _ (Obj.mapSeq (fun _ => (#[] : Array Value))) k1
  have hTy : ∀ {h : Heap} {tk : Nat}, (∀ b o, s.heap.get? b = some o → h.get? b = some o) → ({ s with heap := h, toks := tk } : Shared).TypeIs (.ref z) "zip" := fun {h tk} q => ⟨_, q _ _ hz, rfl⟩
  refine wpAny_bind (wpAny_typeOf (hTy k2) ?_)
  have e1 : Builtin.List.listSameRef (.ref s.heap.objs.size) (.ref z) = false := by simp [Builtin.List.listSameRef, Ne.symm lz]
  have e2 : (Value.type "zip" == Value.type "list") = false := by decide
  have e3 : (Value.type "zip" == Value.type "tuple") = false := by decide
  simp only [e1, e2, e3, Bool.or_false, Bool.false_eq_true, if_false]
  refine wpAny_bind (wpAny_pyIter_zip (s := { s with heap := _ }) (k2 _ _ hz) ?_)
  refine wpAny_bind (wpAny_holding ?_)
  unfold Builtin.List.listLengthHint
  refine wpAny_bind (wpAny_specialOf (hTy k2) zip_nolen ?_)
  show wpAny _ A.in1.in1 (specialOf (Value.ref z) (Str.ofString "__length_hint__") >>= _) _ _ _
  refine wpAny_bind (wpAny_specialOf (hTy k2) zip_nohint ?_)
  refine wpAny_pure ?_
  show wpAny _ A.in1.in1 (rule "list.extend.makes-room" >>= fun _ => Builtin.List.listTouch (.ref s.heap.objs.size) >>= fun _ =>
    again (.builtin "list.extend.loop" ⟨[.ref s.heap.objs.size, .ref z, .none], []⟩)) _ _ _
  refine wpAny_bind (wpAny_rule ?_)
  refine wpAny_bind ?_
  show wpAny _ A.in1.in1 (updateSeq s.heap.objs.size (·.push .none) >>= fun _ => updateSeq s.heap.objs.size (·.pop)) _ _ _
  refine wpAny_bind (wpAny_updateSeq hS2 rfl ?_)
  have hS3 := Heap.get?_update_self (Obj.mapSeq (·.push Value.none)) hS2 rfl
  refine wpAny_updateSeq (hz := by seq_fits) hS3 rfl ?_
  have hS4 := Heap.get?_update_self (Obj.mapSeq (·.pop)) hS3 rfl
  have k4 := up _ (Obj.mapSeq (·.pop)) (up _ (Obj.mapSeq (·.push Value.none)) k2)
  refine wpAny_pure ⟨plainId_quiet PySem.F.plain_extend_loop _, ?_⟩
  refine lz_loop (s := s) (A := A.in1) (h₁ := s.heap) hh D lTI lTO li1 li2 ll1 ll2 lz s.heap.objs.size ?_ hsz hn .none (fun h' tk acc c as q1 q2 q3 q4 q5 => ?_) xs.size 0 _ _ _ #[] [] (Nat.sub_zero _) (Nat.zero_le _)
    ⟨k4 _ _ hTI, ⟨_, _, k4 _ _ hTO⟩, h1.at fun o e => k4 _ o e, h2.at fun o e => k4 _ o e, hl1.at fun o e => k4 _ o e, hl2.at fun o e => k4 _ o e, .inl (k4 _ _ hz)⟩ (fun b o _ _ _ _ _ e => k4 b o e) hS4 rfl rfl
    ⟨List.Pairwise.nil, (fun _ ha => nomatch ha), (fun j a hj => by simp at hj)⟩ (Heap.lt_size hS4)
  · intro b hb
    rcases hb with e | e | e | e | e
    · rw [e]; exact Nat.le_of_lt (Heap.lt_size hz)
    · rw [e]; exact Nat.le_of_lt (Heap.lt_size hTO)
    · rw [e]; obtain ⟨_, q, _⟩ := h1; exact Nat.le_of_lt (Heap.lt_size q)
    · rw [e]; obtain ⟨_, q, _⟩ := h2; exact Nat.le_of_lt (Heap.lt_size q)
    · rw [e]; exact Nat.le_refl _
  · exact ⟨rfl, hQ h' tk acc c as (fun b o a1 a2 a3 a4 e => q1 b o (Nat.ne_of_lt (Heap.lt_size e)) a1 a2 a3 a4 e) q2 q3 q4 q5⟩
end
/-! ### the layer -/
open L2
def layPairs : Hp → List Addr → List V → List V → Hp
  | H, a :: as, x :: xs, y :: ys => layPairs (upd H a (.tup [x, y])) as xs ys
  | H, _, _, _ => H
theorem layPairs_off : ∀ {as : List Addr} {xs ys : List V} {H : Hp} {b : Addr}, b ∉ as → layPairs H as xs ys b = H b
  | [], _, _, H, b, _ => by unfold layPairs; rfl
  | a :: as, [], _, H, b, _ => by unfold layPairs; rfl
  | a :: as, _ :: _, [], H, b, _ => by unfold layPairs; rfl
  | a :: as, x :: xs, y :: ys, H, b, h => by
    show layPairs (upd H a (.tup [x, y])) as xs ys b = H b
    rw [layPairs_off (fun q => h (.tail _ q)), upd_ne (fun q => h (by rw [q]; exact .head _))]
theorem layPairs_at : ∀ {as : List Addr} {xs ys : List V} {H : Hp} {i : Nat} {a : Addr} {x y : V}, as.Pairwise (· < ·) → as[i]? = some a → xs[i]? = some x → ys[i]? = some y → layPairs H as xs ys a = some (.tup [x, y])
  | [], _, _, _, _, _, _, _, _, h, _, _ => by simp at h
  | _ :: _, [], _, _, _, _, _, _, _, _, h, _ => by simp at h
  | _ :: _, _ :: _, [], _, _, _, _, _, _, _, _, h => by simp at h
  | a :: as, x :: xs, y :: ys, H, 0, b, u, v, hp, e1, e2, e3 => by
    cases (Option.some.inj e1)
    cases (Option.some.inj e2)
    cases (Option.some.inj e3)
    show layPairs (upd H a (.tup [x, y])) as xs ys a = _
    rw [layPairs_off (fun q => Nat.lt_irrefl a ((List.pairwise_cons.mp hp).1 a q)), upd_same]
  | a :: as, x :: xs, y :: ys, H, i + 1, b, u, v, hp, e1, e2, e3 => by
    show layPairs (upd H a (.tup [x, y])) as xs ys b = _
    exact layPairs_at (List.pairwise_cons.mp hp).2 e1 e2 e3
theorem layPairs_ok {P : Program} {w : World} {h : Heap} : ∀ {as : List Addr} {xs ys : List V} {H : Hp}, as.Pairwise (· < ·) → HOk P w H h → (∀ a ∈ as, H a = none) → as.length = xs.length → xs.length = ys.length →
    (∀ (i : Nat) (a : Addr) (x y : V), as[i]? = some a → xs[i]? = some x → ys[i]? = some y → ∃ u v, RelV x u ∧ RelV y v ∧ IsPair h a u v) → HOk P w (layPairs H as xs ys) h
  | [], _, _, H, _, hk, _, _, _, _ => by unfold layPairs; exact hk
  | a :: as, [], _, H, _, hk, _, e, _, _ => by simp at e
  | a :: as, _ :: _, [], H, _, hk, _, _, e, _ => by simp at e
  | a :: as, x :: xs, y :: ys, H, hp, hk, hf, e1, e2, hx => by
    show HOk P w (layPairs (upd H a (.tup [x, y])) as xs ys) h
    obtain ⟨u, v, r1, r2, hpair⟩ := hx 0 a x y rfl rfl rfl
    refine layPairs_ok (List.pairwise_cons.mp hp).2 (hk.laidN (fun _ _ q => q) (hf a (.head _)) ?_) (fun b hb => ?_) (by simpa using e1) (by simpa using e2) fun i b x' y' q1 q2 q3 => hx (i + 1) b x' y' q1 q2 q3
    · exact ⟨by show 2 ≤ sizeLine; decide, [u, v], .cons r1 (.cons r2 .nil), ⟨_, hpair, rfl, _, rfl⟩⟩
    · rw [upd_ne (Ne.symm (Nat.ne_of_lt ((List.pairwise_cons.mp hp).1 b hb)))]
      exact hf b (.tail _ hb)
def PairsAt (H : Hp) (ads : List Addr) (xs ys : List V) : Prop := ads.length = xs.length ∧ ∀ (i : Nat) (p : Addr) (x y : V), ads[i]? = some p → xs[i]? = some x → ys[i]? = some y → H p = some (.tup [x, y])
section
variable {X : Cx}
/-- list(zip(e1, e2)), both tuples of one length -/
def tListZip (K : PySem.W.Frag) (ta : TA) : TE := fun σ H Q => ta σ H fun vs H1 => ∃ (a b : Addr) (xs ys : List V), vs = [.ref a, .ref b] ∧ SqT K H1 a xs ∧ SqT K H1 b ys ∧ xs.length = ys.length ∧
  ∀ (S : Addr) (ads : List Addr) (H2 : Hp), (∀ c o, H1 c = some o → H2 c = some o) → H2 S = some (.lst (ads.map V.ref)) → PairsAt H2 ads xs ys → Q (.ref S) H2
theorem rel_refs : ∀ (as : List Addr), Vals (as.map V.ref) (as.map Value.ref)
  | [] => .nil
  | _ :: as => .cons rfl (rel_refs as)
theorem pe_listZip {e1 e2 : Expr} {ta : TA} {p p2 pos pos2 : Pos} (hc : X.calm = true) (hgl : Gl X "list") (hml : X.mg "list" = none) (hgz : Gl X "zip") (hmz : X.mg "zip" = none) (ha : PA X [e1, e2] ta)
    (hs2 : starEach [e1, e2] X.env = (false, eval e1 X.env) :: starEach [e2] X.env := by rfl) (hpl : (backTo pos2 (starEach [e2] X.env)).any (·.1) = false := by rfl) :
    PE X (.Call (.Name "list" p) [.Call (.Name "zip" p2) [e1, e2] [] pos2] [] pos) (tListZip X.K ta) := by
  refine ⟨fun pins s σ H Q I h => ?_⟩
  refine Call_ (ld_blt I hgl hml (show bootBuiltins "list" = some (.type "list") by kernel_rfl) (PyProof.Rows.callWith_type1 ?_ (by rfl) (by rfl)))
  refine Calls.spliced_cons ?_
  refine Call_ (ld_blt I hgz hmz PyProof.Rows.boot_zip (PyProof.Rows.callWith_type1 (thn (ha.run pos2 pins s σ H _ I h) fun us s1 ⟨vs, H1, I1, r1, q1⟩ => ?_) hs2 hpl))
  obtain ⟨a, b, xs, ys, rfl, hqx, hqy, hlen, hQ⟩ := q1
  obtain ⟨u1, u2, rfl, ra, rb⟩ := vals2 r1
  obtain rfl : u1 = Value.ref a := ra
  obtain rfl : u2 = Value.ref b := rb
  obtain ⟨its, rv, p1, hz1⟩ := I1.tuple hqx
  obtain ⟨its2, rv2, p2', hz2⟩ := I1.tuple hqy
  obtain ⟨o1, ho1, _⟩ := id p1
  obtain ⟨o2, ho2, _⟩ := id p2'
  refine RZ.call_zipT (show s1.heap.IsTuple a its.toArray from p1) (show s1.heap.IsTuple b its2.toArray from p2') fun h' hz hTI hTO h1 h2 hsz hk => Calls.spliced_nil ?_
  have n1 := rv.length
  have n2 := rv2.length
  have hT1 : h'.IsTuple a its.toArray := Heap.IsTuple.at (show s1.heap.IsTuple a its.toArray from p1) fun o e => hk _ o e
  have hT2 : h'.IsTuple b its2.toArray := Heap.IsTuple.at (show s1.heap.IsTuple b its2.toArray from p2') fun o e => hk _ o e
  refine lz_call (s := { s1 with heap := h' }) (I1.ok.hd hc) (PySem.W.ktu_apart s1.heap.objs.size a b (Heap.lt_size ho1) (Heap.lt_size ho2)) hz hTI ⟨_, _, hTO⟩ h1 h2 hT1 hT2 (by rw [List.size_toArray, List.size_toArray]; omega) (by rw [List.size_toArray]; omega) fun h'' tk acc c as hk2 hS hal hG hacc => ?_
  have kk : ∀ b o, s1.heap.get? b = some o → h''.get? b = some o := fun d o e => by
    have hl := Heap.lt_size e
    have ne : ∀ j, d ≠ s1.heap.objs.size + j := fun j z => by
      rw [z] at hl
      exact Nat.lt_irrefl _ (Nat.lt_of_le_of_lt (Nat.le_add_right _ j) hl)
    exact hk2 d o (ne 4) (ne 3) (ne 0) (ne 1) (hk d o e)
  have hS1 : s1.heap.objs.size ≤ h'.objs.size := by rw [hsz]; exact Nat.le_add_right _ _
  have big : ∀ d ∈ as, s1.heap.objs.size ≤ d := fun d hd => Nat.le_trans hS1 (Nat.le_of_lt (hG.above d hd))
  have hSn : h'.objs.size ∉ as := fun q => Nat.lt_irrefl _ (hG.above _ q)
  have hok1 : HOk X.prog X.w H1 h'' := I1.hok.kept kk
  have fr : ∀ d, s1.heap.objs.size ≤ d → H1 d = none := fun d hd => I1.hok.fresh hd
  have hok2 : HOk X.prog X.w (layPairs H1 as xs ys) h'' := layPairs_ok hG.rise hok1 (fun d hd => fr d (big d hd)) (by rw [hal, List.size_toArray]; omega) hlen fun i d x y e1 e2 e3 => by
    obtain ⟨u, v, hu, hv, hp⟩ := hG.pairs i d e1
    obtain ⟨u', eu, ru⟩ := rv.get e2
    obtain ⟨v', ev, rv'⟩ := rv2.get e3
    rw [List.getElem?_toArray, eu] at hu
    rw [List.getElem?_toArray, ev] at hv
    cases hu
    cases hv
    exact ⟨_, _, ru, rv', hp⟩
  have hfS : layPairs H1 as xs ys h'.objs.size = none := by rw [layPairs_off hSn]; exact fr _ hS1
  have hlS : (as.map V.ref).length ≤ sizeLine := by rw [List.length_map, hal, List.size_toArray]; omega
  have hok3 : HOk X.prog X.w (upd (layPairs H1 as xs ys) h'.objs.size (.lst (as.map V.ref))) h'' := hok2.laidN (fun _ _ q => q) hfS ⟨hlS, as.map Value.ref, c, rel_refs as, by
    have e : (as.map Value.ref).toArray = acc := by rw [← hacc]
    rw [e]
    exact hS⟩
  have off : ∀ d, d < s1.heap.objs.size → upd (layPairs H1 as xs ys) h'.objs.size (.lst (as.map V.ref)) d = H1 d := fun d hd => by
    rw [upd_ne (Nat.ne_of_lt (Nat.lt_of_lt_of_le hd hS1)), layPairs_off (fun q => Nat.lt_irrefl _ (Nat.lt_of_lt_of_le hd (big d q)))]
  have ext : ∀ d o, H1 d = some o → upd (layPairs H1 as xs ys) h'.objs.size (.lst (as.map V.ref)) d = some o := fun d o e => by
    rw [off d (I1.hok d o e).lt]
    exact e
  have J : Inv X pins σ (upd (layPairs H1 as xs ys) h'.objs.size (.lst (as.map V.ref))) { s1 with heap := h'', toks := tk } := I1.un ⟨fun d o e _ _ _ => kk d o e, fun d o e _ _ _ => ⟨o.slots, kk d o e⟩, fun d o e n _ => by rw [off d (Heap.lt_size e)]; exact n, fun d o e _ => ⟨o, kk d o e⟩, fun d q e => ext d _ e, fun d o u e => ext d _ e, fun d ps e => ⟨#[], by rw [ext d _ e]; simp⟩⟩ hok3
  refine ⟨.ref h'.objs.size, _, J, rfl, hQ h'.objs.size as _ ext upd_same ⟨by rw [hal, List.size_toArray]; omega, fun i d x y e1 e2 e3 => ?_⟩⟩
  rw [upd_ne (fun z => hSn (by rw [← z]; exact List.mem_of_getElem? e1))]
  exact layPairs_at hG.rise e1 e2 e3
end
end Dw
set_option maxHeartbeats 4000000
namespace Dw
open PySem PySem.Spec PyProof.Rows L2
/-- what the top has written, but its defs -/
structure Tx (K : PySem.W.Frag) (mg : Str → Option Value) (tC tM tF : Tok) : Prop where
  n_isinstance : mg "isinstance" = none
  n_int : mg "int" = none
  n_bool : mg "bool" = none
  n_tuple : mg "tuple" = none
  n_len : mg "len" = none
  n_all : mg "all" = none
  n_min : mg "min" = none
  n_max : mg "max" = none
  n_zip : mg "zip" = none
  n_range : mg "range" = none
  n_list : mg "list" = none
  n_sum : mg "sum" = none
  cap : mg "MOST_CAPACITY" = some (.int 1000 tC)
  months : mg "MOST_MONTHS" = some (.int 12 tM)
  flow : mg "MOST_FLOW" = some (.int 1000 tF)
  gcd : mg "gcd" = some (.builtin "math.gcd")
/-- a def of the text as it stands -/
structure Df (K : PySem.W.Frag) (mg : Str → Option Value) (x : Str) (i : Nat) (f : Addr) (fd : FuncData) : Prop where
  F : FunD K x x (defArgs (top i)) (defBody (top i)) (defScope (top i)) [] [] f fd
  g : mg x = some (.ref f)
/-- a def that holds its promise, ready to be called -/
structure OkF (P : Program) (w : World) (K : PySem.W.Frag) (mg : Str → Option Value) (base : Heap) (x : Str) (ps : List Str) (k : Nat) (sp : Sp) : Prop where
  ex : ∃ (f : Addr) (fd : FuncData), FnOk P w K mg base L2.CX0 k f fd ps sp ∧ mg x = some (.ref f) ∧ PySem.W.keepIn K (.ref f) = true ∧ Binds K fd ps []
theorem pe_cal {X : Cx} {x : Str} {ps : List Str} {k : Nat} {sp : Sp} {e : Expr} {es : List Expr} {t : TA} {p pos : Pos} (O : OkF X.prog X.w X.K X.mg X.base x ps k sp) (hr : Room k X.A) (hg : Gl X x) (ha : PA X (e :: es) t) (hdb : (x == ("__debug__" : Str)) = false := by decide)
    (he : starEach (e :: es) X.env = (false, eval e X.env) :: starEach es X.env := by rfl) (hpl : (backTo pos (starEach es X.env)).any (·.1) = false := by rfl) : PE X (.Call (.Name x p) (e :: es) [] pos) (tCall sp [] (fun _ _ _ => False) t) := by
  obtain ⟨f, fd, F, hm, hk, hb⟩ := O.ex
  exact pe_call F hr hg hm hk hb .nil (fun _ _ _ _ _ _ _ h => h.elim) ha hdb he hpl
/-- FunD.ok for a def whose code object is told (its generator expressions' codes lie at it) -/
theorem okC {P : Program} {w : World} {K : PySem.W.Frag} {mg : Str → Option Value} {base : Heap} {x qual : Str} {params : Arguments} {body : List Stmt} {scope : Scope} {p : He.Defn} {fd : FuncData} {CX : CXT} {N ps : List Str} {k : Nat} {sp : Sp}
    (F : FunD K x qual params body scope [] [] (He.fAd K p) fd) (S : FnScope N ps scope) (len : ∀ vs H Q E, sp vs H Q E → vs.length = ps.length)
    (hbody : ∀ (A : Around) (outer : List Env) (s : Shared) (H : Hp) (vs : List V) (Q : VK) (E : XK), Room k (A.deeper (envOfC qual scope s.heap.objs.size (He.fAd K p) (.ref (He.codeOf K p)))) → sp vs H Q E →
      ∃ t, PSs (cxOf CX P w K mg base N qual scope (He.fAd K p) (.ref (He.codeOf K p)) A outer s H E) body t ∧ t { nx := fun _ H' => Q .non H', rt := Q } (start N vs) H) : FnOk P w K mg base CX (k + 1) (He.fAd K p) fd ps sp := by
  obtain ⟨oc, od, dV, kV, doc, pm, an, cdv, ct, osl, rfl, lk, hcd, _, _⟩ := F.ex
  obtain ⟨c, rfl⟩ := He.codeIn_ref hcd
  have e : He.codeOf K p = c := He.codeOf_eq lk rfl
  subst e
  exact fn_of lk hcd S len fun A outer s H vs Q E hr hsp => hbody A outer s H vs Q E hr hsp
/-! ### heaps -/
def isTb : HO → Bool
  | .tbl _ => true
  | _ => false
/-- all that was tracked stands, but the tables of codes may have grown -/
def Ext (H H' : Hp) : Prop := ∀ b o, H b = some o → isTb o = false → H' b = some o
theorem Ext.refl (H : Hp) : Ext H H := fun _ _ h _ => h
theorem Ext.trans {H H1 H2 : Hp} (a : Ext H H1) (b : Ext H1 H2) : Ext H H2 := fun c o h n => b c o (a c o h n) n
theorem Ext.same {H H' : Hp} (e : Same H H') : Ext H H' := fun c o h _ => e c o h
theorem same_new {H : Hp} {p : Addr} {o : HO} (h : H p = none) : Same H (upd H p o) := fun c u e => by
  rw [upd_ne (ne_of_none e h)]
  exact e
theorem Ext.new {H : Hp} {p : Addr} {o : HO} (h : H p = none) : Ext H (upd H p o) := Ext.same (same_new h)
/-- the tables of the defs that hold generator expressions -/
def Tb (T : List Addr) (H : Hp) : Prop := ∀ P ∈ T, GxR.TabG H P
theorem Tb.same {T : List Addr} {H H' : Hp} (t : Tb T H) (e : Same H H') : Tb T H' := fun P hP => by
  obtain ⟨ps, h, q⟩ := t P hP
  exact ⟨ps, e _ _ h, q⟩
theorem Tb.new {T : List Addr} {H : Hp} {p : Addr} {o : HO} (t : Tb T H) (h : H p = none) : Tb T (upd H p o) := t.same (same_new h)
theorem Tb.tabbed {T : List Addr} {H H' : Hp} {P : Addr} (t : Tb T H) (hP : P ∈ T) (e : GxR.Tabbed P H H') : Tb T H' := fun P' hP' => by
  by_cases h : P' = P
  · rw [h]; exact e.1
  · obtain ⟨ps, q, r⟩ := t P' hP'
    exact ⟨ps, by rw [e.2 P' h]; exact q, r⟩
theorem Ext.tabbed {H H' : Hp} {P : Addr} (t : GxR.TabG H P) (e : GxR.Tabbed P H H') : Ext H H' := fun b o h n => by
  obtain ⟨ps, q, _⟩ := t
  rw [e.2 b (fun z => by rw [z, q] at h; cases h; cases n)]
  exact h
/-! ### what stands -/
def optV : Option Int → V
  | none => .non
  | some i => .int i
/-- the dam (C, s, e, q) at d -/
def DamAt (H : Hp) (d : Addr) (C s e : Int) (q : List Int) : Prop := ∃ qa, H d = some (.tup [.int C, .int s, .int e, .ref qa]) ∧ H qa = some (.tup (q.map V.int))
theorem DamAt.ext {H H' : Hp} {d : Addr} {C s e : Int} {q : List Int} (h : DamAt H d C s e q) (x : Ext H H') : DamAt H' d C s e q := let ⟨qa, a, b⟩ := h; ⟨qa, x _ _ a rfl, x _ _ b rfl⟩
def FlOk (q : List Int) : Prop := 1 ≤ q.length ∧ q.length ≤ 12 ∧ ∀ n ∈ q, 0 ≤ n ∧ n ≤ 1000
structure DamOk (C s e : Int) (q : List Int) : Prop where
  c0 : 0 ≤ C
  c1 : C ≤ 1000
  s0 : 0 ≤ s
  s1 : s ≤ C
  e0 : 0 ≤ e
  e1 : e ≤ C
  q : FlOk q
/-! ### the mirrors -/
def min2 (i j : Int) : Int := if j < i then j else i
def max2 (i j : Int) : Int := if j > i then j else i
/-- the levels from which no more than o has to be released, the last one first -/
def flStep (C o : Int) (q : Int) : Option Int → Option Int
  | none => none
  | some x => if min2 C (x + o - q) < 0 then none else some (min2 C (x + o - q))
def flood (C o : Int) : List Int → List (Option Int)
  | [] => [some C]
  | q :: r => flStep C o q ((flood C o r).headD none) :: flood C o r
def fiStep (C : Int) (q d : Int) : Option Int → Option Int
  | none => none
  | some x => if max2 0 (x + d - q) > C then none else some (max2 0 (x + d - q))
def fill (C e : Int) : List (Int × Int) → List (Option Int)
  | [] => [some e]
  | p :: r => fiStep C p.1 p.2 ((fill C e r).headD none) :: fill C e r
/-- (given, spilled, held) of all months -/
def rows (C : Int) : Int → List (Int × Int) → List (Int × Int × Int)
  | _, [] => []
  | h, p :: r => (min2 p.2 (h + p.1), max2 0 (h + p.1 - min2 p.2 (h + p.1) - C), h + p.1 - min2 p.2 (h + p.1) - max2 0 (h + p.1 - min2 p.2 (h + p.1) - C)) ::
    rows C (h + p.1 - min2 p.2 (h + p.1) - max2 0 (h + p.1 - min2 p.2 (h + p.1) - C)) r
/-- what must leave in the months i .. j -/
def water (C s : Int) (q : List Int) (i j : Nat) : Int := (if i = 0 then s else 0) + ((q.take (j + 1)).drop i).sum - C
/-- t / b is the least peak -/
structure PeakOk (C s : Int) (q : List Int) (t b : Int) : Prop where
  b0 : 0 < b
  b1 : b ≤ 12
  t0 : 0 ≤ t
  t1 : t ≤ 100000
  all : ∀ i j : Nat, i ≤ j → j < q.length → water C s q i j * b ≤ t * ((j : Int) - i + 1)
  one : t = 0 ∨ ∃ i j : Nat, i ≤ j ∧ j < q.length ∧ t * ((j : Int) - i + 1) = water C s q i j * b
/-! ### the promises -/
def spIsIn : Sp := fun vs H Q _ => ∃ n lo hi : Int, vs = [.int n, .int lo, .int hi] ∧ lo ≤ n ∧ n ≤ hi ∧ Q (.bl true) H
def spAreFlows (T : List Addr) : Sp := fun vs H Q _ => ∃ (a : Addr) (ns : List Int), vs = [.ref a] ∧ H a = some (.tup (ns.map V.int)) ∧ FlOk ns ∧ Tb T H ∧ ∀ H', Ext H H' → Tb T H' → Q (.bl true) H'
def spNeedDam (T : List Addr) : Sp := fun vs H Q _ => ∃ (d : Addr) (C s e : Int) (q : List Int), vs = [.ref d] ∧ DamAt H d C s e q ∧ DamOk C s e q ∧ Tb T H ∧ ∀ H', Ext H H' → Tb T H' → Q .non H'
def spMostHeld : Sp := fun vs H Q _ => ∃ (d : Addr) (C s e : Int) (q : List Int), vs = [.ref d] ∧ DamAt H d C s e q ∧ DamOk C s e q ∧ ∀ n, 0 ≤ n → Q (.int n) H
def spNeedPlans : Sp := fun vs H Q _ => ∃ (d : Addr) (C s : Int) (q : List Int), vs = [.ref d] ∧ DamAt H d C s 0 q ∧ DamOk C s 0 q ∧ Q .non H
def spNeedDemands (T : List Addr) : Sp := fun vs H Q _ => ∃ (a : Addr) (ns : List Int), vs = [.int ns.length, .ref a] ∧ H a = some (.tup (ns.map V.int)) ∧ FlOk ns ∧ Tb T H ∧ ∀ H', Ext H H' → Tb T H' → Q .non H'
def spRunOf : Sp := fun vs H Q _ => ∃ (d a : Addr) (C s e : Int) (q ds : List Int), vs = [.ref d, .ref a] ∧ DamAt H d C s e q ∧ H a = some (.tup (ds.map V.int)) ∧ q.length = ds.length ∧ q.length ≤ 12 ∧
  ∀ l ads H', Same H H' → H' l = some (.lst (ads.map V.ref)) → RowsAt H' ads (rows C s (q.zip ds)) → Q (.ref l) H'
def spRun (T : List Addr) : Sp := fun vs H Q _ => ∃ (d a : Addr) (C s e : Int) (q ds : List Int), vs = [.ref d, .ref a] ∧ DamAt H d C s e q ∧ DamOk C s e q ∧ H a = some (.tup (ds.map V.int)) ∧ FlOk ds ∧ q.length = ds.length ∧ Tb T H ∧
  ∀ l ads H', Ext H H' → Tb T H' → H' l = some (.tup (ads.map V.ref)) → RowsAt H' ads (rows C s (q.zip ds)) → Q (.ref l) H'
def spanL (n : Nat) : List (Nat × Nat) := (List.range n).flatMap fun i => (List.range (n - i)).map fun k => (i, i + k)
def spSpans : Sp := fun vs H Q _ => ∃ n : Nat, vs = [.int n] ∧ n ≤ 12 ∧ ∀ l ads H', Same H H' → H' l = some (.lst (ads.map V.ref)) → PairsAt H' ads ((spanL n).map fun p => .int p.1) ((spanL n).map fun p => .int p.2) → Q (.ref l) H'
def spNeedInflows (T : List Addr) : Sp := fun vs H Q _ => ∃ (a : Addr) (ns : List Int), vs = [.ref a] ∧ H a = some (.tup (ns.map V.int)) ∧ FlOk ns ∧ Tb T H ∧ ∀ H', Ext H H' → Tb T H' → Q .non H'
def spFlood (T : List Addr) : Sp := fun vs H Q _ => ∃ (C o : Int) (a : Addr) (q : List Int), vs = [.int C, .int o, .ref a] ∧ 0 ≤ C ∧ C ≤ 1000 ∧ 0 ≤ o ∧ o ≤ 1000 ∧ H a = some (.tup (q.map V.int)) ∧ FlOk q ∧ Tb T H ∧
  ∀ t H', Ext H H' → Tb T H' → H' t = some (.tup ((flood C o q).map optV)) → Q (.ref t) H'
def spFill (T : List Addr) : Sp := fun vs H Q _ => ∃ (d a : Addr) (C s e : Int) (q ds : List Int), vs = [.ref d, .ref a] ∧ DamAt H d C s e q ∧ DamOk C s e q ∧ H a = some (.tup (ds.map V.int)) ∧ FlOk ds ∧ q.length = ds.length ∧ Tb T H ∧
  ∀ t H', Ext H H' → Tb T H' → H' t = some (.tup ((fill C e (q.zip ds)).map optV)) → Q (.ref t) H'
def gcdI (a b : Int) : Int := ((Nat.gcd a.natAbs b.natAbs : Nat) : Int)
def spRatio : Sp := fun vs H Q _ => ∃ a b : Int, vs = [.int a, .int b] ∧ 0 < b ∧ b < 1000000 ∧ ∀ p, H p = none → Q (.ref p) (upd H p (.tup [.int (a / gcdI a b), .int (b / gcdI a b)]))
def Sm (a : Int) : Prop := -(2 ^ 64) < a ∧ a < 2 ^ 64
def spLess : Sp := fun vs H Q _ => ∃ (p r : Addr) (a b c d : Int), vs = [.ref p, .ref r] ∧ H p = some (.tup [.int a, .int b]) ∧ H r = some (.tup [.int c, .int d]) ∧ Sm a ∧ Sm c ∧ Q (.bl (decide (a * d < c * b))) H
def spSpanPeak : Sp := fun vs H Q _ => ∃ (d sp : Addr) (C s e : Int) (q : List Int) (i j : Nat), vs = [.ref d, .ref sp] ∧ DamAt H d C s e q ∧ DamOk C s e q ∧ H sp = some (.tup [.int i, .int j]) ∧ i ≤ j ∧ j < q.length ∧
  ∀ p t b H', Same H H' → H' p = some (.tup [.int t, .int b]) → 0 < b → b ≤ 12 → -100000 ≤ t → t ≤ 100000 → t * ((j : Int) - i + 1) = water C s q i j * b → Q (.ref p) H'
def spPeakOf : Sp := fun vs H Q _ => ∃ (d : Addr) (C s e : Int) (q : List Int), vs = [.ref d] ∧ DamAt H d C s e q ∧ DamOk C s e q ∧ ∀ p t b H', Same H H' → H' p = some (.tup [.int t, .int b]) → PeakOk C s q t b → Q (.ref p) H'
def spLeastPeak (T : List Addr) : Sp := fun vs H Q _ => ∃ (d : Addr) (C s : Int) (q : List Int), vs = [.ref d] ∧ DamAt H d C s 0 q ∧ DamOk C s 0 q ∧ Tb T H ∧ ∀ p t b H', Ext H H' → Tb T H' → H' p = some (.tup [.int t, .int b]) → PeakOk C s q t b → Q (.ref p) H'
def spNeedLack (T : List Addr) : Sp := fun vs H Q _ => ∃ (d a : Addr) (C s e : Int) (q ds : List Int), vs = [.ref d, .ref a] ∧ DamAt H d C s e q ∧ DamOk C s e q ∧ H a = some (.tup (ds.map V.int)) ∧ FlOk ds ∧ q.length = ds.length ∧ Tb T H ∧ ∀ H', Ext H H' → Tb T H' → Q .non H'
def lackSum (ds : List Int) (rs : List (Int × Int × Int)) : Int := PySem.preSum (lackAt ds rs) ds.length
def spTotalLack (T : List Addr) : Sp := fun vs H Q _ => ∃ (d a : Addr) (C s e : Int) (q ds : List Int), vs = [.ref d, .ref a] ∧ DamAt H d C s e q ∧ DamOk C s e q ∧ H a = some (.tup (ds.map V.int)) ∧ FlOk ds ∧ q.length = ds.length ∧ Tb T H ∧
  ∀ H', Ext H H' → Tb T H' → Q (.int (lackSum ds (rows C s (q.zip ds)))) H'
/-! ### the drawing -/
/-- the script at sc: ns -/
structure Sc where
  K : PySem.W.Frag
  sc : Addr
  ns : List Int
/-- the row of the draws -/
def RowOk (S : Sc) (H : Hp) (r : Addr) : Prop := ∃ a b c : Int, H r = some (.lst [.ref S.sc, .int a, .int b, .int c]) ∧ SqL S.K H S.sc (S.ns.map V.int) ∧ 0 ≤ a ∧ 0 ≤ c
/-- a draw: all else stands -/
def Dr (S : Sc) (r : Addr) (H H' : Hp) : Prop := (∀ x o, x ≠ r → H x = some o → H' x = some o) ∧ RowOk S H' r
theorem Dr.trans {S : Sc} {r : Addr} {H H1 H2 : Hp} (a : Dr S r H H1) (b : Dr S r H1 H2) : Dr S r H H2 := ⟨fun x o n h => b.1 x o n (a.1 x o n h), b.2⟩
theorem row_sc {K : PySem.W.Frag} {H : Hp} {r sc : Addr} {ns : List Int} {u : Addr} {t : List V} {o : HO} (h : H r = some (.lst (.ref u :: t))) (hs : SqL K H sc (ns.map V.int)) : SqL K (upd H r o) sc (ns.map V.int) := by
  have key : ∀ {x : HO}, H sc = some x → (∀ q, x ≠ .lst (.ref u :: q)) → upd H r o sc = some x := fun {x} e n => by
    rw [upd_ne (fun z => by rw [z, h] at e; exact n t (Option.some.inj e).symm)]
    exact e
  rcases hs with (hs | ⟨ob, hs⟩) | hs
  · refine .inl (.inl (key hs fun q z => ?_))
    cases ns with
    | nil => cases z
    | cons n ns => cases z
  · exact .inl (.inr ⟨ob, key hs fun q z => by cases z⟩)
  · exact .inr hs
theorem sq_new {K : PySem.W.Frag} {H : Hp} {p sc : Addr} {xs : List V} {o : HO} (hp : H p = none) (hs : SqL K H sc xs) : SqL K (upd H p o) sc xs := (same_new hp).seq hs
theorem RowOk.same {S : Sc} {H H' : Hp} {r : Addr} (h : RowOk S H r) (e : Same H H') : RowOk S H' r := let ⟨a, b, c, h1, h2, h3⟩ := h; ⟨a, b, c, e _ _ h1, e.seq h2, h3⟩
theorem Dr.same {S : Sc} {r : Addr} {H H' : Hp} (h : RowOk S H r) (e : Same H H') : Dr S r H H' := ⟨fun x o _ q => e x o q, h.same e⟩
def spTaken (S : Sc) : Sp := fun vs H Q _ => ∃ (r : Addr) (m : Int), vs = [.ref r, .int m] ∧ RowOk S H r ∧ 0 < m ∧ m < 1000000 ∧ ∀ n H', 0 ≤ n → n < m → Dr S r H H' → Q (.int n) H'
def spPick (S : Sc) : Sp := fun vs H Q _ => ∃ (r th : Addr) (xs : List V), vs = [.ref r, .ref th] ∧ RowOk S H r ∧ H th = some (.lst xs) ∧ th ≠ r ∧ 0 < xs.length ∧ xs.length < 100 ∧ ∀ (i : Nat) x H', xs[i]? = some x → Dr S r H H' → Q x H'
def spFlow (S : Sc) : Sp := fun vs H Q _ => ∃ r : Addr, vs = [.ref r] ∧ RowOk S H r ∧ ∀ n H', 0 ≤ n → n ≤ 1000 → Dr S r H H' → Q (.int n) H'
def spDam (S : Sc) : Sp := fun vs H Q _ => ∃ r : Addr, vs = [.ref r, .int 7] ∧ RowOk S H r ∧ ∀ d C s e q H', DamAt H' d C s e q → DamOk C s e q → Dr S r H H' → Q (.ref d) H'
def spDemands (S : Sc) : Sp := fun vs H Q _ => ∃ (r : Addr) (m : Nat), vs = [.ref r, .int m] ∧ m ≤ 12 ∧ RowOk S H r ∧ ∀ a (ns : List Int) H', H' a = some (.tup (ns.map V.int)) → ns.length = m → (∀ n ∈ ns, 0 ≤ n ∧ n ≤ 1000) → Dr S r H H' → Q (.ref a) H'
end Dw
set_option maxHeartbeats 4000000
namespace Dw
open PySem PySem.Spec PyProof.Rows L2
theorem gcd_pos {a b : Int} (hb : 0 < b) : 0 < gcdI a b := by
  unfold gcdI
  have : 0 < Nat.gcd a.natAbs b.natAbs := Nat.gcd_pos_of_pos_right _ (by omega)
  omega
theorem gcd_le {a b : Int} (hb : 0 < b) : gcdI a b ≤ b := by
  unfold gcdI
  have : Nat.gcd a.natAbs b.natAbs ≤ b.natAbs := Nat.gcd_le_right _ (by omega)
  omega
abbrev N_ratio : List Str := ["top", "bottom", "common"]
abbrev ps_ratio : List Str := ["top", "bottom"]
theorem sc_ratio : FnScope N_ratio ps_ratio (defScope (top 9)) := ⟨rfl, rfl, rfl, by decide +kernel, rfl, by decide +kernel, by decide +kernel⟩
theorem bd_ratio {K : PySem.W.Frag} {f : Addr} {fd : FuncData} (F : FunD K "ratio" "ratio" (defArgs (top 9)) (defBody (top 9)) (defScope (top 9)) [] [] f fd) : Binds K fd ps_ratio [] := F.bindsN fun kV doc pm an cdv ct us h => by
  match us, h with
  | [u0, u1], _ => exact (by first | rfl | with_unfolding_all rfl)
theorem ok_ratio {P : Program} {w : World} {K : PySem.W.Frag} {mg : Str → Option Value} {base : Heap} {tC tM tF : Tok} (T : Tx K mg tC tM tF)  {f : Addr} {fd : FuncData} (D : Df K mg "ratio" 9 f fd)  : OkF P w K mg base "ratio" ps_ratio 1 (spRatio) := by
  refine ⟨f, fd, D.F.ok sc_ratio (fun vs H Q E h => ?_) (fun cdv A outer s H vs Q E hr h => ?_), D.g, D.F.kp, bd_ratio D.F⟩
  · obtain ⟨a, b, rfl, _⟩ := h; rfl
  · refine ⟨_, PSs.nox (pss_cons (ps_set (i := 2) sc_ratio.nd rfl (Or.inl rfl) (pe_ifExp (pt_cmpR op_gt (pv 1) pe_int (nomark _)) (pe_callBfun cr_gcd (by rfl) T.gcd (pa_cons (pv 0) (pa_cons (pv 1) pa_nil))) (pe_op op_sub pe_int (pe_callBfun cr_gcd (by rfl) T.gcd (pa_cons (pv 0) (pa_cons (pv 1) pa_nil)))))) (pss_one (ps_ret (pe_tup (pa_cons (pe_op op_fdiv (pv 0) (pv 2)) (pa_cons (pe_op op_fdiv (pv 1) (pv 2)) pa_nil)))))), ?_⟩
    obtain ⟨a, b, rfl, hb, hb2, k⟩ := h
    have g0 : 0 < gcdI a b := gcd_pos hb
    have g1 := gcd_le (a := a) hb
    refine ⟨_, rfl, _, _, rfl, rfl, _, rfl, if_true_of (decide_eq_true hb) ?_⟩
    refine ⟨_, rfl, _, rfl, _, _, rfl, ?_⟩
    refine ⟨_, rfl, _, rfl, _, _, rfl, rfl, ⟨g0, ?_⟩, _, rfl, _, rfl, _, _, rfl, rfl, ⟨g0, ?_⟩, by show 2 ≤ sizeLine; decide, fun p hp => k p hp⟩
    · show gcdI a b < 1073741824
      omega
    · show gcdI a b < 1073741824
      omega
abbrev N_less : List Str := ["one", "other"]
abbrev ps_less : List Str := ["one", "other"]
theorem sc_less : FnScope N_less ps_less (defScope (top 10)) := ⟨rfl, rfl, rfl, by decide +kernel, rfl, by decide +kernel, by decide +kernel⟩
theorem bd_less {K : PySem.W.Frag} {f : Addr} {fd : FuncData} (F : FunD K "less" "less" (defArgs (top 10)) (defBody (top 10)) (defScope (top 10)) [] [] f fd) : Binds K fd ps_less [] := F.bindsN fun kV doc pm an cdv ct us h => by
  match us, h with
  | [u0, u1], _ => exact (by first | rfl | with_unfolding_all rfl)
theorem ok_less {P : Program} {w : World} {K : PySem.W.Frag} {mg : Str → Option Value} {base : Heap} {tC tM tF : Tok} (T : Tx K mg tC tM tF)  {f : Addr} {fd : FuncData} (D : Df K mg "less" 10 f fd)  : OkF P w K mg base "less" ps_less 1 (spLess) := by
  refine ⟨f, fd, D.F.ok sc_less (fun vs H Q E h => ?_) (fun cdv A outer s H vs Q E hr h => ?_), D.g, D.F.kp, bd_less D.F⟩
  · obtain ⟨p, r, a, b, c, d, rfl, _⟩ := h; rfl
  · refine ⟨_, PSs.nox (pss_one (ps_ret (pe_cmpR op_lt (pe_op op_mul (pe_ix ix_tup (pv 0) pe_int (fun _ _ => rfl)) (pe_ix ix_tup (pv 1) pe_int (fun _ _ => rfl))) (pe_op op_mul (pe_ix ix_tup (pv 1) pe_int (fun _ _ => rfl)) (pe_ix ix_tup (pv 0) pe_int (fun _ _ => rfl))) (nomark _)))), ?_⟩
    obtain ⟨p, r, a, b, c, d, rfl, hp, hr', sa, sc, k⟩ := h
    refine ⟨_, rfl, p, _, _, _, rfl, rfl, SqT.of hp, atI_nat (j := 0) rfl, _, rfl, r, _, _, _, rfl, rfl, SqT.of hr', atI_nat (j := 1) rfl, _, _, rfl, rfl, .inl sa, ?_⟩
    refine ⟨_, rfl, r, _, _, _, rfl, rfl, SqT.of hr', atI_nat (j := 0) rfl, _, rfl, p, _, _, _, rfl, rfl, SqT.of hp, atI_nat (j := 1) rfl, _, _, rfl, rfl, .inl sc, ?_⟩
    exact ⟨_, _, rfl, rfl, k⟩
abbrev N__law_less : List Str := ["_law_one", "_law_other"]
abbrev ps__law_less : List Str := ["_law_one", "_law_other"]
theorem sc__law_less : FnScope N__law_less ps__law_less (defScope (top 44)) := ⟨rfl, rfl, rfl, by decide +kernel, rfl, by decide +kernel, by decide +kernel⟩
theorem bd__law_less {K : PySem.W.Frag} {f : Addr} {fd : FuncData} (F : FunD K "_law_less" "_law_less" (defArgs (top 44)) (defBody (top 44)) (defScope (top 44)) [] [] f fd) : Binds K fd ps__law_less [] := F.bindsN fun kV doc pm an cdv ct us h => by
  match us, h with
  | [u0, u1], _ => exact (by first | rfl | with_unfolding_all rfl)
theorem ok__law_less {P : Program} {w : World} {K : PySem.W.Frag} {mg : Str → Option Value} {base : Heap} {tC tM tF : Tok} (T : Tx K mg tC tM tF)  {f : Addr} {fd : FuncData} (D : Df K mg "_law_less" 44 f fd)  : OkF P w K mg base "_law_less" ps__law_less 1 (spLess) := by
  refine ⟨f, fd, D.F.ok sc__law_less (fun vs H Q E h => ?_) (fun cdv A outer s H vs Q E hr h => ?_), D.g, D.F.kp, bd__law_less D.F⟩
  · obtain ⟨p, r, a, b, c, d, rfl, _⟩ := h; rfl
  · refine ⟨_, PSs.nox (pss_one (ps_ret (pe_cmpR op_lt (pe_op op_mul (pe_ix ix_tup (pv 0) pe_int (fun _ _ => rfl)) (pe_ix ix_tup (pv 1) pe_int (fun _ _ => rfl))) (pe_op op_mul (pe_ix ix_tup (pv 1) pe_int (fun _ _ => rfl)) (pe_ix ix_tup (pv 0) pe_int (fun _ _ => rfl))) (nomark _)))), ?_⟩
    obtain ⟨p, r, a, b, c, d, rfl, hp, hr', sa, sc, k⟩ := h
    refine ⟨_, rfl, p, _, _, _, rfl, rfl, SqT.of hp, atI_nat (j := 0) rfl, _, rfl, r, _, _, _, rfl, rfl, SqT.of hr', atI_nat (j := 1) rfl, _, _, rfl, rfl, .inl sa, ?_⟩
    refine ⟨_, rfl, r, _, _, _, rfl, rfl, SqT.of hr', atI_nat (j := 0) rfl, _, rfl, p, _, _, _, rfl, rfl, SqT.of hp, atI_nat (j := 1) rfl, _, _, rfl, rfl, .inl sc, ?_⟩
    exact ⟨_, _, rfl, rfl, k⟩
abbrev N_is_in : List Str := ["value", "least", "most"]
abbrev ps_is_in : List Str := ["value", "least", "most"]
theorem sc_is_in : FnScope N_is_in ps_is_in (defScope (top 15)) := ⟨rfl, rfl, rfl, by decide +kernel, rfl, by decide +kernel, by decide +kernel⟩
theorem bd_is_in {K : PySem.W.Frag} {f : Addr} {fd : FuncData} (F : FunD K "is_in" "is_in" (defArgs (top 15)) (defBody (top 15)) (defScope (top 15)) [] [] f fd) : Binds K fd ps_is_in [] := F.bindsN fun kV doc pm an cdv ct us h => by
  match us, h with
  | [u0, u1, u2], _ => exact (by first | rfl | with_unfolding_all rfl)
theorem ok_is_in {P : Program} {w : World} {K : PySem.W.Frag} {mg : Str → Option Value} {base : Heap} {tC tM tF : Tok} (T : Tx K mg tC tM tF)  {f : Addr} {fd : FuncData} (D : Df K mg "is_in" 15 f fd)  : OkF P w K mg base "is_in" ps_is_in 1 (spIsIn) := by
  refine ⟨f, fd, D.F.ok sc_is_in (fun vs H Q E h => ?_) (fun cdv A outer s H vs Q E hr h => ?_), D.g, D.F.kp, bd_is_in D.F⟩
  · obtain ⟨n, lo, hi, rfl, _⟩ := h; rfl
  · refine ⟨_, PSs.nox (pss_one (ps_ret (pe_and (pe_callB call_isi (by rfl) T.n_isinstance (by decide +kernel) (pa_cons (pv 0) (pa_cons (pe_bltn (v := .ty "int") (by rfl) T.n_int (by decide +kernel) rfl) pa_nil))) (pe_and (pe_not (pe_callB call_isi (by rfl) T.n_isinstance (by decide +kernel) (pa_cons (pv 0) (pa_cons (pe_bltn (v := .ty "bool") (by rfl) T.n_bool (by decide +kernel) rfl) pa_nil)))) (pe_one (pe_chain op_le op_le (pv 1) (pv 0) (pv 2))))))), ?_⟩
    obtain ⟨n, lo, hi, rfl, h1, h2, k⟩ := h
    refine ⟨_, rfl, _, _, .type "int", _, true, rfl, .ty "int", .base (.int n), kit_ty (by decide +kernel), _, rfl, iteT ?_⟩
    refine ⟨_, rfl, _, _, .type "int", _, false, rfl, .ty "bool", .base (.int n), kit_ty (by decide +kernel), _, rfl, _, rfl, iteT ?_⟩
    refine ⟨_, rfl, _, rfl, _, _, rfl, rfl, _, rfl, if_true_of (decide_eq_true h1) ?_⟩
    refine ⟨_, rfl, _, _, rfl, rfl, ?_⟩
    show Q (V.bl (decide (n ≤ hi))) H
    rw [decide_eq_true h2]
    exact k
abbrev N_most_held : List Str := ["dam", "held", "inflow"]
abbrev ps_most_held : List Str := ["dam"]
theorem sc_most_held : FnScope N_most_held ps_most_held (defScope (top 18)) := ⟨rfl, rfl, rfl, by decide +kernel, rfl, by decide +kernel, by decide +kernel⟩
theorem bd_most_held {K : PySem.W.Frag} {f : Addr} {fd : FuncData} (F : FunD K "most_held" "most_held" (defArgs (top 18)) (defBody (top 18)) (defScope (top 18)) [] [] f fd) : Binds K fd ps_most_held [] := F.bindsN fun kV doc pm an cdv ct us h => by
  match us, h with
  | [u0], _ => exact (by first | rfl | with_unfolding_all rfl)
theorem ok_most_held {P : Program} {w : World} {K : PySem.W.Frag} {mg : Str → Option Value} {base : Heap} {tC tM tF : Tok} (T : Tx K mg tC tM tF)  {f : Addr} {fd : FuncData} (D : Df K mg "most_held" 18 f fd)  : OkF P w K mg base "most_held" ps_most_held 1 (spMostHeld) := by
  refine ⟨f, fd, D.F.ok sc_most_held (fun vs H Q E h => ?_) (fun cdv A outer s H vs Q E hr h => ?_), D.g, D.F.kp, bd_most_held D.F⟩
  · obtain ⟨d, C, s, e, q, rfl, _⟩ := h; rfl
  · refine ⟨_, PSs.nox (pss_cons (ps_set (i := 1) sc_most_held.nd rfl (Or.inl rfl) (pe_ix ix_tup (pv 0) pe_int (fun _ _ => rfl))) (pss_cons (ps_for PassesOwn.never rfl (pi_tup (pe_ix ix_tup (pv 0) pe_int (fun _ _ => rfl))) (pg_name (i := 2) sc_most_held.nd rfl (Or.inl rfl)) (pss_one (ps_set (i := 1) sc_most_held.nd rfl (Or.inl rfl) (pe_callB (call_min2 rfl) (by rfl) T.n_min (by decide +kernel) (pa_cons (pe_ix ix_tup (pv 0) pe_int (fun _ _ => rfl)) (pa_cons (pe_op op_add (pv 1) (pv 2)) pa_nil)))))) (pss_one (ps_ret (pv 1))))), ?_⟩
    obtain ⟨d, C, s', e, q, rfl, ⟨qa, hd, hq⟩, ok, k⟩ := h
    refine ⟨_, rfl, d, _, _, _, rfl, rfl, SqT.of hd, atI_nat (j := 1) rfl, ?_⟩
    refine ⟨_, rfl, d, _, _, _, rfl, rfl, SqT.of hd, atI_nat (j := 3) rfl, qa, rfl, ⟨_, SqT.of hq⟩, ?_⟩
    refine for_tup (xs := q.map V.int) (fun i σ H' => H' = H ∧ ∃ (n : Int) (v : Option V), 0 ≤ n ∧ σ = [some (.ref d), some (.int n), v]) ⟨rfl, s', none, ok.s0, rfl⟩ (fun i σ H' _ ⟨e1, _⟩ => by rw [e1]; exact SqT.of hq) ?_ ?_
    · rintro i x σ H' hi ⟨rfl, n, v, hn, rfl⟩
      obtain ⟨z, hz, rfl⟩ : ∃ z, q[i]? = some z ∧ x = V.int z := by
        rw [List.getElem?_map] at hi
        cases e : q[i]? with
        | none => rw [e] at hi; cases hi
        | some z => rw [e] at hi; exact ⟨z, rfl, (Option.some.inj hi).symm⟩
      have hz0 := (ok.q.2.2 z (List.mem_of_getElem? hz)).1
      have c0 := ok.c0
      refine ⟨_, rfl, d, _, _, _, rfl, rfl, SqT.of hd, atI_nat (j := 0) rfl, _, rfl, _, rfl, _, _, rfl, rfl, _, _, rfl, ?_⟩
      refine ⟨rfl, _, _, ?_, rfl⟩
      split <;> omega
    · rintro σ H' ⟨rfl, n, v, hn, rfl⟩
      exact ⟨_, rfl, k n hn⟩
abbrev N_need_plans : List Str := ["dam"]
abbrev ps_need_plans : List Str := ["dam"]
theorem sc_need_plans : FnScope N_need_plans ps_need_plans (defScope (top 19)) := ⟨rfl, rfl, rfl, by decide +kernel, rfl, by decide +kernel, by decide +kernel⟩
theorem bd_need_plans {K : PySem.W.Frag} {f : Addr} {fd : FuncData} (F : FunD K "need_plans" "need_plans" (defArgs (top 19)) (defBody (top 19)) (defScope (top 19)) [] [] f fd) : Binds K fd ps_need_plans [] := F.bindsN fun kV doc pm an cdv ct us h => by
  match us, h with
  | [u0], _ => exact (by first | rfl | with_unfolding_all rfl)
theorem ok_need_plans {P : Program} {w : World} {K : PySem.W.Frag} {mg : Str → Option Value} {base : Heap} {tC tM tF : Tok} (T : Tx K mg tC tM tF)  {f : Addr} {fd : FuncData} (D : Df K mg "need_plans" 19 f fd) (O_most_held : OkF P w K mg base "most_held" ps_most_held 1 (spMostHeld)) : OkF P w K mg base "need_plans" ps_need_plans 2 (spNeedPlans) := by
  refine ⟨f, fd, D.F.ok sc_need_plans (fun vs H Q E h => ?_) (fun cdv A outer s H vs Q E hr h => ?_), D.g, D.F.kp, bd_need_plans D.F⟩
  · obtain ⟨d, C, s, q, rfl, _⟩ := h; rfl
  · refine ⟨_, PSs.nox (pss_one (ps_if (pt_cmpR op_lt (pe_cal O_most_held (hr.mono (by decide)) (by rfl) (pa_cons (pv 0) pa_nil)) (pe_ix ix_tup (pv 0) pe_int (fun _ _ => rfl)) (nomark _)) pss_never pss_nil)), ?_⟩
    obtain ⟨d, C, s', q, rfl, hD, ok, k⟩ := h
    obtain ⟨qa, hd, hq⟩ := id hD
    refine ⟨_, rfl, d, C, s', 0, q, rfl, hD, ok, fun n hn => ?_⟩
    refine ⟨_, rfl, d, _, _, _, rfl, rfl, SqT.of hd, atI_nat (j := 2) rfl, _, _, rfl, rfl, _, rfl, if_false_of (decide_eq_false (by omega)) k⟩
end Dw
set_option maxHeartbeats 4000000
namespace Dw
open PySem PySem.Spec PyProof.Rows L2
theorem gsc_nofree {env : Env} {scope : Scope} (h1 : scope.kind = .function) (h2 : scope.isCoroutine = false) (h3 : ∀ y ∈ scope.names, y.2 ≠ .cell) (h4 : scope.names.lookup (".0" : Str) = some NameKind.local) (h5 : ∀ y ∈ scope.names, y.2 ≠ .free) : GSc env scope :=
  ⟨h1, h2, h3, h4, fun y hy e => absurd e (h5 y hy)⟩
theorem isT (K : PySem.W.Frag) {H : Hp} {a : Addr} {xs : List V} (h : H a = some (.tup xs)) : TyX K H (.ref a) (.type "tuple") := .base (.tup h)
theorem ext_tab {T : List Addr} {H H' : Hp} {P : Addr} (t : Tb T H) (hP : P ∈ T) (e : GxR.Tabbed P H H') : Ext H H' := Ext.tabbed (t P hP) e
abbrev N_are_flows : List Str := ["value"]
abbrev ps_are_flows : List Str := ["value"]
theorem sc_are_flows : FnScope N_are_flows ps_are_flows (defScope (top 16)) := ⟨rfl, rfl, rfl, by decide +kernel, rfl, by decide +kernel, by decide +kernel⟩
theorem bd_are_flows {K : PySem.W.Frag} {f : Addr} {fd : FuncData} (F : FunD K "are_flows" "are_flows" (defArgs (top 16)) (defBody (top 16)) (defScope (top 16)) [] [] f fd) : Binds K fd ps_are_flows [] := F.bindsN fun kV doc pm an cdv ct us h => by
  match us, h with
  | [u0], _ => exact (by first | rfl | with_unfolding_all rfl)
theorem ok_are_flows {P : Program} {w : World} {K : PySem.W.Frag} {mg : Str → Option Value} {base : Heap} {tC tM tF : Tok} (T : Tx K mg tC tM tF) {TT : List Addr} {P1 : Addr} (hP1 : P1 ∈ TT) (TB : GxR.TabB base mg (He.codeOf K ("are_flows", none)) P1) {f0 : Addr} {fd0 : FuncData} (IT : IsInT K mg f0 fd0) {fd : FuncData} (D : Df K mg "are_flows" 16 (He.fAd K ("are_flows", none)) fd)  : OkF P w K mg base "are_flows" ps_are_flows 2 (spAreFlows TT) := by
  refine ⟨(He.fAd K ("are_flows", none)), fd, okC D.F sc_are_flows (fun vs H Q E h => ?_) (fun A outer s H vs Q E hr h => ?_), D.g, D.F.kp, bd_are_flows D.F⟩
  · obtain ⟨a, ns, rfl, _⟩ := h; rfl
  · refine ⟨_, PSs.nox (pss_cons (ps_if (PW.pt (pw_or (pt_not (pt_val (pe_callB call_isi (by rfl) T.n_isinstance (by decide +kernel) (pa_cons (pv 0) (pa_cons (pe_bltn (v := .ty "tuple") (by rfl) T.n_tuple (by decide +kernel) rfl) pa_nil))))) (pw_or1 (pt_not (pt_chain op_le op_le pe_int (pe_callB call_len_seq (by rfl) T.n_len (by decide +kernel) (pa_cons (pv 0) pa_nil)) (pe_glob (v := .int 12) (by rfl) T.months ⟨_, rfl⟩)))))) pss_never pss_nil) (pss_one (ps_ret (pe_allOne hr (by rfl) T.n_all (by kernel_rfl) TB rfl (gsc_nofree rfl rfl (by decide +kernel) rfl (by decide +kernel)) (by rfl) (pv 0) (elt_isinM hr IT T.flow (gsc_nofree rfl rfl (by decide +kernel) rfl (by decide +kernel)) (by rfl) (by rfl) (by rfl)) (fun _ => rfl))))), ?_⟩
    obtain ⟨a, ns, rfl, ha, ok, tb, k⟩ := h
    have l1 := ok.1
    have l2 := ok.2.1
    have hl : ((ns.map V.int).length : Int) = (ns.length : Int) := by rw [List.length_map]
    refine ⟨_, rfl, _, _, .type "tuple", _, true, rfl, .ty "tuple", isT K ha, kit_ty (by decide +kernel), _, rfl, if_false_of rfl ?_⟩
    refine ⟨_, rfl, a, _, rfl, .inr (SqT.of ha), _, _, rfl, rfl, _, rfl, if_true_of (decide_eq_true (by omega)) ?_⟩
    refine ⟨_, _, rfl, rfl, _, rfl, if_false_of ?_ ?_⟩
    · show (!decide (((ns.map V.int).length : Int) ≤ 12)) = false
      rw [decide_eq_true (show ((ns.map V.int).length : Int) ≤ 12 by omega)]
      rfl
    · refine ⟨_, rfl, a, ns, 1000, rfl, SqT.of ha, rfl, ok.2.2, tb P1 hP1, fun H2 h2 => ?_⟩
      exact k H2 (ext_tab tb hP1 h2) (tb.tabbed hP1 h2)
theorem gsc_one {env : Env} {scope : Scope} {x : Str} {c : Addr} (h1 : scope.kind = .function) (h2 : scope.isCoroutine = false) (h3 : ∀ y ∈ scope.names, y.2 ≠ .cell) (h4 : scope.names.lookup (".0" : Str) = some NameKind.local) (h5 : ∀ y ∈ scope.names, y.2 = .free → y.1 = x) (h6 : env.cells.lookup x = some c) : GSc env scope :=
  ⟨h1, h2, h3, h4, fun y hy e => ⟨c, by rw [h5 y hy e]; exact h6⟩⟩
abbrev N_need_dam : List Str := ["dam"]
abbrev ps_need_dam : List Str := ["dam"]
theorem sc_need_dam : FnScope N_need_dam ps_need_dam (defScope (top 17)) := ⟨rfl, rfl, rfl, by decide +kernel, rfl, by decide +kernel, by decide +kernel⟩
theorem bd_need_dam {K : PySem.W.Frag} {f : Addr} {fd : FuncData} (F : FunD K "need_dam" "need_dam" (defArgs (top 17)) (defBody (top 17)) (defScope (top 17)) [] [] f fd) : Binds K fd ps_need_dam [] := F.bindsN fun kV doc pm an cdv ct us h => by
  match us, h with
  | [u0], _ => exact (by first | rfl | with_unfolding_all rfl)
theorem ok_need_dam {P : Program} {w : World} {K : PySem.W.Frag} {mg : Str → Option Value} {base : Heap} {tC tM tF : Tok} (T : Tx K mg tC tM tF) {TT : List Addr} {P1 : Addr} (hP1 : P1 ∈ TT) (TB : GxR.TabB base mg (He.codeOf K ("need_dam", none)) P1) {f0 : Addr} {fd0 : FuncData} (IT : IsInT K mg f0 fd0) {fd : FuncData} (D : Df K mg "need_dam" 17 (He.fAd K ("need_dam", none)) fd) (O_is_in : OkF P w K mg base "is_in" ps_is_in 1 (spIsIn)) (O_are_flows : OkF P w K mg base "are_flows" ps_are_flows 2 (spAreFlows TT)) : OkF P w K mg base "need_dam" ps_need_dam 3 (spNeedDam TT) := by
  refine ⟨(He.fAd K ("need_dam", none)), fd, okC D.F sc_need_dam (fun vs H Q E h => ?_) (fun A outer s H vs Q E hr h => ?_), D.g, D.F.kp, bd_need_dam D.F⟩
  · obtain ⟨d, C, s, e, q, rfl, _⟩ := h; rfl
  · refine ⟨_, PSs.nox (pss_cons (ps_if (PW.pt (pw_or (pt_not (pt_val (pe_callB call_isi (by rfl) T.n_isinstance (by decide +kernel) (pa_cons (pv 0) (pa_cons (pe_bltn (v := .ty "tuple") (by rfl) T.n_tuple (by decide +kernel) rfl) pa_nil))))) (pw_or (pt_cmpR op_ne (pe_callB call_len_seq (by rfl) T.n_len (by decide +kernel) (pa_cons (pv 0) pa_nil)) pe_int (nomark _)) (pw_or1 (pt_not (pt_val (pe_cal O_is_in (hr.mono (by decide)) (by rfl) (pa_cons (pe_ix ix_tup (pv 0) pe_int (fun _ _ => rfl)) (pa_cons pe_int (pa_cons (pe_glob (v := .int 1000) (by rfl) T.cap ⟨_, rfl⟩) pa_nil)))))))))) pss_never pss_nil) (pss_one (ps_if (PW.pt (pw_or (pt_not (pt_val (pe_allOne hr (by rfl) T.n_all (by kernel_rfl) TB rfl (gsc_one (x := "dam") rfl rfl (by decide +kernel) rfl (by decide +kernel) (by with_unfolding_all rfl)) (by rfl) (pe_slice sl_tupA (pv 0) (po_some pe_int) (po_some pe_int)) (elt_isinD hr IT (gsc_one (x := "dam") rfl rfl (by decide +kernel) rfl (by decide +kernel) (by with_unfolding_all rfl)) (by rfl) (by rfl) (by rfl) rfl (by rfl) (by with_unfolding_all rfl) (by with_unfolding_all rfl)) (fun _ => rfl)))) (pw_or1 (pt_not (pt_val (pe_cal O_are_flows (hr.mono (by decide)) (by rfl) (pa_cons (pe_ix ix_tup (pv 0) pe_int (fun _ _ => rfl)) pa_nil))))))) pss_never pss_nil))), ?_⟩
    obtain ⟨d, C, s', e, q, rfl, hD, ok, tb, k⟩ := h
    obtain ⟨qa, hd, hq⟩ := id hD
    refine ⟨_, rfl, _, _, .type "tuple", _, true, rfl, .ty "tuple", isT K hd, kit_ty (by decide +kernel), _, rfl, if_false_of rfl ?_⟩
    refine ⟨_, rfl, d, _, rfl, .inr (SqT.of hd), rfl, _, rfl, if_false_of rfl ?_⟩
    refine ⟨_, rfl, d, _, _, _, rfl, rfl, SqT.of hd, atI_nat (j := 0) rfl, C, 0, 1000, rfl, ok.c0, ok.c1, _, rfl, if_false_of rfl ?_⟩
    refine ⟨_, rfl, 1, rfl, 3, rfl, d, _, rfl, SqT.of hd, fun z => absurd z (by simp only [List.length_cons, List.length_nil]; decide), fun _ p hp => ?_⟩
    have sm : Same H (upd H p (.tup (cutV [.int C, .int s', .int e, .ref qa] (some 1) (some 3)))) := same_new hp
    have ec : cutV [V.int C, .int s', .int e, .ref qa] (some 1) (some 3) = [s', e].map V.int := by with_unfolding_all rfl
    have tb1 := tb.same sm
    refine ⟨p, [s', e], C, rfl, SqT.of (by rw [upd_same, ec]), ⟨d, _, rfl, SqT.of (sm _ _ hd)⟩, ?_, tb1 P1 hP1, fun H2 h2 => ?_⟩
    · intro n hn
      have hn2 : n = s' ∨ n = e := by simpa using hn
      rcases hn2 with z | z
      · rw [z]; exact ⟨ok.s0, ok.s1⟩
      · rw [z]; exact ⟨ok.e0, ok.e1⟩
    · have x2 : Ext H H2 := (Ext.same sm).trans (ext_tab tb1 hP1 h2)
      have tb2 := tb1.tabbed hP1 h2
      refine ⟨_, rfl, if_false_of rfl ?_⟩
      refine ⟨_, rfl, d, _, _, _, rfl, rfl, SqT.of (x2 _ _ hd rfl), atI_nat (j := 3) rfl, qa, q, rfl, x2 _ _ hq rfl, ok.q, tb2, fun H' x3 t3 => ⟨_, rfl, if_false_of rfl ?_⟩⟩
      exact k H' (x2.trans x3) t3
abbrev N_need_demands : List Str := ["months", "demands"]
abbrev ps_need_demands : List Str := ["months", "demands"]
theorem sc_need_demands : FnScope N_need_demands ps_need_demands (defScope (top 20)) := ⟨rfl, rfl, rfl, by decide +kernel, rfl, by decide +kernel, by decide +kernel⟩
theorem bd_need_demands {K : PySem.W.Frag} {f : Addr} {fd : FuncData} (F : FunD K "need_demands" "need_demands" (defArgs (top 20)) (defBody (top 20)) (defScope (top 20)) [] [] f fd) : Binds K fd ps_need_demands [] := F.bindsN fun kV doc pm an cdv ct us h => by
  match us, h with
  | [u0, u1], _ => exact (by first | rfl | with_unfolding_all rfl)
theorem ok_need_demands {P : Program} {w : World} {K : PySem.W.Frag} {mg : Str → Option Value} {base : Heap} {tC tM tF : Tok} (T : Tx K mg tC tM tF) {TT : List Addr} {f : Addr} {fd : FuncData} (D : Df K mg "need_demands" 20 f fd) (O_are_flows : OkF P w K mg base "are_flows" ps_are_flows 2 (spAreFlows TT)) : OkF P w K mg base "need_demands" ps_need_demands 3 (spNeedDemands TT) := by
  refine ⟨f, fd, D.F.ok sc_need_demands (fun vs H Q E h => ?_) (fun cdv A outer s H vs Q E hr h => ?_), D.g, D.F.kp, bd_need_demands D.F⟩
  · obtain ⟨a, ns, rfl, _⟩ := h; rfl
  · refine ⟨_, PSs.nox (pss_one (ps_if (PW.pt (pw_or (pt_not (pt_val (pe_cal O_are_flows (hr.mono (by decide)) (by rfl) (pa_cons (pv 1) pa_nil)))) (pw_or1 (pt_cmpR op_ne (pe_callB call_len_seq (by rfl) T.n_len (by decide +kernel) (pa_cons (pv 1) pa_nil)) (pv 0) (nomark _))))) pss_never pss_nil)), ?_⟩
    obtain ⟨a, ns, rfl, ha, ok, tb, k⟩ := h
    refine ⟨_, rfl, a, ns, rfl, ha, ok, tb, fun H' x t => ⟨_, rfl, if_false_of rfl ?_⟩⟩
    refine ⟨_, rfl, a, _, rfl, .inr (SqT.of (x _ _ ha rfl)), _, rfl, rfl, _, rfl, if_false_of ?_ (k H' x t)⟩
    show (!decide (V.int ((ns.map V.int).length : Int) = V.int (ns.length : Int))) = false
    rw [List.length_map, decide_eq_true rfl]
    rfl
abbrev N_need_inflows : List Str := ["inflows"]
abbrev ps_need_inflows : List Str := ["inflows"]
theorem sc_need_inflows : FnScope N_need_inflows ps_need_inflows (defScope (top 26)) := ⟨rfl, rfl, rfl, by decide +kernel, rfl, by decide +kernel, by decide +kernel⟩
theorem bd_need_inflows {K : PySem.W.Frag} {f : Addr} {fd : FuncData} (F : FunD K "need_inflows" "need_inflows" (defArgs (top 26)) (defBody (top 26)) (defScope (top 26)) [] [] f fd) : Binds K fd ps_need_inflows [] := F.bindsN fun kV doc pm an cdv ct us h => by
  match us, h with
  | [u0], _ => exact (by first | rfl | with_unfolding_all rfl)
theorem ok_need_inflows {P : Program} {w : World} {K : PySem.W.Frag} {mg : Str → Option Value} {base : Heap} {tC tM tF : Tok} (T : Tx K mg tC tM tF) {TT : List Addr} {f : Addr} {fd : FuncData} (D : Df K mg "need_inflows" 26 f fd) (O_are_flows : OkF P w K mg base "are_flows" ps_are_flows 2 (spAreFlows TT)) : OkF P w K mg base "need_inflows" ps_need_inflows 3 (spNeedInflows TT) := by
  refine ⟨f, fd, D.F.ok sc_need_inflows (fun vs H Q E h => ?_) (fun cdv A outer s H vs Q E hr h => ?_), D.g, D.F.kp, bd_need_inflows D.F⟩
  · obtain ⟨a, ns, rfl, _⟩ := h; rfl
  · refine ⟨_, PSs.nox (pss_one (ps_if (pt_not (pt_val (pe_cal O_are_flows (hr.mono (by decide)) (by rfl) (pa_cons (pv 0) pa_nil)))) pss_never pss_nil)), ?_⟩
    obtain ⟨a, ns, rfl, ha, ok, tb, k⟩ := h
    exact ⟨_, rfl, a, ns, rfl, ha, ok, tb, fun H' x t => ⟨_, rfl, if_false_of rfl (k H' x t)⟩⟩
abbrev N_need_lack : List Str := ["dam", "demands"]
abbrev ps_need_lack : List Str := ["dam", "demands"]
theorem sc_need_lack : FnScope N_need_lack ps_need_lack (defScope (top 34)) := ⟨rfl, rfl, rfl, by decide +kernel, rfl, by decide +kernel, by decide +kernel⟩
theorem bd_need_lack {K : PySem.W.Frag} {f : Addr} {fd : FuncData} (F : FunD K "need_lack" "need_lack" (defArgs (top 34)) (defBody (top 34)) (defScope (top 34)) [] [] f fd) : Binds K fd ps_need_lack [] := F.bindsN fun kV doc pm an cdv ct us h => by
  match us, h with
  | [u0, u1], _ => exact (by first | rfl | with_unfolding_all rfl)
theorem ok_need_lack {P : Program} {w : World} {K : PySem.W.Frag} {mg : Str → Option Value} {base : Heap} {tC tM tF : Tok} (T : Tx K mg tC tM tF) {TT : List Addr} {f : Addr} {fd : FuncData} (D : Df K mg "need_lack" 34 f fd) (O_need_dam : OkF P w K mg base "need_dam" ps_need_dam 3 (spNeedDam TT)) (O_need_demands : OkF P w K mg base "need_demands" ps_need_demands 3 (spNeedDemands TT)) : OkF P w K mg base "need_lack" ps_need_lack 4 (spNeedLack TT) := by
  refine ⟨f, fd, D.F.ok sc_need_lack (fun vs H Q E h => ?_) (fun cdv A outer s H vs Q E hr h => ?_), D.g, D.F.kp, bd_need_lack D.F⟩
  · obtain ⟨d, a, C, s, e, q, ds, rfl, _⟩ := h; rfl
  · refine ⟨_, PSs.nox (pss_cons (ps_expr (pe_cal O_need_dam (hr.mono (by decide)) (by rfl) (pa_cons (pv 0) pa_nil))) (pss_one (ps_expr (pe_cal O_need_demands (hr.mono (by decide)) (by rfl) (pa_cons (pe_callB call_len_seq (by rfl) T.n_len (by decide +kernel) (pa_cons (pe_ix ix_tup (pv 0) pe_int (fun _ _ => rfl)) pa_nil)) (pa_cons (pv 1) pa_nil)))))), ?_⟩
    obtain ⟨d, a, C, s', e, q, ds, rfl, hD, ok, ha, okd, hl, tb, k⟩ := h
    refine ⟨_, rfl, d, C, s', e, q, rfl, hD, ok, tb, fun H1 x1 t1 => ?_⟩
    obtain ⟨qa, hd, hq⟩ := hD.ext x1
    refine ⟨_, rfl, d, _, _, _, rfl, rfl, SqT.of hd, atI_nat (j := 3) rfl, qa, _, rfl, .inr (SqT.of hq), _, rfl, a, ds, ?_, x1 _ _ ha rfl, okd, t1, fun H2 x2 t2 => k H2 (x1.trans x2) t2⟩
    show [V.int ((q.map V.int).length : Int), V.ref a] = [V.int (ds.length : Int), V.ref a]
    rw [List.length_map, hl]
end Dw
set_option maxHeartbeats 4000000
namespace Dw
open PySem PySem.Spec PyProof.Rows L2
theorem int_get {ns : List Int} {i : Nat} {x : V} (hi : (ns.map V.int)[i]? = some x) : ∃ z, ns[i]? = some z ∧ x = V.int z := by
  rw [List.getElem?_map] at hi
  cases e : ns[i]? with
  | none => rw [e] at hi; cases hi
  | some z => rw [e] at hi; exact ⟨z, rfl, (Option.some.inj hi).symm⟩
theorem ref_get {ns : List Addr} {i : Nat} {x : V} (hi : (ns.map V.ref)[i]? = some x) : ∃ z, ns[i]? = some z ∧ x = V.ref z := by
  rw [List.getElem?_map] at hi
  cases e : ns[i]? with
  | none => rw [e] at hi; cases hi
  | some z => rw [e] at hi; exact ⟨z, rfl, (Option.some.inj hi).symm⟩
theorem zip_drop {a b : List Int} {i : Nat} {x y : Int} (h1 : a[i]? = some x) (h2 : b[i]? = some y) : (a.zip b).drop i = (x, y) :: (a.zip b).drop (i + 1) := by
  obtain ⟨l1, e1⟩ := List.getElem?_eq_some_iff.mp h1
  obtain ⟨l2, e2⟩ := List.getElem?_eq_some_iff.mp h2
  have hl : i < (a.zip b).length := by rw [List.length_zip]; omega
  rw [List.drop_eq_getElem_cons hl, List.getElem_zip, e1, e2]
theorem map_snoc {ads : List Addr} {p : Addr} : ads.map V.ref ++ [V.ref p] = (ads ++ [p]).map V.ref := by simp
theorem rows_snoc {H H' : Hp} {ads : List Addr} {rs : List (Int × Int × Int)} {p : Addr} {r : Int × Int × Int} (h : RowsAt H ads rs) (k : ∀ b x, b ∈ ads → H b = some x → H' b = some x) (hp : H' p = some (.tup [.int r.1, .int r.2.1, .int r.2.2])) : RowsAt H' (ads ++ [p]) (rs ++ [r]) := by
  refine ⟨by simp [h.1], fun i b x h1 h2 => ?_⟩
  rcases Nat.lt_trichotomy i ads.length with c | c | c
  · rw [List.getElem?_append_left c] at h1
    rw [List.getElem?_append_left (by rw [← h.1]; exact c)] at h2
    exact k b _ (List.mem_of_getElem? h1) (h.2 i b x h1 h2)
  · subst c
    rw [List.getElem?_append_right (Nat.le_refl _)] at h1
    rw [List.getElem?_append_right (by rw [h.1]; exact Nat.le_refl _)] at h2
    rw [Nat.sub_self] at h1
    rw [h.1, Nat.sub_self] at h2
    cases h1
    cases h2
    exact hp
  · rw [List.getElem?_eq_none (by rw [List.length_append, List.length_singleton]; omega)] at h1
    cases h1
theorem rows_ne {H : Hp} {ads : List Addr} {rs : List (Int × Int × Int)} {l : Addr} {xs : List V} (h : RowsAt H ads rs) (hl : H l = some (.lst xs)) : ∀ b, b ∈ ads → b ≠ l := fun b hb z => by
  obtain ⟨i, hi⟩ := List.mem_iff_getElem?.mp hb
  have hlt : i < rs.length := by rw [← h.1]; exact (List.getElem?_eq_some_iff.mp hi).1
  have e := h.2 i b _ hi (List.getElem?_eq_getElem hlt)
  rw [z, hl] at e
  cases e
abbrev N_run_of : List Str := ["dam", "demands", "held", "found", "inflow", "demand", "given", "spilled"]
abbrev ps_run_of : List Str := ["dam", "demands"]
theorem sc_run_of : FnScope N_run_of ps_run_of (defScope (top 21)) := ⟨rfl, rfl, rfl, by decide +kernel, rfl, by decide +kernel, by decide +kernel⟩
theorem bd_run_of {K : PySem.W.Frag} {f : Addr} {fd : FuncData} (F : FunD K "run_of" "run_of" (defArgs (top 21)) (defBody (top 21)) (defScope (top 21)) [] [] f fd) : Binds K fd ps_run_of [] := F.bindsN fun kV doc pm an cdv ct us h => by
  match us, h with
  | [u0, u1], _ => exact (by first | rfl | with_unfolding_all rfl)
theorem ok_run_of {P : Program} {w : World} {K : PySem.W.Frag} {mg : Str → Option Value} {base : Heap} {tC tM tF : Tok} (T : Tx K mg tC tM tF)  {f : Addr} {fd : FuncData} (D : Df K mg "run_of" 21 f fd)  : OkF P w K mg base "run_of" ps_run_of 1 (spRunOf) := by
  refine ⟨f, fd, D.F.ok sc_run_of (fun vs H Q E h => ?_) (fun cdv A outer s H vs Q E hr h => ?_), D.g, D.F.kp, bd_run_of D.F⟩
  · obtain ⟨d, a, C, s, e, q, ds, rfl, _⟩ := h; rfl
  · refine ⟨_, PSs.nox (pss_cons (ps_par (i := 2) (j := 3) rfl sc_run_of.nd rfl rfl (by decide) rfl rfl (pa_cons (pe_ix ix_tup (pv 0) pe_int (fun _ _ => rfl)) (pa_cons (pe_lst pa_nil) pa_nil)) (by rfl)) (pss_cons (ps_for PassesOwn.never rfl (RZ.pi_zipA (by rfl) T.n_zip (pa_cons (pe_ix ix_tup (pv 0) pe_int (fun _ _ => rfl)) (pa_cons (pv 1) pa_nil))) (pg_tup rfl (pgs_cons (pg_name (i := 4) sc_run_of.nd rfl (Or.inl rfl)) (pgs_cons (pg_name (i := 5) sc_run_of.nd rfl (Or.inl rfl)) pgs_nil))) (pss_cons (ps_set (i := 6) sc_run_of.nd rfl (Or.inl rfl) (pe_callB (call_min2 rfl) (by rfl) T.n_min (by decide +kernel) (pa_cons (pv 5) (pa_cons (pe_op op_add (pv 2) (pv 4)) pa_nil)))) (pss_cons (ps_set (i := 7) sc_run_of.nd rfl (Or.inl rfl) (pe_callB (call_max2 rfl) (by rfl) T.n_max (by decide +kernel) (pa_cons pe_int (pa_cons (pe_op op_sub (pe_op op_sub (pe_op op_add (pv 2) (pv 4)) (pv 6)) (pe_ix ix_tup (pv 0) pe_int (fun _ _ => rfl))) pa_nil)))) (pss_cons (ps_set (i := 2) sc_run_of.nd rfl (Or.inl rfl) (pe_op op_sub (pe_op op_sub (pe_op op_add (pv 2) (pv 4)) (pv 6)) (pv 7))) (pss_one (ps_expr (pe_bm PySem.F.plainAttrs_list PySem.F.slot_list_append PySem.F.type_list_append mt_append (pv 3) (pa_cons (pe_tup (pa_cons (pv 6) (pa_cons (pv 7) (pa_cons (pv 2) pa_nil)))) pa_nil)))))))) (pss_one (ps_ret (pv 3))))), ?_⟩
    obtain ⟨d, a, C, s', e, q, ds, rfl, ⟨qa, hd, hq⟩, ha, hlen, h12, k⟩ := h
    refine ⟨_, rfl, d, _, _, _, rfl, rfl, SqT.of hd, atI_nat (j := 1) rfl, by show 0 ≤ sizeLine; decide, fun l hl => ⟨_, _, rfl, ?_⟩⟩
    have hls : (q.map V.int).length = (ds.map V.int).length := by rw [List.length_map, List.length_map, hlen]
    have sm0 : Same H (upd H l (.lst [])) := same_new hl
    refine ⟨_, rfl, d, _, _, _, rfl, rfl, SqT.of (sm0 _ _ hd), atI_nat (j := 3) rfl, _, rfl, qa, a, _, _, rfl, .inr ⟨SqT.of (sm0 _ _ hq), SqT.of (sm0 _ _ ha), ?_⟩⟩
    refine RZ.for_zipT (xs := q.map V.int) (ys := ds.map V.int) hls (fun i σ H' => ∃ (ads : List Addr) (pre : List (Int × Int × Int)) (hc : Int) (v4 v5 v6 v7 : Option V), σ = [some (.ref d), some (.ref a), some (.int hc), some (.ref l), v4, v5, v6, v7] ∧
      Same H H' ∧ H' l = some (.lst (ads.map V.ref)) ∧ RowsAt H' ads pre ∧ pre.length = i ∧ rows C s' (q.zip ds) = pre ++ rows C hc ((q.zip ds).drop i)) ⟨[], [], s', _, _, _, _, rfl, sm0, upd_same, ⟨rfl, fun i p r h => by simp at h⟩, rfl, by simp⟩
      (fun i σ H' ⟨_, _, _, _, _, _, _, _, sm, _⟩ => ⟨SqT.of (sm _ _ hq), SqT.of (sm _ _ ha)⟩) ?_ ?_
    · rintro i x y t σ H' hx hy ⟨ads, pre, hc, v4, v5, v6, v7, rfl, sm, hL, hR, hpl, hrow⟩ hT
      obtain ⟨x, hx2, rfl⟩ := int_get hx
      obtain ⟨y, hy2, rfl⟩ := int_get hy
      have smT : Same H' (upd H' t (.tup [.int x, .int y])) := same_new hT
      have hd1 := (sm.trans smT) _ _ hd
      refine ⟨t, _, rfl, SqT.of upd_same, rfl, _, _, rfl, _, _, rfl, rfl, ?_⟩
      refine ⟨_, rfl, _, rfl, _, rfl, _, _, rfl, rfl, _, _, rfl, ?_⟩
      refine ⟨_, rfl, _, rfl, _, _, rfl, rfl, _, rfl, _, _, rfl, rfl, _, rfl, d, _, _, _, rfl, rfl, SqT.of hd1, atI_nat (j := 0) rfl, _, _, rfl, rfl, _, _, rfl, ?_⟩
      refine ⟨_, rfl, _, rfl, _, _, rfl, rfl, _, rfl, _, _, rfl, rfl, _, rfl, _, _, rfl, rfl, ?_⟩
      refine ⟨_, rfl, .inl ⟨rfl, _, SqL.of (smT _ _ hL)⟩, _, rfl, _, rfl, _, rfl, by show 3 ≤ sizeLine; decide, fun p hp => ⟨l, ads.map V.ref, _, rfl, rfl, ?_, ?_, ?_⟩⟩
      · exact (smT.trans (same_new hp)) _ _ hL
      · have e1 := (List.getElem?_eq_some_iff.mp hx2).1
        rw [List.length_map, hR.1]
        exact small1000 (by omega)
      · have hpl' : p ≠ l := fun z => by
          rw [z] at hp
          rw [smT _ _ hL] at hp
          cases hp
        have smP : Same H' (upd (upd H' t (.tup [.int x, .int y])) p (.tup [.int (min2 y (hc + x)), .int (max2 0 (hc + x - min2 y (hc + x) - C)), .int (hc + x - min2 y (hc + x) - max2 0 (hc + x - min2 y (hc + x) - C))])) := smT.trans (same_new hp)
        refine ⟨ads ++ [p], pre ++ [(min2 y (hc + x), max2 0 (hc + x - min2 y (hc + x) - C), hc + x - min2 y (hc + x) - max2 0 (hc + x - min2 y (hc + x) - C))], _, _, _, _, _, rfl, fun b u hb => ?_, by rw [upd_same, map_snoc], ?_, by simp [hpl], ?_⟩
        · have hbl : b ≠ l := fun z => by rw [z, hl] at hb; cases hb
          rw [upd_ne hbl]
          exact smP _ _ (sm _ _ hb)
        · refine rows_snoc hR (fun b u hb e => ?_) (by rw [upd_ne hpl', upd_same]; rfl)
          rw [upd_ne (rows_ne hR hL b hb)]
          exact smP _ _ e
        · rw [hrow, zip_drop hx2 hy2, List.append_assoc]
          rfl
    · rintro σ H' ⟨ads, pre, hc, v4, v5, v6, v7, rfl, sm, hL, hR, hpl, hrow⟩
      have e0 : (q.zip ds).drop (q.map V.int).length = [] := List.drop_of_length_le (by rw [List.length_zip, List.length_map]; omega)
      rw [e0] at hrow
      have e1 : rows C s' (q.zip ds) = pre := by rw [hrow]; simp [rows]
      refine ⟨_, rfl, k l ads H' sm hL ?_⟩
      rw [e1]
      exact hR
abbrev N_run : List Str := ["dam", "demands"]
abbrev ps_run : List Str := ["dam", "demands"]
theorem sc_run : FnScope N_run ps_run (defScope (top 22)) := ⟨rfl, rfl, rfl, by decide +kernel, rfl, by decide +kernel, by decide +kernel⟩
theorem bd_run {K : PySem.W.Frag} {f : Addr} {fd : FuncData} (F : FunD K "run" "run" (defArgs (top 22)) (defBody (top 22)) (defScope (top 22)) [] [] f fd) : Binds K fd ps_run [] := F.bindsN fun kV doc pm an cdv ct us h => by
  match us, h with
  | [u0, u1], _ => exact (by first | rfl | with_unfolding_all rfl)
theorem ok_run {P : Program} {w : World} {K : PySem.W.Frag} {mg : Str → Option Value} {base : Heap} {tC tM tF : Tok} (T : Tx K mg tC tM tF) {TT : List Addr} {f : Addr} {fd : FuncData} (D : Df K mg "run" 22 f fd) (O_need_dam : OkF P w K mg base "need_dam" ps_need_dam 3 (spNeedDam TT)) (O_need_demands : OkF P w K mg base "need_demands" ps_need_demands 3 (spNeedDemands TT)) (O_run_of : OkF P w K mg base "run_of" ps_run_of 1 (spRunOf)) : OkF P w K mg base "run" ps_run 5 (spRun TT) := by
  refine ⟨f, fd, D.F.ok sc_run (fun vs H Q E h => ?_) (fun cdv A outer s H vs Q E hr h => ?_), D.g, D.F.kp, bd_run D.F⟩
  · obtain ⟨d, a, C, s, e, q, ds, rfl, _⟩ := h; rfl
  · refine ⟨_, PSs.nox (pss_cons (ps_expr (pe_cal O_need_dam (hr.mono (by decide)) (by rfl) (pa_cons (pv 0) pa_nil))) (pss_cons (ps_expr (pe_cal O_need_demands (hr.mono (by decide)) (by rfl) (pa_cons (pe_callB call_len_seq (by rfl) T.n_len (by decide +kernel) (pa_cons (pe_ix ix_tup (pv 0) pe_int (fun _ _ => rfl)) pa_nil)) (pa_cons (pv 1) pa_nil)))) (pss_one (ps_ret (pe_callTy call_tuple_of (by rfl) T.n_tuple (by decide +kernel) (pa_cons (pe_cal O_run_of (hr.mono (by decide)) (by rfl) (pa_cons (pv 0) (pa_cons (pv 1) pa_nil))) pa_nil)))))), ?_⟩
    obtain ⟨d, a, C, s', e, q, ds, rfl, hD, ok, ha, okd, hl, tb, k⟩ := h
    refine ⟨_, rfl, d, C, s', e, q, rfl, hD, ok, tb, fun H1 x1 t1 => ?_⟩
    obtain ⟨qa, hd, hq⟩ := hD.ext x1
    refine ⟨_, rfl, d, _, _, _, rfl, rfl, SqT.of hd, atI_nat (j := 3) rfl, qa, _, rfl, .inr (SqT.of hq), _, rfl, a, ds, ?_, x1 _ _ ha rfl, okd, t1, fun H2 x2 t2 => ?_⟩
    · show [V.int ((q.map V.int).length : Int), V.ref a] = [V.int (ds.length : Int), V.ref a]
      rw [List.length_map, hl]
    · have x3 := x1.trans x2
      refine ⟨_, rfl, _, rfl, d, a, C, s', e, q, ds, rfl, hD.ext x3, x3 _ _ ha rfl, hl, ok.q.2.1, fun l ads H3 sm hL hR => ⟨l, _, rfl, .inl ⟨SqL.of hL, fun t ht => ?_⟩⟩⟩
      have sm2 : Same H3 (upd H3 t (.tup (ads.map V.ref))) := same_new ht
      exact k t ads _ (x3.trans (Ext.same (sm.trans sm2))) ((t2.same sm).same sm2) upd_same ⟨hR.1, fun i p r h1 h2 => sm2 _ _ (hR.2 i p r h1 h2)⟩
abbrev N_total_lack : List Str := ["dam", "demands"]
abbrev ps_total_lack : List Str := ["dam", "demands"]
theorem sc_total_lack : FnScope N_total_lack ps_total_lack (defScope (top 35)) := ⟨rfl, rfl, rfl, by decide +kernel, rfl, by decide +kernel, by decide +kernel⟩
theorem bd_total_lack {K : PySem.W.Frag} {f : Addr} {fd : FuncData} (F : FunD K "total_lack" "total_lack" (defArgs (top 35)) (defBody (top 35)) (defScope (top 35)) [] [] f fd) : Binds K fd ps_total_lack [] := F.bindsN fun kV doc pm an cdv ct us h => by
  match us, h with
  | [u0, u1], _ => exact (by first | rfl | with_unfolding_all rfl)
theorem ok_total_lack {P : Program} {w : World} {K : PySem.W.Frag} {mg : Str → Option Value} {base : Heap} {tC tM tF : Tok} (T : Tx K mg tC tM tF) {TT : List Addr} {P1 : Addr} (hP1 : P1 ∈ TT) (TB : GxR.TabB base mg (He.codeOf K ("total_lack", none)) P1) {fd : FuncData} (D : Df K mg "total_lack" 35 (He.fAd K ("total_lack", none)) fd) (O_need_lack : OkF P w K mg base "need_lack" ps_need_lack 4 (spNeedLack TT)) (O_run_of : OkF P w K mg base "run_of" ps_run_of 1 (spRunOf)) : OkF P w K mg base "total_lack" ps_total_lack 5 (spTotalLack TT) := by
  refine ⟨(He.fAd K ("total_lack", none)), fd, okC D.F sc_total_lack (fun vs H Q E h => ?_) (fun A outer s H vs Q E hr h => ?_), D.g, D.F.kp, bd_total_lack D.F⟩
  · obtain ⟨d, a, C, s, e, q, ds, rfl, _⟩ := h; rfl
  · refine ⟨_, PSs.nox (pss_cons (ps_expr (pe_cal O_need_lack (hr.mono (by decide)) (by rfl) (pa_cons (pv 0) (pa_cons (pv 1) pa_nil)))) (pss_one (ps_ret (pe_sumZ hr (by rfl) T.n_sum (by rfl) T.n_zip TB rfl (gsc_nofree rfl rfl (by decide +kernel) rfl (by decide +kernel)) (by rfl) (by rfl) (by rfl) (by rfl) (pa_cons (pv 1) (pa_cons (pe_cal O_run_of (hr.mono (by decide)) (by rfl) (pa_cons (pv 0) (pa_cons (pv 1) pa_nil))) pa_nil)))))), ?_⟩
    obtain ⟨d, a, C, s', e, q, ds, rfl, hD, ok, ha, okd, hl, tb, k⟩ := h
    refine ⟨_, rfl, _, rfl, d, a, C, s', e, q, ds, rfl, hD, ok, ha, okd, hl, tb, fun H1 x1 t1 => ?_⟩
    refine ⟨_, rfl, _, rfl, _, rfl, d, a, C, s', e, q, ds, rfl, hD.ext x1, x1 _ _ ha rfl, hl, ok.q.2.1, fun l ads H2 sm hL hR => ?_⟩
    have x2 := x1.trans (Ext.same sm)
    have t2 := t1.same sm
    have hrl : ∀ (C h : Int) (z : List (Int × Int)), (rows C h z).length = z.length := fun C h z => by
      induction z generalizing h with
      | nil => rfl
      | cons p r ih => simp [rows, ih]
    refine ⟨a, l, ds, ads, rows C s' (q.zip ds), rfl, SqT.of (x2 _ _ ha rfl), SqL.of hL, hR, by rw [hrl, List.length_zip]; omega, t2 P1 hP1, fun H3 h3 => ?_⟩
    exact k H3 (x2.trans (ext_tab t2 hP1 h3)) (t2.tabbed hP1 h3)
end Dw
set_option maxHeartbeats 4000000
namespace Dw
open PySem PySem.Spec PyProof.Rows L2
theorem pairs_snoc {H H' : Hp} {ads : List Addr} {xs ys : List V} {p : Addr} {x y : V} (hl : xs.length = ys.length) (h : PairsAt H ads xs ys) (k : ∀ b u, b ∈ ads → H b = some u → H' b = some u) (hp : H' p = some (.tup [x, y])) : PairsAt H' (ads ++ [p]) (xs ++ [x]) (ys ++ [y]) := by
  refine ⟨by simp [h.1], fun i b u v h1 h2 h3 => ?_⟩
  rcases Nat.lt_trichotomy i ads.length with c | c | c
  · rw [List.getElem?_append_left c] at h1
    rw [List.getElem?_append_left (by rw [← h.1]; exact c)] at h2
    rw [List.getElem?_append_left (by rw [← hl, ← h.1]; exact c)] at h3
    exact k b _ (List.mem_of_getElem? h1) (h.2 i b u v h1 h2 h3)
  · subst c
    rw [List.getElem?_append_right (Nat.le_refl _), Nat.sub_self] at h1
    rw [List.getElem?_append_right (by rw [h.1]; exact Nat.le_refl _), h.1, Nat.sub_self] at h2
    rw [List.getElem?_append_right (by rw [h.1, hl]; exact Nat.le_refl _), h.1, hl, Nat.sub_self] at h3
    cases h1
    cases h2
    cases h3
    exact hp
  · rw [List.getElem?_eq_none (by rw [List.length_append, List.length_singleton]; omega)] at h1
    cases h1
theorem pairs_ne {H : Hp} {ads : List Addr} {xs ys : List V} {l : Addr} {zs : List V} (hl2 : xs.length = ys.length) (h : PairsAt H ads xs ys) (hl : H l = some (.lst zs)) : ∀ b, b ∈ ads → b ≠ l := fun b hb z => by
  obtain ⟨i, hi⟩ := List.mem_iff_getElem?.mp hb
  have hlt : i < xs.length := by rw [← h.1]; exact (List.getElem?_eq_some_iff.mp hi).1
  have e := h.2 i b _ _ hi (List.getElem?_eq_getElem hlt) (List.getElem?_eq_getElem (by rw [← hl2]; exact hlt))
  rw [z, hl] at e
  cases e
/-- the spans that stand so far: rows below i, and j of the row i -/
def preS (n i : Nat) : List (Nat × Nat) := (List.range i).flatMap fun i => (List.range (n - i)).map fun k => (i, i + k)
def preT (n i j : Nat) : List (Nat × Nat) := preS n i ++ (List.range j).map fun k => (i, i + k)
theorem preT_zero (n i : Nat) : preT n i 0 = preS n i := by simp [preT]
theorem preT_succ (n i j : Nat) : preT n i (j + 1) = preT n i j ++ [(i, i + j)] := by simp [preT, List.range_succ]
theorem preT_full (n i : Nat) : preT n i (n - i) = preS n (i + 1) := by
  unfold preT preS
  rw [List.range_succ, List.flatMap_append]
  simp
theorem preS_full (n : Nat) : preS n n = spanL n := rfl
theorem mem_span {n i j : Nat} : (i, j) ∈ spanL n ↔ i ≤ j ∧ j < n := by
  unfold spanL
  rw [List.mem_flatMap]
  constructor
  · rintro ⟨a, ha, h⟩
    rw [List.mem_map] at h
    obtain ⟨k, hk, e⟩ := h
    rw [List.mem_range] at ha hk
    cases e
    omega
  · rintro ⟨h1, h2⟩
    refine ⟨i, List.mem_range.mpr (by omega), List.mem_map.mpr ⟨j - i, List.mem_range.mpr (by omega), ?_⟩⟩
    rw [show i + (j - i) = j by omega]
def SpI (H H' : Hp) (D : Addr) (l : List (Nat × Nat)) : Prop := ∃ ads : List Addr, Same H H' ∧ H' D = some (.lst (ads.map V.ref)) ∧ PairsAt H' ads (l.map fun p => .int p.1) (l.map fun p => .int p.2)
theorem preT_len (n i j : Nat) (hn : n ≤ 12) (hi : i < n) (hj : j < n - i) : (preT n i j).length < 1000 := by
  have h1 : ∀ m, m ≤ 12 → (preS n m).length ≤ 12 * m := fun m => by
    induction m with
    | zero => intro _; simp [preS]
    | succ m ih =>
      intro hm
      have := ih (by omega)
      rw [← preT_full]
      unfold preT
      rw [List.length_append, List.length_map, List.length_range]
      omega
  have := h1 i (by omega)
  unfold preT
  rw [List.length_append, List.length_map, List.length_range]
  omega
abbrev N_spans : List Str := ["months", "first", "last"]
abbrev ps_spans : List Str := ["months"]
theorem sc_spans : FnScope N_spans ps_spans (defScope (top 24)) := ⟨rfl, rfl, rfl, by decide +kernel, rfl, by decide +kernel, by decide +kernel⟩
theorem bd_spans {K : PySem.W.Frag} {f : Addr} {fd : FuncData} (F : FunD K "spans" "spans" (defArgs (top 24)) (defBody (top 24)) (defScope (top 24)) [] [] f fd) : Binds K fd ps_spans [] := F.bindsN fun kV doc pm an cdv ct us h => by
  match us, h with
  | [u0], _ => exact (by first | rfl | with_unfolding_all rfl)
theorem ok_spans {P : Program} {w : World} {K : PySem.W.Frag} {mg : Str → Option Value} {base : Heap} {tC tM tF : Tok} (T : Tx K mg tC tM tF)  {f : Addr} {fd : FuncData} (D : Df K mg "spans" 24 f fd)  : OkF P w K mg base "spans" ps_spans 1 (spSpans) := by
  refine ⟨f, fd, D.F.ok sc_spans (fun vs H Q E h => ?_) (fun cdv A outer s H vs Q E hr h => ?_), D.g, D.F.kp, bd_spans D.F⟩
  · obtain ⟨n, rfl, _⟩ := h; rfl
  · refine ⟨_, PSs.nox (pss_one (ps_ret (pe_lc2 (own := [("first", 1), ("last", 2)]) (vs1 := [2]) (g := gName 1) (tt := tYes) (g1 := gName 2) (tt1 := tYes) rfl sc_spans.nd (pi_range1 (by rfl) T.n_range (pa_cons (pv 0) pa_nil)) (blkOk_by (own := [("first", 1), ("last", 2)]) (N := N_spans) (sc := defScope (top 24)) (by decide +kernel)) (by decide) (fun _ _ _ _ _ => pg_name (i := 1) sc_spans.nd rfl (Or.inl rfl)) (fun _ _ _ _ _ => pts_nil) (fun _ _ _ _ _ => (pi_range2 (by rfl) T.n_range (pa_cons (pv 1) (pa_cons (pv 0) pa_nil)))) (fun _ _ _ _ _ => pg_name (i := 2) sc_spans.nd rfl (Or.inl rfl)) (fun _ _ _ _ _ => pts_nil) (fun _ _ _ _ _ => (pe_tup (pa_cons (pv 1) (pa_cons (pv 2) pa_nil))))))), ?_⟩
    obtain ⟨n, rfl, hn, k⟩ := h
    refine ⟨_, rfl, (n : Int), rfl, by omega, by omega, fun D hD => ⟨fun i m H' => m = n - i ∧ i ≤ n ∧ SpI H H' D (preS n i), ⟨n, by simp, Nat.zero_le _, [], same_new hD, upd_same, rfl, fun i p x y h => by simp at h⟩, ?_⟩⟩
    rintro i m H' ⟨rfl, hi, hS⟩
    by_cases hlt : i < n
    · refine .inr ⟨hlt, fun H' => SpI H H' D (preS n (i + 1)), fun H' p' => ⟨n - (i + 1), by omega, rfl, hlt, p'⟩, fun x H2 y => ?_⟩
      obtain ⟨rfl, rfl⟩ := y
      refine ⟨rfl, ?_⟩
      refine ⟨_, rfl, _, rfl, 0 + (i : Int), (n : Int), rfl, ⟨by omega, by omega, by omega, by omega⟩, fun j m H' => m = n - i - j ∧ j ≤ n - i ∧ SpI H H' D (preT n i j), ⟨n - i, by simp, Nat.zero_le _, by rw [preT_zero]; exact hS⟩, ?_⟩
      have hcnt : ((n : Int) - (0 + (i : Int))).toNat = n - i := by omega
      rintro j m H3 ⟨rfl, hj, hT⟩
      by_cases hlt2 : j < n - i
      · refine .inr ⟨show j < ((n : Int) - (0 + (i : Int))).toNat by rw [hcnt]; exact hlt2, fun H' => SpI H H' D (preT n i (j + 1)), fun H' p' => ⟨n - i - (j + 1), by omega, rfl, hlt2, p'⟩, fun x H4 y => ?_⟩
        obtain ⟨rfl, rfl⟩ := y
        obtain ⟨ads, sm, hL, hP⟩ := hT
        refine ⟨rfl, ?_⟩
        have hll : ((preT n i j).map fun p => V.int p.1).length = ((preT n i j).map fun p => V.int p.2).length := by rw [List.length_map, List.length_map]
        refine ⟨_, rfl, _, rfl, by show 2 ≤ sizeLine; decide, fun p hp => ⟨ads.map V.ref, ?_, ?_, ads ++ [p], ?_, by rw [upd_same, map_snoc], ?_⟩⟩
        · exact (same_new hp) _ _ hL
        · rw [List.length_map, hP.1, List.length_map]
          exact small1000 (Nat.le_of_lt (preT_len n i j hn hlt hlt2))
        · intro b u hb
          rw [upd_ne (fun z => by rw [z, hD] at hb; cases hb)]
          exact (same_new hp) _ _ (sm _ _ hb)
        · rw [preT_succ, List.map_append, List.map_append]
          refine pairs_snoc hll hP (fun b u hb e => ?_) ?_
          · rw [upd_ne (pairs_ne hll hP hL b hb)]
            exact (same_new hp) _ _ e
          · rw [upd_ne (fun z => by rw [z, hL] at hp; cases hp), upd_same]
            have e1 : (0 : Int) + (i : Int) = ((i : Nat) : Int) := by omega
            have e2 : (0 : Int) + (i : Int) + (j : Int) = ((i + j : Nat) : Int) := by omega
            show some (HO.tup [V.int (0 + (i : Int)), V.int (0 + (i : Int) + (j : Int))]) = _
            rw [e2, e1]
      · have e : j = n - i := by omega
        subst e
        rw [preT_full] at hT
        exact .inl ⟨show ((n : Int) - (0 + (i : Int))).toNat ≤ n - i by rw [hcnt]; exact Nat.le_refl _, hT⟩
    · have e : i = n := by omega
      subst e
      obtain ⟨ads, sm, hL, hP⟩ := hS
      rw [preS_full] at hP
      exact .inl ⟨Nat.le_refl _, k D ads H' sm hL hP⟩
theorem cut_nat {q : List Int} {i j : Nat} : cutV (q.map V.int) (some (i : Int)) (some ((j : Int) + 1)) = ((q.take (j + 1)).drop i).map V.int := by
  have e : ((j : Int) + 1) = ((j + 1 : Nat) : Int) := by omega
  unfold cutV
  rw [e, HT.sIx_nat, HT.sIx_nat, ← List.map_drop, ← List.map_take, List.length_map]
  congr 1
  rw [List.drop_take]
  by_cases h1 : i ≤ q.length
  · rw [Nat.min_eq_left h1]
    by_cases h2 : j + 1 ≤ q.length
    · rw [Nat.min_eq_left h2]
    · rw [Nat.min_eq_right (by omega), List.take_of_length_le (by rw [List.length_drop]; omega), List.take_of_length_le (by rw [List.length_drop]; omega)]
  · rw [Nat.min_eq_right (show q.length ≤ i by omega), List.drop_of_length_le (Nat.le_refl _), List.drop_of_length_le (show q.length ≤ i by omega)]
    simp
theorem cut_whole {q : List Int} {i j : Nat} (h : HT.sIx (q.map V.int).length 0 (some (i : Int)) = 0 ∧ HT.sIx (q.map V.int).length (q.map V.int).length (some ((j : Int) + 1)) = (q.map V.int).length) (hij : i ≤ j) (hj : j < q.length) : (q.take (j + 1)).drop i = q := by
  have e : ((j : Int) + 1) = ((j + 1 : Nat) : Int) := by omega
  rw [e, HT.sIx_nat, HT.sIx_nat, List.length_map] at h
  obtain ⟨h1, h2⟩ := h
  have a : i = 0 := by omega
  have b : j + 1 = q.length := by omega
  rw [a, b, List.take_length]
  rfl
theorem sum_bound {q : List Int} (h : ∀ n ∈ q, 0 ≤ n ∧ n ≤ 1000) : 0 ≤ q.sum ∧ q.sum ≤ 1000 * q.length := by
  induction q with
  | nil => simp
  | cons n q ih =>
    have h1 := h n (.head _)
    have h2 := ih fun m hm => h m (.tail _ hm)
    rw [List.sum_cons, List.length_cons]
    omega
theorem water_bound {C s e : Int} {q : List Int} (ok : DamOk C s e q) (i j : Nat) : -1000 ≤ water C s q i j ∧ water C s q i j ≤ 13000 := by
  have h : ∀ n ∈ (q.take (j + 1)).drop i, 0 ≤ n ∧ n ≤ 1000 := fun n hn => ok.q.2.2 n (List.mem_of_mem_take (List.mem_of_mem_drop hn))
  have b := sum_bound h
  have l : ((q.take (j + 1)).drop i).length ≤ 12 := by
    rw [List.length_drop, List.length_take]
    have := ok.q.2.1
    omega
  have c0 := ok.c0; have c1 := ok.c1; have s0 := ok.s0; have s1 := ok.s1
  unfold water
  split <;> omega
theorem dvd_gcd {a b : Int} : gcdI a b * (a / gcdI a b) = a ∧ gcdI a b * (b / gcdI a b) = b := by
  have h1 : gcdI a b ∣ a := by
    show ((Int.gcd a b : Nat) : Int) ∣ a
    exact Int.gcd_dvd_left ..
  have h2 : gcdI a b ∣ b := by
    show ((Int.gcd a b : Nat) : Int) ∣ b
    exact Int.gcd_dvd_right ..
  exact ⟨Int.mul_ediv_cancel' h1, Int.mul_ediv_cancel' h2⟩
/-- the ratio of w and n -/
theorem ratio_facts {w n : Int} (hn : 0 < n) (hn2 : n ≤ 12) (h1 : -1000 ≤ w) (h2 : w ≤ 13000) : 0 < n / gcdI w n ∧ n / gcdI w n ≤ 12 ∧ -100000 ≤ w / gcdI w n ∧ w / gcdI w n ≤ 100000 ∧ (w / gcdI w n) * n = w * (n / gcdI w n) := by
  have g0 : 0 < gcdI w n := gcd_pos hn
  have g1 := gcd_le (a := w) hn
  obtain ⟨e1, e2⟩ := dvd_gcd (a := w) (b := n)
  generalize w / gcdI w n = t at *
  generalize n / gcdI w n = b at *
  generalize gcdI w n = g at *
  have hb : 0 < b := by
    rcases Int.lt_or_le 0 b with h | h
    · exact h
    · have : g * b ≤ 0 := Int.mul_nonpos_of_nonneg_of_nonpos (by omega) h
      omega
  have hb2 : b ≤ g * b := by
    have : 1 * b ≤ g * b := Int.mul_le_mul_of_nonneg_right (by omega) (by omega)
    omega
  refine ⟨hb, by omega, ?_, ?_, ?_⟩
  · rcases Int.lt_or_le t 0 with h | h
    · have : g * t ≤ 1 * t := Int.mul_le_mul_of_nonpos_right (by omega) (by omega)
      have h3 : g ≤ 12 := by omega
      have h4 : t * g = w := by rw [Int.mul_comm]; exact e1
      rcases Int.lt_or_le t (-100000) with h5 | h5
      · exfalso
        omega
      · exact h5
    · omega
  · rcases Int.lt_or_le 0 t with h | h
    · have : 1 * t ≤ g * t := Int.mul_le_mul_of_nonneg_right (by omega) (by omega)
      omega
    · omega
  · rw [← e1, ← e2, Int.mul_comm g b, ← Int.mul_assoc, Int.mul_comm g t, Int.mul_assoc, Int.mul_assoc, Int.mul_comm b g]
abbrev N_span_peak : List Str := ["dam", "span", "first", "last", "water"]
abbrev ps_span_peak : List Str := ["dam", "span"]
theorem sc_span_peak : FnScope N_span_peak ps_span_peak (defScope (top 30)) := ⟨rfl, rfl, rfl, by decide +kernel, rfl, by decide +kernel, by decide +kernel⟩
theorem bd_span_peak {K : PySem.W.Frag} {f : Addr} {fd : FuncData} (F : FunD K "span_peak" "span_peak" (defArgs (top 30)) (defBody (top 30)) (defScope (top 30)) [] [] f fd) : Binds K fd ps_span_peak [] := F.bindsN fun kV doc pm an cdv ct us h => by
  match us, h with
  | [u0, u1], _ => exact (by first | rfl | with_unfolding_all rfl)
theorem ok_span_peak {P : Program} {w : World} {K : PySem.W.Frag} {mg : Str → Option Value} {base : Heap} {tC tM tF : Tok} (T : Tx K mg tC tM tF)  {f : Addr} {fd : FuncData} (D : Df K mg "span_peak" 30 f fd) (O_ratio : OkF P w K mg base "ratio" ps_ratio 1 (spRatio)) : OkF P w K mg base "span_peak" ps_span_peak 2 (spSpanPeak) := by
  refine ⟨f, fd, D.F.ok sc_span_peak (fun vs H Q E h => ?_) (fun cdv A outer s H vs Q E hr h => ?_), D.g, D.F.kp, bd_span_peak D.F⟩
  · obtain ⟨d, sp, C, s, e, q, i, j, rfl, _⟩ := h; rfl
  · refine ⟨_, PSs.nox (pss_cons (ps_asg (pv 1) (pg_tup rfl (pgs_cons (pg_name (i := 2) sc_span_peak.nd rfl (Or.inl rfl)) (pgs_cons (pg_name (i := 3) sc_span_peak.nd rfl (Or.inl rfl)) pgs_nil)))) (pss_cons (ps_set (i := 4) sc_span_peak.nd rfl (Or.inl rfl) (pe_op op_sub (pe_op op_add (pe_ifExp (pt_cmpR op_eq (pv 2) pe_int (nomark _)) (pe_ix ix_tup (pv 0) pe_int (fun _ _ => rfl)) pe_int) (pe_callB (cr_sumT rfl) (by rfl) T.n_sum (by decide +kernel) (pa_cons (pe_slice sl_tupA (pe_ix ix_tup (pv 0) pe_int (fun _ _ => rfl)) (po_some (pv 2)) (po_some (pe_op op_add (pv 3) pe_int))) pa_nil))) (pe_ix ix_tup (pv 0) pe_int (fun _ _ => rfl)))) (pss_one (ps_ret (pe_cal O_ratio (hr.mono (by decide)) (by rfl) (pa_cons (pv 4) (pa_cons (pe_op op_add (pe_op op_sub (pv 3) (pv 2)) pe_int) pa_nil))))))), ?_⟩
    obtain ⟨d, sp, C, s', e, q, i, j, rfl, ⟨qa, hd, hq⟩, ok, hsp, hij, hj, k⟩ := h
    have l12 := ok.q.2.1
    have fin : ∀ Hx : Hp, Same H Hx → ∀ w : Int, w = water C s' q i j → spRatio [V.int w, V.int ((j : Int) - (i : Int) + 1)] Hx Q (fun _ _ _ => False) := fun Hx sm w hw => by
      have wb := water_bound ok i j
      rw [← hw] at wb
      obtain ⟨f1, f2, f3, f4, f5⟩ := ratio_facts (w := w) (n := (j : Int) - (i : Int) + 1) (by omega) (by omega) wb.1 wb.2
      refine ⟨w, _, rfl, by omega, by omega, fun p hp => ?_⟩
      exact k p _ _ _ (sm.trans (same_new hp)) upd_same f1 f2 f3 f4 (by rw [← hw]; exact f5)
    refine ⟨_, rfl, sp, _, rfl, SqT.of hsp, rfl, _, _, rfl, _, _, rfl, rfl, ?_⟩
    by_cases c : i = 0
    · refine ⟨_, rfl, rfl, _, rfl, if_true_of (decide_eq_true (by rw [c]; rfl)) ⟨_, rfl, d, _, _, _, rfl, rfl, SqT.of hd, atI_nat (j := 1) rfl, ?_⟩⟩
      refine ⟨_, rfl, d, _, _, _, rfl, rfl, SqT.of hd, atI_nat (j := 3) rfl, _, rfl, (i : Int), rfl, _, rfl, _, _, rfl, rfl, (j : Int) + 1, rfl, qa, _, rfl, SqT.of hq, fun wh => ?_, fun nw p hp => ?_⟩
      · refine ⟨qa, q, rfl, SqT.of hq, _, _, rfl, rfl, _, rfl, d, _, _, _, rfl, rfl, SqT.of hd, atI_nat (j := 0) rfl, _, _, rfl, rfl, ?_⟩
        refine ⟨_, rfl, _, rfl, _, rfl, _, _, rfl, rfl, _, _, rfl, rfl, fin H (Same.refl H) _ ?_⟩
        unfold water
        rw [cut_whole wh hij hj]
        simp [c]
      · have sm : Same H (upd H p (.tup (cutV (q.map V.int) (some (i : Int)) (some ((j : Int) + 1))))) := same_new hp
        refine ⟨p, (q.take (j + 1)).drop i, rfl, SqT.of (by rw [upd_same, cut_nat]), _, _, rfl, rfl, _, rfl, d, _, _, _, rfl, rfl, SqT.of (sm _ _ hd), atI_nat (j := 0) rfl, _, _, rfl, rfl, ?_⟩
        refine ⟨_, rfl, _, rfl, _, rfl, _, _, rfl, rfl, _, _, rfl, rfl, fin _ sm _ ?_⟩
        unfold water
        simp [c]
    · refine ⟨_, rfl, rfl, _, rfl, if_false_of (decide_eq_false (fun z => c (by injection z; omega))) ?_⟩
      refine ⟨_, rfl, d, _, _, _, rfl, rfl, SqT.of hd, atI_nat (j := 3) rfl, _, rfl, (i : Int), rfl, _, rfl, _, _, rfl, rfl, (j : Int) + 1, rfl, qa, _, rfl, SqT.of hq, fun wh => ?_, fun nw p hp => ?_⟩
      · refine ⟨qa, q, rfl, SqT.of hq, _, _, rfl, rfl, _, rfl, d, _, _, _, rfl, rfl, SqT.of hd, atI_nat (j := 0) rfl, _, _, rfl, rfl, ?_⟩
        refine ⟨_, rfl, _, rfl, _, rfl, _, _, rfl, rfl, _, _, rfl, rfl, fin H (Same.refl H) _ ?_⟩
        unfold water
        rw [cut_whole wh hij hj]
        simp [c]
      · have sm : Same H (upd H p (.tup (cutV (q.map V.int) (some (i : Int)) (some ((j : Int) + 1))))) := same_new hp
        refine ⟨p, (q.take (j + 1)).drop i, rfl, SqT.of (by rw [upd_same, cut_nat]), _, _, rfl, rfl, _, rfl, d, _, _, _, rfl, rfl, SqT.of (sm _ _ hd), atI_nat (j := 0) rfl, _, _, rfl, rfl, ?_⟩
        refine ⟨_, rfl, _, rfl, _, rfl, _, _, rfl, rfl, _, _, rfl, rfl, fin _ sm _ ?_⟩
        unfold water
        simp [c]
structure PkI (C s : Int) (q : List Int) (t b : Int) (l : List (Nat × Nat)) : Prop where
  b0 : 0 < b
  b1 : b ≤ 12
  t0 : 0 ≤ t
  t1 : t ≤ 100000
  all : ∀ x ∈ l, water C s q x.1 x.2 * b ≤ t * ((x.2 : Int) - x.1 + 1)
  one : t = 0 ∨ ∃ x ∈ spanL q.length, t * ((x.2 : Int) - x.1 + 1) = water C s q x.1 x.2 * b
theorem le_cancel {a b c : Int} (h : a * c ≤ b * c) (hc : 0 < c) : a ≤ b := Int.le_of_mul_le_mul_right h hc
theorem pk_new {C s : Int} {q : List Int} {t b t2 b2 : Int} {l : List (Nat × Nat)} {x : Nat × Nat} (I : PkI C s q t b l) (hx : x ∈ spanL q.length) (h : t * b2 < t2 * b) (hb0 : 0 < b2) (hb1 : b2 ≤ 12) (ht : t2 ≤ 100000) (he : t2 * ((x.2 : Int) - x.1 + 1) = water C s q x.1 x.2 * b2) (hl : ∀ y ∈ l, y ∈ spanL q.length) : PkI C s q t2 b2 (l ++ [x]) where
  b0 := hb0
  b1 := hb1
  t0 := by
    have h1 : 0 ≤ t * b2 := Int.mul_nonneg I.t0 (by omega)
    rcases Int.lt_or_le t2 0 with c | c
    · have : t2 * b ≤ 0 := Int.mul_nonpos_of_nonpos_of_nonneg (by omega) (by have := I.b0; omega)
      omega
    · exact c
  t1 := ht
  all := fun y hy => by
    rcases List.mem_append.mp hy with hy | hy
    · have h0 := I.all y hy
      have hm := mem_span.mp (show (y.1, y.2) ∈ spanL q.length from hl y hy)
      have hn : (0 : Int) < (y.2 : Int) - y.1 + 1 := by omega
      generalize (y.2 : Int) - y.1 + 1 = n at *
      generalize water C s q y.1 y.2 = w at *
      have e1 : w * b * b2 ≤ t * n * b2 := Int.mul_le_mul_of_nonneg_right h0 (by omega)
      have e2 : t * b2 * n ≤ t2 * b * n := Int.mul_le_mul_of_nonneg_right (by omega) (by omega)
      have e3 : w * b2 * b ≤ t2 * n * b := by
        have a1 : w * b2 * b = w * b * b2 := by rw [Int.mul_assoc, Int.mul_comm b2 b, ← Int.mul_assoc]
        have a2 : t * n * b2 = t * b2 * n := by rw [Int.mul_assoc, Int.mul_comm n b2, ← Int.mul_assoc]
        have a3 : t2 * b * n = t2 * n * b := by rw [Int.mul_assoc, Int.mul_comm b n, ← Int.mul_assoc]
        omega
      exact le_cancel e3 I.b0
    · rw [List.mem_singleton.mp hy]
      omega
  one := .inr ⟨x, hx, he⟩
theorem pk_old {C s : Int} {q : List Int} {t b t2 b2 : Int} {l : List (Nat × Nat)} {x : Nat × Nat} (I : PkI C s q t b l) (hx : x ∈ spanL q.length) (h : ¬ t * b2 < t2 * b) (hb0 : 0 < b2) (he : t2 * ((x.2 : Int) - x.1 + 1) = water C s q x.1 x.2 * b2) : PkI C s q t b (l ++ [x]) where
  b0 := I.b0
  b1 := I.b1
  t0 := I.t0
  t1 := I.t1
  all := fun y hy => by
    rcases List.mem_append.mp hy with hy | hy
    · exact I.all y hy
    · rw [List.mem_singleton.mp hy]
      have hm := mem_span.mp (show (x.1, x.2) ∈ spanL q.length from hx)
      have hn : (0 : Int) < (x.2 : Int) - x.1 + 1 := by omega
      generalize (x.2 : Int) - x.1 + 1 = n at *
      generalize water C s q x.1 x.2 = w at *
      have e2 : t2 * b * n ≤ t * b2 * n := Int.mul_le_mul_of_nonneg_right (by omega) (by omega)
      have e3 : w * b * b2 ≤ t * n * b2 := by
        have a1 : w * b * b2 = w * b2 * b := by rw [Int.mul_assoc, Int.mul_comm b b2, ← Int.mul_assoc]
        have a2 : t * n * b2 = t * b2 * n := by rw [Int.mul_assoc, Int.mul_comm n b2, ← Int.mul_assoc]
        have a3 : t2 * b * n = t2 * n * b := by rw [Int.mul_assoc, Int.mul_comm b n, ← Int.mul_assoc]
        have a4 : w * b2 * b = t2 * n * b := by rw [he]
        omega
      exact le_cancel e3 hb0
  one := I.one
theorem take_snoc {α : Type} {l : List α} {i : Nat} {x : α} (h : l[i]? = some x) : l.take (i + 1) = l.take i ++ [x] := by
  obtain ⟨hl, e⟩ := List.getElem?_eq_some_iff.mp h
  rw [List.take_succ, h]
  rfl
abbrev N_peak_of : List Str := ["dam", "found", "span", "peak"]
abbrev ps_peak_of : List Str := ["dam"]
theorem sc_peak_of : FnScope N_peak_of ps_peak_of (defScope (top 31)) := ⟨rfl, rfl, rfl, by decide +kernel, rfl, by decide +kernel, by decide +kernel⟩
theorem bd_peak_of {K : PySem.W.Frag} {f : Addr} {fd : FuncData} (F : FunD K "peak_of" "peak_of" (defArgs (top 31)) (defBody (top 31)) (defScope (top 31)) [] [] f fd) : Binds K fd ps_peak_of [] := F.bindsN fun kV doc pm an cdv ct us h => by
  match us, h with
  | [u0], _ => exact (by first | rfl | with_unfolding_all rfl)
theorem ok_peak_of {P : Program} {w : World} {K : PySem.W.Frag} {mg : Str → Option Value} {base : Heap} {tC tM tF : Tok} (T : Tx K mg tC tM tF)  {f : Addr} {fd : FuncData} (D : Df K mg "peak_of" 31 f fd) (O_spans : OkF P w K mg base "spans" ps_spans 1 (spSpans)) (O_span_peak : OkF P w K mg base "span_peak" ps_span_peak 2 (spSpanPeak)) (O_less : OkF P w K mg base "less" ps_less 1 (spLess)) : OkF P w K mg base "peak_of" ps_peak_of 3 (spPeakOf) := by
  refine ⟨f, fd, D.F.ok sc_peak_of (fun vs H Q E h => ?_) (fun cdv A outer s H vs Q E hr h => ?_), D.g, D.F.kp, bd_peak_of D.F⟩
  · obtain ⟨d, C, s, e, q, rfl, _⟩ := h; rfl
  · refine ⟨_, PSs.nox (pss_cons (ps_set (i := 1) sc_peak_of.nd rfl (Or.inl rfl) (pe_tup (pa_cons pe_int (pa_cons pe_int pa_nil)))) (pss_cons (ps_for PassesOwn.never rfl (pi_list (pe_cal O_spans (hr.mono (by decide)) (by rfl) (pa_cons (pe_callB call_len_seq (by rfl) T.n_len (by decide +kernel) (pa_cons (pe_ix ix_tup (pv 0) pe_int (fun _ _ => rfl)) pa_nil)) pa_nil))) (pg_name (i := 2) sc_peak_of.nd rfl (Or.inl rfl)) (pss_cons (ps_set (i := 3) sc_peak_of.nd rfl (Or.inl rfl) (pe_cal O_span_peak (hr.mono (by decide)) (by rfl) (pa_cons (pv 0) (pa_cons (pv 2) pa_nil)))) (pss_one (ps_set (i := 1) sc_peak_of.nd rfl (Or.inl rfl) (pe_ifExp (pt_val (pe_cal O_less (hr.mono (by decide)) (by rfl) (pa_cons (pv 1) (pa_cons (pv 3) pa_nil)))) (pv 3) (pv 1)))))) (pss_one (ps_ret (pv 1))))), ?_⟩
    obtain ⟨d, C, s', e, q, rfl, hD, ok, k⟩ := h
    obtain ⟨qa, hd, hq⟩ := id hD
    refine ⟨by show 2 ≤ sizeLine; decide, fun p0 hp0 => ?_⟩
    have sm0 : Same H (upd H p0 (.tup [.int 0, .int 1])) := same_new hp0
    have hlq : (q.map V.int).length = q.length := List.length_map ..
    refine ⟨_, rfl, d, _, _, _, rfl, rfl, SqT.of (sm0 _ _ hd), atI_nat (j := 3) rfl, qa, _, rfl, .inr (SqT.of (sm0 _ _ hq)), (q.map V.int).length, rfl, by rw [hlq]; exact ok.q.2.1, fun l ads H1 sm1 hL hP => ⟨l, rfl, ⟨_, SqL.of hL⟩, ?_⟩⟩
    rw [hlq] at hP
    have hal : ads.length = (spanL q.length).length := by rw [hP.1, List.length_map]
    refine for_list (K := K) (a := l) (xs := ads.map V.ref) (fun i σ H' => ∃ (p : Addr) (t b : Int) (v2 v3 : Option V), σ = [some (.ref d), some (.ref p), v2, v3] ∧ Same H1 H' ∧ H' p = some (.tup [.int t, .int b]) ∧ PkI C s' q t b ((spanL q.length).take i))
      ⟨p0, 0, 1, _, _, rfl, Same.refl _, sm1 _ _ upd_same, by decide, by decide, by decide, by decide, fun x hx => by simp at hx, .inl rfl⟩ (fun i σ H' _ ⟨_, _, _, _, _, _, sm, _⟩ => SqL.of (sm _ _ hL)) ?_ ?_
    · rintro i x σ H' hi ⟨p, t, b, v2, v3, rfl, sm, hp, PI⟩
      obtain ⟨sp, hsp, rfl⟩ := ref_get hi
      have hil : i < (spanL q.length).length := by rw [← hal]; exact (List.getElem?_eq_some_iff.mp hsp).1
      have hg : (spanL q.length)[i]? = some (spanL q.length)[i] := List.getElem?_eq_getElem hil
      generalize (spanL q.length)[i] = pr at hg
      have hmem : pr ∈ spanL q.length := List.mem_of_getElem? hg
      have hmm := mem_span.mp (show (pr.1, pr.2) ∈ spanL q.length from hmem)
      have hst := sm _ _ (hP.2 i sp _ _ hsp (by rw [List.getElem?_map, hg]; rfl) (by rw [List.getElem?_map, hg]; rfl))
      have hD' := hD.ext (Ext.same ((sm0.trans sm1).trans sm))
      have hlmem : ∀ y ∈ (spanL q.length).take i, y ∈ spanL q.length := fun y hy => List.mem_of_mem_take hy
      refine ⟨_, rfl, _, rfl, d, sp, C, s', e, q, pr.1, pr.2, rfl, hD', ok, hst, hmm.1, hmm.2, fun p2 t2 b2 H2 sm2 hp2 hb0 hb1 ht0 ht1 heq => ?_⟩
      have t0 := PI.t0
      have t1 := PI.t1
      refine ⟨_, rfl, _, rfl, p, p2, t, b, t2, b2, rfl, sm2 _ _ hp, hp2, ⟨by omega, by omega⟩, ⟨by omega, by omega⟩, _, rfl, ite2 (fun c => ?_) (fun c => ?_)⟩
      · refine ⟨_, rfl, p2, t2, b2, _, _, rfl, sm.trans sm2, hp2, ?_⟩
        rw [take_snoc hg]
        exact pk_new PI hmem (of_decide_eq_true c) hb0 hb1 ht1 heq hlmem
      · refine ⟨_, rfl, p, t, b, _, _, rfl, sm.trans sm2, sm2 _ _ hp, ?_⟩
        rw [take_snoc hg]
        exact pk_old PI hmem (fun z => c (decide_eq_true z)) hb0 heq
    · rintro σ H' ⟨p, t, b, v2, v3, rfl, sm, hp, PI⟩
      rw [List.take_of_length_le (by rw [List.length_map, hal]; exact Nat.le_refl _)] at PI
      refine ⟨_, rfl, k p t b H' ((sm0.trans sm1).trans sm) hp ⟨PI.b0, PI.b1, PI.t0, PI.t1, fun i j h1 h2 => PI.all (i, j) (mem_span.mpr ⟨h1, h2⟩), ?_⟩⟩
      rcases PI.one with z | ⟨x, hx, he⟩
      · exact .inl z
      · have hm := mem_span.mp (show (x.1, x.2) ∈ spanL q.length from hx)
        exact .inr ⟨x.1, x.2, hm.1, hm.2, he⟩
abbrev N_least_peak : List Str := ["dam"]
abbrev ps_least_peak : List Str := ["dam"]
theorem sc_least_peak : FnScope N_least_peak ps_least_peak (defScope (top 32)) := ⟨rfl, rfl, rfl, by decide +kernel, rfl, by decide +kernel, by decide +kernel⟩
theorem bd_least_peak {K : PySem.W.Frag} {f : Addr} {fd : FuncData} (F : FunD K "least_peak" "least_peak" (defArgs (top 32)) (defBody (top 32)) (defScope (top 32)) [] [] f fd) : Binds K fd ps_least_peak [] := F.bindsN fun kV doc pm an cdv ct us h => by
  match us, h with
  | [u0], _ => exact (by first | rfl | with_unfolding_all rfl)
theorem ok_least_peak {P : Program} {w : World} {K : PySem.W.Frag} {mg : Str → Option Value} {base : Heap} {tC tM tF : Tok} (T : Tx K mg tC tM tF) {TT : List Addr} {f : Addr} {fd : FuncData} (D : Df K mg "least_peak" 32 f fd) (O_need_dam : OkF P w K mg base "need_dam" ps_need_dam 3 (spNeedDam TT)) (O_need_plans : OkF P w K mg base "need_plans" ps_need_plans 2 (spNeedPlans)) (O_peak_of : OkF P w K mg base "peak_of" ps_peak_of 3 (spPeakOf)) : OkF P w K mg base "least_peak" ps_least_peak 4 (spLeastPeak TT) := by
  refine ⟨f, fd, D.F.ok sc_least_peak (fun vs H Q E h => ?_) (fun cdv A outer s H vs Q E hr h => ?_), D.g, D.F.kp, bd_least_peak D.F⟩
  · obtain ⟨d, C, s, q, rfl, _⟩ := h; rfl
  · refine ⟨_, PSs.nox (pss_cons (ps_expr (pe_cal O_need_dam (hr.mono (by decide)) (by rfl) (pa_cons (pv 0) pa_nil))) (pss_cons (ps_expr (pe_cal O_need_plans (hr.mono (by decide)) (by rfl) (pa_cons (pv 0) pa_nil))) (pss_one (ps_ret (pe_cal O_peak_of (hr.mono (by decide)) (by rfl) (pa_cons (pv 0) pa_nil)))))), ?_⟩
    obtain ⟨d, C, s', q, rfl, hD, ok, tb, k⟩ := h
    refine ⟨_, rfl, d, C, s', 0, q, rfl, hD, ok, tb, fun H1 x1 t1 => ?_⟩
    refine ⟨_, rfl, d, C, s', q, rfl, hD.ext x1, ok, ?_⟩
    exact ⟨_, rfl, d, C, s', 0, q, rfl, hD.ext x1, ok, fun p t b H2 sm hp pk => k p t b H2 (x1.trans (Ext.same sm)) (t1.same sm) hp pk⟩
end Dw
set_option maxHeartbeats 4000000
namespace Dw
open PySem PySem.Spec PyProof.Rows L2
theorem rev_get {α : Type} {l : List α} {i : Nat} {x : α} (h : l.reverse[i]? = some x) : i < l.length ∧ l[l.length - 1 - i]? = some x := by
  have hi : i < l.length := by
    have := (List.getElem?_eq_some_iff.mp h).1
    rwa [List.length_reverse] at this
  rw [List.getElem?_reverse hi] at h
  exact ⟨hi, h⟩
theorem flood_cons {C o : Int} (q : List Int) : ∃ h t, flood C o q = h :: t ∧ (flood C o q).headD none = h := by
  cases q with
  | nil => exact ⟨_, _, rfl, rfl⟩
  | cons a r => exact ⟨_, _, rfl, rfl⟩
theorem fill_cons {C o : Int} (q : List (Int × Int)) : ∃ h t, fill C o q = h :: t ∧ (fill C o q).headD none = h := by
  cases q with
  | nil => exact ⟨_, _, rfl, rfl⟩
  | cons a r => exact ⟨_, _, rfl, rfl⟩
theorem flood_len {C o : Int} (q : List Int) : (flood C o q).length = q.length + 1 := by
  induction q with
  | nil => rfl
  | cons a r ih => simp [flood, ih]
theorem fill_len {C o : Int} (q : List (Int × Int)) : (fill C o q).length = q.length + 1 := by
  induction q with
  | nil => rfl
  | cons a r ih => simp [fill, ih]
theorem drop_step {α : Type} {l : List α} {k : Nat} {x : α} (h : l[k]? = some x) : l.drop k = x :: l.drop (k + 1) := by
  obtain ⟨hl, e⟩ := List.getElem?_eq_some_iff.mp h
  rw [List.drop_eq_getElem_cons hl, e]
theorem opt_dec (h : Option Int) : decide (optV h = V.non) = h.isNone := by
  cases h with
  | none => rfl
  | some x => rfl
abbrev N_flood_curve : List Str := ["capacity", "outlet", "inflows", "found", "inflow", "last", "level"]
abbrev ps_flood_curve : List Str := ["capacity", "outlet", "inflows"]
theorem sc_flood_curve : FnScope N_flood_curve ps_flood_curve (defScope (top 27)) := ⟨rfl, rfl, rfl, by decide +kernel, rfl, by decide +kernel, by decide +kernel⟩
theorem bd_flood_curve {K : PySem.W.Frag} {f : Addr} {fd : FuncData} (F : FunD K "flood_curve" "flood_curve" (defArgs (top 27)) (defBody (top 27)) (defScope (top 27)) [] [] f fd) : Binds K fd ps_flood_curve [] := F.bindsN fun kV doc pm an cdv ct us h => by
  match us, h with
  | [u0, u1, u2], _ => exact (by first | rfl | with_unfolding_all rfl)
theorem ok_flood_curve {P : Program} {w : World} {K : PySem.W.Frag} {mg : Str → Option Value} {base : Heap} {tC tM tF : Tok} (T : Tx K mg tC tM tF) {TT : List Addr} {f : Addr} {fd : FuncData} (D : Df K mg "flood_curve" 27 f fd) (O_is_in : OkF P w K mg base "is_in" ps_is_in 1 (spIsIn)) (O_need_inflows : OkF P w K mg base "need_inflows" ps_need_inflows 3 (spNeedInflows TT)) : OkF P w K mg base "flood_curve" ps_flood_curve 4 (spFlood TT) := by
  refine ⟨f, fd, D.F.ok sc_flood_curve (fun vs H Q E h => ?_) (fun cdv A outer s H vs Q E hr h => ?_), D.g, D.F.kp, bd_flood_curve D.F⟩
  · obtain ⟨C, o, a, q, rfl, _⟩ := h; rfl
  · refine ⟨_, PSs.nox (pss_cons (ps_if (PW.pt (pw_or (pt_not (pt_val (pe_cal O_is_in (hr.mono (by decide)) (by rfl) (pa_cons (pv 0) (pa_cons pe_int (pa_cons (pe_glob (v := .int 1000) (by rfl) T.cap ⟨_, rfl⟩) pa_nil)))))) (pw_or1 (pt_not (pt_val (pe_cal O_is_in (hr.mono (by decide)) (by rfl) (pa_cons (pv 1) (pa_cons pe_int (pa_cons (pe_glob (v := .int 1000) (by rfl) T.cap ⟨_, rfl⟩) pa_nil))))))))) pss_never pss_nil) (pss_cons (ps_expr (pe_cal O_need_inflows (hr.mono (by decide)) (by rfl) (pa_cons (pv 2) pa_nil))) (pss_cons (ps_set (i := 3) sc_flood_curve.nd rfl (Or.inl rfl) (pe_lst (pa_cons (pv 0) pa_nil))) (pss_cons (ps_for PassesOwn.never rfl (pi_tup (pe_revT (pv 2))) (pg_name (i := 4) sc_flood_curve.nd rfl (Or.inl rfl)) (pss_cons (ps_set (i := 5) sc_flood_curve.nd rfl (Or.inl rfl) (pe_ix ix_list (pv 3) pe_int (fun _ _ => rfl))) (pss_cons (ps_set (i := 6) sc_flood_curve.nd rfl (Or.inl rfl) (pe_ifExp (pt_cmpR op_isN (pv 5) pe_non (nomark _)) pe_non (pe_callB (call_min2 rfl) (by rfl) T.n_min (by decide +kernel) (pa_cons (pv 0) (pa_cons (pe_op op_sub (pe_op op_add (pv 5) (pv 1)) (pv 4)) pa_nil))))) (pss_one (ps_set (i := 3) sc_flood_curve.nd rfl (Or.inl rfl) (pe_lst (pa_cons (pe_ifExp (PW.pt (pw_or (pt_cmpR op_isN (pv 6) pe_non (nomark _)) (pw_or1 (pt_cmpR op_lt (pv 6) pe_int (nomark _))))) pe_non (pv 6)) (StX.pa_star (pv 3) pa_nil)))))))) (pss_one (ps_ret (pe_callTy call_tuple_of (by rfl) T.n_tuple (by decide +kernel) (pa_cons (pv 3) pa_nil)))))))), ?_⟩
    obtain ⟨C, o, a, q, rfl, c0, c1, o0, o1, ha, ok, tb, k⟩ := h
    have l12 := ok.2.1
    refine ⟨_, rfl, C, 0, 1000, rfl, c0, c1, _, rfl, if_false_of rfl ?_⟩
    refine ⟨_, rfl, o, 0, 1000, rfl, o0, o1, _, rfl, if_false_of rfl ?_⟩
    refine ⟨_, rfl, a, q, rfl, ha, ok, tb, fun H1 x1 t1 => ?_⟩
    refine ⟨_, rfl, by show 1 ≤ sizeLine; decide, fun l0 hl0 => ?_⟩
    have sm1 : Same H1 (upd H1 l0 (.lst [.int C])) := same_new hl0
    refine ⟨_, rfl, a, _, rfl, SqT.of (sm1 _ _ (x1 _ _ ha rfl)), fun p hp => ⟨p, rfl, ⟨_, SqT.of upd_same⟩, ?_⟩⟩
    have sm2 : Same H1 (upd (upd H1 l0 (.lst [.int C])) p (.tup (q.map V.int).reverse)) := sm1.trans (same_new hp)
    have hn : (q.map V.int).reverse.length = q.length := by rw [List.length_reverse, List.length_map]
    refine for_tup (K := K) (a := p) (xs := (q.map V.int).reverse) (fun i σ H' => ∃ (l : Addr) (v4 v5 v6 : Option V), σ = [some (.int C), some (.int o), some (.ref a), some (.ref l), v4, v5, v6] ∧ Same (upd (upd H1 l0 (.lst [.int C])) p (.tup (q.map V.int).reverse)) H' ∧ H' l = some (.lst ((flood C o (q.drop (q.length - i))).map optV)))
      ⟨l0, _, _, _, rfl, Same.refl _, ?_⟩ (fun i σ H' _ ⟨_, _, _, _, _, sm, _⟩ => SqT.of (sm _ _ upd_same)) ?_ ?_
    · have e : q.drop (q.length - 0) = [] := List.drop_of_length_le (by omega)
      rw [e]
      exact (same_new hp) _ _ upd_same
    · rintro i x σ H' hi ⟨l, v4, v5, v6, rfl, sm, hL⟩
      obtain ⟨hi1, hi2⟩ := rev_get hi
      rw [List.length_map] at hi1 hi2
      obtain ⟨z, hz, rfl⟩ := int_get hi2
      have ed := drop_step hz
      rw [show q.length - 1 - i + 1 = q.length - i by omega] at ed
      rw [show q.length - 1 - i = q.length - (i + 1) by omega] at ed
      obtain ⟨h, t, htl, hhd⟩ := flood_cons (C := C) (o := o) (q.drop (q.length - i))
      have hstep : flood C o (q.drop (q.length - (i + 1))) = flStep C o z h :: flood C o (q.drop (q.length - i)) := by
        rw [ed]
        show flStep C o z ((flood C o (q.drop (q.length - i))).headD none) :: _ = _
        rw [hhd]
      have h0 : ((flood C o (q.drop (q.length - i))).map optV)[0]? = some (optV h) := by rw [htl]; rfl
      refine ⟨_, rfl, l, _, _, _, rfl, rfl, SqL.of hL, atI_nat (j := 0) h0, ?_⟩
      refine ⟨_, rfl, rfl, _, rfl, ?_⟩
      cases h with
      | none =>
        refine if_true_of (decide_eq_true rfl) ?_
        refine ⟨_, rfl, rfl, _, rfl, if_true_of (decide_eq_true rfl) (if_true_of rfl ?_)⟩
        refine ⟨_, rfl, l, _, rfl, .inr (SqL.of hL), ?_, fun l2 hl2 => ⟨l2, _, _, _, rfl, sm.trans (same_new hl2), ?_⟩⟩
        · show (_ :: (_ ++ [])).length ≤ sizeLine
          rw [List.length_cons, List.append_nil, List.length_map, flood_len, List.length_drop]
          exact Nat.le_of_lt (small1000 (by omega))
        · rw [upd_same, hstep, htl]
          show some (HO.lst (_ :: (_ ++ []))) = some (HO.lst (_ :: _))
          rw [List.append_nil]
          rfl
      | some y =>
        refine if_false_of (decide_eq_false (fun z => by cases z)) ?_
        refine ⟨_, rfl, _, rfl, _, rfl, _, _, rfl, rfl, _, rfl, _, _, rfl, rfl, _, _, rfl, ?_⟩
        refine ⟨_, rfl, rfl, _, rfl, if_false_of (decide_eq_false (fun z => by cases z)) ?_⟩
        refine ⟨_, rfl, _, _, rfl, rfl, _, rfl, ?_⟩
        by_cases c : min2 C (y + o - z) < 0
        · have hst : flStep C o z (some y) = none := if_pos c
          rw [hst] at hstep
          refine if_true_of (decide_eq_true c) ?_
          refine ⟨_, rfl, l, _, rfl, .inr (SqL.of hL), ?_, fun l2 hl2 => ⟨l2, _, _, _, rfl, sm.trans (same_new hl2), ?_⟩⟩
          · show (_ :: (_ ++ [])).length ≤ sizeLine
            rw [List.length_cons, List.append_nil, List.length_map, flood_len, List.length_drop]
            exact Nat.le_of_lt (small1000 (by omega))
          · rw [upd_same, hstep, htl]
            show some (HO.lst (_ :: (_ ++ []))) = some (HO.lst (_ :: _))
            rw [List.append_nil]
            rfl
        · have hst : flStep C o z (some y) = some (min2 C (y + o - z)) := if_neg c
          rw [hst] at hstep
          refine if_false_of (decide_eq_false c) ?_
          refine ⟨_, rfl, ?_⟩
          refine ⟨_, rfl, l, _, rfl, .inr (SqL.of hL), ?_, fun l2 hl2 => ⟨l2, _, _, _, rfl, sm.trans (same_new hl2), ?_⟩⟩
          · show (_ :: (_ ++ [])).length ≤ sizeLine
            rw [List.length_cons, List.append_nil, List.length_map, flood_len, List.length_drop]
            exact Nat.le_of_lt (small1000 (by omega))
          · rw [upd_same, hstep, htl]
            show some (HO.lst (_ :: (_ ++ []))) = some (HO.lst (_ :: _))
            rw [List.append_nil]
            rfl
    · rintro σ H' ⟨l, v4, v5, v6, rfl, sm, hL⟩
      rw [hn, Nat.sub_self, List.drop_zero] at hL
      refine ⟨_, rfl, l, _, rfl, .inl ⟨SqL.of hL, fun t ht => ?_⟩⟩
      have sm3 : Same H1 (upd H' t (.tup ((flood C o q).map optV))) := (sm2.trans sm).trans (same_new ht)
      exact k t _ (x1.trans (Ext.same sm3)) (t1.same sm3) upd_same
abbrev N_fill_curve : List Str := ["dam", "demands", "found", "inflow", "demand", "last", "level"]
abbrev ps_fill_curve : List Str := ["dam", "demands"]
theorem sc_fill_curve : FnScope N_fill_curve ps_fill_curve (defScope (top 28)) := ⟨rfl, rfl, rfl, by decide +kernel, rfl, by decide +kernel, by decide +kernel⟩
theorem bd_fill_curve {K : PySem.W.Frag} {f : Addr} {fd : FuncData} (F : FunD K "fill_curve" "fill_curve" (defArgs (top 28)) (defBody (top 28)) (defScope (top 28)) [] [] f fd) : Binds K fd ps_fill_curve [] := F.bindsN fun kV doc pm an cdv ct us h => by
  match us, h with
  | [u0, u1], _ => exact (by first | rfl | with_unfolding_all rfl)
theorem ok_fill_curve {P : Program} {w : World} {K : PySem.W.Frag} {mg : Str → Option Value} {base : Heap} {tC tM tF : Tok} (T : Tx K mg tC tM tF) {TT : List Addr} {f : Addr} {fd : FuncData} (D : Df K mg "fill_curve" 28 f fd) (O_need_dam : OkF P w K mg base "need_dam" ps_need_dam 3 (spNeedDam TT)) (O_need_demands : OkF P w K mg base "need_demands" ps_need_demands 3 (spNeedDemands TT)) : OkF P w K mg base "fill_curve" ps_fill_curve 4 (spFill TT) := by
  refine ⟨f, fd, D.F.ok sc_fill_curve (fun vs H Q E h => ?_) (fun cdv A outer s H vs Q E hr h => ?_), D.g, D.F.kp, bd_fill_curve D.F⟩
  · obtain ⟨d, a, C, s, e, q, ds, rfl, _⟩ := h; rfl
  · refine ⟨_, PSs.nox (pss_cons (ps_expr (pe_cal O_need_dam (hr.mono (by decide)) (by rfl) (pa_cons (pv 0) pa_nil))) (pss_cons (ps_expr (pe_cal O_need_demands (hr.mono (by decide)) (by rfl) (pa_cons (pe_callB call_len_seq (by rfl) T.n_len (by decide +kernel) (pa_cons (pe_ix ix_tup (pv 0) pe_int (fun _ _ => rfl)) pa_nil)) (pa_cons (pv 1) pa_nil)))) (pss_cons (ps_set (i := 2) sc_fill_curve.nd rfl (Or.inl rfl) (pe_lst (pa_cons (pe_ix ix_tup (pv 0) pe_int (fun _ _ => rfl)) pa_nil))) (pss_cons (ps_for PassesOwn.never rfl (pi_list (pe_revL (pe_listZip rfl (by rfl) T.n_list (by rfl) T.n_zip (pa_cons (pe_ix ix_tup (pv 0) pe_int (fun _ _ => rfl)) (pa_cons (pv 1) pa_nil))))) (pg_tup rfl (pgs_cons (pg_name (i := 3) sc_fill_curve.nd rfl (Or.inl rfl)) (pgs_cons (pg_name (i := 4) sc_fill_curve.nd rfl (Or.inl rfl)) pgs_nil))) (pss_cons (ps_set (i := 5) sc_fill_curve.nd rfl (Or.inl rfl) (pe_ix ix_list (pv 2) pe_int (fun _ _ => rfl))) (pss_cons (ps_set (i := 6) sc_fill_curve.nd rfl (Or.inl rfl) (pe_ifExp (pt_cmpR op_isN (pv 5) pe_non (nomark _)) pe_non (pe_callB (call_max2 rfl) (by rfl) T.n_max (by decide +kernel) (pa_cons pe_int (pa_cons (pe_op op_sub (pe_op op_add (pv 5) (pv 4)) (pv 3)) pa_nil))))) (pss_one (ps_set (i := 2) sc_fill_curve.nd rfl (Or.inl rfl) (pe_lst (pa_cons (pe_ifExp (PW.pt (pw_or (pt_cmpR op_isN (pv 6) pe_non (nomark _)) (pw_or1 (pt_cmpR op_gt (pv 6) (pe_ix ix_tup (pv 0) pe_int (fun _ _ => rfl)) (nomark _))))) pe_non (pv 6)) (StX.pa_star (pv 2) pa_nil)))))))) (pss_one (ps_ret (pe_callTy call_tuple_of (by rfl) T.n_tuple (by decide +kernel) (pa_cons (pv 2) pa_nil)))))))), ?_⟩
    obtain ⟨d, a, C, s', e, q, ds, rfl, hD, ok, ha, okd, hl, tb, k⟩ := h
    have l12 := ok.q.2.1
    refine ⟨_, rfl, d, C, s', e, q, rfl, hD, ok, tb, fun H0 x0 t0 => ?_⟩
    obtain ⟨qa, hd0, hq0⟩ := hD.ext x0
    refine ⟨_, rfl, d, _, _, _, rfl, rfl, SqT.of hd0, atI_nat (j := 3) rfl, qa, _, rfl, .inr (SqT.of hq0), _, rfl, a, ds, ?_, x0 _ _ ha rfl, okd, t0, fun H1 x1' t1 => ?_⟩
    · show [V.int ((q.map V.int).length : Int), V.ref a] = [V.int (ds.length : Int), V.ref a]
      rw [List.length_map, hl]
    have x1 := x0.trans x1'
    have hd := x1 _ _ (show H d = some (.tup [.int C, .int s', .int e, .ref qa]) by
      obtain ⟨qb, h1, h2⟩ := hD
      have h3 := x0 _ _ h1 rfl
      rw [hd0] at h3
      rw [h1]
      exact h3.symm) rfl
    have hq := x1' _ _ hq0 rfl
    have ha1 := x1 _ _ ha rfl
    refine ⟨_, rfl, d, _, _, _, rfl, rfl, SqT.of hd, atI_nat (j := 2) rfl, by show 1 ≤ sizeLine; decide, fun l0 hl0 => ?_⟩
    have sm1 : Same H1 (upd H1 l0 (.lst [.int e])) := same_new hl0
    refine ⟨_, rfl, d, _, _, _, rfl, rfl, SqT.of (sm1 _ _ hd), atI_nat (j := 3) rfl, _, rfl, qa, a, _, _, rfl, SqT.of (sm1 _ _ hq), SqT.of (sm1 _ _ ha1), by rw [List.length_map, List.length_map, hl], fun S ads H2 smS hS hP => ?_⟩
    refine ⟨S, _, rfl, SqL.of hS, fun p hp => ⟨p, rfl, ⟨_, SqL.of upd_same⟩, ?_⟩⟩
    have sm2 : Same H1 (upd H2 p (.lst (ads.map V.ref).reverse)) := (sm1.trans smS).trans (same_new hp)
    have hal : ads.length = q.length := by rw [hP.1, List.length_map]
    have hn : (ads.map V.ref).reverse.length = q.length := by rw [List.length_reverse, List.length_map, hal]
    have hzl : (q.zip ds).length = q.length := by rw [List.length_zip]; omega
    refine for_list (K := K) (a := p) (xs := (ads.map V.ref).reverse) (fun i σ H' => ∃ (l : Addr) (v3 v4 v5 v6 : Option V), σ = [some (.ref d), some (.ref a), some (.ref l), v3, v4, v5, v6] ∧ Same (upd H2 p (.lst (ads.map V.ref).reverse)) H' ∧ H' l = some (.lst ((fill C e ((q.zip ds).drop (q.length - i))).map optV)))
      ⟨l0, _, _, _, _, rfl, Same.refl _, ?_⟩ (fun i σ H' _ ⟨_, _, _, _, _, _, sm, _⟩ => SqL.of (sm _ _ upd_same)) ?_ ?_
    · have e0 : (q.zip ds).drop (q.length - 0) = [] := List.drop_of_length_le (by omega)
      rw [e0]
      exact (same_new hp) _ _ (smS _ _ upd_same)
    · rintro i x σ H' hi ⟨l, v3, v4, v5, v6, rfl, sm, hL⟩
      obtain ⟨hi1, hi2⟩ := rev_get hi
      rw [List.length_map, hal] at hi1 hi2
      obtain ⟨pr, hpr, rfl⟩ := ref_get hi2
      have hiq : q.length - 1 - i < q.length := by omega
      have hid : q.length - 1 - i < ds.length := by omega
      have gq := List.getElem?_eq_getElem hiq
      have gd := List.getElem?_eq_getElem hid
      generalize q[q.length - 1 - i] = z at gq
      generalize ds[q.length - 1 - i] = w' at gd
      have hpt := sm _ _ ((same_new hp) _ _ (hP.2 _ pr _ _ hpr (by rw [List.getElem?_map, gq]; rfl) (by rw [List.getElem?_map, gd]; rfl)))
      have hd' := (sm2.trans sm) _ _ hd
      have ed := zip_drop gq gd
      rw [show q.length - 1 - i + 1 = q.length - i by omega] at ed
      rw [show q.length - 1 - i = q.length - (i + 1) by omega] at ed
      obtain ⟨h, t, htl, hhd⟩ := fill_cons (C := C) (o := e) ((q.zip ds).drop (q.length - i))
      have hstep : fill C e ((q.zip ds).drop (q.length - (i + 1))) = fiStep C z w' h :: fill C e ((q.zip ds).drop (q.length - i)) := by
        rw [ed]
        show fiStep C z w' ((fill C e ((q.zip ds).drop (q.length - i))).headD none) :: _ = _
        rw [hhd]
      have h0 : ((fill C e ((q.zip ds).drop (q.length - i))).map optV)[0]? = some (optV h) := by rw [htl]; rfl
      refine ⟨pr, _, rfl, SqT.of hpt, rfl, _, _, rfl, _, _, rfl, rfl, ?_⟩
      refine ⟨_, rfl, l, _, _, _, rfl, rfl, SqL.of hL, atI_nat (j := 0) h0, ?_⟩
      refine ⟨_, rfl, rfl, _, rfl, ?_⟩
      cases h with
      | none =>
        refine if_true_of (decide_eq_true rfl) ?_
        refine ⟨_, rfl, rfl, _, rfl, if_true_of (decide_eq_true rfl) (if_true_of rfl ?_)⟩
        refine ⟨_, rfl, l, _, rfl, .inr (SqL.of hL), ?_, fun l2 hl2 => ⟨l2, _, _, _, _, rfl, sm.trans (same_new hl2), ?_⟩⟩
        · show (_ :: (_ ++ [])).length ≤ sizeLine
          rw [List.length_cons, List.append_nil, List.length_map, fill_len, List.length_drop, hzl]
          exact Nat.le_of_lt (small1000 (by omega))
        · rw [upd_same, hstep, htl]
          show some (HO.lst (_ :: (_ ++ []))) = some (HO.lst (_ :: _))
          rw [List.append_nil]
          rfl
      | some y =>
        refine if_false_of (decide_eq_false (fun z => by cases z)) ?_
        refine ⟨_, rfl, _, rfl, _, _, rfl, rfl, _, rfl, _, _, rfl, rfl, _, _, rfl, ?_⟩
        refine ⟨_, rfl, rfl, _, rfl, if_false_of (decide_eq_false (fun z => by cases z)) ?_⟩
        refine ⟨_, rfl, _, rfl, d, _, _, _, rfl, rfl, SqT.of hd', atI_nat (j := 0) rfl, _, _, rfl, rfl, _, rfl, ?_⟩
        by_cases c : max2 0 (y + w' - z) > C
        · have hst : fiStep C z w' (some y) = none := if_pos c
          rw [hst] at hstep
          refine if_true_of (decide_eq_true c) ?_
          refine ⟨_, rfl, l, _, rfl, .inr (SqL.of hL), ?_, fun l2 hl2 => ⟨l2, _, _, _, _, rfl, sm.trans (same_new hl2), ?_⟩⟩
          · show (_ :: (_ ++ [])).length ≤ sizeLine
            rw [List.length_cons, List.append_nil, List.length_map, fill_len, List.length_drop, hzl]
            exact Nat.le_of_lt (small1000 (by omega))
          · rw [upd_same, hstep, htl]
            show some (HO.lst (_ :: (_ ++ []))) = some (HO.lst (_ :: _))
            rw [List.append_nil]
            rfl
        · have hst : fiStep C z w' (some y) = some (max2 0 (y + w' - z)) := if_neg c
          rw [hst] at hstep
          refine if_false_of (decide_eq_false c) ?_
          refine ⟨_, rfl, ?_⟩
          refine ⟨_, rfl, l, _, rfl, .inr (SqL.of hL), ?_, fun l2 hl2 => ⟨l2, _, _, _, _, rfl, sm.trans (same_new hl2), ?_⟩⟩
          · show (_ :: (_ ++ [])).length ≤ sizeLine
            rw [List.length_cons, List.append_nil, List.length_map, fill_len, List.length_drop, hzl]
            exact Nat.le_of_lt (small1000 (by omega))
          · rw [upd_same, hstep, htl]
            show some (HO.lst (_ :: (_ ++ []))) = some (HO.lst (_ :: _))
            rw [List.append_nil]
            rfl
    · rintro σ H' ⟨l, v3, v4, v5, v6, rfl, sm, hL⟩
      rw [hn, Nat.sub_self, List.drop_zero] at hL
      refine ⟨_, rfl, l, _, rfl, .inl ⟨SqL.of hL, fun t ht => ?_⟩⟩
      have sm3 : Same H1 (upd H' t (.tup ((fill C e (q.zip ds)).map optV))) := (sm2.trans sm).trans (same_new ht)
      exact k t _ (x1.trans (Ext.same sm3)) (t1.same sm3) upd_same
end Dw
set_option maxHeartbeats 4000000
namespace Dw
open PySem PySem.Spec PyProof.Rows L2
theorem dr_new {S : Sc} {H : Hp} {r l : Addr} {o : HO} (h : RowOk S H r) (hl : H l = none) : Dr S r H (upd H l o) := Dr.same h (same_new hl)
theorem row_ne {S : Sc} {H : Hp} {r l : Addr} (h : RowOk S H r) (hl : H l = none) : l ≠ r := fun z => by
  obtain ⟨_, _, _, q, _⟩ := h
  rw [z, q] at hl
  cases hl
theorem mod_ok {x m : Int} (hm : 0 < m) : 0 ≤ x % m ∧ x % m < m := ⟨Int.emod_nonneg _ (by omega), Int.emod_lt_of_pos _ hm⟩
abbrev N__law_taken : List Str := ["_law_row", "_law_many", "_law_found", "_law_cell"]
abbrev ps__law_taken : List Str := ["_law_row", "_law_many"]
theorem sc__law_taken : FnScope N__law_taken ps__law_taken (defScope (top 37)) := ⟨rfl, rfl, rfl, by decide +kernel, rfl, by decide +kernel, by decide +kernel⟩
theorem bd__law_taken {K : PySem.W.Frag} {f : Addr} {fd : FuncData} (F : FunD K "_law_taken" "_law_taken" (defArgs (top 37)) (defBody (top 37)) (defScope (top 37)) [] [] f fd) : Binds K fd ps__law_taken [] := F.bindsN fun kV doc pm an cdv ct us h => by
  match us, h with
  | [u0, u1], _ => exact (by first | rfl | with_unfolding_all rfl)
theorem ok__law_taken {P : Program} {w : World} {K : PySem.W.Frag} {mg : Str → Option Value} {base : Heap} {tC tM tF : Tok} (T : Tx K mg tC tM tF) {sc : Addr} {ns : List Int} {f : Addr} {fd : FuncData} (D : Df K mg "_law_taken" 37 f fd)  : OkF P w K mg base "_law_taken" ps__law_taken 1 (spTaken ⟨K, sc, ns⟩) := by
  refine ⟨f, fd, D.F.ok sc__law_taken (fun vs H Q E h => ?_) (fun cdv A outer s H vs Q E hr h => ?_), D.g, D.F.kp, bd__law_taken D.F⟩
  · obtain ⟨r, m, rfl, _⟩ := h; rfl
  · refine ⟨_, PSs.nox (pss_cons (ps_if (pt_cmpR op_gt (pe_ix ix_list (pv 0) pe_int (fun _ _ => rfl)) pe_int (nomark _)) (pss_cons (ps_set (i := 2) sc__law_taken.nd rfl (Or.inl rfl) (pe_op op_mod (pe_callTy call_int1 (by rfl) T.n_int (by decide +kernel) (pa_cons (pe_ix ix_list (pv 0) pe_int (fun _ _ => rfl)) pa_nil)) (pv 1))) (pss_cons (ps_asg (pe_op op_fdiv (pe_ix ix_list (pv 0) pe_int (fun _ _ => rfl)) (pv 1)) (pg_sub (pv 0) pe_int set_list)) (pss_one (ps_ret (pv 2))))) pss_nil) (pss_cons (ps_asg (pe_op op_add (pe_ix ix_list (pv 0) pe_int (fun _ _ => rfl)) pe_int) (pg_sub (pv 0) pe_int set_list)) (pss_cons (ps_if (pt_cmpR op_gt (pe_ix ix_list (pv 0) pe_int (fun _ _ => rfl)) (pe_callB call_len_seq (by rfl) T.n_len (by decide +kernel) (pa_cons (pe_ix ix_list (pv 0) pe_int (fun _ _ => rfl)) pa_nil)) (nomark _)) (pss_cons (ps_asg (pe_op op_mod (pe_callTy call_int1 (by rfl) T.n_int (by decide +kernel) (pa_cons (pe_op op_add (pe_op op_mul (pe_ix ix_list (pv 0) pe_int (fun _ _ => rfl)) pe_int) pe_int) pa_nil)) pe_int) (pg_sub (pv 0) pe_int set_list)) (pss_one (ps_ret (pe_op op_mod (pe_callTy call_int1 (by rfl) T.n_int (by decide +kernel) (pa_cons (pe_op op_fdiv (pe_ix ix_list (pv 0) pe_int (fun _ _ => rfl)) pe_int) pa_nil)) (pv 1))))) pss_nil) (pss_cons (ps_set (i := 3) sc__law_taken.nd rfl (Or.inl rfl) (pe_ix ix_list (pe_ix ix_list (pv 0) pe_int (fun _ _ => rfl)) (pe_op op_sub (pe_ix ix_list (pv 0) pe_int (fun _ _ => rfl)) pe_int) (fun _ _ => rfl))) (pss_cons (ps_asg (pe_op op_mod (pe_callTy call_int1 (by rfl) T.n_int (by decide +kernel) (pa_cons (pe_op op_add (pe_op op_add (pe_op op_mul (pe_ix ix_list (pv 0) pe_int (fun _ _ => rfl)) pe_int) (pv 3)) pe_int) pa_nil)) pe_int) (pg_sub (pv 0) pe_int set_list)) (pss_cons (ps_if (pt_cmpR op_ge (pv 3) (pe_op op_pow pe_int pe_int) (nomark _)) (pss_one (ps_asg (pe_op op_fdiv (pv 3) (pv 1)) (pg_sub (pv 0) pe_int set_list))) pss_nil) (pss_one (ps_ret (pe_op op_mod (pe_callTy call_int1 (by rfl) T.n_int (by decide +kernel) (pa_cons (pv 3) pa_nil)) (pv 1)))))))))), ?_⟩
    obtain ⟨r, m, rfl, ⟨a, b, c, hR, hsc, a0, c0⟩, m0, m1, k⟩ := h
    refine ⟨_, rfl, r, _, _, _, rfl, rfl, SqL.of hR, atI_nat (j := 3) rfl, _, _, rfl, rfl, _, rfl, ite2 (fun cc => ?_) (fun cc => ?_)⟩
    · refine ⟨_, rfl, r, _, _, _, rfl, rfl, SqL.of hR, atI_nat (j := 3) rfl, .inl ⟨_, rfl, _, rfl, _, _, rfl, rfl, m0, ?_⟩⟩
      refine ⟨_, rfl, r, _, _, _, rfl, rfl, SqL.of hR, atI_nat (j := 3) rfl, _, rfl, _, _, rfl, rfl, ⟨m0, Int.lt_trans m1 (by decide)⟩, ?_⟩
      refine ⟨_, rfl, r, _, 3, 3, rfl, rfl, hR, rfl, ?_⟩
      refine ⟨_, rfl, k _ _ (mod_ok m0).1 (mod_ok m0).2 ⟨fun x o n h => by rw [upd_ne n]; exact h, a, b, c / m, upd_same, row_sc hR hsc, a0, Int.ediv_nonneg c0 (by omega)⟩⟩
    · refine ⟨_, rfl, r, _, _, _, rfl, rfl, SqL.of hR, atI_nat (j := 1) rfl, _, _, rfl, rfl, _, rfl, r, _, 1, 1, rfl, rfl, hR, rfl, ?_⟩
      have h1 : upd H r (.lst [.ref sc, .int (a + 1), .int b, .int c]) r = some (.lst [.ref sc, .int (a + 1), .int b, .int c]) := upd_same
      have s1 : SqL K (upd H r (.lst [.ref sc, .int (a + 1), .int b, .int c])) sc (ns.map V.int) := row_sc hR hsc
      have n1 : ∀ x o, x ≠ r → H x = some o → upd H r (.lst [.ref sc, .int (a + 1), .int b, .int c]) x = some o := fun x o n h => by rw [upd_ne n]; exact h
      show (tSeq _ _) _ _ (upd H r (.lst [.ref sc, .int (a + 1), .int b, .int c]))
      generalize upd H r (.lst [.ref sc, .int (a + 1), .int b, .int c]) = H1 at h1 s1 n1
      have hl : ((ns.map V.int).length : Int) = (ns.length : Int) := by rw [List.length_map]
      refine ⟨_, rfl, r, _, _, _, rfl, rfl, SqL.of h1, atI_nat (j := 1) rfl, _, rfl, r, _, _, _, rfl, rfl, SqL.of h1, atI_nat (j := 0) rfl, sc, _, rfl, .inl s1, _, _, rfl, rfl, _, rfl, ite2 (fun c2 => ?_) (fun c2 => ?_)⟩
      · refine ⟨_, rfl, r, _, _, _, rfl, rfl, SqL.of h1, atI_nat (j := 2) rfl, _, _, rfl, rfl, .inr ⟨by decide, by decide⟩, _, _, rfl, rfl, .inl ⟨_, rfl, _, _, rfl, rfl, (show (0 : Int) < 2147483647 by decide), ?_⟩⟩
        refine ⟨_, rfl, r, _, 2, 2, rfl, rfl, h1, rfl, ?_⟩
        refine ⟨_, rfl, r, _, _, _, rfl, rfl, SqL.of upd_same, atI_nat (j := 2) rfl, _, _, rfl, rfl, ⟨by decide, by decide⟩, .inl ⟨_, rfl, _, rfl, _, _, rfl, rfl, m0, ?_⟩⟩
        exact k _ _ (mod_ok m0).1 (mod_ok m0).2 ⟨fun x o n h => by rw [upd_ne n]; exact n1 x o n h, a + 1, _, c, upd_same, row_sc h1 s1, by omega, c0⟩
      · have hlt : a + 1 ≤ (ns.length : Int) := by
          have q : ¬ (((ns.map V.int).length : Int) < a + 1) := fun z => c2 (decide_eq_true z)
          omega
        have hz : ns[a.toNat]? = some (ns[a.toNat]'(by omega)) := List.getElem?_eq_getElem (by omega)
        generalize ns[a.toNat]'(by omega) = z at hz
        have hat : atI (ns.map V.int) (a + 1 - 1) = some (.int z) := by
          rw [show a + 1 - 1 = ((a.toNat : Nat) : Int) by omega]
          exact atI_nat (by rw [List.getElem?_map, hz]; rfl)
        refine ⟨_, rfl, r, _, _, _, rfl, rfl, SqL.of h1, atI_nat (j := 0) rfl, _, rfl, r, _, _, _, rfl, rfl, SqL.of h1, atI_nat (j := 1) rfl, _, _, rfl, rfl, sc, _, _, _, rfl, rfl, s1, hat, ?_⟩
        refine ⟨_, rfl, r, _, _, _, rfl, rfl, SqL.of h1, atI_nat (j := 2) rfl, _, _, rfl, rfl, .inr ⟨by decide, by decide⟩, _, rfl, _, _, rfl, rfl, _, _, rfl, rfl, .inl ⟨_, rfl, _, _, rfl, rfl, (show (0 : Int) < 2147483647 by decide), ?_⟩⟩
        refine ⟨_, rfl, r, _, 2, 2, rfl, rfl, h1, rfl, ?_⟩
        refine ⟨_, rfl, _, _, rfl, rfl, ⟨by decide, by decide, by decide⟩, _, _, rfl, rfl, _, rfl, ite2 (fun c3 => ?_) (fun c3 => ?_)⟩
        · have z0 : 0 ≤ z := by
            have q : (10 : Int) ^ (18 : Int).toNat ≤ z := of_decide_eq_true c3
            have q2 : (0 : Int) ≤ 10 ^ (18 : Int).toNat := by decide
            omega
          refine ⟨_, rfl, _, rfl, _, _, rfl, rfl, ⟨m0, Int.lt_trans m1 (by decide)⟩, ?_⟩
          refine ⟨_, rfl, r, _, 3, 3, rfl, rfl, upd_same, rfl, ?_⟩
          refine ⟨_, rfl, .inl ⟨_, rfl, _, rfl, _, _, rfl, rfl, m0, ?_⟩⟩
          exact k _ _ (mod_ok m0).1 (mod_ok m0).2 ⟨fun x o n h => by rw [upd_ne n, upd_ne n]; exact n1 x o n h, a + 1, _, z / m, upd_same, row_sc upd_same (row_sc h1 s1), by omega, Int.ediv_nonneg z0 (by omega)⟩
        · refine ⟨_, rfl, .inl ⟨_, rfl, _, rfl, _, _, rfl, rfl, m0, ?_⟩⟩
          exact k _ _ (mod_ok m0).1 (mod_ok m0).2 ⟨fun x o n h => by rw [upd_ne n]; exact n1 x o n h, a + 1, _, c, upd_same, row_sc h1 s1, by omega, c0⟩
abbrev N__law_pick : List Str := ["_law_row", "_law_things"]
abbrev ps__law_pick : List Str := ["_law_row", "_law_things"]
theorem sc__law_pick : FnScope N__law_pick ps__law_pick (defScope (top 38)) := ⟨rfl, rfl, rfl, by decide +kernel, rfl, by decide +kernel, by decide +kernel⟩
theorem bd__law_pick {K : PySem.W.Frag} {f : Addr} {fd : FuncData} (F : FunD K "_law_pick" "_law_pick" (defArgs (top 38)) (defBody (top 38)) (defScope (top 38)) [] [] f fd) : Binds K fd ps__law_pick [] := F.bindsN fun kV doc pm an cdv ct us h => by
  match us, h with
  | [u0, u1], _ => exact (by first | rfl | with_unfolding_all rfl)
theorem ok__law_pick {P : Program} {w : World} {K : PySem.W.Frag} {mg : Str → Option Value} {base : Heap} {tC tM tF : Tok} (T : Tx K mg tC tM tF) {sc : Addr} {ns : List Int} {f : Addr} {fd : FuncData} (D : Df K mg "_law_pick" 38 f fd) (O__law_taken : OkF P w K mg base "_law_taken" ps__law_taken 1 (spTaken ⟨K, sc, ns⟩)) : OkF P w K mg base "_law_pick" ps__law_pick 2 (spPick ⟨K, sc, ns⟩) := by
  refine ⟨f, fd, D.F.ok sc__law_pick (fun vs H Q E h => ?_) (fun cdv A outer s H vs Q E hr h => ?_), D.g, D.F.kp, bd__law_pick D.F⟩
  · obtain ⟨r, th, xs, rfl, _⟩ := h; rfl
  · refine ⟨_, PSs.nox (pss_one (ps_ret (pe_ix ix_list (pv 1) (pe_cal O__law_taken (hr.mono (by decide)) (by rfl) (pa_cons (pv 0) (pa_cons (pe_callB call_len_seq (by rfl) T.n_len (by decide +kernel) (pa_cons (pv 1) pa_nil)) pa_nil))) (fun _ _ => rfl)))), ?_⟩
    obtain ⟨r, th, xs, rfl, hR, hth, hne, l0, l1, k⟩ := h
    refine ⟨_, rfl, _, rfl, _, rfl, th, _, rfl, .inl (SqL.of hth), r, (xs.length : Int), rfl, hR, by omega, by omega, fun n H' n0 n1 dr => ?_⟩
    have hx : xs[n.toNat]? = some (xs[n.toNat]'(by omega)) := List.getElem?_eq_getElem (by omega)
    generalize xs[n.toNat]'(by omega) = x at hx
    refine ⟨th, xs, n, _, rfl, rfl, SqL.of (dr.1 _ _ hne hth), ?_, k _ _ H' hx dr⟩
    have e : n = ((n.toNat : Nat) : Int) := by omega
    rw [e]
    exact atI_nat hx
theorem pick2 {i : Nat} {x : V} (h : ([.int 100, .int 1000] : List V)[i]? = some x) : ∃ m : Int, x = .int m ∧ 0 ≤ m ∧ m ≤ 1000 := by
  match i, h with
  | 0, h => exact ⟨100, (Option.some.inj h).symm, by decide, by decide⟩
  | 1, h => exact ⟨1000, (Option.some.inj h).symm, by decide, by decide⟩
theorem pick6 {n m : Int} {i : Nat} {x : V} (n0 : 0 ≤ n) (n1 : n < 30) (m0 : 0 ≤ m) (m1 : m ≤ 1000) (h : ([.int 0, .int 1, .int 5, .int 10, .int n, .int m] : List V)[i]? = some x) : ∃ v : Int, x = .int v ∧ 0 ≤ v ∧ v ≤ 1000 := by
  match i, h with
  | 0, h => exact ⟨0, (Option.some.inj h).symm, by decide, by decide⟩
  | 1, h => exact ⟨1, (Option.some.inj h).symm, by decide, by decide⟩
  | 2, h => exact ⟨5, (Option.some.inj h).symm, by decide, by decide⟩
  | 3, h => exact ⟨10, (Option.some.inj h).symm, by decide, by decide⟩
  | 4, h => exact ⟨n, (Option.some.inj h).symm, n0, by omega⟩
  | 5, h => exact ⟨m, (Option.some.inj h).symm, m0, m1⟩
theorem pick5 {n : Int} {i : Nat} {x : V} (n0 : 0 ≤ n) (n1 : n < 60) (h : ([.int 0, .int 1, .int 10, .int n, .int 1000] : List V)[i]? = some x) : ∃ v : Int, x = .int v ∧ 0 ≤ v ∧ v ≤ 1000 := by
  match i, h with
  | 0, h => exact ⟨0, (Option.some.inj h).symm, by decide, by decide⟩
  | 1, h => exact ⟨1, (Option.some.inj h).symm, by decide, by decide⟩
  | 2, h => exact ⟨10, (Option.some.inj h).symm, by decide, by decide⟩
  | 3, h => exact ⟨n, (Option.some.inj h).symm, n0, by omega⟩
  | 4, h => exact ⟨1000, (Option.some.inj h).symm, by decide, by decide⟩
theorem pick4 {n C : Int} {i : Nat} {x : V} (c0 : 0 ≤ C) (n0 : 0 ≤ n) (n1 : n < C + 1) (h : ([.int 0, .int 0, .int 0, .int n] : List V)[i]? = some x) : ∃ v : Int, x = .int v ∧ 0 ≤ v ∧ v ≤ C := by
  match i, h with
  | 0, h => exact ⟨0, (Option.some.inj h).symm, by decide, c0⟩
  | 1, h => exact ⟨0, (Option.some.inj h).symm, by decide, c0⟩
  | 2, h => exact ⟨0, (Option.some.inj h).symm, by decide, c0⟩
  | 3, h => exact ⟨n, (Option.some.inj h).symm, n0, by omega⟩
theorem pick3 {n : Int} {i : Nat} {x : V} (n0 : 0 ≤ n) (n1 : n < 40) (h : ([.int 0, .int 5, .int n] : List V)[i]? = some x) : ∃ v : Int, x = .int v ∧ 0 ≤ v ∧ v ≤ 40 := by
  match i, h with
  | 0, h => exact ⟨0, (Option.some.inj h).symm, by decide, by decide⟩
  | 1, h => exact ⟨5, (Option.some.inj h).symm, by decide, by decide⟩
  | 2, h => exact ⟨n, (Option.some.inj h).symm, n0, by omega⟩
abbrev N__law_flow : List Str := ["_law_row"]
abbrev ps__law_flow : List Str := ["_law_row"]
theorem sc__law_flow : FnScope N__law_flow ps__law_flow (defScope (top 46)) := ⟨rfl, rfl, rfl, by decide +kernel, rfl, by decide +kernel, by decide +kernel⟩
theorem bd__law_flow {K : PySem.W.Frag} {f : Addr} {fd : FuncData} (F : FunD K "_law_flow" "_law_flow" (defArgs (top 46)) (defBody (top 46)) (defScope (top 46)) [] [] f fd) : Binds K fd ps__law_flow [] := F.bindsN fun kV doc pm an cdv ct us h => by
  match us, h with
  | [u0], _ => exact (by first | rfl | with_unfolding_all rfl)
theorem ok__law_flow {P : Program} {w : World} {K : PySem.W.Frag} {mg : Str → Option Value} {base : Heap} {tC tM tF : Tok} (T : Tx K mg tC tM tF) {sc : Addr} {ns : List Int} {f : Addr} {fd : FuncData} (D : Df K mg "_law_flow" 46 f fd) (O__law_taken : OkF P w K mg base "_law_taken" ps__law_taken 1 (spTaken ⟨K, sc, ns⟩)) (O__law_pick : OkF P w K mg base "_law_pick" ps__law_pick 2 (spPick ⟨K, sc, ns⟩)) : OkF P w K mg base "_law_flow" ps__law_flow 3 (spFlow ⟨K, sc, ns⟩) := by
  refine ⟨f, fd, D.F.ok sc__law_flow (fun vs H Q E h => ?_) (fun cdv A outer s H vs Q E hr h => ?_), D.g, D.F.kp, bd__law_flow D.F⟩
  · obtain ⟨r, rfl, _⟩ := h; rfl
  · refine ⟨_, PSs.nox (pss_one (ps_ret (pe_cal O__law_pick (hr.mono (by decide)) (by rfl) (pa_cons (pv 0) (pa_cons (pe_lst (pa_cons pe_int (pa_cons pe_int (pa_cons pe_int (pa_cons pe_int (pa_cons (pe_cal O__law_taken (hr.mono (by decide)) (by rfl) (pa_cons (pv 0) (pa_cons pe_int pa_nil))) (pa_cons (pe_cal O__law_pick (hr.mono (by decide)) (by rfl) (pa_cons (pv 0) (pa_cons (pe_lst (pa_cons pe_int (pa_cons pe_int pa_nil))) pa_nil))) pa_nil))))))) pa_nil))))), ?_⟩
    obtain ⟨r, rfl, hR, k⟩ := h
    refine ⟨_, rfl, _, rfl, r, 30, rfl, hR, by decide, by decide, fun n H1 n0 n1 d1 => ?_⟩
    refine ⟨_, rfl, by show 2 ≤ sizeLine; decide, fun l hl => ?_⟩
    have d2 : Dr ⟨K, sc, ns⟩ r H1 (upd H1 l (.lst [.int 100, .int 1000])) := dr_new d1.2 hl
    refine ⟨r, l, _, rfl, d2.2, upd_same, row_ne d1.2 hl, by show 0 < 2; decide, by show 2 < 100; decide, fun i x H2 hx d3 => ?_⟩
    obtain ⟨m, rfl, m0, m1⟩ := pick2 hx
    refine ⟨by show 6 ≤ sizeLine; decide, fun l2 hl2 => ?_⟩
    have d4 : Dr ⟨K, sc, ns⟩ r H2 (upd H2 l2 (.lst [.int 0, .int 1, .int 5, .int 10, .int n, .int m])) := dr_new d3.2 hl2
    refine ⟨r, l2, _, rfl, d4.2, upd_same, row_ne d3.2 hl2, by show 0 < 6; decide, by show 6 < 100; decide, fun i x H3 hx d5 => ?_⟩
    obtain ⟨v, rfl, v0, v1⟩ := pick6 n0 n1 m0 m1 hx
    exact k v H3 v0 v1 (d1.trans (d2.trans (d3.trans (d4.trans d5))))
/-- behind i draws of flows: the list at D, the row, all else -/
def FlI (S : Sc) (r D : Addr) (H0 : Hp) (i : Nat) (H' : Hp) : Prop := ∃ ms : List Int, H' D = some (.lst (ms.map V.int)) ∧ ms.length = i ∧ (∀ n ∈ ms, 0 ≤ n ∧ n ≤ 1000) ∧ (∀ x o, x ≠ r → H0 x = some o → H' x = some o) ∧ RowOk S H' r
theorem fli_zero {S : Sc} {r D : Addr} {H0 : Hp} (hD : H0 D = none) (h0 : RowOk S H0 r) : FlI S r D H0 0 (upd H0 D (.lst [])) := ⟨[], upd_same, rfl, fun n h => (by cases h), fun x o _ h => same_new hD x o h, h0.same (same_new hD)⟩
theorem fli_step {S : Sc} {r D : Addr} {H0 H' H2 : Hp} {i : Nat} {ms : List Int} {n : Int} (h0 : RowOk S H0 r) (hD : H0 D = none) (h : H' D = some (.lst (ms.map V.int))) (hl : ms.length = i) (hb : ∀ n ∈ ms, 0 ≤ n ∧ n ≤ 1000) (hk : ∀ x o, x ≠ r → H0 x = some o → H' x = some o) (n0 : 0 ≤ n) (n1 : n ≤ 1000) (d : Dr S r H' H2) :
    FlI S r D H0 (i + 1) (upd H2 D (.lst (ms.map V.int ++ [.int n]))) := by
  have hrD : D ≠ r := row_ne h0 hD
  refine ⟨ms ++ [n], by rw [upd_same]; simp, by simp [hl], fun m hm => ?_, fun x o nx hx => ?_, ?_⟩
  · rcases List.mem_append.mp hm with q | q
    · exact hb m q
    · rw [List.mem_singleton.mp q]; exact ⟨n0, n1⟩
  · rw [upd_ne (fun z => by rw [z, hD] at hx; cases hx)]
    exact d.1 x o nx (hk x o nx hx)
  · obtain ⟨a0, b0, c0, hr0, hs0, _⟩ := h0
    obtain ⟨a, b, c, q1, q2, q3⟩ := d.2
    refine ⟨a, b, c, by rw [upd_ne (Ne.symm hrD)]; exact q1, ?_, q3⟩
    have up : ∀ {u : HO}, H0 S.sc = some u → (∀ q, u ≠ .lst (.ref S.sc :: q)) → upd H2 D (.lst (ms.map V.int ++ [.int n])) S.sc = some u := fun {u} e nu => by
      rw [upd_ne (fun z => by rw [z, hD] at e; cases e)]
      have nr : S.sc ≠ r := fun z => by
        rw [z, hr0] at e
        exact nu _ (by rw [← Option.some.inj e, z])
      exact d.1 _ _ nr (hk _ _ nr e)
    rcases hs0 with (e | ⟨ob, e⟩) | e
    · refine .inl (.inl (up e fun q z => ?_))
      cases hns : S.ns with
      | nil => rw [hns] at z; cases z
      | cons n ns => rw [hns] at z; cases z
    · exact .inl (.inr ⟨ob, up e fun q z => by cases z⟩)
    · exact .inr e
abbrev N__law_demands : List Str := ["_law_row", "_law_many", "_law_k"]
abbrev ps__law_demands : List Str := ["_law_row", "_law_many"]
theorem sc__law_demands : FnScope N__law_demands ps__law_demands (defScope (top 48)) := ⟨rfl, rfl, rfl, by decide +kernel, rfl, by decide +kernel, by decide +kernel⟩
theorem bd__law_demands {K : PySem.W.Frag} {f : Addr} {fd : FuncData} (F : FunD K "_law_demands" "_law_demands" (defArgs (top 48)) (defBody (top 48)) (defScope (top 48)) [] [] f fd) : Binds K fd ps__law_demands [] := F.bindsN fun kV doc pm an cdv ct us h => by
  match us, h with
  | [u0, u1], _ => exact (by first | rfl | with_unfolding_all rfl)
theorem ok__law_demands {P : Program} {w : World} {K : PySem.W.Frag} {mg : Str → Option Value} {base : Heap} {tC tM tF : Tok} (T : Tx K mg tC tM tF) {sc : Addr} {ns : List Int} {f : Addr} {fd : FuncData} (D : Df K mg "_law_demands" 48 f fd) (O__law_flow : OkF P w K mg base "_law_flow" ps__law_flow 3 (spFlow ⟨K, sc, ns⟩)) : OkF P w K mg base "_law_demands" ps__law_demands 4 (spDemands ⟨K, sc, ns⟩) := by
  refine ⟨f, fd, D.F.ok sc__law_demands (fun vs H Q E h => ?_) (fun cdv A outer s H vs Q E hr h => ?_), D.g, D.F.kp, bd__law_demands D.F⟩
  · obtain ⟨r, m, rfl, _⟩ := h; rfl
  · refine ⟨_, PSs.nox (pss_one (ps_ret (pe_callTy call_tuple_of (by rfl) T.n_tuple (by decide +kernel) (pa_cons (pe_lc (own := [("_law_k", 2)]) (g := gName 2) (tt := tYes) rfl sc__law_demands.nd (pi_range1 (by rfl) T.n_range (pa_cons (pv 1) pa_nil)) (blkOk_by (own := [("_law_k", 2)]) (N := N__law_demands) (sc := defScope (top 48)) (by decide +kernel)) (fun _ _ _ _ _ => pg_name (i := 2) sc__law_demands.nd rfl (Or.inl rfl)) (fun _ _ _ _ _ => pts_nil) (fun _ _ _ _ _ => (pe_cal O__law_flow (hr.mono (by decide)) (by rfl) (pa_cons (pv 0) pa_nil)))) pa_nil)))), ?_⟩
    obtain ⟨r, m, rfl, hm12, hR, k⟩ := h
    refine ⟨_, rfl, (m : Int), rfl, by omega, by omega, fun D hD => ?_⟩
    have et : ((m : Int)).toNat = m := rfl
    refine lc_range (lo := 0) (n := m) (fun i H' => FlI ⟨K, sc, ns⟩ r D H i H') (fli_zero hD hR) ?_ ?_
    · rintro i H' hi ⟨ms, hm, hl, hb, hk, hR'⟩
      refine ⟨rfl, ?_⟩
      refine ⟨_, rfl, r, rfl, hR', fun n H2 n0 n1 dr => ⟨ms.map V.int, dr.1 _ _ (row_ne hR hD) hm, ?_, fli_step hR hD hm hl hb hk n0 n1 dr⟩⟩
      rw [List.length_map, hl]
      exact small1000 (by omega)
    · rintro H' ⟨ms, hm, hl, hb, hk, hR'⟩
      refine ⟨D, _, rfl, .inl ⟨SqL.of hm, fun t ht => ?_⟩⟩
      exact k t ms _ upd_same hl hb ⟨fun x o n h => (same_new ht) _ _ (hk x o n h), hR'.same (same_new ht)⟩
abbrev N__law_dam : List Str := ["_law_row", "_law_most", "_law_capacity", "_law_inflows", "_law_k"]
abbrev ps__law_dam : List Str := ["_law_row", "_law_most"]
theorem sc__law_dam : FnScope N__law_dam ps__law_dam (defScope (top 47)) := ⟨rfl, rfl, rfl, by decide +kernel, rfl, by decide +kernel, by decide +kernel⟩
theorem bd__law_dam {K : PySem.W.Frag} {f : Addr} {fd : FuncData} (F : FunD K "_law_dam" "_law_dam" (defArgs (top 47)) (defBody (top 47)) (defScope (top 47)) [] [] f fd) : Binds K fd ps__law_dam [] := F.bindsN fun kV doc pm an cdv ct us h => by
  match us, h with
  | [u0, u1], _ => exact (by first | rfl | with_unfolding_all rfl)
theorem ok__law_dam {P : Program} {w : World} {K : PySem.W.Frag} {mg : Str → Option Value} {base : Heap} {tC tM tF : Tok} (T : Tx K mg tC tM tF) {sc : Addr} {ns : List Int} {f : Addr} {fd : FuncData} (D : Df K mg "_law_dam" 47 f fd) (O__law_taken : OkF P w K mg base "_law_taken" ps__law_taken 1 (spTaken ⟨K, sc, ns⟩)) (O__law_pick : OkF P w K mg base "_law_pick" ps__law_pick 2 (spPick ⟨K, sc, ns⟩)) (O__law_flow : OkF P w K mg base "_law_flow" ps__law_flow 3 (spFlow ⟨K, sc, ns⟩)) : OkF P w K mg base "_law_dam" ps__law_dam 4 (spDam ⟨K, sc, ns⟩) := by
  refine ⟨f, fd, D.F.ok sc__law_dam (fun vs H Q E h => ?_) (fun cdv A outer s H vs Q E hr h => ?_), D.g, D.F.kp, bd__law_dam D.F⟩
  · obtain ⟨r, rfl, _⟩ := h; rfl
  · refine ⟨_, PSs.nox (pss_cons (ps_set (i := 2) sc__law_dam.nd rfl (Or.inl rfl) (pe_cal O__law_pick (hr.mono (by decide)) (by rfl) (pa_cons (pv 0) (pa_cons (pe_lst (pa_cons pe_int (pa_cons pe_int (pa_cons pe_int (pa_cons (pe_cal O__law_taken (hr.mono (by decide)) (by rfl) (pa_cons (pv 0) (pa_cons pe_int pa_nil))) (pa_cons pe_int pa_nil)))))) pa_nil)))) (pss_cons (ps_set (i := 3) sc__law_dam.nd rfl (Or.inl rfl) (pe_callTy call_tuple_of (by rfl) T.n_tuple (by decide +kernel) (pa_cons (pe_lc (own := [("_law_k", 4)]) (g := gName 4) (tt := tYes) rfl sc__law_dam.nd (pi_range1 (by rfl) T.n_range (pa_cons (pe_op op_add pe_int (pe_cal O__law_taken (hr.mono (by decide)) (by rfl) (pa_cons (pv 0) (pa_cons (pv 1) pa_nil)))) pa_nil)) (blkOk_by (own := [("_law_k", 4)]) (N := N__law_dam) (sc := defScope (top 47)) (by decide +kernel)) (fun _ _ _ _ _ => pg_name (i := 4) sc__law_dam.nd rfl (Or.inl rfl)) (fun _ _ _ _ _ => pts_nil) (fun _ _ _ _ _ => (pe_cal O__law_flow (hr.mono (by decide)) (by rfl) (pa_cons (pv 0) pa_nil)))) pa_nil))) (pss_one (ps_ret (pe_tup (pa_cons (pv 2) (pa_cons (pe_cal O__law_taken (hr.mono (by decide)) (by rfl) (pa_cons (pv 0) (pa_cons (pe_op op_add (pv 2) pe_int) pa_nil))) (pa_cons (pe_cal O__law_pick (hr.mono (by decide)) (by rfl) (pa_cons (pv 0) (pa_cons (pe_lst (pa_cons pe_int (pa_cons pe_int (pa_cons pe_int (pa_cons (pe_cal O__law_taken (hr.mono (by decide)) (by rfl) (pa_cons (pv 0) (pa_cons (pe_op op_add (pv 2) pe_int) pa_nil))) pa_nil))))) pa_nil))) (pa_cons (pv 3) pa_nil))))))))), ?_⟩
    obtain ⟨r, rfl, hR, k⟩ := h
    refine ⟨_, rfl, _, rfl, r, 60, rfl, hR, by decide, by decide, fun n H1 n0 n1 d1 => ?_⟩
    refine ⟨by show 5 ≤ sizeLine; decide, fun l hl => ?_⟩
    have d2 : Dr ⟨K, sc, ns⟩ r H1 (upd H1 l (.lst [.int 0, .int 1, .int 10, .int n, .int 1000])) := dr_new d1.2 hl
    refine ⟨r, l, _, rfl, d2.2, upd_same, row_ne d1.2 hl, by show 0 < 5; decide, by show 5 < 100; decide, fun i x H2 hx d3 => ?_⟩
    obtain ⟨C, rfl, C0, C1⟩ := pick5 n0 n1 hx
    have dA : Dr ⟨K, sc, ns⟩ r H H2 := d1.trans (d2.trans d3)
    refine ⟨_, rfl, _, rfl, r, 7, rfl, d3.2, by decide, by decide, fun m H3 m0 m1 d4 => ?_⟩
    refine ⟨_, _, rfl, rfl, 1 + m, rfl, by omega, by omega, fun D hD => ?_⟩
    refine lc_range (lo := 0) (n := (1 + m).toNat) (fun i H' => FlI ⟨K, sc, ns⟩ r D H3 i H') (fli_zero hD d4.2) ?_ ?_
    · rintro i H' hi ⟨ms, hm, hl, hb, hk, hR'⟩
      refine ⟨rfl, ?_⟩
      refine ⟨_, rfl, r, rfl, hR', fun n H2 n0 n1 dr => ⟨ms.map V.int, dr.1 _ _ (row_ne d4.2 hD) hm, ?_, fli_step d4.2 hD hm hl hb hk n0 n1 dr⟩⟩
      rw [List.length_map, hl]
      exact small1000 (by omega)
    · rintro H4 ⟨ms, hm, hl4, hb, hk, hR4⟩
      refine ⟨D, _, rfl, .inl ⟨SqL.of hm, fun t ht => ?_⟩⟩
      have d5 : Dr ⟨K, sc, ns⟩ r H3 (upd H4 t (.tup (ms.map V.int))) := ⟨fun x o n h => (same_new ht) _ _ (hk x o n h), hR4.same (same_new ht)⟩
      have htr : t ≠ r := row_ne hR4 ht
      refine ⟨_, rfl, _, rfl, _, rfl, _, _, rfl, rfl, r, C + 1, rfl, d5.2, by omega, by omega, fun s' H5 s0 s1 d6 => ?_⟩
      refine ⟨_, rfl, _, rfl, _, rfl, _, _, rfl, rfl, r, C + 1, rfl, d6.2, by omega, by omega, fun e' H6 e0 e1 d7 => ?_⟩
      refine ⟨by show 4 ≤ sizeLine; decide, fun l2 hl2 => ?_⟩
      have d8 : Dr ⟨K, sc, ns⟩ r H6 (upd H6 l2 (.lst [.int 0, .int 0, .int 0, .int e'])) := dr_new d7.2 hl2
      refine ⟨r, l2, _, rfl, d8.2, upd_same, row_ne d7.2 hl2, by show 0 < 4; decide, by show 4 < 100; decide, fun i x H7 hx d9 => ?_⟩
      obtain ⟨v, rfl, v0, v1⟩ := pick4 C0 e0 e1 hx
      refine ⟨_, rfl, by show 4 ≤ sizeLine; decide, fun d hd => ?_⟩
      have dB : Dr ⟨K, sc, ns⟩ r (upd H4 t (.tup (ms.map V.int))) H7 := d6.trans (d7.trans (d8.trans d9))
      have dC : Dr ⟨K, sc, ns⟩ r H7 (upd H7 d (.tup [.int C, .int s', .int v, .ref t])) := dr_new d9.2 hd
      have dE : Dr ⟨K, sc, ns⟩ r H (upd H7 d (.tup [.int C, .int s', .int v, .ref t])) := dA.trans (d4.trans (d5.trans (dB.trans dC)))
      exact k d C s' v ms _ ⟨t, upd_same, (same_new hd) _ _ (dB.1 _ _ htr upd_same)⟩ ⟨C0, C1, s0, by omega, v0, v1, by omega, by omega, hb⟩ dE
end Dw
set_option maxHeartbeats 4000000
namespace Dw
open PySem PySem.Spec PyProof.Rows L2
/-! ### the flood curve -/
def GoodR (C o : Int) : Int → List Int → Prop
  | s, [] => s ≤ C
  | s, a :: r => s ≤ C ∧ GoodR C o (max2 0 (s + a - o)) r
theorem max2_le (a b : Int) : a ≤ max2 a b ∧ b ≤ max2 a b ∧ (max2 a b = a ∨ max2 a b = b) := by
  unfold max2
  split <;> omega
theorem min2_le (a b : Int) : min2 a b ≤ a ∧ min2 a b ≤ b ∧ (min2 a b = a ∨ min2 a b = b) := by
  unfold min2
  split <;> omega
theorem flood_nonneg {C o : Int} (c0 : 0 ≤ C) : ∀ (q : List Int) (x : Int), (flood C o q).headD none = some x → 0 ≤ x ∧ x ≤ C
  | [], x, h => by
    have e : some C = some x := h
    cases e
    exact ⟨c0, Int.le_refl _⟩
  | a :: r, x, h => by
    have h : flStep C o a ((flood C o r).headD none) = some x := h
    cases hr : (flood C o r).headD none with
    | none => rw [hr] at h; cases h
    | some y =>
      rw [hr] at h
      unfold flStep at h
      simp only at h
      split at h
      · cases h
      · cases h
        have := min2_le C (y + o - a)
        omega
theorem flood_good {C o : Int} (c0 : 0 ≤ C) : ∀ (q : List Int) (s : Int), 0 ≤ s → ((∃ x, (flood C o q).headD none = some x ∧ s ≤ x) ↔ GoodR C o s q)
  | [], s, _ => by
    constructor
    · rintro ⟨x, h, hs⟩
      have e : some C = some x := h
      cases e
      exact hs
    · intro h
      exact ⟨C, rfl, h⟩
  | a :: r, s, s0 => by
    have hm := max2_le 0 (s + a - o)
    have ih := flood_good (o := o) c0 r (max2 0 (s + a - o)) hm.1
    have e : (flood C o (a :: r)).headD none = flStep C o a ((flood C o r).headD none) := rfl
    rw [e]
    show _ ↔ s ≤ C ∧ GoodR C o (max2 0 (s + a - o)) r
    rw [← ih]
    cases hr : (flood C o r).headD none with
    | none =>
      constructor
      · rintro ⟨x, h, _⟩
        cases h
      · rintro ⟨_, x, h, _⟩
        cases h
    | some y =>
      have hy := flood_nonneg c0 r y hr
      have hn := min2_le C (y + o - a)
      unfold flStep
      simp only
      split
      · rename_i hneg
        constructor
        · rintro ⟨x, h, _⟩
          cases h
        · rintro ⟨h1, x, h, h2⟩
          cases h
          omega
      · rename_i hneg
        constructor
        · rintro ⟨x, h, h2⟩
          have hx : min2 C (y + o - a) = x := Option.some.inj h
          have hy1 := hy.1
          have hm2 := hm.2.2
          have hs : s ≤ C := by omega
          have hy2 : max2 0 (s + a - o) ≤ y := by
            clear ih e hr h
            rcases hm2 with z | z <;> rw [z] <;> omega
          exact ⟨hs, y, rfl, hy2⟩
        · rintro ⟨h1, x, h, h2⟩
          have hxy : x = y := (Option.some.inj h).symm
          subst hxy
          refine ⟨min2 C (x + o - a), rfl, ?_⟩
          have hy1 := hy.1
          have hm2 := hm.2.1
          clear hy h hr hm ih e
          omega
theorem water_00 {C s a : Int} {r : List Int} : water C s (a :: r) 0 0 = s + a - C := by simp [water]
theorem water_0s {C s a : Int} {r : List Int} {j : Nat} : water C s (a :: r) 0 (j + 1) = s + a + (r.take (j + 1)).sum - C := by
  unfold water
  simp [List.take_succ_cons]
  omega
theorem water_ss {C s a : Int} {r : List Int} {i j : Nat} : water C s (a :: r) (i + 1) (j + 1) = ((r.take (j + 1)).drop i).sum - C := by
  unfold water
  simp [List.take_succ_cons]
theorem good_water {C o : Int} (c0 : 0 ≤ C) (o0 : 0 ≤ o) : ∀ (q : List Int) (s : Int), 0 ≤ s → (GoodR C o s q ↔ s ≤ C ∧ ∀ i j : Nat, i ≤ j → j < q.length → water C s q i j ≤ o * ((j : Int) - i + 1))
  | [], s, _ => by
    constructor
    · intro h
      exact ⟨h, fun i j _ h => by simp at h⟩
    · intro h
      exact h.1
  | a :: r, s, s0 => by
    have hm := max2_le 0 (s + a - o)
    have ih := good_water c0 o0 r (max2 0 (s + a - o)) hm.1
    show s ≤ C ∧ GoodR C o (max2 0 (s + a - o)) r ↔ _
    rw [ih]
    constructor
    · rintro ⟨h1, h2, h3⟩
      refine ⟨h1, fun i j hij hj => ?_⟩
      cases j with
      | zero =>
        have : i = 0 := by omega
        subst this
        rw [water_00]
        have e : o * (((0 : Nat) : Int) - ((0 : Nat) : Int) + 1) = o := by simp
        rw [e]
        omega
      | succ j =>
        have hj' : j < r.length := by simpa using hj
        cases i with
        | zero =>
          rw [water_0s]
          have w := h3 0 j (Nat.zero_le _) hj'
          unfold water at w
          simp at w
          have e : o * ((((j + 1 : Nat)) : Int) - ((0 : Nat) : Int) + 1) = o * ((j : Int) + 1) + o := by
            have : (((j + 1 : Nat)) : Int) - ((0 : Nat) : Int) + 1 = ((j : Int) + 1) + 1 := by omega
            rw [this, Int.mul_add, Int.mul_one]
          rw [e]
          omega
        | succ i =>
          rw [water_ss]
          have w := h3 i j (by omega) hj'
          unfold water at w
          have e : (((j + 1 : Nat)) : Int) - ((i + 1 : Nat) : Int) + 1 = (j : Int) - i + 1 := by omega
          rw [e]
          split at w <;> omega
    · rintro ⟨h1, h2⟩
      refine ⟨h1, ?_, fun i j hij hj => ?_⟩
      · have w := h2 0 0 (Nat.le_refl _) (by simp)
        rw [water_00] at w
        have e : o * (((0 : Nat) : Int) - ((0 : Nat) : Int) + 1) = o := by simp
        rw [e] at w
        omega
      · unfold water
        have w2 := h2 (i + 1) (j + 1) (by omega) (by simpa using hj)
        rw [water_ss] at w2
        have e : (((j + 1 : Nat)) : Int) - ((i + 1 : Nat) : Int) + 1 = (j : Int) - i + 1 := by omega
        rw [e] at w2
        split
        · rename_i hi
          subst hi
          have w1 := h2 0 (j + 1) (by omega) (by simpa using hj)
          rw [water_0s] at w1
          have e1 : o * ((((j + 1 : Nat)) : Int) - ((0 : Nat) : Int) + 1) = o * ((j : Int) + 1) + o := by
            have : (((j + 1 : Nat)) : Int) - ((0 : Nat) : Int) + 1 = ((j : Int) + 1) + 1 := by omega
            rw [this, Int.mul_add, Int.mul_one]
          rw [e1] at w1
          have e2 : (j : Int) - ((0 : Nat) : Int) + 1 = (j : Int) + 1 := by omega
          rw [e2] at w2 ⊢
          rw [List.drop_zero] at w2 ⊢
          rcases hm.2.2 with z | z <;> rw [z] <;> omega
        · omega
/-- the law's first claim -/
theorem fits_eq {C s o t b : Int} {q : List Int} (c0 : 0 ≤ C) (s0 : 0 ≤ s) (s1 : s ≤ C) (o0 : 0 ≤ o) (pk : PeakOk C s q t b) : (!decide (o * b < t * 1)) = (match (flood C o q).headD none with | some x => decide (s ≤ x) | none => false) := by
  have key : (∃ x, (flood C o q).headD none = some x ∧ s ≤ x) ↔ ¬ (o * b < t * 1) := by
    rw [flood_good c0 q s s0, good_water c0 o0 q s s0]
    have b0 := pk.b0
    constructor
    · rintro ⟨_, h⟩ hlt
      rcases pk.one with z | ⟨i, j, hij, hj, he⟩
      · have : 0 ≤ o * b := Int.mul_nonneg o0 (by omega)
        omega
      · have w := h i j hij hj
        have hn : (0 : Int) < (j : Int) - i + 1 := by omega
        generalize (j : Int) - i + 1 = n at *
        generalize water C s q i j = wt at *
        have e1 : wt * b ≤ o * n * b := Int.mul_le_mul_of_nonneg_right w (by omega)
        have e2 : o * b * n < t * n := Int.mul_lt_mul_of_pos_right (by omega) hn
        have e3 : o * n * b = o * b * n := by rw [Int.mul_assoc, Int.mul_comm n b, ← Int.mul_assoc]
        omega
    · intro hlt
      refine ⟨s1, fun i j hij hj => ?_⟩
      have w := pk.all i j hij hj
      have hn : (0 : Int) < (j : Int) - i + 1 := by omega
      generalize (j : Int) - i + 1 = n at *
      generalize water C s q i j = wt at *
      have e2 : t * n ≤ o * b * n := Int.mul_le_mul_of_nonneg_right (by omega) (by omega)
      have e3 : o * n * b = o * b * n := by rw [Int.mul_assoc, Int.mul_comm n b, ← Int.mul_assoc]
      have e4 : wt * b ≤ o * n * b := by omega
      exact Int.le_of_mul_le_mul_right e4 b0
  cases hr : (flood C o q).headD none with
  | none =>
    have : ¬ ¬ (o * b < t * 1) := fun z => by
      obtain ⟨x, h, _⟩ := key.mpr z
      rw [hr] at h
      cases h
    rw [decide_eq_true (Decidable.not_not.mp this)]
    rfl
  | some x =>
    by_cases hs : s ≤ x
    · rw [decide_eq_false (key.mp ⟨x, hr, hs⟩)]
      simp [hs]
    · have : ¬ ¬ (o * b < t * 1) := fun z => by
        obtain ⟨y, h, h2⟩ := key.mpr z
        rw [hr] at h
        cases h
        exact hs h2
      rw [decide_eq_true (Decidable.not_not.mp this)]
      simp [hs]
/-! ### the fill curve -/
def heldN (C h q d : Int) : Int := h + q - min2 d (h + q) - max2 0 (h + q - min2 d (h + q) - C)
def MeetR (C e : Int) : Int → List (Int × Int) → Prop
  | h, [] => e ≤ h
  | h, p :: r => p.2 ≤ h + p.1 ∧ MeetR C e (heldN C h p.1 p.2) r
def lk (C : Int) : Int → List (Int × Int) → Int
  | _, [] => 0
  | h, p :: r => (p.2 - min2 p.2 (h + p.1)) + lk C (heldN C h p.1 p.2) r
def lastH (C : Int) : Int → List (Int × Int) → Int
  | h, [] => h
  | h, p :: r => lastH C (heldN C h p.1 p.2) r
theorem held_rng {C h q d : Int} (c0 : 0 ≤ C) (h0 : 0 ≤ h) (q0 : 0 ≤ q) : 0 ≤ heldN C h q d ∧ heldN C h q d ≤ C := by
  have a := min2_le d (h + q)
  have b := max2_le 0 (h + q - min2 d (h + q) - C)
  unfold heldN
  omega
theorem fill_rng {C e : Int} (c0 : 0 ≤ C) (e0 : 0 ≤ e) (e1 : e ≤ C) : ∀ (z : List (Int × Int)) (x : Int), (fill C e z).headD none = some x → 0 ≤ x ∧ x ≤ C
  | [], x, h => by
    have e : some e = some x := h
    cases e
    exact ⟨e0, e1⟩
  | p :: r, x, h => by
    have h : fiStep C p.1 p.2 ((fill C e r).headD none) = some x := h
    cases hr : (fill C e r).headD none with
    | none => rw [hr] at h; cases h
    | some y =>
      rw [hr] at h
      unfold fiStep at h
      simp only at h
      split at h
      · cases h
      · cases h
        have := max2_le 0 (y + p.2 - p.1)
        omega
theorem fill_meet {C e : Int} (c0 : 0 ≤ C) (e0 : 0 ≤ e) (e1 : e ≤ C) : ∀ (z : List (Int × Int)) (h : Int), 0 ≤ h → h ≤ C → (∀ p ∈ z, 0 ≤ p.1) → ((∃ x, (fill C e z).headD none = some x ∧ x ≤ h) ↔ MeetR C e h z)
  | [], h, _, _, _ => by
    constructor
    · rintro ⟨x, hx, hs⟩
      have e : some e = some x := hx
      cases e
      exact hs
    · intro hs
      exact ⟨e, rfl, hs⟩
  | p :: r, h, h0, h1, hq => by
    have hq0 := hq p (.head _)
    have hr0 := held_rng (d := p.2) c0 h0 hq0
    have ih := fill_meet c0 e0 e1 r (heldN C h p.1 p.2) hr0.1 hr0.2 fun x hx => hq x (.tail _ hx)
    have ee : (fill C e (p :: r)).headD none = fiStep C p.1 p.2 ((fill C e r).headD none) := rfl
    rw [ee]
    show _ ↔ p.2 ≤ h + p.1 ∧ MeetR C e (heldN C h p.1 p.2) r
    rw [← ih]
    cases hr : (fill C e r).headD none with
    | none =>
      constructor
      · rintro ⟨x, hx, _⟩
        cases hx
      · rintro ⟨_, x, hx, _⟩
        cases hx
    | some y =>
      have hy := fill_rng c0 e0 e1 r y hr
      have hn := max2_le 0 (y + p.2 - p.1)
      have a := min2_le p.2 (h + p.1)
      have b := max2_le 0 (h + p.1 - min2 p.2 (h + p.1) - C)
      unfold fiStep heldN
      simp only
      split
      · rename_i hneg
        constructor
        · rintro ⟨x, hx, _⟩
          cases hx
        · rintro ⟨h1, x, hx, h2⟩
          cases hx
          omega
      · rename_i hneg
        constructor
        · rintro ⟨x, hx, h2⟩
          cases hx
          exact ⟨by omega, y, rfl, by omega⟩
        · rintro ⟨h1, x, hx, h2⟩
          cases hx
          exact ⟨_, rfl, by omega⟩
theorem lk_nonneg {C : Int} : ∀ (z : List (Int × Int)) (h : Int), 0 ≤ lk C h z
  | [], _ => Int.le_refl _
  | p :: r, h => by
    have a := min2_le p.2 (h + p.1)
    have b := lk_nonneg (C := C) r (heldN C h p.1 p.2)
    show 0 ≤ (p.2 - min2 p.2 (h + p.1)) + lk C (heldN C h p.1 p.2) r
    omega
theorem meet_lk {C e : Int} : ∀ (z : List (Int × Int)) (h : Int), (lk C h z = 0 ∧ e ≤ lastH C h z) ↔ MeetR C e h z
  | [], h => by
    show ((0 : Int) = 0 ∧ e ≤ h) ↔ e ≤ h
    simp
  | p :: r, h => by
    have a := min2_le p.2 (h + p.1)
    have b := lk_nonneg (C := C) r (heldN C h p.1 p.2)
    have ih := meet_lk (e := e) (C := C) r (heldN C h p.1 p.2)
    show ((p.2 - min2 p.2 (h + p.1)) + lk C (heldN C h p.1 p.2) r = 0 ∧ e ≤ lastH C (heldN C h p.1 p.2) r) ↔ p.2 ≤ h + p.1 ∧ MeetR C e (heldN C h p.1 p.2) r
    rw [← ih]
    constructor
    · rintro ⟨h1, h2⟩
      exact ⟨by omega, by omega, h2⟩
    · rintro ⟨h1, h2, h3⟩
      have : min2 p.2 (h + p.1) = p.2 := by omega
      exact ⟨by omega, h3⟩
theorem preSum_shift (f : Nat → Int) : ∀ n, PySem.preSum f (n + 1) = f 0 + PySem.preSum (fun i => f (i + 1)) n
  | 0 => by simp [PySem.preSum]
  | n + 1 => by
    show PySem.preSum f (n + 1) + f (n + 1) = f 0 + (PySem.preSum (fun i => f (i + 1)) n + f (n + 1))
    rw [preSum_shift f n]
    omega
theorem lack_lk {C : Int} : ∀ (q ds : List Int) (h : Int), q.length = ds.length → lackSum ds (rows C h (q.zip ds)) = lk C h (q.zip ds)
  | [], [], h, _ => rfl
  | [], _ :: _, _, e => by simp at e
  | _ :: _, [], _, e => by simp at e
  | a :: q, d :: ds, h, e => by
    have ih := lack_lk (C := C) q ds (heldN C h a d) (by simpa using e)
    show PySem.preSum (lackAt (d :: ds) (rows C h ((a, d) :: q.zip ds))) (ds.length + 1) = (d - min2 d (h + a)) + lk C (heldN C h a d) (q.zip ds)
    rw [preSum_shift, ← ih]
    rfl
theorem rows_len {C : Int} : ∀ (z : List (Int × Int)) (h : Int), (rows C h z).length = z.length
  | [], _ => rfl
  | p :: r, h => by
    show (rows C (heldN C h p.1 p.2) r).length + 1 = r.length + 1
    rw [rows_len r]
theorem rows_last {C : Int} : ∀ (z : List (Int × Int)) (h : Int), z ≠ [] → ∃ g sp, (rows C h z)[(rows C h z).length - 1]? = some (g, sp, lastH C h z)
  | [], _, n => absurd rfl n
  | [p], h, _ => ⟨min2 p.2 (h + p.1), max2 0 (h + p.1 - min2 p.2 (h + p.1) - C), rfl⟩
  | p :: p2 :: r, h, _ => by
    obtain ⟨g, sp, ih⟩ := rows_last (C := C) (p2 :: r) (heldN C h p.1 p.2) (by simp)
    refine ⟨g, sp, ?_⟩
    have hl := rows_len (C := C) (p2 :: r) (heldN C h p.1 p.2)
    have e : rows C h (p :: p2 :: r) = (min2 p.2 (h + p.1), max2 0 (h + p.1 - min2 p.2 (h + p.1) - C), heldN C h p.1 p.2) :: rows C (heldN C h p.1 p.2) (p2 :: r) := rfl
    rw [e, List.length_cons]
    rw [hl] at ih ⊢
    show (_ :: rows C (heldN C h p.1 p.2) (p2 :: r))[r.length + 1]? = _
    rw [List.getElem?_cons_succ]
    exact ih
/-- the law's second claim -/
theorem meets_eq {C s e : Int} {q ds : List Int} (ok : DamOk C s e q) (hl : q.length = ds.length) : (decide (lackSum ds (rows C s (q.zip ds)) = 0) && decide (e ≤ lastH C s (q.zip ds))) = (match (fill C e (q.zip ds)).headD none with | some x => decide (x ≤ s) | none => false) := by
  have hz : ∀ p ∈ q.zip ds, 0 ≤ p.1 := fun p hp => (ok.q.2.2 p.1 (List.of_mem_zip (a := p.1) (b := p.2) hp).1).1
  have key := (fill_meet ok.c0 ok.e0 ok.e1 (q.zip ds) s ok.s0 ok.s1 hz).trans (meet_lk (C := C) (e := e) (q.zip ds) s).symm
  rw [lack_lk q ds s hl]
  cases hr : (fill C e (q.zip ds)).headD none with
  | none =>
    by_cases h1 : lk C s (q.zip ds) = 0
    · by_cases h2 : e ≤ lastH C s (q.zip ds)
      · obtain ⟨x, h, _⟩ := key.mpr ⟨h1, h2⟩
        rw [hr] at h
        cases h
      · simp [h2]
    · simp [h1]
  | some x =>
    by_cases hx : x ≤ s
    · obtain ⟨h1, h2⟩ := key.mp ⟨x, hr, hx⟩
      simp [h1, h2, hx]
    · by_cases h1 : lk C s (q.zip ds) = 0
      · by_cases h2 : e ≤ lastH C s (q.zip ds)
        · obtain ⟨y, h, h3⟩ := key.mpr ⟨h1, h2⟩
          rw [hr] at h
          cases h
          exact absurd h3 hx
        · simp [h2, hx]
      · simp [h1, hx]
/-! ### more outlet, less demands -/
def LeO : Option Int → Option Int → Prop
  | none, _ => True
  | some _, none => False
  | some a, some b => a ≤ b
def GeO : Option Int → Option Int → Prop
  | none, _ => True
  | some _, none => False
  | some a, some b => b ≤ a
theorem flood_mono {C o o' : Int} (ho : o ≤ o') : ∀ (q : List Int) (k : Nat) (a b : Option Int), (flood C o q)[k]? = some a → (flood C o' q)[k]? = some b → LeO a b
  | [], k, a, b, h1, h2 => by
    have e : (flood C o [])[k]? = (flood C o' [])[k]? := rfl
    rw [e, h2] at h1
    cases h1
    cases a with
    | none => trivial
    | some x => exact Int.le_refl x
  | q :: r, 0, a, b, h1, h2 => by
    have e1 : flStep C o q ((flood C o r).headD none) = a := Option.some.inj h1
    have e2 : flStep C o' q ((flood C o' r).headD none) = b := Option.some.inj h2
    obtain ⟨x, t, hx, hx2⟩ := flood_cons (C := C) (o := o) r
    obtain ⟨y, t', hy, hy2⟩ := flood_cons (C := C) (o := o') r
    have ih := flood_mono ho r 0 x y (by rw [hx]; rfl) (by rw [hy]; rfl)
    rw [hx2] at e1
    rw [hy2] at e2
    subst e1 e2
    cases x with
    | none => trivial
    | some x =>
      cases y with
      | none => exact ih.elim
      | some y =>
        have ih : x ≤ y := ih
        have m1 := min2_le C (x + o - q)
        have m2 := min2_le C (y + o' - q)
        unfold flStep
        simp only
        split
        · trivial
        · rw [if_neg (by omega)]
          show min2 C (x + o - q) ≤ min2 C (y + o' - q)
          omega
  | q :: r, k + 1, a, b, h1, h2 => flood_mono ho r k a b h1 h2
theorem fill_mono {C e : Int} : ∀ (q ds ds' : List Int) (k : Nat) (a b : Option Int), ds.length = ds'.length → (∀ (i : Nat) (d d' : Int), ds[i]? = some d → ds'[i]? = some d' → d' ≤ d) → (fill C e (q.zip ds))[k]? = some a → (fill C e (q.zip ds'))[k]? = some b → GeO a b
  | [], ds, ds', k, a, b, _, _, h1, h2 => by
    have e : (fill C e (([] : List Int).zip ds))[k]? = (fill C e (([] : List Int).zip ds'))[k]? := rfl
    rw [e, h2] at h1
    cases h1
    cases a with
    | none => trivial
    | some x => exact Int.le_refl x
  | q :: r, [], [], k, a, b, _, _, h1, h2 => by
    rw [h1] at h2
    cases h2
    cases a with
    | none => trivial
    | some x => exact Int.le_refl x
  | q :: r, [], _ :: _, _, _, _, hl, _, _, _ => by simp at hl
  | q :: r, _ :: _, [], _, _, _, hl, _, _, _ => by simp at hl
  | q :: r, d :: ds, d' :: ds', 0, a, b, hl, hd, h1, h2 => by
    have e1 : fiStep C q d ((fill C e (r.zip ds)).headD none) = a := Option.some.inj h1
    have e2 : fiStep C q d' ((fill C e (r.zip ds')).headD none) = b := Option.some.inj h2
    obtain ⟨x, t, hx, hx2⟩ := fill_cons (C := C) (o := e) (r.zip ds)
    obtain ⟨y, t', hy, hy2⟩ := fill_cons (C := C) (o := e) (r.zip ds')
    have ih := fill_mono (C := C) (e := e) r ds ds' 0 x y (by simpa using hl) (fun i u v hu hv => hd (i + 1) u v hu hv) (by rw [hx]; rfl) (by rw [hy]; rfl)
    have h0 := hd 0 d d' rfl rfl
    rw [hx2] at e1
    rw [hy2] at e2
    subst e1 e2
    cases x with
    | none => trivial
    | some x =>
      cases y with
      | none => exact ih.elim
      | some y =>
        have ih : y ≤ x := ih
        have m1 := max2_le 0 (x + d - q)
        have m2 := max2_le 0 (y + d' - q)
        unfold fiStep
        simp only
        split
        · trivial
        · rw [if_neg (by omega)]
          show max2 0 (y + d' - q) ≤ max2 0 (x + d - q)
          omega
  | q :: r, d :: ds, d' :: ds', k + 1, a, b, hl, hd, h1, h2 => fill_mono r ds ds' k a b (by simpa using hl) (fun i u v hu hv => hd (i + 1) u v hu hv) h1 h2
theorem flood_last {C o : Int} : ∀ (q : List Int), (flood C o q)[q.length]? = some (some C)
  | [] => rfl
  | q :: r => flood_last r
theorem fill_last {C e : Int} : ∀ (z : List (Int × Int)), (fill C e z)[z.length]? = some (some e)
  | [] => rfl
  | q :: r => fill_last r
end Dw
set_option maxHeartbeats 4000000
namespace Dw
open PySem PySem.Spec PyProof.Rows L2
theorem Tb.dr {S : Sc} {r : Addr} {T : List Addr} {H H' : Hp} (t : Tb T H) (R : RowOk S H r) (d : Dr S r H H') : Tb T H' := fun P hP => by
  obtain ⟨ps, h, q⟩ := t P hP
  obtain ⟨a, b, c, hr, _⟩ := R
  exact ⟨ps, d.1 _ _ (fun z => by rw [z, hr] at h; cases h) h, q⟩
theorem DamAt.dr {S : Sc} {r : Addr} {H H' : Hp} {d : Addr} {C s e : Int} {q : List Int} (h : DamAt H d C s e q) (R : RowOk S H r) (x : Dr S r H H') : DamAt H' d C s e q := by
  obtain ⟨qa, h1, h2⟩ := h
  obtain ⟨a, b, c, hr, _⟩ := R
  exact ⟨qa, x.1 _ _ (fun z => by rw [z, hr] at h1; cases h1) h1, x.1 _ _ (fun z => by rw [z, hr] at h2; cases h2) h2⟩
theorem and_tail {c d : Bool} {tb : TE} {σ : L2.St} {H : Hp} {Q : VK} (h2 : c = true → ∀ Q' : VK, Q' (.bl d) H → tb σ H Q') (h : Q (.bl (c && d)) H) : ∃ c', V.bl c = .bl c' ∧ if c' = true then tb σ H Q else Q (.bl false) H := by
  refine ⟨c, rfl, ?_⟩
  cases c with
  | true => exact if_true_of rfl (h2 rfl Q h)
  | false => exact if_false_of rfl h
theorem flood_0 {C o : Int} (q : List Int) : ((flood C o q).map optV)[0]? = some (optV ((flood C o q).headD none)) := by
  cases q <;> rfl
theorem fill_0 {C e : Int} (q : List (Int × Int)) : ((fill C e q).map optV)[0]? = some (optV ((fill C e q).headD none)) := by
  cases q <;> rfl
theorem at_neg {α : Type} {l : List α} {v : α} (h : l[l.length - 1]? = some v) : atI l (-1) = some v := by
  have hl := (List.getElem?_eq_some_iff.mp h).1
  have e : ixN l.length (-1) = some (l.length - 1) := by
    unfold ixN
    rw [if_neg (by decide), if_pos (by omega)]
    congr 1
    omega
  unfold atI
  rw [e]
  exact h
theorem at_k {l : List (Option Int)} {i : Nat} {v : Option Int} (h : l[i]? = some v) : atI (l.map optV) (0 + (i : Int)) = some (optV v) := by
  rw [show (0 : Int) + (i : Int) = ((i : Nat) : Int) by omega]
  exact atI_nat (by rw [List.getElem?_map, h]; rfl)
theorem top_and {h : Option Int} {s : Int} : ((!decide (optV h = V.non)) && (match h with | some x => decide (s ≤ x) | none => false)) = (match h with | some x => decide (s ≤ x) | none => false) := by
  cases h with
  | none => rfl
  | some x => rw [opt_dec]; rfl
theorem low_and {h : Option Int} {s : Int} : ((!decide (optV h = V.non)) && (match h with | some x => decide (x ≤ s) | none => false)) = (match h with | some x => decide (x ≤ s) | none => false) := by
  cases h with
  | none => rfl
  | some x => rw [opt_dec]; rfl
theorem ne_same {a b : Bool} (h : a = b) : (!decide (V.bl a = V.bl b)) = false := by
  subst h
  rw [decide_eq_true rfl]
  rfl
theorem dec_z {n : Int} : decide (V.int n = V.int 0) = decide (n = 0) := by
  by_cases h : n = 0
  · subst h; rfl
  · rw [decide_eq_false h, decide_eq_false (fun z => h (by injection z))]
def spLaw (T : List Addr) (K : PySem.W.Frag) : Sp := fun vs H Q _ => ∃ (a : Addr) (ns : List Int), vs = [.ref a] ∧ SqL K H a (ns.map V.int) ∧ Tb T H ∧ ∀ H', Q (.bl true) H'
abbrev N_law : List Str := ["_law_script", "_law_row", "_law_dam_here", "_law_capacity", "_law_inflows", "_law_outlet", "_law_demands_here", "_law_start", "_law_top", "_law_fits", "_law_low", "_law_months", "_law_meets", "_law_wide", "_law_more", "_law_one", "_law_other", "_law_k"]
abbrev ps_law : List Str := ["_law_script"]
theorem sc_law : FnScope N_law ps_law (defScope (top 52)) := ⟨rfl, rfl, rfl, by decide +kernel, rfl, by decide +kernel, by decide +kernel⟩
theorem bd_law {K : PySem.W.Frag} {f : Addr} {fd : FuncData} (F : FunD K "law" "law" (defArgs (top 52)) (defBody (top 52)) (defScope (top 52)) [] [] f fd) : Binds K fd ps_law [] := F.bindsN fun kV doc pm an cdv ct us h => by
  match us, h with
  | [u0], _ => exact (by first | rfl | with_unfolding_all rfl)
theorem ok_law {P : Program} {w : World} {K : PySem.W.Frag} {mg : Str → Option Value} {base : Heap} {tC tM tF : Tok} (T : Tx K mg tC tM tF) {TT : List Addr}  {f : Addr} {fd : FuncData} (D : Df K mg "law" 52 f fd) (OO__law_dam : ∀ (sc : Addr) (ns : List Int), OkF P w K mg base "_law_dam" ps__law_dam 4 (spDam ⟨K, sc, ns⟩)) (OO__law_pick : ∀ (sc : Addr) (ns : List Int), OkF P w K mg base "_law_pick" ps__law_pick 2 (spPick ⟨K, sc, ns⟩)) (OO__law_taken : ∀ (sc : Addr) (ns : List Int), OkF P w K mg base "_law_taken" ps__law_taken 1 (spTaken ⟨K, sc, ns⟩)) (OO__law_demands : ∀ (sc : Addr) (ns : List Int), OkF P w K mg base "_law_demands" ps__law_demands 4 (spDemands ⟨K, sc, ns⟩)) (O_flood_curve : OkF P w K mg base "flood_curve" ps_flood_curve 4 (spFlood TT)) (O__law_less : OkF P w K mg base "_law_less" ps__law_less 1 (spLess)) (O_least_peak : OkF P w K mg base "least_peak" ps_least_peak 4 (spLeastPeak TT)) (O_fill_curve : OkF P w K mg base "fill_curve" ps_fill_curve 4 (spFill TT)) (O_run : OkF P w K mg base "run" ps_run 5 (spRun TT)) (O_total_lack : OkF P w K mg base "total_lack" ps_total_lack 5 (spTotalLack TT)) : FnOk P w K mg base L2.CX0 6 f fd ps_law (spLaw TT K) := by
  refine D.F.ok sc_law (fun vs H Q E h => ?_) (fun cdv A outer s H vs Q E hr h => ?_)
  · obtain ⟨a, ns, rfl, _⟩ := h; rfl
  · obtain ⟨a, ns, rfl, hs, tb, k⟩ := h
    refine ⟨_, PSs.nox (pss_cons (ps_set (i := 1) sc_law.nd rfl (Or.inl rfl) (pe_lst (pa_cons (pv 0) (pa_cons pe_int (pa_cons pe_int (pa_cons pe_int pa_nil)))))) (pss_cons (ps_set (i := 2) sc_law.nd rfl (Or.inl rfl) (pe_cal (OO__law_dam a ns) (hr.mono (by decide)) (by rfl) (pa_cons (pv 1) (pa_cons pe_int pa_nil)))) (pss_cons (ps_par3 (i := 3) (j := 4) (l := 5) rfl sc_law.nd rfl rfl rfl (by decide) (by decide) (by decide) rfl rfl rfl (pa_cons (pe_ix ix_tup (pv 2) pe_int (fun _ _ => rfl)) (pa_cons (pe_ix ix_tup (pv 2) pe_int (fun _ _ => rfl)) (pa_cons (pe_cal (OO__law_pick a ns) (hr.mono (by decide)) (by rfl) (pa_cons (pv 1) (pa_cons (pe_lst (pa_cons pe_int (pa_cons pe_int (pa_cons (pe_cal (OO__law_taken a ns) (hr.mono (by decide)) (by rfl) (pa_cons (pv 1) (pa_cons pe_int pa_nil))) pa_nil)))) pa_nil))) pa_nil))) (by rfl)) (pss_cons (ps_par (i := 6) (j := 7) rfl sc_law.nd rfl rfl (by decide) rfl rfl (pa_cons (pe_cal (OO__law_demands a ns) (hr.mono (by decide)) (by rfl) (pa_cons (pv 1) (pa_cons (pe_callB call_len_seq (by rfl) T.n_len (by decide +kernel) (pa_cons (pv 4) pa_nil)) pa_nil))) (pa_cons (pe_ix ix_tup (pv 2) pe_int (fun _ _ => rfl)) pa_nil)) (by rfl)) (pss_cons (ps_set (i := 8) sc_law.nd rfl (Or.inl rfl) (pe_ix ix_tup (pe_cal O_flood_curve (hr.mono (by decide)) (by rfl) (pa_cons (pv 3) (pa_cons (pv 5) (pa_cons (pv 4) pa_nil)))) pe_int (fun _ _ => rfl))) (pss_cons (ps_set (i := 9) sc_law.nd rfl (Or.inl rfl) (pe_not (pe_cal O__law_less (hr.mono (by decide)) (by rfl) (pa_cons (pe_tup (pa_cons (pv 5) (pa_cons pe_int pa_nil))) (pa_cons (pe_cal O_least_peak (hr.mono (by decide)) (by rfl) (pa_cons (pe_tup (pa_cons (pv 3) (pa_cons (pv 7) (pa_cons pe_int (pa_cons (pv 4) pa_nil))))) pa_nil)) pa_nil))))) (pss_cons (ps_if (pt_cmpR op_ne (pv 9) (pe_and (pe_cmpR op_notN (pv 8) pe_non (nomark _)) (pe_one (pe_cmpR op_le (pv 7) (pv 8) (nomark _)))) (nomark _)) pss_never pss_nil) (pss_cons (ps_set (i := 10) sc_law.nd rfl (Or.inl rfl) (pe_ix ix_tup (pe_cal O_fill_curve (hr.mono (by decide)) (by rfl) (pa_cons (pv 2) (pa_cons (pv 6) pa_nil))) pe_int (fun _ _ => rfl))) (pss_cons (ps_set (i := 11) sc_law.nd rfl (Or.inl rfl) (pe_cal O_run (hr.mono (by decide)) (by rfl) (pa_cons (pv 2) (pa_cons (pv 6) pa_nil)))) (pss_cons (ps_set (i := 12) sc_law.nd rfl (Or.inl rfl) (pe_and (pe_cmpR op_eq (pe_cal O_total_lack (hr.mono (by decide)) (by rfl) (pa_cons (pv 2) (pa_cons (pv 6) pa_nil))) pe_int (nomark _)) (pe_one (pe_cmpR op_ge (pe_ix ix_tup (pe_ix ix_tup (pv 11) (pe_un un_neg pe_int) (fun _ _ => rfl)) pe_int (fun _ _ => rfl)) (pe_ix ix_tup (pv 2) pe_int (fun _ _ => rfl)) (nomark _))))) (pss_cons (ps_if (pt_cmpR op_ne (pv 12) (pe_and (pe_cmpR op_notN (pv 10) pe_non (nomark _)) (pe_one (pe_cmpR op_ge (pv 7) (pv 10) (nomark _)))) (nomark _)) pss_never pss_nil) (pss_cons (ps_par (i := 13) (j := 14) rfl sc_law.nd rfl rfl (by decide) rfl rfl (pa_cons (pe_cal O_flood_curve (hr.mono (by decide)) (by rfl) (pa_cons (pv 3) (pa_cons (pe_callB (call_min2 rfl) (by rfl) T.n_min (by decide +kernel) (pa_cons pe_int (pa_cons (pe_op op_add (pv 5) pe_int) pa_nil))) (pa_cons (pv 4) pa_nil)))) (pa_cons (pe_cal O_fill_curve (hr.mono (by decide)) (by rfl) (pa_cons (pv 2) (pa_cons (pe_callTy call_tuple_of (by rfl) T.n_tuple (by decide +kernel) (pa_cons (pe_lc (own := [("_law_one", 15)]) (g := gName 15) (tt := tYes) rfl sc_law.nd (pi_tup (pv 6)) (blkOk_by (own := [("_law_one", 15)]) (N := N_law) (sc := defScope (top 52)) (by decide +kernel)) (fun _ _ _ _ _ => pg_name (i := 15) sc_law.nd rfl (Or.inl rfl)) (fun _ _ _ _ _ => pts_nil) (fun _ _ _ _ _ => (pe_callB (call_max2 rfl) (by rfl) T.n_max (by decide +kernel) (pa_cons pe_int (pa_cons (pe_op op_sub (pv 15) pe_int) pa_nil))))) pa_nil)) pa_nil))) pa_nil)) (by rfl)) (pss_cons (ps_par (i := 15) (j := 16) rfl sc_law.nd rfl rfl (by decide) rfl rfl (pa_cons (pe_cal O_flood_curve (hr.mono (by decide)) (by rfl) (pa_cons (pv 3) (pa_cons (pv 5) (pa_cons (pv 4) pa_nil)))) (pa_cons (pe_cal O_fill_curve (hr.mono (by decide)) (by rfl) (pa_cons (pv 2) (pa_cons (pv 6) pa_nil))) pa_nil)) (by rfl)) (pss_cons (ps_for PassesOwn.never rfl (pi_range1 (by rfl) T.n_range (pa_cons (pe_op op_add (pe_callB call_len_seq (by rfl) T.n_len (by decide +kernel) (pa_cons (pv 4) pa_nil)) pe_int) pa_nil)) (pg_name (i := 17) sc_law.nd rfl (Or.inl rfl)) (pss_cons (ps_if (PW.pt (pw_and (pt_cmpR op_notN (pe_ix ix_tup (pv 15) (pv 17) (fun _ _ => rfl)) pe_non (nomark _)) (pw_and1 (PW.pt (pw_or (pt_cmpR op_isN (pe_ix ix_tup (pv 13) (pv 17) (fun _ _ => rfl)) pe_non (nomark _)) (pw_or1 (pt_cmpR op_lt (pe_ix ix_tup (pv 13) (pv 17) (fun _ _ => rfl)) (pe_ix ix_tup (pv 15) (pv 17) (fun _ _ => rfl)) (nomark _)))))))) pss_never pss_nil) (pss_one (ps_if (PW.pt (pw_and (pt_cmpR op_notN (pe_ix ix_tup (pv 16) (pv 17) (fun _ _ => rfl)) pe_non (nomark _)) (pw_and1 (PW.pt (pw_or (pt_cmpR op_isN (pe_ix ix_tup (pv 14) (pv 17) (fun _ _ => rfl)) pe_non (nomark _)) (pw_or1 (pt_cmpR op_gt (pe_ix ix_tup (pv 14) (pv 17) (fun _ _ => rfl)) (pe_ix ix_tup (pv 16) (pv 17) (fun _ _ => rfl)) (nomark _)))))))) pss_never pss_nil)))) (pss_one (ps_ret (pe_and (pe_cmpR op_eq (pe_ix ix_tup (pv 15) (pe_un un_neg pe_int) (fun _ _ => rfl)) (pv 3) (nomark _)) (pe_one (pe_cmpR op_eq (pe_ix ix_tup (pv 16) (pe_un un_neg pe_int) (fun _ _ => rfl)) (pe_ix ix_tup (pv 2) pe_int (fun _ _ => rfl)) (nomark _)))))))))))))))))))), ?_⟩
    refine ⟨_, rfl, by show 4 ≤ sizeLine; decide, fun r hr0 => ?_⟩
    show (tSeq _ _) _ [some (.ref a), some (.ref r), none, none, none, none, none, none, none, none, none, none, none, none, none, none, none, none] _
    have R1 : RowOk ⟨K, a, ns⟩ (upd H r (.lst [.ref a, .int 0, .int 4462, .int 0])) r := ⟨0, 4462, 0, upd_same, sq_new hr0 hs, by decide, by decide⟩
    have tb1 : Tb TT (upd H r (.lst [.ref a, .int 0, .int 4462, .int 0])) := tb.same (same_new hr0)
    refine ⟨_, rfl, r, rfl, R1, fun d C s' e q H2 hD2 ok dr2 => ?_⟩
    show (tSeq _ _) _ [some (.ref a), some (.ref r), some (.ref d), none, none, none, none, none, none, none, none, none, none, none, none, none, none, none] H2
    have tb2 := tb1.dr R1 dr2
    obtain ⟨qa, hd2, hq2⟩ := id hD2
    refine ⟨_, rfl, d, _, _, _, rfl, rfl, SqT.of hd2, atI_nat (j := 0) rfl, _, rfl, d, _, _, _, rfl, rfl, SqT.of hd2, atI_nat (j := 3) rfl, _, rfl, _, rfl, r, 40, rfl, dr2.2, by decide, by decide, fun n H3 n0 n1 d3 => ?_⟩
    refine ⟨by show 3 ≤ sizeLine; decide, fun l hl => ?_⟩
    have d4 : Dr ⟨K, a, ns⟩ r H3 (upd H3 l (.lst [.int 0, .int 5, .int n])) := dr_new d3.2 hl
    refine ⟨r, l, _, rfl, d4.2, upd_same, row_ne d3.2 hl, by show 0 < 3; decide, by show 3 < 100; decide, fun i x H4 hx d5 => ?_⟩
    obtain ⟨o, rfl, o0, o1⟩ := pick3 n0 n1 hx
    refine ⟨_, _, _, rfl, ?_⟩
    show (tSeq _ _) _ [some (.ref a), some (.ref r), some (.ref d), some (.int C), some (.ref qa), some (.int o), none, none, none, none, none, none, none, none, none, none, none, none] H4
    have dX := d3.trans (d4.trans d5)
    have hD4 := hD2.dr dr2.2 dX
    have tb4 := tb2.dr dr2.2 dX
    have hqd : ∀ {Hx : Hp}, Dr ⟨K, a, ns⟩ r H2 Hx → Hx d = some (.tup [.int C, .int s', .int e, .ref qa]) ∧ Hx qa = some (.tup (q.map V.int)) := fun {Hx} dd => by
      obtain ⟨ra, rb, rc, hr, _⟩ := dr2.2
      exact ⟨dd.1 _ _ (fun z => by rw [z, hr] at hd2; cases hd2) hd2, dd.1 _ _ (fun z => by rw [z, hr] at hq2; cases hq2) hq2⟩
    have hq4 := (hqd dX).2
    refine ⟨_, rfl, _, rfl, qa, _, rfl, .inr (SqT.of hq4), r, (q.map V.int).length, rfl, by rw [List.length_map]; exact ok.q.2.1, dX.2, fun a2 ds H5 ha5 hl5 hb d6 => ?_⟩
    have dY := dX.trans d6
    obtain ⟨hd5, hq5⟩ := hqd dY
    have tb5 := tb4.dr dX.2 d6
    refine ⟨_, rfl, d, _, _, _, rfl, rfl, SqT.of hd5, atI_nat (j := 1) rfl, _, _, rfl, ?_⟩
    show (tSeq _ _) _ [some (.ref a), some (.ref r), some (.ref d), some (.int C), some (.ref qa), some (.int o), some (.ref a2), some (.int s'), none, none, none, none, none, none, none, none, none, none] H5
    have hlq : q.length = ds.length := by rw [hl5, List.length_map]
    have okd : FlOk ds := ⟨by rw [← hlq]; exact ok.q.1, by rw [← hlq]; exact ok.q.2.1, hb⟩
    have hD5 : DamAt H5 d C s' e q := ⟨qa, hd5, hq5⟩
    clear hD4 tb4 hq4 dX d6 d5 d4 d3 tb2 hD2 dr2 tb1 R1 hx hl
    -- the flood curve, the least peak
    refine ⟨_, rfl, _, rfl, _, rfl, C, o, qa, q, rfl, ok.c0, ok.c1, o0, by omega, hq5, ok.q, tb5, fun tt H6 x6 t6 ht => ⟨tt, _, _, _, rfl, rfl, SqT.of ht, atI_nat (j := 0) (flood_0 q), ?_⟩⟩
    show (tSeq _ _) _ [some (.ref a), some (.ref r), some (.ref d), some (.int C), some (.ref qa), some (.int o), some (.ref a2), some (.int s'), _, none, none, none, none, none, none, none, none, none] H6
    have hq6 := x6 _ _ hq5 rfl
    refine ⟨_, rfl, by show 2 ≤ sizeLine; decide, fun p1 hp1 => ⟨_, rfl, _, rfl, _, rfl, by show 4 ≤ sizeLine; decide, fun dz hdz => ?_⟩⟩
    have smz : Same H6 (upd (upd H6 p1 (.tup [.int o, .int 1])) dz (.tup [.int C, .int s', .int 0, .ref qa])) := (same_new hp1).trans (same_new hdz)
    refine ⟨dz, C, s', q, rfl, ⟨qa, upd_same, smz _ _ hq6⟩, ⟨ok.c0, ok.c1, ok.s0, ok.s1, by omega, ok.c0, ok.q⟩, t6.same smz, fun p t b H7 x7 t7 hp pk => ?_⟩
    have x67 : Ext H6 H7 := (Ext.same smz).trans x7
    have x57 := x6.trans x67
    have pt0 := pk.t0
    have pt1 := pk.t1
    refine ⟨p1, p, o, 1, t, b, rfl, x7 _ _ ((same_new hdz) _ _ upd_same) rfl, hp, ⟨by omega, by omega⟩, ⟨by omega, by omega⟩, _, rfl, ?_⟩
    show (tSeq _ _) _ [some (.ref a), some (.ref r), some (.ref d), some (.int C), some (.ref qa), some (.int o), some (.ref a2), some (.int s'), _, _, none, none, none, none, none, none, none, none] H7
    refine ⟨_, rfl, _, rfl, rfl, and_tail (d := match (flood C o q).headD none with | some x => decide (s' ≤ x) | none => false) (fun hc Q' q' => ?_) ?_⟩
    · cases hh : (flood C o q).headD none with
      | none => rw [hh, opt_dec] at hc; cases hc
      | some x =>
        rw [hh] at q'
        exact ⟨_, rfl, _, rfl, _, _, rfl, rfl, q'⟩
    refine ⟨rfl, _, rfl, if_false_of (ne_same (by rw [top_and]; exact fits_eq ok.c0 ok.s0 ok.s1 o0 pk)) ?_⟩
    show (tSeq _ _) _ [some (.ref a), some (.ref r), some (.ref d), some (.int C), some (.ref qa), some (.int o), some (.ref a2), some (.int s'), _, _, none, none, none, none, none, none, none, none] H7
    -- the fill curve, the run, what is lacking
    have hD7 := hD5.ext x57
    have ha7 := x57 _ _ ha5 rfl
    refine ⟨_, rfl, _, rfl, d, a2, C, s', e, q, ds, rfl, hD7, ok, ha7, okd, hlq, t7, fun tl H8 x8 t8 hlow => ⟨tl, _, _, _, rfl, rfl, SqT.of hlow, atI_nat (j := 0) (fill_0 (q.zip ds)), ?_⟩⟩
    show (tSeq _ _) _ [some (.ref a), some (.ref r), some (.ref d), some (.int C), some (.ref qa), some (.int o), some (.ref a2), some (.int s'), _, _, _, none, none, none, none, none, none, none] H8
    have hD8 := hD7.ext x8
    have ha8 := x8 _ _ ha7 rfl
    refine ⟨_, rfl, _, rfl, d, a2, C, s', e, q, ds, rfl, hD8, ok, ha8, okd, hlq, t8, fun tm ads H9 x9 t9 hm hR => ?_⟩
    show (tSeq _ _) _ [some (.ref a), some (.ref r), some (.ref d), some (.int C), some (.ref qa), some (.int o), some (.ref a2), some (.int s'), _, _, _, _, none, none, none, none, none, none] H9
    have hD9 := hD8.ext x9
    have ha9 := x9 _ _ ha8 rfl
    refine ⟨_, rfl, _, rfl, d, a2, C, s', e, q, ds, rfl, hD9, ok, ha9, okd, hlq, t9, fun H10 x10 t10 => ?_⟩
    have hD10 := hD9.ext x10
    have ha10 := x10 _ _ ha9 rfl
    have x510 : Ext H5 H10 := ((x57.trans x8).trans x9).trans x10
    have hd10 := x510 _ _ hd5 rfl
    have hq10 := x510 _ _ hq5 rfl
    have hzne : q.zip ds ≠ [] := fun z => by
      have h1 := congrArg List.length z
      rw [List.length_zip] at h1
      have h2 := ok.q.1
      simp only [List.length_nil] at h1
      omega
    obtain ⟨g, sp, hlast⟩ := rows_last (C := C) (q.zip ds) s' hzne
    have hal := hR.1
    have hpl : ads[ads.length - 1]? = some (ads[ads.length - 1]'(by
        have := (List.getElem?_eq_some_iff.mp hlast).1
        omega)) := List.getElem?_eq_getElem _
    generalize ads[ads.length - 1]'(by
        have := (List.getElem?_eq_some_iff.mp hlast).1
        omega) = pl at hpl
    have hrow := hR.2 (ads.length - 1) pl _ hpl (by rw [hal]; exact hlast)
    refine ⟨rfl, and_tail (d := decide (e ≤ lastH C s' (q.zip ds))) (fun _ Q' q' => ?_) ?_⟩
    · refine ⟨_, rfl, _, rfl, tm, _, _, _, rfl, rfl, SqT.of (x10 _ _ hm rfl), at_neg (v := .ref pl) (by rw [List.length_map, List.getElem?_map, hpl]; rfl), ?_⟩
      refine ⟨pl, _, _, _, rfl, rfl, SqT.of (x10 _ _ hrow rfl), atI_nat (j := 2) rfl, _, rfl, d, _, _, _, rfl, rfl, SqT.of hd10, atI_nat (j := 2) rfl, _, _, rfl, rfl, q'⟩
    show (tSeq _ _) _ [some (.ref a), some (.ref r), some (.ref d), some (.int C), some (.ref qa), some (.int o), some (.ref a2), some (.int s'), _, _, _, _, _, none, none, none, none, none] H10
    refine ⟨_, rfl, _, rfl, rfl, and_tail (d := match (fill C e (q.zip ds)).headD none with | some x => decide (x ≤ s') | none => false) (fun hc Q' q' => ?_) ?_⟩
    · cases hh : (fill C e (q.zip ds)).headD none with
      | none => rw [hh, opt_dec] at hc; cases hc
      | some x =>
        rw [hh] at q'
        exact ⟨_, rfl, _, rfl, _, _, rfl, rfl, q'⟩
    refine ⟨rfl, _, rfl, if_false_of (ne_same (by rw [low_and, dec_z]; exact meets_eq ok hlq)) ?_⟩
    show (tSeq _ _) _ [some (.ref a), some (.ref r), some (.ref d), some (.int C), some (.ref qa), some (.int o), some (.ref a2), some (.int s'), _, _, _, _, _, none, none, none, none, none] H10
    -- a greater outlet, smaller demands
    have mn := min2_le 1000 (o + 3)
    refine ⟨_, rfl, _, rfl, _, _, rfl, rfl, _, _, rfl, _, rfl, C, min2 1000 (o + 3), qa, q, rfl, ok.c0, ok.c1, by omega, by omega, hq10, ok.q, t10, fun tw H11 x11 t11 hw => ?_⟩
    have ha11 := x11 _ _ ha10 rfl
    refine ⟨_, rfl, _, rfl, a2, rfl, ⟨_, SqT.of ha11⟩, fun D2 hD2 => ?_⟩
    refine lc_tup (K := K) (a := a2) (xs := ds.map V.int) (fun i H' => Same H11 H' ∧ H' D2 = some (.lst ((ds.take i).map fun z => V.int (max2 0 (z - 1))))) ⟨same_new hD2, upd_same⟩ (fun i H' _ ⟨sm, _⟩ => SqT.of (sm _ _ ha11)) ?_ ?_
    · rintro i x H' hi ⟨sm, hL⟩
      obtain ⟨z, hz, rfl⟩ := int_get hi
      refine ⟨rfl, ?_⟩
      refine ⟨_, rfl, _, _, rfl, rfl, _, _, rfl, _, hL, ?_, fun c u hu => ?_, ?_⟩
      · rw [List.length_map, List.length_take]
        have := okd.2.1
        exact small1000 (by omega)
      · rw [upd_ne (fun z => by rw [z, hD2] at hu; cases hu)]
        exact sm _ _ hu
      · rw [upd_same, take_snoc hz, List.map_append]
        rfl
    rintro H' ⟨sm, hL⟩
    have eL : (ds.take (ds.map V.int).length).map (fun z => V.int (max2 0 (z - 1))) = (ds.map fun z => max2 0 (z - 1)).map V.int := by
      rw [List.take_of_length_le (by rw [List.length_map]; exact Nat.le_refl _), List.map_map]
      rfl
    rw [eL] at hL
    refine ⟨D2, _, rfl, .inl ⟨SqL.of hL, fun td htd => ?_⟩⟩
    have smd : Same H11 (upd H' td (.tup ((ds.map fun z => max2 0 (z - 1)).map V.int))) := sm.trans (same_new htd)
    have okd2 : FlOk (ds.map fun z => max2 0 (z - 1)) := ⟨by rw [List.length_map]; exact okd.1, by rw [List.length_map]; exact okd.2.1, fun m hm => by
      obtain ⟨z, hz, rfl⟩ := List.mem_map.mp hm
      have b1 := okd.2.2 z hz
      have b2 := max2_le 0 (z - 1)
      omega⟩
    have hD11 := hD10.ext x11
    refine ⟨d, td, C, s', e, q, _, rfl, hD11.ext (Ext.same smd), ok, upd_same, okd2, by rw [List.length_map]; exact hlq, t11.same smd, fun tmo H12 x12 t12 hmo => ⟨_, _, rfl, ?_⟩⟩
    show (tSeq _ _) _ [some (.ref a), some (.ref r), some (.ref d), some (.int C), some (.ref qa), some (.int o), some (.ref a2), some (.int s'), _, _, _, _, _, some (.ref tw), some (.ref tmo), none, none, none] H12
    have x1112 : Ext H11 H12 := (Ext.same smd).trans x12
    have hw12 := x1112 _ _ hw rfl
    have hq12 := x1112 _ _ (x11 _ _ hq10 rfl) rfl
    have hd12 := x1112 _ _ (x11 _ _ hd10 rfl) rfl
    have ha12 := x1112 _ _ ha11 rfl
    refine ⟨_, rfl, _, rfl, _, rfl, C, o, qa, q, rfl, ok.c0, ok.c1, o0, by omega, hq12, ok.q, t12, fun t1 H13 x13 t13 h1 => ?_⟩
    refine ⟨_, rfl, _, rfl, d, a2, C, s', e, q, ds, rfl, ⟨qa, x13 _ _ hd12 rfl, x13 _ _ hq12 rfl⟩, ok, x13 _ _ ha12 rfl, okd, hlq, t13, fun t2 H14 x14 t14 h2 => ⟨_, _, rfl, ?_⟩⟩
    show (tSeq _ _) _ [some (.ref a), some (.ref r), some (.ref d), some (.int C), some (.ref qa), some (.int o), some (.ref a2), some (.int s'), _, _, _, _, _, some (.ref tw), some (.ref tmo), some (.ref t1), some (.ref t2), none] H14
    have x1214 := x13.trans x14
    have hw14 := x1214 _ _ hw12 rfl
    have hmo14 := x1214 _ _ hmo rfl
    have h114 := x14 _ _ h1 rfl
    have hq14 := x1214 _ _ hq12 rfl
    have hd14 := x1214 _ _ hd12 rfl
    have l12 := ok.q.2.1
    have lm : (q.map V.int).length = q.length := List.length_map ..
    refine ⟨_, rfl, ?_⟩
    refine ⟨qa, _, rfl, .inr (SqT.of hq14), ?_⟩
    refine ⟨_, _, rfl, rfl, ?_⟩
    refine ⟨_, rfl, ?_, ?_, ?_⟩
    · rw [lm]
      omega
    · rw [lm]
      omega
    refine for_range (lo := 0) (n := (((q.map V.int).length : Int) + 1).toNat) (fun i σ H' => H' = H14 ∧ ∃ v8 v9 v10 v11 v12 v17 : Option V, σ = [some (.ref a), some (.ref r), some (.ref d), some (.int C), some (.ref qa), some (.int o), some (.ref a2), some (.int s'), v8, v9, v10, v11, v12, some (.ref tw), some (.ref tmo), some (.ref t1), some (.ref t2), v17]) ⟨rfl, _, _, _, _, _, _, rfl⟩ ?_ ?_
    · rintro i σ H' hi ⟨rfl, v8, v9, v10, v11, v12, v17, rfl⟩
      have hi2 : i < q.length + 1 := by omega
      obtain ⟨av, hav⟩ : ∃ v, (flood C o q)[i]? = some v := ⟨_, List.getElem?_eq_getElem (by rw [flood_len]; omega)⟩
      obtain ⟨bv, hbv⟩ : ∃ v, (flood C (min2 1000 (o + 3)) q)[i]? = some v := ⟨_, List.getElem?_eq_getElem (by rw [flood_len]; omega)⟩
      have rl : LeO av bv := flood_mono (by omega) q i av bv hav hbv
      have hzz : (q.zip ds).length = q.length := by rw [List.length_zip]; omega
      have hzz2 : (q.zip (ds.map fun z => max2 0 (z - 1))).length = q.length := by rw [List.length_zip, List.length_map]; omega
      obtain ⟨cv, hcv⟩ : ∃ v, (fill C e (q.zip ds))[i]? = some v := ⟨_, List.getElem?_eq_getElem (by rw [fill_len, hzz]; omega)⟩
      obtain ⟨dv, hdv⟩ : ∃ v, (fill C e (q.zip (ds.map fun z => max2 0 (z - 1))))[i]? = some v := ⟨_, List.getElem?_eq_getElem (by rw [fill_len, hzz2]; omega)⟩
      have rg : GeO cv dv := fill_mono q ds _ i cv dv (by rw [List.length_map]) (fun j u v hu hv => by
        rw [List.getElem?_map, hu] at hv
        have e3 : max2 0 (u - 1) = v := Option.some.inj hv
        have b1 := okd.2.2 u (List.mem_of_getElem? hu)
        have b2 := max2_le 0 (u - 1)
        omega) hcv hdv
      show (tSeq _ _) _ [some (.ref a), some (.ref r), some (.ref d), some (.int C), some (.ref qa), some (.int o), some (.ref a2), some (.int s'), _, _, _, _, _, some (.ref tw), some (.ref tmo), some (.ref t1), some (.ref t2), some (.int (0 + (i : Int)))] _
      refine ⟨_, rfl, _, rfl, t1, _, _, _, rfl, rfl, SqT.of h114, at_k hav, rfl, _, rfl, ?_⟩
      cases av with
      | none =>
        refine if_false_of (by rw [opt_dec]; rfl) (if_false_of rfl ?_)
        refine ⟨_, rfl, _, rfl, t2, _, _, _, rfl, rfl, SqT.of h2, at_k hcv, rfl, _, rfl, ?_⟩
        cases cv with
        | none =>
          refine if_false_of (by rw [opt_dec]; rfl) (if_false_of rfl ?_)
          exact ⟨rfl, _, _, _, _, _, _, rfl⟩
        | some x =>
          cases dv with
          | none => exact rg.elim
          | some y =>
            refine if_true_of (by rw [opt_dec]; rfl) ?_
            refine ⟨_, rfl, _, rfl, tmo, _, _, _, rfl, rfl, SqT.of hmo14, at_k hdv, rfl, _, rfl, if_false_of (by rw [opt_dec]; rfl) ?_⟩
            refine ⟨_, rfl, _, rfl, tmo, _, _, _, rfl, rfl, SqT.of hmo14, at_k hdv, _, rfl, _, rfl, t2, _, _, _, rfl, rfl, SqT.of h2, at_k hcv, _, _, rfl, rfl, _, rfl, if_false_of (decide_eq_false (show ¬ x < y from fun z => absurd rg (by show ¬ y ≤ x; omega))) ?_⟩
            exact ⟨rfl, _, _, _, _, _, _, rfl⟩
      | some x =>
        cases bv with
        | none => exact rl.elim
        | some y =>
          refine if_true_of (by rw [opt_dec]; rfl) ?_
          refine ⟨_, rfl, _, rfl, tw, _, _, _, rfl, rfl, SqT.of hw14, at_k hbv, rfl, _, rfl, if_false_of (by rw [opt_dec]; rfl) ?_⟩
          refine ⟨_, rfl, _, rfl, tw, _, _, _, rfl, rfl, SqT.of hw14, at_k hbv, _, rfl, _, rfl, t1, _, _, _, rfl, rfl, SqT.of h114, at_k hav, _, _, rfl, rfl, _, rfl, if_false_of (decide_eq_false (show ¬ y < x from fun z => absurd rl (by show ¬ x ≤ y; omega))) ?_⟩
          refine ⟨_, rfl, _, rfl, t2, _, _, _, rfl, rfl, SqT.of h2, at_k hcv, rfl, _, rfl, ?_⟩
          cases cv with
          | none =>
            refine if_false_of (by rw [opt_dec]; rfl) (if_false_of rfl ?_)
            exact ⟨rfl, _, _, _, _, _, _, rfl⟩
          | some x =>
            cases dv with
            | none => exact rg.elim
            | some y =>
              refine if_true_of (by rw [opt_dec]; rfl) ?_
              refine ⟨_, rfl, _, rfl, tmo, _, _, _, rfl, rfl, SqT.of hmo14, at_k hdv, rfl, _, rfl, if_false_of (by rw [opt_dec]; rfl) ?_⟩
              refine ⟨_, rfl, _, rfl, tmo, _, _, _, rfl, rfl, SqT.of hmo14, at_k hdv, _, rfl, _, rfl, t2, _, _, _, rfl, rfl, SqT.of h2, at_k hcv, _, _, rfl, rfl, _, rfl, if_false_of (decide_eq_false (show ¬ x < y from fun z => absurd rg (by show ¬ y ≤ x; omega))) ?_⟩
              exact ⟨rfl, _, _, _, _, _, _, rfl⟩
    · rintro σ H' ⟨rfl, v8, v9, v10, v11, v12, v17, rfl⟩
      have f1 : ((flood C o q).map optV)[((flood C o q).map optV).length - 1]? = some (optV (some C)) := by
        rw [List.length_map, flood_len, List.getElem?_map, show q.length + 1 - 1 = q.length by omega, flood_last q]
        rfl
      have f2 : ((fill C e (q.zip ds)).map optV)[((fill C e (q.zip ds)).map optV).length - 1]? = some (optV (some e)) := by
        rw [List.length_map, fill_len, List.getElem?_map, show (q.zip ds).length + 1 - 1 = (q.zip ds).length by omega, fill_last (q.zip ds)]
        rfl
      refine ⟨_, rfl, _, rfl, t1, _, _, _, rfl, rfl, SqT.of h114, at_neg f1, _, rfl, rfl, _, rfl, if_true_of (decide_eq_true rfl) ?_⟩
      refine ⟨_, rfl, _, rfl, t2, _, _, _, rfl, rfl, SqT.of h2, at_neg f2, _, rfl, d, _, _, _, rfl, rfl, SqT.of hd14, atI_nat (j := 2) rfl, rfl, ?_⟩
      show Q (.bl (decide (optV (some e) = V.int e))) _
      rw [decide_eq_true (show optV (some e) = V.int e from rfl)]
      exact k _
end Dw
set_option maxHeartbeats 4000000
namespace Dw
open PySem PySem.Spec PyProof.Rows L2
theorem law_at {w : World} {mg : Str → Option Value} {fa : Addr} {h : Heap} {K : PySem.W.Frag} (KX : K.In h) (G : h.Ns mainGlobals mg) (c : He.SaysX Dw.fa fn [] tf ex w h K) (hmg0 : mg "law" = some (.ref fa)) :
    LamX.LawAtS PySem.Challenge.rw_damworks_k62_across_curves w K L2.CX0 6 63 "_law_script" mg fa h := by
  obtain ⟨fd_ratio, F_ratio⟩ := c.t.d.defs (d := dfd "ratio" 9) (List.mem_of_getElem? (i := 0) rfl)
  have D_ratio : Df K mg "ratio" 9 (He.fAd K ("ratio", none)) fd_ratio := ⟨F_ratio, He.glo_ok KX G (c.t.d.facts (f := .glo "ratio") (List.mem_of_getElem? (i := 0) rfl))⟩
  obtain ⟨fd_less, F_less⟩ := c.t.d.defs (d := dfd "less" 10) (List.mem_of_getElem? (i := 1) rfl)
  have D_less : Df K mg "less" 10 (He.fAd K ("less", none)) fd_less := ⟨F_less, He.glo_ok KX G (c.t.d.facts (f := .glo "less") (List.mem_of_getElem? (i := 1) rfl))⟩
  obtain ⟨fd_is_in, F_is_in⟩ := c.t.d.defs (d := dfd "is_in" 15) (List.mem_of_getElem? (i := 2) rfl)
  have D_is_in : Df K mg "is_in" 15 (He.fAd K ("is_in", none)) fd_is_in := ⟨F_is_in, He.glo_ok KX G (c.t.d.facts (f := .glo "is_in") (List.mem_of_getElem? (i := 2) rfl))⟩
  obtain ⟨fd_are_flows, F_are_flows⟩ := c.t.d.defs (d := dfd "are_flows" 16) (List.mem_of_getElem? (i := 3) rfl)
  have D_are_flows : Df K mg "are_flows" 16 (He.fAd K ("are_flows", none)) fd_are_flows := ⟨F_are_flows, He.glo_ok KX G (c.t.d.facts (f := .glo "are_flows") (List.mem_of_getElem? (i := 3) rfl))⟩
  obtain ⟨fd_need_dam, F_need_dam⟩ := c.t.d.defs (d := dfd "need_dam" 17) (List.mem_of_getElem? (i := 4) rfl)
  have D_need_dam : Df K mg "need_dam" 17 (He.fAd K ("need_dam", none)) fd_need_dam := ⟨F_need_dam, He.glo_ok KX G (c.t.d.facts (f := .glo "need_dam") (List.mem_of_getElem? (i := 4) rfl))⟩
  obtain ⟨fd_most_held, F_most_held⟩ := c.t.d.defs (d := dfd "most_held" 18) (List.mem_of_getElem? (i := 5) rfl)
  have D_most_held : Df K mg "most_held" 18 (He.fAd K ("most_held", none)) fd_most_held := ⟨F_most_held, He.glo_ok KX G (c.t.d.facts (f := .glo "most_held") (List.mem_of_getElem? (i := 5) rfl))⟩
  obtain ⟨fd_need_plans, F_need_plans⟩ := c.t.d.defs (d := dfd "need_plans" 19) (List.mem_of_getElem? (i := 6) rfl)
  have D_need_plans : Df K mg "need_plans" 19 (He.fAd K ("need_plans", none)) fd_need_plans := ⟨F_need_plans, He.glo_ok KX G (c.t.d.facts (f := .glo "need_plans") (List.mem_of_getElem? (i := 6) rfl))⟩
  obtain ⟨fd_need_demands, F_need_demands⟩ := c.t.d.defs (d := dfd "need_demands" 20) (List.mem_of_getElem? (i := 7) rfl)
  have D_need_demands : Df K mg "need_demands" 20 (He.fAd K ("need_demands", none)) fd_need_demands := ⟨F_need_demands, He.glo_ok KX G (c.t.d.facts (f := .glo "need_demands") (List.mem_of_getElem? (i := 7) rfl))⟩
  obtain ⟨fd_run_of, F_run_of⟩ := c.t.d.defs (d := dfd "run_of" 21) (List.mem_of_getElem? (i := 8) rfl)
  have D_run_of : Df K mg "run_of" 21 (He.fAd K ("run_of", none)) fd_run_of := ⟨F_run_of, He.glo_ok KX G (c.t.d.facts (f := .glo "run_of") (List.mem_of_getElem? (i := 8) rfl))⟩
  obtain ⟨fd_run, F_run⟩ := c.t.d.defs (d := dfd "run" 22) (List.mem_of_getElem? (i := 9) rfl)
  have D_run : Df K mg "run" 22 (He.fAd K ("run", none)) fd_run := ⟨F_run, He.glo_ok KX G (c.t.d.facts (f := .glo "run") (List.mem_of_getElem? (i := 9) rfl))⟩
  obtain ⟨fd_spans, F_spans⟩ := c.t.d.defs (d := dfd "spans" 24) (List.mem_of_getElem? (i := 10) rfl)
  have D_spans : Df K mg "spans" 24 (He.fAd K ("spans", none)) fd_spans := ⟨F_spans, He.glo_ok KX G (c.t.d.facts (f := .glo "spans") (List.mem_of_getElem? (i := 10) rfl))⟩
  obtain ⟨fd_need_inflows, F_need_inflows⟩ := c.t.d.defs (d := dfd "need_inflows" 26) (List.mem_of_getElem? (i := 11) rfl)
  have D_need_inflows : Df K mg "need_inflows" 26 (He.fAd K ("need_inflows", none)) fd_need_inflows := ⟨F_need_inflows, He.glo_ok KX G (c.t.d.facts (f := .glo "need_inflows") (List.mem_of_getElem? (i := 11) rfl))⟩
  obtain ⟨fd_flood_curve, F_flood_curve⟩ := c.t.d.defs (d := dfd "flood_curve" 27) (List.mem_of_getElem? (i := 12) rfl)
  have D_flood_curve : Df K mg "flood_curve" 27 (He.fAd K ("flood_curve", none)) fd_flood_curve := ⟨F_flood_curve, He.glo_ok KX G (c.t.d.facts (f := .glo "flood_curve") (List.mem_of_getElem? (i := 12) rfl))⟩
  obtain ⟨fd_fill_curve, F_fill_curve⟩ := c.t.d.defs (d := dfd "fill_curve" 28) (List.mem_of_getElem? (i := 13) rfl)
  have D_fill_curve : Df K mg "fill_curve" 28 (He.fAd K ("fill_curve", none)) fd_fill_curve := ⟨F_fill_curve, He.glo_ok KX G (c.t.d.facts (f := .glo "fill_curve") (List.mem_of_getElem? (i := 13) rfl))⟩
  obtain ⟨fd_span_peak, F_span_peak⟩ := c.t.d.defs (d := dfd "span_peak" 30) (List.mem_of_getElem? (i := 14) rfl)
  have D_span_peak : Df K mg "span_peak" 30 (He.fAd K ("span_peak", none)) fd_span_peak := ⟨F_span_peak, He.glo_ok KX G (c.t.d.facts (f := .glo "span_peak") (List.mem_of_getElem? (i := 14) rfl))⟩
  obtain ⟨fd_peak_of, F_peak_of⟩ := c.t.d.defs (d := dfd "peak_of" 31) (List.mem_of_getElem? (i := 15) rfl)
  have D_peak_of : Df K mg "peak_of" 31 (He.fAd K ("peak_of", none)) fd_peak_of := ⟨F_peak_of, He.glo_ok KX G (c.t.d.facts (f := .glo "peak_of") (List.mem_of_getElem? (i := 15) rfl))⟩
  obtain ⟨fd_least_peak, F_least_peak⟩ := c.t.d.defs (d := dfd "least_peak" 32) (List.mem_of_getElem? (i := 16) rfl)
  have D_least_peak : Df K mg "least_peak" 32 (He.fAd K ("least_peak", none)) fd_least_peak := ⟨F_least_peak, He.glo_ok KX G (c.t.d.facts (f := .glo "least_peak") (List.mem_of_getElem? (i := 16) rfl))⟩
  obtain ⟨fd_need_lack, F_need_lack⟩ := c.t.d.defs (d := dfd "need_lack" 34) (List.mem_of_getElem? (i := 17) rfl)
  have D_need_lack : Df K mg "need_lack" 34 (He.fAd K ("need_lack", none)) fd_need_lack := ⟨F_need_lack, He.glo_ok KX G (c.t.d.facts (f := .glo "need_lack") (List.mem_of_getElem? (i := 17) rfl))⟩
  obtain ⟨fd_total_lack, F_total_lack⟩ := c.t.d.defs (d := dfd "total_lack" 35) (List.mem_of_getElem? (i := 18) rfl)
  have D_total_lack : Df K mg "total_lack" 35 (He.fAd K ("total_lack", none)) fd_total_lack := ⟨F_total_lack, He.glo_ok KX G (c.t.d.facts (f := .glo "total_lack") (List.mem_of_getElem? (i := 18) rfl))⟩
  obtain ⟨fd__law_taken, F__law_taken⟩ := c.t.d.defs (d := dfd "_law_taken" 37) (List.mem_of_getElem? (i := 19) rfl)
  have D__law_taken : Df K mg "_law_taken" 37 (He.fAd K ("_law_taken", none)) fd__law_taken := ⟨F__law_taken, He.glo_ok KX G (c.t.d.facts (f := .glo "_law_taken") (List.mem_of_getElem? (i := 19) rfl))⟩
  obtain ⟨fd__law_pick, F__law_pick⟩ := c.t.d.defs (d := dfd "_law_pick" 38) (List.mem_of_getElem? (i := 20) rfl)
  have D__law_pick : Df K mg "_law_pick" 38 (He.fAd K ("_law_pick", none)) fd__law_pick := ⟨F__law_pick, He.glo_ok KX G (c.t.d.facts (f := .glo "_law_pick") (List.mem_of_getElem? (i := 20) rfl))⟩
  obtain ⟨fd__law_less, F__law_less⟩ := c.t.d.defs (d := dfd "_law_less" 44) (List.mem_of_getElem? (i := 21) rfl)
  have D__law_less : Df K mg "_law_less" 44 (He.fAd K ("_law_less", none)) fd__law_less := ⟨F__law_less, He.glo_ok KX G (c.t.d.facts (f := .glo "_law_less") (List.mem_of_getElem? (i := 21) rfl))⟩
  obtain ⟨fd__law_flow, F__law_flow⟩ := c.t.d.defs (d := dfd "_law_flow" 46) (List.mem_of_getElem? (i := 22) rfl)
  have D__law_flow : Df K mg "_law_flow" 46 (He.fAd K ("_law_flow", none)) fd__law_flow := ⟨F__law_flow, He.glo_ok KX G (c.t.d.facts (f := .glo "_law_flow") (List.mem_of_getElem? (i := 22) rfl))⟩
  obtain ⟨fd__law_dam, F__law_dam⟩ := c.t.d.defs (d := dfd "_law_dam" 47) (List.mem_of_getElem? (i := 23) rfl)
  have D__law_dam : Df K mg "_law_dam" 47 (He.fAd K ("_law_dam", none)) fd__law_dam := ⟨F__law_dam, He.glo_ok KX G (c.t.d.facts (f := .glo "_law_dam") (List.mem_of_getElem? (i := 23) rfl))⟩
  obtain ⟨fd__law_demands, F__law_demands⟩ := c.t.d.defs (d := dfd "_law_demands" 48) (List.mem_of_getElem? (i := 24) rfl)
  have D__law_demands : Df K mg "_law_demands" 48 (He.fAd K ("_law_demands", none)) fd__law_demands := ⟨F__law_demands, He.glo_ok KX G (c.t.d.facts (f := .glo "_law_demands") (List.mem_of_getElem? (i := 24) rfl))⟩
  obtain ⟨fd_law, F_law⟩ := c.t.d.defs (d := dfd "law" 52) (List.mem_of_getElem? (i := 25) rfl)
  have D_law : Df K mg "law" 52 (He.fAd K ("law", none)) fd_law := ⟨F_law, He.glo_ok KX G (c.t.d.facts (f := .glo "law") (List.mem_of_getElem? (i := 25) rfl))⟩
  have n_isinstance : mg "isinstance" = none := He.free_ok KX G (c.t.d.facts (f := .free "isinstance") (List.mem_of_getElem? (i := 26) rfl))
  have n_int : mg "int" = none := He.free_ok KX G (c.t.d.facts (f := .free "int") (List.mem_of_getElem? (i := 27) rfl))
  have n_bool : mg "bool" = none := He.free_ok KX G (c.t.d.facts (f := .free "bool") (List.mem_of_getElem? (i := 28) rfl))
  have n_tuple : mg "tuple" = none := He.free_ok KX G (c.t.d.facts (f := .free "tuple") (List.mem_of_getElem? (i := 29) rfl))
  have n_len : mg "len" = none := He.free_ok KX G (c.t.d.facts (f := .free "len") (List.mem_of_getElem? (i := 30) rfl))
  have n_all : mg "all" = none := He.free_ok KX G (c.t.d.facts (f := .free "all") (List.mem_of_getElem? (i := 31) rfl))
  have n_min : mg "min" = none := He.free_ok KX G (c.t.d.facts (f := .free "min") (List.mem_of_getElem? (i := 32) rfl))
  have n_max : mg "max" = none := He.free_ok KX G (c.t.d.facts (f := .free "max") (List.mem_of_getElem? (i := 33) rfl))
  have n_zip : mg "zip" = none := He.free_ok KX G (c.t.d.facts (f := .free "zip") (List.mem_of_getElem? (i := 34) rfl))
  have n_range : mg "range" = none := He.free_ok KX G (c.t.d.facts (f := .free "range") (List.mem_of_getElem? (i := 35) rfl))
  have n_list : mg "list" = none := He.free_ok KX G (c.t.d.facts (f := .free "list") (List.mem_of_getElem? (i := 36) rfl))
  have n_sum : mg "sum" = none := He.free_ok KX G (c.t.d.facts (f := .free "sum") (List.mem_of_getElem? (i := 37) rfl))
  obtain ⟨t0, h0⟩ := He.int_ok KX G (c.t.d.facts (f := .int "MOST_CAPACITY" 1000) (List.mem_of_getElem? (i := 38) rfl))
  obtain ⟨t1, h1⟩ := He.int_ok KX G (c.t.d.facts (f := .int "MOST_MONTHS" 12) (List.mem_of_getElem? (i := 39) rfl))
  obtain ⟨t2, h2⟩ := He.int_ok KX G (c.t.d.facts (f := .int "MOST_FLOW" 1000) (List.mem_of_getElem? (i := 40) rfl))
  have T : Tx K mg t0 t1 t2 := ⟨n_isinstance, n_int, n_bool, n_tuple, n_len, n_all, n_min, n_max, n_zip, n_range, n_list, n_sum, h0, h1, h2, PySem.W.mg_of KX G (He.eqO_ok c.more)⟩
  obtain rfl : fa = He.fAd K ("law", none) := by
    have e := D_law.g
    rw [hmg0] at e
    cases e
    rfl
  have IT : IsInT K mg (He.fAd K ("is_in", none)) fd_is_in := ⟨D_is_in.F, D_is_in.g, n_isinstance, n_int, n_bool⟩
  refine ⟨fd_law, tf.map (He.cT K), spLaw ((tf.map (He.cT K)).map (·.2)) K, fun p hp => ?_, fun p hp => ?_, fun p hp => ?_, fun s u => F_law.bindsA (ps := ps_law) (fun kV doc pm an cdv ct us h => ?_) s [u] rfl, fun H a ns _ _ ht hs => ⟨a, ns, rfl, hs, fun P hP => ?_, fun _ => rfl⟩, fun base _ _ tb => ?_⟩
  · obtain ⟨d, hd, rfl⟩ := List.mem_map.mp hp
    exact c.empty d hd
  · obtain ⟨d, hd, rfl⟩ := List.mem_map.mp hp
    exact c.out d hd
  · obtain ⟨d, hd, rfl⟩ := List.mem_map.mp hp
    exact PySem.W.codeHd_of_K KX (c.hd d hd)
  · match us, h with
    | [u0], _ => exact (by first | rfl | with_unfolding_all rfl)
  · obtain ⟨p, hp, rfl⟩ := List.mem_map.mp hP
    exact ⟨#[], ht p hp, by first | trivial | exact .nil | simp [TriplesOk]⟩
  · have tb1 := tb (He.cT K ("are_flows", none)) (List.mem_of_getElem? (i := 0) rfl)
    have tb2 := tb (He.cT K ("need_dam", none)) (List.mem_of_getElem? (i := 1) rfl)
    have tb3 := tb (He.cT K ("total_lack", none)) (List.mem_of_getElem? (i := 2) rfl)
    have m1 : (He.cT K ("are_flows", none)).2 ∈ (tf.map (He.cT K)).map (·.2) := List.mem_of_getElem? (i := 0) rfl
    have m2 : (He.cT K ("need_dam", none)).2 ∈ (tf.map (He.cT K)).map (·.2) := List.mem_of_getElem? (i := 1) rfl
    have m3 : (He.cT K ("total_lack", none)).2 ∈ (tf.map (He.cT K)).map (·.2) := List.mem_of_getElem? (i := 2) rfl
    have B1 : GxR.TabB base mg (He.codeOf K ("are_flows", none)) (He.cT K ("are_flows", none)).2 := ⟨tb1.code, tb1.bm, tb1.gP⟩
    have B2 : GxR.TabB base mg (He.codeOf K ("need_dam", none)) (He.cT K ("need_dam", none)).2 := ⟨tb2.code, tb2.bm, tb2.gP⟩
    have B3 : GxR.TabB base mg (He.codeOf K ("total_lack", none)) (He.cT K ("total_lack", none)).2 := ⟨tb3.code, tb3.bm, tb3.gP⟩
    generalize (tf.map (He.cT K)).map (·.2) = TT at m1 m2 m3
    have O_ratio := ok_ratio (P := PySem.Challenge.rw_damworks_k62_across_curves.prog) (w := w) (base := base) T D_ratio
    have O_less := ok_less (P := PySem.Challenge.rw_damworks_k62_across_curves.prog) (w := w) (base := base) T D_less
    have O_law_less := ok__law_less (P := PySem.Challenge.rw_damworks_k62_across_curves.prog) (w := w) (base := base) T D__law_less
    have O_is_in := ok_is_in (P := PySem.Challenge.rw_damworks_k62_across_curves.prog) (w := w) (base := base) T D_is_in
    have O_most := ok_most_held (P := PySem.Challenge.rw_damworks_k62_across_curves.prog) (w := w) (base := base) T D_most_held
    have O_plans := ok_need_plans T D_need_plans O_most
    have O_flows := ok_are_flows (P := PySem.Challenge.rw_damworks_k62_across_curves.prog) (w := w) T (TT := TT) m1 B1 IT D_are_flows
    have O_dam := ok_need_dam T m2 B2 IT D_need_dam O_is_in O_flows
    have O_dem := ok_need_demands T D_need_demands O_flows
    have O_inf := ok_need_inflows T D_need_inflows O_flows
    have O_lack := ok_need_lack T D_need_lack O_dam O_dem
    have O_run_of := ok_run_of (P := PySem.Challenge.rw_damworks_k62_across_curves.prog) (w := w) (base := base) T D_run_of
    have O_run := ok_run T D_run O_dam O_dem O_run_of
    have O_total := ok_total_lack T m3 B3 D_total_lack O_lack O_run_of
    have O_spans := ok_spans (P := PySem.Challenge.rw_damworks_k62_across_curves.prog) (w := w) (base := base) T D_spans
    have O_sp := ok_span_peak T D_span_peak O_ratio
    have O_pk := ok_peak_of T D_peak_of O_spans O_sp O_less
    have O_least := ok_least_peak T D_least_peak O_dam O_plans O_pk
    have O_flood := ok_flood_curve T D_flood_curve O_is_in O_inf
    have O_fill := ok_fill_curve T D_fill_curve O_dam O_dem
    have O_taken := fun (sc : Addr) (ns : List Int) => ok__law_taken (P := PySem.Challenge.rw_damworks_k62_across_curves.prog) (w := w) (base := base) (sc := sc) (ns := ns) T D__law_taken
    have O_pick := fun (sc : Addr) (ns : List Int) => ok__law_pick T D__law_pick (O_taken sc ns)
    have O_flow := fun (sc : Addr) (ns : List Int) => ok__law_flow T D__law_flow (O_taken sc ns) (O_pick sc ns)
    have O_demands := fun (sc : Addr) (ns : List Int) => ok__law_demands T D__law_demands (O_flow sc ns)
    have O_ldam := fun (sc : Addr) (ns : List Int) => ok__law_dam T D__law_dam (O_taken sc ns) (O_pick sc ns) (O_flow sc ns)
    exact ok_law T D_law O_ldam O_pick O_taken O_demands O_flood O_law_less O_least O_fill O_run O_total
end Dw
set_option maxHeartbeats 0
open PySem PySem.W PySem.Calls PyProof.Rows
theorem PySem.Challenge.cw_damworks_k62_across_curves_holds : PySem.Challenge.rw_damworks_k62_across_curves.Holds := by
  w_on; o_law
  refine HandSHeadRun.head_imp (r := OpenLaw.row PySem.Challenge.rw_damworks_k62_across_curves) (q := view (OpenLaw.row PySem.Challenge.rw_damworks_k62_across_curves).prog [0, 52]) (H := Dw.hk) (ob := Dw.ob) (M := 20000) (loose := Dw.loose) (d := HandSHeadRun.topDef (OpenLaw.row PySem.Challenge.rw_damworks_k62_across_curves).prog 52) (kwd := []) Dw.ob_eq
    Dw.run (by kernel_rfl) (by kernel_rfl) (by rfl) (by first | assumption | decide +kernel) (by decide +kernel) (by decide +kernel) ⟨rfl, rfl, rfl, rfl, rfl, by decide +kernel⟩ ?hw ?hc
  case hw => w_witness2
  case hc =>
    refine LamX.walk_ofTsE (l := PySem.Challenge.rw_damworks_k62_across_curves) (n := 63) (k := 6) (x := "_law_script") (CX := fun _ => L2.CX0) rfl (by decide) (by kernel_rfl) ⟨rfl, by decide, by decide⟩ ?F (fun _ _ _ _ _ z => z)
    intro w mg fa h Y G hmg0
    obtain ⟨K, KX, c⟩ := Y
    exact ⟨K, KX, Dw.law_at KX G c hmg0⟩
