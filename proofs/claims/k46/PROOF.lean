import PyProof.Rows.All
import Wide.All
import OpenK.AllK
import Wide.FinOn
import HandS.ForMost
import HandS.Defaults
import HandS.Head0
import HandS.Head1
import HandS.Head2
import HandS.HeadEnd
import HandS.HeadHook1
import HandS.HeadHook2
import HandS.HeadHook3
import HandS.HeadHook4
import HandS.HeadWalk
import HandS.IsInst
import HandS.Zip
import HandS.TupAny
import HandS.Deep
import KE.SortData
import KE.LtData
import HandS.Walk
import HandS.DictComp
import HandS.SetBool
import HandS.TupSets
import KE.KDictKeyed
import KE.KeyNested
import HandS.DictTup
import HandS.Strs
import HandS.SortInts
import PyProof.Draws
import PyProof.EnumMake
import HandS.Style
import HandS.Nested
import HandS.Conv
import PyProof.StrWalks
import PySem.Challenge.RW_formatwords_k46_whole_no_paper_beside_a
/-! text KText -/
set_option Elab.async false
set_option linter.all false
set_option maxRecDepth 100000
/-! The text by places. -/
namespace KM
open PySem L2
abbrev prg : Program := PySem.Challenge.pw_formatwords_k46_whole_no_paper_beside_a
def top (i : Nat) : Stmt := PySem.Challenge.pw_formatwords_k46_whole_no_paper_beside_a.main.body.getD i (.Pass ⟨0, 0, 0, 0⟩)
abbrev sIsCount : Stmt := top 3
abbrev sIsRising : Stmt := top 4
abbrev sArePlaces : Stmt := top 5
abbrev sAreSigns : Stmt := top 6
abbrev sIsStep : Stmt := top 7
abbrev sAreSteps : Stmt := top 8
abbrev sInit : Stmt := inClass (top 9) 0
abbrev sRuns : Stmt := top 10
abbrev sWayLeft : Stmt := top 11
abbrev sNearest : Stmt := top 12
abbrev sLeastText : Stmt := top 13
abbrev sMerged : Stmt := top 15
abbrev sComeTo : Stmt := top 16
abbrev sWaysOf : Stmt := top 17
abbrev sAssembled : Stmt := top 18
abbrev sTextMachine : Stmt := top 19
abbrev sEither : Stmt := top 20
abbrev sBoth : Stmt := top 21
abbrev sArePairs : Stmt := top 23
abbrev sMeet : Stmt := top 24
abbrev sShowsApart : Stmt := top 25
abbrev sCommon : Stmt := top 27
abbrev sWalked : Stmt := top 28
abbrev sTogether : Stmt := top 29
abbrev sApart : Stmt := top 30
abbrev sFeed : Stmt := top 32
abbrev sDraw : Stmt := top 33
abbrev sSigns : Stmt := top 34
abbrev sSome : Stmt := top 35
abbrev sRaw : Stmt := top 36
abbrev sNear : Stmt := top 37
abbrev sTexts : Stmt := top 38
abbrev sMade : Stmt := top 39
abbrev sLists : Stmt := top 40
abbrev sRight : Stmt := top 41
abbrev sLaw : Stmt := top 42
/-- a def of the text, without defaults, as it stands behind the top -/
abbrev FnP (K : PySem.W.Frag) (x q : Str) (st : Stmt) (f : Addr) (fd : FuncData) : Prop := FunD K x q (defArgs st) (defBody st) (defScope st) [] [] f fd
end KM
/-! text KHead0 -/
set_option Elab.async false
set_option linter.all false
set_option maxRecDepth 100000
set_option maxHeartbeats 0
namespace KM
open PySem PySem.Spec PyProof.Rows L2
def dD (x : String) (st : Stmt) : He.DefD := ⟨(x, none), x, x, defArgs st, defBody st, defScope st, [], []⟩
def fn1 : List He.DefD := [dD "is_count" sIsCount, dD "is_rising" sIsRising, dD "are_places" sArePlaces, dD "are_signs" sAreSigns, dD "is_step" sIsStep, dD "are_steps" sAreSteps, ⟨("Machine", some "__init__"), "__init__", "Machine.__init__", defArgs sInit, defBody sInit, defScope sInit, [], []⟩, dD "runs" sRuns, dD "way_left" sWayLeft, dD "nearest" sNearest, dD "least_text" sLeastText, dD "merged" sMerged, dD "come_to" sComeTo, dD "ways_of" sWaysOf, dD "assembled" sAssembled, dD "text_machine" sTextMachine, dD "either" sEither, dD "both" sBoth]
def fn2 : List He.DefD := [dD "are_pairs" sArePairs, dD "meet" sMeet, dD "shows_apart" sShowsApart, dD "common" sCommon, dD "walked" sWalked, dD "together" sTogether, dD "apart" sApart, dD "_law_feed" sFeed, dD "_law_draw" sDraw, dD "_law_signs" sSigns, dD "_law_some" sSome, dD "_law_raw" sRaw, dD "_law_near_clear" sNear, dD "_law_texts" sTexts, dD "_law_made" sMade, dD "_law_lists" sLists, dD "_law_right" sRight, dD "law" sLaw]
def fn : List He.DefD := fn1 ++ fn2
def fa1 : List He.Fa := [.cls "Machine", .mkr "Machine", .noat "Machine" "many", .noat "Machine" "begins", .noat "Machine" "steps", .noat "Machine" "ends", .noat "Machine" "onward", .glo "Machine",   .glo "is_count", .glo "is_rising", .glo "are_places", .glo "are_signs", .glo "is_step", .glo "are_steps", .glo "runs", .glo "way_left", .glo "nearest", .glo "least_text", .glo "merged", .glo "come_to", .glo "ways_of",   .glo "assembled"]
def fa2 : List He.Fa := [.glo "text_machine", .glo "either", .glo "both", .glo "are_pairs", .glo "meet", .glo "shows_apart", .glo "common", .glo "walked", .glo "together", .glo "apart", .glo "_law_feed", .glo "_law_draw",   .glo "_law_signs", .glo "_law_some", .glo "_law_raw", .glo "_law_near_clear", .glo "_law_texts", .glo "_law_made", .glo "_law_lists", .glo "_law_right", .glo "law",   .free "isinstance"]
def fa3 : List He.Fa := [.free "int", .free "bool", .free "tuple", .free "str", .free "list", .free "all", .free "any", .free "zip", .free "len", .free "ord", .free "range", .free "sum", .free "min", .free "sorted",   .free "enumerate", .free "set", .free "abs"]
def fa : List He.Fa := fa1 ++ fa2 ++ fa3
def tf : List He.Defn := [("apart", none)]
abbrev R : PySem.W.OpenRow := PySem.W.OpenLaw.row PySem.Challenge.rw_formatwords_k46_whole_no_paper_beside_a
def vw : Program := PySem.W.view R.prog [42]
abbrev hk : PySem.W.Hook := He.hookX 5 fa fn [] tf (fun _ => true)
def ob (s : PySem.W.SharedT) : He.AlX := He.obsX 5 fa fn [] tf (fun _ => true) (HandSHeadRun.getT s)
theorem ob_eq (s : PySem.W.SharedT) : ob s = hk.obs s.abs := He.obsX_eq (HandSHeadRun.getT_eq s)
def loose1 : List Str := ["is_count", "is_rising", "are_places", "are_signs", "is_step", "are_steps", "Machine", "NoMachine", "runs", "way_left", "nearest", "least_text", "merged", "come_to", "ways_of", "assembled", "text_machine", "either", "both", "are_pairs"]
def loose2 : List Str := ["meet", "shows_apart", "common", "walked", "together", "apart", "_law_feed", "_law_draw", "_law_signs", "_law_some", "_law_raw", "_law_near_clear", "_law_texts", "_law_made", "_law_lists", "_law_right"]
def loose : List Str := loose1 ++ loose2
theorem run (w : World) : HandSHeadRun.RunEq R vw hk ob 2400 loose w := by
  intro os
  kernel_rfl
end KM
/-! text KR1 -/
set_option Elab.async false
set_option linter.all false
set_option maxRecDepth 100000
set_option maxHeartbeats 2000000
/-! Own rules over the layer: < of data, sorted of data, min of texts. -/
namespace KM
open PySem PySem.Spec PyProof.Rows L2
section
variable {X : Cx}
/-- x < y, both standing for alike data -/
def rLtD (K : PySem.W.Frag) : R2 := fun x y H Q => ∃ d e, Dp K H x d ∧ Dp K H y e ∧ PySem.W.alike d e = true ∧ d ≠ .none ∧ d.depth ≤ 8 ∧ Q (.bl (PySem.W.dataLt d e)) H
theorem op_ltD (hu : X.A.units + 64 < cLine) : OpR X (compareOp .Lt) (rLtD X.K) := by
  intro pins s σ H x y v u Q I rx ry h
  obtain ⟨d, e, hd, he, ha, hn, h8, q⟩ := h
  obtain ⟨as, r1⟩ := Dp.reads I d x v hd rx
  obtain ⟨bs, r2⟩ := Dp.reads I e y u he ry
  exact PySem.W.rcLt_alike d e X.A s v u as bs r1 r2 ha hn (by omega) X.prog X.w _ _ ⟨.bl _, H, I, rfl, q⟩
/-- sorted(xs), the items standing for alike data -/
def rSortD (K : PySem.W.Frag) : List V → Hp → VK → Prop := fun vs H Q => ∃ (a : Addr) (bs : List (V × PyData)), vs = [V.ref a] ∧ SqL K H a (bs.map (·.1)) ∧ (∀ b ∈ bs, Dp K H b.1 b.2) ∧ PySem.W.AllAlike (bs.map (·.2)) ∧ PySem.W.Sortable (bs.map (·.2)) ∧
  bs.length ≤ sizeLine ∧ (∀ b ∈ bs, b.2.depth ≤ 8) ∧ ∀ p, H p = none → Q (.ref p) (upd H p (.lst ((bs.mergeSort (PySem.W.dataLe false (·.2))).map (·.1))))
theorem each_of {H : Hp} {s : Shared} {pins : List (Addr × Obj)} {σ : L2.St} (I : Inv X pins σ H s) : ∀ {bs : List (V × PyData)} {us : List Value}, Vals (bs.map (·.1)) us → (∀ b ∈ bs, Dp X.K H b.1 b.2) →
    PySem.W.EachIs (fun u (b : V × PyData) => L2.RelV b.1 u) us bs ∧ PySem.W.EachIs (fun u (b : V × PyData) => ∃ as, Reads s.heap u b.2 as) us bs
  | [], _, .nil, _ => ⟨.nil, .nil⟩
  | b :: bs, _, .cons r t, h => by
    obtain ⟨h1, h2⟩ := each_of I (bs := bs) t fun c hc => h c (List.mem_cons_of_mem _ hc)
    exact ⟨.cons r h1, .cons (Dp.reads I b.2 b.1 _ (h b List.mem_cons_self) r) h2⟩
theorem vals_of_each : ∀ {us : List Value} {bs : List (V × PyData)}, PySem.W.EachIs (fun u (b : V × PyData) => L2.RelV b.1 u) us bs → Vals (bs.map (·.1)) us
  | _, _, .nil => .nil
  | _, _, .cons r t => .cons r (vals_of_each t)
theorem cr_sortedD (hu : X.A.units + 64 < cLine) : CallR X (.builtin "sorted") (rSortD X.K) := by
  intro pins s σ H vs us Q I r h
  obtain ⟨a, bs, rfl, hs, hd, hal, hk, hl, h8, q⟩ := h
  obtain ⟨its, rv, hL, _⟩ := I.list hs
  rw [Vals.ref1 r]
  obtain ⟨e1, e2⟩ := each_of I rv hd
  refine PySem.W.sorted_data (enc := fun b : V × PyData => b.2) hL.isList e1 e2 hal hk hl (fun b hb => ?_) fun out ho he => ?_
  · have := h8 b hb
    omega
  · obtain ⟨ep, he'⟩ := PyProof.Rows.sortedAll_at s.heap its out.toArray
    have rv2 := vals_of_each he
    have hlen : ((bs.mergeSort (PySem.W.dataLe false (·.2))).map (·.1)).length ≤ sizeLine := by
      rw [List.length_map, List.length_mergeSort]
      exact hl
    exact ⟨.ref _, upd H (s.heap.objs.size + 1) (.lst ((bs.mergeSort (PySem.W.dataLe false (·.2))).map (·.1))), I.laid (t' := s.toks) (fun _ _ => PyProof.Rows.sortedAll_old) (Nat.le_succ _) ⟨hlen, out, ep, rv2, he'⟩, rfl, q _ (I.hok.fresh (Nat.le_succ _))⟩
end
/-! ### the least of some texts -/
theorem cmp_strs {prog : Program} {w : World} {A : Around} {P : Nat → Value → Prop} (val : Nat → Str) (hv : ∀ i v, P i v → ∃ t, v = .str (val i) t) :
    CmpOf prog w A .Lt P (fun i j => decide ((val i).cps.toList < (val j).cps.toList)) := fun i j vi vj s Q E hi hj h => by
  obtain ⟨t, rfl⟩ := hv i vi hi
  obtain ⟨u, rfl⟩ := hv j vj hj
  exact lt_str (Q := Q) h
theorem best_lt (val : Nat → List Nat) : ∀ k, argBest (fun i j => decide (val i < val j)) k ≤ k ∧ ∀ j, j ≤ k → ¬ val j < val (argBest (fun i j => decide (val i < val j)) k)
  | 0 => ⟨Nat.le_refl _, fun j hj => by
    have : j = 0 := by omega
    subst this
    exact List.lt_irrefl _⟩
  | k + 1 => by
    obtain ⟨h1, h2⟩ := best_lt val k
    unfold argBest
    by_cases h : val (k + 1) < val (argBest (fun i j => decide (val i < val j)) k)
    · rw [if_pos (by simpa using h)]
      refine ⟨Nat.le_refl _, fun j hj => ?_⟩
      by_cases e : j = k + 1
      · subst e
        exact List.lt_irrefl _
      · exact fun z => h2 j (by omega) (List.lt_trans z h)
    · rw [if_neg (by simpa using h)]
      refine ⟨by omega, fun j hj => ?_⟩
      by_cases e : j = k + 1
      · subst e
        exact h
      · exact h2 j (by omega)
section
variable {X : Cx}
/-- min(xs), xs a list of texts, not empty -/
def rMinS (K : PySem.W.Frag) : List V → Hp → VK → Prop := fun vs H Q => ∃ (a : Addr) (xs : List Str), vs = [V.ref a] ∧ SqL K H a (xs.map V.str) ∧ 0 < xs.length ∧ ∀ m, m ∈ xs → (∀ y ∈ xs, ¬ y.cps.toList < m.cps.toList) → Q (.str m) H
theorem cr_minS (hc : X.calm = true) : CallR X (.builtin "min") (rMinS X.K) := by
  intro pins s σ H vs us Q I r h
  obtain ⟨a, xs, rfl, hs, hne, q⟩ := h
  obtain ⟨its, rv, hL, _⟩ := I.list hs
  rw [Vals.ref1 r]
  have hl := hL.isList
  have hlen : its.length = xs.length := by rw [← rv.length, List.length_map]
  have hlt : a < s.heap.objs.size := by
    obtain ⟨_, e, _⟩ := hl
    exact Heap.lt_size e
  have at' : ∀ (i : Nat) (v : Value), its.toArray[i]? = some v → ∃ t, v = Value.str (xs.getD i Str.empty) t := fun i v e => by
    have e2 : its[i]? = some v := by simpa using e
    have hi : i < xs.length := by rw [← hlen]; exact (List.getElem?_eq_some_iff.mp e2).1
    obtain ⟨u, hu, t, ht⟩ := rv.get (i := i) (x := .str xs[i]) (by simp [hi])
    rw [hu] at e2
    cases e2
    exact ⟨t, by rw [ht]; simp [List.getD_eq_getElem?_getD, hi]⟩
  refine call_min_walk (wpAny_pyIter_list hl ?_)
  refine ⟨s.heap.objs.size, [s.heap.objs.size, a], _, _, _, _, _, rfl, Walks.list (A := X.A.in1) (I.ok.hd hc) _ a (Nat.ne_of_lt hlt) its.toArray, ⟨⟨_, Heap.get?_push_size _ rfl, rfl, rfl⟩, hl.push _⟩, fun b hb => ?_, ?_, cmp_strs (fun i => xs.getD i Str.empty) at', fun v h' tk hP hk => ?_⟩
  · show b < (s.heap.push _).objs.size
    rw [Heap.size_push]
    rcases List.mem_cons.mp hb with e | hb
    · rw [e]
      exact Nat.lt_succ_self _
    · rw [List.mem_singleton.mp hb]
      exact Nat.lt_succ_of_lt hlt
  · show 0 < its.toArray.size
    rw [List.size_toArray, hlen]
    exact hne
  · obtain ⟨t, rfl⟩ := at' _ _ hP
    have hsz : its.toArray.size = xs.length := by rw [List.size_toArray, hlen]
    rw [hsz] at hP ⊢
    obtain ⟨b1, b2⟩ := best_lt (fun i => (xs.getD i Str.empty).cps.toList) (xs.length - 1)
    generalize argBest (fun i j => decide ((xs.getD i Str.empty).cps.toList < (xs.getD j Str.empty).cps.toList)) (xs.length - 1) = m at b1 b2 hP ⊢
    have hm : m < xs.length := by omega
    refine ⟨.str (xs.getD m Str.empty), H, I.kept (t' := tk) (fun b o e => hk b o (fun z => ?_) (Heap.get?_push_of_some _ e)), ⟨t, rfl⟩, q _ ?_ fun y hy => ?_⟩
    · rw [List.mem_singleton.mp z] at e
      exact absurd (Heap.lt_size e) (Nat.lt_irrefl _)
    · rw [List.getD_eq_getElem?_getD, List.getElem?_eq_getElem hm]
      exact List.getElem_mem hm
    · obtain ⟨j, hj, rfl⟩ := List.mem_iff_getElem.mp hy
      have z := b2 j (by omega)
      rw [List.getD_eq_getElem?_getD, List.getElem?_eq_getElem hj] at z
      exact z
end
end KM
/-! text KB -/
set_option Elab.async false
set_option linter.all false
set_option maxRecDepth 100000
set_option maxHeartbeats 4000000
/-! What the walks share. -/
namespace KM
open PySem PySem.Spec PyProof.Rows L2
/-- the built-ins' names stand -/
structure Bi (mg : Str → Option Value) : Prop where
  isinstance : mg "isinstance" = none
  int : mg "int" = none
  bool : mg "bool" = none
  tuple : mg "tuple" = none
  str : mg "str" = none
  list : mg "list" = none
  all : mg "all" = none
  any : mg "any" = none
  zip : mg "zip" = none
  len : mg "len" = none
  ord : mg "ord" = none
  range : mg "range" = none
  sum : mg "sum" = none
  min : mg "min" = none
  sorted : mg "sorted" = none
  enumerate : mg "enumerate" = none
  set : mg "set" = none
  abs : mg "abs" = none
section
variable {P : Program} {w : World} {K : PySem.W.Frag} {mg : Str → Option Value} {base : Heap}
theorem FnP.okP {x q : Str} {st : Stmt} {f : Addr} {fd : FuncData} {N ps : List Str} {k : Nat} {sp : Sp} (F : FnP K x q st f fd) (S : FnScope N ps (defScope st)) (len : ∀ vs H Q E, sp vs H Q E → vs.length = ps.length)
    (hbody : ∀ (cdv : Value) (A : Around) (outer : List Env) (s : Shared) (H : Hp) (vs : List V) (Q : VK) (E : XK), Room k (A.deeper (envOfC q (defScope st) s.heap.objs.size f cdv)) → sp vs H Q E →
      ∃ t, PSs (cxOf CX0 P w K mg base N q (defScope st) f cdv A outer s H E).nox (defBody st) t ∧ t { nx := fun _ H' => Q .non H', rt := Q } (start N vs) H) : FnOk P w K mg base CX0 (k + 1) f fd ps sp :=
  FunD.ok F S len fun cdv A outer s H vs Q E hr hsp => by
    obtain ⟨t, h, z⟩ := hbody cdv A outer s H vs Q E hr hsp
    exact ⟨t, h.nox, z⟩
end
theorem hu64 {A : Around} {k : Nat} (hr : Room k A) : A.units + 64 < cLine := hr.units
end KM
/-! text KW1 -/
set_option Elab.async false
set_option linter.all false
set_option maxRecDepth 100000
set_option maxHeartbeats 4000000
namespace KM
open PySem PySem.Spec PyProof.Rows L2
section
variable {P : Program} {w : World} {K : PySem.W.Frag} {mg : Str → Option Value} {base : Heap}
def spIsCount : Sp := fun vs H Q _ => ∃ i : Int, vs = [.int i] ∧ Q (.bl (decide (0 ≤ i))) H
theorem scIsCount : FnScope ["thing"] ["thing"] (defScope sIsCount) := ⟨rfl, rfl, rfl, by decide +kernel, rfl, by decide +kernel, by decide +kernel⟩
theorem ok_is_count {f : Addr} {fd : FuncData} (F : FnP K "is_count" "is_count" sIsCount f fd) (B : Bi mg) : FnOk P w K mg base CX0 1 f fd ["thing"] spIsCount := by
  refine F.okP scIsCount (fun vs H Q E h => ?_) (fun cdv A outer s H vs Q E hr h => ?_)
  · obtain ⟨i, rfl, _⟩ := h
    rfl
  · obtain ⟨i, rfl, q⟩ := h
    refine ⟨_, pss_one (ps_ret (pe_and (pe_callB call_isi (by rfl) B.isinstance (by decide +kernel) (pa_cons (pv 0) (pa_cons (pe_bltn (v := .ty "int") (by rfl) B.int (by decide +kernel) rfl) pa_nil)))
      (pe_and (pe_not (pe_callB call_isi (by rfl) B.isinstance (by decide +kernel) (pa_cons (pv 0) (pa_cons (pe_bltn (v := .ty "bool") (by rfl) B.bool (by decide +kernel) rfl) pa_nil))))
        (pe_one (pe_cmpR op_ge (pv 0) pe_int (nomark _)))))), ?_⟩
    refine ⟨_, rfl, _, _, _, _, true, rfl, .ty "int", .base (.int i), kit_ty (by decide +kernel), true, rfl, ?_⟩
    refine iteT ⟨_, rfl, _, _, _, _, false, rfl, .ty "bool", .base (.int i), kit_ty (by decide +kernel), false, rfl, true, rfl, ?_⟩
    exact iteT ⟨_, rfl, _, _, rfl, rfl, q⟩
end
end KM
/-! text KC -/
set_option Elab.async false
set_option linter.all false
set_option maxRecDepth 100000
set_option maxHeartbeats 4000000
/-! Comprehensions whose turns leave all that stood as it was. -/
namespace KM
open PySem PySem.Spec PyProof.Rows L2
/-! ### heaps -/
theorem same_upd {H : Hp} {p : Addr} {o : HO} (h : H p = none) : Same H (upd H p o) := fun b x e => by
  rw [upd_ne (ne_of_none e h)]
  exact e
/-- a write at a place that the old heap did not have -/
theorem same_new {H0 H : Hp} {p : Addr} {o : HO} (e : Same H0 H) (h : H0 p = none) : Same H0 (upd H p o) := fun b x q => by
  rw [upd_ne (ne_of_none q h)]
  exact e b x q
/-- the tuples stay -/
def TupS (H H' : Hp) : Prop := ∀ b xs, H b = some (.tup xs) → H' b = some (.tup xs)
theorem TupS.refl (H : Hp) : TupS H H := fun _ _ h => h
theorem TupS.trans {H H1 H2 : Hp} (a : TupS H H1) (b : TupS H1 H2) : TupS H H2 := fun c xs h => b c xs (a c xs h)
theorem TupS.same {H H' : Hp} (e : Same H H') : TupS H H' := fun b xs h => e b _ h
theorem TupS.upd {H : Hp} {p : Addr} {o u : HO} (h : H p = some u) (n : ∀ xs, u ≠ .tup xs) : TupS H (upd H p o) := fun b xs e => by
  rw [upd_ne (ne_of e h (fun z => n xs z.symm))]
  exact e
/-- a relation that hangs on tuples alone -/
def TupStable {β : Type} (R : Hp → V → β → Prop) : Prop := ∀ H H' v b, TupS H H' → R H v b → R H' v b
theorem paired_mono {α β : Type} {F G : α → β → Prop} : ∀ {l₁ : List α} {l₂ : List β}, Paired F l₁ l₂ → (∀ a b, F a b → G a b) → Paired G l₁ l₂
  | _, _, .nil, _ => .nil
  | _, _, .cons r t, f => .cons (f _ _ r) (paired_mono t f)
theorem paired_snoc {α β : Type} {F : α → β → Prop} : ∀ {l₁ : List α} {l₂ : List β} {a : α} {b : β}, Paired F l₁ l₂ → F a b → Paired F (l₁ ++ [a]) (l₂ ++ [b])
  | _, _, _, _, .nil, r => .cons r .nil
  | _, _, _, _, .cons h t, r => .cons h (paired_snoc t r)
theorem paired_get {α β : Type} {F : α → β → Prop} : ∀ {l₁ : List α} {l₂ : List β} {i : Nat} {a : α}, Paired F l₁ l₂ → l₁[i]? = some a → ∃ b, l₂[i]? = some b ∧ F a b
  | _, _, _, _, .nil, e => by simp at e
  | _, _, 0, _, .cons h t, e => by
    simp at e
    subst e
    exact ⟨_, by simp, h⟩
  | _, _, i + 1, a, .cons h t, e => by
    obtain ⟨b, h1, h2⟩ := paired_get (i := i) (a := a) t (by simpa using e)
    exact ⟨b, by simpa using h1, h2⟩
theorem paired_get' {α β : Type} {F : α → β → Prop} : ∀ {l₁ : List α} {l₂ : List β} {i : Nat} {b : β}, Paired F l₁ l₂ → l₂[i]? = some b → ∃ a, l₁[i]? = some a ∧ F a b
  | _, _, _, _, .nil, e => by simp at e
  | _, _, 0, _, .cons h t, e => by
    simp at e
    subst e
    exact ⟨_, by simp, h⟩
  | _, _, i + 1, b, .cons h t, e => by
    obtain ⟨a, h1, h2⟩ := paired_get' (i := i) (b := b) t (by simpa using e)
    exact ⟨a, by simpa using h1, h2⟩
section
variable {J : It} {n : Nat} {G : Hp → Prop} {Y : Nat → Hp → V → Hp → Prop} {g : TG} {tt : TT} {te : TE} {vs : List Nat} {σ : L2.St} {H1 : Hp} {β : Type}
/-- the turns leave all as it was; outs i: what the list holds ahead of turn i -/
theorem lc_map {D : Addr} {Qd : Hp → Prop} (hD : H1 D = none) (Rel : Hp → V → β → Prop) (st : TupStable Rel) (w : Walk J n G Y) (hG : ∀ H', Same H1 H' → G H') (outs : Nat → List β) (h0 : outs 0 = []) (hz : n < sizeLine)
    (hs : ∀ (i : Nat) (x : V) (Hc H' : Hp) (Post : V → Hp → Prop) (Skip : Hp → Prop), i < n → Same H1 Hc → Y i Hc x H' → (∀ y H4 d, Same Hc H4 → Rel H4 y d → outs (i + 1) = outs i ++ [d] → Post y H4) → (∀ H3, Same Hc H3 → outs (i + 1) = outs i → Skip H3) →
      g x (wipe σ vs) H' fun σ2 H2 => wipe σ2 vs = wipe σ vs ∧ tt σ2 H2 fun b H3 => if b = true then te σ2 H3 Post else Skip H3)
    (hd : ∀ (H' : Hp) (acc : List V), Same H1 H' → H' D = some (.lst acc) → Paired (Rel H') acc (outs n) → Qd H') :
    ∃ W : Nat → Nat → Hp → Prop, (∃ m, W 0 m (upd H1 D (.lst []))) ∧ ∀ i m H, W i m H →
      (J.stop i H ∧ Qd H) ∨ (J.go i H ∧ ∃ Nx : Hp → Prop, (∀ H', Nx H' → ∃ m', m' < m ∧ W (i + 1) m' H') ∧ ∀ x H', J.yld i H x H' → g x (wipe σ vs) H' fun σ2 H2 => wipe σ2 vs = wipe σ vs ∧ tt σ2 H2 fun b H3 =>
        if b = true then te σ2 H3 fun y H4 => ∃ acc, H4 D = some (.lst acc) ∧ acc.length < sizeLine ∧ Nx (upd H4 D (.lst (acc ++ [y]))) else Nx H3) := by
  refine lc_it w (fun i H' => Same H1 H' ∧ ∃ acc, H' D = some (.lst acc) ∧ Paired (Rel H') acc (outs i) ∧ acc.length ≤ i) ⟨same_upd hD, [], upd_same, by rw [h0]; exact .nil, Nat.le_refl _⟩ (fun i H' _ z => hG H' z.1) ?_ ?_
  · rintro i x H H' hi ⟨s1, acc, ha, hp, hl⟩ hy
    refine hs i x H H' _ _ hi s1 hy (fun y H4 d s4 hr ho => ?_) (fun H3 s3 ho => ?_)
    · have e4 := s4 _ _ ha
      refine ⟨acc, e4, by omega, same_new (s1.trans s4) hD, _, upd_same, ?_, ?_⟩
      · rw [ho]
        have t4 : TupS H4 (upd H4 D (.lst (acc ++ [y]))) := TupS.upd e4 (fun xs z => by cases z)
        exact paired_snoc (paired_mono hp fun a b r => st _ _ _ _ ((TupS.same s4).trans t4) r) (st _ _ _ _ t4 hr)
      · rw [List.length_append, List.length_singleton]
        omega
    · exact ⟨s1.trans s3, acc, s3 _ _ ha, by rw [ho]; exact paired_mono hp fun a b r => st _ _ _ _ (TupS.same s3) r, by omega⟩
  · rintro H' ⟨s1, acc, ha, hp, hl⟩
    exact hd H' acc s1 ha hp
end
theorem bls_of : ∀ {acc : List V} {bs : List Bool}, Paired (fun (v : V) (b : Bool) => v = .bl b) acc bs → acc = bs.map V.bl
  | _, _, .nil => rfl
  | _, _, .cons r t => by rw [r, bls_of t] <;> rfl
theorem all_rep (n : Nat) : (List.replicate n true).all id = true := by
  rw [List.all_eq_true]
  intro x hx
  exact (List.mem_replicate.mp hx).2
/-- all(..) of a list of n times True -/
theorem all_end {K : PySem.W.Frag} {H : Hp} {D : Addr} {acc : List V} {n : Nat} {Q : VK} (h : H D = some (.lst acc)) (p : Paired (fun (v : V) (b : Bool) => v = .bl b) acc (List.replicate n true)) (q : Q (.bl true) H) : rAll K [.ref D] H Q := by
  rw [bls_of p] at h
  refine ⟨D, List.replicate n true, rfl, .inl (.inl h), ?_⟩
  rw [all_rep]
  exact q
end KM
/-! text KW2 -/
set_option Elab.async false
set_option linter.all false
set_option maxRecDepth 100000
set_option maxHeartbeats 4000000
namespace KM
open PySem PySem.Spec PyProof.Rows L2
theorem walk_zipT {K : PySem.W.Frag} {a b : Addr} {xs ys : List V} {n : Nat} (hn : n = min xs.length ys.length) : Walk (RZ.ItzT K a b) n (fun H => SqT K H a xs ∧ SqT K H b ys) (YPair (fun i => xs[i]?) (fun i => ys[i]?)) := by
  subst hn
  refine ⟨fun i _ hi q => ?_, fun _ q => ⟨xs, ys, q.1, q.2, by omega⟩, fun i H v H' _ q y => ?_⟩
  · have h1 : i < xs.length := by omega
    have h2 : i < ys.length := by omega
    exact ⟨xs, ys, xs[i], ys[i], q.1, q.2, by simp [h1], by simp [h2]⟩
  · obtain ⟨T, x, z, h1, h2, h3, h4, h5⟩ := y
    exact ⟨T, x, z, h1, h2, h3, h4 xs q.1, h5 ys q.2⟩
mutual
theorem dp_same {K : PySem.W.Frag} {H H' : Hp} (e : Same H H') : ∀ {v : V} {d : PyData}, Dp K H v d → Dp K H' v d
  | _, _, .non => .non
  | _, _, .bl b => .bl b
  | _, _, .int i => .int i
  | _, _, .str x => .str x
  | _, _, .lst h t => .lst (e.seq h) (dpAll_same e t)
  | _, _, .tup h t => .tup (sqT_same e h) (dpAll_same e t)
theorem dpAll_same {K : PySem.W.Frag} {H H' : Hp} (e : Same H H') : ∀ {vs : List V} {ds : List PyData}, DpAll K H vs ds → DpAll K H' vs ds
  | _, _, .nil => .nil
  | _, _, .cons h t => .cons (dp_same e h) (dpAll_same e t)
theorem sqT_same {K : PySem.W.Frag} {H H' : Hp} {a : Addr} {xs : List V} (e : Same H H') (h : SqT K H a xs) : SqT K H' a xs := by
  rcases h with (h | ⟨o, h⟩) | h
  · exact .inl (.inl (e _ _ h))
  · exact .inl (.inr ⟨o, e _ _ h⟩)
  · exact .inr h
end
section
variable {P : Program} {w : World} {K : PySem.W.Frag} {mg : Str → Option Value} {base : Heap}
/-- rising: each is less than the next one -/
def RisesD (ds : List PyData) : Prop := ∀ (i : Nat) (d e : PyData), ds[i]? = some d → ds[i + 1]? = some e → PySem.W.alike d e = true ∧ d ≠ .none ∧ d.depth ≤ 8 ∧ PySem.W.dataLt d e = true
theorem dpAll_get {H : Hp} : ∀ {vs : List V} {ds : List PyData} {i : Nat} {v : V}, DpAll K H vs ds → vs[i]? = some v → ∃ d, ds[i]? = some d ∧ Dp K H v d
  | _, _, _, _, .nil, e => by simp at e
  | _, _, 0, _, .cons h t, e => by
    simp at e
    subst e
    exact ⟨_, by simp, h⟩
  | _, _, i + 1, v, .cons h t, e => by
    obtain ⟨d, h1, h2⟩ := dpAll_get (i := i) (v := v) t (by simpa using e)
    exact ⟨d, by simpa using h1, h2⟩
theorem cutV1 (xs : List V) : cutV xs (some 1) none = xs.drop 1 := by
  unfold cutV
  rw [show HT.sIx xs.length 0 (some 1) = min 1 xs.length from HT.sIx_nat xs.length 0 1, HT.sIx_none]
  cases xs with
  | nil => rfl
  | cons x r =>
    have e : min 1 (x :: r).length = 1 := by
      rw [List.length_cons]
      omega
    rw [e]
    exact List.take_of_length_le (by simp)
def spIsRising (K : PySem.W.Frag) : Sp := fun vs H Q _ => ∃ (a : Addr) (xs : List V) (ds : List PyData), vs = [.ref a] ∧ (H a = some (.lst xs) ∨ H a = some (.tup xs)) ∧ DpAll K H xs ds ∧ RisesD ds ∧ xs.length < sizeLine ∧
  ∀ H', Same H H' → Q (.bl true) H'
theorem scIsRising : FnScope ["things", "one", "other"] ["things"] (defScope sIsRising) := ⟨rfl, rfl, rfl, by decide +kernel, rfl, by decide +kernel, by decide +kernel⟩
theorem ok_is_rising {f : Addr} {fd : FuncData} (F : FnP K "is_rising" "is_rising" sIsRising f fd) (B : Bi mg) : FnOk P w K mg base CX0 1 f fd ["things"] (spIsRising K) := by
  refine F.okP scIsRising (fun vs H Q E h => ?_) (fun cdv A outer s H vs Q E hr h => ?_)
  · obtain ⟨a, xs, ds, rfl, _⟩ := h
    rfl
  · obtain ⟨a, xs, ds, rfl, ha, hd, hz, hl, q⟩ := h
    refine ⟨_, pss_one (ps_ret (pe_callB (cr_all rfl) (by rfl) B.all (by decide +kernel) (pa_cons (pe_lc (own := [("one", 1), ("other", 2)]) (g := gTup K 2 (gCons (gName 1) (gCons (gName 2) gNil))) (tt := tYes) rfl scIsRising.nd
      (RZ.pi_zipA (by rfl) B.zip (pa_cons (pv 0) (pa_cons (pe_slice (SlR.or sl_list sl_tupA) (pv 0) (po_some pe_int) po_none) pa_nil)))
      (blkOk_by (N := ["things", "one", "other"]) (sc := defScope sIsRising) (by decide +kernel))
      (fun _ _ _ _ _ => pg_tup rfl (pgs_cons (pg_name (i := 1) scIsRising.nd rfl (.inl rfl)) (pgs_cons (pg_name (i := 2) scIsRising.nd rfl (.inl rfl)) pgs_nil)))
      (fun _ _ _ _ _ => pts_nil) (fun _ _ _ _ _ => pe_cmpR (r := rLtD K) (op_ltD (by exact hu64 hr)) (pv 1) (pv 2) (nomark _))) pa_nil))), ?_⟩
    have core : ∀ (J : It) (G : Hp → Prop) (H1 : Hp), Walk J (xs.length - 1) G (YPair (fun i => xs[i]?) (fun i => (xs.drop 1)[i]?)) → Same H H1 → (∀ H', Same H1 H' → G H') → ∀ D, H1 D = none →
        ∃ W : Nat → Nat → Hp → Prop, (∃ m, W 0 m (upd H1 D (.lst []))) ∧ ∀ i m H', W i m H' → (J.stop i H' ∧ rAll K [.ref D] H' Q) ∨ (J.go i H' ∧ ∃ Nx : Hp → Prop, (∀ H', Nx H' → ∃ m', m' < m ∧ W (i + 1) m' H') ∧
          ∀ x H2, J.yld i H' x H2 → (gTup K 2 (gCons (gName 1) (gCons (gName 2) gNil))) x (wipe (L2.start ["things", "one", "other"] [V.ref a]) [1, 2]) H2 fun σ2 H3 => wipe σ2 [1, 2] = wipe (L2.start ["things", "one", "other"] [V.ref a]) [1, 2] ∧
            tYes σ2 H3 fun b H4 => if b = true then (tOp (rLtD K) (tVar 1) (tVar 2)) σ2 H4 fun y H5 => ∃ acc, H5 D = some (.lst acc) ∧ acc.length < sizeLine ∧ Nx (upd H5 D (.lst (acc ++ [y]))) else Nx H4) := by
      intro J G H1 w0 s1 hG D hD
      refine lc_map hD (β := Bool) (fun _ v b => v = .bl b) (fun _ _ _ _ _ z => z) w0 hG (fun i => List.replicate i true) rfl (by omega) (fun i x Hc H' Post Skip hi sc hy k1 k2 => ?_) (fun H' acc s2 ha hp => ?_)
      · obtain ⟨T, x1, x2, rfl, hT, rfl, e1, e2⟩ := hy
        have e1 : xs[i]? = some x1 := e1
        have e2 : (xs.drop 1)[i]? = some x2 := e2
        have e2' : xs[i + 1]? = some x2 := by rw [List.getElem?_drop] at e2; rw [Nat.add_comm]; exact e2
        obtain ⟨d1, f1, g1⟩ := dpAll_get hd e1
        obtain ⟨d2, f2, g2⟩ := dpAll_get hd e2'
        obtain ⟨r1, r2, r3, r4⟩ := hz i d1 d2 f1 f2
        have s3 : Same H (upd Hc T (.tup [x1, x2])) := (s1.trans sc).trans (same_upd hT)
        refine ⟨T, [x1, x2], rfl, .inl (.inl upd_same), rfl, x1, [x2], rfl, x2, [], rfl, rfl, rfl, ?_⟩
        refine ⟨x1, rfl, x2, rfl, d1, d2, dp_same s3 g1, dp_same s3 g2, r1, r2, r3, ?_⟩
        refine k1 _ _ true (same_upd hT) (by rw [r4]) ?_
        rw [List.replicate_succ']
      · exact all_end ha hp (q H' (s1.trans s2))
    refine ⟨_, rfl, _, rfl, 1, rfl, ?_⟩
    rcases ha with ha | ha
    · refine .inl ⟨a, xs, rfl, .inl (.inl ha), fun p hp => ?_⟩
      refine ⟨a, p, xs, _, rfl, .inl ⟨.inl (.inl (same_upd hp _ _ ha)), .inl (.inl upd_same), ?_⟩⟩
      refine core _ _ _ (walk_zip ?_) (same_upd hp) fun H' e => ⟨.inl (.inl (e _ _ (same_upd hp _ _ ha))), .inl (.inl (e _ _ (by rw [← cutV1]; exact upd_same)))⟩
      rw [List.length_drop]
      omega
    · refine .inr ⟨a, xs, rfl, .inl (.inl ha), fun hw => ?_, fun hw p hp => ?_⟩
      · have e0 : xs = [] := by
          have z := hw.1
          rw [show HT.sIx xs.length 0 (some 1) = min 1 xs.length from HT.sIx_nat xs.length 0 1] at z
          exact List.length_eq_zero_iff.mp (by omega)
        subst e0
        refine ⟨a, a, [], [], rfl, .inr ⟨.inl (.inl ha), .inl (.inl ha), ?_⟩⟩
        exact core _ _ _ (walk_zipT rfl) (Same.refl H) fun H' e => ⟨.inl (.inl (e _ _ ha)), .inl (.inl (e _ _ ha))⟩
      · refine ⟨a, p, xs, _, rfl, .inr ⟨.inl (.inl (same_upd hp _ _ ha)), .inl (.inl upd_same), ?_⟩⟩
        refine core _ _ _ (walk_zipT ?_) (same_upd hp) fun H' e => ⟨.inl (.inl (e _ _ (same_upd hp _ _ ha))), .inl (.inl (e _ _ (by rw [← cutV1]; exact upd_same)))⟩
        rw [List.length_drop]
        omega
end
end KM
/-! text KW3 -/
set_option Elab.async false
set_option linter.all false
set_option maxRecDepth 100000
set_option maxHeartbeats 4000000
namespace KM
open PySem PySem.Spec PyProof.Rows L2
def nV (n : Nat) : V := .int (n : Int)
def sS (l : List Nat) : Str := ⟨l.toArray⟩
def sV (l : List Nat) : V := .str (sS l)
theorem sS_cps (l : List Nat) : (sS l).cps.toList = l := by simp [sS]
theorem sS_len (l : List Nat) : (sS l).length = l.length := by simp [sS, Str.length]
theorem same_tup {H H' : Hp} {a : Addr} {xs : List V} (e : Same H H') (h : H a = some (.tup xs)) : H' a = some (.tup xs) := e _ _ h
section
variable {P : Program} {w : World} {K : PySem.W.Frag} {mg : Str → Option Value} {base : Heap}
theorem dpAll_ints (H : Hp) : ∀ ns : List Nat, DpAll K H (ns.map nV) (ns.map fun n : Nat => PyData.int (n : Int))
  | [] => .nil
  | n :: ns => .cons (.int n) (dpAll_ints H ns)
theorem dataLt_int (a b : Int) : PySem.W.dataLt (.int a) (.int b) = decide (a < b) := by
  have h := congrFun (congrFun (PySem.W.dataLe_int (fun i : Int => i)) b) a
  rw [PySem.W.dataLe_eq] at h
  have h2 : (!PySem.W.dataLt (.int a) (.int b)) = decide (b ≤ a) := h
  have h3 : PySem.W.dataLt (.int a) (.int b) = !decide (b ≤ a) := by rw [← h2, Bool.not_not]
  rw [h3]
  by_cases q : a < b
  · rw [decide_eq_true q, decide_eq_false (by omega)] <;> rfl
  · rw [decide_eq_false q, decide_eq_true (by omega)] <;> rfl
theorem rises_ints {ns : List Nat} (h : ns.Pairwise (· < ·)) : RisesD (ns.map fun n : Nat => PyData.int (n : Int)) := by
  intro i d e h1 h2
  rw [List.getElem?_map] at h1 h2
  obtain ⟨a, ha, rfl⟩ := Option.map_eq_some_iff.mp h1
  obtain ⟨b, hb, rfl⟩ := Option.map_eq_some_iff.mp h2
  obtain ⟨l1, e1⟩ := List.getElem?_eq_some_iff.mp ha
  obtain ⟨l2, e2⟩ := List.getElem?_eq_some_iff.mp hb
  have lt : a < b := by
    rw [← e1, ← e2]
    exact List.pairwise_iff_getElem.mp h i (i + 1) l1 l2 (by omega)
  refine ⟨rfl, fun z => (by cases z), (by show 0 ≤ 8; decide), ?_⟩
  rw [dataLt_int]
  exact decide_eq_true (by omega)
def spArePlaces : Sp := fun vs H Q _ => ∃ (t : Addr) (ns : List Nat) (many : Nat), vs = [.ref t, nV many] ∧ H t = some (.tup (ns.map nV)) ∧ ns.Pairwise (· < ·) ∧ (∀ n ∈ ns, n < many) ∧ ns.length < 100000 ∧
  ∀ H', Same H H' → Q (.bl true) H'
theorem scArePlaces : FnScope ["thing", "many", "place"] ["thing", "many"] (defScope sArePlaces) := ⟨rfl, rfl, rfl, by decide +kernel, rfl, by decide +kernel, by decide +kernel⟩
structure G1 (P : Program) (w : World) (K : PySem.W.Frag) (mg : Str → Option Value) (base : Heap) : Prop where
  is_count : ∃ f fd, mg "is_count" = some (.ref f) ∧ FnP K "is_count" "is_count" sIsCount f fd
  is_rising : ∃ f fd, mg "is_rising" = some (.ref f) ∧ FnP K "is_rising" "is_rising" sIsRising f fd
theorem ok_are_places {f f1 f2 : Addr} {fd fd1 fd2 : FuncData} (F : FnP K "are_places" "are_places" sArePlaces f fd) (B : Bi mg) (F1 : FnP K "is_count" "is_count" sIsCount f1 fd1) (g1 : mg "is_count" = some (.ref f1))
    (F2 : FnP K "is_rising" "is_rising" sIsRising f2 fd2) (g2 : mg "is_rising" = some (.ref f2)) : FnOk P w K mg base CX0 2 f fd ["thing", "many"] spArePlaces := by
  have O1 : FnOk P w K mg base CX0 1 f1 fd1 ["thing"] spIsCount := ok_is_count F1 B
  have O2 : FnOk P w K mg base CX0 1 f2 fd2 ["things"] (spIsRising K) := ok_is_rising F2 B
  have b1 : Binds K fd1 ["thing"] [] := F1.bindsN fun _ _ _ _ _ _ us hl => match us, hl with | [_], _ => rfl
  have b2 : Binds K fd2 ["things"] [] := F2.bindsN fun _ _ _ _ _ _ us hl => match us, hl with | [_], _ => rfl
  refine F.okP scArePlaces (fun vs H Q E h => ?_) (fun cdv A outer s H vs Q E hr h => ?_)
  · obtain ⟨t, ns, many, rfl, _⟩ := h
    rfl
  · obtain ⟨t, ns, many, rfl, ht, hp', hb, hl, q⟩ := h
    refine ⟨_, pss_cons (ps_if (PW.pt (pw_or (pt_not (pt_val (pe_callB call_isi (by rfl) B.isinstance (by decide +kernel) (pa_cons (pv 0) (pa_cons (pe_bltn (v := .ty "tuple") (by rfl) B.tuple (by decide +kernel) rfl) pa_nil)))))
        (pw_or1 (pt_not (pt_val (pe_callB (cr_all rfl) (by rfl) B.all (by decide +kernel) (pa_cons (pe_lc (own := [("place", 2)]) (g := gName 2) (tt := tYes) rfl scArePlaces.nd (pi_tup (pv 0))
          (blkOk_by (N := ["thing", "many", "place"]) (sc := defScope sArePlaces) (by decide +kernel)) (fun _ _ _ _ _ => pg_name (i := 2) scArePlaces.nd rfl (.inl rfl)) (fun _ _ _ _ _ => pts_nil)
          (fun _ _ _ _ _ => pe_and (pe_call O1 hr (by rfl) g1 F1.kp b1 .nil pass0 (pa_cons (pv 2) pa_nil)) (pe_one (pe_cmpR op_lt (pv 2) (pv 1) (nomark _))))) pa_nil))))))) (pss_one (ps_ret pe_bl)) pss_nil)
      (pss_one (ps_ret (pe_call O2 hr (by rfl) g2 F2.kp b2 .nil pass0 (pa_cons (pv 0) pa_nil)))), ?_⟩
    refine ⟨_, rfl, _, _, _, _, true, rfl, .ty "tuple", .base (.tup ht), kit_ty (by decide +kernel), true, rfl, ?_⟩
    refine iteF ⟨_, rfl, t, rfl, ⟨_, .inl (.inl ht)⟩, ?_⟩
    intro D hD
    refine lc_map hD (β := Bool) (fun _ v b => v = .bl b) (fun _ _ _ _ _ z => z) (walk_tup (xs := ns.map nV)) (fun H' e => .inl (.inl (e _ _ ht))) (fun i => List.replicate i true) rfl (by rw [List.length_map]; exact Nat.lt_of_lt_of_le hl (by decide)) (fun i x Hc H' Post Skip hi sc hy k1 k2 => ?_) (fun H' acc s2 ha hp => ?_)
    · obtain ⟨rfl, e⟩ := hy
      rw [List.getElem?_map] at e
      obtain ⟨m, hm, rfl⟩ := Option.map_eq_some_iff.mp e
      have lt := hb m (List.mem_of_getElem? hm)
      refine ⟨rfl, ?_⟩
      refine ⟨_, rfl, (m : Int), rfl, true, ?_, ?_⟩
      · rw [decide_eq_true (by omega)]
      refine iteT ⟨_, rfl, _, rfl, _, _, rfl, rfl, ?_⟩
      refine k1 _ _ true (Same.refl _) ?_ List.replicate_succ'
      show V.bl (decide ((m : Int) < (many : Int))) = V.bl true
      rw [decide_eq_true (by omega)]
    · rw [bls_of hp] at ha
      refine ⟨D, _, rfl, .inl (.inl ha), true, by rw [all_rep], ?_⟩
      refine ⟨_, rfl, t, ns.map nV, ns.map fun n : Nat => PyData.int (n : Int), rfl, .inr (s2 _ _ ht), dpAll_ints _ ns, rises_ints hp', ?_, fun H2 s3 => q H2 (s2.trans s3)⟩
      rw [List.length_map]
      exact Nat.lt_of_lt_of_le hl (by decide)
end
end KM
/-! text KR2 -/
set_option Elab.async false
set_option linter.all false
set_option maxRecDepth 100000
set_option maxHeartbeats 4000000
/-! Own rules: list(text), sorted(text). -/
namespace KM
open PySem PySem.Spec PyProof.Rows L2
/-- the signs of a text, as values -/
def sgn (z : Str) : List V := z.cps.toList.map fun c => V.str ⟨#[c]⟩
theorem vals_sgn {x : Str} {acc : Array Value} (h : ItemsOf (SignAt x) acc x.cps.size) : Vals (sgn x) acc.toList := by
  have key : ∀ (l : List Nat) (us : List Value), l.length = us.length → (∀ (j : Nat) (v : Value), us[j]? = some v → ∃ c u, l[j]? = some c ∧ v = .str ⟨#[c]⟩ u) → Vals (l.map fun c => V.str ⟨#[c]⟩) us := by
    intro l
    induction l with
    | nil =>
      intro us h1 _
      have e : us = [] := List.length_eq_zero_iff.mp h1.symm
      rw [e]
      exact .nil
    | cons c l ih =>
      intro us h1 h2
      cases us with
      | nil => simp at h1
      | cons u us =>
        obtain ⟨c', t, e1, e2⟩ := h2 0 u rfl
        have e1' : c = c' := by simpa using e1
        subst e1'
        exact .cons ⟨t, e2⟩ (ih us (by simpa using h1) fun j v e => by
          obtain ⟨d, t, q1, q2⟩ := h2 (j + 1) v (by simpa using e)
          exact ⟨d, t, by simpa using q1, q2⟩)
  refine key _ _ ?_ fun j v e => ?_
  · rw [Array.length_toList, Array.length_toList, h.1]
  · obtain ⟨c, u, e1, e2⟩ := h.2 j v (by rw [← Array.getElem?_toList]; exact e)
    exact ⟨c, u, by rw [Array.getElem?_toList]; exact e1, e2⟩
theorem sgn_len (z : Str) : (sgn z).length = z.length := by
  unfold sgn
  rw [List.length_map, Array.length_toList]
  rfl
section
variable {X : Cx}
/-- list(x), x a text -/
def rListS : List V → Hp → VK → Prop := fun xs H Q => ∃ z : Str, xs = [.str z] ∧ z.length ≤ sizeLine ∧ ∀ l, H l = none → Q (.ref l) (upd H l (.lst (sgn z)))
theorem cr_listS (hc : X.calm = true) : CallR X (.type "list") rListS := by
  intro pins s σ H xs us Q I r h
  obtain ⟨z, rfl, hz, q⟩ := h
  obtain ⟨u, rfl, t, rfl⟩ := vals1 r
  refine call_list_str (I.ok.hd hc) z t (fun h' tk acc c hk hS hacc => ?_) hz
  refine ⟨.ref s.heap.objs.size, _, I.laid (t' := tk) (o := .lst (sgn z)) hk (Nat.le_refl _) ⟨by rw [sgn_len]; exact hz, acc.toList, c, vals_sgn hacc, hS⟩, rfl, q _ (I.hok.fresh (Nat.le_refl _))⟩
end
/-! ### sorted of what is collected -/
section
variable {prog : Program} {w : World} {A : Around} {E : Value → Shared → Prop} {s : Shared}
theorem sorted_coll {x : Value} {Q : Value → Shared → Prop}
    (h : wpAny (model prog w) A.in1 (collect x) (fun vs s1 => vs.length ≤ sizeLine ∧ (∀ b o, s.heap.get? b = some o → s1.heap.get? b = some o) ∧ ∃ (bs : List (V × PyData)),
      PySem.W.EachIs (fun u (b : V × PyData) => L2.RelV b.1 u) vs bs ∧ PySem.W.EachIs (fun u (b : V × PyData) => ∃ as, Reads s1.heap u b.2 as) vs bs ∧ PySem.W.AllAlike (bs.map (·.2)) ∧ PySem.W.Sortable (bs.map (·.2)) ∧ (∀ b ∈ bs, A.units + 2 + b.2.depth < cLine) ∧
      ∀ out c h', out.length = bs.length → PySem.W.EachIs (fun u (b : V × PyData) => L2.RelV b.1 u) out (bs.mergeSort (PySem.W.dataLe false (·.2))) → h'.get? s1.heap.objs.size = some (seqObj "list" out.toArray c) → (∀ b o, s1.heap.get? b = some o → h'.get? b = some o) →
        Q (.ref s1.heap.objs.size) { s1 with heap := h' }) E s) :
    wpAny (model prog w) A (call (.builtin "sorted") [x]) Q E s := by
  refine Calls.call_function_entry kind_sorted plain_sorted entry_sorted (args_sorted1 _) ?_
  unfold Builtin.«sorted»
  refine wpAny_bind (m := checkCount "sorted" 1 1 _) (wpAny_pure ?_)
  refine wpAny_bind (wpAny_mono h (fun vs s1 hh => ?_) fun _ _ e => e)
  obtain ⟨hl, hk, bs, e1, e2, hal, hsb, hu, q⟩ := hh
  refine wpAny_bind (wpAny_newList ?_ hl)
  have hoL : (s1.heap.push (seqObj "list" vs.toArray 0)).get? s1.heap.objs.size = some (seqObj "list" vs.toArray 0) := Heap.get?_push_size _ rfl
  have hold : ∀ b o, s1.heap.get? b = some o → (PySem.W.sortingHeap (s1.heap.push (seqObj "list" vs.toArray 0)) s1.heap.objs.size vs).get? b = some o := fun b o e =>
    PySem.W.sortingHeap_old (Nat.ne_of_lt (Heap.lt_size e)) (Heap.get?_push_of_some _ e)
  have e3 : PySem.W.EachIs (fun u (b : V × PyData) => ∃ as, Reads (PySem.W.sortingHeap (s1.heap.push (seqObj "list" vs.toArray 0)) s1.heap.objs.size vs) u b.2 as) vs bs := e2.mono fun _ _ ⟨as, r⟩ => ⟨as, PyProof.Rows.Reads.keeps hold r⟩
  have S := PySem.W.SortsAt.data (prog := prog) (w := w) (A := A.in1.in1) (s := { s1 with heap := PySem.W.sortingHeap (s1.heap.push (seqObj "list" vs.toArray 0)) s1.heap.objs.size vs })
    (PySem.W.each_map (R := fun v d => ∃ as, Reads (PySem.W.sortingHeap (s1.heap.push (seqObj "list" vs.toArray 0)) s1.heap.objs.size vs) v d as) (fun b : V × PyData => b.2) e3) hal hsb (fun d hd => by
      obtain ⟨b, hb, rfl⟩ := List.mem_map.mp hd
      exact hu b hb)
  refine wpAny_bind (wpAny_holding (wpAny_call_entry slot_list_sort ⟨_, hoL, rfl⟩ entry_list_sort (PySem.W.list_sort_vals (s := { s1 with heap := s1.heap.push (seqObj "list" vs.toArray 0) }) hoL S hl ⟨_, rfl, ?_⟩) (args_list_sort _)))
  have so := PySem.W.sortVals_data (h' := PySem.W.sortingHeap (s1.heap.push (seqObj "list" vs.toArray 0)) s1.heap.objs.size vs) (enc := fun b : V × PyData => b.2) false e1 e3 hal
  have sl := PySem.W.sortVals_length (κ := PySem.W.dataKind (PySem.W.sortingHeap (s1.heap.push (seqObj "list" vs.toArray 0)) s1.heap.objs.size vs) (bs.map (·.2))) (vs := vs) (ks := vs) false rfl
  generalize hout : PySem.W.sortVals (PySem.W.dataKind (PySem.W.sortingHeap (s1.heap.push (seqObj "list" vs.toArray 0)) s1.heap.objs.size vs) (bs.map (·.2))) false vs vs = out at so sl
  obtain ⟨c, hc⟩ := sortedHeap_at (vs := vs) (out := out.toArray) hoL
  refine wpAny_pure ⟨_, rfl, ?_⟩
  refine q out c _ (sl.trans e1.length) so hc fun b u e => ?_
  have hlt := Heap.lt_size e
  rw [sortedHeap_old (Nat.ne_of_lt hlt) (by rw [Heap.size_push]; exact Nat.lt_succ_of_lt hlt)]
  exact Heap.get?_push_of_some _ e
end
section
variable {X : Cx}
/-- sorted(x), x a text: its signs in order -/
def rSortS : List V → Hp → VK → Prop := fun vs H Q => ∃ z : Str, vs = [V.str z] ∧ z.length ≤ sizeLine ∧ ∀ p, H p = none → Q (.ref p) (upd H p (.lst ((z.cps.toList.mergeSort fun a b => decide (a ≤ b)).map fun c => V.str ⟨#[c]⟩)))
def sgD (c : Nat) : V × PyData := (V.str ⟨#[c]⟩, PyData.str ⟨#[c]⟩)
theorem one_le (a b : Nat) : decide ([a] ≤ [b]) = decide (a ≤ b) := by
  by_cases h : a ≤ b
  · rw [decide_eq_true h]
    refine decide_eq_true ?_
    show ¬ ([b] < [a])
    intro q
    rcases List.cons_lt_cons_iff.mp q with q | ⟨_, q⟩
    · omega
    · exact absurd q (List.not_lt_nil _)
  · rw [decide_eq_false h]
    refine decide_eq_false fun q => q ?_
    exact List.cons_lt_cons_iff.mpr (.inl (by omega))
theorem sgD_le (a b : Nat) : PySem.W.dataLe false (fun x : V × PyData => x.2) (sgD a) (sgD b) = decide (a ≤ b) := by
  have h := congrFun (congrFun (PySem.W.dataLe_str (fun c : Nat => (⟨#[c]⟩ : Str))) a) b
  exact h.trans (one_le a b)
theorem vals_each {bs : List (V × PyData)} : ∀ {us : List Value}, Vals (bs.map (·.1)) us → PySem.W.EachIs (fun u (b : V × PyData) => L2.RelV b.1 u) us bs := by
  induction bs with
  | nil =>
    intro us r
    cases r
    exact .nil
  | cons b bs ih =>
    intro us r
    cases r with
    | cons h t => exact .cons h (ih t)
theorem reads_sgn {h : Heap} : ∀ {l : List Nat} {us : List Value}, Vals ((l.map sgD).map (·.1)) us → PySem.W.EachIs (fun u (b : V × PyData) => ∃ as, Reads h u b.2 as) us (l.map sgD)
  | [], _, .nil => .nil
  | c :: l, _, .cons r t => by
    obtain ⟨k, rfl⟩ := r
    exact .cons ⟨_, .str _ k⟩ (reads_sgn t)
theorem alike_sgn (l : List Nat) : PySem.W.AllAlike ((l.map sgD).map (·.2)) := by
  intro d hd e he
  obtain ⟨b, hb, rfl⟩ := List.mem_map.mp hd
  obtain ⟨b', hb', rfl⟩ := List.mem_map.mp he
  obtain ⟨c, _, rfl⟩ := List.mem_map.mp hb
  obtain ⟨c', _, rfl⟩ := List.mem_map.mp hb'
  rfl
theorem sortable_sgn (l : List Nat) : PySem.W.Sortable ((l.map sgD).map (·.2)) := .inr fun d hd => by
  obtain ⟨b, hb, rfl⟩ := List.mem_map.mp hd
  obtain ⟨c, _, rfl⟩ := List.mem_map.mp hb
  exact ⟨fun z => (by cases z), fun xs z => (by cases z)⟩
theorem sorted_sgn (l : List Nat) : (((l.map sgD).mergeSort (PySem.W.dataLe false (·.2))).map (·.1)) = (l.mergeSort fun a b => decide (a ≤ b)).map fun c => V.str ⟨#[c]⟩ := by
  have h := List.map_mergeSort (f := sgD) (r := fun a b => decide (a ≤ b)) (s := PySem.W.dataLe false (fun x : V × PyData => x.2)) (l := l) (fun a _ b _ => (sgD_le a b).symm)
  rw [← h, List.map_map]
  rfl
theorem cr_sortS (hc : X.calm = true) (hu : X.A.units + 64 < cLine) : CallR X (.builtin "sorted") rSortS := by
  intro pins s σ H vs us Q I r h
  obtain ⟨z, rfl, hz, q⟩ := h
  obtain ⟨u, rfl, t, rfl⟩ := vals1 r
  refine sorted_coll (wpAny_collect_str (A := X.A.in1) (I.ok.hd hc) z t (fun s1 acc hk hg hdr ho hacc => ?_) hz)
  have rv : Vals ((z.cps.toList.map sgD).map (·.1)) acc.toList := by
    rw [List.map_map]
    exact vals_sgn hacc
  refine ⟨by rw [Array.length_toList, hacc.1]; exact hz, hk, z.cps.toList.map sgD, vals_each rv, reads_sgn rv, alike_sgn _, sortable_sgn _, fun b hb => ?_, fun out c h' hl he hat hold => ?_⟩
  · obtain ⟨c, _, rfl⟩ := List.mem_map.mp hb
    show X.A.units + 2 + 0 < cLine
    omega
  · have rv2 := vals_of_each he
    rw [sorted_sgn] at rv2
    have I1 : Inv X pins σ H { s with heap := s1.heap, gens := s1.gens, drawn := s1.drawn, toks := s1.toks } := I.call (ch := []) (Un.kept hk) (I.hok.kept hk) (by rw [hg]; exact I.bare) (fun _ z => nomatch z)
    have hn : H s1.heap.objs.size = none := I1.hok.fresh (Nat.le_refl _)
    have J := I1.laid (a := s1.heap.objs.size) (o := .lst ((z.cps.toList.mergeSort fun a b => decide (a ≤ b)).map fun c => V.str ⟨#[c]⟩)) (h' := h') (t' := s1.toks) hold (Nat.le_refl _) ⟨by rw [List.length_map, List.length_mergeSort, Array.length_toList]; exact hz, out, c, rv2, hat⟩
    have e : ({ s1 with heap := h' } : Shared) = { s with heap := h', gens := s1.gens, drawn := s1.drawn, toks := s1.toks } := by
      cases s1
      cases s
      cases ho
      rfl
    rw [e]
    exact ⟨.ref _, _, J, rfl, q _ hn⟩
end
end KM
/-! text KW4 -/
set_option Elab.async false
set_option linter.all false
set_option maxRecDepth 100000
set_option maxHeartbeats 4000000
namespace KM
open PySem PySem.Spec PyProof.Rows L2
def okSign (c : Nat) : Prop := 32 ≤ c ∧ c ≤ 126 ∧ c ≠ 37
theorem dataLt_sgn (a b : Nat) : PySem.W.dataLt (.str ⟨#[a]⟩) (.str ⟨#[b]⟩) = decide (a < b) := by
  have h := sgD_le b a
  rw [PySem.W.dataLe_eq] at h
  have h2 : (!PySem.W.dataLt (.str ⟨#[a]⟩) (.str ⟨#[b]⟩)) = decide (b ≤ a) := h
  have h3 : PySem.W.dataLt (.str ⟨#[a]⟩) (.str ⟨#[b]⟩) = !decide (b ≤ a) := by rw [← h2, Bool.not_not]
  rw [h3]
  by_cases q : a < b
  · rw [decide_eq_true q, decide_eq_false (by omega)] <;> rfl
  · rw [decide_eq_false q, decide_eq_true (by omega)] <;> rfl
theorem rises_sgn {l : List Nat} (h : l.Pairwise (· < ·)) : RisesD (l.map fun c => PyData.str ⟨#[c]⟩) := by
  intro i d e h1 h2
  rw [List.getElem?_map] at h1 h2
  obtain ⟨a, ha, rfl⟩ := Option.map_eq_some_iff.mp h1
  obtain ⟨b, hb, rfl⟩ := Option.map_eq_some_iff.mp h2
  obtain ⟨l1, e1⟩ := List.getElem?_eq_some_iff.mp ha
  obtain ⟨l2, e2⟩ := List.getElem?_eq_some_iff.mp hb
  have lt : a < b := by
    rw [← e1, ← e2]
    exact List.pairwise_iff_getElem.mp h i (i + 1) l1 l2 (by omega)
  refine ⟨rfl, fun z => (by cases z), (by show 0 ≤ 8; decide), ?_⟩
  rw [dataLt_sgn]
  exact decide_eq_true lt
theorem dpAll_sgn {K : PySem.W.Frag} (H : Hp) : ∀ l : List Nat, DpAll K H (l.map fun c => V.str ⟨#[c]⟩) (l.map fun c => PyData.str ⟨#[c]⟩)
  | [] => .nil
  | c :: l => .cons (.str _) (dpAll_sgn H l)
theorem sgn_sS (l : List Nat) : sgn (sS l) = l.map fun c => V.str ⟨#[c]⟩ := by
  unfold sgn
  rw [sS_cps]
theorem lt_nil_iff : ¬ ((37 : Nat) = 36) := by decide
section
variable {P : Program} {w : World} {K : PySem.W.Frag} {mg : Str → Option Value} {base : Heap}
def spAreSigns : Sp := fun vs H Q _ => ∃ l : List Nat, vs = [sV l] ∧ l ≠ [] ∧ l.Pairwise (· < ·) ∧ (∀ c ∈ l, okSign c) ∧ l.length < 100000 ∧ ∀ H', Same H H' → Q (.bl true) H'
theorem scAreSigns : FnScope ["thing", "sign"] ["thing"] (defScope sAreSigns) := ⟨rfl, rfl, rfl, by decide +kernel, rfl, by decide +kernel, by decide +kernel⟩
theorem ok_are_signs {f f2 : Addr} {fd fd2 : FuncData} (F : FnP K "are_signs" "are_signs" sAreSigns f fd) (B : Bi mg) (F2 : FnP K "is_rising" "is_rising" sIsRising f2 fd2) (g2 : mg "is_rising" = some (.ref f2)) :
    FnOk P w K mg base CX0 2 f fd ["thing"] spAreSigns := by
  have O2 : FnOk P w K mg base CX0 1 f2 fd2 ["things"] (spIsRising K) := ok_is_rising F2 B
  have b2 : Binds K fd2 ["things"] [] := F2.bindsN fun _ _ _ _ _ _ us hl => match us, hl with | [_], _ => rfl
  refine F.okP scAreSigns (fun vs H Q E h => ?_) (fun cdv A outer s H vs Q E hr h => ?_)
  · obtain ⟨l, rfl, _⟩ := h
    rfl
  · obtain ⟨l, rfl, hne, hp, hok, hl, q⟩ := h
    refine ⟨_, pss_cons (ps_if (PW.pt (pw_or (pt_not (pt_val (pe_callB call_isi (by rfl) B.isinstance (by decide +kernel) (pa_cons (pv 0) (pa_cons (pe_bltn (v := .ty "str") (by rfl) B.str (by decide +kernel) rfl) pa_nil)))))
        (pw_or1 (pt_cmpR op_eq (pv 0) pe_str (nomark _))))) (pss_one (ps_ret pe_bl)) pss_nil)
      (pss_one (ps_ret (pe_and (pe_call O2 hr (by rfl) g2 F2.kp b2 .nil pass0 (pa_cons (pe_callTy (cr_listS rfl) (by rfl) B.list (by decide +kernel) (pa_cons (pv 0) pa_nil)) pa_nil))
        (pe_one (pe_callB (cr_all rfl) (by rfl) B.all (by decide +kernel) (pa_cons (pe_lc (own := [("sign", 1)]) (g := gName 1) (tt := tYes) rfl scAreSigns.nd (pi_str (pv 0))
          (blkOk_by (N := ["thing", "sign"]) (sc := defScope sAreSigns) (by decide +kernel)) (fun _ _ _ _ _ => pg_name (i := 1) scAreSigns.nd rfl (.inl rfl)) (fun _ _ _ _ _ => pts_nil)
          (fun _ _ _ _ _ => pe_and (pe_chain op_le_str op_le_str pe_str (pv 1) pe_str) (pe_one (pe_cmpR op_ne (pe_callB call_ord (by rfl) B.ord (by decide +kernel) (pa_cons (pv 1) pa_nil)) pe_int (nomark _))))) pa_nil)))))), ?_⟩
    have hsz : l.length ≤ sizeLine := Nat.le_of_lt (Nat.lt_of_lt_of_le hl (by decide))
    refine ⟨_, rfl, _, _, _, _, true, rfl, .ty "str", .base (.str _), kit_ty (by decide +kernel), true, rfl, ?_⟩
    refine iteF ⟨_, rfl, rfl, _, rfl, ?_⟩
    have e0 : decide (sV l = V.str "") = false := decide_eq_false fun z => by
      have z2 : sS l = "" := V.str.inj z
      have z3 : l = [] := by
        have z4 := congrArg (fun x : Str => x.cps.toList) z2
        rw [sS_cps] at z4
        exact z4
      exact hne z3
    show (if decide (sV l = V.str "") = true then _ else _)
    rw [e0]
    refine iteF ?_
    refine ⟨_, rfl, sS l, rfl, by rw [sS_len]; exact hsz, fun p hpn => ?_⟩
    refine ⟨p, _, l.map fun c => PyData.str ⟨#[c]⟩, rfl, .inl (by rw [← sgn_sS]; exact upd_same), dpAll_sgn _ l, rises_sgn hp, ?_, fun H1 s1 => ?_⟩
    · rw [List.length_map]
      exact Nat.lt_of_lt_of_le hl (by decide)
    refine ⟨true, rfl, iteT ⟨_, rfl, sS l, rfl, ?_⟩⟩
    intro D hD
    refine lc_map hD (β := Bool) (fun _ v b => v = .bl b) (fun _ _ _ _ _ z => z) (walk_str (z := sS l)) (fun _ _ => trivial) (fun i => List.replicate i true) rfl ?_ (fun i x Hc H' Post Skip hi sc hy k1 k2 => ?_) (fun H' acc s2 ha hp => ?_)
    · show l.toArray.size < sizeLine
      rw [List.size_toArray]
      exact Nat.lt_of_lt_of_le hl (by decide)
    · obtain ⟨rfl, c, hc, rfl⟩ := hy
      have hm : c ∈ l := by
        have e : l[i]? = some c := by
          have e2 : l.toArray[i]? = some c := hc
          simpa using e2
        exact List.mem_of_getElem? e
      obtain ⟨c1, c2, c3⟩ := hok c hm
      refine ⟨rfl, ?_⟩
      refine ⟨_, rfl, _, _, rfl, rfl, true, ?_, iteT ⟨_, _, rfl, rfl, ?_⟩⟩
      · show V.bl (!decide ([c] < [32])) = V.bl true
        rw [decide_eq_false fun z => ?_] <;> try rfl
        rcases List.cons_lt_cons_iff.mp z with z | ⟨_, z⟩
        · omega
        · exact absurd z (List.not_lt_nil _)
      · refine ⟨true, ?_, iteT ⟨_, rfl, _, rfl, rfl, rfl, ?_⟩⟩
        · show V.bl (!decide ([126] < [c])) = V.bl true
          rw [decide_eq_false fun z => ?_] <;> try rfl
          rcases List.cons_lt_cons_iff.mp z with z | ⟨_, z⟩
          · omega
          · exact absurd z (List.not_lt_nil _)
        · refine k1 _ _ true (Same.refl _) ?_ List.replicate_succ'
          show V.bl (!decide (V.int (c : Int) = V.int 37)) = V.bl true
          rw [decide_eq_false fun z => ?_] <;> try rfl
          have z2 := V.int.inj z
          omega
    · rw [bls_of hp] at ha
      refine ⟨D, _, rfl, .inl (.inl ha), ?_⟩
      show Q (.bl ((List.replicate (sS l).cps.size true).all id)) H'
      rw [all_rep]
      exact q H' ((same_upd hpn).trans (s1.trans s2))
end
end KM
/-! text KW5 -/
set_option Elab.async false
set_option linter.all false
set_option maxRecDepth 100000
set_option maxHeartbeats 4000000
namespace KM
open PySem PySem.Spec PyProof.Rows L2
/-- v is a tuple of the values xs -/
def Tup (H : Hp) (v : V) (xs : List V) : Prop := ∃ t, v = .ref t ∧ H t = some (.tup xs)
theorem Tup.mono {H H' : Hp} {v : V} {xs : List V} (e : TupS H H') (h : Tup H v xs) : Tup H' v xs := let ⟨t, h1, h2⟩ := h; ⟨t, h1, e _ _ h2⟩
theorem Tup.same {H H' : Hp} {v : V} {xs : List V} (e : Same H H') (h : Tup H v xs) : Tup H' v xs := h.mono (TupS.same e)
abbrev Stp := Nat × List Nat × Nat
def StpAt (H : Hp) (v : V) (s : Stp) : Prop := Tup H v [nV s.1, sV s.2.1, nV s.2.2]
def OnwAt (H : Hp) (v : V) (s : List Nat × Nat) : Prop := Tup H v [sV s.1, nV s.2]
def PrAt (H : Hp) (v : V) (p : Nat × Nat) : Prop := Tup H v [nV p.1, nV p.2]
/-- a text of signs as a step has it -/
structure SgOk (l : List Nat) : Prop where
  ne : l ≠ []
  rise : l.Pairwise (· < ·)
  ok : ∀ c ∈ l, okSign c
theorem len_le_of_rise : ∀ (l : List Nat) (a : Nat), l.Pairwise (· < ·) → (∀ c ∈ l, a ≤ c ∧ c ≤ 126) → l.length + a ≤ 127 ∨ l = []
  | [], _, _, _ => .inr rfl
  | c :: l, a, hp, h => by
    obtain ⟨h1, h2⟩ := List.pairwise_cons.mp hp
    have hc := h c List.mem_cons_self
    rcases len_le_of_rise l (c + 1) h2 (fun d hd => ⟨h1 d hd, (h d (List.mem_cons_of_mem _ hd)).2⟩) with q | q
    · rw [List.length_cons]
      omega
    · rw [q]
      simp
      omega
theorem SgOk.len {l : List Nat} (h : SgOk l) : l.length ≤ 127 := by
  rcases len_le_of_rise l 0 h.rise (fun c hc => ⟨Nat.zero_le _, (h.ok c hc).2.1⟩) with q | q
  · omega
  · rw [q]
    exact Nat.zero_le _
structure StpOk (many : Nat) (s : Stp) : Prop where
  l1 : s.1 < many
  l2 : s.2.2 < many
  sg : SgOk s.2.1
section
variable {P : Program} {w : World} {K : PySem.W.Frag} {mg : Str → Option Value} {base : Heap}
def spIsStep : Sp := fun vs H Q _ => ∃ (v : V) (many : Nat) (s : Stp), vs = [v, nV many] ∧ StpAt H v s ∧ StpOk many s ∧ ∀ H', Same H H' → Q (.bl true) H'
theorem scIsStep : FnScope ["thing", "many", "place", "signs", "other"] ["thing", "many"] (defScope sIsStep) := ⟨rfl, rfl, rfl, by decide +kernel, rfl, by decide +kernel, by decide +kernel⟩
theorem ok_is_step {f f1 f2 : Addr} {fd fd1 fd2 : FuncData} (F : FnP K "is_step" "is_step" sIsStep f fd) (B : Bi mg) (F1 : FnP K "is_count" "is_count" sIsCount f1 fd1) (g1 : mg "is_count" = some (.ref f1))
    (F2 : FnP K "are_signs" "are_signs" sAreSigns f2 fd2) (g2 : mg "are_signs" = some (.ref f2)) (O2 : FnOk P w K mg base CX0 2 f2 fd2 ["thing"] spAreSigns) : FnOk P w K mg base CX0 3 f fd ["thing", "many"] spIsStep := by
  have O1 : FnOk P w K mg base CX0 1 f1 fd1 ["thing"] spIsCount := ok_is_count F1 B
  have b1 : Binds K fd1 ["thing"] [] := F1.bindsN fun _ _ _ _ _ _ us hl => match us, hl with | [_], _ => rfl
  have b2 : Binds K fd2 ["thing"] [] := F2.bindsN fun _ _ _ _ _ _ us hl => match us, hl with | [_], _ => rfl
  refine F.okP scIsStep (fun vs H Q E h => ?_) (fun cdv A outer s H vs Q E hr h => ?_)
  · obtain ⟨v, many, s, rfl, _⟩ := h
    rfl
  · obtain ⟨v, many, ⟨a, l, b⟩, rfl, ⟨t, rfl, ht⟩, ok, q⟩ := h
    have hr1 : Room 1 _ := hr.mono (by decide)
    refine ⟨_, pss_cons (ps_if (PW.pt (pw_or (pt_not (pt_val (pe_callB call_isi (by rfl) B.isinstance (by decide +kernel) (pa_cons (pv 0) (pa_cons (pe_bltn (v := .ty "tuple") (by rfl) B.tuple (by decide +kernel) rfl) pa_nil)))))
        (pw_or1 (pt_cmpR op_ne (pe_callB call_len_seq (by rfl) B.len boot_len (pa_cons (pv 0) pa_nil)) pe_int (nomark _))))) (pss_one (ps_ret pe_bl)) pss_nil)
      (pss_cons (ps_asg (pv 0) (pg_tup (by rfl) (pgs_cons (pg_name (i := 2) scIsStep.nd rfl (.inl rfl)) (pgs_cons (pg_name (i := 3) scIsStep.nd rfl (.inl rfl)) (pgs_cons (pg_name (i := 4) scIsStep.nd rfl (.inl rfl)) pgs_nil)))))
      (pss_cons (ps_if (PW.pt (pw_or (pt_not (pt_val (pe_call O2 hr (by rfl) g2 F2.kp b2 .nil pass0 (pa_cons (pv 3) pa_nil))))
          (pw_or (pt_not (pt_val (pe_call O1 hr1 (by rfl) g1 F1.kp b1 .nil pass0 (pa_cons (pv 2) pa_nil)))) (pw_or1 (pt_not (pt_val (pe_call O1 hr1 (by rfl) g1 F1.kp b1 .nil pass0 (pa_cons (pv 4) pa_nil))))))))
        (pss_one (ps_ret pe_bl)) pss_nil)
      (pss_one (ps_ret (pe_and (pe_cmpR op_lt (pv 2) (pv 1) (nomark _)) (pe_one (pe_cmpR op_lt (pv 4) (pv 1) (nomark _)))))))), ?_⟩
    refine ⟨_, rfl, _, _, _, _, true, rfl, .ty "tuple", .base (.tup ht), kit_ty (by decide +kernel), true, rfl, ?_⟩
    refine iteF ⟨_, rfl, t, _, rfl, .inr (.inl (.inl ht)), rfl, _, rfl, ?_⟩
    show (if (!decide (V.int 3 = V.int 3)) = true then _ else _)
    rw [decide_eq_true (rfl : V.int 3 = V.int 3)]
    refine iteF ?_
    refine ⟨_, rfl, t, _, rfl, .inl (.inl ht), rfl, _, _, rfl, _, _, rfl, _, _, rfl, rfl, ?_⟩
    refine ⟨_, rfl, l, rfl, ok.sg.ne, ok.sg.rise, ok.sg.ok, Nat.lt_of_le_of_lt ok.sg.len (by decide), fun H1 s1 => ⟨true, rfl, ?_⟩⟩
    refine iteF ⟨_, rfl, (a : Int), rfl, true, by rw [decide_eq_true (by omega)], ?_⟩
    refine iteF ⟨_, rfl, (b : Int), rfl, true, by rw [decide_eq_true (by omega)], ?_⟩
    refine iteF ⟨_, rfl, _, rfl, _, _, rfl, rfl, true, ?_, ?_⟩
    · have := ok.l1
      show V.bl (decide ((a : Int) < (many : Int))) = V.bl true
      rw [decide_eq_true (by simpa using this)]
    refine iteT ⟨_, rfl, _, rfl, _, _, rfl, rfl, ?_⟩
    have e : decide ((b : Int) < (many : Int)) = true := decide_eq_true (by have := ok.l2; simpa using this)
    show Q (V.bl (decide ((b : Int) < (many : Int)))) _
    rw [e]
    exact q _ s1
end
end KM
/-! text KCC -/
set_option Elab.async false
set_option linter.all false
set_option maxRecDepth 100000
set_option maxHeartbeats 4000000
/-! One core for comprehensions of one clause, whatever they fill. -/
namespace KM
open PySem PySem.Spec PyProof.Rows L2
/-- the tests of a clause -/
abbrev testsT (ifs : List Expr) (env : Env) : Sem Bool := forIn ifs true fun c r => if r = true then do let ok ← isTrue c env (eval c env); pure (ForInStep.yield ok) else pure (ForInStep.yield r)
/-- a turn of a loop: what must be shown of it (post n: the next turn's state, from a state in which the item was put in) -/
def TurnT (X : Cx) (R : Result → Shared → Prop) (tg : Expr) (ifs : List Expr) (it : Addr) (env : Env) (kept : Shared → Prop) (skip : Shared → Prop) (s : Shared) : Prop := ∀ E : Value → Shared → Prop,
  wpAny (model X.prog X.w) X.A (pyNext (.ref it)) (fun r s1 => match r with
    | none => R (.ok .next) s1
    | some v => wpAny (model X.prog X.w) X.A (letOwnedTupleGo tg (.ref it) v) (fun _ s2 => wpAny (model X.prog X.w) X.A (assign tg env v) (fun _ s3 => wpAny (model X.prog X.w) X.A (testsT ifs env) (fun ok s4 => if ok = true then kept s4 else skip s4) E s3) E s2) E s1) E s
/-- all slots but those of vs are as they were -/
structure Keeps (vs : List Nat) (σ σ' : L2.St) : Prop where
  len : σ'.length = σ.length
  at_ : ∀ (j : Nat) (v : V), j ∉ vs → σ[j]? = some (some v) → σ'[j]? = some (some v)
theorem Keeps.refl (vs : List Nat) (σ : L2.St) : Keeps vs σ σ := ⟨rfl, fun _ _ _ h => h⟩
/-- how a kind of comprehension fills its object: a new object o0 (told as emp), acc what a kept item asks (of a second clause, its walk); vs: the slots of its own -/
structure Sink (X : Cx) (comp tg iter : Expr) (ifs : List Expr) (scope : Scope) (mk : Sem Value) (o0 : Obj) (emp : Addr → HO) (acc : L2.St → Hp → Addr → (Hp → Prop) → Prop) (vs : List Nat) : Prop where
  cls : ∃ more, clausesOf comp = ⟨tg, iter, ifs, 0⟩ :: more
  mkOk : ∀ (E : Value → Shared → Prop) (Q : Value → Shared → Prop) (s : Shared), Q (.ref s.heap.objs.size) { s with heap := s.heap.push o0 } → wpAny (model X.prog X.w) X.A mk Q E s
  empOk : ∀ (H : Hp) (h : Heap), sysModules < h.objs.size → ObjOk X.prog X.w H (h.push o0) h.objs.size (emp h.objs.size)
  start : ∀ (it : Value) (D : Addr) (env : Env) (R : Result → Shared → Prop) (s : Shared), codeAny (model X.prog X.w) X.A (.compLoop comp 0 it (.ref D) env) R s →
    (∀ E, wpAny (model X.prog X.w) X.A (pyIter it) (fun it' s' => codeAny (model X.prog X.w) X.A (.compLoop comp 0 it' (.ref D) env) R s') E s) → codeAny (model X.prog X.w) X.A (.compStart comp 0 it (.ref D) env) R s
  loop : ∀ (s0 : Shared) (H0 : Hp) (C : Addr) (cl : List (Str × Addr)) (fp : List Addr) (it D : Addr) (R : Result → Shared → Prop) (I : Nat → Shared → Prop),
    (∀ n s, I n s → TurnT X R tg ifs it (compEnvC scope cl C X.env) (fun s4 => ∃ (pins : List (Addr × Obj)) (σ : L2.St) (H : Hp) (Nx : Hp → Prop), Inv (X.blk s0 H0 scope (compEnvC scope cl C X.env) fp) pins σ H s4 ∧ acc σ H D Nx ∧
      ∀ σ' s' H', Keeps vs σ σ' → Inv (X.blk s0 H0 scope (compEnvC scope cl C X.env) fp) pins σ' H' s' → Nx H' → ∃ m, m < n ∧ I m s') (fun s4 => ∃ m, m < n ∧ I m s4) s) →
    ∀ n s, I n s → codeAny (model X.prog X.w) X.A (.compLoop comp 0 (.ref it) (.ref D) (compEnvC scope cl C X.env)) R s
/-- what it asks -/
def tComp (emp : Addr → HO) (wi : TI) (g : TG) (tt : TT) (acc : L2.St → Hp → Addr → (Hp → Prop) → Prop) (vs : List Nat) : TE := fun σ H Q => wi σ H fun J H1 => ∀ D, H1 D = none → ∃ W : Nat → Nat → Hp → Prop, (∃ m, W 0 m (upd H1 D (emp D))) ∧ ∀ i m H, W i m H →
  (J.stop i H ∧ Q (.ref D) H) ∨ (J.go i H ∧ ∃ Nx : Hp → Prop, (∀ H', Nx H' → ∃ m', m' < m ∧ W (i + 1) m' H') ∧ ∀ x H', J.yld i H x H' → g x (wipe σ vs) H' fun σ2 H2 => wipe σ2 vs = wipe σ vs ∧ tt σ2 H2 fun b H3 => if b = true then acc σ2 H3 D Nx else Nx H3)
section
variable {X : Cx} {comp tg iter : Expr} {ifs : List Expr} {scope : Scope} {mk : Sem Value} {o0 : Obj} {emp : Addr → HO} {acc : L2.St → Hp → Addr → (Hp → Prop) → Prop} {own : List (Str × Nat)} {wi : TI} {g : TG} {tt : TT}
theorem comp_core {pins : List (Addr × Obj)} {s : Shared} {σ : L2.St} {H : Hp} {Q : VK} {pos' : Pos} {use : Option (Value → Sem Unit)} {Qf : Value → Shared → Prop} (S : Sink X comp tg iter ifs scope mk o0 emp acc (own.map (·.2)))
    (hc : X.calm = true) (hN : X.N.Nodup) (I : Inv X pins σ H s) (hi : PI X tg iter wi) (ok : BlkOk X.N X.env.scope scope own)
    (hg : ∀ (s : Shared) (H : Hp) (C : Addr) (cl : List (Str × Addr)) (fp : List Addr), PG (X.blk s H scope (compEnvC scope cl C X.env) fp) tg g)
    (ht : ∀ (s : Shared) (H : Hp) (C : Addr) (cl : List (Str × Addr)) (fp : List Addr), PTs (X.blk s H scope (compEnvC scope cl C X.env) fp) ifs tt)
    (hs : ∀ x, foldedSetIterable iter X.env x = pure x) (h : tComp emp wi g tt acc (own.map (·.2)) σ H Q)
    (hRR : ∀ D C s' m H', Inv X pins σ H' s' → Q (.ref D) H' → s'.heap.Ns C m → FpOk X pins H' C → compPost (model X.prog X.w) X.A X.xe use Qf (.ref D) C (.ok .next) s') :
    wpAny (model X.prog X.w) X.A (comprehension comp scope X.env pos' mk false (eval iter X.env) use) Qf X.xe s := by
  have hfree : ∀ y ∈ scope.names, y.2 = .free → ∃ c, X.env.cells.lookup y.1 = some c := fun y hy e => (ok.free y hy e).elim (fun k => I.ok.has _ (.inl k)) fun k => I.ok.has _ (.inr k)
  obtain ⟨more, cls⟩ := S.cls
  refine wpAny_comprehension_free (use := use) cls hs (closure_ok hfree) ok.kind (fun y hy e => by rw [ok.uniq y hy, e]) (thn (hi.run pins s σ H _ I h) fun xv s1 hx => thn hx fun itv s2 h2 => ?_)
  obtain ⟨it, fp, tn, J, H2, rfl, I2, T, st2, f2, q⟩ := h2
  refine S.mkOk _ _ s2 (newEnv_comp ?_)
  -- the new object
  obtain ⟨D, hD⟩ : ∃ D, s2.heap.objs.size = D := ⟨_, rfl⟩
  rw [hD]
  have hDn : H2 D = none := I2.hok.fresh (Nat.le_of_eq hD)
  obtain ⟨W, ⟨m0, w0⟩, turn⟩ := q D hDn
  obtain ⟨s3, hs3⟩ : ∃ s3 : Shared, { s2 with heap := s2.heap.push o0 } = s3 := ⟨_, rfl⟩
  have h3 : s3.heap = s2.heap.push o0 := by rw [← hs3]
  have I3 : Inv X pins σ (upd H2 D (emp D)) s3 := by
    rw [← hs3]
    exact I2.laid (t' := s2.toks) (fun b o e => Heap.get?_push_of_some _ e) (Nat.le_of_eq hD) (by rw [← hD]; exact S.empOk _ _ I2.big)
  obtain ⟨H3, hH3⟩ : ∃ H3, upd H2 D (emp D) = H3 := ⟨_, rfl⟩
  rw [hH3] at I3 w0
  have f3 : ∀ b ∈ fp, FpOk X pins H3 b ∧ b < s3.heap.objs.size := fun b hb => by
    obtain ⟨o, e, _⟩ := T.obj _ _ st2 b hb
    have hlt := Heap.lt_size e
    refine ⟨⟨?_, (f2 b hb).2⟩, by rw [h3, Heap.size_push]; exact Nat.lt_succ_of_lt hlt⟩
    rw [← hH3, upd_ne (by rw [← hD]; exact Nat.ne_of_lt hlt)]
    exact (f2 b hb).1
  have st3 : tn 0 s3.heap := T.keep _ _ _ st2 fun b _ o e => by rw [h3]; exact Heap.get?_push_of_some _ e
  have I4 := block_start I3 ok hN f3
  obtain ⟨s4, hs4⟩ : ∃ s4 : Shared, { s3 with heap := pushCells (s3.heap.push { cls := .type "dict", data := .dict #[] }) scope.names } = s4 := ⟨_, rfl⟩
  have st4 : tn 0 s4.heap := T.keep _ _ _ st3 fun b _ o e => by rw [← hs4]; exact pushCells_keeps _ _ _ _ (Heap.get?_push_of_some _ e)
  obtain ⟨cl, hcl⟩ : ∃ cl, cellsFrom (s3.heap.objs.size + 1) scope.names (cloFrom X.env.cells scope.names []) = cl := ⟨_, rfl⟩
  obtain ⟨C, hC⟩ : ∃ C, s3.heap.objs.size = C := ⟨_, rfl⟩
  have goal : codeAny (model X.prog X.w) X.A (.compStart comp 0 (.ref it) (.ref D) (compEnvC scope cl C X.env)) (compPost (model X.prog X.w) X.A X.xe use Qf (.ref D) C) s4 := by
    rw [hcl, hC, hs4] at I4
    have cL : (compEnvC scope cl C X.env).locals = C := rfl
    have pg := hg s3 H3 C cl fp
    have pt := ht s3 H3 C cl fp
    have nfp : ∀ b ∈ fp, H3 b = none := fun b hb => (f3 b hb).1.1
    have lp := S.loop s3 H3 C cl fp it D (compPost (model X.prog X.w) X.A X.xe use Qf (.ref D) C)
    obtain ⟨ce, hce⟩ : ∃ ce, compEnvC scope cl C X.env = ce := ⟨_, rfl⟩
    rw [hce] at I4 pg pt cL lp ⊢
    have stat : ∀ {σ' : L2.St} {H' : Hp} {s' : Shared}, Inv (X.blk s3 H3 scope ce fp) [] σ' H' s' → (∀ b ∈ fp, H' b = none) → ∀ b ∈ fp, FpOk (X.blk s3 H3 scope ce fp) [] H' b := fun {σ' H' s'} I' hn b hb =>
      ⟨hn b hb, (I'.ok.exf b hb).1, I'.ok.exfs b hb, .inl hb, fun x c e => (I'.ok.exf b hb).2 x c e, fun p hp => absurd (show p ∈ ([] : List (Addr × Obj)) ++ [] from hp) (by simp)⟩
    have run := lp (fun n s' => ∃ i H', Inv (X.blk s3 H3 scope ce fp) [] (wipe σ (own.map (·.2))) H' s' ∧ tn i s'.heap ∧ (∀ b ∈ fp, H' b = none) ∧ W i n H') (fun n s5 ⟨i, H5, I5, st5, n5, w5⟩ E => by
      rcases turn i n H5 w5 with ⟨stop, qq⟩ | ⟨go, Nx, hNx, step⟩
      · refine thnF (T.done (X.blk s3 H3 scope ce fp) rfl rfl rfl hc i [] s5 _ H5 (fun _ _ => False) I5 (stat I5 n5) st5 stop) fun r s6 ⟨hr, I6⟩ => ?_
        subst hr
        have I7 : Inv X pins σ H5 s6 := I3.call' (ch := fp) I6.os I6.base I6.hok I6.bare fun b hb => let f := (f3 b hb).1.2; ⟨f.2.2.1, f.1, f.2.2.2.1, f.2.2.2.2⟩
        have nC : H5 C = none := by
          have z : H5 ce.locals = none := I6.free
          rwa [cL] at z
        obtain ⟨m, hn, _⟩ := I6.loc
        have hn2 : s6.heap.Ns C m := by
          have z : s6.heap.Ns ce.locals m := hn
          rwa [cL] at z
        exact hRR D C s6 m H5 I7 qq hn2 (I3.fpOk (Nat.le_of_eq hC) nC)
      · refine thnF (T.item (X.blk s3 H3 scope ce fp) rfl rfl rfl hc i [] s5 _ H5 (fun _ _ => False) I5 (stat I5 n5) st5 go) fun r s6 ⟨u, hr, h6⟩ => ?_
        subst hr
        refine thnF h6 fun _ s7 ⟨x, H7, I7, r7, y7, st7, n7⟩ => ?_
        have I7' := I7.pinned (stat I7 n7) (T.obj _ _ st7)
        refine thnF (pg.run _ s7 _ H7 x u _ I7' r7 (step x H7 y7)) fun _ s8 ⟨σ8, H8, I8, hw8, q8⟩ => thnF (pt.run _ s8 σ8 H8 _ I8 q8) fun b s9 ⟨H9, I9, q9⟩ => ?_
        have fin : ∀ σ' s' H', Keeps (own.map (·.2)) σ8 σ' → Inv (X.blk s3 H3 scope ce fp) ([] ++ pinsAt fp s7.heap) σ' H' s' → Nx H' → ∃ m, m < n ∧ ∃ i H', Inv (X.blk s3 H3 scope ce fp) [] (wipe σ (own.map (·.2))) H' s' ∧ tn i s'.heap ∧ (∀ b ∈ fp, H' b = none) ∧ W i m H' := fun σ' s' H' kp I' nx => by
          obtain ⟨m', hm, w'⟩ := hNx H' nx
          have pin' : ∀ b ∈ fp, ∀ o, s7.heap.get? b = some o → s'.heap.get? b = some o ∧ H' b = none := fun b hb o e =>
            have z := I'.pin (b, o) (List.mem_append_right _ (List.mem_append_right _ (mem_pinsAt hb e)))
            ⟨z.1, z.2.1⟩
          have hl : (wipe σ (own.map (·.2))).length = σ'.length := by rw [← hw8, wipe_length, kp.len]
          refine ⟨m', hm, i + 1, H', (I'.unpinned (pins := [])).weak hl (fun j v e => ?_), T.keep _ _ _ st7 fun b hb o e => (pin' b hb o e).1, fun b hb => ?_, w'⟩
          · rw [← hw8] at e
            exact kp.at_ j v (wipe_some e).2 (wipe_some e).1
          · obtain ⟨o, e, _⟩ := T.obj _ _ st7 b hb
            exact (pin' b hb o e).2
        cases b with
        | false =>
          simp only [Bool.false_eq_true, if_false] at q9 ⊢
          exact fin _ _ _ (.refl _ _) I9 q9
        | true =>
          simp only [if_true] at q9 ⊢
          exact ⟨_, σ8, H9, Nx, I9, q9, fin⟩) m0 s4 ⟨0, H3, I4, st4, nfp, w0⟩
    exact S.start _ _ _ _ _ run fun E => T.self X.A 0 _ _ _ st4 run
  subst hs4
  subst hcl
  subst hC
  subst hs3
  exact goal
/-- such a comprehension as a value -/
theorem pe_comp {ce : Expr} {pos' : Pos} (S : Sink X comp tg iter ifs scope mk o0 emp acc (own.map (·.2))) (he : eval ce X.env = comprehension comp scope X.env pos' mk false (eval iter X.env) none)
    (hc : X.calm = true) (hN : X.N.Nodup) (hi : PI X tg iter wi) (ok : BlkOk X.N X.env.scope scope own)
    (hg : ∀ (s : Shared) (H : Hp) (C : Addr) (cl : List (Str × Addr)) (fp : List Addr), PG (X.blk s H scope (compEnvC scope cl C X.env) fp) tg g)
    (ht : ∀ (s : Shared) (H : Hp) (C : Addr) (cl : List (Str × Addr)) (fp : List Addr), PTs (X.blk s H scope (compEnvC scope cl C X.env) fp) ifs tt)
    (hs : ∀ x, foldedSetIterable iter X.env x = pure x) : PE X ce (tComp emp wi g tt acc (own.map (·.2))) := by
  refine ⟨fun pins s σ H Q I h => ?_⟩
  rw [he]
  refine comp_core S hc hN I hi ok hg ht hs h fun D C s' m H' I' q hn f => ⟨m, hn, fun h'' sb => ?_⟩
  exact ⟨.ref D, H', I'.turned (t' := s'.toks) (fun b o hb e => (sb.2 b hb).trans e) f.1 f.2.1 f.2.2.2.1 f.2.2.2.2.1 f.2.2.2.2.2, rfl, q⟩
end
end KM
/-! text KT1 -/
set_option Elab.async false
set_option linter.all false
set_option maxRecDepth 100000
set_option maxHeartbeats 4000000
/-! Tables of sets, up to 2048 slots: each slot is met on each way. -/
namespace KM
open PySem PySem.Spec PyProof.Rows L2
/-- the masks that a set of at most a thousand items has -/
def Msk (m : Nat) : Prop := m = 7 ∨ m = 31 ∨ m = 127 ∨ m = 511 ∨ m = 2047
/-- n turns from x do not come to nought, the next one does -/
def awayFrom (m : Nat) : Nat → Nat → Bool
  | 0, x => (x * 5 + 1) % (m + 1) == 0
  | n + 1, x => ((x * 5 + 1) % (m + 1) != 0) && awayFrom m n ((x * 5 + 1) % (m + 1))
theorem away_ok {m : Nat} (h : Msk m) : awayFrom m m 0 = true := by
  rcases h with rfl | rfl | rfl | rfl | rfl <;> decide +kernel
theorem cyc_le (m : Nat) : ∀ k, lcgN m k ≤ m
  | 0 => Nat.zero_le _
  | k + 1 => Nat.le_of_lt_succ (Nat.mod_lt _ (Nat.succ_pos _))
theorem cyc_one {m x y : Nat} (h : Msk m) (hx : x ≤ m) (hy : y ≤ m) (e : (x * 5 + 1) % (m + 1) = (y * 5 + 1) % (m + 1)) : x = y := by
  rcases h with rfl | rfl | rfl | rfl | rfl <;> omega
theorem cyc_back {m : Nat} (h : Msk m) : ∀ a d, lcgN m a = lcgN m (a + d) → lcgN m d = 0
  | 0, d, e => by
    rw [Nat.zero_add] at e
    exact e.symm
  | a + 1, d, e => by
    refine cyc_back h a d (cyc_one h (cyc_le m a) (cyc_le m (a + d)) ?_)
    rw [show a + 1 + d = (a + d) + 1 by omega] at e
    exact e
theorem away_all (m : Nat) : ∀ n c, awayFrom m n (lcgN m c) = true → (∀ i, i < n → lcgN m (c + i + 1) ≠ 0) ∧ lcgN m (c + n + 1) = 0
  | 0, c, e => ⟨fun i hi => absurd hi (Nat.not_lt_zero i), beq_iff_eq.mp e⟩
  | n + 1, c, e => by
    have e' : ((lcgN m (c + 1) != 0) && awayFrom m n (lcgN m (c + 1))) = true := e
    rw [Bool.and_eq_true, bne_iff_ne] at e'
    obtain ⟨h1, h2⟩ := away_all m n (c + 1) e'.2
    refine ⟨fun i hi => ?_, by rw [show c + (n + 1) + 1 = c + 1 + n + 1 by omega]; exact h2⟩
    cases i with
    | zero => exact e'.1
    | succ i =>
      rw [show c + (i + 1) + 1 = c + 1 + i + 1 by omega]
      exact h1 i (by omega)
theorem cyc_turn {m : Nat} (h : Msk m) : ∀ k, lcgN m (m + 1 + k) = lcgN m k
  | 0 => by
    have z := (away_all m m 0 (away_ok h)).2
    rw [Nat.zero_add] at z
    exact z
  | k + 1 => congrArg (fun x => (x * 5 + 1) % (m + 1)) (cyc_turn h k)
theorem cyc_hit {m j : Nat} (h : Msk m) (hj : j ≤ m) : ∃ b, b ≤ m ∧ lcgN m b = j := by
  rcases Classical.em (j ∈ (List.range (m + 1)).map (lcgN m)) with c | c
  · obtain ⟨b, hb, e⟩ := List.mem_map.mp c
    exact ⟨b, Nat.le_of_lt_succ (List.mem_range.mp hb), e⟩
  · have nd : ((List.range (m + 1)).map (lcgN m)).Nodup := by
      rw [List.Nodup, List.pairwise_map]
      refine List.Pairwise.imp_of_mem ?_ List.pairwise_lt_range
      intro a b _ hb lt e
      have hb := List.mem_range.mp hb
      obtain ⟨d, rfl⟩ : ∃ d, b = a + (d + 1) := ⟨b - a - 1, by omega⟩
      have n := (away_all m m 0 (away_ok h)).1 d (by omega)
      rw [Nat.zero_add] at n
      exact n (cyc_back h a (d + 1) e)
    have z := nat_nodup_len (j :: (List.range (m + 1)).map (lcgN m)) (List.range (m + 1)) (List.nodup_cons.mpr ⟨c, nd⟩) (fun x hx => by
      rcases List.mem_cons.mp hx with rfl | hx
      · exact List.mem_range.mpr (Nat.lt_succ_of_le hj)
      · obtain ⟨b, _, rfl⟩ := List.mem_map.mp hx
        exact List.mem_range.mpr (Nat.lt_succ_of_le (cyc_le m b)))
    rw [List.length_cons, List.length_map] at z
    omega
theorem cyc_from {m i j : Nat} (h : Msk m) (hi : i ≤ m) (hj : j ≤ m) : ∃ k, k ≤ m ∧ lcgI m i k = j := by
  obtain ⟨a, ha, rfl⟩ := cyc_hit h hi
  obtain ⟨b, hb, rfl⟩ := cyc_hit h hj
  by_cases c : a ≤ b
  · exact ⟨b - a, by omega, by rw [lcgN_add, show a + (b - a) = b by omega]⟩
  · exact ⟨m + 1 + b - a, by omega, by rw [lcgN_add, show a + (m + 1 + b - a) = m + 1 + b by omega, cyc_turn h]⟩
theorem start_meets {m : Nat} (h : Msk m) (x : Int) {j : Nat} (hj : j ≤ m) : ∃ n, n ≤ m + 12 ∧ runI m (SetTable.bits x) n = j := by
  obtain ⟨k, hk, e⟩ := cyc_from h (runI_le m (SetTable.bits x) 12) hj
  exact ⟨12 + k, by omega, (runI_tail (bits_lt x) k).trans e⟩
theorem way_meets {m : Nat} (h : Msk m) (x : Int) {j : Nat} (hj : j ≤ m) : ∃ k, k < 10 * SetTable.turns m ∧ way m x k = j := by
  obtain ⟨n, hn, e⟩ := start_meets h x hj
  obtain ⟨k, hk, e2⟩ := run_nth m (SetTable.bits x) n
  exact ⟨k, by unfold SetTable.turns; omega, (congrArg SetTable.Probe.j e2).trans e⟩
theorem way_in (m : Nat) (x : Int) (k : Nat) : way m x k ≤ m := by
  have b := runEnd_bd (m := m) (i := SetTable.bits x % (m + 1)) (Nat.le_of_lt_succ (Nat.mod_lt (SetTable.bits x) (Nat.succ_pos m)))
  have z := nth_in (m := m) k (runAt m (SetTable.bits x % (m + 1)) (SetTable.bits x)) (by
    show SetTable.bits x % (m + 1) + (SetTable.runEnd m (SetTable.bits x % (m + 1)) - SetTable.bits x % (m + 1)) ≤ m
    omega)
  exact Nat.le_trans (Nat.le_add_right _ _) z
/-- a table of n items, none of which was taken out -/
structure Tb (t : SetTable) (n : Nat) : Prop where
  up : Ris t.place.toList
  clean : t.dummies = #[]
  many : t.place.size = n
  sort : Msk t.mask
  low : ∀ x ∈ t.place.toList, x ≤ t.mask
theorem Msk.odd {m : Nat} (h : Msk m) : m % 2 = 1 := by
  rcases h with rfl | rfl | rfl | rfl | rfl <;> rfl
theorem Tb.fill {t : SetTable} {n : Nat} (T : Tb t n) : t.fill = n := by
  unfold SetTable.fill
  rw [T.many, T.clean]
  rfl
/-- a way's first free slot -/
theorem Tb.room {t : SetTable} {n : Nat} (T : Tb t n) (hl : n ≤ t.mask) (x : Int) : ∃ K, K < 10 * SetTable.turns t.mask ∧ way t.mask x K ∉ t.place.toList ∧ ∀ k, k < K → way t.mask x k ∈ t.place.toList := by
  obtain ⟨j, hj, hn⟩ := st_missing t.place.toList (t.mask + 1) (by rw [Array.length_toList, T.many]; omega)
  obtain ⟨k, hk, e⟩ := way_meets T.sort x (Nat.le_of_lt_succ hj)
  obtain ⟨K, h1, h2, h3⟩ := st_least (p := fun k => way t.mask x k ∉ t.place.toList) k (fun z => hn (by rw [← e]; exact z))
  exact ⟨K, Nat.lt_of_le_of_lt h1 hk, h2, fun c hc => Classical.byContradiction (h3 c hc)⟩
theorem Tb.put {t : SetTable} {n j : Nat} (T : Tb t n) (hj : j ≤ t.mask) (nj : j ∉ t.place.toList) : Tb (t.put j).1 (n + 1) ∧ (t.put j).2 ≤ n := by
  have cut := (below_cut T.up j).1
  have hp : SetTable.below t.place j ≤ t.place.toList.length := by
    rw [Array.length_toList]
    exact cut
  have pl := put_place t j
  refine ⟨⟨ris_insert T.up fun e => nj (List.mem_of_getElem? (by rw [Array.getElem?_toList]; exact e)), put_dm T.clean j, ?_, T.sort, fun x hx => ?_⟩, by rw [← T.many]; exact cut⟩
  · rw [← Array.length_toList, pl, len_ins _ hp, Array.length_toList, T.many]
  · rw [pl] at hx
    rcases mem_ins.1 hx with rfl | hx
    · exact hj
    · exact T.low x hx
/-! ### all laid anew -/
theorem find_seat {m : Nat} (hm : Msk m) (o : Array (Option Nat)) (x : Int) {j : Nat} (hj : j ≤ m) (free : oAt o j = none) :
    ∃ K, SetTable.layClean.free m o (SetTable.turns m) (SetTable.bits x % (m + 1)) (SetTable.bits x) = some (way m x K) ∧ oAt o (way m x K) = none := by
  obtain ⟨n, hn, e⟩ := start_meets hm x hj
  have at_n : way m x (off m (SetTable.bits x % (m + 1)) (SetTable.bits x) n) = j := by
    have z := nth_off m n (SetTable.bits x % (m + 1)) (SetTable.bits x)
    rw [itL_run] at z
    exact (congrArg SetTable.Probe.j z).trans e
  obtain ⟨K, h1, h2, h3⟩ := st_least (p := fun k => oAt o (way m x k) = none) (off m (SetTable.bits x % (m + 1)) (SetTable.bits x) n) ((congrArg (oAt o) at_n).trans free)
  refine ⟨K, free_spec m o (SetTable.turns m) n _ _ K (by unfold SetTable.turns; omega) h1 (fun k hk => ?_) (congrArg Option.isNone h2), h2⟩
  cases z : oAt o (way m x k) with
  | none => exact absurd z (h3 k hk)
  | some b => rfl
/-- n of them sit -/
structure Seats (m n : Nat) (o : Array (Option Nat)) : Prop where
  size : o.size = m + 1
  has : ∀ k, k < n → ∃ j, j ≤ m ∧ oAt o j = some k
  few : ∃ ps : List Nat, ps.length = n ∧ ∀ j, j ≤ m → oAt o j ≠ none → j ∈ ps
theorem Seats.next {m n : Nat} (hm : Msk m) {o : Array (Option Nat)} (S : Seats m n o) (hl : n ≤ m) (x : Int) :
    ∃ j, SetTable.layClean.free m o (SetTable.turns m) (SetTable.bits x % (m + 1)) (SetTable.bits x) = some j ∧ Seats m (n + 1) (o.setIfInBounds j (some n)) := by
  obtain ⟨ps, pl, pin⟩ := S.few
  obtain ⟨j0, hj0, nj0⟩ := st_missing ps (m + 1) (by omega)
  have hj0 := Nat.le_of_lt_succ hj0
  obtain ⟨K, e1, e2⟩ := find_seat hm o x hj0 (Classical.byContradiction fun z => nj0 (pin j0 hj0 z))
  have hw := way_in m x K
  have here := oAt_set_self (owner := o) (j := way m x K) (some n) (by rw [S.size]; omega)
  refine ⟨_, e1, by rw [Array.size_setIfInBounds]; exact S.size, fun k hk => ?_, way m x K :: ps, by rw [List.length_cons, pl], fun j hj e => ?_⟩
  · by_cases c : k = n
    · subst c
      exact ⟨_, hw, here⟩
    · obtain ⟨j, hj, e⟩ := S.has k (by omega)
      refine ⟨j, hj, ?_⟩
      rw [oAt_set_ne _ fun z => by rw [z, e2] at e; cases e]
      exact e
  · by_cases c : j = way m x K
    · rw [c]
      exact List.mem_cons_self
    · rw [oAt_set_ne _ c] at e
      exact List.mem_cons_of_mem _ (pin j hj e)
theorem seats_fold {m : Nat} (hm : Msk m) : ∀ (xs : List Int) (n : Nat) (o : Array (Option Nat)), Seats m n o → n + xs.length ≤ m →
    ∃ o', xs.foldl (stepF m) (some (o, n)) = some (o', n + xs.length) ∧ Seats m (n + xs.length) o'
  | [], n, o, S, _ => ⟨o, rfl, S⟩
  | x :: xs, n, o, S, hl => by
    rw [List.length_cons] at hl
    obtain ⟨j, e, S1⟩ := S.next hm (by omega) x
    obtain ⟨o', f, S2⟩ := seats_fold hm xs (n + 1) _ S1 (by omega)
    rw [show n + 1 + xs.length = n + (x :: xs).length by rw [List.length_cons]; omega] at f S2
    exact ⟨o', by rw [List.foldl_cons, stepF_some e]; exact f, S2⟩
theorem anew_ok (t : SetTable) {hs : Array Int} {wanted M : Nat} (hw : SetTable.sizeAbove wanted - 1 = M) (hM : Msk M) (hn : hs.size ≤ M) :
    ∃ t' order, t.relaid hs wanted = some (t', order) ∧ order.toList.Perm (List.range hs.size) ∧ Tb t' hs.size ∧ t'.mask = M ∧ t'.led = t.led ∧ t'.plain = t.plain := by
  obtain ⟨o, f, S⟩ := seats_fold hM hs.toList 0 (Array.replicate (M + 1) none) ⟨by simp, fun k hk => absurd hk (Nat.not_lt_zero k), [], rfl, fun j hj e => absurd (oAt_init hj) e⟩ (by rw [Array.length_toList]; omega)
  rw [Array.length_toList, Nat.zero_add] at f S
  have lay : SetTable.layClean M hs = some o := by
    rw [layClean_eq, f]
    rfl
  obtain ⟨r1, r2⟩ := ris_live (fun j => o.getD j none) (List.range (M + 1)) List.pairwise_lt_range
  have r1 : Ris ((liveOf M o).map (·.1)) := r1
  have r2 : ∀ x ∈ (liveOf M o).map (·.1), x ∈ List.range (M + 1) := r2
  have len : (liveOf M o).length = hs.size := by
    obtain ⟨ps, pl, pin⟩ := S.few
    have le := nat_nodup_len _ ps (r1.imp fun h => Nat.ne_of_lt h) fun x hx => by
      obtain ⟨⟨y, k⟩, hq, rfl⟩ := List.mem_map.mp hx
      obtain ⟨b1, b2⟩ := (mem_live S.size).1 hq
      exact pin y b1 fun z => by rw [b2] at z; cases z
    have ge := nat_nodup_len (List.range hs.size) ((liveOf M o).map (·.2)) List.nodup_range fun k hk => by
      obtain ⟨j, b1, b2⟩ := S.has k (List.mem_range.mp hk)
      exact List.mem_map.mpr ⟨(j, k), (mem_live S.size).2 ⟨b1, b2⟩, rfl⟩
    rw [List.length_map] at le ge
    rw [List.length_range] at ge
    omega
  refine ⟨tabOf t M o, ((liveOf M o).map (·.2)).toArray, by rw [relaid_eq, hw, lay]; rfl, perm_range hs.size _ ?_ fun k hk => ?_, ⟨r1, rfl, ?_, hM, fun x hx => Nat.le_of_lt_succ (List.mem_range.mp (r2 x hx))⟩, rfl, rfl, rfl⟩
  · show ((liveOf M o).map (·.2)).length = _
    rw [List.length_map, len]
  · obtain ⟨j, b1, b2⟩ := S.has k hk
    exact List.mem_map.mpr ⟨(j, k), (mem_live S.size).2 ⟨b1, b2⟩, rfl⟩
  · show ((liveOf M o).map (·.1)).toArray.size = hs.size
    rw [List.size_toArray, List.length_map, len]
theorem grow_20 : SetTable.sizeAbove (SetTable.grown 5) - 1 = 31 := by decide +kernel
theorem grow_76 : SetTable.sizeAbove (SetTable.grown 19) - 1 = 127 := by decide +kernel
theorem grow_308 : SetTable.sizeAbove (SetTable.grown 77) - 1 = 511 := by decide +kernel
theorem grow_1228 : SetTable.sizeAbove (SetTable.grown 307) - 1 = 2047 := by decide +kernel
end KM
/-! text KT2 -/
set_option Elab.async false
set_option linter.all false
set_option maxRecDepth 100000
set_option maxHeartbeats 4000000
/-! A set of tuples of ints that is given one it does not have. -/
namespace KM
open PySem PySem.Spec PyProof.Rows L2
theorem rows_size {P : Program} {w : World} {L : List (Addr × List Int)} {es : Array (Int × Value)} (h : es.toList = rowsOf P w L) : es.size = L.length := by
  rw [← Array.length_toList, h]
  exact List.length_map _
structure SetV (P : Program) (w : World) (h : Heap) (a : Addr) (L : List (Addr × List Int)) (es : Array (Int × Value)) (ep : Nat) (t : SetTable) : Prop where
  ob : ∃ o, h.get? a = some o ∧ o.ExactSet ∧ o.data = .set es ep t
  rows : es.toList = rowsOf P w L
  tab : Tb t L.length
  plain : t.plain = true
  led : w.params.followText "set-order" = true ∨ t.led = true
  room : L.length * 5 < t.mask * 3
  few : L.length ≤ 1000
section
variable {P : Program} {w : World} {A : Around} {E : Value → Shared → Prop} {s : Shared} {a : Addr} {L : List (Addr × List Int)} {es : Array (Int × Value)} {ep : Nat} {t : SetTable}
theorem fits_tb {n : Nat} (T : Tb t n) (h : n ≤ t.mask) : t.fits n = true := by
  unfold SetTable.fits
  rw [T.fill, T.many, beq_self_eq_true, Bool.true_and]
  exact decide_eq_true h
theorem SetV.sz (V : SetV P w s.heap a L es ep t) : es.size = L.length := rows_size V.rows
theorem SetV.fits (V : SetV P w s.heap a L es ep t) : t.fits es.size = true := by
  rw [V.sz]
  have := V.room
  exact fits_tb V.tab (by omega)
theorem SetV.ent {h : Heap} (V : SetV P w h a L es ep t) {i : Nat} {p : Addr × List Int} (e : L[i]? = some p) : es[i]? = some (thash P w p.2, Value.ref p.1) := by
  rw [← Array.getElem?_toList, V.rows]
  unfold rowsOf
  rw [List.getElem?_map, e]
  rfl
theorem nth_clean (m : Nat) : ∀ (n : Nat) (p : SetTable.Probe), p.dummy = none → (nth m p n).dummy = none
  | 0, _, h => h
  | n + 1, p, h => nth_clean m n (adv m p) (by
    unfold adv
    by_cases c : p.more > 0
    · rw [if_pos c]
      exact h
    · rw [if_neg c]
      exact h)
/-- the way's c-th stand -/
abbrev stand (m : Nat) (h : Int) (c : Nat) : SetTable.Probe := nth m (runAt m (SetTable.bits h % (m + 1)) (SetTable.bits h)) c
theorem stand_add (m : Nat) (h : Int) (c q : Nat) : nth m (stand m h c) q = stand m h (c + q) := (nth_add m c _ q).symm
/-- the search for what is not there, from the c-th stand on -/
theorem seek (V : SetV P w s.heap a L es ep t) (tup : ∀ p ∈ L, IsT P w s.heap p.2 p.1) {x : Addr} {k : List Int} (hx : IsT P w s.heap k x) (new : k ∉ L.map (·.2)) (hu : A.units < cLine) {K : Nat}
    (hKf : K < 10 * SetTable.turns t.mask) (hK : way t.mask (thash P w k) K ∉ t.place.toList) (hKb : ∀ c, c < K → way t.mask (thash P w k) c ∈ t.place.toList) {Q : SetFound → Shared → Prop}
    (hq : Q (.free (way t.mask (thash P w k) K) false) s) : ∀ (f c : Nat) (st : Option SetTable.Probe), st.getD (t.probeStart (thash P w k)) = stand t.mask (thash P w k) c → c ≤ K → K - c < f →
      wpAny (model P w) A (setSearchFrom a (.ref x) (thash P w k) true f st) Q E s
  | 0, c, st, _, _, hf => absurd hf (Nat.not_lt_zero _)
  | f + 1, c, st, hst, hc, hf => by
    obtain ⟨o, ho, hex, hd⟩ := V.ob
    rw [setSearchFrom_succ]
    refine wpAny_bind (wpAny_setState_of ho hd V.fits ?_)
    dsimp only
    refine wp_if_neg (by unfold SetTable.gaveWay; rw [V.tab.sort.odd]; decide) ?_
    have jAt : ∀ q, (nth t.mask (stand t.mask (thash P w k) c) q).j = way t.mask (thash P w k) (c + q) := fun q => congrArg SetTable.Probe.j (stand_add t.mask (thash P w k) c q)
    have spec := go_spec t V.tab.up V.tab.clean (fun i => (es[i]?.map (·.1)).getD 0) (thash P w k) (10 * SetTable.turns t.mask) (K - c) (stand t.mask (thash P w k) c) (nth_clean _ c _ rfl) (by omega)
      (fun q hq => by rw [jAt]; exact hKb (c + q) (by omega)) (by rw [jAt, Nat.add_sub_cancel' hc]; exact hK)
    rcases spec with ⟨q, i, hq1, hi, _, _, hgo⟩ | ⟨_, hgo⟩
    · have hpr : t.probe (fun i => (es[i]?.map (·.1)).getD 0) (thash P w k) (st.getD (t.probeStart (thash P w k))) = some (.candidate (way t.mask (thash P w k) (c + q)) i (stand t.mask (thash P w k) (c + (q + 1)))) := by
        rw [hst, ← jAt, ← stand_add]
        exact hgo
      rw [hpr]
      dsimp only
      rw [jAt] at hi
      have hil : i < L.length := by
        have h1 := (List.getElem?_eq_some_iff.mp hi).1
        rw [Array.length_toList, V.tab.many] at h1
        exact h1
      obtain ⟨p, hp⟩ : ∃ p, L[i]? = some p := ⟨_, List.getElem?_eq_getElem hil⟩
      have mem := List.mem_of_getElem? hp
      have ne : p.2 ≠ k := fun e => new (List.mem_map.mpr ⟨p, mem, e⟩)
      have onto : wpAny (model P w) A (searchRest a (.ref x) (thash P w k) true f es t (way t.mask (thash P w k) (c + q)) i (stand t.mask (thash P w k) (c + (q + 1)))) Q E s := by
        unfold searchRest
        rw [V.ent hp]
        dsimp only
        refine wpAny_bind (wpAny_holding (wpAny_eqBool_tuple hu (tup p mem) hx ?_))
        refine wpAny_bind (wpAny_setState_of ho hd V.fits ?_)
        dsimp only
        rw [decide_eq_false ne]
        refine wp_if_neg (by decide) ?_
        rw [sameMem]
        dsimp only
        simp only [if_true, slot_live V.tab.up hi, V.ent hp]
        refine wpAny_bind (wpAny_isSame_ref_self (wpAny_bind (wpAny_pure ?_)))
        simp only [if_true]
        refine wp_if_neg (by decide) ?_
        exact seek V tup hx new hu hKf hK hKb hq f (c + (q + 1)) _ rfl (by omega) (by omega)
      by_cases hl : t.led = true
      · refine wp_if_neg (by rw [hl]; decide) ?_
        exact onto
      · refine wp_if_pos (by rw [Bool.not_eq_true] at hl; rw [hl]; rfl) ?_
        refine wpAny_bind (seen_tup hx (fun y hy => ?_) ?_)
        · obtain ⟨e, he, rfl⟩ := List.mem_map.mp hy
          have he2 : e ∈ es.toList := by
            have z : e ∈ es ∧ e.1 = thash P w k := by simpa using he
            simpa using z.1
          rw [V.rows] at he2
          obtain ⟨p2, hp2, rfl⟩ := List.mem_map.mp he2
          exact ⟨p2.2, p2.1, rfl, tup p2 hp2⟩
        · refine wp_if_neg (by decide) ?_
          exact onto
    · have hpr : t.probe (fun i => (es[i]?.map (·.1)).getD 0) (thash P w k) (st.getD (t.probeStart (thash P w k))) = some (.empty (way t.mask (thash P w k) K) none) := by
        have z := jAt (K - c)
        rw [Nat.add_sub_cancel' hc] at z
        rw [hst, ← z]
        exact hgo
      rw [hpr]
      dsimp only
      exact wpAny_pure hq
theorem turns_le {m : Nat} (h : Msk m) : 10 * SetTable.turns m ≤ 20620 := by
  unfold SetTable.turns
  rcases h with rfl | rfl | rfl | rfl | rfl <;> decide
theorem seek_all (V : SetV P w s.heap a L es ep t) (tup : ∀ p ∈ L, IsT P w s.heap p.2 p.1) {x : Addr} {k : List Int} (hx : IsT P w s.heap k x) (new : k ∉ L.map (·.2)) (hu : A.units < cLine) {Q : SetFound → Shared → Prop}
    (hq : ∀ j, j ≤ t.mask → j ∉ t.place.toList → Q (.free j false) s) : wpAny (model P w) A (setSearch a (.ref x) (thash P w k) true) Q E s := by
  have hr := V.room
  obtain ⟨K, hKf, hK, hKb⟩ := V.tab.room (by omega) (thash P w k)
  have := turns_le V.tab.sort
  unfold setSearch
  exact seek V tup hx new hu hKf hK hKb (hq _ (way_in _ _ _) hK) 100000 0 none rfl (Nat.zero_le _) (by omega)
/-- a table laid anew -/
theorem anew_at {o : Obj} (ho : s.heap.get? a = some o) (hex : o.ExactSet) (hd : o.data = .set es ep t) (rows : es.toList = rowsOf P w L) (T : Tb t L.length) (hm : L.length ≤ t.mask) (few : L.length ≤ 1000)
    (pl : t.plain = true) (ld : w.params.followText "set-order" = true ∨ t.led = true) {wanted M : Nat} (hw : SetTable.sizeAbove wanted - 1 = M) (hM : Msk M) (room : L.length * 5 < M * 3) {Q : Unit → Shared → Prop}
    (hQ : ∀ h' L' es' ep' t', Heap.SameBut a s.heap h' → SetV P w h' a L' es' ep' t' → L'.Perm L → Q () { s with heap := h' }) : wpAny (model P w) A (setRelay a wanted) Q E s := by
  have sz := rows_size rows
  have hfits : t.fits es.size = true := by rw [sz]; exact fits_tb T hm
  obtain ⟨t', order, e, hp, T', em, el, epl⟩ := anew_ok t (hs := es.map (·.1)) hw hM (by rw [Array.size_map, sz]; omega)
  rw [Array.size_map, sz] at hp T'
  obtain ⟨L2, r1, r2, _⟩ := order_rows L es order rows hp
  have sz2 := rows_size r1
  rw [r2.length_eq] at sz2
  have big : SetTable.sizeAbove wanted ≤ 2048 := by
    rcases hM with q | q | q | q | q <;> omega
  rw [setRelay_eq]
  refine wpAny_bind (wpAny_setState_of ho hd hfits ?_)
  dsimp only
  refine wp_if_neg (by rw [sizeLine_eq]; omega) ?_
  rw [e]
  dsimp only
  refine wpAny_bind ?_
  refine wp_if_neg (by rw [sz2, sz]; simp) ?_
  refine wpAny_pure ?_
  dsimp only
  refine wpAny_storeSet_of ho hd ?_ (by rw [sz2, sizeLine_eq]; omega)
  exact hQ _ L2 _ (ep + 1) t' (Heap.SameBut.update ..) ⟨⟨_, store_at ho hd, ⟨hex.1, hex.2.1, hex.2.2⟩, rfl⟩, r1, by rw [r2.length_eq]; exact T', by rw [epl]; exact pl, by rw [el]; exact ld, by rw [r2.length_eq, em]; exact room, by rw [r2.length_eq]; exact few⟩ r2
/-- one is put in -/
theorem give_at (V : SetV P w s.heap a L es ep t) (tup : ∀ p ∈ L, IsT P w s.heap p.2 p.1) {x : Addr} {k : List Int} (hx : IsT P w s.heap k x) (new : k ∉ L.map (·.2)) (hu : A.units < cLine) (hfew : L.length < 1000) {Q : Bool → Shared → Prop}
    (hQ : ∀ h' L' es' ep' t', Heap.SameBut a s.heap h' → SetV P w h' a L' es' ep' t' → L'.Perm ((x, k) :: L) → Q true { s with heap := h' }) : wpAny (model P w) A (setAddHashed a (.ref x) (thash P w k)) Q E s := by
  obtain ⟨o, ho, hex, hd⟩ := V.ob
  have hroom := V.room
  unfold setAddHashed
  refine wpAny_holding ?_
  rw [show (100000 : Nat) = 99999 + 1 from rfl, setAddHashedIn_succ]
  refine wpAny_bind (wpAny_setState_of ho hd V.fits ?_)
  dsimp only
  refine wp_if_neg (by simp [byScan, Value.scannable]) ?_
  refine wpAny_bind (seek_all V tup hx new hu fun j hj nj => ?_)
  dsimp only
  refine wpAny_bind (wpAny_setState_of ho hd V.fits ?_)
  dsimp only
  obtain ⟨T1, q2⟩ := V.tab.put hj nj
  have m1 : (t.put j).1.mask = t.mask := rfl
  have l1 : (t.put j).1.led = t.led := rfl
  have p1 : (t.put j).1.plain = t.plain := rfl
  rw [V.plain] at p1
  obtain ⟨pt, hpt⟩ : ∃ pt, t.put j = pt := ⟨_, rfl⟩
  rw [hpt] at T1 q2 m1 l1 p1 ⊢
  obtain ⟨t1, p⟩ := pt
  dsimp only at T1 q2 m1 l1 p1 ⊢
  refine wp_if_pos p1 (wpAny_bind (hashBy_tup hx ?_))
  simp only [if_true]
  have pm := put_perm L p (x, k)
  have rows1 : (SetTable.insertAt es p (thash P w k, Value.ref x)).toList = rowsOf P w (L.take p ++ (x, k) :: L.drop p) := by
    rw [SetTable.toList_insertAt, rows_put, V.rows]
  have len1 : (L.take p ++ (x, k) :: L.drop p).length = L.length + 1 := pm.length_eq
  have sz := V.sz
  have sz1 := rows_size rows1
  rw [len1] at sz1
  obtain ⟨es1, he1⟩ : ∃ es1, SetTable.insertAt es p (thash P w k, Value.ref x) = es1 := ⟨_, rfl⟩
  obtain ⟨L1, hL1⟩ : ∃ L1, L.take p ++ (x, k) :: L.drop p = L1 := ⟨_, rfl⟩
  rw [he1, hL1] at rows1
  rw [he1] at sz1 ⊢
  rw [hL1] at pm len1
  rw [← len1] at T1
  refine wpAny_bind (wpAny_storeSet_of ho hd ?_ (by rw [sz1, sizeLine_eq]; omega))
  have sb := Heap.SameBut.update s.heap a (Obj.putSet es1 t1)
  have ho1 := store_at (es' := es1) (t' := t1) ho hd
  obtain ⟨h1, hh1⟩ : ∃ h1, s.heap.update a (Obj.putSet es1 t1) = h1 := ⟨_, rfl⟩
  rw [hh1] at sb ho1 ⊢
  have ld1 : w.params.followText "set-order" = true ∨ t1.led = true := by rw [l1]; exact V.led
  have fu : t1.tooFull = decide ((L.length + 1) * 5 ≥ t.mask * 3) := by
    unfold SetTable.tooFull
    rw [T1.fill, len1, m1]
  by_cases hf : t1.tooFull = true
  · refine wp_if_pos (by rw [hf]; rfl) ?_
    refine wpAny_bind ?_
    rw [fu, decide_eq_true_iff] at hf
    rw [sz]
    have go : ∀ M, SetTable.sizeAbove (SetTable.grown (L.length + 1)) - 1 = M → Msk M → (L.length + 1) * 5 < M * 3 →
        wpAny (model P w) A (setRelay a (SetTable.grown (L.length + 1))) (fun _ s' => wpAny (model P w) A (pure true) Q E s') E { s with heap := h1 } := fun M g1 g2 g3 => by
      refine anew_at (s := { s with heap := h1 }) (L := L1) ho1 ⟨hex.1, hex.2.1, hex.2.2⟩ rfl rows1 T1 (by rw [len1, m1]; omega) (by rw [len1]; omega) p1 ld1 g1 g2 (by rw [len1]; exact g3) fun h2 L2 es2 ep2 t2 sb2 V2 pm2 => ?_
      exact wpAny_pure (hQ h2 L2 es2 ep2 t2 (sb.trans sb2) V2 (pm2.trans pm))
    rcases V.tab.sort with e | e | e | e | e
    · exact go 31 (by rw [show L.length + 1 = 5 by omega, grow_20]) (.inr (.inl rfl)) (by omega)
    · exact go 127 (by rw [show L.length + 1 = 19 by omega, grow_76]) (.inr (.inr (.inl rfl))) (by omega)
    · exact go 511 (by rw [show L.length + 1 = 77 by omega, grow_308]) (.inr (.inr (.inr (.inl rfl)))) (by omega)
    · exact go 2047 (by rw [show L.length + 1 = 307 by omega, grow_1228]) (.inr (.inr (.inr (.inr rfl)))) (by omega)
    · omega
  · refine wp_if_neg (by rw [Bool.not_eq_true] at hf; rw [hf]; decide) ?_
    refine wpAny_pure ?_
    rw [fu, decide_eq_true_iff] at hf
    exact hQ h1 L1 es1 (ep + 1) t1 sb ⟨⟨_, ho1, ⟨hex.1, hex.2.1, hex.2.2⟩, rfl⟩, rows1, T1, p1, ld1, by rw [len1, m1]; omega, by rw [len1]; omega⟩ pm
/-- set.add -/
theorem add_call (V : SetV P w s.heap a L es ep t) (tup : ∀ p ∈ L, IsT P w s.heap p.2 p.1) {x : Addr} {k : List Int} (hx : IsT P w s.heap k x) (new : k ∉ L.map (·.2)) (hu : A.units + 1 < cLine) (hfew : L.length < 1000) {Q : Value → Shared → Prop}
    (hQ : ∀ h' L' es' ep' t' tk, Heap.SameBut a s.heap h' → SetV P w h' a L' es' ep' t' → L'.Perm ((x, k) :: L) → Q .none { s with heap := h', toks := tk }) : wpAny (model P w) A (call (.builtin "set.add") [.ref a, .ref x]) Q E s := by
  have hT : s.TypeIs (.ref a) "set" := let ⟨o, ho, hex, _⟩ := V.ob; ⟨o, ho, hex.1⟩
  refine wpAny_call_entry F.slot_set_add hT F.entry_set_add ?_ (F.args_set_add_2 _ _)
  unfold Builtin.«set.add» Builtin.Frozenset.oneOther
  simp only [List.isEmpty_nil, bind_assoc]
  unfold Builtin.Frozenset.addrOf setAdd
  refine wpAny_bind (wpAny_pure ?_)
  try dsimp only
  refine wpAny_bind (wpAny_pure ?_)
  try dsimp only
  refine wpAny_bind ?_
  refine wpAny_holding ?_
  refine wpAny_bind (wpAny_pyHash_tuple hu hx ?_)
  refine give_at (s := { s with toks := s.toks + (k.length + 1) }) V tup hx new hu hfew fun h' L' es' ep' t' sb V' pm => ?_
  show wpAny _ _ (ret Value.none) _ _ _
  exact wpAny_pure ⟨_, rfl, hQ h' L' es' ep' t' _ sb V' pm⟩
end
end KM
/-! text KSP -/
set_option Elab.async false
set_option linter.all false
set_option maxRecDepth 100000
set_option maxHeartbeats 4000000
/-! Set comprehensions of tuples of ints, each met once. -/
namespace KM
open PySem PySem.Spec PyProof.Rows L2
def SPO (P : Program) (w : World) (a : Addr) (L : List (Addr × List Int)) : HO := .ext fun h => ∃ L2 es ep t, L2.Perm L ∧ SetV P w h a L2 es ep t
theorem spo_ok {P : Program} {w : World} {H : Hp} {h : Heap} {a : Addr} {L : List (Addr × List Int)} (R : ∃ L2 es ep t, L2.Perm L ∧ SetV P w h a L2 es ep t) : ObjOk P w H h a (SPO P w a L) := by
  obtain ⟨L2, es, ep, t, pm, V⟩ := id R
  obtain ⟨o, ho, _⟩ := V.ob
  refine ⟨R, ⟨o, ho⟩, fun h1 h2 p k => ?_⟩
  obtain ⟨L3, es3, ep3, t3, pm3, V3⟩ := id p
  obtain ⟨o3, ho3, r3⟩ := V3.ob
  exact ⟨L3, es3, ep3, t3, pm3, ⟨o3, k o3 ho3, r3⟩, V3.rows, V3.tab, V3.plain, V3.led, V3.room, V3.few⟩
theorem spo_fresh {P : Program} {w : World} {h : Heap} {a : Addr} (ho : h.get? a = some { cls := .type "set", dict := none, data := .set #[] 0 (.fresh 0 0 (!w.params.followText "set-order")) }) :
    ∃ L2 es ep t, L2.Perm [] ∧ SetV P w h a L2 es ep t := by
  refine ⟨[], #[], 0, _, .refl _, ⟨_, ho, ⟨rfl, rfl, rfl⟩, rfl⟩, rfl, ⟨List.Pairwise.nil, rfl, rfl, .inl rfl, fun x hx => by cases hx⟩, rfl, ?_, by show 0 * 5 < 7 * 3; decide, by show 0 ≤ 1000; decide⟩
  show _ ∨ (!w.params.followText "set-order") = true
  cases w.params.followText "set-order"
  · exact .inr rfl
  · exact .inl rfl
section
variable {X : Cx}
def accSP (P : Program) (w : World) (te : TE) : L2.St → Hp → Addr → (Hp → Prop) → Prop := fun σ H D Nx => te σ H fun y H1 => ∃ (t : Addr) (k : List Int) (L : List (Addr × List Int)), y = .ref t ∧ H1 t = some (.tup (k.map V.int)) ∧ H1 D = some (SPO P w D L) ∧
  (∀ p ∈ L, H1 p.1 = some (.tup (p.2.map V.int))) ∧ k ∉ L.map (·.2) ∧ L.length < 1000 ∧ Nx (upd H1 D (SPO P w D ((t, k) :: L)))
theorem spo_ne {P : Program} {w : World} {a : Addr} {L : List (Addr × List Int)} : ∀ xs, SPO P w a L ≠ .tup xs := fun xs h => by cases h
theorem sink_setP {elt tg iter : Expr} {ifs : List Expr} {scope : Scope} {pos : Pos} {te : TE} {vs : List Nat} (hu : X.A.units + 64 < cLine)
    (he : ∀ (s : Shared) (H : Hp) (C : Addr) (cl : List (Str × Addr)) (fp : List Addr), PE (X.blk s H scope (compEnvC scope cl C X.env) fp) elt te) :
    Sink X (.SetComp elt [⟨tg, iter, ifs, 0⟩] scope pos) tg iter ifs scope (newSet (.type "set")) { cls := .type "set", dict := none, data := .set #[] 0 (.fresh 0 0 (!X.w.params.followText "set-order")) } (fun D => SPO X.prog X.w D []) (accSP X.prog X.w te) vs where
  cls := ⟨_, rfl⟩
  mkOk := fun E Q s h => PpSet.newSet_ok h
  empOk := fun H h _ => spo_ok (spo_fresh (Heap.get?_push_size _ rfl))
  start := fun it D env R s h0 h => PpSet.codeAny_compStart_set h0 (h _)
  loop := fun s0 H0 C cl fp it D R I turn n s hI => by
    refine PpSet.compLoopS_any I (fun n s hn => ?_) n hI
    refine thn (turn n s hn _) fun r s1 h1 => ?_
    cases r with
    | none => exact h1
    | some v =>
      refine thn h1 fun _ s2 h2 => thn h2 fun _ s3 h3 => thn h3 fun ok s4 h4 => ?_
      cases ok with
      | false => exact h4
      | true =>
        simp only [if_true] at h4 ⊢
        obtain ⟨pins, σ, H, Nx, I4, ha, fin⟩ := h4
        refine thnF ((he s0 H0 C cl fp).run pins s4 σ H _ I4 ha) fun x s5 ⟨y, H5, I5, r5, t, k, L, ey, ht, hD, hL, new, few, nx⟩ => ?_
        subst ey
        obtain rfl : x = Value.ref t := r5
        have R5 := (I5.hok D _ hD).1
        obtain ⟨L2, es, ep, tb, pm, V⟩ := id R5
        have tup : ∀ p ∈ L2, IsT X.prog X.w s5.heap p.2 p.1 := fun p hp => I5.isT (X := X.blk s0 H0 scope (compEnvC scope cl C X.env) fp) (.inl (.inl (hL p (pm.mem_iff.mp hp))))
        have hx : IsT X.prog X.w s5.heap k t := I5.isT (X := X.blk s0 H0 scope (compEnvC scope cl C X.env) fp) (.inl (.inl ht))
        refine add_call V tup hx (fun z => new ((pm.map _).mem_iff.mp z)) (by show X.A.units + 1 < cLine; omega) (by rw [pm.length_eq]; exact few) fun h' L' es' ep' t' tk sb V' pm' => ?_
        have hd : ∃ u, h'.get? D = some u := let ⟨o, ho, _⟩ := V'.ob; ⟨o, ho⟩
        exact fin _ _ _ (.refl _ _) (I5.write (e := D) (t' := tk) (by rw [hD]; trivial) (.inl rfl) (fun b u hb hu => (sb.2 b hb).trans hu) hd (spo_ok ⟨L', es', ep', t', pm'.trans (pm.cons _), V'⟩)) nx
theorem pe_scP {elt tg iter : Expr} {ifs : List Expr} {scope : Scope} {own : List (Str × Nat)} {pos : Pos} {wi : TI} {g : TG} {tt : TT} {te : TE} (hu : X.A.units + 64 < cLine) (hc : X.calm = true) (hN : X.N.Nodup) (hi : PI X tg iter wi) (ok : BlkOk X.N X.env.scope scope own)
    (hg : ∀ (s : Shared) (H : Hp) (C : Addr) (cl : List (Str × Addr)) (fp : List Addr), PG (X.blk s H scope (compEnvC scope cl C X.env) fp) tg g)
    (ht : ∀ (s : Shared) (H : Hp) (C : Addr) (cl : List (Str × Addr)) (fp : List Addr), PTs (X.blk s H scope (compEnvC scope cl C X.env) fp) ifs tt)
    (he : ∀ (s : Shared) (H : Hp) (C : Addr) (cl : List (Str × Addr)) (fp : List Addr), PE (X.blk s H scope (compEnvC scope cl C X.env) fp) elt te) (hs : ∀ x, foldedSetIterable iter X.env x = pure x := by intro _; rfl) :
    PE X (.SetComp elt [⟨tg, iter, ifs, 0⟩] scope pos) (tComp (fun D => SPO X.prog X.w D []) wi g tt (accSP X.prog X.w te) (own.map (·.2))) :=
  pe_comp (sink_setP hu he) (PpSet.eval_SetComp _ _ _ _) hc hN hi ok hg ht hs
theorem call_lenP : CallR X (.builtin "len") (fun xs H Q => ∃ (a : Addr) (L : List (Addr × List Int)), xs = [.ref a] ∧ H a = some (SPO X.prog X.w a L) ∧ L.length ≤ 1000 ∧ Q (.int L.length) H) := by
  intro pins s σ H xs us Q I r h
  obtain ⟨a, L, rfl, ha, few, q⟩ := h
  rw [Vals.ref1 r]
  obtain ⟨L2, es, ep, t, pm, V⟩ := (I.hok a _ ha).1
  obtain ⟨o, ho, hex, hd⟩ := V.ob
  have sz : es.size = L.length := V.sz.trans pm.length_eq
  refine call_len_set ho hex hd V.fits (by rw [sz]; omega) ⟨.int L.length, H, I.tok _, ⟨_, by rw [sz]⟩, q⟩
end
end KM
/-! text KW6 -/
set_option Elab.async false
set_option linter.all false
set_option maxRecDepth 100000
set_option maxHeartbeats 4000000
namespace KM
open PySem PySem.Spec PyProof.Rows L2
def stpD (s : Stp) : PyData := .tuple [.int (s.1 : Int), .str (sS s.2.1), .int (s.2.2 : Int)]
/-- the order of steps, as tuples stand -/
def stpLt (a b : Stp) : Prop := a.1 < b.1 ∨ (a.1 = b.1 ∧ (a.2.1 < b.2.1 ∨ (a.2.1 = b.2.1 ∧ a.2.2 < b.2.2)))
theorem sS_inj {a b : List Nat} (h : sS a = sS b) : a = b := by
  have e := congrArg (fun x : Str => x.cps.toList) h
  rw [sS_cps, sS_cps] at e
  exact e
theorem dataLt_sS (a b : List Nat) : PySem.W.dataLt (.str (sS a)) (.str (sS b)) = decide (a < b) := by
  have h := PySem.W.dataLt_str (sS a) (sS b)
  rw [sS_cps, sS_cps] at h
  exact h
theorem eqv_i (a b : Int) : PyData.eqv (.int a) (.int b) = decide (a = b) := by
  rw [Bool.eq_iff_iff]
  simp [PyData.eqv]
theorem eqv_s (a b : List Nat) : PyData.eqv (.str (sS a)) (.str (sS b)) = decide (a = b) := by
  rw [Bool.eq_iff_iff]
  simp only [PyData.eqv, beq_iff_eq, decide_eq_true_eq]
  exact ⟨sS_inj, fun e => by rw [e]⟩
theorem dataLt_stp (a b : Stp) : PySem.W.dataLt (stpD a) (stpD b) = true ↔ stpLt a b := by
  obtain ⟨p, l, q⟩ := a
  obtain ⟨p', l', q'⟩ := b
  unfold stpD stpLt
  have e0 : PyProof.Rows.lexLt itemOrd (PySem.W.keyToksAll []) (PySem.W.keyToksAll []) = false := lex_irrefl _
  rw [PySem.W.dataLt_tuple, PySem.W.dataLt_cons (by simp [PySem.W.alike]), PySem.W.dataLt_cons (by simp [PySem.W.alike]), PySem.W.dataLt_cons (by simp [PySem.W.alike]), e0, eqv_i, eqv_s, eqv_i, PySem.W.dataLt_int, PySem.W.dataLt_int, dataLt_sS]
  by_cases h1 : p = p'
  · subst h1
    simp only [decide_true, if_true, Nat.lt_irrefl, false_or, true_and]
    by_cases h2 : l = l'
    · subst h2
      have : ¬ l < l := List.lt_irrefl _
      simp only [decide_true, if_true, this, false_or, true_and]
      by_cases h3 : q = q'
      · subst h3
        simp
      · have : ¬ ((q : Int) = (q' : Int)) := by omega
        simp [this]
    · simp [h2]
  · have h1' : ¬ ((p : Int) = (p' : Int)) := by omega
    simp [h1', h1]
theorem rises_stp {ss : List Stp} (h : ss.Pairwise stpLt) : RisesD (ss.map stpD) := by
  intro i d e h1 h2
  rw [List.getElem?_map] at h1 h2
  obtain ⟨a, ha, rfl⟩ := Option.map_eq_some_iff.mp h1
  obtain ⟨b, hb, rfl⟩ := Option.map_eq_some_iff.mp h2
  obtain ⟨l1, e1⟩ := List.getElem?_eq_some_iff.mp ha
  obtain ⟨l2, e2⟩ := List.getElem?_eq_some_iff.mp hb
  have lt : stpLt a b := by
    rw [← e1, ← e2]
    exact List.pairwise_iff_getElem.mp h i (i + 1) l1 l2 (by omega)
  exact ⟨by simp [stpD, PySem.W.alike, PySem.W.alikeAll], fun z => (by cases z), (by simp [stpD, PyData.depth, PyData.depthAll]), (dataLt_stp a b).mpr lt⟩
theorem dp_stp {K : PySem.W.Frag} {H : Hp} {v : V} {s : Stp} (h : StpAt H v s) : Dp K H v (stpD s) := by
  obtain ⟨t, rfl, ht⟩ := h
  exact .tup (.inl (.inl ht)) (.cons (.int _) (.cons (.str _) (.cons (.int _) .nil)))
theorem dpAll_stp {K : PySem.W.Frag} {H : Hp} : ∀ {vs : List V} {ss : List Stp}, Paired (StpAt H) vs ss → DpAll K H vs (ss.map stpD)
  | _, _, .nil => .nil
  | _, _, .cons h t => .cons (dp_stp h) (dpAll_stp t)
/-- a set comprehension of tuples of ints, each met once -/
theorem sp_map {P : Program} {w : World} {J : It} {n : Nat} {G : Hp → Prop} {Y : Nat → Hp → V → Hp → Prop} {g : TG} {tt : TT} {te : TE} {vs : List Nat} {σ : L2.St} {H1 : Hp} {D : Addr} {Qd : Hp → Prop} (hD : H1 D = none) (wk : Walk J n G Y) (hG : ∀ H', Same H1 H' → G H')
    (outs : Nat → List (List Int)) (h0 : outs 0 = []) (hz : n ≤ 1000)
    (hs : ∀ (i : Nat) (x : V) (Hc H' : Hp) (Post : V → Hp → Prop) (Skip : Hp → Prop), i < n → Same H1 Hc → Y i Hc x H' → (∀ (t : Addr) (k : List Int) (H4 : Hp), Same Hc H4 → H4 t = some (.tup (k.map V.int)) → k ∉ outs i → outs (i + 1) = outs i ++ [k] → Post (.ref t) H4) →
      (∀ H3, Same Hc H3 → outs (i + 1) = outs i → Skip H3) → g x (wipe σ vs) H' fun σ2 H2 => wipe σ2 vs = wipe σ vs ∧ tt σ2 H2 fun b H3 => if b = true then te σ2 H3 Post else Skip H3)
    (hd : ∀ (H' : Hp) (L : List (Addr × List Int)), Same H1 H' → H' D = some (SPO P w D L) → L.length = (outs n).length → Qd H') :
    ∃ W : Nat → Nat → Hp → Prop, (∃ m, W 0 m (upd H1 D (SPO P w D []))) ∧ ∀ i m H, W i m H →
      (J.stop i H ∧ Qd H) ∨ (J.go i H ∧ ∃ Nx : Hp → Prop, (∀ H', Nx H' → ∃ m', m' < m ∧ W (i + 1) m' H') ∧ ∀ x H', J.yld i H x H' → g x (wipe σ vs) H' fun σ2 H2 => wipe σ2 vs = wipe σ vs ∧ tt σ2 H2 fun b H3 =>
        if b = true then accSP P w te σ2 H3 D Nx else Nx H3) := by
  let Pv : Nat → Hp → Prop := fun i H => Same H1 H ∧ ∃ L, H D = some (SPO P w D L) ∧ L.map (·.2) = (outs i).reverse ∧ (∀ p ∈ L, H p.1 = some (.tup (p.2.map V.int))) ∧ L.length ≤ i
  refine ⟨fun i m H => m = n - i ∧ i ≤ n ∧ Pv i H, ⟨n, by simp, Nat.zero_le _, same_upd hD, [], upd_same, by rw [h0]; rfl, (fun p hp => by cases hp), Nat.le_refl _⟩, ?_⟩
  rintro i m H ⟨rfl, hi, s1, L, ha, hm, ht, hl⟩
  have q := hG H s1
  by_cases hlt : i < n
  · refine .inr ⟨wk.goes i H hlt q, Pv (i + 1), fun H' z => ⟨n - (i + 1), by omega, rfl, hlt, z⟩, fun x H' y => ?_⟩
    refine hs i x H H' _ _ hlt s1 (wk.yields i H x H' hlt q y) (fun t k H4 s4 hb hn ho => ?_) (fun H3 s3 ho => ⟨s1.trans s3, L, s3 _ _ ha, by rw [ho]; exact hm, fun p hp => s3 _ _ (ht p hp), by omega⟩)
    have e4 := s4 _ _ ha
    refine ⟨t, k, L, rfl, hb, e4, fun p hp => s4 _ _ (ht p hp), ?_, by omega, same_new (s1.trans s4) hD, _, upd_same, ?_, fun p hp => ?_, ?_⟩
    · rw [hm, List.mem_reverse]
      exact hn
    · rw [List.map_cons, hm, ho, List.reverse_append]
      rfl
    · have hs4 : TupS H4 (upd H4 D (SPO P w D ((t, k) :: L))) := TupS.upd e4 fun xs => spo_ne xs
      rcases List.mem_cons.mp hp with e | hp
      · rw [e]
        exact hs4 _ _ hb
      · exact hs4 _ _ (s4 _ _ (ht p hp))
    · rw [List.length_cons]
      omega
  · have e : i = n := by omega
    subst e
    refine .inl ⟨wk.stops H q, hd H L s1 ha ?_⟩
    rw [← List.length_map (f := fun p : Addr × List Int => p.2), hm, List.length_reverse]
section
variable {P : Program} {w : World} {K : PySem.W.Frag} {mg : Str → Option Value} {base : Heap}
structure StpsOk (many : Nat) (ss : List Stp) : Prop where
  each : ∀ s ∈ ss, StpOk many s
  rise : ss.Pairwise stpLt
  uniq : (ss.map fun s => (s.1, s.2.2)).Nodup
  len : ss.length ≤ 1000
def spAreSteps : Sp := fun vs H Q _ => ∃ (t : Addr) (sv : List V) (ss : List Stp) (many : Nat), vs = [.ref t, nV many] ∧ H t = some (.tup sv) ∧ Paired (StpAt H) sv ss ∧ StpsOk many ss ∧ ∀ H', Same H H' → Q (.bl true) H'
theorem scAreSteps : FnScope ["thing", "many", "step", "place", "signs", "other"] ["thing", "many"] (defScope sAreSteps) := ⟨rfl, rfl, rfl, by decide +kernel, rfl, by decide +kernel, by decide +kernel⟩
theorem ok_are_steps {f f1 f2 : Addr} {fd fd1 fd2 : FuncData} (F : FnP K "are_steps" "are_steps" sAreSteps f fd) (B : Bi mg) (F1 : FnP K "is_step" "is_step" sIsStep f1 fd1) (g1 : mg "is_step" = some (.ref f1)) (O1 : FnOk P w K mg base CX0 3 f1 fd1 ["thing", "many"] spIsStep)
    (F2 : FnP K "is_rising" "is_rising" sIsRising f2 fd2) (g2 : mg "is_rising" = some (.ref f2)) : FnOk P w K mg base CX0 4 f fd ["thing", "many"] spAreSteps := by
  have O2 : FnOk P w K mg base CX0 1 f2 fd2 ["things"] (spIsRising K) := ok_is_rising F2 B
  have b1 : Binds K fd1 ["thing", "many"] [] := F1.bindsN fun _ _ _ _ _ _ us hl => match us, hl with | [_, _], _ => rfl
  have b2 : Binds K fd2 ["things"] [] := F2.bindsN fun _ _ _ _ _ _ us hl => match us, hl with | [_], _ => rfl
  refine F.okP scAreSteps (fun vs H Q E h => ?_) (fun cdv A outer s H vs Q E hr h => ?_)
  · obtain ⟨t, sv, ss, many, rfl, _⟩ := h
    rfl
  · obtain ⟨t, sv, ss, many, rfl, ht, hp, ok, q⟩ := h
    have hr1 : Room 1 _ := hr.mono (by decide)
    have hlen : sv.length = ss.length := Paired.length hp
    refine ⟨_, pss_cons (ps_if (PW.pt (pw_or (pt_not (pt_val (pe_callB call_isi (by rfl) B.isinstance (by decide +kernel) (pa_cons (pv 0) (pa_cons (pe_bltn (v := .ty "tuple") (by rfl) B.tuple (by decide +kernel) rfl) pa_nil)))))
        (pw_or1 (pt_not (pt_val (pe_callB (cr_all rfl) (by rfl) B.all (by decide +kernel) (pa_cons (pe_lc (own := [("step", 2)]) (g := gName 2) (tt := tYes) rfl scAreSteps.nd (pi_tup (pv 0))
          (blkOk_by (N := ["thing", "many", "step", "place", "signs", "other"]) (sc := defScope sAreSteps) (by decide +kernel)) (fun _ _ _ _ _ => pg_name (i := 2) scAreSteps.nd rfl (.inl rfl)) (fun _ _ _ _ _ => pts_nil)
          (fun _ _ _ _ _ => pe_call O1 hr (by rfl) g1 F1.kp b1 .nil pass0 (pa_cons (pv 2) (pa_cons (pv 1) pa_nil)))) pa_nil))))))) (pss_one (ps_ret pe_bl)) pss_nil)
      (pss_one (ps_ret (pe_and (pe_call O2 hr1 (by rfl) g2 F2.kp b2 .nil pass0 (pa_cons (pv 0) pa_nil))
        (pe_one (pe_cmpR op_eq (pe_callB call_lenP (by rfl) B.len boot_len (pa_cons (pe_scP (own := [("place", 3), ("signs", 4), ("other", 5)]) (g := gTup K 3 (gCons (gName 3) (gCons (gName 4) (gCons (gName 5) gNil)))) (tt := tYes) (by exact hu64 hr) rfl scAreSteps.nd (pi_tup (pv 0))
          (blkOk_by (N := ["thing", "many", "step", "place", "signs", "other"]) (sc := defScope sAreSteps) (by decide +kernel))
          (fun _ _ _ _ _ => pg_tup rfl (pgs_cons (pg_name (i := 3) scAreSteps.nd rfl (.inl rfl)) (pgs_cons (pg_name (i := 4) scAreSteps.nd rfl (.inl rfl)) (pgs_cons (pg_name (i := 5) scAreSteps.nd rfl (.inl rfl)) pgs_nil)))) (fun _ _ _ _ _ => pts_nil)
          (fun _ _ _ _ _ => pe_tup (pa_cons (pv 3) (pa_cons (pv 5) pa_nil)))) pa_nil)) (pe_callB call_len_seq (by rfl) B.len boot_len (pa_cons (pv 0) pa_nil)) (nomark _)))))), ?_⟩
    have small : sv.length < sizeLine := Nat.lt_of_le_of_lt (by rw [hlen]; exact ok.len) (by decide)
    refine ⟨_, rfl, _, _, _, _, true, rfl, .ty "tuple", .base (.tup ht), kit_ty (by decide +kernel), true, rfl, ?_⟩
    refine iteF ⟨_, rfl, t, rfl, ⟨_, .inl (.inl ht)⟩, ?_⟩
    intro D hD
    refine lc_map hD (β := Bool) (fun _ v b => v = .bl b) (fun _ _ _ _ _ z => z) (walk_tup (xs := sv)) (fun H' e => .inl (.inl (e _ _ ht))) (fun i => List.replicate i true) rfl small (fun i x Hc H' Post Skip hi sc hy k1 k2 => ?_) (fun H' acc s2 ha hp2 => ?_)
    · obtain ⟨rfl, e⟩ := hy
      obtain ⟨st, e2, h2⟩ := paired_get hp e
      refine ⟨rfl, ?_⟩
      refine ⟨_, rfl, _, rfl, x, many, st, rfl, h2.same sc, ok.each st (List.mem_of_getElem? e2), fun H3 s3 => ?_⟩
      exact k1 _ _ true s3 rfl List.replicate_succ'
    · rw [bls_of hp2] at ha
      refine ⟨D, _, rfl, .inl (.inl ha), true, by rw [all_rep], ?_⟩
      refine ⟨_, rfl, t, sv, ss.map stpD, rfl, .inr (s2 _ _ ht), dpAll_stp (paired_mono hp fun _ _ r => r.same s2), rises_stp ok.rise, small, fun H3 s3 => ⟨true, rfl, ?_⟩⟩
      have s23 := s2.trans s3
      refine iteT ⟨_, rfl, t, rfl, ⟨sv, .inl (.inl (s23 _ _ ht))⟩, ?_⟩
      intro D2 hD2
      refine sp_map (P := P) (w := w) hD2 (walk_tup (xs := sv)) (fun H' e => .inl (.inl (e _ _ (s23 _ _ ht)))) (fun i => (ss.take i).map fun s => [(s.1 : Int), (s.2.2 : Int)]) rfl (by rw [hlen]; exact ok.len) (fun i x Hc H' Post Skip hi sc hy k1 k2 => ?_) (fun H' L s4 hL hl => ?_)
      · obtain ⟨rfl, e⟩ := hy
        obtain ⟨⟨p, l, r⟩, e2, h2⟩ := paired_get hp e
        obtain ⟨u, rfl, hu⟩ := h2.same (s23.trans sc)
        refine ⟨u, _, rfl, .inl (.inl hu), rfl, _, _, rfl, _, _, rfl, _, _, rfl, rfl, rfl, ?_⟩
        refine ⟨_, rfl, _, rfl, (by show 2 ≤ sizeLine; decide), fun T hT => ?_⟩
        have hi' : i < ss.length := by rw [← hlen]; exact hi
        have e3 : ss[i] = (p, l, r) := by
          rw [List.getElem?_eq_getElem hi'] at e2
          exact Option.some.inj e2
        refine k1 T [(p : Int), (r : Int)] _ (same_upd hT) upd_same ?_ ?_
        · intro hm
          obtain ⟨s', hs', es⟩ := List.mem_map.mp hm
          obtain ⟨j, hj, ej⟩ := List.mem_iff_getElem.mp hs'
          rw [List.length_take] at hj
          rw [List.getElem_take] at ej
          have n1 := List.pairwise_iff_getElem.mp ok.uniq j i (by rw [List.length_map]; omega) (by rw [List.length_map]; omega) (by omega)
          rw [List.getElem_map, List.getElem_map, e3, ej] at n1
          injection es with q1 q2
          injection q2 with q2 _
          apply n1
          have p1 : s'.1 = p := by omega
          have p2 : s'.2.2 = r := by omega
          rw [p1, p2]
        · rw [List.take_succ, e2, List.map_append]
          rfl
      · have hl2 : L.length = ss.length := by
          rw [hl, List.length_map, List.length_take]
          omega
        refine ⟨D2, L, rfl, hL, by rw [hl2]; exact ok.len, _, rfl, t, sv, rfl, .inr (.inl (.inl (s4 _ _ (s23 _ _ ht)))), rfl, ?_⟩
        have e : decide (V.int ((L.length : Nat) : Int) = V.int ((sv.length : Nat) : Int)) = true := by
          rw [hl2, hlen]
          exact decide_eq_true rfl
        show Q (V.bl (decide (V.int ((L.length : Nat) : Int) = V.int ((sv.length : Nat) : Int)))) H'
        rw [e]
        exact q _ (s23.trans s4)
end
end KM
/-! text KM1 -/
set_option Elab.async false
set_option linter.all false
set_option maxRecDepth 100000
set_option maxHeartbeats 4000000
/-! Machines in the heap. -/
namespace KM
open PySem PySem.Spec PyProof.Rows L2
structure Mch where
  many : Nat
  begins : List Nat
  steps : List Stp
  ends : List Nat
/-- the ways on from a place -/
def Mch.onw (M : Mch) (p : Nat) : List (List Nat × Nat) := (M.steps.filter fun s => decide (s.1 = p)).map fun s => s.2
structure Mch.WF (M : Mch) : Prop where
  bRise : M.begins.Pairwise (· < ·)
  bLt : ∀ p ∈ M.begins, p < M.many
  eRise : M.ends.Pairwise (· < ·)
  eLt : ∀ p ∈ M.ends, p < M.many
  st : StpsOk M.many M.steps
  mLe : M.many ≤ 1000
/-! ### the fields -/
def mfs (m b s e o : V) : List (Str × V) := putF "onward" o (putF "ends" e (putF "steps" s (putF "begins" b (putF "many" m []))))
theorem mf_many (m b s e o : V) : (mfs m b s e o).lookup ("many" : Str) = some m := by
  unfold mfs
  rw [lookup_putF, if_neg (by decide +kernel), lookup_putF, if_neg (by decide +kernel), lookup_putF, if_neg (by decide +kernel), lookup_putF, if_neg (by decide +kernel), lookup_putF, if_pos rfl]
theorem mf_begins (m b s e o : V) : (mfs m b s e o).lookup ("begins" : Str) = some b := by
  unfold mfs
  rw [lookup_putF, if_neg (by decide +kernel), lookup_putF, if_neg (by decide +kernel), lookup_putF, if_neg (by decide +kernel), lookup_putF, if_pos rfl]
theorem mf_steps (m b s e o : V) : (mfs m b s e o).lookup ("steps" : Str) = some s := by
  unfold mfs
  rw [lookup_putF, if_neg (by decide +kernel), lookup_putF, if_neg (by decide +kernel), lookup_putF, if_pos rfl]
theorem mf_ends (m b s e o : V) : (mfs m b s e o).lookup ("ends" : Str) = some e := by
  unfold mfs
  rw [lookup_putF, if_neg (by decide +kernel), lookup_putF, if_pos rfl]
theorem mf_onward (m b s e o : V) : (mfs m b s e o).lookup ("onward" : Str) = some o := by
  unfold mfs
  rw [lookup_putF, if_pos rfl]
theorem putF_len (f : Str) (v : V) : ∀ fs : List (Str × V), (putF f v fs).length ≤ fs.length + 1
  | [] => Nat.le_refl _
  | (g, x) :: r => by
    unfold putF
    split
    · exact Nat.le_succ _
    · have := putF_len f v r
      simp only [List.length_cons]
      omega
/-- the machine at a is M -/
structure MachAt (C : Addr) (H : Hp) (a : Addr) (M : Mch) : Prop where
  ex : ∃ (dx tb ts te lo : Addr) (sv : List V) (las : List Addr), H a = some (.ins C dx (mfs (nV M.many) (.ref tb) (.ref ts) (.ref te) (.ref lo))) ∧
    H tb = some (.tup (M.begins.map nV)) ∧ H ts = some (.tup sv) ∧ Paired (StpAt H) sv M.steps ∧ H te = some (.tup (M.ends.map nV)) ∧
    H lo = some (.lst (las.map V.ref)) ∧ las.length = M.many ∧ ∀ (p : Nat) (la : Addr), las[p]? = some la → ∃ ov, H la = some (.lst ov) ∧ Paired (OnwAt H) ov (M.onw p)
theorem MachAt.same {C : Addr} {H H' : Hp} {a : Addr} {M : Mch} (e : Same H H') (h : MachAt C H a M) : MachAt C H' a M := by
  obtain ⟨dx, tb, ts, te, lo, sv, las, h1, h2, h3, h4, h5, h6, h7, h8⟩ := h.ex
  refine ⟨dx, tb, ts, te, lo, sv, las, e _ _ h1, e _ _ h2, e _ _ h3, paired_mono h4 fun _ _ r => r.same e, e _ _ h5, e _ _ h6, h7, fun p la hp => ?_⟩
  obtain ⟨ov, q1, q2⟩ := h8 p la hp
  exact ⟨ov, e _ _ q1, paired_mono q2 fun _ _ r => r.same e⟩
/-! ### [[] for place in range(many)] -/
theorem nl_map {g : TG} {tt : TT} {te : TE} {vs : List Nat} {σ : L2.St} {H1 : Hp} {D : Addr} {Qd : Hp → Prop} {many : Nat} (hD : H1 D = none) (hz : many < sizeLine)
    (hs : ∀ (i : Nat) (Hc : Hp) (Post : V → Hp → Prop) (Skip : Hp → Prop), i < many → (∀ l, Hc l = none → Post (.ref l) (upd Hc l (.lst []))) →
      g (.int (0 + (i : Nat))) (wipe σ vs) Hc fun σ2 H2 => wipe σ2 vs = wipe σ vs ∧ tt σ2 H2 fun b H3 => if b = true then te σ2 H3 Post else Skip H3)
    (hd : ∀ (H' : Hp) (las : List Addr), Same H1 H' → H' D = some (.lst (las.map V.ref)) → las.length = many → las.Nodup → (∀ a ∈ las, a ≠ D ∧ H' a = some (.lst []) ∧ H1 a = none) → Qd H') :
    ∃ W : Nat → Nat → Hp → Prop, (∃ m, W 0 m (upd H1 D (.lst []))) ∧ ∀ i m H, W i m H →
      ((Itr 0 many).stop i H ∧ Qd H) ∨ ((Itr 0 many).go i H ∧ ∃ Nx : Hp → Prop, (∀ H', Nx H' → ∃ m', m' < m ∧ W (i + 1) m' H') ∧ ∀ x H', (Itr 0 many).yld i H x H' → g x (wipe σ vs) H' fun σ2 H2 => wipe σ2 vs = wipe σ vs ∧ tt σ2 H2 fun b H3 =>
        if b = true then te σ2 H3 fun y H4 => ∃ acc, H4 D = some (.lst acc) ∧ acc.length < sizeLine ∧ Nx (upd H4 D (.lst (acc ++ [y]))) else Nx H3) := by
  refine lc_range (lo := 0) (n := many) (fun i H => Same H1 H ∧ ∃ las : List Addr, H D = some (.lst (las.map V.ref)) ∧ las.length = i ∧ las.Nodup ∧ ∀ a ∈ las, a ≠ D ∧ H a = some (.lst []) ∧ H1 a = none) ⟨same_upd hD, [], upd_same, rfl, .nil, (fun a ha => by cases ha)⟩ (fun i H hi ⟨s1, las, ha, hl, nd, hall⟩ => ?_) (fun H ⟨s1, las, ha, hl, nd, hall⟩ => hd H las s1 ha hl nd hall)
  refine hs i H _ _ hi fun l hn => ?_
  have nlD : l ≠ D := fun e => by
    rw [e, ha] at hn
    cases hn
  have e4 : upd H l (.lst []) D = some (.lst (las.map V.ref)) := by rw [upd_ne nlD.symm]; exact ha
  have fresh : l ∉ las := fun hm => by
    rw [(hall l hm).2.1] at hn
    cases hn
  refine ⟨_, e4, by rw [List.length_map]; omega, same_new (s1.trans (same_upd hn)) hD, las ++ [l], by rw [List.map_append]; exact upd_same, by rw [List.length_append, hl]; rfl, ?_, fun a ha2 => ?_⟩
  · rw [List.nodup_append]
    refine ⟨nd, by simp, fun a h1 b h2 => ?_⟩
    rw [List.mem_singleton.mp h2]
    exact fun e => fresh (by rw [← e]; exact h1)
  · rcases List.mem_append.mp ha2 with h | h
    · obtain ⟨h1, h2, h3⟩ := hall a h
      have nal : a ≠ l := fun e => fresh (by rw [← e]; exact h)
      exact ⟨h1, by rw [upd_ne h1, upd_ne nal]; exact h2, h3⟩
    · rw [List.mem_singleton.mp h]
      refine ⟨nlD, by rw [upd_ne nlD, upd_same], ?_⟩
      cases q : H1 l with
      | none => rfl
      | some o =>
        rw [s1 _ _ q] at hn
        cases hn
end KM
/-! text KW7 -/
set_option Elab.async false
set_option linter.all false
set_option maxRecDepth 100000
set_option maxHeartbeats 4000000
namespace KM
open PySem PySem.Spec PyProof.Rows L2
/-- the class's facts -/
structure MC (K : PySem.W.Frag) (mg : Str → Option Value) (C f : Addr) : Prop where
  cl : Cls K C
  mkr : Mk K C f
  nMany : NoAttr K C "many"
  nBegins : NoAttr K C "begins"
  nSteps : NoAttr K C "steps"
  nEnds : NoAttr K C "ends"
  nOnward : NoAttr K C "onward"
  g : mg "Machine" = some (.ref C)
theorem onw_snoc (ss : List Stp) (s : Stp) (p : Nat) : ((ss ++ [s]).filter fun s => decide (s.1 = p)).map (fun s => s.2) = (ss.filter fun s => decide (s.1 = p)).map (fun s => s.2) ++ (if s.1 = p then [s.2] else []) := by
  rw [List.filter_append, List.map_append]
  congr 1
  by_cases h : s.1 = p <;> simp [h]
/-- all but the object at x stands -/
def SameB (x : Addr) (H H' : Hp) : Prop := ∀ b o, b ≠ x → H b = some o → H' b = some o
section
variable {P : Program} {w : World} {K : PySem.W.Frag} {mg : Str → Option Value} {base : Heap}
def spInit (C : Addr) : Sp := fun vs H Q _ => ∃ (x dx tb ts te : Addr) (sv : List V) (M : Mch), vs = [.ref x, nV M.many, .ref tb, .ref ts, .ref te] ∧ H x = some (.ins C dx []) ∧ H tb = some (.tup (M.begins.map nV)) ∧ H ts = some (.tup sv) ∧ Paired (StpAt H) sv M.steps ∧
  H te = some (.tup (M.ends.map nV)) ∧ M.WF ∧ ∀ H', SameB x H H' → MachAt C H' x M → Q .non H'
theorem rise_len {l : List Nat} {m : Nat} (h : l.Pairwise (· < ·)) (hb : ∀ p ∈ l, p < m) : l.length ≤ m := by
  have key : ∀ (l : List Nat) (a : Nat), l.Pairwise (· < ·) → (∀ p ∈ l, a ≤ p ∧ p < m) → l.length + a ≤ m ∨ l = [] := by
    intro l
    induction l with
    | nil => intro _ _ _; exact .inr rfl
    | cons c l ih =>
      intro a hp h
      obtain ⟨h1, h2⟩ := List.pairwise_cons.mp hp
      have hc := h c List.mem_cons_self
      rcases ih (c + 1) h2 (fun d hd => ⟨h1 d hd, (h d (List.mem_cons_of_mem _ hd)).2⟩) with q | q
      · rw [List.length_cons]
        omega
      · rw [q]
        simp
        omega
  rcases key l 0 h (fun p hp => ⟨Nat.zero_le _, hb p hp⟩) with q | q
  · omega
  · rw [q]
    exact Nat.zero_le _
theorem scInit : FnScope ["self", "many", "begins", "steps", "ends", "place", "signs", "other"] ["self", "many", "begins", "steps", "ends"] (defScope sInit) := ⟨rfl, rfl, rfl, by decide +kernel, rfl, by decide +kernel, by decide +kernel⟩
theorem ok_init {C f f1 f2 f3 : Addr} {fd fd1 fd2 fd3 : FuncData} (F : FnP K "__init__" "Machine.__init__" sInit f fd) (B : Bi mg) (T : MC K mg C f) (F1 : FnP K "is_count" "is_count" sIsCount f1 fd1) (g1 : mg "is_count" = some (.ref f1))
    (F2 : FnP K "are_places" "are_places" sArePlaces f2 fd2) (g2 : mg "are_places" = some (.ref f2)) (O2 : FnOk P w K mg base CX0 2 f2 fd2 ["thing", "many"] spArePlaces)
    (F3 : FnP K "are_steps" "are_steps" sAreSteps f3 fd3) (g3 : mg "are_steps" = some (.ref f3)) (O3 : FnOk P w K mg base CX0 4 f3 fd3 ["thing", "many"] spAreSteps) :
    FnOk P w K mg base CX0 5 f fd ["self", "many", "begins", "steps", "ends"] (spInit C) := by
  have O1 : FnOk P w K mg base CX0 1 f1 fd1 ["thing"] spIsCount := ok_is_count F1 B
  have b1 : Binds K fd1 ["thing"] [] := F1.bindsN fun _ _ _ _ _ _ us hl => match us, hl with | [_], _ => rfl
  have b2 : Binds K fd2 ["thing", "many"] [] := F2.bindsN fun _ _ _ _ _ _ us hl => match us, hl with | [_, _], _ => rfl
  have b3 : Binds K fd3 ["thing", "many"] [] := F3.bindsN fun _ _ _ _ _ _ us hl => match us, hl with | [_, _], _ => rfl
  refine F.okP scInit (fun vs H Q E h => ?_) (fun cdv A outer s H vs Q E hr h => ?_)
  · obtain ⟨x, dx, tb, ts, te, sv, M, rfl, _⟩ := h
    rfl
  · obtain ⟨x, dx, tb, ts, te, sv, M, rfl, hx, hb, hst, hp, he, wf, q⟩ := h
    have hr1 : Room 1 _ := hr.mono (by decide)
    have hr2 : Room 2 _ := hr.mono (by decide)
    refine ⟨_, pss_cons (ps_if (pt_not (pt_val (pe_call O1 hr1 (by rfl) g1 F1.kp b1 .nil pass0 (pa_cons (pv 1) pa_nil)))) (pss_one ps_never) pss_nil)
      (pss_cons (ps_if (pt_not (pt_val (pe_call O2 hr2 (by rfl) g2 F2.kp b2 .nil pass0 (pa_cons (pv 2) (pa_cons (pv 1) pa_nil))))) (pss_one ps_never) pss_nil)
      (pss_cons (ps_if (pt_not (pt_val (pe_call O3 hr (by rfl) g3 F3.kp b3 .nil pass0 (pa_cons (pv 3) (pa_cons (pv 1) pa_nil))))) (pss_one ps_never) pss_nil)
      (pss_cons (ps_if (pt_not (pt_val (pe_call O2 hr2 (by rfl) g2 F2.kp b2 .nil pass0 (pa_cons (pv 4) (pa_cons (pv 1) pa_nil))))) (pss_one ps_never) pss_nil)
      (pss_cons (ps_fld (pv 0) (pv 1) rfl) (pss_cons (ps_fld (pv 0) (pv 2) rfl) (pss_cons (ps_fld (pv 0) (pv 3) rfl) (pss_cons (ps_fld (pv 0) (pv 4) rfl)
      (pss_cons (ps_fld (pv 0) (pe_lc (own := [("place", 5)]) (g := gName 5) (tt := tYes) rfl scInit.nd (pi_range1 rfl B.range (pa_cons (pv 1) pa_nil))
        (blkOk_by (N := ["self", "many", "begins", "steps", "ends", "place", "signs", "other"]) (sc := defScope sInit) (by decide +kernel)) (fun _ _ _ _ _ => pg_name (i := 5) scInit.nd rfl (.inl rfl)) (fun _ _ _ _ _ => pts_nil)
        (fun _ _ _ _ _ => pe_lst pa_nil)) rfl)
      (pss_one (ps_for PassesOwn.never rfl (pi_tup (pv 3)) (pg_tup rfl (pgs_cons (pg_name (i := 5) scInit.nd rfl (.inl rfl)) (pgs_cons (pg_name (i := 6) scInit.nd rfl (.inl rfl)) (pgs_cons (pg_name (i := 7) scInit.nd rfl (.inl rfl)) pgs_nil))))
        (pss_one (ps_expr (pe_bm PySem.F.plainAttrs_list PySem.F.slot_list_append PySem.F.type_list_append mt_append (pe_ix ix_list (pe_fld (pv 0) rfl) (pv 5) (fun _ _ => rfl)) (pa_cons (pe_tup (pa_cons (pv 6) (pa_cons (pv 7) pa_nil))) pa_nil)))))))))))))), ?_⟩
    refine ⟨_, rfl, (M.many : Int), rfl, true, by rw [decide_eq_true (by omega)], iteF ?_⟩
    refine ⟨_, rfl, _, rfl, tb, M.begins, M.many, rfl, hb, wf.bRise, wf.bLt, Nat.lt_of_le_of_lt (rise_len wf.bRise wf.bLt) (Nat.lt_of_le_of_lt wf.mLe (by decide)), fun H1 s1 => ⟨true, rfl, iteF ?_⟩⟩
    refine ⟨_, rfl, _, rfl, ts, sv, M.steps, M.many, rfl, s1 _ _ hst, paired_mono hp fun _ _ r => r.same s1, wf.st, fun H2 s2 => ⟨true, rfl, iteF ?_⟩⟩
    have s12 := s1.trans s2
    refine ⟨_, rfl, _, rfl, te, M.ends, M.many, rfl, s12 _ _ he, wf.eRise, wf.eLt, Nat.lt_of_le_of_lt (rise_len wf.eRise wf.eLt) (Nat.lt_of_le_of_lt wf.mLe (by decide)), fun H3 s3 => ⟨true, rfl, iteF ?_⟩⟩
    have s13 := s12.trans s3
    refine ⟨_, rfl, _, rfl, x, C, dx, _, rfl, s13 _ _ hx, T.cl, T.nMany, (by show 0 < 1000; decide), ?_⟩
    refine ⟨_, rfl, _, rfl, x, C, dx, _, rfl, upd_same, T.cl, T.nBegins, (by show 1 < 1000; decide), ?_⟩
    refine ⟨_, rfl, _, rfl, x, C, dx, _, rfl, upd_same, T.cl, T.nSteps, Nat.lt_of_le_of_lt (putF_len _ _ _) (by show 2 < 1000; decide), ?_⟩
    refine ⟨_, rfl, _, rfl, x, C, dx, _, rfl, upd_same, T.cl, T.nEnds, Nat.lt_of_le_of_lt (Nat.le_trans (putF_len _ _ _) (Nat.succ_le_succ (putF_len _ _ _))) (by show 3 < 1000; decide), ?_⟩
    -- the four stores together
    generalize hHx : upd (upd (upd (upd H3 x _) x _) x _) x _ = Hx
    have hx4 : Hx x = some (.ins C dx (putF "ends" (.ref te) (putF "steps" (.ref ts) (putF "begins" (.ref tb) (putF "many" (nV M.many) []))))) := by
      rw [← hHx]
      exact upd_same
    have sb4 : SameB x H Hx := fun b o hb e => by
      rw [← hHx, upd_ne hb, upd_ne hb, upd_ne hb, upd_ne hb]
      exact s13 b o e
    clear hHx
    have many62 : (M.many : Int) < 2 ^ 62 := by
      have := wf.mLe
      omega
    refine ⟨_, rfl, (M.many : Int), rfl, by omega, many62, fun D hD => ?_⟩
    refine nl_map (many := M.many) hD (Nat.lt_of_le_of_lt wf.mLe (by decide)) (fun i Hc Post Skip hi k => ⟨rfl, Nat.zero_le _, fun l hl => k l hl⟩) (fun H5 las s5 hL hlen nd hall => ?_)
    refine ⟨_, rfl, x, C, dx, _, rfl, s5 _ _ hx4, T.cl, T.nOnward, Nat.lt_of_le_of_lt (Nat.le_trans (putF_len _ _ _) (Nat.succ_le_succ (Nat.le_trans (putF_len _ _ _) (Nat.succ_le_succ (putF_len _ _ _))))) (by show 4 < 1000; decide), ?_⟩
    have nDx : D ≠ x := fun e => by
      rw [e, hx4] at hD
      cases hD
    have nlx : ∀ a ∈ las, a ≠ x := fun a ha e => by
      have z := (hall a ha).2.2
      rw [e, hx4] at z
      cases z
    have sb6 : SameB x H (upd H5 x (.ins C dx (mfs (nV M.many) (.ref tb) (.ref ts) (.ref te) (.ref D)))) := fun b o hb e => by
      rw [upd_ne hb]
      exact s5 _ _ (sb4 b o hb e)
    have hz : ∀ b o, H b = some o → b ≠ x → b ≠ D ∧ b ∉ las := fun b o e hb => by
      have z := sb4 b o hb e
      exact ⟨(fun q => by rw [q, hD] at z; cases z), (fun q => by rw [(hall b q).2.2] at z; cases z)⟩
    have nTup : ∀ (b : Addr) (ys : List V), H b = some (.tup ys) → b ≠ x := fun b ys e q => by
      rw [q, hx] at e
      cases e
    refine ⟨_, rfl, ts, rfl, ⟨sv, .inl (.inl (sb6 _ _ (nTup _ _ hst) hst))⟩, ?_⟩
    refine for_tup (fun i σ Hi => ∃ y5 y6 y7, σ = [some (.ref x), some (nV M.many), some (.ref tb), some (.ref ts), some (.ref te), y5, y6, y7] ∧ SameB x H Hi ∧ Hi x = some (.ins C dx (mfs (nV M.many) (.ref tb) (.ref ts) (.ref te) (.ref D))) ∧
      Hi D = some (.lst (las.map V.ref)) ∧ ∀ (p : Nat) (la : Addr), las[p]? = some la → ∃ ov, Hi la = some (.lst ov) ∧ Paired (OnwAt Hi) ov (((M.steps.take i).filter fun s => decide (s.1 = p)).map fun s => s.2) ∧ ov.length ≤ i)
      ⟨none, none, none, rfl, sb6, upd_same, by rw [upd_ne nDx]; exact hL, fun p la hp => ?_⟩ (fun i σ Hi _ ⟨_, _, _, _, sb, _⟩ => .inl (.inl (sb _ _ (nTup _ _ hst) hst))) ?_ ?_
    · have ha := List.mem_of_getElem? hp
      exact ⟨[], by rw [upd_ne (nlx la ha)]; exact (hall la ha).2.1, .nil, Nat.le_refl _⟩
    · rintro i y σ Hi hi ⟨y5, y6, y7, rfl, sb, hxi, hDi, hO⟩
      obtain ⟨⟨p, l, r⟩, e2, u, rfl, hu⟩ := paired_get hp hi
      have hu' : Hi u = some (.tup [nV p, sV l, nV r]) := sb _ _ (nTup _ _ hu) hu
      have okS := wf.st.each _ (List.mem_of_getElem? e2)
      have hi' : i < M.steps.length := (List.getElem?_eq_some_iff.mp e2).1
      have hpl : p < las.length := by rw [hlen]; exact okS.l1
      have hla : las[p]? = some las[p] := List.getElem?_eq_getElem hpl
      obtain ⟨ov, h1, h2, h3⟩ := hO p las[p] hla
      refine ⟨u, _, rfl, .inl (.inl hu'), rfl, _, _, rfl, _, _, rfl, _, _, rfl, rfl, ?_⟩
      refine ⟨_, rfl, x, C, dx, _, _, rfl, hxi, T.cl, T.nOnward, mf_onward _ _ _ _ _, _, rfl, D, _, (p : Int), .ref las[p], rfl, rfl, .inl (.inl hDi), ?_, ?_⟩
      · exact atI_nat (by rw [List.getElem?_map, hla]; rfl)
      refine ⟨.inl ⟨rfl, _, .inl (.inl h1)⟩, _, rfl, _, rfl, (by show 2 ≤ sizeLine; decide), fun t ht => ?_⟩
      have ntl : t ≠ las[p] := fun e => by
        rw [e, h1] at ht
        cases ht
      have e1 : upd Hi t (.tup [sV l, nV r]) las[p] = some (.lst ov) := by rw [upd_ne ntl.symm]; exact h1
      have big : M.steps.length < sizeLine := Nat.lt_of_le_of_lt wf.st.len (by decide)
      refine ⟨las[p], ov, _, rfl, rfl, e1, by omega, ?_⟩
      -- the new heap
      have nlD : ∀ a ∈ las, a ≠ D := fun a ha => (hall a ha).1
      have hm : las[p] ∈ las := List.getElem_mem hpl
      have ts1 : TupS Hi (upd Hi t (.tup [sV l, nV r])) := TupS.same (same_upd ht)
      have ts2 : TupS (upd Hi t (.tup [sV l, nV r])) (upd (upd Hi t (.tup [sV l, nV r])) las[p] (.lst (ov ++ [.ref t]))) := TupS.upd e1 fun xs z => by cases z
      have ts12 := ts1.trans ts2
      have ntx : x ≠ t := fun e => by
        rw [← e, hxi] at ht
        cases ht
      have ntD : D ≠ t := fun e => by
        rw [← e, hDi] at ht
        cases ht
      refine ⟨_, _, _, rfl, fun b o hb e => ?_, ?_, ?_, fun p' la' hp' => ?_⟩
      · have z := sb b o hb e
        have n1 : b ≠ las[p] := fun q => (hz b o e hb).2 (by rw [q]; exact hm)
        rw [upd_ne n1, upd_ne (ne_of_none z ht)]
        exact z
      · rw [upd_ne (nlx _ hm).symm, upd_ne ntx]
        exact hxi
      · rw [upd_ne (nlD _ hm).symm, upd_ne ntD]
        exact hDi
      · have et : M.steps.take (i + 1) = M.steps.take i ++ [(p, l, r)] := by
          rw [List.take_succ, e2]
          rfl
        rw [et, onw_snoc]
        obtain ⟨ov', q1, q2, q3⟩ := hO p' la' hp'
        by_cases epp : p' = p
        · subst epp
          have : la' = las[p'] := by
            rw [hla] at hp'
            exact (Option.some.inj hp').symm
          subst this
          rw [h1] at q1
          cases q1
          refine ⟨_, upd_same, ?_, by rw [List.length_append]; simp; omega⟩
          rw [if_pos rfl]
          exact paired_snoc (paired_mono h2 fun _ _ z => z.mono ts12) ⟨t, rfl, ts2 _ _ upd_same⟩
        · have nla : la' ≠ las[p] := fun e => by
            have hp2 : las[p']? = some las[p] := by rw [hp', e]
            obtain ⟨l1, e1⟩ := List.getElem?_eq_some_iff.mp hp2
            exact epp ((List.getElem_inj nd).mp e1)
          refine ⟨ov', by rw [upd_ne nla, upd_ne (ne_of_none q1 ht)]; exact q1, ?_, by omega⟩
          rw [if_neg (fun e => epp e.symm), List.append_nil]
          exact paired_mono q2 fun _ _ z => z.mono ts12
    · rintro σ Hi ⟨y5, y6, y7, rfl, sb, hxi, hDi, hO⟩
      refine q Hi sb ⟨dx, tb, ts, te, D, sv, las, hxi, sb _ _ (nTup _ _ hb) hb, sb _ _ (nTup _ _ hst) hst, paired_mono hp fun _ _ ⟨t, e1, e2⟩ => ⟨t, e1, sb _ _ (nTup _ _ e2) e2⟩, sb _ _ (nTup _ _ he) he, hDi, hlen, fun p la hp' => ?_⟩
      obtain ⟨ov, q1, q2, _⟩ := hO p la hp'
      refine ⟨ov, q1, ?_⟩
      rw [Paired.length hp, List.take_length] at q2
      exact q2
end
end KM
/-! text KCD -/
set_option Elab.async false
set_option linter.all false
set_option maxRecDepth 100000
set_option maxHeartbeats 4000000
/-! Dict comprehensions of one clause, keys ints, texts or tuples of these. -/
namespace KM
open PySem PySem.Spec PyProof.Rows L2
section
variable {X : Cx}
/-- d[y] = z by a comprehension -/
theorem dput_ok {pins : List (Addr × Obj)} {σ : L2.St} {H H' : Hp} {s : Shared} {E : Value → Shared → Prop} {D : Addr} {y z : V} {u r : Value} {Q : Unit → Shared → Prop} (hu : X.A.units < cLine) (I : Inv X pins σ H s) (g : DPut H D y z H')
    (ry : L2.RelV y u) (rz : L2.RelV z r) (h : ∀ s', Inv X pins σ H' s' → Q () s') : wpAny (model X.prog X.w) X.A (dictSet D u r) Q E s := by
  rcases g with ⟨kvs, k, e, ey, l, eH⟩ | ⟨kvs, k, b, e, ey, eb, l, eH⟩
  · subst ey
    subst eH
    exact d_dictSet I e l ry rz h
  · subst ey
    subst eH
    cases (show u = Value.ref b from ry)
    obtain ⟨_, hd, xs, rel, dd⟩ := dt_of I.hok e
    have hx : xs.length = kvs.length := (Paired.length rel).symm
    have hl := length_putK kvs k z
    refine wpAny_dictSet_heap (hsz := by omega) hu (key_of I.hok eb) dd fun h' dd' hs => h _ ?_
    obtain ⟨q, es, ep, hq, h2, h3, h4, _, h5⟩ := dd'
    refine d_write I (by rw [e]; exact True.intro) hs ⟨q, hq⟩ ⟨by omega, hd, _, (rel.put k eb rz).keeps fun c ys ec => ?_, q, es, ep, hq, h2, h3, h4, h5⟩
    exact (upd_ne (ne_of ec e (fun w => by cases w))).trans ec
/-- a kept item of {k: v for ..} -/
def accD (tk tv : TE) : L2.St → Hp → Addr → (Hp → Prop) → Prop := fun σ H D Nx => tk σ H fun y H1 => tv σ H1 fun z H2 => ∃ H3, DPut H2 D y z H3 ∧ Nx H3
theorem sink_dict {kx vx tg iter : Expr} {ifs : List Expr} {scope : Scope} {pos : Pos} {tk tv : TE} {emp : HO} {vs : List Nat} (hu : X.A.units < cLine)
    (hemp : ∀ (H : Hp) (h : Heap), sysModules < h.objs.size → ObjOk X.prog X.w H (h.push { cls := .type "dict", data := .dict #[] }) h.objs.size emp)
    (hk : ∀ (s : Shared) (H : Hp) (C : Addr) (cl : List (Str × Addr)) (fp : List Addr), PE (X.blk s H scope (compEnvC scope cl C X.env) fp) kx tk)
    (hv : ∀ (s : Shared) (H : Hp) (C : Addr) (cl : List (Str × Addr)) (fp : List Addr), PE (X.blk s H scope (compEnvC scope cl C X.env) fp) vx tv) :
    Sink X (.DictComp kx vx [⟨tg, iter, ifs, 0⟩] scope pos) tg iter ifs scope newDict { cls := .type "dict", data := .dict #[] } (fun _ => emp) (accD tk tv) vs where
  cls := ⟨_, rfl⟩
  mkOk := fun E Q s h => wpAny_newObj_type h
  empOk := hemp
  start := fun it D env R s h0 h => codeAny_compStart_dict h0 (h _)
  loop := fun s0 H0 C cl fp it D R I turn n s hI => by
    refine compLoop_anyD I (fun n s hn => ?_) n hI
    refine thn (turn n s hn _) fun r s1 h1 => ?_
    cases r with
    | none => exact h1
    | some v =>
      refine thn h1 fun _ s2 h2 => thn h2 fun _ s3 h3 => thn h3 fun ok s4 h4 => ?_
      cases ok with
      | false => exact h4
      | true =>
        simp only [if_true] at h4 ⊢
        obtain ⟨pins, σ, H, Nx, I4, ha, fin⟩ := h4
        refine thnF ((hk s0 H0 C cl fp).run pins s4 σ H _ I4 ha) fun kv s5 ⟨y, H5, I5, r5, q5⟩ => ?_
        refine thnF ((hv s0 H0 C cl fp).run pins s5 σ H5 _ I5 q5) fun vv s6 ⟨z, H6, I6, r6, H7, g, nx⟩ => ?_
        exact dput_ok (X := X.blk s0 H0 scope (compEnvC scope cl C X.env) fp) hu I6 g r5 r6 fun s7 I7 => fin σ s7 H7 (.refl _ _) I7 nx
theorem pe_dcP {kx vx tg iter : Expr} {ifs : List Expr} {scope : Scope} {own : List (Str × Nat)} {pos : Pos} {wi : TI} {g : TG} {tt : TT} {tk tv : TE} (emp : HO) (hu : X.A.units < cLine)
    (hemp : ∀ (H : Hp) (h : Heap), sysModules < h.objs.size → ObjOk X.prog X.w H (h.push { cls := .type "dict", data := .dict #[] }) h.objs.size emp) (hc : X.calm = true) (hN : X.N.Nodup) (hi : PI X tg iter wi) (ok : BlkOk X.N X.env.scope scope own)
    (hg : ∀ (s : Shared) (H : Hp) (C : Addr) (cl : List (Str × Addr)) (fp : List Addr), PG (X.blk s H scope (compEnvC scope cl C X.env) fp) tg g)
    (ht : ∀ (s : Shared) (H : Hp) (C : Addr) (cl : List (Str × Addr)) (fp : List Addr), PTs (X.blk s H scope (compEnvC scope cl C X.env) fp) ifs tt)
    (hk : ∀ (s : Shared) (H : Hp) (C : Addr) (cl : List (Str × Addr)) (fp : List Addr), PE (X.blk s H scope (compEnvC scope cl C X.env) fp) kx tk)
    (hv : ∀ (s : Shared) (H : Hp) (C : Addr) (cl : List (Str × Addr)) (fp : List Addr), PE (X.blk s H scope (compEnvC scope cl C X.env) fp) vx tv) (hs : ∀ x, foldedSetIterable iter X.env x = pure x := by intro _; rfl) :
    PE X (.DictComp kx vx [⟨tg, iter, ifs, 0⟩] scope pos) (tComp (fun _ => emp) wi g tt (accD tk tv) (own.map (·.2))) :=
  pe_comp (sink_dict hu hemp hk hv) (arm_eval_DictComp _ _ _ _ _ _) hc hN hi ok hg ht hs
/-- {k: v for ..}, keys tuples -/
theorem pe_dcT {kx vx tg iter : Expr} {ifs : List Expr} {scope : Scope} {own : List (Str × Nat)} {pos : Pos} {wi : TI} {g : TG} {tt : TT} {tk tv : TE} (hu : X.A.units < cLine) (hc : X.calm = true) (hN : X.N.Nodup) (hi : PI X tg iter wi) (ok : BlkOk X.N X.env.scope scope own)
    (hg : ∀ (s : Shared) (H : Hp) (C : Addr) (cl : List (Str × Addr)) (fp : List Addr), PG (X.blk s H scope (compEnvC scope cl C X.env) fp) tg g)
    (ht : ∀ (s : Shared) (H : Hp) (C : Addr) (cl : List (Str × Addr)) (fp : List Addr), PTs (X.blk s H scope (compEnvC scope cl C X.env) fp) ifs tt)
    (hk : ∀ (s : Shared) (H : Hp) (C : Addr) (cl : List (Str × Addr)) (fp : List Addr), PE (X.blk s H scope (compEnvC scope cl C X.env) fp) kx tk)
    (hv : ∀ (s : Shared) (H : Hp) (C : Addr) (cl : List (Str × Addr)) (fp : List Addr), PE (X.blk s H scope (compEnvC scope cl C X.env) fp) vx tv) (hs : ∀ x, foldedSetIterable iter X.env x = pure x := by intro _; rfl) :
    PE X (.DictComp kx vx [⟨tg, iter, ifs, 0⟩] scope pos) (tComp (fun _ => .dT []) wi g tt (accD tk tv) (own.map (·.2))) := pe_dcP (.dT []) hu (fun _ h hb => dt_empty h hb) hc hN hi ok hg ht hk hv hs
/-- {k: v for ..}, keys ints or texts -/
theorem pe_dcK {kx vx tg iter : Expr} {ifs : List Expr} {scope : Scope} {own : List (Str × Nat)} {pos : Pos} {wi : TI} {g : TG} {tt : TT} {tk tv : TE} (hu : X.A.units < cLine) (hc : X.calm = true) (hN : X.N.Nodup) (hi : PI X tg iter wi) (ok : BlkOk X.N X.env.scope scope own)
    (hg : ∀ (s : Shared) (H : Hp) (C : Addr) (cl : List (Str × Addr)) (fp : List Addr), PG (X.blk s H scope (compEnvC scope cl C X.env) fp) tg g)
    (ht : ∀ (s : Shared) (H : Hp) (C : Addr) (cl : List (Str × Addr)) (fp : List Addr), PTs (X.blk s H scope (compEnvC scope cl C X.env) fp) ifs tt)
    (hk : ∀ (s : Shared) (H : Hp) (C : Addr) (cl : List (Str × Addr)) (fp : List Addr), PE (X.blk s H scope (compEnvC scope cl C X.env) fp) kx tk)
    (hv : ∀ (s : Shared) (H : Hp) (C : Addr) (cl : List (Str × Addr)) (fp : List Addr), PE (X.blk s H scope (compEnvC scope cl C X.env) fp) vx tv) (hs : ∀ x, foldedSetIterable iter X.env x = pure x := by intro _; rfl) :
    PE X (.DictComp kx vx [⟨tg, iter, ifs, 0⟩] scope pos) (tComp (fun _ => .dK []) wi g tt (accD tk tv) (own.map (·.2))) := pe_dcP (.dK []) hu (fun _ h hb => dk_empty h hb) hc hN hi ok hg ht hk hv hs
end
/-! ### the forms one uses -/
section
variable {J : It} {n : Nat} {G : Hp → Prop} {Y : Nat → Hp → V → Hp → Prop} {g : TG} {tt : TT} {tk tv : TE} {vs : List Nat} {σ : L2.St} {H1 : Hp}
/-- keys ints or texts, each met once; the turns leave all as it was -/
theorem dk_map {D : Addr} {Qd : Hp → Prop} (hD : H1 D = none) (w : Walk J n G Y) (hG : ∀ H', Same H1 H' → G H') (outs : Nat → List (L2.Key × V)) (h0 : outs 0 = []) (hz : ∀ i, i ≤ n → (outs i).length < sizeLine)
    (hs : ∀ (i : Nat) (x : V) (Hc H' : Hp) (Post : V → V → Hp → Prop) (Skip : Hp → Prop), i < n → Same H1 Hc → Y i Hc x H' → (∀ k z H4, Same Hc H4 → outs (i + 1) = putK (outs i) k z → Post (kV k) z H4) → (∀ H3, Same Hc H3 → outs (i + 1) = outs i → Skip H3) →
      g x (wipe σ vs) H' fun σ2 H2 => wipe σ2 vs = wipe σ vs ∧ tt σ2 H2 fun b H3 => if b = true then tk σ2 H3 fun y H4 => tv σ2 H4 fun z H5 => Post y z H5 else Skip H3)
    (hd : ∀ (H' : Hp), Same H1 H' → H' D = some (.dK (outs n)) → Qd H') :
    ∃ W : Nat → Nat → Hp → Prop, (∃ m, W 0 m (upd H1 D (.dK []))) ∧ ∀ i m H, W i m H →
      (J.stop i H ∧ Qd H) ∨ (J.go i H ∧ ∃ Nx : Hp → Prop, (∀ H', Nx H' → ∃ m', m' < m ∧ W (i + 1) m' H') ∧ ∀ x H', J.yld i H x H' → g x (wipe σ vs) H' fun σ2 H2 => wipe σ2 vs = wipe σ vs ∧ tt σ2 H2 fun b H3 =>
        if b = true then accD tk tv σ2 H3 D Nx else Nx H3) := by
  refine ⟨fun i m H => m = n - i ∧ i ≤ n ∧ Same H1 H ∧ H D = some (.dK (outs i)), ⟨n, by simp, Nat.zero_le _, same_upd hD, by rw [h0]; exact upd_same⟩, ?_⟩
  rintro i m H ⟨rfl, hi, s1, ha⟩
  have q := hG H s1
  by_cases hlt : i < n
  · refine .inr ⟨w.goes i H hlt q, fun H' => Same H1 H' ∧ H' D = some (.dK (outs (i + 1))), fun H' z => ⟨n - (i + 1), by omega, rfl, hlt, z⟩, fun x H' y => ?_⟩
    refine hs i x H H' (fun y z H5 => ∃ H6, DPut H5 D y z H6 ∧ Same H1 H6 ∧ H6 D = some (.dK (outs (i + 1)))) _ hlt s1 (w.yields i H x H' hlt q y) (fun k z H4 s4 ho => ?_) (fun H3 s3 ho => ⟨s1.trans s3, by rw [ho]; exact s3 _ _ ha⟩)
    refine ⟨_, DPut.k (s4 _ _ ha) (hz i hi), same_new (s1.trans s4) hD, ?_⟩
    rw [ho]
    exact upd_same
  · have e : i = n := by omega
    subst e
    exact .inl ⟨w.stops H q, hd H s1 ha⟩
/-- keys tuples, each met once -/
theorem dt_map {D : Addr} {Qd : Hp → Prop} (hD : H1 D = none) (w : Walk J n G Y) (hG : ∀ H', Same H1 H' → G H') (outs : Nat → List (List L2.Key × V)) (h0 : outs 0 = []) (hz : ∀ i, i ≤ n → (outs i).length < sizeLine)
    (hs : ∀ (i : Nat) (x : V) (Hc H' : Hp) (Post : V → V → Hp → Prop) (Skip : Hp → Prop), i < n → Same H1 Hc → Y i Hc x H' → (∀ (b : Addr) (k : List L2.Key) (z : V) (H4 : Hp), Same Hc H4 → H4 b = some (.tup (k.map kV)) → outs (i + 1) = putK (outs i) k z → Post (.ref b) z H4) →
      (∀ H3, Same Hc H3 → outs (i + 1) = outs i → Skip H3) →
      g x (wipe σ vs) H' fun σ2 H2 => wipe σ2 vs = wipe σ vs ∧ tt σ2 H2 fun b H3 => if b = true then tk σ2 H3 fun y H4 => tv σ2 H4 fun z H5 => Post y z H5 else Skip H3)
    (hd : ∀ (H' : Hp), Same H1 H' → H' D = some (.dT (outs n)) → Qd H') :
    ∃ W : Nat → Nat → Hp → Prop, (∃ m, W 0 m (upd H1 D (.dT []))) ∧ ∀ i m H, W i m H →
      (J.stop i H ∧ Qd H) ∨ (J.go i H ∧ ∃ Nx : Hp → Prop, (∀ H', Nx H' → ∃ m', m' < m ∧ W (i + 1) m' H') ∧ ∀ x H', J.yld i H x H' → g x (wipe σ vs) H' fun σ2 H2 => wipe σ2 vs = wipe σ vs ∧ tt σ2 H2 fun b H3 =>
        if b = true then accD tk tv σ2 H3 D Nx else Nx H3) := by
  refine ⟨fun i m H => m = n - i ∧ i ≤ n ∧ Same H1 H ∧ H D = some (.dT (outs i)), ⟨n, by simp, Nat.zero_le _, same_upd hD, by rw [h0]; exact upd_same⟩, ?_⟩
  rintro i m H ⟨rfl, hi, s1, ha⟩
  have q := hG H s1
  by_cases hlt : i < n
  · refine .inr ⟨w.goes i H hlt q, fun H' => Same H1 H' ∧ H' D = some (.dT (outs (i + 1))), fun H' z => ⟨n - (i + 1), by omega, rfl, hlt, z⟩, fun x H' y => ?_⟩
    refine hs i x H H' (fun y z H5 => ∃ H6, DPut H5 D y z H6 ∧ Same H1 H6 ∧ H6 D = some (.dT (outs (i + 1)))) _ hlt s1 (w.yields i H x H' hlt q y) (fun b k z H4 s4 hb ho => ?_) (fun H3 s3 ho => ⟨s1.trans s3, by rw [ho]; exact s3 _ _ ha⟩)
    refine ⟨_, DPut.t (s4 _ _ ha) hb (hz i hi), same_new (s1.trans s4) hD, ?_⟩
    rw [ho]
    exact upd_same
  · have e : i = n := by omega
    subst e
    exact .inl ⟨w.stops H q, hd H s1 ha⟩
end
end KM
/-! text KCE -/
set_option Elab.async false
set_option linter.all false
set_option maxRecDepth 100000
set_option maxHeartbeats 4000000
/-! Dict comprehensions given to a local name. -/
namespace KM
open PySem PySem.Spec PyProof.Rows L2
section
variable {X : Cx} {comp tg iter : Expr} {ifs : List Expr} {scope : Scope} {mk : Sem Value} {o0 : Obj} {emp : Addr → HO} {acc : L2.St → Hp → Addr → (Hp → Prop) → Prop} {own : List (Str × Nat)} {wi : TI} {g : TG} {tt : TT}
theorem ps_setComp {i : Nat} {y : Str} {py spos pos' : Pos} (S : Sink X comp tg iter ifs scope mk o0 emp acc (own.map (·.2))) (hc : X.calm = true) (hN : X.N.Nodup) (hy : X.N[i]? = some y) (hyl : X.env.scope.names.lookup y = some .local)
    (hsw : swapsWith comp (some (.Name y py)) spos.line X.env = pure true)
    (he : ∀ use, evalThenUse comp X.env use = do let _ ← comprehension comp scope X.env pos' mk false (eval iter X.env) (some use)) (hi : PI X tg iter wi) (ok : BlkOk X.N X.env.scope scope own)
    (hg : ∀ (s : Shared) (H : Hp) (C : Addr) (cl : List (Str × Addr)) (fp : List Addr), PG (X.blk s H scope (compEnvC scope cl C X.env) fp) tg g)
    (ht : ∀ (s : Shared) (H : Hp) (C : Addr) (cl : List (Str × Addr)) (fp : List Addr), PTs (X.blk s H scope (compEnvC scope cl C X.env) fp) ifs tt)
    (hs : ∀ x, foldedSetIterable iter X.env x = pure x) : PS X (.Assign [.Name y py] comp spos) (tAsg (tComp emp wi g tt acc (own.map (·.2))) (gName i)) := by
  refine ⟨fun pins s σ H D I h => ?_⟩
  rw [exec_Assign_Name_used _ _ _ _ hsw, he]
  refine wpAny_bind (wpAny_standAt (wpAny_bind ?_))
  have h : tComp emp wi g tt acc (own.map (·.2)) σ H (fun x H1 => gName i x σ H1 D.nx) := h
  refine wpAny_bind (thn (comp_core (Qf := fun _ s' => SP X pins D .next s') S hc hN I hi ok hg ht hs h fun L C s' m H' I' q hn f => ?_) fun _ s' hq => wpAny_pure (wpAny_pure hq))
  show wpAny _ _ (assign (.Name y py) X.env (.ref L)) _ _ _
  refine wpAny_assign_Name (store_ok2 (v := V.ref L) I' hN hy (.inl hyl) rfl (fun s2 I2 ⟨a, sb, ha⟩ => ?_) (.inr hyl))
  obtain ⟨f0, f1, f2, f3, f4, f5⟩ := f
  have haC : C ≠ a := by
    rcases ha with z | z
    · rw [z]; exact f1
    · exact fun e => f4 y a z e.symm
  refine ⟨m, hn.sameBut sb haC, fun h3 sb3 => ?_⟩
  exact ⟨_, H', I2.turned (t' := s2.toks) (fun b o hb e => (sb3.2 b hb).trans e) f0 f1 f3 f4 f5, q⟩
end
theorem sw_trueD {a b : Expr} {gs : List Comprehension} {scope : Scope} {pos py : Pos} {y : Str} {l : Nat} {env : Env} (hk : env.scope.kind = .function) (hy : env.scope.names.lookup y = some .local) (hl : (py.line == pos.line) = true)
    (ha : (scope.names.any fun (n, k) => n == y && (k == .local || k == .cell)) = false) : swapsWith (.DictComp a b gs scope pos) (some (.Name y py)) l env = pure true := by
  have ky : env.kindOf y = some .local := hy
  have hb : env.blockKind = .function := by unfold Env.blockKind; rw [hk]; rfl
  unfold swapsWith
  simp only [hb, ky, ha, Expr.pos, hl]
  rfl
section
variable {X : Cx} {kx vx tg iter : Expr} {ifs : List Expr} {scope : Scope} {own : List (Str × Nat)} {pos spos py : Pos} {wi : TI} {g : TG} {tt : TT} {tk tv : TE} {i : Nat} {y : Str}
theorem ps_setDcP (emp : HO) (hu : X.A.units < cLine)
    (hemp : ∀ (H : Hp) (h : Heap), sysModules < h.objs.size → ObjOk X.prog X.w H (h.push { cls := .type "dict", data := .dict #[] }) h.objs.size emp) (hc : X.calm = true) (hN : X.N.Nodup) (hy : X.N[i]? = some y) (hyl : X.env.scope.names.lookup y = some .local)
    (hsw : swapsWith (.DictComp kx vx [⟨tg, iter, ifs, 0⟩] scope pos) (some (.Name y py)) spos.line X.env = pure true) (hi : PI X tg iter wi) (ok : BlkOk X.N X.env.scope scope own)
    (hg : ∀ (s : Shared) (H : Hp) (C : Addr) (cl : List (Str × Addr)) (fp : List Addr), PG (X.blk s H scope (compEnvC scope cl C X.env) fp) tg g)
    (ht : ∀ (s : Shared) (H : Hp) (C : Addr) (cl : List (Str × Addr)) (fp : List Addr), PTs (X.blk s H scope (compEnvC scope cl C X.env) fp) ifs tt)
    (hk : ∀ (s : Shared) (H : Hp) (C : Addr) (cl : List (Str × Addr)) (fp : List Addr), PE (X.blk s H scope (compEnvC scope cl C X.env) fp) kx tk)
    (hv : ∀ (s : Shared) (H : Hp) (C : Addr) (cl : List (Str × Addr)) (fp : List Addr), PE (X.blk s H scope (compEnvC scope cl C X.env) fp) vx tv) (hs : ∀ x, foldedSetIterable iter X.env x = pure x := by intro _; rfl) :
    PS X (.Assign [.Name y py] (.DictComp kx vx [⟨tg, iter, ifs, 0⟩] scope pos) spos) (tAsg (tComp (fun _ => emp) wi g tt (accD tk tv) (own.map (·.2))) (gName i)) :=
  ps_setComp (sink_dict hu hemp hk hv) hc hN hy hyl hsw (fun _ => rfl) hi ok hg ht hs
theorem ps_setDcK (hu : X.A.units < cLine) (hc : X.calm = true) (hN : X.N.Nodup) (hy : X.N[i]? = some y) (hyl : X.env.scope.names.lookup y = some .local)
    (hsw : swapsWith (.DictComp kx vx [⟨tg, iter, ifs, 0⟩] scope pos) (some (.Name y py)) spos.line X.env = pure true) (hi : PI X tg iter wi) (ok : BlkOk X.N X.env.scope scope own)
    (hg : ∀ (s : Shared) (H : Hp) (C : Addr) (cl : List (Str × Addr)) (fp : List Addr), PG (X.blk s H scope (compEnvC scope cl C X.env) fp) tg g)
    (ht : ∀ (s : Shared) (H : Hp) (C : Addr) (cl : List (Str × Addr)) (fp : List Addr), PTs (X.blk s H scope (compEnvC scope cl C X.env) fp) ifs tt)
    (hk : ∀ (s : Shared) (H : Hp) (C : Addr) (cl : List (Str × Addr)) (fp : List Addr), PE (X.blk s H scope (compEnvC scope cl C X.env) fp) kx tk)
    (hv : ∀ (s : Shared) (H : Hp) (C : Addr) (cl : List (Str × Addr)) (fp : List Addr), PE (X.blk s H scope (compEnvC scope cl C X.env) fp) vx tv) (hs : ∀ x, foldedSetIterable iter X.env x = pure x := by intro _; rfl) :
    PS X (.Assign [.Name y py] (.DictComp kx vx [⟨tg, iter, ifs, 0⟩] scope pos) spos) (tAsg (tComp (fun _ => .dK []) wi g tt (accD tk tv) (own.map (·.2))) (gName i)) :=
  ps_setDcP (.dK []) hu (fun _ h hb => dk_empty h hb) hc hN hy hyl hsw hi ok hg ht hk hv hs
theorem ps_setDcT (hu : X.A.units < cLine) (hc : X.calm = true) (hN : X.N.Nodup) (hy : X.N[i]? = some y) (hyl : X.env.scope.names.lookup y = some .local)
    (hsw : swapsWith (.DictComp kx vx [⟨tg, iter, ifs, 0⟩] scope pos) (some (.Name y py)) spos.line X.env = pure true) (hi : PI X tg iter wi) (ok : BlkOk X.N X.env.scope scope own)
    (hg : ∀ (s : Shared) (H : Hp) (C : Addr) (cl : List (Str × Addr)) (fp : List Addr), PG (X.blk s H scope (compEnvC scope cl C X.env) fp) tg g)
    (ht : ∀ (s : Shared) (H : Hp) (C : Addr) (cl : List (Str × Addr)) (fp : List Addr), PTs (X.blk s H scope (compEnvC scope cl C X.env) fp) ifs tt)
    (hk : ∀ (s : Shared) (H : Hp) (C : Addr) (cl : List (Str × Addr)) (fp : List Addr), PE (X.blk s H scope (compEnvC scope cl C X.env) fp) kx tk)
    (hv : ∀ (s : Shared) (H : Hp) (C : Addr) (cl : List (Str × Addr)) (fp : List Addr), PE (X.blk s H scope (compEnvC scope cl C X.env) fp) vx tv) (hs : ∀ x, foldedSetIterable iter X.env x = pure x := by intro _; rfl) :
    PS X (.Assign [.Name y py] (.DictComp kx vx [⟨tg, iter, ifs, 0⟩] scope pos) spos) (tAsg (tComp (fun _ => .dT []) wi g tt (accD tk tv) (own.map (·.2))) (gName i)) :=
  ps_setDcP (.dT []) hu (fun _ h hb => dt_empty h hb) hc hN hy hyl hsw hi ok hg ht hk hv hs
end
/-! ### keys of a dict, as a list -/
section
variable {κ : Type} [DecidableEq κ]
theorem valV_keys (k : κ) : ∀ kvs : List (κ × V), (valV kvs k).isSome = true ↔ k ∈ kvs.map (·.1) := fun kvs => by
  rw [← valV_any, List.any_eq_true]
  constructor
  · rintro ⟨x, hx, e⟩
    exact List.mem_map.mpr ⟨x, hx, of_decide_eq_true e⟩
  · intro h
    obtain ⟨x, hx, e⟩ := List.mem_map.mp h
    exact ⟨x, hx, decide_eq_true e⟩
theorem valV_none {k : κ} {kvs : List (κ × V)} (h : k ∉ kvs.map (·.1)) : valV kvs k = none := by
  cases e : valV kvs k with
  | none => rfl
  | some v => exact absurd ((valV_keys k kvs).mp (by rw [e]; rfl)) h
theorem valV_mem {k : κ} {v : V} {kvs : List (κ × V)} (h : valV kvs k = some v) : (k, v) ∈ kvs := by
  unfold valV at h
  cases e : kvs.find? fun kv => decide (kv.1 = k) with
  | none => rw [e] at h; cases h
  | some p =>
    rw [e] at h
    cases h
    have h1 := List.find?_some e
    have h2 := List.mem_of_find?_eq_some e
    have h3 : p.1 = k := of_decide_eq_true h1
    rw [← h3]
    exact h2
theorem mem_valV {k : κ} {v : V} : ∀ {kvs : List (κ × V)}, (kvs.map (·.1)).Nodup → (k, v) ∈ kvs → valV kvs k = some v
  | [], _, h => by cases h
  | p :: r, nd, h => by
    rw [List.map_cons, List.nodup_cons] at nd
    rcases List.mem_cons.mp h with e | h
    · rw [← e]
      exact valV_pos rfl
    · have : ¬ p.1 = k := fun e => nd.1 (by rw [e]; exact List.mem_map.mpr ⟨_, h, rfl⟩)
      rw [valV_neg this]
      exact mem_valV nd.2 h
theorem putK_old {kvs : List (κ × V)} {k : κ} {v : V} (h : k ∈ kvs.map (·.1)) : putK kvs k v = kvs.map fun kv => if kv.1 = k then (kv.1, v) else kv := by
  unfold putK
  rw [if_pos]
  rw [valV_any]
  exact (valV_keys k kvs).mpr h
theorem putK_keys (kvs : List (κ × V)) (k : κ) (v : V) : (putK kvs k v).map (·.1) = if k ∈ kvs.map (·.1) then kvs.map (·.1) else kvs.map (·.1) ++ [k] := by
  by_cases h : k ∈ kvs.map (·.1)
  · rw [putK_old h, if_pos h, List.map_map]
    refine List.map_congr_left fun x _ => ?_
    show (if x.1 = k then (x.1, v) else x).1 = x.1
    split <;> rfl
  · rw [putK_new v (valV_none h), if_neg h, List.map_append]
    rfl
theorem putK_nd {kvs : List (κ × V)} (k : κ) (v : V) (h : (kvs.map (·.1)).Nodup) : ((putK kvs k v).map (·.1)).Nodup := by
  rw [putK_keys]
  split
  · exact h
  · rename_i hn
    rw [List.nodup_append]
    refine ⟨h, by simp, fun a ha b hb => ?_⟩
    rw [List.mem_singleton.mp hb]
    exact fun e => hn (by rw [← e]; exact ha)
theorem putK_mem {kvs : List (κ × V)} {k : κ} {v : V} {p : κ × V} (h : p ∈ putK kvs k v) : p = (k, v) ∨ p ∈ kvs := by
  by_cases hk : k ∈ kvs.map (·.1)
  · rw [putK_old hk] at h
    obtain ⟨x, hx, e⟩ := List.mem_map.mp h
    by_cases q : x.1 = k
    · rw [if_pos q] at e
      left
      rw [← e, q]
    · rw [if_neg q] at e
      right
      rw [← e]
      exact hx
  · rw [putK_new v (valV_none hk)] at h
    rcases List.mem_append.mp h with h | h
    · exact .inr h
    · exact .inl (List.mem_singleton.mp h)
theorem putK_memk {kvs : List (κ × V)} {k j : κ} {v : V} : j ∈ (putK kvs k v).map (·.1) ↔ j = k ∨ j ∈ kvs.map (·.1) := by
  rw [putK_keys]
  split
  · rename_i h
    constructor
    · exact .inr
    · rintro (rfl | h2)
      · exact h
      · exact h2
  · simp only [List.mem_append, List.mem_singleton]
    exact ⟨fun h => h.symm, fun h => h.symm⟩
end
theorem nodup_sub {α : Type} [DecidableEq α] : ∀ {l l' : List α}, l.Nodup → (∀ x ∈ l, x ∈ l') → l.length ≤ l'.length
  | [], _, _, _ => Nat.zero_le _
  | a :: l, l', nd, h => by
    rw [List.nodup_cons] at nd
    have ha := h a List.mem_cons_self
    have h1 := List.length_erase_of_mem ha
    have h2 : l.length ≤ (l'.erase a).length := nodup_sub nd.2 fun x hx => by
      have n : x ≠ a := fun e => nd.1 (by rw [← e]; exact hx)
      exact (List.mem_erase_of_ne n).mpr (h x (List.mem_cons_of_mem _ hx))
    have h3 := List.length_pos_of_mem ha
    rw [List.length_cons]
    omega
/-- a list without doubles, of things below many, is no longer than many -/
theorem nodup_le {l : List Nat} {m : Nat} (h : l.Nodup) (hb : ∀ p ∈ l, p < m) : l.length ≤ m := by
  have := nodup_sub h (l' := List.range m) fun p hp => List.mem_range.mpr (hb p hp)
  rwa [List.length_range] at this
theorem nodup_map {α β : Type} {f : α → β} (hf : ∀ a b, f a = f b → a = b) : ∀ {l : List α}, l.Nodup → (l.map f).Nodup
  | [], _ => .nil
  | a :: l, h => by
    rw [List.nodup_cons] at h
    rw [List.map_cons, List.nodup_cons]
    refine ⟨fun hm => ?_, nodup_map hf h.2⟩
    obtain ⟨b, hb, e⟩ := List.mem_map.mp hm
    exact h.1 (by rw [← hf b a e]; exact hb)
end KM
/-! text KP0 -/
set_option Elab.async false
set_option linter.all false
set_option maxRecDepth 100000
set_option maxHeartbeats 4000000
/-! Paths and words, by the steps alone. -/
namespace KM
/-- a way along the steps, with the word it reads -/
inductive Path {α : Type} (st : List (α × List Nat × α)) : α → List Nat → α → Prop
  | nil (p : α) : Path st p [] p
  | cons {p q r : α} {sg : List Nat} {c : Nat} {w : List Nat} (h : (p, sg, q) ∈ st) (hc : c ∈ sg) (t : Path st q w r) : Path st p (c :: w) r
/-- the word is accepted -/
def Acc {α : Type} (b : List α) (st : List (α × List Nat × α)) (e : List α) (w : List Nat) : Prop := ∃ p ∈ b, ∃ q ∈ e, Path st p w q
def Mch.Acc (M : Mch) (w : List Nat) : Prop := KM.Acc M.begins M.steps M.ends w
section
variable {α : Type} {st : List (α × List Nat × α)} {p q r : α} {w v : List Nat} {c : Nat}
theorem path_nil_iff : Path st p [] r ↔ p = r := ⟨fun h => by cases h; rfl, fun h => by rw [h]; exact .nil r⟩
theorem path_cons_iff : Path st p (c :: w) r ↔ ∃ sg q, (p, sg, q) ∈ st ∧ c ∈ sg ∧ Path st q w r := ⟨fun h => by cases h with | cons h hc t => exact ⟨_, _, h, hc, t⟩, fun ⟨_, _, h, hc, t⟩ => .cons h hc t⟩
theorem Path.append (h : Path st p w q) (k : Path st q v r) : Path st p (w ++ v) r := by
  induction h with
  | nil _ => exact k
  | cons h hc _ ih => exact .cons h hc (ih k)
theorem path_append : ∀ {w : List Nat} {p : α}, Path st p (w ++ v) r → ∃ q, Path st p w q ∧ Path st q v r
  | [], p, h => ⟨p, .nil p, h⟩
  | c :: w, p, h => by
    obtain ⟨sg, q, h1, h2, h3⟩ := path_cons_iff.mp h
    obtain ⟨z, a, b⟩ := path_append h3
    exact ⟨z, .cons h1 h2 a, b⟩
theorem path_snoc : Path st p (w ++ [c]) r ↔ ∃ q sg, Path st p w q ∧ (q, sg, r) ∈ st ∧ c ∈ sg := by
  constructor
  · intro h
    obtain ⟨q, a, b⟩ := path_append h
    obtain ⟨sg, z, h1, h2, h3⟩ := path_cons_iff.mp b
    cases h3
    exact ⟨q, sg, a, h1, h2⟩
  · rintro ⟨q, sg, a, h1, h2⟩
    exact a.append (.cons h1 h2 (.nil r))
end
theorem mem_onw {M : Mch} {p q : Nat} {sg : List Nat} : (sg, q) ∈ M.onw p ↔ (p, sg, q) ∈ M.steps := by
  unfold Mch.onw
  rw [List.mem_map]
  constructor
  · rintro ⟨⟨a, b, c⟩, h, e⟩
    obtain ⟨h1, h2⟩ := List.mem_filter.mp h
    have : a = p := of_decide_eq_true h2
    subst this
    cases e
    exact h1
  · intro h
    exact ⟨(p, sg, q), List.mem_filter.mpr ⟨h, decide_eq_true rfl⟩, rfl⟩
end KM
/-! text KW8 -/
set_option Elab.async false
set_option linter.all false
set_option maxRecDepth 100000
set_option maxHeartbeats 4000000
namespace KM
open PySem PySem.Spec PyProof.Rows L2
/-- a dict from places to positive counts -/
structure DP (kvs : List (L2.Key × V)) (many : Nat) (S : Nat → Prop) : Prop where
  nd : (kvs.map (·.1)).Nodup
  ky : ∀ kv ∈ kvs, ∃ p n : Nat, kv = (Sum.inl (p : Int), V.int (n : Int)) ∧ 0 < n ∧ p < many
  iff : ∀ p : Nat, S p ↔ (Sum.inl (p : Int) : L2.Key) ∈ kvs.map (·.1)
theorem inl_inj {p q : Nat} (h : (Sum.inl (p : Int) : L2.Key) = Sum.inl (q : Int)) : p = q := by
  have := Sum.inl.inj h
  omega
theorem DP.congr {kvs : List (L2.Key × V)} {many : Nat} {S S' : Nat → Prop} (h : DP kvs many S) (e : ∀ p, S p ↔ S' p) : DP kvs many S' := ⟨h.nd, h.ky, fun p => (e p).symm.trans (h.iff p)⟩
theorem DP.put {kvs : List (L2.Key × V)} {many : Nat} {S : Nat → Prop} (h : DP kvs many S) {q n : Nat} (hq : q < many) (hn : 0 < n) : DP (putK kvs (Sum.inl (q : Int)) (V.int (n : Int))) many (fun p => S p ∨ p = q) := by
  refine ⟨putK_nd _ _ h.nd, fun kv hm => ?_, fun p => ?_⟩
  · rcases putK_mem hm with e | hm
    · exact ⟨q, n, e, hn, hq⟩
    · exact h.ky kv hm
  · rw [putK_memk, h.iff p]
    constructor
    · rintro (e | e)
      · exact .inr e
      · exact .inl (by rw [e])
    · rintro (e | e)
      · exact .inr (inl_inj e)
      · exact .inl e
theorem DP.val {kvs : List (L2.Key × V)} {many : Nat} {S : Nat → Prop} (h : DP kvs many S) (p : Nat) : (∃ n : Nat, 0 < n ∧ valV kvs (Sum.inl (p : Int)) = some (V.int (n : Int)) ∧ S p) ∨ (valV kvs (Sum.inl (p : Int)) = none ∧ ¬ S p) := by
  cases e : valV kvs (Sum.inl (p : Int)) with
  | none => exact .inr ⟨rfl, fun s => by
      have := (valV_keys _ _).mpr ((h.iff p).mp s)
      rw [e] at this
      cases this⟩
  | some v =>
    obtain ⟨p', n, e1, e2, e3⟩ := h.ky _ (valV_mem e)
    obtain ⟨q1, q2⟩ := Prod.mk.inj e1
    exact .inl ⟨n, e2, by rw [q2], (h.iff p).mpr ((valV_keys _ _).mp (by rw [e]; rfl))⟩
theorem DP.len {kvs : List (L2.Key × V)} {many : Nat} {S : Nat → Prop} (h : DP kvs many S) : kvs.length ≤ many := by
  have := nodup_sub h.nd (l' := (List.range many).map fun p : Nat => (Sum.inl (p : Int) : L2.Key)) fun k hk => by
    obtain ⟨kv, hm, rfl⟩ := List.mem_map.mp hk
    obtain ⟨p, n, rfl, _, hp⟩ := h.ky kv hm
    exact List.mem_map.mpr ⟨p, List.mem_range.mpr hp, rfl⟩
  simpa using this
theorem DP.nil (many : Nat) : DP [] many (fun _ => False) := ⟨.nil, (fun _ h => by cases h), fun p => ⟨(fun h => h.elim), (fun h => by cases h)⟩⟩
/-- the ways on from a key -/
def onwK (M : Mch) : L2.Key → List (List Nat × Nat)
  | .inl i => M.onw i.toNat
  | .inr _ => []
section
variable {P : Program} {w : World} {K : PySem.W.Frag} {mg : Str → Option Value} {base : Heap}
def spRuns (C : Addr) : Sp := fun vs H Q _ => ∃ (x : Addr) (M : Mch) (t : List Nat), vs = [.ref x, sV t] ∧ MachAt C H x M ∧ M.WF ∧ ∀ (n : Int) H', Same H H' → (0 < n ↔ M.Acc t) → Q (.int n) H'
abbrev nmRuns : List Str := ["machine", "text", "place", "here", "sign", "there", "times", "signs", "other"]
theorem scRuns : FnScope nmRuns ["machine", "text"] (defScope sRuns) := ⟨rfl, rfl, rfl, by decide +kernel, rfl, by decide +kernel, by decide +kernel⟩
theorem ok_runs {C f fi : Addr} {fd : FuncData} (F : FnP K "runs" "runs" sRuns f fd) (B : Bi mg) (T : MC K mg C fi) : FnOk P w K mg base CX0 1 f fd ["machine", "text"] (spRuns C) := by
  refine F.okP scRuns (fun vs H Q E h => ?_) (fun cdv A outer s H vs Q E hr h => ?_)
  · obtain ⟨x, M, t, rfl, _⟩ := h
    rfl
  · obtain ⟨x, M, t, rfl, hM, wf, q⟩ := h
    refine ⟨_, pss_cons (ps_set (i := 3) scRuns.nd rfl (.inr rfl) (pe_dcK (own := [("place", 2)]) (g := gName 2) (tt := tYes) (by exact Nat.lt_of_le_of_lt (Nat.le_add_right _ _) (hu64 hr)) rfl scRuns.nd (pi_tup (pe_fld (pv 0) rfl))
        (blkOk_by (N := nmRuns) (sc := defScope sRuns) (by decide +kernel)) (fun _ _ _ _ _ => pg_name (i := 2) scRuns.nd rfl (.inl rfl)) (fun _ _ _ _ _ => pts_nil) (fun _ _ _ _ _ => pv 2) (fun _ _ _ _ _ => pe_int)))
      (pss_cons (ps_for PassesOwn.never rfl (pi_str (pv 1)) (pg_name (i := 4) scRuns.nd rfl (.inl rfl))
        (pss_cons (ps_set (i := 5) scRuns.nd rfl (.inl rfl) pe_dnewK)
        (pss_cons (ps_lock (ps_for PassesOwn.never rfl (pi_items (pv 3)) (pg_tup rfl (pgs_cons (pg_name (i := 2) scRuns.nd rfl (.inl rfl)) (pgs_cons (pg_name (i := 6) scRuns.nd rfl (.inl rfl)) pgs_nil)))
          (pss_one (ps_for PassesOwn.never rfl (pi_list (pe_ix ix_list (pe_fld (pv 0) rfl) (pv 2) (fun _ _ => rfl))) (pg_tup rfl (pgs_cons (pg_name (i := 7) scRuns.nd rfl (.inl rfl)) (pgs_cons (pg_name (i := 8) scRuns.nd rfl (.inl rfl)) pgs_nil)))
            (pss_one (ps_if (pt_cmpR op_in_sign (pv 4) (pv 7) rfl) (pss_one (ps_dput (by exact Nat.lt_of_le_of_lt (Nat.add_le_add_left (by decide) _) (hu64 hr)) (pv 5) (pv 8) (pe_op op_add (pe_dget2 (by exact Nat.lt_of_le_of_lt (Nat.add_le_add_left (by decide) _) (hu64 hr)) (pv 5) (pv 8) pe_int ⟨rfl, rfl, rfl, rfl⟩) (pv 6)) rfl)) pss_nil))))))
        (pss_one (ps_set (i := 3) scRuns.nd rfl (.inr rfl) (pv 5))))))
      (pss_one (ps_ret (pe_callB (cr_sum rfl) (by rfl) B.sum (by decide +kernel) (pa_cons (pe_lc (own := [("place", 2)]) (g := gName 2) (tt := tYes) rfl scRuns.nd (pi_tup (pe_fld (pv 0) rfl))
        (blkOk_by (N := nmRuns) (sc := defScope sRuns) (by decide +kernel)) (fun _ _ _ _ _ => pg_name (i := 2) scRuns.nd rfl (.inl rfl)) (fun _ _ _ _ _ => pts_nil)
        (fun _ _ _ _ _ => pe_dget2 (by exact Nat.lt_of_le_of_lt (Nat.add_le_add_left (by decide) _) (hu64 hr)) (pv 3) (pv 2) pe_int ⟨rfl, rfl, rfl, rfl⟩)) pa_nil))))), ?_⟩
    obtain ⟨dx, tb, ts, te, lo, sv, las, h1, h2, h3, h4, h5, h6, h7, h8⟩ := hM.ex
    have bl : M.begins.length ≤ M.many := rise_len wf.bRise wf.bLt
    have el : M.ends.length ≤ M.many := rise_len wf.eRise wf.eLt
    have m1000 := wf.mLe
    have line : (1000 : Nat) < sizeLine := by decide
    refine ⟨_, rfl, x, C, dx, _, _, rfl, h1, T.cl, T.nBegins, mf_begins _ _ _ _ _, tb, rfl, ⟨_, .inl (.inl h2)⟩, fun D hD => ?_⟩
    refine dk_map hD (walk_tup (xs := M.begins.map nV)) (fun _ s1 => .inl (.inl (s1 _ _ h2))) (fun i => (M.begins.take i).map fun p : Nat => (Sum.inl (p : Int), V.int 1)) rfl (fun i _ => by rw [List.length_map, List.length_take]; omega) (fun i y Hc H' Post Skip hi sc hy k1 k2 => ?_) (fun H1 s1 hD1 => ?_)
    · obtain ⟨rfl, hy⟩ := hy
      rw [List.getElem?_map] at hy
      cases hp : M.begins[i]? with
      | none => rw [hp] at hy; cases hy
      | some p =>
        rw [hp] at hy
        cases hy
        refine ⟨rfl, _, rfl, ?_⟩
        refine k1 (Sum.inl (p : Int)) _ _ (Same.refl _) ?_
        rw [putK_new, List.take_succ, hp, List.map_append]
        · rfl
        · refine valV_none fun hm => ?_
          rw [List.map_map] at hm
          obtain ⟨p', hp', e⟩ := List.mem_map.mp hm
          have e : p' = p := inl_inj e
          rw [e] at hp'
          obtain ⟨j, hj, ej⟩ := List.mem_iff_getElem.mp hp'
          rw [List.getElem_take] at ej
          rw [List.length_take] at hj
          obtain ⟨hi2, ei⟩ := List.getElem?_eq_some_iff.mp hp
          have := List.pairwise_iff_getElem.mp wf.bRise j i (by omega) hi2 (by omega)
          omega
    · -- the loop over the text
      have dp0 : DP ((M.begins.take (M.begins.map nV).length).map fun p : Nat => ((Sum.inl (p : Int) : L2.Key), V.int 1)) M.many (fun p => p ∈ M.begins) := by
        rw [List.length_map, List.take_length]
        refine ⟨?_, fun kv hm => ?_, fun p => ?_⟩
        · rw [List.map_map]
          exact nodup_map (f := fun p : Nat => (Sum.inl (p : Int) : L2.Key)) (fun a b e => inl_inj e) (wf.bRise.imp fun h => Nat.ne_of_lt h)
        · obtain ⟨p, hp, rfl⟩ := List.mem_map.mp hm
          exact ⟨p, 1, rfl, Nat.one_pos, wf.bLt p hp⟩
        · rw [List.map_map]
          constructor
          · exact fun h => List.mem_map.mpr ⟨p, h, rfl⟩
          · intro h
            obtain ⟨p', h', e⟩ := List.mem_map.mp h
            rw [← inl_inj e]
            exact h'
      refine ⟨_, rfl, sS t, rfl, ?_⟩
      refine for_it walk_str (fun i σ Hc => ∃ y2 y4 y5 y6 y7 y8 Da kvs, σ = [some (.ref x), some (sV t), y2, some (.ref Da), y4, y5, y6, y7, y8] ∧ Same H Hc ∧ H Da = none ∧ Hc Da = some (.dK kvs) ∧ DP kvs M.many (fun p => ∃ b ∈ M.begins, Path M.steps b (t.take i) p))
        ⟨none, none, none, none, none, none, D, _, rfl, s1, hD, hD1, dp0.congr fun p => ⟨fun h => ⟨p, h, .nil p⟩, fun ⟨b, hb, hp⟩ => by cases hp; exact hb⟩⟩ (fun _ _ _ _ _ => trivial) ?_ ?_
      · rintro i v σ Hc Hc' hi ⟨y2, y4, y5, y6, y7, y8, Da, kvs, rfl, sc, hDn, hDa, dp⟩ ⟨rfl, c, hc, rfl⟩
        have hti : t[i]? = some c := by
          have e2 : t.toArray[i]? = some c := hc
          simpa using e2
        have kl := dp.len
        refine fun Tn hTn => ?_
        have hTD : Tn ≠ Da := fun e => by
          rw [e, hDa] at hTn
          cases hTn
        have HTn : H Tn = none := by
          cases z : H Tn with
          | none => rfl
          | some o =>
            rw [sc _ _ z] at hTn
            cases hTn
        have hDa2 : upd Hc' Tn (.dK []) Da = some (.dK kvs) := by rw [upd_ne hTD.symm]; exact hDa
        refine ⟨Da, .dK kvs, hDa2, trivial, fun od => ?_⟩
        have s3 : Same H (upd (upd Hc' Tn (.dK [])) Da (.frz od (.dK kvs))) := same_new (same_new sc HTn) hDn
        refine ⟨_, rfl, Da, od, kvs, rfl, upd_same, ?_⟩
        refine for_it walk_items (fun j σ Hx => ∃ z2 z6 z7 z8 kvt, σ = [some (.ref x), some (sV t), z2, some (.ref Da), some (.str ⟨#[c]⟩), some (.ref Tn), z6, z7, z8] ∧ Same H Hx ∧ Hx Da = some (.frz od (.dK kvs)) ∧ Hx Tn = some (.dK kvt) ∧
          DP kvt M.many (fun p => ∃ e ∈ (kvs.take j).flatMap (fun kv => onwK M kv.1), c ∈ e.1 ∧ e.2 = p)) ⟨_, _, _, _, [], rfl, s3, upd_same, by rw [upd_ne hTD, upd_same], (DP.nil _).congr fun p => by simp⟩ (fun _ _ _ _ ⟨_, _, _, _, _, _, _, z, _⟩ => z) ?_ ?_
        · rintro j v σ Hx Hx' hj ⟨z2, z6, z7, z8, kvt, rfl, sx, hxD, hxT, dpt⟩ ⟨pa, k, y, rfl, hpa, rfl, hk, hy⟩
          simp only at hk hy
          cases hkv : kvs[j]? with
          | none => rw [hkv] at hk; cases hk
          | some kv =>
            rw [hkv] at hk hy
            obtain ⟨p, n, rfl, hn, hp⟩ := dp.ky kv (List.mem_of_getElem? hkv)
            cases hk
            cases hy
            have HpaN : H pa = none := by
              cases z : H pa with
              | none => rfl
              | some o =>
                rw [sx _ _ z] at hpa
                cases hpa
            have sx' : Same H (upd Hx pa (.tup [V.int (p : Int), V.int (n : Int)])) := same_new sx HpaN
            have hpl : p < las.length := by rw [h7]; exact hp
            have hla : las[p]? = some las[p] := List.getElem?_eq_getElem hpl
            obtain ⟨ov, o1, o2⟩ := h8 p las[p] hla
            refine ⟨pa, _, rfl, .inl (.inl upd_same), rfl, _, _, rfl, _, _, rfl, rfl, ?_⟩
            refine ⟨_, rfl, x, C, dx, _, _, rfl, sx' _ _ h1, T.cl, T.nOnward, mf_onward _ _ _ _ _, _, rfl, lo, _, (p : Int), .ref las[p], rfl, rfl, .inl (.inl (sx' _ _ h6)), atI_nat (by rw [List.getElem?_map, hla]; rfl), las[p], rfl, ⟨_, .inl (.inl (sx' _ _ o1))⟩, ?_⟩
            have naD : pa ≠ Da := fun e => by
              rw [e, hxD] at hpa
              cases hpa
            have naT : pa ≠ Tn := fun e => by
              rw [e, hxT] at hpa
              cases hpa
            refine for_it (walk_list (xs := ov)) (fun k σ Hy => ∃ z7 z8 kvt, σ = [some (.ref x), some (sV t), some (.int (p : Int)), some (.ref Da), some (.str ⟨#[c]⟩), some (.ref Tn), some (.int (n : Int)), z7, z8] ∧ Same H Hy ∧ Hy Da = some (.frz od (.dK kvs)) ∧ Hy Tn = some (.dK kvt) ∧
              DP kvt M.many (fun p' => ∃ e ∈ (kvs.take j).flatMap (fun kv => onwK M kv.1) ++ (M.onw p).take k, c ∈ e.1 ∧ e.2 = p'))
              ⟨_, _, kvt, rfl, sx', by rw [upd_ne naD.symm]; exact hxD, by rw [upd_ne naT.symm]; exact hxT, by simpa using dpt⟩ (fun _ _ _ _ ⟨_, _, _, _, sy, _⟩ => .inl (.inl (sy _ _ o1))) ?_ ?_
            · rintro k v σ Hy Hy' hk ⟨z7, z8, kvt', rfl, sy, hyD, hyT, dpt'⟩ ⟨rfl, hv⟩
              obtain ⟨⟨sg, q'⟩, e2, u, rfl, hu⟩ := paired_get o2 hv
              have hu' := sy _ _ hu
              have hmem : (p, sg, q') ∈ M.steps := mem_onw.mp (List.mem_of_getElem? e2)
              have okS := wf.st.each _ hmem
              have ext : (M.onw p).take (k + 1) = (M.onw p).take k ++ [(sg, q')] := by
                rw [List.take_succ, e2]
                rfl
              refine ⟨u, _, rfl, .inl (.inl hu'), rfl, _, _, rfl, _, _, rfl, rfl, ?_⟩
              refine ⟨_, rfl, _, rfl, c, sS sg, rfl, rfl, _, rfl, ?_⟩
              rw [sS_cps]
              by_cases hcs : c ∈ sg
              · rw [decide_eq_true hcs]
                refine iteT ?_
                refine ⟨_, rfl, Tn, rfl, .inl ⟨_, .inl hyT⟩, _, rfl, _, DGet.k (k := Sum.inl (q' : Int)) hyT, _, rfl, ?_⟩
                have kl' := dpt'.len
                have fin : ∀ n' : Nat, 0 < n' → ∃ z7 z8 kvt, [some (.ref x), some (sV t), some (.int (p : Int)), some (.ref Da), some (.str ⟨#[c]⟩), some (.ref Tn), some (.int (n : Int)), some (sV sg), some (nV q')] = [some (.ref x), some (sV t), some (V.int (p : Int)), some (.ref Da), some (.str ⟨#[c]⟩), some (.ref Tn), some (.int (n : Int)), z7, z8] ∧
                    Same H (upd Hy' Tn (.dK (putK kvt' (Sum.inl (q' : Int)) (.int (n' : Int))))) ∧ upd Hy' Tn (.dK (putK kvt' (Sum.inl (q' : Int)) (.int (n' : Int)))) Da = some (.frz od (.dK kvs)) ∧ upd Hy' Tn (.dK (putK kvt' (Sum.inl (q' : Int)) (.int (n' : Int)))) Tn = some (.dK kvt) ∧
                    DP kvt M.many (fun p' => ∃ e ∈ (kvs.take j).flatMap (fun kv => onwK M kv.1) ++ (M.onw p).take (k + 1), c ∈ e.1 ∧ e.2 = p') := fun n' hn' => by
                  refine ⟨_, _, _, rfl, same_new sy HTn, by rw [upd_ne hTD.symm]; exact hyD, upd_same, (dpt'.put okS.l2 hn').congr fun p' => ?_⟩
                  rw [ext, ← List.append_assoc]
                  constructor
                  · rintro (⟨e, he, hce⟩ | rfl)
                    · exact ⟨e, List.mem_append_left _ he, hce⟩
                    · exact ⟨(sg, p'), List.mem_append_right _ List.mem_cons_self, hcs, rfl⟩
                  · rintro ⟨e, he, hce⟩
                    rcases List.mem_append.mp he with he | he
                    · exact .inl ⟨e, he, hce⟩
                    · rw [List.mem_singleton.mp he] at hce
                      exact .inr hce.2.symm
                rcases dpt'.val q' with ⟨n', hn', ev, _⟩ | ⟨ev, _⟩
                · rw [ev]
                  refine ⟨_, _, rfl, rfl, _, rfl, _, rfl, Tn, _, rfl, DPut.k (k := Sum.inl (q' : Int)) hyT (by omega), ?_⟩
                  have := fin (n' + n) (by omega)
                  rw [Int.natCast_add] at this
                  exact this
                · rw [ev]
                  refine ⟨_, _, rfl, rfl, _, rfl, _, rfl, Tn, _, rfl, DPut.k (k := Sum.inl (q' : Int)) hyT (by omega), ?_⟩
                  have := fin n hn
                  simp only [Int.zero_add]
                  exact this
              · rw [decide_eq_false hcs]
                refine iteF ⟨_, _, kvt', rfl, sy, hyD, hyT, dpt'.congr fun p' => ?_⟩
                rw [ext, ← List.append_assoc]
                constructor
                · rintro ⟨e, he, hce⟩
                  exact ⟨e, List.mem_append_left _ he, hce⟩
                · rintro ⟨e, he, hce⟩
                  rcases List.mem_append.mp he with he | he
                  · exact ⟨e, he, hce⟩
                  · rw [List.mem_singleton.mp he] at hce
                    exact absurd hce.1 hcs
            · rintro σ Hy ⟨z7, z8, kvt', rfl, sy, hyD, hyT, dpt'⟩
              refine ⟨_, _, _, _, kvt', rfl, sy, hyD, hyT, dpt'.congr fun p' => ?_⟩
              have e1 : ov.length = (M.onw p).length := Paired.length o2
              rw [e1, List.take_length, List.take_succ, hkv, List.flatMap_append]
              show (∃ e ∈ _ ++ M.onw p, _) ↔ ∃ e ∈ _ ++ [((Sum.inl (p : Int) : L2.Key), V.int (n : Int))].flatMap _, _
              rw [List.flatMap_singleton]
              rfl
        · rintro σ Hx ⟨z2, z6, z7, z8, kvt, rfl, sx, hxD, hxT, dpt⟩
          refine ⟨hxD, _, rfl, ?_⟩
          refine ⟨_, _, _, _, _, _, Tn, kvt, rfl, same_new sx hDn, HTn, by rw [upd_ne hTD]; exact hxT, dpt.congr fun p => ?_⟩
          rw [List.take_length, List.take_succ, hti]
          show _ ↔ ∃ b ∈ M.begins, Path M.steps b (t.take i ++ [c]) p
          constructor
          · rintro ⟨⟨sg, q'⟩, he, hcs, rfl⟩
            obtain ⟨kv, hkv, he⟩ := List.mem_flatMap.mp he
            obtain ⟨p', n', rfl, _, _⟩ := dp.ky kv hkv
            obtain ⟨b, hb, hpa⟩ := (dp.iff p').mpr (List.mem_map.mpr ⟨_, hkv, rfl⟩)
            exact ⟨b, hb, path_snoc.mpr ⟨p', sg, hpa, mem_onw.mp he, hcs⟩⟩
          · rintro ⟨b, hb, hpa⟩
            obtain ⟨p', sg, h1', h2', h3'⟩ := path_snoc.mp hpa
            obtain ⟨kv, hkv, e⟩ := List.mem_map.mp ((dp.iff p').mp ⟨b, hb, h1'⟩)
            refine ⟨(sg, p), List.mem_flatMap.mpr ⟨kv, hkv, ?_⟩, h3', rfl⟩
            rw [e]
            exact mem_onw.mpr h2'
      · rintro σ Hc ⟨y2, y4, y5, y6, y7, y8, Da, kvs, rfl, sc, hDn, hDa, dp⟩
        have et : t.take (sS t).cps.size = t := by
          show t.take t.toArray.size = t
          rw [List.size_toArray, List.take_length]
        rw [et] at dp
        refine ⟨_, rfl, x, C, dx, _, _, rfl, sc _ _ h1, T.cl, T.nEnds, mf_ends _ _ _ _ _, te, rfl, ⟨_, .inl (.inl (sc _ _ h5))⟩, fun E hE => ?_⟩
        have HE : H E = none := by
          cases z : H E with
          | none => rfl
          | some o =>
            rw [sc _ _ z] at hE
            cases hE
        refine lc_map hE (β := Int) (fun _ v b => v = .int b) (fun _ _ _ _ _ z => z) (walk_tup (xs := M.ends.map nV)) (fun _ s1 => .inl (.inl (s1 _ _ (sc _ _ h5)))) (fun i => (M.ends.take i).map fun p : Nat => match valV kvs (Sum.inl (p : Int)) with | some (.int n) => n | _ => 0) rfl (by rw [List.length_map]; omega)
          (fun i y Hd H' Post Skip hi sd hy k1 k2 => ?_) (fun H' acc s2 ha hp => ?_)
        · obtain ⟨rfl, hy⟩ := hy
          rw [List.getElem?_map] at hy
          cases hp : M.ends[i]? with
          | none => rw [hp] at hy; cases hy
          | some p =>
            rw [hp] at hy
            cases hy
            have hDd := sd _ _ hDa
            refine ⟨rfl, _, rfl, Da, rfl, .inl ⟨_, .inl hDd⟩, _, rfl, _, DGet.k (k := Sum.inl (p : Int)) hDd, ?_⟩
            have ext : (M.ends.take (i + 1)).map (fun p : Nat => match valV kvs (Sum.inl (p : Int)) with | some (.int n) => n | _ => 0) = (M.ends.take i).map (fun p : Nat => match valV kvs (Sum.inl (p : Int)) with | some (.int n) => n | _ => 0) ++ [match valV kvs (Sum.inl (p : Int)) with | some (.int n) => n | _ => 0] := by
              rw [List.take_succ, hp, List.map_append]
              rfl
            refine k1 _ _ _ (Same.refl _) ?_ ext
            rcases dp.val p with ⟨n', hn', ev, _⟩ | ⟨ev, _⟩
            · rw [ev]
              rfl
            · rw [ev]
              rfl
        · have hacc : acc = ((M.ends.take (M.ends.map nV).length).map fun p : Nat => match valV kvs (Sum.inl (p : Int)) with | some (.int n) => n | _ => (0 : Int)).map V.int := by
            clear ha
            generalize ((M.ends.take (M.ends.map nV).length).map fun p : Nat => match valV kvs (Sum.inl (p : Int)) with | some (.int n) => n | _ => (0 : Int)) = L at hp
            induction hp with
            | nil => rfl
            | cons r _ ih => rw [r, ih] <;> rfl
          rw [hacc] at ha
          refine ⟨E, _, rfl, .inl (.inl ha), q _ H' (sc.trans s2) ?_⟩
          rw [List.length_map, List.take_length]
          have key : ∀ L : List Nat, 0 ≤ (L.map fun p : Nat => match valV kvs (Sum.inl (p : Int)) with | some (.int n) => n | _ => (0 : Int)).sum ∧ (0 < (L.map fun p : Nat => match valV kvs (Sum.inl (p : Int)) with | some (.int n) => n | _ => (0 : Int)).sum ↔ ∃ p ∈ L, ∃ b ∈ M.begins, Path M.steps b t p) := by
            intro L
            induction L with
            | nil => exact ⟨Int.le_refl _, fun h => absurd h (Int.lt_irrefl 0), (fun ⟨_, h, _⟩ => by cases h)⟩
            | cons p L ih =>
              obtain ⟨i1, i2⟩ := ih
              rw [List.map_cons, List.sum_cons]
              rcases dp.val p with ⟨n', hn', ev, hs⟩ | ⟨ev, hs⟩
              · rw [ev]
                refine ⟨by simp only; omega, fun _ => ⟨p, List.mem_cons_self, hs⟩, fun _ => by simp only; omega⟩
              · rw [ev]
                refine ⟨by simp only; omega, fun h => ?_, fun ⟨p', h1', h2'⟩ => ?_⟩
                · obtain ⟨p', h1', h2'⟩ := i2.mp (by simp only at h; omega)
                  exact ⟨p', List.mem_cons_of_mem _ h1', h2'⟩
                · rcases List.mem_cons.mp h1' with rfl | h1'
                  · exact absurd h2' hs
                  · have := i2.mpr ⟨p', h1', h2'⟩
                    simp only
                    omega
          rw [(key M.ends).2]
          exact ⟨fun ⟨p, hp, b, hb, z⟩ => ⟨b, hb, p, hp, z⟩, fun ⟨b, hb, p, hp, z⟩ => ⟨p, hp, b, hb, z⟩⟩
end
end KM
/-! text KP1 -/
set_option Elab.async false
set_option linter.all false
set_option maxRecDepth 100000
set_option maxHeartbeats 4000000
/-! Distances to the ends, level by level; the least word. -/
namespace KM
/-- the places from which a step leads to q -/
def preds (M : Mch) (q : Nat) : List Nat := (M.steps.filter fun s => decide (s.2.2 = q)).map fun s => s.1
theorem mem_preds {M : Mch} {p q : Nat} : p ∈ preds M q ↔ ∃ sg, (p, sg, q) ∈ M.steps := by
  unfold preds
  rw [List.mem_map]
  constructor
  · rintro ⟨⟨a, b, c⟩, h, rfl⟩
    obtain ⟨h1, h2⟩ := List.mem_filter.mp h
    have : c = q := of_decide_eq_true h2
    subst this
    exact ⟨b, h1⟩
  · rintro ⟨sg, h⟩
    exact ⟨(p, sg, q), List.mem_filter.mpr ⟨h, decide_eq_true rfl⟩, rfl⟩
/-- a word from p to an end -/
def Out (M : Mch) (p : Nat) (w : List Nat) : Prop := ∃ q ∈ M.ends, Path M.steps p w q
/-- what the distances are -/
structure LeftOk (M : Mch) (rows : List (Nat × Nat)) : Prop where
  nd : (rows.map (·.1)).Nodup
  lt : ∀ r ∈ rows, r.1 < M.many
  path : ∀ r ∈ rows, ∃ w, w.length = r.2 ∧ Out M r.1 w
  least : ∀ p w, Out M p w → ∃ d, (p, d) ∈ rows ∧ d ≤ w.length
  bnd : ∀ r : Nat × Nat, r ∈ rows → r.2 < rows.length
structure BI (M : Mch) (rows : List (Nat × Nat)) (at_ k : Nat) : Prop where
  nd : (rows.map (·.1)).Nodup
  lt : ∀ r ∈ rows, r.1 < M.many
  ends : ∀ e ∈ M.ends, (e, 0) ∈ rows
  path : ∀ r ∈ rows, ∃ w, w.length = r.2 ∧ Out M r.1 w
  mono : rows.Pairwise (fun a b => a.2 ≤ b.2)
  near : ∀ c, rows[at_]? = some c → ∀ r ∈ rows, r.2 ≤ c.2 + 1
  clos : ∀ i c, i < at_ → rows[i]? = some c → ∀ p ∈ preds M c.1, ∃ d, (p, d) ∈ rows ∧ d ≤ c.2 + 1
  part : ∀ c, rows[at_]? = some c → ∀ p ∈ (preds M c.1).take k, ∃ d, (p, d) ∈ rows ∧ d ≤ c.2 + 1
  idx : ∀ (i : Nat) (r : Nat × Nat), rows[i]? = some r → r.2 ≤ i
theorem BI.start {M : Mch} (wf : M.WF) : BI M (M.ends.map fun e => (e, 0)) 0 0 := by
  refine ⟨?_, fun r hr => ?_, fun e he => List.mem_map.mpr ⟨e, he, rfl⟩, fun r hr => ?_, ?_, fun c hc r hr => ?_, fun i c hi => absurd hi (Nat.not_lt_zero _), fun c hc p hp => by simp at hp, fun i r hr => ?_⟩
  · rw [List.map_map]
    exact nodup_map (f := fun e => e) (fun a b e => e) (wf.eRise.imp fun h => Nat.ne_of_lt h)
  · obtain ⟨e, he, rfl⟩ := List.mem_map.mp hr
    exact wf.eLt e he
  · obtain ⟨e, he, rfl⟩ := List.mem_map.mp hr
    exact ⟨[], rfl, e, he, .nil e⟩
  · rw [List.pairwise_map]
    exact wf.eRise.imp fun _ => Nat.le_refl 0
  · obtain ⟨e, he, rfl⟩ := List.mem_map.mp hr
    exact Nat.zero_le _
  · obtain ⟨e, he, rfl⟩ := List.mem_map.mp (List.mem_of_getElem? hr)
    exact Nat.zero_le _
theorem BI.skip {M : Mch} {rows : List (Nat × Nat)} {i k p : Nat} {c : Nat × Nat} (b : BI M rows i k) (hc : rows[i]? = some c) (hp : (preds M c.1)[k]? = some p) (hin : p ∈ rows.map (·.1)) : BI M rows i (k + 1) := by
  refine { b with part := fun c' hc' p' hp' => ?_ }
  rw [hc] at hc'
  cases hc'
  rw [List.take_succ, hp] at hp'
  rcases List.mem_append.mp hp' with h | h
  · exact b.part c hc p' h
  · have e : p' = p := by simpa using h
    subst e
    obtain ⟨⟨a, d⟩, hr, rfl⟩ := List.mem_map.mp hin
    exact ⟨d, hr, b.near c hc _ hr⟩
theorem BI.add {M : Mch} (wf : M.WF) {rows : List (Nat × Nat)} {i k p : Nat} {c : Nat × Nat} (b : BI M rows i k) (hc : rows[i]? = some c) (hp : (preds M c.1)[k]? = some p) (hin : p ∉ rows.map (·.1)) : BI M (rows ++ [(p, c.2 + 1)]) i (k + 1) := by
  have hi : i < rows.length := (List.getElem?_eq_some_iff.mp hc).1
  have hc2 : ∀ r : List (Nat × Nat), (rows ++ r)[i]? = some c := fun r => by rw [List.getElem?_append_left hi]; exact hc
  obtain ⟨sg, hst⟩ := mem_preds.mp (List.mem_of_getElem? hp)
  have okS := wf.st.each _ hst
  refine ⟨?_, fun r hr => ?_, fun e he => List.mem_append_left _ (b.ends e he), fun r hr => ?_, ?_, fun c' hc' r hr => ?_, fun j c' hj hc' p' hp' => ?_, fun c' hc' p' hp' => ?_, fun j r hr => ?_⟩
  · rw [List.map_append, List.nodup_append]
    refine ⟨b.nd, by simp, fun x hx y hy => ?_⟩
    have : y = p := by simpa using hy
    rw [this]
    exact fun e => hin (by rw [← e]; exact hx)
  · rcases List.mem_append.mp hr with h | h
    · exact b.lt r h
    · rw [List.mem_singleton.mp h]
      exact okS.l1
  · rcases List.mem_append.mp hr with h | h
    · exact b.path r h
    · rw [List.mem_singleton.mp h]
      obtain ⟨w, hw, q, hq, pa⟩ := b.path c (List.mem_of_getElem? hc)
      obtain ⟨s, hs⟩ := List.exists_mem_of_ne_nil _ okS.sg.ne
      exact ⟨s :: w, by rw [List.length_cons, hw], q, hq, .cons hst hs pa⟩
  · rw [List.pairwise_append]
    refine ⟨b.mono, by simp, fun x hx y hy => ?_⟩
    rw [List.mem_singleton.mp hy]
    exact b.near c hc x hx
  · rw [hc2] at hc'
    cases hc'
    rcases List.mem_append.mp hr with h | h
    · exact b.near c hc r h
    · rw [List.mem_singleton.mp h]
      exact Nat.le_refl _
  · rw [List.getElem?_append_left (by omega)] at hc'
    obtain ⟨d, h1, h2⟩ := b.clos j c' hj hc' p' hp'
    exact ⟨d, List.mem_append_left _ h1, h2⟩
  · rw [hc2] at hc'
    cases hc'
    rw [List.take_succ, hp] at hp'
    rcases List.mem_append.mp hp' with h | h
    · obtain ⟨d, h1, h2⟩ := b.part c hc p' h
      exact ⟨d, List.mem_append_left _ h1, h2⟩
    · have e : p' = p := by simpa using h
      subst e
      exact ⟨c.2 + 1, List.mem_append_right _ List.mem_cons_self, Nat.le_refl _⟩
  · by_cases hj : j < rows.length
    · rw [List.getElem?_append_left hj] at hr
      exact b.idx j r hr
    · rw [List.getElem?_append_right (by omega)] at hr
      have := List.mem_of_getElem? hr
      rw [List.mem_singleton.mp this]
      have := b.idx i c hc
      simp only
      omega
theorem BI.next {M : Mch} {rows : List (Nat × Nat)} {i : Nat} {c : Nat × Nat} (b : BI M rows i (preds M c.1).length) (hc : rows[i]? = some c) : BI M rows (i + 1) 0 := by
  refine { b with near := fun c' hc' r hr => ?_, clos := fun j c' hj hc' p hp => ?_, part := fun c' hc' p hp => by simp at hp }
  · have h1 := b.near c hc r hr
    obtain ⟨l1, e1⟩ := List.getElem?_eq_some_iff.mp hc
    obtain ⟨l2, e2⟩ := List.getElem?_eq_some_iff.mp hc'
    have h2 := List.pairwise_iff_getElem.mp b.mono i (i + 1) l1 l2 (by omega)
    rw [e1, e2] at h2
    omega
  · by_cases h : j < i
    · exact b.clos j c' h hc' p hp
    · have : j = i := by omega
      subst this
      rw [hc] at hc'
      cases hc'
      exact b.part c hc p (by rw [List.take_length]; exact hp)
theorem BI.done {M : Mch} {rows : List (Nat × Nat)} {i : Nat} (b : BI M rows i 0) (hi : rows.length ≤ i) : LeftOk M rows := by
  refine ⟨b.nd, b.lt, b.path, fun p w => ?_, fun r hr => ?_⟩
  rotate_left
  · obtain ⟨j, hj, ej⟩ := List.mem_iff_getElem.mp hr
    have := b.idx j r (List.getElem?_eq_some_iff.mpr ⟨hj, ej⟩)
    omega
  induction w generalizing p with
  | nil =>
    rintro ⟨q, hq, pa⟩
    cases pa
    exact ⟨0, b.ends _ hq, Nat.le_refl _⟩
  | cons c w ih =>
    rintro ⟨q, hq, pa⟩
    obtain ⟨sg, z, h1, h2, h3⟩ := path_cons_iff.mp pa
    obtain ⟨d, hd, hl⟩ := ih z ⟨q, hq, h3⟩
    obtain ⟨j, hj, ej⟩ := List.mem_iff_getElem.mp hd
    obtain ⟨d', h5, h6⟩ := b.clos j (z, d) (by omega) (List.getElem?_eq_some_iff.mpr ⟨hj, ej⟩) p (mem_preds.mpr ⟨sg, h1⟩)
    exact ⟨d', h5, by rw [List.length_cons]; simp only at h6; omega⟩
/-- the distance is one number -/
theorem LeftOk.uniq {M : Mch} {rows : List (Nat × Nat)} (h : LeftOk M rows) {p d e : Nat} (a : (p, d) ∈ rows) (b : (p, e) ∈ rows) : d = e := by
  have key : ∀ l : List (Nat × Nat), (l.map (·.1)).Nodup → (p, d) ∈ l → (p, e) ∈ l → d = e := by
    intro l
    induction l with
    | nil => intro _ h; cases h
    | cons x l ih =>
      intro nd h1 h2
      rw [List.map_cons, List.nodup_cons] at nd
      rcases List.mem_cons.mp h1 with e1 | h1
      · rcases List.mem_cons.mp h2 with e2 | h2
        · rw [← e1] at e2
          exact (Prod.mk.inj e2).2.symm
        · exact absurd (List.mem_map.mpr ⟨_, h2, by rw [← e1]⟩) nd.1
      · rcases List.mem_cons.mp h2 with e2 | h2
        · exact absurd (List.mem_map.mpr ⟨_, h1, by rw [← e2]⟩) nd.1
        · exact ih nd.2 h1 h2
  exact key rows h.nd a b
theorem LeftOk.le {M : Mch} {rows : List (Nat × Nat)} (h : LeftOk M rows) {p d : Nat} {w : List Nat} (a : (p, d) ∈ rows) (o : Out M p w) : d ≤ w.length := by
  obtain ⟨e, he, hl⟩ := h.least p w o
  rw [h.uniq a he]
  exact hl
/-! ### the least word -/
def lexLe : List Nat → List Nat → Prop
  | [], _ => True
  | _ :: _, [] => False
  | a :: x, b :: y => a < b ∨ (a = b ∧ lexLe x y)
/-- shorter, or as long and no greater -/
def SL (v w : List Nat) : Prop := v.length < w.length ∨ (v.length = w.length ∧ lexLe v w)
theorem lexLe_antisymm : ∀ {v w : List Nat}, v.length = w.length → lexLe v w → lexLe w v → v = w
  | [], [], _, _, _ => rfl
  | [], _ :: _, h, _, _ => by cases h
  | _ :: _, [], h, _, _ => by cases h
  | a :: x, b :: y, h, h1, h2 => by
    rcases h1 with h1 | ⟨rfl, h1⟩
    · rcases h2 with h2 | ⟨e, h2⟩
      · omega
      · omega
    · rcases h2 with h2 | ⟨e, h2⟩
      · omega
      · rw [lexLe_antisymm (by simpa using h) h1 h2]
theorem lexLe_refl : ∀ v : List Nat, lexLe v v
  | [] => trivial
  | _ :: x => .inr ⟨rfl, lexLe_refl x⟩
theorem SL.antisymm {v w : List Nat} (h1 : SL v w) (h2 : SL w v) : v = w := by
  rcases h1 with h1 | ⟨e, h1⟩
  · rcases h2 with h2 | ⟨e, h2⟩ <;> omega
  · rcases h2 with h2 | ⟨_, h2⟩
    · omega
    · exact lexLe_antisymm e h1 h2
def IsLeast (L : List Nat → Prop) (w : List Nat) : Prop := L w ∧ ∀ v, L v → SL w v
theorem IsLeast.uniq {L : List Nat → Prop} {v w : List Nat} (a : IsLeast L v) (b : IsLeast L w) : v = w := (a.2 w b.1).antisymm (b.2 v a.1)
theorem IsLeast.congr {L L' : List Nat → Prop} {w : List Nat} (e : ∀ v, L v ↔ L' v) (a : IsLeast L w) : IsLeast L' w := ⟨(e w).mp a.1, fun v h => a.2 v ((e v).mpr h)⟩
/-- the words from any of the places -/
def OutL (M : Mch) (ps : List Nat) (w : List Nat) : Prop := ∃ p ∈ ps, Out M p w
/-- one turn of least_text -/
structure Near (M : Mch) (rows : List (Nat × Nat)) (ps : List Nat) (c : Nat) (qs : List Nat) : Prop where
  ex : ∃ m, (∀ p ∈ ps, ∀ d, (p, d) ∈ rows → m + 1 ≤ d) ∧ (∀ q, q ∈ qs ↔ ∃ p ∈ ps, (p, m + 1) ∈ rows ∧ ∃ sg, (p, sg, q) ∈ M.steps ∧ c ∈ sg ∧ (q, m) ∈ rows) ∧
    (∀ p ∈ ps, (p, m + 1) ∈ rows → ∀ sg q, (p, sg, q) ∈ M.steps → (q, m) ∈ rows → ∀ d ∈ sg, c ≤ d)
  ne : qs ≠ []
theorem Near.least {M : Mch} {rows : List (Nat × Nat)} {ps qs : List Nat} {c : Nat} {w : List Nat} (h : LeftOk M rows) (n : Near M rows ps c qs) (hp : ∀ p ∈ ps, ∃ d, (p, d) ∈ rows) (hw : IsLeast (OutL M qs) w) : IsLeast (OutL M ps) (c :: w) := by
  obtain ⟨m, h1, h2, h3⟩ := n.ex
  obtain ⟨⟨q, hq, e, he, pa⟩, hl⟩ := hw
  -- the word's length
  have wl : w.length = m := by
    obtain ⟨p, hp', hpm, sg, hst, hc, hqm⟩ := (h2 q).mp hq
    obtain ⟨v, hv, ov⟩ := h.path _ hqm
    have hv : v.length = m := hv
    have a := h.le hqm ⟨e, he, pa⟩
    rcases hl v ⟨q, hq, ov⟩ with z | ⟨z, _⟩ <;> omega
  refine ⟨?_, fun v hv => ?_⟩
  · obtain ⟨p, hp', hpm, sg, hst, hc, hqm⟩ := (h2 q).mp hq
    exact ⟨p, hp', e, he, .cons hst hc pa⟩
  · obtain ⟨p, hp', e', he', pa'⟩ := hv
    obtain ⟨d, hd⟩ := hp p hp'
    have l1 := h.le hd ⟨e', he', pa'⟩
    have l2 := h1 p hp' d hd
    by_cases hlt : (c :: w).length < v.length
    · exact .inl hlt
    · rw [List.length_cons, wl] at hlt
      have hd1 : d = m + 1 := by omega
      have vl : v.length = m + 1 := by omega
      subst hd1
      cases v with
      | nil => cases vl
      | cons b y =>
        obtain ⟨sg, z, hst, hb, pz⟩ := path_cons_iff.mp pa'
        have oz : Out M z y := ⟨e', he', pz⟩
        obtain ⟨dz, hdz, lz⟩ := h.least z y oz
        have yl : y.length = m := by simpa using vl
        -- dz = m
        obtain ⟨u, hu, e2, he2, pu⟩ := h.path _ hdz
        have hu : u.length = dz := hu
        have a := h.le hd ⟨e2, he2, Path.cons hst hb pu⟩
        rw [List.length_cons] at a
        have hdz2 : dz = m := by omega
        subst hdz2
        have cb := h3 p hp' hd sg z hst hdz b hb
        refine .inr ⟨by rw [List.length_cons, List.length_cons, wl, yl], ?_⟩
        by_cases e : c = b
        · subst e
          have hz : z ∈ qs := (h2 z).mpr ⟨p, hp', hd, sg, hst, hb, hdz⟩
          rcases hl y ⟨z, hz, oz⟩ with q1 | ⟨_, q2⟩
          · omega
          · exact .inr ⟨rfl, q2⟩
        · exact .inl (by omega)
end KM
/-! text KC2 -/
set_option Elab.async false
set_option linter.all false
set_option maxRecDepth 100000
set_option maxHeartbeats 4000000
/-! Comprehensions of two clauses whose turns leave all that stood as it was. -/
namespace KM
open PySem PySem.Spec PyProof.Rows L2
section
variable {J : It} {n : Nat} {G : Hp → Prop} {Y : Nat → Hp → V → Hp → Prop} {wi1 : TI} {g g1 : TG} {tt tt1 : TT} {te : TE} {vs vs1 : List Nat} {σ : L2.St} {H1 : Hp} {β : Type}
/-- the list at D so far -/
def Sofar (D : Addr) (Rel : Hp → V → β → Prop) (H1 : Hp) (L : List β) (H : Hp) : Prop := Same H1 H ∧ ∃ acc, H D = some (.lst acc) ∧ Paired (Rel H) acc L
/-- the inner walk of one outer turn: from L to L' -/
def Inner (Rel : Hp → V → β → Prop) (g1 : TG) (tt1 : TT) (te : TE) (vs1 : List Nat) (σ2 : L2.St) (H1 : Hp) (L L' : List β) (J1 : It) (H4 : Hp) : Prop :=
  ∃ (n1 : Nat) (G1 : Hp → Prop) (Y1 : Nat → Hp → V → Hp → Prop) (outs1 : Nat → List β), Walk J1 n1 G1 Y1 ∧ (∀ H', Same H1 H' → TupS H4 H' → G1 H') ∧ outs1 0 = L ∧ outs1 n1 = L' ∧
    ∀ (j : Nat) (y : V) (Hd H' : Hp) (Post : V → Hp → Prop) (Skip : Hp → Prop), j < n1 → Same H1 Hd → TupS H4 Hd → Y1 j Hd y H' → (∀ z H5 d, Same Hd H5 → Rel H5 z d → outs1 (j + 1) = outs1 j ++ [d] → (outs1 j).length < sizeLine → Post z H5) → (∀ H5, Same Hd H5 → outs1 (j + 1) = outs1 j → Skip H5) →
      g1 y (wipe σ2 vs1) H' fun σ3 H5 => wipe σ3 vs1 = wipe σ2 vs1 ∧ tt1 σ3 H5 fun b H6 => if b = true then te σ3 H6 Post else Skip H6
theorem lc2_map {D : Addr} {Qd : Hp → Prop} (hD : H1 D = none) (Rel : Hp → V → β → Prop) (st : TupStable Rel) (w : Walk J n G Y) (hG : ∀ H', Same H1 H' → G H') (outs : Nat → List β) (h0 : outs 0 = [])
    (hs : ∀ (i : Nat) (x : V) (Hc H' : Hp) (Go : L2.St → It → Hp → Prop) (Skip : Hp → Prop), i < n → Same H1 Hc → Y i Hc x H' → (∀ σ2 J1 H4, Same Hc H4 → Inner Rel g1 tt1 te vs1 σ2 H1 (outs i) (outs (i + 1)) J1 H4 → Go σ2 J1 H4) → (∀ H3, Same Hc H3 → outs (i + 1) = outs i → Skip H3) →
      g x (wipe σ vs) H' fun σ2 H2 => wipe σ2 vs = wipe σ vs ∧ tt σ2 H2 fun b H3 => if b = true then wi1 σ2 H3 (Go σ2) else Skip H3)
    (hd : ∀ (H' : Hp) (acc : List V), Same H1 H' → H' D = some (.lst acc) → Paired (Rel H') acc (outs n) → Qd H') :
    ∃ W : Nat → Nat → Hp → Prop, (∃ m, W 0 m (upd H1 D (.lst []))) ∧ ∀ i m H, W i m H →
      (J.stop i H ∧ Qd H) ∨ (J.go i H ∧ ∃ Nx : Hp → Prop, (∀ H', Nx H' → ∃ m', m' < m ∧ W (i + 1) m' H') ∧ ∀ x H', J.yld i H x H' → g x (wipe σ vs) H' fun σ2 H2 => wipe σ2 vs = wipe σ vs ∧ tt σ2 H2 fun b H3 =>
        if b = true then wi1 σ2 H3 fun J1 H4 => ∃ W1 : Nat → Nat → Hp → Prop, (∃ m, W1 0 m H4) ∧ ∀ j k H, W1 j k H →
          (J1.stop j H ∧ Nx H) ∨ (J1.go j H ∧ ∃ Nx1 : Hp → Prop, (∀ H', Nx1 H' → ∃ k', k' < k ∧ W1 (j + 1) k' H') ∧ ∀ x H', J1.yld j H x H' → g1 x (wipe σ2 vs1) H' fun σ3 H5 => wipe σ3 vs1 = wipe σ2 vs1 ∧ tt1 σ3 H5 fun b H6 =>
            if b = true then te σ3 H6 fun y H7 => ∃ acc, H7 D = some (.lst acc) ∧ acc.length < sizeLine ∧ Nx1 (upd H7 D (.lst (acc ++ [y]))) else Nx1 H6)
        else Nx H3) := by
  refine ⟨fun i m H => m = n - i ∧ i ≤ n ∧ Sofar D Rel H1 (outs i) H, ⟨n, by simp, Nat.zero_le _, same_upd hD, [], upd_same, by rw [h0]; exact .nil⟩, ?_⟩
  rintro i m H ⟨rfl, hi, s1, acc, ha, hp⟩
  by_cases hlt : i < n
  · refine .inr ⟨w.goes i H hlt (hG H s1), Sofar D Rel H1 (outs (i + 1)), fun H' z => ⟨n - (i + 1), by omega, rfl, hlt, z⟩, fun x H' hy => ?_⟩
    refine hs i x H H' (fun σ2 J1 H4 => _) _ hlt s1 (w.yields i H x H' hlt (hG H s1) hy) (fun σ2 J1 H4 s4 inn => ?_) (fun H3 s3 ho => ⟨s1.trans s3, acc, s3 _ _ ha, by rw [ho]; exact paired_mono hp fun a b r => st _ _ _ _ (TupS.same s3) r⟩)
    obtain ⟨n1, G1, Y1, outs1, w1, hG1, o0, o1, turn⟩ := inn
    refine ⟨fun j k H => k = n1 - j ∧ j ≤ n1 ∧ Sofar D Rel H1 (outs1 j) H ∧ TupS H4 H, ⟨n1, by simp, Nat.zero_le _, ⟨s1.trans s4, acc, s4 _ _ ha, by rw [o0]; exact paired_mono hp fun a b r => st _ _ _ _ (TupS.same s4) r⟩, TupS.refl _⟩, ?_⟩
    rintro j k Hd ⟨rfl, hj, ⟨sd, acc1, ha1, hp1⟩, td⟩
    by_cases hlt1 : j < n1
    · refine .inr ⟨w1.goes j Hd hlt1 (hG1 Hd sd td), fun H => Sofar D Rel H1 (outs1 (j + 1)) H ∧ TupS H4 H, fun H' z => ⟨n1 - (j + 1), by omega, rfl, hlt1, z⟩, fun y H' hy1 => ?_⟩
      refine turn j y Hd H' _ _ hlt1 sd td (w1.yields j Hd y H' hlt1 (hG1 Hd sd td) hy1) (fun z H5 d s5 hr ho hl => ?_) (fun H5 s5 ho => ⟨⟨sd.trans s5, acc1, s5 _ _ ha1, by rw [ho]; exact paired_mono hp1 fun a b r => st _ _ _ _ (TupS.same s5) r⟩, td.trans (TupS.same s5)⟩)
      have e5 := s5 _ _ ha1
      have t5 : TupS H5 (upd H5 D (.lst (acc1 ++ [z]))) := TupS.upd e5 (fun xs q => by cases q)
      refine ⟨acc1, e5, by rw [Paired.length hp1]; exact hl, ⟨same_new (sd.trans s5) hD, _, upd_same, ?_⟩, (td.trans (TupS.same s5)).trans t5⟩
      rw [ho]
      exact paired_snoc (paired_mono hp1 fun a b r => st _ _ _ _ ((TupS.same s5).trans t5) r) (st _ _ _ _ t5 hr)
    · have e : j = n1 := by omega
      subst e
      exact .inl ⟨w1.stops Hd (hG1 Hd sd td), by rw [← o1]; exact ⟨sd, acc1, ha1, hp1⟩⟩
  · have e : i = n := by omega
    subst e
    exact .inl ⟨w.stops H (hG H s1), hd H acc s1 ha hp⟩
end
end KM
/-! text KW9 -/
set_option Elab.async false
set_option linter.all false
set_option maxRecDepth 100000
set_option maxHeartbeats 4000000
namespace KM
open PySem PySem.Spec PyProof.Rows L2
theorem none_of {H H' : Hp} {a : Addr} (s : Same H H') (h : H' a = none) : H a = none := by
  cases z : H a with
  | none => rfl
  | some o =>
    rw [s _ _ z] at h
    cases h
/-- distances as the dict holds them -/
def lrows (rows : List (Nat × Nat)) : List (L2.Key × V) := rows.map fun r => (Sum.inl (r.1 : Int), V.int (r.2 : Int))
theorem lrows_len (rows : List (Nat × Nat)) : (lrows rows).length = rows.length := List.length_map _
theorem lrows_keys (rows : List (Nat × Nat)) : (lrows rows).map (·.1) = rows.map fun r => (Sum.inl (r.1 : Int) : L2.Key) := by
  unfold lrows
  rw [List.map_map]
  rfl
theorem lrows_mem {rows : List (Nat × Nat)} {p : Nat} : (Sum.inl (p : Int) : L2.Key) ∈ (lrows rows).map (·.1) ↔ p ∈ rows.map (·.1) := by
  rw [lrows_keys]
  constructor
  · intro h
    obtain ⟨r, hr, e⟩ := List.mem_map.mp h
    rw [← inl_inj e]
    exact List.mem_map.mpr ⟨r, hr, rfl⟩
  · intro h
    obtain ⟨r, hr, rfl⟩ := List.mem_map.mp h
    exact List.mem_map.mpr ⟨r, hr, rfl⟩
theorem lrows_nd {rows : List (Nat × Nat)} (h : (rows.map (·.1)).Nodup) : ((lrows rows).map (·.1)).Nodup := by
  have e : (lrows rows).map (·.1) = (rows.map (·.1)).map fun p : Nat => (Sum.inl (p : Int) : L2.Key) := by rw [lrows_keys, List.map_map]; rfl
  rw [e]
  exact nodup_map (fun a b e => inl_inj e) h
theorem lrows_at {rows : List (Nat × Nat)} {p d : Nat} (nd : (rows.map (·.1)).Nodup) (h : (p, d) ∈ rows) : valV (lrows rows) (Sum.inl (p : Int)) = some (.int (d : Int)) :=
  mem_valV (lrows_nd nd) (List.mem_map.mpr ⟨(p, d), h, rfl⟩)
theorem lrows_no {rows : List (Nat × Nat)} {p : Nat} (h : p ∉ rows.map (·.1)) : valV (lrows rows) (Sum.inl (p : Int)) = none := valV_none fun q => h (lrows_mem.mp q)
theorem preds_snoc (ss : List Stp) (s : Stp) (q : Nat) : ((ss ++ [s]).filter fun s => decide (s.2.2 = q)).map (fun s => s.1) = (ss.filter fun s => decide (s.2.2 = q)).map (fun s => s.1) ++ (if s.2.2 = q then [s.1] else []) := by
  rw [List.filter_append, List.map_append]
  congr 1
  by_cases h : s.2.2 = q <;> simp [h]
section
variable {P : Program} {w : World} {K : PySem.W.Frag} {mg : Str → Option Value} {base : Heap}
def spWayLeft (C : Addr) : Sp := fun vs H Q _ => ∃ (x : Addr) (M : Mch), vs = [.ref x] ∧ MachAt C H x M ∧ M.WF ∧ ∀ (l : Addr) (rows : List (Nat × Nat)) H', Same H H' → H' l = some (.dK (lrows rows)) → LeftOk M rows → Q (.ref l) H'
abbrev nmWayLeft : List Str := ["machine", "place", "back", "signs", "other", "left", "row", "at"]
theorem scWayLeft : FnScope nmWayLeft ["machine"] (defScope sWayLeft) := ⟨rfl, rfl, rfl, by decide +kernel, rfl, by decide +kernel, by decide +kernel⟩
theorem ok_way_left {C f fi : Addr} {fd : FuncData} (F : FnP K "way_left" "way_left" sWayLeft f fd) (B : Bi mg) (T : MC K mg C fi) : FnOk P w K mg base CX0 1 f fd ["machine"] (spWayLeft C) := by
  refine F.okP scWayLeft (fun vs H Q E h => ?_) (fun cdv A outer s H vs Q E hr h => ?_)
  · obtain ⟨x, M, rfl, _⟩ := h
    rfl
  · obtain ⟨x, M, rfl, hM, wf, q⟩ := h
    refine ⟨_, pss_cons (ps_setLc (i := 2) (own := [("place", 1)]) (g := gName 1) (tt := tYes) rfl scWayLeft.nd rfl rfl (sw_true rfl rfl rfl (by decide +kernel)) (pi_range1 rfl B.range (pa_cons (pe_fld (pv 0) rfl) pa_nil))
        (blkOk_by (N := nmWayLeft) (sc := defScope sWayLeft) (by decide +kernel)) (fun _ _ _ _ _ => pg_name (i := 1) scWayLeft.nd rfl (.inl rfl)) (fun _ _ _ _ _ => pts_nil) (fun _ _ _ _ _ => pe_lst pa_nil))
      (pss_cons (ps_for PassesOwn.never rfl (pi_tup (pe_fld (pv 0) rfl)) (pg_tup rfl (pgs_cons (pg_name (i := 1) scWayLeft.nd rfl (.inl rfl)) (pgs_cons (pg_name (i := 3) scWayLeft.nd rfl (.inl rfl)) (pgs_cons (pg_name (i := 4) scWayLeft.nd rfl (.inl rfl)) pgs_nil))))
        (pss_one (ps_expr (pe_bm PySem.F.plainAttrs_list PySem.F.slot_list_append PySem.F.type_list_append mt_append (pe_ix ix_list (pv 2) (pv 4) (fun _ _ => rfl)) (pa_cons (pv 1) pa_nil)))))
      (pss_cons (ps_setDcK (i := 5) (own := [("place", 1)]) (g := gName 1) (tt := tYes) (by exact Nat.lt_of_le_of_lt (Nat.le_add_right _ _) (hu64 hr)) rfl scWayLeft.nd rfl rfl (sw_trueD rfl rfl rfl (by decide +kernel)) (pi_tup (pe_fld (pv 0) rfl))
        (blkOk_by (N := nmWayLeft) (sc := defScope sWayLeft) (by decide +kernel)) (fun _ _ _ _ _ => pg_name (i := 1) scWayLeft.nd rfl (.inl rfl)) (fun _ _ _ _ _ => pts_nil) (fun _ _ _ _ _ => pv 1) (fun _ _ _ _ _ => pe_int))
      (pss_cons (ps_set (i := 6) scWayLeft.nd rfl (.inl rfl) (pe_callTy call_list_of (by rfl) B.list (by decide +kernel) (pa_cons (pe_fld (pv 0) rfl) pa_nil)))
      (pss_cons (ps_set (i := 7) scWayLeft.nd rfl (.inl rfl) pe_int)
      (pss_cons (ps_while PassesOwn.never (pt_cmpR op_lt (pv 7) (pe_callB call_len_seq (by rfl) B.len PySem.boot_len (pa_cons (pv 6) pa_nil)) (nomark _))
        (pss_cons (ps_for PassesOwn.never rfl (pi_list (pe_ix ix_list (pv 2) (pe_ix ix_list (pv 6) (pv 7) (fun _ _ => rfl)) (fun _ _ => rfl))) (pg_name (i := 1) scWayLeft.nd rfl (.inl rfl))
          (pss_one (ps_if (pt_cmp (pc_dnotin (by exact Nat.lt_of_le_of_lt (Nat.add_le_add_left (by decide) _) (hu64 hr)) (pv 1) (pv 5)))
            (pss_cons (ps_dput (by exact Nat.lt_of_le_of_lt (Nat.add_le_add_left (by decide) _) (hu64 hr)) (pv 5) (pv 1) (pe_op op_add (pe_dget (by exact Nat.lt_of_le_of_lt (Nat.add_le_add_left (by decide) _) (hu64 hr)) (pv 5) (pe_ix ix_list (pv 6) (pv 7) (fun _ _ => rfl)) (fun _ _ => rfl)) pe_int) rfl)
            (pss_one (ps_expr (pe_bm PySem.F.plainAttrs_list PySem.F.slot_list_append PySem.F.type_list_append mt_append (pv 6) (pa_cons (pv 1) pa_nil))))) pss_nil)))
        (pss_one (ps_aug (i := 7) scWayLeft.nd rfl (.inl rfl) pe_int ip_add))))
      (pss_one (ps_ret (pv 5)))))))), ?_⟩
    obtain ⟨dx, tb, ts, te, lo, sv, las, h1, h2, h3, h4, h5, h6, h7, h8⟩ := hM.ex
    have el : M.ends.length ≤ M.many := rise_len wf.eRise wf.eLt
    have m1000 := wf.mLe
    have line : (1000 : Nat) < sizeLine := by decide
    have big : M.steps.length < sizeLine := Nat.lt_of_le_of_lt wf.st.len (by decide)
    -- back
    refine ⟨_, rfl, x, C, dx, _, _, rfl, h1, T.cl, T.nMany, mf_many _ _ _ _ _, (M.many : Int), rfl, by omega, by omega, fun Bk hBk => ?_⟩
    refine nl_map (many := M.many) hBk (Nat.lt_of_le_of_lt wf.mLe (by decide)) (fun i Hc Post Skip hi k => ⟨rfl, Nat.zero_le _, fun l hl => k l hl⟩) (fun H5 las s5 hL hlen nd hall => ?_)
    -- the steps
    refine ⟨_, rfl, x, C, dx, _, _, rfl, s5 _ _ h1, T.cl, T.nSteps, mf_steps _ _ _ _ _, ts, rfl, ⟨sv, .inl (.inl (s5 _ _ h3))⟩, ?_⟩
    refine for_tup (fun i σ Hi => ∃ y1 y3 y4 y5 y6 y7, σ = [some (.ref x), y1, some (.ref Bk), y3, y4, y5, y6, y7] ∧ Same H Hi ∧ Hi Bk = some (.lst (las.map V.ref)) ∧ ∀ (p : Nat) (la : Addr), las[p]? = some la → Hi la = some (.lst ((((M.steps.take i).filter fun s => decide (s.2.2 = p)).map fun s => s.1).map nV)))
      ⟨none, none, none, none, none, none, rfl, s5, hL, fun p la hp => (hall la (List.mem_of_getElem? hp)).2.1⟩ (fun i σ Hi _ ⟨_, _, _, _, _, _, _, sb, _⟩ => .inl (.inl (sb _ _ h3))) ?_ ?_
    · rintro i y σ Hi hi ⟨y1, y3, y4, y5, y6, y7, rfl, sb, hB, hO⟩
      obtain ⟨⟨p, l, r⟩, e2, u, rfl, hu⟩ := paired_get h4 hi
      have hu' := sb _ _ hu
      have okS := wf.st.each _ (List.mem_of_getElem? e2)
      have hrl : r < las.length := by rw [hlen]; exact okS.l2
      have hla : las[r]? = some las[r] := List.getElem?_eq_getElem hrl
      have hc := hO r las[r] hla
      have hm : las[r] ∈ las := List.getElem_mem hrl
      refine ⟨u, _, rfl, .inl (.inl hu'), rfl, _, _, rfl, _, _, rfl, _, _, rfl, rfl, ?_⟩
      refine ⟨_, rfl, _, rfl, Bk, _, (r : Int), .ref las[r], rfl, rfl, .inl (.inl hB), atI_nat (by rw [List.getElem?_map, hla]; rfl), .inl ⟨rfl, _, .inl (.inl hc)⟩, _, rfl, las[r], _, _, rfl, rfl, hc, ?_, ?_⟩
      · rw [List.length_map, List.length_map]
        exact Nat.lt_of_le_of_lt (Nat.le_trans (List.length_filter_le _ _) (by rw [List.length_take]; exact Nat.min_le_right _ _)) big
      · refine ⟨_, _, _, _, _, _, rfl, same_new sb (hall _ hm).2.2, by rw [upd_ne (Ne.symm (hall _ hm).1)]; exact hB, fun p' la' hp' => ?_⟩
        have et : M.steps.take (i + 1) = M.steps.take i ++ [(p, l, r)] := by
          rw [List.take_succ, e2]
          rfl
        rw [et, preds_snoc]
        by_cases epp : p' = r
        · subst epp
          have : la' = las[p'] := by
            rw [hla] at hp'
            exact (Option.some.inj hp').symm
          subst this
          rw [if_pos rfl, List.map_append]
          exact upd_same
        · have nla : la' ≠ las[r] := fun e => by
            have hp2 : las[p']? = some las[r] := by rw [hp', e]
            obtain ⟨l1, e1⟩ := List.getElem?_eq_some_iff.mp hp2
            exact epp ((List.getElem_inj nd).mp e1)
          rw [upd_ne nla, if_neg (fun e => epp e.symm), List.append_nil]
          exact hO p' la' hp'
    · rintro σ Hb ⟨y1, y3, y4, y5, y6, y7, rfl, sb, hB, hO⟩
      have svl : sv.length = M.steps.length := Paired.length h4
      rw [svl, List.take_length] at hO
      have hPr : ∀ (p : Nat) (la : Addr), las[p]? = some la → Hb la = some (.lst ((preds M p).map nV)) := hO
      -- left
      refine ⟨_, rfl, x, C, dx, _, _, rfl, sb _ _ h1, T.cl, T.nEnds, mf_ends _ _ _ _ _, te, rfl, ⟨_, .inl (.inl (sb _ _ h5))⟩, fun Ln hLn => ?_⟩
      refine dk_map hLn (walk_tup (xs := M.ends.map nV)) (fun _ s1 => .inl (.inl (s1 _ _ (sb _ _ h5)))) (fun i => lrows ((M.ends.take i).map fun e => (e, 0))) rfl (fun i _ => by rw [lrows_len, List.length_map, List.length_take]; omega) (fun i y Hc H' Post Skip hi sc hy k1 k2 => ?_) (fun H6 s6 hL6 => ?_)
      · obtain ⟨rfl, hy⟩ := hy
        rw [List.getElem?_map] at hy
        cases hp : M.ends[i]? with
        | none => rw [hp] at hy; cases hy
        | some p =>
          rw [hp] at hy
          cases hy
          refine ⟨rfl, _, rfl, ?_⟩
          refine k1 (Sum.inl (p : Int)) _ _ (Same.refl _) ?_
          rw [putK_new, List.take_succ, hp]
          · simp [lrows]
          · refine lrows_no fun hm => ?_
            rw [List.map_map] at hm
            obtain ⟨p', hp', e⟩ := List.mem_map.mp hm
            have e : p' = p := e
            rw [e] at hp'
            obtain ⟨j, hj, ej⟩ := List.mem_iff_getElem.mp hp'
            rw [List.getElem_take] at ej
            rw [List.length_take] at hj
            obtain ⟨hi2, ei⟩ := List.getElem?_eq_some_iff.mp hp
            have := List.pairwise_iff_getElem.mp wf.eRise j i (by omega) hi2 (by omega)
            omega
      · have sb6 := sb.trans s6
        refine ⟨_, rfl, x, C, dx, _, _, rfl, sb6 _ _ h1, T.cl, T.nEnds, mf_ends _ _ _ _ _, te, _, rfl, .inr (.inl (.inl (sb6 _ _ h5))), fun Rn hRn => ?_⟩
        rw [List.length_map, List.take_length] at hL6
        have HbR := none_of s6 hRn
        have nLR : Ln ≠ Rn := fun e => by
          rw [← e, hL6] at hRn
          cases hRn
        refine ⟨fun m σ Hx => ∃ (i : Nat) (rows : List (Nat × Nat)) (y1 y3 y4 : Option V), m = M.many - i ∧ σ = [some (.ref x), y1, some (.ref Bk), y3, y4, some (.ref Ln), some (.ref Rn), some (nV i)] ∧ Same Hb Hx ∧ Hx Ln = some (.dK (lrows rows)) ∧ Hx Rn = some (.lst (rows.map fun r => nV r.1)) ∧ BI M rows i 0,
          ⟨_, 0, M.ends.map fun e => (e, 0), _, _, _, rfl, rfl, s6.trans (same_upd hRn), by rw [upd_ne nLR]; exact hL6, by rw [upd_same, List.map_map]; rfl, BI.start wf⟩, ?_⟩
        rintro m σ Hx ⟨i, rows, y1, y3, y4, rfl, rfl, sx, hLx, hRx, bi⟩
        have rl : rows.length ≤ M.many := by
          have := nodup_le bi.nd fun p hp => by
            obtain ⟨r, hr, rfl⟩ := List.mem_map.mp hp
            exact bi.lt r hr
          rwa [List.length_map] at this
        refine ⟨_, rfl, _, rfl, Rn, _, rfl, .inl (.inl (.inl hRx)), _, _, rfl, rfl, _, rfl, ?_⟩
        rw [List.length_map]
        by_cases hlt : i < rows.length
        · rw [decide_eq_true (by omega)]
          refine iteT ⟨fun σ' H' => ∃ m', m' < M.many - i ∧ ∃ (i : Nat) (rows : List (Nat × Nat)) (y1 y3 y4 : Option V), m' = M.many - i ∧ σ' = [some (.ref x), y1, some (.ref Bk), y3, y4, some (.ref Ln), some (.ref Rn), some (nV i)] ∧ Same Hb H' ∧ H' Ln = some (.dK (lrows rows)) ∧ H' Rn = some (.lst (rows.map fun r => nV r.1)) ∧ BI M rows i 0, fun _ _ z => z, ?_⟩
          have hci : rows[i]? = some rows[i] := List.getElem?_eq_getElem hlt
          have cm : rows[i] ∈ rows := List.getElem_mem hlt
          have clt := bi.lt _ cm
          have hla : las[rows[i].1]? = some (las[rows[i].1]'(by rw [hlen]; exact clt)) := List.getElem?_eq_getElem _
          have hpr := hPr _ _ hla
          refine ⟨_, rfl, _, rfl, _, rfl, Rn, _, (i : Int), nV rows[i].1, rfl, rfl, .inl (.inl hRx), atI_nat (by rw [List.getElem?_map, hci]; rfl), Bk, _, (rows[i].1 : Int), .ref (las[rows[i].1]'(by rw [hlen]; exact clt)), rfl, rfl, .inl (.inl (sx _ _ hB)), atI_nat (by rw [List.getElem?_map, hla]; rfl), _, rfl, ⟨_, .inl (.inl (sx _ _ hpr))⟩, ?_⟩
          refine for_it (walk_list (xs := (preds M rows[i].1).map nV)) (fun k σ Hy => ∃ (rw' : List (Nat × Nat)) (y1 y3 y4 : Option V), σ = [some (.ref x), y1, some (.ref Bk), y3, y4, some (.ref Ln), some (.ref Rn), some (nV i)] ∧ Same Hb Hy ∧ Hy Ln = some (.dK (lrows rw')) ∧ Hy Rn = some (.lst (rw'.map fun r => nV r.1)) ∧ BI M rw' i k ∧ rw'[i]? = some rows[i])
            ⟨rows, _, _, _, rfl, sx, hLx, hRx, bi, hci⟩ (fun _ _ _ _ ⟨_, _, _, _, _, sy, _⟩ => .inl (.inl (sy _ _ hpr))) ?_ ?_
          · rintro k v σ Hy Hy' hk ⟨rw', y1, y3, y4, rfl, sy, hLy, hRy, bk, hck⟩ ⟨rfl, hv⟩
            rw [List.getElem?_map] at hv
            cases hp : (preds M rows[i].1)[k]? with
            | none => rw [hp] at hv; cases hv
            | some p =>
              rw [hp] at hv
              cases hv
              have rl' : rw'.length ≤ M.many := by
                have := nodup_le bk.nd fun p hp => by
                  obtain ⟨r, hr, rfl⟩ := List.mem_map.mp hp
                  exact bk.lt r hr
                rwa [List.length_map] at this
              refine ⟨_, rfl, _, rfl, Ln, _, rfl, DGet.k (k := Sum.inl (p : Int)) hLy, _, rfl, ?_⟩
              by_cases hin : p ∈ rw'.map (·.1)
              · rw [(valV_keys _ _).mpr (lrows_mem.mpr hin)]
                exact iteF ⟨rw', _, _, _, rfl, sy, hLy, hRy, bk.skip hck hp hin, hck⟩
              · rw [lrows_no hin]
                refine iteT ?_
                have hcv := lrows_at (p := rows[i].1) (d := rows[i].2) bk.nd (List.mem_of_getElem? hck)
                refine ⟨_, rfl, _, rfl, _, rfl, Rn, _, (i : Int), nV rows[i].1, rfl, rfl, .inl (.inl hRy), atI_nat (by rw [List.getElem?_map, hck]; rfl), Ln, _, rfl, hcv ▸ DGet.k (k := Sum.inl (rows[i].1 : Int)) hLy, _, _, rfl, rfl, _, rfl, _, rfl, Ln, _, rfl, DPut.k (k := Sum.inl (p : Int)) hLy (by rw [lrows_len]; omega), ?_⟩
                have bk' := bk.add wf hck hp hin
                have rl2 : (rw' ++ [(p, rows[i].2 + 1)]).length ≤ M.many := by
                  have := nodup_le bk'.nd fun p hp => by
                    obtain ⟨r, hr, rfl⟩ := List.mem_map.mp hp
                    exact bk'.lt r hr
                  rwa [List.length_map] at this
                rw [List.length_append, List.length_singleton] at rl2
                have hR2 : ∀ o, upd Hy' Ln o Rn = some (.lst (rw'.map fun r => nV r.1)) := fun o => by rw [upd_ne (Ne.symm nLR)]; exact hRy
                refine ⟨_, rfl, .inl ⟨rfl, _, .inl (.inl (hR2 _))⟩, _, rfl, Rn, _, _, rfl, rfl, hR2 _, by rw [List.length_map]; omega, ?_⟩
                refine ⟨rw' ++ [(p, rows[i].2 + 1)], _, _, _, rfl, same_new (same_new sy hLn) HbR, ?_, ?_, bk', ?_⟩
                · rw [upd_ne nLR, upd_same, putK_new _ (lrows_no hin)]
                  simp [lrows]
                · rw [upd_same, List.map_append]
                  rfl
                · rw [List.getElem?_append_left (List.getElem?_eq_some_iff.mp hck).1]
                  exact hck
          · rintro σ Hy ⟨rw', y1, y3, y4, rfl, sy, hLy, hRy, bk, hck⟩
            rw [List.length_map] at bk
            refine ⟨_, rfl, _, _, rfl, rfl, ?_⟩
            exact ⟨M.many - (i + 1), by omega, i + 1, rw', y1, y3, y4, rfl, rfl, sy, hLy, hRy, bk.next hck⟩
        · rw [decide_eq_false (by omega)]
          refine iteF ⟨_, rfl, q Ln rows Hx (sb.trans sx) hLx (bi.done (by omega))⟩
end
end KM
/-! text KND -/
set_option Elab.async false
set_option linter.all false
set_option maxRecDepth 100000
set_option maxHeartbeats 4000000
/-! Dicts from pairs of pairs of ints to texts. -/
namespace KM
open PySem PySem.Spec PyProof.Rows L2
abbrev Pr := Nat × Nat
abbrev Key4 := Pr × Pr
def nk2 (p : Pr) : NestedKey := .tup [.num (p.1 : Int), .num (p.2 : Int)]
def nk4 (k : Key4) : NestedKey := .tup [nk2 k.1, nk2 k.2]
theorem nk2_inj {p q : Pr} (h : nk2 p = nk2 q) : p = q := by
  unfold nk2 at h
  have h1 := NestedKey.tup.inj h
  have h2 := (List.cons.inj h1).1
  have h3 := (List.cons.inj (List.cons.inj h1).2).1
  have h2 := NestedKey.num.inj h2
  have h3 := NestedKey.num.inj h3
  exact Prod.ext (by omega) (by omega)
theorem nk4_inj {p q : Key4} (h : nk4 p = nk4 q) : p = q := by
  unfold nk4 at h
  have h1 := NestedKey.tup.inj h
  exact Prod.ext (nk2_inj (List.cons.inj h1).1) (nk2_inj (List.cons.inj (List.cons.inj h1).2).1)
/-- the tuple at q is the key k -/
def KeyAt (H : Hp) (q : Addr) (k : Key4) : Prop := ∃ q1 q2, H q = some (.tup [.ref q1, .ref q2]) ∧ H q1 = some (.tup [nV k.1.1, nV k.1.2]) ∧ H q2 = some (.tup [nV k.2.1, nV k.2.2])
theorem KeyAt.mono {H H' : Hp} {q : Addr} {k : Key4} (t : TupS H H') (h : KeyAt H q k) : KeyAt H' q k := let ⟨a, b, h1, h2, h3⟩ := h; ⟨a, b, t _ _ h1, t _ _ h2, t _ _ h3⟩
abbrev Ent := Key4 × Addr × Str
def NdO (P : Program) (w : World) (a : Addr) (es : List Ent) : HO := .ext fun h => es.length ≤ sizeLine ∧ (a == sysModules) = false ∧ ∃ xs : List (NestedKey × Addr × Value), Paired (fun (e : Ent) x => x.1 = nk4 e.1 ∧ x.2.1 = e.2.1 ∧ L2.RelV (.str e.2.2) x.2.2) es xs ∧
  ∃ o en ep, h.get? a = some o ∧ o.ExactDict ∧ o.data = .dict en ep ∧ en.toList = xs.map (entryOfKey (nestedKind P w)) ∧ (xs.map (·.1)).Nodup
theorem ndo_ok {P : Program} {w : World} {H : Hp} {h : Heap} {a : Addr} {es : List Ent} (z : es.length ≤ sizeLine) (hd : (a == sysModules) = false) {xs : List (NestedKey × Addr × Value)}
    (r : Paired (fun (e : Ent) x => x.1 = nk4 e.1 ∧ x.2.1 = e.2.1 ∧ L2.RelV (.str e.2.2) x.2.2) es xs) {o : Obj} {en : Array DictEntry} {ep : Nat} (h1 : h.get? a = some o) (h2 : o.ExactDict) (h3 : o.data = .dict en ep) (h4 : en.toList = xs.map (entryOfKey (nestedKind P w))) (h5 : (xs.map (·.1)).Nodup) :
    ObjOk P w H h a (NdO P w a es) := by
  refine ⟨⟨z, hd, xs, r, o, en, ep, h1, h2, h3, h4, h5⟩, ⟨o, h1⟩, ?_⟩
  rintro g1 g2 ⟨z, hd, xs, r, o, en, ep, h1, h2, h3, h4, h5⟩ k
  exact ⟨z, hd, xs, r, o, en, ep, k _ h1, h2, h3, h4, h5⟩
/-- it stands, its keys' tuples too -/
def NdAt (P : Program) (w : World) (H : Hp) (a : Addr) (es : List Ent) : Prop := H a = some (NdO P w a es) ∧ ∀ e ∈ es, KeyAt H e.2.1 e.1
section
variable {X : Cx} {pins : List (Addr × Obj)} {σ : L2.St} {H : Hp} {s : Shared}
theorem nested_of {q : Addr} {k : Key4} (I : Inv X pins σ H s) (h : KeyAt H q k) : (nestedKind X.prog X.w).is s.heap (nk4 k) q := by
  obtain ⟨q1, q2, h1, h2, h3⟩ := h
  have two : ∀ {p : Addr} {n m : Nat}, H p = some (.tup [nV n, nV m]) → NestedIs s.heap (nk2 (n, m)) (.ref p) := fun {p n m} e => by
    obtain ⟨_, its, r, o, g1, g2, c, g3⟩ := (show ObjOk X.prog X.w H s.heap p (.tup [nV n, nV m]) from I.hok p _ e)
    cases r with
    | cons a r =>
      cases r with
      | cons b r =>
        cases r
        obtain ⟨t, rfl⟩ := (show ∃ t, _ = Value.int (n : Int) t from a)
        obtain ⟨u, rfl⟩ := (show ∃ t, _ = Value.int (m : Int) t from b)
        exact .tup g1 g2 g3 (.cons (.int _ _) (.cons (.int _ _) .nil))
  obtain ⟨_, its, r, o, g1, g2, c, g3⟩ := (show ObjOk X.prog X.w H s.heap q (.tup [.ref q1, .ref q2]) from I.hok q _ h1)
  refine ⟨?_, by unfold nk4 nk2; simp only [NestedKey.depth, NestedKey.depthAll]; decide⟩
  cases r with
  | cons a r =>
    cases r with
    | cons b r =>
      cases r
      cases (show _ = Value.ref q1 from a)
      cases (show _ = Value.ref q2 from b)
      exact .tup g1 g2 g3 (.cons (two h2) (.cons (two h3) .nil))
theorem nd_of {a : Addr} {es : List Ent} (I : Inv X pins σ H s) (h : NdAt X.prog X.w H a es) : es.length ≤ sizeLine ∧ (a == sysModules) = false ∧
    ∃ xs : List (NestedKey × Addr × Value), Paired (fun (e : Ent) x => x.1 = nk4 e.1 ∧ x.2.1 = e.2.1 ∧ L2.RelV (.str e.2.2) x.2.2) es xs ∧ s.heap.DictOfH (nestedKind X.prog X.w) a xs := by
  obtain ⟨⟨z, hd, xs, r, o, en, ep, h1, h2, h3, h4, h5⟩, _⟩ := (show ObjOk X.prog X.w H s.heap a (NdO X.prog X.w a es) from I.hok a _ h.1)
  refine ⟨z, hd, xs, r, o, en, ep, h1, h2, h3, h4, ?_, h5⟩
  have key : ∀ {es : List Ent} {xs : List (NestedKey × Addr × Value)}, Paired (fun (e : Ent) x => x.1 = nk4 e.1 ∧ x.2.1 = e.2.1 ∧ L2.RelV (.str e.2.2) x.2.2) es xs → (∀ e ∈ es, KeyAt H e.2.1 e.1) → ∀ x ∈ xs, (nestedKind X.prog X.w).is s.heap x.1 x.2.1 := by
    intro es xs r
    induction r with
    | nil => intro _ x hx; cases hx
    | @cons e x es xs hq t ih =>
      intro ke y hy
      rcases List.mem_cons.mp hy with rfl | hy
      · rw [hq.1, hq.2.1]
        exact nested_of I (ke e List.mem_cons_self)
      · exact ih (fun e' he' => ke e' (List.mem_cons_of_mem _ he')) y hy
  exact key r h.2
theorem nd_no {k : Key4} : ∀ {es : List Ent} {xs : List (NestedKey × Addr × Value)}, Paired (fun (e : Ent) x => x.1 = nk4 e.1 ∧ x.2.1 = e.2.1 ∧ L2.RelV (.str e.2.2) x.2.2) es xs → k ∉ es.map (·.1) → atKey xs (nk4 k) = none
  | _, _, .nil, _ => rfl
  | _, _, .cons hq t, hk => by
    rw [List.map_cons, List.mem_cons, not_or] at hk
    have h1 := nd_no t hk.2
    unfold atKey at h1 ⊢
    rw [List.find?_cons]
    rw [decide_eq_false (fun e => hk.1 (nk4_inj (by rw [← hq.1, e])))]
    exact h1
def tNdNew (P : Program) (w : World) : TE := fun _ H Q => ∀ p, H p = none → Q (.ref p) (upd H p (NdO P w p []))
theorem pe_ndnew {pos : Pos} : PE X (.Dict [] [] pos) (tNdNew X.prog X.w) := ⟨fun pins s σ H Q I h =>
  wpAny_Dict_empty ⟨.ref s.heap.objs.size, _, I.laid (a := s.heap.objs.size) (o := NdO X.prog X.w s.heap.objs.size []) (t' := s.toks) (fun _ _ q => Heap.get?_push_of_some _ q) (Nat.le_refl _)
    (ndo_ok (xs := []) (Nat.zero_le _) (beq_eq_false_iff_ne.mpr (Ne.symm (Nat.ne_of_lt I.big))) .nil (Heap.get?_push_size _ rfl) ⟨rfl, rfl, rfl⟩ rfl rfl .nil), rfl, h _ (I.hok.fresh (Nat.le_refl _))⟩⟩
/-- d.get(k, x), the key not there -/
def tNdGet2 (P : Program) (w : World) (td ty tx : TE) : TE := fun σ H Q => td σ H fun x H1 => ∃ a es, x = .ref a ∧ NdAt P w H1 a es ∧ ty σ H1 fun y H2 => tx σ H2 fun z H3 => ∃ b es k, y = .ref b ∧ NdAt P w H3 a es ∧ KeyAt H3 b k ∧ k ∉ es.map (·.1) ∧ Q z H3
theorem pe_ndget2 {o e f : Expr} {apos cpos : Pos} {td ty tx : TE} (hu : X.A.units + 64 < cLine) (ho : PE X o td) (he : PE X e ty) (hf : PE X f tx) (m : M2 X o "get" apos e f cpos) : PE X (.Call (.Attribute o "get" apos) [e, f] [] cpos) (tNdGet2 X.prog X.w td ty tx) := by
  refine ⟨fun pins s σ H Q I h => ?_⟩
  refine wpAny_Call_method m.base m.few m.line PySem.F.plainAttrs_dict PySem.F.slot_dict_get PySem.F.type_dict_get (thn (ho.run pins s σ H _ I h) fun u s1 ⟨x, H1, I1, rx, a, es, ex, d, q1⟩ => ?_)
  subst ex
  obtain rfl : u = Value.ref a := rx
  obtain ⟨_, _, xs1, _, hm1⟩ := nd_of I1 d
  refine ⟨hm1.typeIs, PyProof.Rows.dictOfH_noDict hm1, ?_⟩
  rw [m.trees]
  refine Calls.callWith_builtin rfl (Calls.evalArgs_plain (Calls.spliced_cons (thn (he.run pins s1 σ H1 _ I1 q1) fun iv s2 ⟨y, H2, I2, ry, q2⟩ => Calls.spliced_cons (thn (hf.run pins s2 σ H2 _ I2 q2) fun fv s3 ⟨z, H3, I3, rz, b, es3, k, ey, d3, hk, hn, q3⟩ => Calls.spliced_nil ?_))))
  subst ey
  obtain rfl : iv = Value.ref b := ry
  obtain ⟨_, hd, xs, r, hm⟩ := nd_of I3 d3
  refine call_meetsIn PySem.F.slot_dict_get hm.typeIs PySem.F.entry_dict_get (PySem.F.args_dict_get_3 _ _ _) (meetsH_dict_get_default (nestedKind X.prog X.w) a b hd fv) ⟨?_, nk4 k, xs, nested_of I3 hk, hm, ?_⟩
  · show (X.A.in1).units + 8 < cLine
    show X.A.units + 1 + 8 < cLine
    omega
  · rw [nd_no r hn]
    exact ⟨_, H3, I3.tok _, rz, q3⟩
/-- d[k] = v, the key not there -/
def sNdPut (P : Program) (w : World) (td ty tv : TE) : TS := fun D σ H => tv σ H fun v H1 => td σ H1 fun x H2 => ty σ H2 fun y H3 => ∃ a b es k z, x = .ref a ∧ y = .ref b ∧ v = .str z ∧ NdAt P w H3 a es ∧ KeyAt H3 b k ∧ k ∉ es.map (·.1) ∧ es.length < sizeLine ∧ D.nx σ (upd H3 a (NdO P w a (es ++ [(k, b, z)])))
theorem ps_ndput {o i value : Expr} {pos pos' : Pos} {td ty tv : TE} (hu : X.A.units + 64 < cLine) (ho : PE X o td) (hi : PE X i ty) (hv : PE X value tv) (hs : swapsWith value (some (.Subscript o i pos')) pos.line X.env = pure false) :
    PS X (.Assign [.Subscript o i pos'] value pos) (sNdPut X.prog X.w td ty tv) := by
  refine ⟨fun pins s σ H D I h => ?_⟩
  refine wpAny_Assign_Subscript (thn (hv.run pins s σ H _ I h) fun r s1 ⟨v, H1, I1, rv, q1⟩ => thn (ho.run pins s1 σ H1 _ I1 q1) fun u s2 ⟨x, H2, I2, rx, q2⟩ => thn (hi.run pins s2 σ H2 _ I2 q2) fun iv s3 ⟨y, H3, I3, ry, a, b, es, k, z, ex, ey, ev, d, hk, hn, hl, q3⟩ => ?_) hs
  subst ex ey ev
  obtain rfl : u = Value.ref a := rx
  obtain rfl : iv = Value.ref b := ry
  obtain ⟨hz, hd, xs, rel, dd⟩ := nd_of I3 d
  have hzx : xs.length ≤ sizeLine := by rw [← Paired.length rel]; exact hz
  refine wpAny_setItem_heap (hsz := hzx) (show X.A.units + 1 + 8 < cLine by omega) (nested_of I3 hk) dd fun h' dd' hs' => ⟨σ, _, ?_, q3⟩
  have hnone := nd_no rel hn
  have est : storedH xs (nk4 k) b r = xs ++ [(nk4 k, b, r)] := by
    unfold storedH
    rw [hnone]
    rfl
  rw [est] at dd'
  obtain ⟨o', en, ep, g1, g2, g3, g4, _, g5⟩ := dd'
  refine d_write I3 (by rw [d.1]; exact True.intro) hs' ⟨_, g1⟩ (ndo_ok (by rw [List.length_append]; exact hl) hd (paired_snoc rel ⟨rfl, rfl, rv⟩) g1 g2 g3 g4 g5)
/-- for (..), v in d.items(): the dict locked -/
def ItNd (P : Program) (w : World) (d : Addr) (o : Obj) (es : List Ent) : It :=
  ⟨fun i H => H d = some (.frz o (NdO P w d es)) ∧ i < es.length, fun i H x H' => ∃ T k b z, es[i]? = some (k, b, z) ∧ x = .ref T ∧ H T = none ∧ H' = upd H T (.tup [.ref b, .str z]), fun i H => H d = some (.frz o (NdO P w d es)) ∧ es.length ≤ i⟩
theorem frzN {d : Addr} {o : Obj} {es : List Ent} (I : Inv X pins σ H s) (h : H d = some (.frz o (NdO X.prog X.w d es))) : (d == sysModules) = false ∧ s.heap.get? d = some o ∧ o.ExactDict ∧
    ∃ (en : Array DictEntry) (ep : Nat), o.data = .dict en ep ∧ en.size = es.length ∧ ∀ (i : Nat) (e : Ent), es[i]? = some e → ∃ x : DictEntry, en[i]? = some x ∧ x.key = .ref e.2.1 ∧ L2.RelV (.str e.2.2) x.val := by
  have z0 : s.heap.get? d = some o ∧ ObjOk X.prog X.w H s.heap d (NdO X.prog X.w d es) := I.hok d _ h
  obtain ⟨hd, ⟨z, hs, xs, r, o', en, ep, h1, h2, h3, h4, h5⟩, _⟩ := z0
  rw [hd] at h1
  cases h1
  refine ⟨hs, hd, h2, en, ep, h3, ?_, fun i e he => ?_⟩
  · rw [size_of_entries h4]
    exact (Paired.length r).symm
  · obtain ⟨x, hx, q1, q2, q3⟩ := paired_get r he
    refine ⟨entryOfKey (nestedKind X.prog X.w) x, ?_, ?_, q3⟩
    · rw [entry_at h4, hx]
      rfl
    · show Value.ref x.2.1 = _
      rw [q2]
theorem turn_nd {P : Program} {w : World} {K : PySem.W.Frag} {d : Addr} {o : Obj} {en : Array DictEntry} {ep : Nat} {es : List Ent} {elts : List Expr} {kk : Nat} {tpos : Pos} (it : Addr) (hod : o.data = .dict en ep) :
    Turn P w K (.Tuple elts kk tpos) (ItNd P w d o es) [it] it (fun i h => ∃ ok ov, IsItemIter h it d i es.length ep ok ov) where
  mem := by simp
  obj := fun i h st b hb => by
    have e : b = it := by simpa using hb
    subst e
    obtain ⟨ok, ov, e⟩ := st
    exact ⟨_, e, fun v z => nomatch z⟩
  keep := fun i h h' st k => let ⟨ok, ov, e⟩ := st; ⟨ok, ov, k it (by simp) _ e⟩
  item := by
    intro X hP hw hK hc i pins s σ H E I hf st hg
    subst hP hw hK
    obtain ⟨hd, hi⟩ := hg
    obtain ⟨hs, hgd, hx, en', ep', hdt, hsz, ent⟩ := frzN I hd
    obtain ⟨rfl, rfl⟩ := dict_ep hod hdt
    obtain ⟨⟨k, b, z⟩, hkv⟩ : ∃ p, es[i]? = some p := ⟨es[i], List.getElem?_eq_getElem hi⟩
    obtain ⟨x, hx2, kx, rx⟩ := ent i _ hkv
    obtain ⟨ok, ov, he⟩ := st
    rw [← hsz] at he
    have hlt : it < s.heap.objs.size := Heap.lt_size he
    have hi2 : i < en'.size := by rw [hsz]; exact hi
    refine DT.nextI he ⟨o, hgd, hx, hod⟩ hi2 fun h' ho hT hz hk => ?_
    have ex : en'[i] = x := by
      rw [Array.getElem?_eq_getElem hi2] at hx2
      exact Option.some.inj hx2
    rw [ex] at ho hT
    refine ⟨_, rfl, wpAny_letOwnedTupleGo_items (s := { s with heap := h' }) ho fun h'' he' sb => ?_⟩
    have hT2 : h''.get? s.heap.objs.size = some { cls := .type "tuple", data := .seq #[x.key, x.val] } := (sb.2 _ (Nat.ne_of_gt hlt)).trans hT
    have new : ObjOk X.prog X.w (upd H s.heap.objs.size (.tup [.ref b, .str z])) h'' s.heap.objs.size (.tup [.ref b, .str z]) :=
      ⟨by show 2 ≤ sizeLine; decide, [x.key, x.val], .cons (by rw [kx]; rfl) (.cons rx .nil), ⟨_, hT2, rfl, _, rfl⟩⟩
    have I1 : Inv X pins σ (upd H s.heap.objs.size (.tup [.ref b, .str z])) { s with heap := h'' } :=
      I.turnedNew (t' := s.toks) (ch := [it]) (fun b ob hb e => (sb.2 b (by simpa using hb)).trans (hk b ob (by simpa using hb) e)) hf (Nat.le_refl _) new
    refine ⟨.ref s.heap.objs.size, _, I1, rfl, ⟨_, k, b, z, hkv, rfl, I.hok.fresh (Nat.le_refl _), rfl⟩, ⟨x.key, x.val, ?_⟩, fun b hb => ?_⟩
    · rw [← hsz]; exact he'
    · have e : b = it := by simpa using hb
      rw [e, upd_ne (Nat.ne_of_lt hlt)]
      exact (hf it (by simp)).1
  done := by
    intro X hP hw hK hc i pins s σ H E I hf st hg
    subst hP hw hK
    obtain ⟨hd, hi⟩ := hg
    obtain ⟨f0, f1, f2, f3, f4, f5⟩ := hf it (by simp)
    obtain ⟨hs, hgd, hx, en', ep', hdt, hsz, ent⟩ := frzN I hd
    obtain ⟨rfl, rfl⟩ := dict_ep hod hdt
    obtain ⟨ok, ov, he⟩ := st
    rw [← hsz] at he
    exact DT.endI (I.ok.hd hc) he ⟨o, hgd, hx, hod⟩ (by omega) fun h' eb => ⟨rfl, I.turned (t' := s.toks) (fun b ob hb e => eb b ob hb e) f0 f1 f3 f4 f5⟩
  self := fun A i s Q E st h => let ⟨_, _, e⟩ := st; PySem.W.kcp_self e h
def iNdItems (P : Program) (w : World) (td : TE) : TI := fun σ H R => td σ H fun x H1 => ∃ d o es, x = .ref d ∧ H1 d = some (.frz o (NdO P w d es)) ∧ R (ItNd P w d o es) H1
theorem pi_ndItems {e : Expr} {apos cpos : Pos} {td : TE} {elts : List Expr} {kk : Nat} {tpos : Pos} (he : PE X e td) (hbase : attributeBase e "items" X.env (eval e X.env) = eval e X.env := by rfl) (hline : (apos.endLine == cpos.line) = true := by rfl) :
    PI X (.Tuple elts kk tpos) (.Call (.Attribute e "items" apos) [] [] cpos) (iNdItems X.prog X.w td) := by
  refine ⟨fun pins s σ H R I h => ?_⟩
  refine wpAny_Call_method (T := "dict") (id := "dict.items") hbase rfl hline F.plainAttrs_dict F.slot_dict_items F.type_dict_items (thn (he.run pins s σ H _ I h) fun u s1 ⟨x, H1, I1, rx, d, o, es, ex, hd, q⟩ => ?_)
  subst ex
  obtain rfl : u = Value.ref d := rx
  obtain ⟨hs, hgd, hx, en, ep, hdt, hsz, ent⟩ := frzN I1 hd
  have hm : DT.Raw s1.heap d en ep := ⟨o, hgd, hx, hdt⟩
  refine ⟨hm.typeIs, fun b e => ?_, ?_⟩
  · cases e
    exact ⟨o, hgd, hx.2.1⟩
  have I2 : Inv X pins σ H1 { s1 with heap := s1.heap.push { cls := .type "dict_items", data := .fields #[.ref d] } } := I1.kept (t' := s1.toks) fun b ob q => Heap.get?_push_of_some _ q
  have fin : wpAny (model X.prog X.w) X.A (pyIter (.ref s1.heap.objs.size)) (PIE X pins σ (.Tuple elts kk tpos) R) X.xe { s1 with heap := s1.heap.push { cls := .type "dict_items", data := .fields #[.ref d] } } := by
    refine DT.iterI (d := d) ⟨_, Heap.get?_push_size _ rfl, rfl, rfl⟩ (hm.push _) (pi_one (tk := s1.toks) I2 _ (turn_nd _ hdt) ⟨.none, .none, ?_⟩ q)
    rw [← hsz]
    exact Heap.get?_push_size _ rfl
  show wpAny _ _ (callWith cpos (.builtin "dict.items") [.ref d] [] []) _ X.xe s1
  refine method_meetsIn F.slot_dict_items F.entry_dict_items rfl (PySem.evalArgs_none ⟨rfl, hm.typeIs, F.args_dict_items_1 _, _, DT.meetsItems (es := en) (ep := ep) hs, hm, fin⟩)
theorem walk_nd {P : Program} {w : World} {d : Addr} {o : Obj} {es : List Ent} : Walk (ItNd P w d o es) es.length (fun H => H d = some (.frz o (NdO P w d es))) (YPair (fun i => es[i]?.map fun e => V.ref e.2.1) (fun i => es[i]?.map fun e => V.str e.2.2)) := by
  refine ⟨fun _ _ hi q => ⟨q, hi⟩, fun _ q => ⟨q, Nat.le_refl _⟩, fun i H x H' _ _ y => ?_⟩
  obtain ⟨T, k, b, z, h1, h2, h3, h4⟩ := y
  exact ⟨T, .ref b, .str z, h2, h3, h4, by simp [h1], by simp [h1]⟩
end
end KM
/-! text KCS -/
set_option Elab.async false
set_option linter.all false
set_option maxRecDepth 100000
set_option maxHeartbeats 4000000
/-! Set comprehensions of ints; sorted of such a set. -/
namespace KM
open PySem PySem.Spec PyProof.Rows L2
section
variable {X : Cx}
def accSI (w : World) (te : TE) : L2.St → Hp → Addr → (Hp → Prop) → Prop := fun σ H D Nx => te σ H fun y H1 => ∃ (k : Int) (S : Int → Bool) (n : Nat), y = .int k ∧ H1 D = some (SetO w D S n) ∧ n + 1 < scanBound ∧
  Nx (upd H1 D (SetO w D (fun j => S j || decide (j = k)) (if S k = true then n else n + 1)))
theorem sink_setI {elt tg iter : Expr} {ifs : List Expr} {scope : Scope} {pos : Pos} {te : TE} {vs : List Nat}
    (he : ∀ (s : Shared) (H : Hp) (C : Addr) (cl : List (Str × Addr)) (fp : List Addr), PE (X.blk s H scope (compEnvC scope cl C X.env) fp) elt te) :
    Sink X (.SetComp elt [⟨tg, iter, ifs, 0⟩] scope pos) tg iter ifs scope (newSet (.type "set")) { cls := .type "set", dict := none, data := .set #[] 0 (.fresh 0 0 (!X.w.params.followText "set-order")) } (fun D => SetO X.w D (fun _ => false) 0) (accSI X.w te) vs where
  cls := ⟨_, rfl⟩
  mkOk := fun E Q s h => PpSet.newSet_ok h
  empOk := fun H h _ => setO_new (setR_fresh X.w)
  start := fun it D env R s h0 h => PpSet.codeAny_compStart_set h0 (h _)
  loop := fun s0 H0 C cl fp it D R I turn n s hI => by
    refine PpSet.compLoopS_any I (fun n s hn => ?_) n hI
    refine thn (turn n s hn _) fun r s1 h1 => ?_
    cases r with
    | none => exact h1
    | some v =>
      refine thn h1 fun _ s2 h2 => thn h2 fun _ s3 h3 => thn h3 fun ok s4 h4 => ?_
      cases ok with
      | false => exact h4
      | true =>
        simp only [if_true] at h4 ⊢
        obtain ⟨pins, σ, H, Nx, I4, ha, fin⟩ := h4
        refine thnF ((he s0 H0 C cl fp).run pins s4 σ H _ I4 ha) fun x s5 ⟨y, H5, I5, r5, k, S, n', ey, hD, room, nx⟩ => ?_
        subst ey
        obtain ⟨tk, rfl⟩ := r5
        have R := setO_get (X := X.blk s0 H0 scope (compEnvC scope cl C X.env) fp) I5 hD
        refine setR_add R room fun h' sb new => ?_
        have hd : ∃ u, h'.get? D = some u := let ⟨o, _, _, _, ho, _⟩ := new; ⟨o, ho⟩
        exact fin _ _ _ (.refl _ _) (I5.write (e := D) (t' := s5.toks + 1) (by rw [hD]; trivial) (.inl rfl) (fun b u hb hu => (sb.2 b hb).trans hu) hd (setO_new new)) nx
theorem pe_scI {elt tg iter : Expr} {ifs : List Expr} {scope : Scope} {own : List (Str × Nat)} {pos : Pos} {wi : TI} {g : TG} {tt : TT} {te : TE} (hc : X.calm = true) (hN : X.N.Nodup) (hi : PI X tg iter wi) (ok : BlkOk X.N X.env.scope scope own)
    (hg : ∀ (s : Shared) (H : Hp) (C : Addr) (cl : List (Str × Addr)) (fp : List Addr), PG (X.blk s H scope (compEnvC scope cl C X.env) fp) tg g)
    (ht : ∀ (s : Shared) (H : Hp) (C : Addr) (cl : List (Str × Addr)) (fp : List Addr), PTs (X.blk s H scope (compEnvC scope cl C X.env) fp) ifs tt)
    (he : ∀ (s : Shared) (H : Hp) (C : Addr) (cl : List (Str × Addr)) (fp : List Addr), PE (X.blk s H scope (compEnvC scope cl C X.env) fp) elt te) (hs : ∀ x, foldedSetIterable iter X.env x = pure x := by intro _; rfl) :
    PE X (.SetComp elt [⟨tg, iter, ifs, 0⟩] scope pos) (tComp (fun D => SetO X.w D (fun _ => false) 0) wi g tt (accSI X.w te) (own.map (·.2))) :=
  pe_comp (sink_setI he) (PpSet.eval_SetComp _ _ _ _) hc hN hi ok hg ht hs
/-! ### sorted of a set of ints -/
def inD (k : Int) : V × PyData := (V.int k, PyData.int k)
theorem inD_le (a b : Int) : PySem.W.dataLe false (fun x : V × PyData => x.2) (inD a) (inD b) = decide (a ≤ b) := congrFun (congrFun (PySem.W.dataLe_int (fun i : Int => i)) a) b
theorem sorted_ints' (l : List Int) : (((l.map inD).mergeSort (PySem.W.dataLe false (·.2))).map (·.1)) = (l.mergeSort fun a b => decide (a ≤ b)).map V.int := by
  have h := List.map_mergeSort (f := inD) (r := fun a b => decide (a ≤ b)) (s := PySem.W.dataLe false (fun x : V × PyData => x.2)) (l := l) (fun a _ b _ => (inD_le a b).symm)
  rw [← h, List.map_map]
  rfl
theorem reads_ints {h : Heap} : ∀ {l : List Int} {us : List Value}, Vals ((l.map inD).map (·.1)) us → PySem.W.EachIs (fun u (b : V × PyData) => ∃ as, Reads h u b.2 as) us (l.map inD)
  | [], _, .nil => .nil
  | c :: l, _, .cons r t => by
    obtain ⟨k, rfl⟩ := r
    exact .cons ⟨_, .int _ k⟩ (reads_ints t)
theorem alike_ints' (l : List Int) : PySem.W.AllAlike ((l.map inD).map (·.2)) := by
  intro d hd e he
  obtain ⟨b, hb, rfl⟩ := List.mem_map.mp hd
  obtain ⟨b', hb', rfl⟩ := List.mem_map.mp he
  obtain ⟨c, _, rfl⟩ := List.mem_map.mp hb
  obtain ⟨c', _, rfl⟩ := List.mem_map.mp hb'
  rfl
theorem sortable_ints (l : List Int) : PySem.W.Sortable ((l.map inD).map (·.2)) := .inr fun d hd => by
  obtain ⟨b, hb, rfl⟩ := List.mem_map.mp hd
  obtain ⟨c, _, rfl⟩ := List.mem_map.mp hb
  exact ⟨fun z => (by cases z), fun xs z => (by cases z)⟩
theorem vals_perm_ints {us vs : List Value} (p : us.Perm vs) : ∀ {l : List Int}, Vals (l.map V.int) vs → ∃ l' : List Int, l'.Perm l ∧ Vals (l'.map V.int) us := by
  induction p with
  | nil =>
    intro l r
    exact ⟨l, .refl _, r⟩
  | cons x p ih =>
    intro l r
    cases l with
    | nil => cases r
    | cons k l =>
      cases r with
      | cons h t =>
        obtain ⟨l', h1, h2⟩ := ih t
        exact ⟨k :: l', h1.cons k, .cons h h2⟩
  | swap x y l0 =>
    intro l r
    match l, r with
    | a :: b :: l, .cons h1 (.cons h2 t) => exact ⟨b :: a :: l, .swap a b l, .cons h2 (.cons h1 t)⟩
  | trans p1 p2 ih1 ih2 =>
    intro l r
    obtain ⟨l2, h1, h2⟩ := ih2 r
    obtain ⟨l3, h3, h4⟩ := ih1 h2
    exact ⟨l3, h3.trans h1, h4⟩
/-- the strictly rising list of a list without doubles -/
theorem merge_rise {l : List Int} (nd : l.Nodup) : (l.mergeSort fun a b => decide (a ≤ b)).Pairwise (· < ·) := by
  have h := List.pairwise_mergeSort (le := fun a b : Int => decide (a ≤ b)) (fun a b c h1 h2 => by simp at h1 h2 ⊢; omega) (fun a b => by simp; omega) l
  have n := (List.mergeSort_perm l fun a b : Int => decide (a ≤ b)).nodup_iff.mpr nd
  generalize (l.mergeSort fun a b => decide (a ≤ b)) = m at h n
  induction m with
  | nil => exact .nil
  | cons x m ih =>
    obtain ⟨h1, h2⟩ := List.pairwise_cons.mp h
    obtain ⟨n1, n2⟩ := List.nodup_cons.mp n
    refine List.pairwise_cons.mpr ⟨fun y hy => ?_, ih h2 n2⟩
    have := h1 y hy
    simp at this
    have : x ≠ y := fun e => n1 (by rw [e]; exact hy)
    omega
def rSortSetI (w : World) : List V → Hp → VK → Prop := fun vs H Q => ∃ (a : Addr) (S : Int → Bool) (n : Nat), vs = [V.ref a] ∧ H a = some (SetO w a S n) ∧
  ∀ (ns : List Int) (p : Addr), ns.Pairwise (· < ·) → (∀ k : Int, k ∈ ns ↔ S k = true) → ns.length = n → H p = none → Q (.ref p) (upd H p (.lst (ns.map V.int)))
theorem cr_sortSetI (hc : X.calm = true) (hu : X.A.units + 64 < cLine) : CallR X (.builtin "sorted") (rSortSetI X.w) := by
  intro pins s σ H vs us Q I r h
  obtain ⟨a, S, n, rfl, ha, q⟩ := h
  obtain ⟨o, es, ep, t, ho, hex, hd, g, nd, hm, hb, hf, hn, hr, hl⟩ := setO_get I ha
  rw [Vals.ref1 r]
  refine sorted_coll (collect_set (A := X.A.in1) (I.ok.hd hc) ⟨o, ho, hex.1, hd⟩ hf hb hr hl fun s1 out hk hz hg ho1 pm => ?_)
  have r0 : Vals ((es.toList.map keyOf).map V.int) (es.toList.map (·.2)) := by
    have key : ∀ l : List (Int × Value), (∀ e ∈ l, GoodE e) → Vals ((l.map keyOf).map V.int) (l.map (·.2)) := by
      intro l
      induction l with
      | nil => intro _; exact .nil
      | cons e l ih =>
        intro gg
        obtain ⟨k, tk, h1, _⟩ := gg e List.mem_cons_self
        have e3 : keyOf e = k := by unfold keyOf; rw [h1] <;> rfl
        refine .cons ⟨tk, ?_⟩ (ih fun e' he' => gg e' (List.mem_cons_of_mem _ he'))
        rw [e3]
        exact h1
    exact key _ g
  obtain ⟨l, pl, rl⟩ := vals_perm_ints pm r0
  have rv : Vals ((l.map inD).map (·.1)) out := by
    rw [List.map_map]
    exact rl
  have hlen : out.length = n := by rw [pm.length_eq, List.length_map, Array.length_toList]; exact hn
  have hl2 : l.length = n := by rw [← hlen, ← rl.length, List.length_map]
  have hsz : n ≤ sizeLine := by
    have : n < 4096 := by rw [← hn]; exact hb
    rw [sizeLine_eq]
    omega
  refine ⟨by rw [hlen]; exact hsz, hk, l.map inD, vals_each rv, reads_ints rv, alike_ints' _, sortable_ints _, fun b hb => ?_, fun out2 c h' ho2 he hat hold => ?_⟩
  · obtain ⟨c, _, rfl⟩ := List.mem_map.mp hb
    show X.A.units + 2 + 0 < cLine
    omega
  · have rv2 := vals_of_each he
    rw [sorted_ints'] at rv2
    have I1 : Inv X pins σ H { s with heap := s1.heap, gens := s1.gens, drawn := s1.drawn, toks := s1.toks } := I.call (ch := []) (Un.kept hk) (I.hok.kept hk) (by rw [hg]; exact I.bare) (fun _ z => nomatch z)
    have hn1 : H s1.heap.objs.size = none := I1.hok.fresh (Nat.le_refl _)
    have J := I1.laid (a := s1.heap.objs.size) (o := .lst ((l.mergeSort fun a b => decide (a ≤ b)).map V.int)) (h' := h') (t' := s1.toks) hold (Nat.le_refl _) ⟨by rw [List.length_map, List.length_mergeSort, hl2]; exact hsz, out2, c, rv2, hat⟩
    have e : ({ s1 with heap := h' } : Shared) = { s with heap := h', gens := s1.gens, drawn := s1.drawn, toks := s1.toks } := by
      cases s1
      cases s
      cases ho1
      rfl
    rw [e]
    have pp := List.mergeSort_perm l fun a b : Int => decide (a ≤ b)
    refine ⟨.ref _, _, J, rfl, q _ _ (merge_rise (pl.nodup_iff.mpr nd)) (fun k => ?_) (by rw [List.length_mergeSort, hl2]) hn1⟩
    rw [pp.mem_iff, pl.mem_iff, hm k]
end
end KM
/-! text KW10 -/
set_option Elab.async false
set_option linter.all false
set_option maxRecDepth 100000
set_option maxHeartbeats 4000000
namespace KM
open PySem PySem.Spec PyProof.Rows L2
section
variable {J : It} {n : Nat} {G : Hp → Prop} {Y : Nat → Hp → V → Hp → Prop} {g : TG} {tt : TT} {te : TE} {vs : List Nat} {σ : L2.St} {H1 : Hp} {w : World}
theorem si_map {D : Addr} {Qd : Hp → Prop} (hD : H1 D = none) (wk : Walk J n G Y) (hG : ∀ H', Same H1 H' → G H') (outs : Nat → List Int) (h0 : outs 0 = []) (hz : ∀ i, i ≤ n → ∀ ds : List Int, ds.Nodup → (∀ k ∈ ds, k ∈ outs i) → ds.length + 1 < scanBound)
    (hs : ∀ (i : Nat) (x : V) (Hc H' : Hp) (Post : V → Hp → Prop) (Skip : Hp → Prop), i < n → Same H1 Hc → Y i Hc x H' → (∀ k H4, Same Hc H4 → outs (i + 1) = outs i ++ [k] → Post (.int k) H4) → (∀ H3, Same Hc H3 → outs (i + 1) = outs i → Skip H3) →
      g x (wipe σ vs) H' fun σ2 H2 => wipe σ2 vs = wipe σ vs ∧ tt σ2 H2 fun b H3 => if b = true then te σ2 H3 Post else Skip H3)
    (hd : ∀ (H' : Hp) (S : Int → Bool) (c : Nat), Same H1 H' → H' D = some (SetO w D S c) → (∀ k, S k = true ↔ k ∈ outs n) → Qd H') :
    ∃ W : Nat → Nat → Hp → Prop, (∃ m, W 0 m (upd H1 D (SetO w D (fun _ => false) 0))) ∧ ∀ i m H, W i m H →
      (J.stop i H ∧ Qd H) ∨ (J.go i H ∧ ∃ Nx : Hp → Prop, (∀ H', Nx H' → ∃ m', m' < m ∧ W (i + 1) m' H') ∧ ∀ x H', J.yld i H x H' → g x (wipe σ vs) H' fun σ2 H2 => wipe σ2 vs = wipe σ vs ∧ tt σ2 H2 fun b H3 =>
        if b = true then accSI w te σ2 H3 D Nx else Nx H3) := by
  refine ⟨fun i m H => m = n - i ∧ i ≤ n ∧ Same H1 H ∧ ∃ (S : Int → Bool) (ds : List Int), H D = some (SetO w D S ds.length) ∧ ds.Nodup ∧ (∀ k, S k = true ↔ k ∈ ds) ∧ ∀ k, k ∈ ds ↔ k ∈ outs i, ⟨n, by simp, Nat.zero_le _, same_upd hD, fun _ => false, [], upd_same, .nil, fun k => by simp, fun k => by rw [h0]⟩, ?_⟩
  rintro i m H ⟨rfl, hi, s1, S, ds, ha, nd, hS, hk⟩
  have q := hG H s1
  by_cases hlt : i < n
  · refine .inr ⟨wk.goes i H hlt q, fun H' => Same H1 H' ∧ ∃ (S : Int → Bool) (ds : List Int), H' D = some (SetO w D S ds.length) ∧ ds.Nodup ∧ (∀ k, S k = true ↔ k ∈ ds) ∧ ∀ k, k ∈ ds ↔ k ∈ outs (i + 1), fun H' z => ⟨n - (i + 1), by omega, rfl, hlt, z⟩, fun x H' y => ?_⟩
    refine hs i x H H' (fun y H1' => ∃ (k : Int) (S : Int → Bool) (n : Nat), y = .int k ∧ H1' D = some (SetO w D S n) ∧ n + 1 < scanBound ∧ _) _ hlt s1 (wk.yields i H x H' hlt q y) (fun k H4 s4 ho => ?_) (fun H3 s3 ho => ⟨s1.trans s3, S, ds, s3 _ _ ha, nd, hS, fun k => by rw [ho]; exact hk k⟩)
    refine ⟨k, S, ds.length, rfl, s4 _ _ ha, hz i hi ds nd fun k' h' => (hk k').mp h', same_new (s1.trans s4) hD, ?_⟩
    by_cases hin : k ∈ ds
    · refine ⟨fun j => S j || decide (j = k), ds, ?_, nd, fun j => ?_, fun j => ?_⟩
      · rw [(hS k).mpr hin, if_pos rfl]
        exact upd_same
      · rw [Bool.or_eq_true, hS j, decide_eq_true_iff]
        constructor
        · rintro (h | rfl)
          · exact h
          · exact hin
        · exact .inl
      · rw [ho, List.mem_append, List.mem_singleton, ← hk j]
        constructor
        · exact .inl
        · rintro (h | rfl)
          · exact h
          · exact hin
    · have hSk : ¬ S k = true := fun h => hin ((hS k).mp h)
      refine ⟨fun j => S j || decide (j = k), ds ++ [k], ?_, ?_, fun j => ?_, fun j => ?_⟩
      · rw [if_neg hSk, List.length_append]
        exact upd_same
      · rw [List.nodup_append]
        refine ⟨nd, by simp, fun a h1 b h2 => ?_⟩
        rw [List.mem_singleton.mp h2]
        exact fun e => hin (by rw [← e]; exact h1)
      · rw [Bool.or_eq_true, hS j, decide_eq_true_iff, List.mem_append, List.mem_singleton]
      · rw [ho, List.mem_append, List.mem_append, hk j]
  · have e : i = n := by omega
    subst e
    exact .inl ⟨wk.stops H q, hd H S _ s1 ha fun k => (hS k).trans (hk k)⟩
end
theorem atI0 {α : Type} {l : List α} {a : α} (h : l[0]? = some a) : atI l 0 = some a := atI_nat (j := 0) h
/-- one sign -/
def cV (c : Nat) : V := .str ⟨#[c]⟩
/-- a place's distance -/
def dOf (rows : List (Nat × Nat)) (p : Nat) : Nat := ((rows.find? fun r => decide (r.1 = p)).map (·.2)).getD 0
theorem dOf_mem {M : Mch} {rows : List (Nat × Nat)} (h : LeftOk M rows) {p d : Nat} (a : (p, d) ∈ rows) : (p, dOf rows p) ∈ rows := by
  unfold dOf
  cases e : rows.find? fun r => decide (r.1 = p) with
  | none => exact absurd (decide_eq_true rfl) (List.find?_eq_none.mp e (p, d) a)
  | some r =>
    have h1 : r.1 = p := of_decide_eq_true (List.find?_some (p := fun r : Nat × Nat => decide (r.1 = p)) e)
    have h2 := List.mem_of_find?_eq_some e
    rw [← h1]
    exact h2
theorem dOf_eq {M : Mch} {rows : List (Nat × Nat)} (h : LeftOk M rows) {p d : Nat} (a : (p, d) ∈ rows) : dOf rows p = d := h.uniq (dOf_mem h a) a
section
variable {P : Program} {w : World} {K : PySem.W.Frag} {mg : Str → Option Value} {base : Heap}
def spNearest (C : Addr) : Sp := fun vs H Q _ => ∃ (x pl l : Addr) (M : Mch) (ps : List Nat) (rows : List (Nat × Nat)), vs = [.ref x, .ref pl, .ref l] ∧ MachAt C H x M ∧ M.WF ∧ H pl = some (.lst (ps.map nV)) ∧ ps.length ≤ 1000 ∧ ps ≠ [] ∧ H l = some (.dK (lrows rows)) ∧ LeftOk M rows ∧
  (∀ p ∈ ps, ∃ d, (p, d + 1) ∈ rows) ∧ ∀ (t pl' : Addr) (c : Nat) (qs : List Nat) H', Same H H' → H' t = some (.tup [cV c, .ref pl']) → H' pl' = some (.lst (qs.map nV)) → qs.length ≤ 1000 → Near M rows ps c qs → Q (.ref t) H'
abbrev nmNearest : List Str := ["machine", "places", "left", "place", "many", "near", "signs", "other", "ways", "sign"]
theorem scNearest : FnScope nmNearest ["machine", "places", "left"] (defScope sNearest) := ⟨rfl, rfl, rfl, by decide +kernel, rfl, by decide +kernel, by decide +kernel⟩
theorem paired_vals {β : Type} {f : β → V} : ∀ {acc : List V} {bs : List β}, Paired (fun v b => v = f b) acc bs → acc = bs.map f
  | _, _, .nil => rfl
  | _, _, .cons r t => by rw [r, paired_vals t] <;> rfl
theorem ok_nearest {C f fi : Addr} {fd : FuncData} (F : FnP K "nearest" "nearest" sNearest f fd) (B : Bi mg) (T : MC K mg C fi) : FnOk P w K mg base CX0 1 f fd ["machine", "places", "left"] (spNearest C) := by
  refine F.okP scNearest (fun vs H Q E h => ?_) (fun cdv A outer s H vs Q E hr h => ?_)
  · obtain ⟨x, pl, l, M, ps, rows, rfl, _⟩ := h
    rfl
  · obtain ⟨x, pl, l, M, ps, rows, rfl, hM, wf, hpl, plen, pne, hl, lo_, hps, q⟩ := h
    refine ⟨_, pss_cons (ps_set (i := 4) scNearest.nd rfl (.inr rfl) (pe_op op_sub (pe_callB (cr_min rfl) (by rfl) B.min (by decide +kernel) (pa_cons (pe_lc (own := [("place", 3)]) (g := gName 3) (tt := tYes) rfl scNearest.nd (pi_list (pv 1))
        (blkOk_by (N := nmNearest) (sc := defScope sNearest) (by decide +kernel)) (fun _ _ _ _ _ => pg_name (i := 3) scNearest.nd rfl (.inl rfl)) (fun _ _ _ _ _ => pts_nil)
        (fun _ _ _ _ _ => pe_dget (by exact Nat.lt_of_le_of_lt (Nat.add_le_add_left (by decide) _) (hu64 hr)) (pv 2) (pv 3) (fun _ _ => rfl))) pa_nil)) pe_int))
      (pss_cons (ps_setLc (i := 5) (own := [("place", 3)]) (g := gName 3) rfl scNearest.nd rfl rfl (sw_true rfl rfl rfl (by decide +kernel)) (pi_list (pv 1))
        (blkOk_by (N := nmNearest) (sc := defScope sNearest) (by decide +kernel)) (fun _ _ _ _ _ => pg_name (i := 3) scNearest.nd rfl (.inl rfl))
        (fun _ _ _ _ _ => pts_one (pt_cmpR op_eq (pe_dget (by exact Nat.lt_of_le_of_lt (Nat.add_le_add_left (by decide) _) (hu64 hr)) (pv 2) (pv 3) (fun _ _ => rfl)) (pe_op op_add (pv 4) pe_int) (nomark _))) (fun _ _ _ _ _ => pv 3))
      (pss_cons (ps_setLc2 (i := 8) (own := [("place", 3), ("signs", 6), ("other", 7)]) (vs1 := [6, 7]) (wi1 := iList K (tOp (rIxL K) (tFld K (tVar 0) "onward") (tVar 3))) (g := gName 3) (tt := tYes) (g1 := gTup K 2 (gCons (gName 6) (gCons (gName 7) gNil))) rfl scNearest.nd rfl rfl (by unfold swapsWith; rfl) (pi_list (pv 5))
        (blkOk_by (N := nmNearest) (sc := defScope sNearest) (by decide +kernel)) (by decide) (fun _ _ _ _ _ => pg_name (i := 3) scNearest.nd rfl (.inl rfl)) (fun _ _ _ _ _ => pts_nil)
        (fun _ _ _ _ _ => pi_list (pe_ix ix_list (pe_fld (pv 0) rfl) (pv 3) (fun _ _ => rfl)))
        (fun _ _ _ _ _ => pg_tup rfl (pgs_cons (pg_name (i := 6) scNearest.nd rfl (.inl rfl)) (pgs_cons (pg_name (i := 7) scNearest.nd rfl (.inl rfl)) pgs_nil)))
        (fun _ _ _ _ _ => pts_one (pt_cmpR op_eq (pe_dget1 (by exact Nat.lt_of_le_of_lt (Nat.add_le_add_left (by decide) _) (hu64 hr)) (pv 2) (pv 7) ⟨rfl, rfl, rfl, rfl⟩) (pv 4) (nomark _)))
        (fun _ _ _ _ _ => pe_tup (pa_cons (pv 6) (pa_cons (pv 7) pa_nil))))
      (pss_cons (ps_set (i := 9) scNearest.nd rfl (.inr rfl) (pe_callB (cr_minS rfl) (by rfl) B.min (by decide +kernel) (pa_cons (pe_lc (own := [("signs", 6), ("other", 7)]) (g := gTup K 2 (gCons (gName 6) (gCons (gName 7) gNil))) (tt := tYes) rfl scNearest.nd (pi_list (pv 8))
        (blkOk_by (N := nmNearest) (sc := defScope sNearest) (by decide +kernel)) (fun _ _ _ _ _ => pg_tup rfl (pgs_cons (pg_name (i := 6) scNearest.nd rfl (.inl rfl)) (pgs_cons (pg_name (i := 7) scNearest.nd rfl (.inl rfl)) pgs_nil))) (fun _ _ _ _ _ => pts_nil)
        (fun _ _ _ _ _ => pe_ix ix_str (pv 6) pe_int (fun _ _ => rfl))) pa_nil)))
      (pss_one (ps_ret (pe_tup (pa_cons (pv 9) (pa_cons (pe_callB (cr_sortSetI rfl (by exact hu64 hr)) (by rfl) B.sorted (by decide +kernel) (pa_cons (pe_scI (own := [("signs", 6), ("other", 7)]) (g := gTup K 2 (gCons (gName 6) (gCons (gName 7) gNil))) rfl scNearest.nd (pi_list (pv 8))
        (blkOk_by (N := nmNearest) (sc := defScope sNearest) (by decide +kernel)) (fun _ _ _ _ _ => pg_tup rfl (pgs_cons (pg_name (i := 6) scNearest.nd rfl (.inl rfl)) (pgs_cons (pg_name (i := 7) scNearest.nd rfl (.inl rfl)) pgs_nil)))
        (fun _ _ _ _ _ => pts_one (pt_cmpR op_in_sign (pv 9) (pv 6) rfl)) (fun _ _ _ _ _ => pv 7)) pa_nil)) pa_nil)))))))), ?_⟩
    obtain ⟨dx, tb, ts, te, lo, sv, las, h1, h2, h3, h4, h5, h6, h7, h8⟩ := hM.ex
    have m1000 := wf.mLe
    have line : (1000000 : Nat) < sizeLine := by decide
    have hpd : ∀ p ∈ ps, (p, dOf rows p) ∈ rows ∧ 0 < dOf rows p := fun p hp => by
      obtain ⟨d, hd⟩ := hps p hp
      have e := dOf_eq lo_ hd
      rw [e]
      exact ⟨hd, Nat.succ_pos d⟩
    have hval : ∀ p ∈ ps, valV (lrows rows) (Sum.inl (p : Int)) = some (.int (dOf rows p : Int)) := fun p hp => lrows_at lo_.nd (hpd p hp).1
    -- the least distance
    refine ⟨_, rfl, pl, rfl, ⟨_, .inl (.inl hpl)⟩, fun D hD => ?_⟩
    refine lc_map hD (β := Int) (fun _ v b => v = .int b) (fun _ _ _ _ _ z => z) (walk_list (xs := ps.map nV)) (fun _ s1 => .inl (.inl (s1 _ _ hpl))) (fun i => (ps.take i).map fun p => (dOf rows p : Int)) rfl (by rw [List.length_map]; omega) (fun i y Hc H' Post Skip hi sc hy k1 k2 => ?_) (fun H1 acc s1 ha hp => ?_)
    · obtain ⟨rfl, hy⟩ := hy
      rw [List.getElem?_map] at hy
      cases hp : ps[i]? with
      | none => rw [hp] at hy; cases hy
      | some p =>
        rw [hp] at hy
        cases hy
        refine ⟨rfl, _, rfl, _, rfl, l, _, rfl, (hval p (List.mem_of_getElem? hp)) ▸ DGet.k (k := Sum.inl (p : Int)) (sc _ _ hl), k1 _ _ _ (Same.refl _) rfl ?_⟩
        rw [List.take_succ, hp, List.map_append]
        rfl
    rw [paired_vals hp, List.length_map, List.take_length] at ha
    refine ⟨D, _, rfl, .inl (.inl ha), by rw [List.length_map]; exact List.length_pos_iff.mpr pne, fun m1 hm1 hle => ?_⟩
    obtain ⟨p0, hp0, rfl⟩ := List.mem_map.mp hm1
    obtain ⟨m, hm⟩ : ∃ m, dOf rows p0 = m + 1 := ⟨dOf rows p0 - 1, by have := (hpd p0 hp0).2; omega⟩
    have hmin : ∀ p ∈ ps, m + 1 ≤ dOf rows p := fun p hp => by
      have := hle _ (List.mem_map.mpr ⟨p, hp, rfl⟩)
      omega
    rw [hm]
    refine ⟨_, _, rfl, rfl, ?_⟩
    have em : ((m + 1 : Nat) : Int) - 1 = (m : Int) := by omega
    simp only [em]
    -- near
    refine ⟨_, rfl, pl, rfl, ⟨_, .inl (.inl (s1 _ _ hpl))⟩, fun Nr hNr => ?_⟩
    refine lc_map hNr (β := Nat) (fun _ v b => v = nV b) (fun _ _ _ _ _ z => z) (walk_list (xs := ps.map nV)) (fun _ s2 => .inl (.inl (s2 _ _ (s1 _ _ hpl)))) (fun i => (ps.take i).filter fun p => decide (dOf rows p = m + 1)) rfl (by rw [List.length_map]; omega) (fun i y Hc H' Post Skip hi sc hy k1 k2 => ?_) (fun H2 acc2 s2 ha2 hp2 => ?_)
    · obtain ⟨rfl, hy⟩ := hy
      rw [List.getElem?_map] at hy
      cases hp : ps[i]? with
      | none => rw [hp] at hy; cases hy
      | some p =>
        rw [hp] at hy
        cases hy
        have ext : (ps.take (i + 1)).filter (fun p => decide (dOf rows p = m + 1)) = (ps.take i).filter (fun p => decide (dOf rows p = m + 1)) ++ (if dOf rows p = m + 1 then [p] else []) := by
          rw [List.take_succ, hp, List.filter_append]
          congr 1
          by_cases h : dOf rows p = m + 1 <;> simp [h]
        refine ⟨rfl, _, rfl, _, rfl, l, _, rfl, (hval p (List.mem_of_getElem? hp)) ▸ DGet.k (k := Sum.inl (p : Int)) (sc _ _ (s1 _ _ hl)), _, rfl, _, _, rfl, rfl, rfl, _, rfl, ?_⟩
        by_cases h : dOf rows p = m + 1
        · rw [decide_eq_true (by rw [h]; rfl)]
          refine iteT ⟨_, rfl, k1 _ _ p (Same.refl _) rfl ?_⟩
          rw [ext, if_pos h]
        · rw [decide_eq_false fun e => h ?_]
          · refine iteF (k2 _ (Same.refl _) ?_)
            rw [ext, if_neg h, List.append_nil]
          · have := V.int.inj e
            omega
    rw [paired_vals hp2, List.length_map, List.take_length] at ha2
    have s12 := s1.trans s2
    obtain ⟨nr, hnr⟩ : ∃ nr, (ps.filter fun p => decide (dOf rows p = m + 1)) = nr := ⟨_, rfl⟩
    rw [hnr] at ha2
    have nmem : ∀ p, p ∈ nr ↔ p ∈ ps ∧ (p, m + 1) ∈ rows := fun p => by
      rw [← hnr, List.mem_filter, decide_eq_true_iff]
      constructor
      · rintro ⟨h1, h2⟩
        exact ⟨h1, by rw [← h2]; exact (hpd p h1).1⟩
      · rintro ⟨h1, h2⟩
        exact ⟨h1, dOf_eq lo_ h2⟩
    have nlen : nr.length ≤ 1000 := by
      rw [← hnr]
      exact Nat.le_trans (List.length_filter_le _ _) plen
    have onwlen : ∀ p, (M.onw p).length ≤ 1000 := fun p => by
      unfold Mch.onw
      rw [List.length_map]
      exact Nat.le_trans (List.length_filter_le _ _) wf.st.len
    -- ways
    let ok2 : List Nat × Nat → Bool := fun e => decide ((e.2, m) ∈ rows)
    refine ⟨_, rfl, Nr, rfl, ⟨_, .inl (.inl ha2)⟩, fun Wy hWy => ?_⟩
    refine lc2_map hWy OnwAt (fun _ _ _ _ e r => r.mono e) (walk_list (xs := nr.map nV)) (fun _ s3 => .inl (.inl (s3 _ _ ha2))) (fun i => (nr.take i).flatMap fun p => (M.onw p).filter ok2) rfl (fun i y Hc H' Go Skip hi sc hy go skip => ?_) (fun H3 acc3 s3 ha3 hp3 => ?_)
    · obtain ⟨rfl, hy⟩ := hy
      rw [List.getElem?_map] at hy
      cases hp : nr[i]? with
      | none => rw [hp] at hy; cases hy
      | some p =>
        rw [hp] at hy
        cases hy
        have hpm := (nmem p).mp (List.mem_of_getElem? hp)
        have pl_ : p < las.length := by rw [h7]; exact lo_.lt _ hpm.2
        have hla : las[p]? = some las[p] := List.getElem?_eq_getElem pl_
        obtain ⟨ov, o1, o2⟩ := h8 p las[p] hla
        have sc' := s12.trans sc
        refine ⟨rfl, _, rfl, x, C, dx, _, _, rfl, sc' _ _ h1, T.cl, T.nOnward, mf_onward _ _ _ _ _, _, rfl, lo, _, (p : Int), .ref las[p], rfl, rfl, .inl (.inl (sc' _ _ h6)), atI_nat (by rw [List.getElem?_map, hla]; rfl), las[p], rfl, ⟨_, .inl (.inl (sc' _ _ o1))⟩, go _ _ _ (Same.refl _) ?_⟩
        refine ⟨ov.length, _, _, fun j => ((nr.take i).flatMap fun p => (M.onw p).filter ok2) ++ ((M.onw p).take j).filter ok2, walk_list, fun Hd sd _ => .inl (.inl ((s12.trans sd) _ _ o1)), by simp, ?_, fun j y Hd Hd' Post Skip hj sd td hy k1 k2 => ?_⟩
        · show ((nr.take i).flatMap fun p => (M.onw p).filter ok2) ++ ((M.onw p).take ov.length).filter ok2 = (nr.take (i + 1)).flatMap fun p => (M.onw p).filter ok2
          rw [Paired.length o2, List.take_length, List.take_succ, hp, List.flatMap_append]
          show _ = _ ++ [p].flatMap _
          rw [List.flatMap_singleton]
        · obtain ⟨rfl, hv⟩ := hy
          obtain ⟨⟨sg, q'⟩, e2, u, rfl, hu⟩ := paired_get o2 hv
          have sd' := s12.trans sd
          have hu' := sd' _ _ hu
          have ext : ((M.onw p).take (j + 1)).filter ok2 = ((M.onw p).take j).filter ok2 ++ (if ok2 (sg, q') = true then [(sg, q')] else []) := by
            rw [List.take_succ, e2, List.filter_append]
            congr 1
            show [(sg, q')].filter ok2 = _
            by_cases h : ok2 (sg, q') = true <;> simp [h]
          refine ⟨u, _, rfl, .inl (.inl hu'), rfl, _, _, rfl, _, _, rfl, rfl, ?_⟩
          refine ⟨rfl, _, rfl, l, rfl, .inl ⟨_, .inl (sd' _ _ hl)⟩, _, rfl, _, DGet.k (k := Sum.inl (q' : Int)) (sd' _ _ hl), _, rfl, ?_⟩
          have small : (((nr.take i).flatMap fun p => (M.onw p).filter ok2) ++ ((M.onw p).take j).filter ok2).length < sizeLine := by
            have key : ∀ L : List Nat, (L.flatMap fun p => (M.onw p).filter ok2).length ≤ L.length * 1000 := by
              intro L
              induction L with
              | nil => exact Nat.le_refl _
              | cons a L ih =>
                rw [List.flatMap_cons, List.length_append, List.length_cons]
                have := Nat.le_trans (List.length_filter_le ok2 (M.onw a)) (onwlen a)
                omega
            have k1 := key (nr.take i)
            have k2 : (((M.onw p).take j).filter ok2).length ≤ 1000 := Nat.le_trans (List.length_filter_le _ _) (Nat.le_trans (by rw [List.length_take]; exact Nat.min_le_right _ _) (onwlen p))
            have k3 : (nr.take i).length ≤ 1000 := Nat.le_trans (by rw [List.length_take]; exact Nat.min_le_right _ _) nlen
            rw [List.length_append]
            have : (2000000 : Nat) < sizeLine := by decide
            omega
          by_cases hq : (q', m) ∈ rows
          · have ev := lrows_at lo_.nd hq
            rw [ev]
            have hok : ok2 (sg, q') = true := decide_eq_true hq
            refine ⟨rfl, true, by show V.bl (decide (V.int (m : Int) = V.int (m : Int))) = _; rw [decide_eq_true rfl], iteT ?_⟩
            refine ⟨_, rfl, _, rfl, (by show 2 ≤ sizeLine; decide), fun t ht => k1 _ _ (sg, q') (same_upd ht) ⟨t, rfl, upd_same⟩ ?_ small⟩
            show ((nr.take i).flatMap fun p => (M.onw p).filter ok2) ++ ((M.onw p).take (j + 1)).filter ok2 = (((nr.take i).flatMap fun p => (M.onw p).filter ok2) ++ ((M.onw p).take j).filter ok2) ++ [(sg, q')]
            rw [ext, if_pos hok, List.append_assoc]
          · have hok : ¬ ok2 (sg, q') = true := fun e => hq (of_decide_eq_true e)
            have fin : ((nr.take i).flatMap fun p => (M.onw p).filter ok2) ++ ((M.onw p).take (j + 1)).filter ok2 = ((nr.take i).flatMap fun p => (M.onw p).filter ok2) ++ ((M.onw p).take j).filter ok2 := by
              rw [ext, if_neg hok, List.append_nil]
            cases ev : valV (lrows rows) (Sum.inl (q' : Int)) with
            | none => exact ⟨rfl, false, by show V.bl (decide (V.non = V.int (m : Int))) = _; rw [decide_eq_false (fun e => by cases e)], iteF (k2 _ (Same.refl _) fin)⟩
            | some v =>
              obtain ⟨r, hr, er⟩ := List.mem_map.mp (valV_mem ev)
              obtain ⟨e3, e4⟩ := Prod.mk.inj er
              have e3 := inl_inj e3
              subst e4
              have ne : ¬ V.int (r.2 : Int) = V.int (m : Int) := fun e => hq (by
                have e5 := V.int.inj e
                have e6 : r.2 = m := by omega
                rw [← e3, ← e6]
                exact hr)
              exact ⟨rfl, false, by show V.bl (decide (V.int (r.2 : Int) = V.int (m : Int))) = _; rw [decide_eq_false ne], iteF (k2 _ (Same.refl _) fin)⟩
    rw [List.length_map, List.take_length] at hp3
    obtain ⟨ws, hws⟩ : ∃ ws, (nr.flatMap fun p => (M.onw p).filter ok2) = ws := ⟨_, rfl⟩
    rw [hws] at hp3
    have wmem : ∀ sg z, (sg, z) ∈ ws ↔ ∃ p ∈ ps, (p, m + 1) ∈ rows ∧ (p, sg, z) ∈ M.steps ∧ (z, m) ∈ rows := fun sg z => by
      rw [← hws, List.mem_flatMap]
      constructor
      · rintro ⟨p, hp, he⟩
        obtain ⟨a, b⟩ := (nmem p).mp hp
        obtain ⟨c, d⟩ := List.mem_filter.mp he
        exact ⟨p, a, b, mem_onw.mp c, of_decide_eq_true d⟩
      · rintro ⟨p, a, b, c, d⟩
        exact ⟨p, (nmem p).mpr ⟨a, b⟩, List.mem_filter.mpr ⟨mem_onw.mpr c, decide_eq_true d⟩⟩
    have s13 := s12.trans s3
    have wlen : ws.length ≤ 1000000 := by
      rw [← hws]
      have key : ∀ L : List Nat, (L.flatMap fun p => (M.onw p).filter ok2).length ≤ L.length * 1000 := by
        intro L
        induction L with
        | nil => exact Nat.le_refl _
        | cons a L ih =>
          rw [List.flatMap_cons, List.length_append, List.length_cons]
          have := Nat.le_trans (List.length_filter_le ok2 (M.onw a)) (onwlen a)
          omega
      have := key nr
      omega
    have okw : ∀ e ∈ ws, SgOk e.1 ∧ e.2 < M.many := fun e he => by
      obtain ⟨p, _, _, c, _⟩ := (wmem e.1 e.2).mp he
      have := wf.st.each _ c
      exact ⟨this.sg, this.l2⟩
    -- some way leads on
    have wne : ws ≠ [] := fun e0 => by
      have hp0r : (p0, m + 1) ∈ rows := by rw [← hm]; exact (hpd p0 hp0).1
      obtain ⟨v, hv, e, he, pa⟩ := lo_.path _ hp0r
      have hv : v.length = m + 1 := hv
      cases v with
      | nil => cases hv
      | cons b y =>
        obtain ⟨sg, z, hst, hb, pz⟩ := path_cons_iff.mp pa
        have oz : Out M z y := ⟨e, he, pz⟩
        obtain ⟨dz, hdz, lz⟩ := lo_.least z y oz
        obtain ⟨u, hu, e2, he2, pu⟩ := lo_.path _ hdz
        have hu : u.length = dz := hu
        have a := lo_.le hp0r ⟨e2, he2, Path.cons hst hb pu⟩
        rw [List.length_cons] at a hv
        have : dz = m := by omega
        subst this
        have : (sg, z) ∈ ws := (wmem sg z).mpr ⟨p0, hp0, hp0r, hst, hdz⟩
        rw [e0] at this
        cases this
    have al3 : acc3.length = ws.length := Paired.length hp3
    -- the least sign
    refine ⟨_, rfl, Wy, rfl, ⟨_, .inl (.inl ha3)⟩, fun Sg hSg => ?_⟩
    refine lc_map hSg (β := Str) (fun _ v b => v = .str b) (fun _ _ _ _ _ z => z) (walk_list (xs := acc3)) (fun _ s4 => .inl (.inl (s4 _ _ ha3))) (fun i => (ws.take i).map fun e => (⟨#[e.1.headD 0]⟩ : Str)) rfl (by omega) (fun i y Hc H' Post Skip hi sc hy k1 k2 => ?_) (fun H4 acc4 s4 ha4 hp4 => ?_)
    · obtain ⟨rfl, hy⟩ := hy
      obtain ⟨⟨sg, z⟩, e2, u, rfl, hu⟩ := paired_get hp3 hy
      have hu' := sc _ _ hu
      refine ⟨u, _, rfl, .inl (.inl hu'), rfl, _, _, rfl, _, _, rfl, rfl, ?_⟩
      have okS := (okw _ (List.mem_of_getElem? e2)).1
      obtain ⟨c, sg', esg⟩ := List.exists_cons_of_ne_nil okS.ne
      have esg : sg = c :: sg' := esg
      refine ⟨rfl, _, rfl, sS sg, 0, c, rfl, rfl, ?_, ?_, ?_⟩
      · rw [sS_len]
        exact Nat.le_trans okS.len (by decide)
      · rw [sS_cps, esg]
        exact atI0 rfl
      · refine k1 _ _ _ (Same.refl _) rfl ?_
        rw [List.take_succ, e2, List.map_append, esg]
        rfl
    rw [paired_vals hp4, al3, List.take_length] at ha4
    refine ⟨Sg, _, rfl, .inl (.inl ha4), by rw [List.length_map]; exact List.length_pos_iff.mpr wne, fun st hst hle2 => ?_⟩
    obtain ⟨⟨sg0, z0⟩, hw0, rfl⟩ := List.mem_map.mp hst
    obtain ⟨c, sg0', esg0⟩ := List.exists_cons_of_ne_nil (okw _ hw0).1.ne
    have esg0 : sg0 = c :: sg0' := esg0
    subst esg0
    have cmin : ∀ sg z, (sg, z) ∈ ws → ∀ d ∈ sg, c ≤ d := fun sg z hz d hd => by
      obtain ⟨c', sg', e1⟩ := List.exists_cons_of_ne_nil (okw _ hz).1.ne
      have e1 : sg = c' :: sg' := e1
      have r := (okw _ hz).1.rise
      have h1 := hle2 ⟨#[c']⟩ (List.mem_map.mpr ⟨_, hz, by rw [e1]; rfl⟩)
      have h2 : ¬ c' < c := fun lt => h1 (by show [c'] < [c]; exact List.cons_lt_cons_iff.mpr (.inl lt))
      have r2 : (c' :: sg').Pairwise (· < ·) := by rw [← e1]; exact r
      rw [e1] at hd
      rcases List.mem_cons.mp hd with rfl | hd
      · omega
      · have := (List.pairwise_cons.mp r2).1 d hd
        omega
    -- the places ahead
    refine ⟨_, rfl, _, rfl, Wy, rfl, ⟨_, .inl (.inl (s4 _ _ ha3))⟩, fun Sn hSn => ?_⟩
    have s14 := s13.trans s4
    refine si_map hSn (walk_list (xs := acc3)) (fun _ s5 => .inl (.inl (s5 _ _ (s4 _ _ ha3)))) (fun i => ((ws.take i).filter fun e => decide (c ∈ e.1)).map fun e => (e.2 : Int)) rfl (fun i _ ds nd hds => ?_) (fun i y Hc H' Post Skip hi sc hy k1 k2 => ?_) (fun H5 S n5 s5 ha5 hS5 => ?_)
    · have : ds.length ≤ ((List.range M.many).map fun p : Nat => (p : Int)).length := nodup_sub nd fun k hk => by
        obtain ⟨e, he, rfl⟩ := List.mem_map.mp (hds k hk)
        have he := List.mem_of_mem_take (List.mem_filter.mp he).1
        exact List.mem_map.mpr ⟨e.2, List.mem_range.mpr (okw e he).2, rfl⟩
      rw [List.length_map, List.length_range] at this
      have : (1001 : Nat) < scanBound := by decide
      omega
    · obtain ⟨rfl, hy⟩ := hy
      obtain ⟨⟨sg, z⟩, e2, u, rfl, hu⟩ := paired_get hp3 hy
      have hu' := sc _ _ (s4 _ _ hu)
      refine ⟨u, _, rfl, .inl (.inl hu'), rfl, _, _, rfl, _, _, rfl, rfl, ?_⟩
      have ext : ((ws.take (i + 1)).filter fun e => decide (c ∈ e.1)).map (fun e => (e.2 : Int)) = ((ws.take i).filter fun e => decide (c ∈ e.1)).map (fun e => (e.2 : Int)) ++ (if c ∈ sg then [(z : Int)] else []) := by
        rw [List.take_succ, e2, List.filter_append, List.map_append]
        congr 1
        by_cases h : c ∈ sg <;> simp [h]
      refine ⟨rfl, _, rfl, _, rfl, c, sS sg, rfl, rfl, decide (c ∈ sg), by rw [sS_cps], ?_⟩
      by_cases h : c ∈ sg
      · rw [decide_eq_true h]
        refine iteT ⟨_, rfl, k1 _ _ (Same.refl _) ?_⟩
        rw [ext, if_pos h]
      · rw [decide_eq_false h]
        refine iteF (k2 _ (Same.refl _) ?_)
        rw [ext, if_neg h, List.append_nil]
    refine ⟨Sn, S, n5, rfl, ha5, fun ns Ls rise hns _ hLs => ⟨(by show 2 ≤ sizeLine; decide), fun t ht => ?_⟩⟩
    rw [al3, List.take_length] at hS5
    have nsm : ∀ k : Int, k ∈ ns ↔ ∃ sg z, (sg, z) ∈ ws ∧ c ∈ sg ∧ k = (z : Int) := fun k => by
      rw [hns k, hS5 k]
      constructor
      · intro h
        obtain ⟨e, he, rfl⟩ := List.mem_map.mp h
        obtain ⟨a, b⟩ := List.mem_filter.mp he
        exact ⟨e.1, e.2, a, of_decide_eq_true b, rfl⟩
      · rintro ⟨sg, z, a, b, rfl⟩
        exact List.mem_map.mpr ⟨(sg, z), List.mem_filter.mpr ⟨a, decide_eq_true b⟩, rfl⟩
    have nsnat : ns.map V.int = (ns.map Int.toNat).map nV := by
      rw [List.map_map]
      refine List.map_congr_left fun k hk => ?_
      obtain ⟨_, z, _, _, rfl⟩ := (nsm k).mp hk
      rfl
    have qmem : ∀ z, z ∈ ns.map Int.toNat ↔ ∃ sg, (sg, z) ∈ ws ∧ c ∈ sg := fun z => by
      rw [List.mem_map]
      constructor
      · rintro ⟨k, hk, rfl⟩
        obtain ⟨sg, z', a, b, rfl⟩ := (nsm k).mp hk
        exact ⟨sg, a, b⟩
      · rintro ⟨sg, a, b⟩
        exact ⟨(z : Int), (nsm _).mpr ⟨sg, z, a, b, rfl⟩, rfl⟩
    refine q t Ls c (ns.map Int.toNat) _ ((s14.trans s5).trans ((same_upd hLs).trans (same_upd ht))) upd_same ?_ ?_ ⟨⟨m, fun p hp d hd => ?_, fun z => ?_, fun p hp hpm sg z hst hz d hd => cmin sg z ((wmem sg z).mpr ⟨p, hp, hpm, hst, hz⟩) d hd⟩, ?_⟩
    · rw [upd_ne (fun e => by rw [← e, upd_same] at ht; cases ht), upd_same, nsnat]
    · rw [List.length_map]
      have : ns.length ≤ ((List.range M.many).map fun p : Nat => (p : Int)).length := nodup_sub (rise.imp fun h => Int.ne_of_lt h) fun k hk => by
        obtain ⟨sg, z, a, _, rfl⟩ := (nsm k).mp hk
        exact List.mem_map.mpr ⟨z, List.mem_range.mpr (okw _ a).2, rfl⟩
      rw [List.length_map, List.length_range] at this
      omega
    · have := hmin p hp
      rw [dOf_eq lo_ hd] at this
      exact this
    · rw [qmem]
      constructor
      · rintro ⟨sg, a, b⟩
        obtain ⟨p, h1, h2, h3, h4⟩ := (wmem sg z).mp a
        exact ⟨p, h1, h2, sg, h3, b, h4⟩
      · rintro ⟨p, h1, h2, sg, h3, b, h4⟩
        exact ⟨sg, (wmem sg z).mpr ⟨p, h1, h2, h3, h4⟩, b⟩
    · intro e0
      have : z0 ∈ ns.map Int.toNat := (qmem z0).mpr ⟨_, hw0, List.mem_cons_self⟩
      rw [e0] at this
      cases this
end
end KM
/-! text KW11 -/
set_option Elab.async false
set_option linter.all false
set_option maxRecDepth 100000
set_option maxHeartbeats 4000000
namespace KM
open PySem PySem.Spec PyProof.Rows L2
theorem eqv_nil (ds : List PyData) : PyData.eqv (.list ds) (.list []) = ds.isEmpty := by
  cases ds <;> rfl
theorem shaped_ints (ns : List Nat) : SeqAt.shaped (.list (ns.map fun n : Nat => PyData.int (n : Int))) = true := by
  induction ns with
  | nil => rfl
  | cons a r ih => exact ih
theorem tl_sS (l : List Nat) : TL.tl (sS l) = l := sS_cps l
theorem joinL0 : ∀ ls : List (List Nat), TL.joinL [] ls = ls.flatten
  | [] => rfl
  | [p] => by simp [TL.joinL]
  | p :: q :: r => by
    show p ++ ([] ++ TL.joinL [] (q :: r)) = _
    rw [List.nil_append, joinL0 (q :: r)]
    rfl
theorem join_sS (ls : List (List Nat)) : Txt.join ("" : Str) (ls.map sS) = sS ls.flatten := by
  refine TL.ext_tl ?_
  show TL.tl (Builtin.Str.glued ("" : Str) (ls.map sS)) = _
  rw [StrLaws.glued_eq_join, TL.tl_join, tl_sS, List.map_map]
  have e : (ls.map (TL.tl ∘ sS)) = ls := by
    rw [show TL.tl ∘ sS = id from funext tl_sS, List.map_id]
  rw [e]
  exact joinL0 ls
theorem join_signs (us : List Nat) : Txt.join ("" : Str) (us.map fun c => (⟨#[c]⟩ : Str)) = sS us := by
  have e : ∀ us : List Nat, (us.map fun c => (⟨#[c]⟩ : Str)) = (us.map fun c => [c]).map sS := fun us => by
    rw [List.map_map]
    rfl
  have e2 : (us.map fun c => [c]).flatten = us := by
    induction us with
    | nil => rfl
    | cons a r ih => rw [List.map_cons, List.flatten_cons, ih]; rfl
  rw [e us, join_sS, e2]
section
variable {P : Program} {w : World} {K : PySem.W.Frag} {mg : Str → Option Value} {base : Heap}
def spLeastText (C : Addr) : Sp := fun vs H Q _ => ∃ (x : Addr) (M : Mch), vs = [.ref x] ∧ MachAt C H x M ∧ M.WF ∧ ∀ H', Same H H' → (∀ t, IsLeast M.Acc t → Q (sV t) H') ∧ ((∀ t, ¬ M.Acc t) → Q .non H')
abbrev nmLeastText : List Str := ["machine", "left", "place", "places", "signs", "sign"]
theorem scLeastText : FnScope nmLeastText ["machine"] (defScope sLeastText) := ⟨rfl, rfl, rfl, by decide +kernel, rfl, by decide +kernel, by decide +kernel⟩
theorem ok_least_text {C f fi f1 f2 : Addr} {fd fd1 fd2 : FuncData} (F : FnP K "least_text" "least_text" sLeastText f fd) (B : Bi mg) (T : MC K mg C fi) (F1 : FnP K "way_left" "way_left" sWayLeft f1 fd1) (g1 : mg "way_left" = some (.ref f1))
    (F2 : FnP K "nearest" "nearest" sNearest f2 fd2) (g2 : mg "nearest" = some (.ref f2)) : FnOk P w K mg base CX0 2 f fd ["machine"] (spLeastText C) := by
  have O1 : FnOk P w K mg base CX0 1 f1 fd1 ["machine"] (spWayLeft C) := ok_way_left F1 B T
  have O2 : FnOk P w K mg base CX0 1 f2 fd2 ["machine", "places", "left"] (spNearest C) := ok_nearest F2 B T
  have b1 : Binds K fd1 ["machine"] [] := F1.bindsN fun _ _ _ _ _ _ us hl => match us, hl with | [_], _ => rfl
  have b2 : Binds K fd2 ["machine", "places", "left"] [] := F2.bindsN fun _ _ _ _ _ _ us hl => match us, hl with | [_, _, _], _ => rfl
  refine F.okP scLeastText (fun vs H Q E h => ?_) (fun cdv A outer s H vs Q E hr h => ?_)
  · obtain ⟨x, M, rfl, _⟩ := h
    rfl
  · obtain ⟨x, M, rfl, hM, wf, q⟩ := h
    refine ⟨_, pss_cons (ps_set (i := 1) scLeastText.nd rfl (.inr rfl) (pe_call O1 hr (by rfl) g1 F1.kp b1 .nil pass0 (pa_cons (pv 0) pa_nil)))
      (pss_cons (ps_setLc (i := 3) (own := [("place", 2)]) (g := gName 2) rfl scLeastText.nd rfl rfl (sw_true rfl rfl rfl (by decide +kernel)) (pi_tup (pe_fld (pv 0) rfl))
        (blkOk_by (N := nmLeastText) (sc := defScope sLeastText) (by decide +kernel)) (fun _ _ _ _ _ => pg_name (i := 2) scLeastText.nd rfl (.inl rfl))
        (fun _ _ _ _ _ => pts_one (pt_cmp (pc_din (by exact Nat.lt_of_le_of_lt (Nat.add_le_add_left (by decide) _) (hu64 hr)) (pv 2) (pv 1)))) (fun _ _ _ _ _ => pv 2))
      (pss_cons (ps_if (pt_cmpR (op_eqD (by exact hu64 hr)) (pv 3) (pe_lst pa_nil) (nomark _)) (pss_one (ps_ret pe_non)) pss_nil)
      (pss_cons (ps_set (i := 4) scLeastText.nd rfl (.inl rfl) (pe_lst pa_nil))
      (pss_cons (ps_while PassesOwn.never (pt_cmpR op_gt (pe_callB (cr_min rfl) (by rfl) B.min (by decide +kernel) (pa_cons (pe_lc (own := [("place", 2)]) (g := gName 2) (tt := tYes) rfl scLeastText.nd (pi_list (pv 3))
          (blkOk_by (N := nmLeastText) (sc := defScope sLeastText) (by decide +kernel)) (fun _ _ _ _ _ => pg_name (i := 2) scLeastText.nd rfl (.inl rfl)) (fun _ _ _ _ _ => pts_nil)
          (fun _ _ _ _ _ => pe_dget (by exact Nat.lt_of_le_of_lt (Nat.add_le_add_left (by decide) _) (hu64 hr)) (pv 1) (pv 2) (fun _ _ => rfl))) pa_nil)) pe_int (nomark _))
        (pss_cons (ps_asg (pe_call O2 hr (by rfl) g2 F2.kp b2 .nil pass0 (pa_cons (pv 0) (pa_cons (pv 3) (pa_cons (pv 1) pa_nil)))) (pg_tup (by rfl) (pgs_cons (pg_name (i := 5) scLeastText.nd rfl (.inl rfl)) (pgs_cons (pg_name (i := 3) scLeastText.nd rfl (.inl rfl)) pgs_nil))))
        (pss_one (ps_expr (pe_bm PySem.F.plainAttrs_list PySem.F.slot_list_append PySem.F.type_list_append mt_append (pv 4) (pa_cons (pv 5) pa_nil))))))
      (pss_one (ps_ret (pe_join pe_str (pv 4)))))))), ?_⟩
    obtain ⟨dx, tb, ts, te, lo, sv, las, h1, h2, h3, h4, h5, h6, h7, h8⟩ := hM.ex
    have m1000 := wf.mLe
    have bl : M.begins.length ≤ M.many := rise_len wf.bRise wf.bLt
    have line : (1000 : Nat) < sizeLine := by decide
    refine ⟨_, rfl, x, M, rfl, hM, wf, fun l rows H1 s1 hl lo_ => ?_⟩
    have rl : rows.length ≤ M.many := by
      have := nodup_le lo_.nd fun p hp => by
        obtain ⟨r, hr, rfl⟩ := List.mem_map.mp hp
        exact lo_.lt r hr
      rwa [List.length_map] at this
    -- places
    refine ⟨_, rfl, x, C, dx, _, _, rfl, s1 _ _ h1, T.cl, T.nBegins, mf_begins _ _ _ _ _, tb, rfl, ⟨_, .inl (.inl (s1 _ _ h2))⟩, fun Pn hPn => ?_⟩
    refine lc_map hPn (β := Nat) (fun _ v b => v = nV b) (fun _ _ _ _ _ z => z) (walk_tup (xs := M.begins.map nV)) (fun _ s2 => .inl (.inl (s2 _ _ (s1 _ _ h2)))) (fun i => (M.begins.take i).filter fun p => decide (p ∈ rows.map (·.1))) rfl (by rw [List.length_map]; omega) (fun i y Hc H' Post Skip hi sc hy k1 k2 => ?_) (fun H2 acc2 s2 ha2 hp2 => ?_)
    · obtain ⟨rfl, hy⟩ := hy
      rw [List.getElem?_map] at hy
      cases hp : M.begins[i]? with
      | none => rw [hp] at hy; cases hy
      | some p =>
        rw [hp] at hy
        cases hy
        have ext : (M.begins.take (i + 1)).filter (fun p => decide (p ∈ rows.map (·.1))) = (M.begins.take i).filter (fun p => decide (p ∈ rows.map (·.1))) ++ (if p ∈ rows.map (·.1) then [p] else []) := by
          rw [List.take_succ, hp, List.filter_append]
          congr 1
          show [p].filter _ = _
          by_cases h : p ∈ rows.map (·.1) <;> simp only [List.filter_cons, List.filter_nil, h, decide_true, decide_false, if_true, if_false, Bool.false_eq_true]
        refine ⟨rfl, _, rfl, _, rfl, l, _, rfl, DGet.k (k := Sum.inl (p : Int)) (sc _ _ hl), _, rfl, ?_⟩
        by_cases h : p ∈ rows.map (·.1)
        · rw [(valV_keys _ _).mpr (lrows_mem.mpr h)]
          refine iteT ⟨_, rfl, k1 _ _ p (Same.refl _) rfl ?_⟩
          rw [ext, if_pos h]
        · rw [lrows_no h]
          refine iteF (k2 _ (Same.refl _) ?_)
          rw [ext, if_neg h, List.append_nil]
    rw [paired_vals hp2, List.length_map, List.take_length] at ha2
    obtain ⟨ps, hps⟩ : ∃ ps, (M.begins.filter fun p => decide (p ∈ rows.map (·.1))) = ps := ⟨_, rfl⟩
    rw [hps] at ha2
    have pmem : ∀ p, p ∈ ps ↔ p ∈ M.begins ∧ ∃ d, (p, d) ∈ rows := fun p => by
      rw [← hps, List.mem_filter, decide_eq_true_iff, List.mem_map]
      constructor
      · rintro ⟨a, ⟨p', d⟩, h, rfl⟩
        exact ⟨a, d, h⟩
      · rintro ⟨a, d, h⟩
        exact ⟨a, (p, d), h, rfl⟩
    have plen : ps.length ≤ 1000 := by
      rw [← hps]
      exact Nat.le_trans (List.length_filter_le _ _) (by omega)
    have s12 := s1.trans s2
    -- the test
    refine ⟨_, rfl, Nat.zero_le _, fun e0 he0 => ⟨.list (ps.map fun n : Nat => PyData.int (n : Int)), .list [], .lst (.inl (.inl (by rw [upd_ne (ne_of_none ha2 he0)]; exact ha2))) (dpAll_ints _ ps), .lst (.inl (.inl upd_same)) .nil, shaped_ints ps, rfl, ?_⟩⟩
    rw [eqv_nil]
    have s2e := s12.trans (same_upd he0 (o := .lst []))
    by_cases hne : ps = []
    · rw [hne]
      refine ⟨true, rfl, iteT ((q _ s2e).2 fun t ⟨p, hp, e, he, pa⟩ => ?_)⟩
      obtain ⟨d, hd, _⟩ := lo_.least p t ⟨e, he, pa⟩
      have : p ∈ ps := (pmem p).mpr ⟨hp, d, hd⟩
      rw [hne] at this
      cases this
    have hemp : (ps.map fun n : Nat => PyData.int (n : Int)).isEmpty = false := by
      cases ps with
      | nil => exact absurd rfl hne
      | cons a r => rfl
    rw [hemp]
    refine ⟨false, rfl, iteF ?_⟩
    obtain ⟨Hb, hHb⟩ : ∃ Hb, upd H2 e0 (.lst []) = Hb := ⟨_, rfl⟩
    rw [hHb] at s2e ⊢
    have sb2 : Same H2 Hb := by rw [← hHb]; exact same_upd he0
    have hPb : Hb Pn = some (.lst (ps.map nV)) := sb2 _ _ ha2
    have hlb : Hb l = some (.dK (lrows rows)) := sb2 _ _ (s2 _ _ hl)
    clear hHb
    refine ⟨Nat.zero_le _, fun Sg hSg => ?_⟩
    -- the least of the distances
    have hdo : ∀ ps : List Nat, (∀ p ∈ ps, ∃ d, (p, d) ∈ rows) → ∀ p ∈ ps, (p, dOf rows p) ∈ rows := fun ps h p hp => let ⟨d, hd⟩ := h p hp; dOf_mem lo_ hd
    have hmin : ∀ ps : List Nat, ps ≠ [] → ∃ p ∈ ps, ∀ p' ∈ ps, dOf rows p ≤ dOf rows p' := by
      intro ps
      induction ps with
      | nil => exact fun h => absurd rfl h
      | cons a r ih =>
        intro _
        by_cases hr : r = []
        · rw [hr]
          exact ⟨a, List.mem_cons_self, fun p' hp' => by rw [List.mem_singleton.mp hp']; exact Nat.le_refl _⟩
        · obtain ⟨p, hp, hle⟩ := ih hr
          by_cases h : dOf rows a ≤ dOf rows p
          · exact ⟨a, List.mem_cons_self, fun p' hp' => (List.mem_cons.mp hp').elim (fun e => by rw [e]; exact Nat.le_refl _) fun e => Nat.le_trans h (hle p' e)⟩
          · exact ⟨p, List.mem_cons_of_mem _ hp, fun p' hp' => (List.mem_cons.mp hp').elim (fun e => by rw [e]; omega) fun e => hle p' e⟩
    refine ⟨fun m σ Hx => ∃ (Pa : Addr) (ps us : List Nat) (y2 y5 : Option V), σ = [some (.ref x), some (.ref l), y2, some (.ref Pa), some (.ref Sg), y5] ∧ Same Hb Hx ∧ Hx Pa = some (.lst (ps.map nV)) ∧ Pa ≠ Sg ∧ Hx Sg = some (.lst (us.map cV)) ∧ ps ≠ [] ∧ ps.length ≤ 1000 ∧ (∀ p ∈ ps, ∃ d, (p, d) ∈ rows) ∧
        (∃ p ∈ ps, dOf rows p = m) ∧ (∀ p ∈ ps, m ≤ dOf rows p) ∧ us.length + m ≤ 1000 ∧ ∀ t, IsLeast (OutL M ps) t → IsLeast M.Acc (us ++ t), ?_, ?_⟩
    · obtain ⟨p, hp, hle⟩ := hmin ps hne
      have hd := hdo ps (fun p hp => ((pmem p).mp hp).2) p hp
      refine ⟨dOf rows p, Pn, ps, [], none, none, rfl, same_upd hSg, by rw [upd_ne (ne_of_none hPb hSg)]; exact hPb, ne_of_none hPb hSg, upd_same, hne, plen, fun p hp => ((pmem p).mp hp).2, ⟨p, hp, rfl⟩, hle, ?_, fun t ht => ht.congr fun v => ?_⟩
      · have := lo_.bnd _ hd
        simp only at this
        rw [List.length_nil]
        omega
      · constructor
        · rintro ⟨p, hp, e, he, pa⟩
          exact ⟨p, ((pmem p).mp hp).1, e, he, pa⟩
        · rintro ⟨p, hp, e, he, pa⟩
          obtain ⟨d, hd, _⟩ := lo_.least p v ⟨e, he, pa⟩
          exact ⟨p, (pmem p).mpr ⟨hp, d, hd⟩, e, he, pa⟩
    rintro m σ Hx ⟨Pa, ps, us, y2, y5, rfl, sx, hPa, nPS, hSx, ne, plen, hps, ⟨p0, hp0, hm0⟩, hle, hlen, hL⟩
    have hlx := sx _ _ hlb
    refine ⟨_, rfl, Pa, rfl, ⟨_, .inl (.inl hPa)⟩, fun Dn hDn => ?_⟩
    refine lc_map hDn (β := Int) (fun _ v b => v = .int b) (fun _ _ _ _ _ z => z) (walk_list (xs := ps.map nV)) (fun _ s3 => .inl (.inl (s3 _ _ hPa))) (fun i => (ps.take i).map fun p => (dOf rows p : Int)) rfl (by rw [List.length_map]; omega) (fun i y Hc H' Post Skip hi sc hy k1 k2 => ?_) (fun H3 acc3 s3 ha3 hp3 => ?_)
    · obtain ⟨rfl, hy⟩ := hy
      rw [List.getElem?_map] at hy
      cases hp : ps[i]? with
      | none => rw [hp] at hy; cases hy
      | some p =>
        rw [hp] at hy
        cases hy
        refine ⟨rfl, _, rfl, _, rfl, l, _, rfl, (lrows_at lo_.nd (hdo ps hps p (List.mem_of_getElem? hp))) ▸ DGet.k (k := Sum.inl (p : Int)) (sc _ _ hlx), k1 _ _ _ (Same.refl _) rfl ?_⟩
        rw [List.take_succ, hp, List.map_append]
        rfl
    rw [paired_vals hp3, List.length_map, List.take_length] at ha3
    refine ⟨Dn, _, rfl, .inl (.inl ha3), by rw [List.length_map]; exact List.length_pos_iff.mpr ne, fun m1 hm1 hle1 => ?_⟩
    have em : m1 = (m : Int) := by
      obtain ⟨p1, hp1, rfl⟩ := List.mem_map.mp hm1
      have a := hle p1 hp1
      have b := hle1 _ (List.mem_map.mpr ⟨p0, hp0, rfl⟩)
      omega
    subst em
    refine ⟨_, _, rfl, rfl, _, rfl, ?_⟩
    have sx3 := sx.trans s3
    have sH3 := s2e.trans sx3
    by_cases hpos : 0 < m
    · rw [decide_eq_true (by omega)]
      refine iteT ⟨fun σ' H' => ∃ m', m' < m ∧ ∃ (Pa : Addr) (ps us : List Nat) (y2 y5 : Option V), σ' = [some (.ref x), some (.ref l), y2, some (.ref Pa), some (.ref Sg), y5] ∧ Same Hb H' ∧ H' Pa = some (.lst (ps.map nV)) ∧ Pa ≠ Sg ∧ H' Sg = some (.lst (us.map cV)) ∧ ps ≠ [] ∧ ps.length ≤ 1000 ∧ (∀ p ∈ ps, ∃ d, (p, d) ∈ rows) ∧
        (∃ p ∈ ps, dOf rows p = m') ∧ (∀ p ∈ ps, m' ≤ dOf rows p) ∧ us.length + m' ≤ 1000 ∧ ∀ t, IsLeast (OutL M ps) t → IsLeast M.Acc (us ++ t), fun _ _ z => z, ?_⟩
      refine ⟨_, rfl, _, rfl, _, rfl, x, Pa, l, M, ps, rows, rfl, hM.same sH3, wf, s3 _ _ hPa, plen, ne, s3 _ _ hlx, lo_, fun p hp => ?_, fun t Pa' c qs H4 s4 ht hPa' qlen nr => ?_⟩
      · have hd := hdo ps hps p hp
        have := hle p hp
        exact ⟨dOf rows p - 1, by rw [show dOf rows p - 1 + 1 = dOf rows p by omega]; exact hd⟩
      · have hS4 := s4 _ _ (s3 _ _ hSx)
        have tS : Same Hb H4 := sx3.trans s4
        refine ⟨t, _, rfl, .inl (.inl ht), rfl, _, _, rfl, _, _, rfl, rfl, ?_⟩
        obtain ⟨m', e1, e2, e3⟩ := nr.ex
        -- the new least distance
        have em' : m = m' + 1 := by
          obtain ⟨z, hz⟩ := List.exists_mem_of_ne_nil _ nr.ne
          obtain ⟨p, hp, hpm, _⟩ := (e2 z).mp hz
          have a := e1 p0 hp0 _ (hdo ps hps p0 hp0)
          have b := hle p hp
          rw [dOf_eq lo_ hpm] at b
          omega
        have hqd : ∀ z ∈ qs, (z, m') ∈ rows := fun z hz => by
          obtain ⟨p, _, _, sg, _, _, h⟩ := (e2 z).mp hz
          exact h
        have nP : Pa' ≠ Sg := fun e => by
          rw [e, hS4] at hPa'
          have e1 := HO.lst.inj (Option.some.inj hPa')
          cases qs with
          | nil => exact nr.ne rfl
          | cons a r =>
            cases us with
            | nil => cases e1
            | cons b u => cases (List.cons.inj e1).1
        have ul : us.length + 1 ≤ 1000 := by omega
        refine ⟨_, rfl, .inl ⟨rfl, _, .inl (.inl hS4)⟩, _, rfl, Sg, _, _, rfl, rfl, hS4, by rw [List.length_map]; omega, ?_⟩
        obtain ⟨z0, hz0⟩ := List.exists_mem_of_ne_nil _ nr.ne
        refine ⟨m', by omega, Pa', qs, us ++ [c], y2, some (cV c), rfl, same_new tS hSg, by rw [upd_ne nP]; exact hPa', nP, by rw [upd_same, List.map_append]; rfl, nr.ne, qlen, fun z hz => ⟨m', hqd z hz⟩, ⟨z0, hz0, dOf_eq lo_ (hqd z0 hz0)⟩, fun z hz => ?_, ?_, fun t ht => ?_⟩
        · rw [dOf_eq lo_ (hqd z hz)]
          exact Nat.le_refl _
        · rw [List.length_append, List.length_singleton]
          omega
        · rw [List.append_assoc]
          exact hL _ (nr.least lo_ hps ht)
    · rw [decide_eq_false (by omega)]
      have m0 : m = 0 := by omega
      subst m0
      have hS3 := s3 _ _ hSx
      have hleast : IsLeast M.Acc us := by
        have : IsLeast (OutL M ps) [] := by
          have hd := hdo ps hps p0 hp0
          rw [hm0] at hd
          obtain ⟨v, hv, e, he, pa⟩ := lo_.path _ hd
          cases v with
          | nil => exact ⟨⟨p0, hp0, e, he, pa⟩, fun v _ => by
              cases v with
              | nil => exact .inr ⟨rfl, trivial⟩
              | cons a r => exact .inl (Nat.succ_pos _)⟩
          | cons a r => cases hv
        have z := hL [] this
        rwa [List.append_nil] at z
      refine iteF ⟨⟨_, rfl⟩, _, rfl, _, Sg, us.map fun c => (⟨#[c]⟩ : Str), rfl, rfl, .inl (.inl (.inl (by rw [List.map_map]; exact hS3))), ?_, ?_⟩
      · have e1 : ((us.map fun c => (⟨#[c]⟩ : Str)).map (·.length)).sum = us.length := by
          clear hS3 hSx hL hleast hlen
          induction us with
          | nil => rfl
          | cons a r ih =>
            rw [List.map_cons, List.map_cons, List.sum_cons, ih]
            show 1 + r.length = r.length + 1
            omega
        rw [e1, List.length_map]
        show us.length + us.length * 0 ≤ _
        omega
      · rw [join_signs]
        exact (q _ sH3).1 us hleast
end
end KM
/-! text KW12 -/
set_option Elab.async false
set_option linter.all false
set_option maxRecDepth 100000
set_option maxHeartbeats 4000000
namespace KM
open PySem PySem.Spec PyProof.Rows L2
abbrev TStp := Pr × List Nat × Pr
/-- v is a step between pairs -/
def TStpAt (H : Hp) (v : V) (s : TStp) : Prop := ∃ t a b, v = .ref t ∧ H t = some (.tup [.ref a, sV s.2.1, .ref b]) ∧ H a = some (.tup [nV s.1.1, nV s.1.2]) ∧ H b = some (.tup [nV s.2.2.1, nV s.2.2.2])
theorem TStpAt.mono {H H' : Hp} {v : V} {s : TStp} (t : TupS H H') (h : TStpAt H v s) : TStpAt H' v s := let ⟨a, b, c, h0, h1, h2, h3⟩ := h; ⟨a, b, c, h0, t _ _ h1, t _ _ h2, t _ _ h3⟩
def tkey (s : TStp) : Key4 := (s.1, s.2.2)
/-- a list of steps between pairs, none twice -/
structure TStpsOk (ss : List TStp) : Prop where
  uniq : (ss.map tkey).Nodup
  sg : ∀ s ∈ ss, SgOk s.2.1
  len : ss.length ≤ 1000
theorem NdAt.same {P : Program} {w : World} {H H' : Hp} {a : Addr} {es : List Ent} (s : Same H H') (h : NdAt P w H a es) : NdAt P w H' a es := ⟨s _ _ h.1, fun e he => (h.2 e he).mono (TupS.same s)⟩
theorem str_empty_append (z : Str) : ("" : Str) ++ z = z := by
  refine TL.ext_tl ?_
  rw [TL.tl_append]
  rfl
theorem sort_rise {l : List Nat} (h : l.Pairwise (· < ·)) : (l.mergeSort fun a b => decide (a ≤ b)) = l :=
  List.mergeSort_of_pairwise (h.imp fun h => decide_eq_true (Nat.le_of_lt h))
/-- what stands in the dict -/
abbrev EntRel (e : Ent) (s : TStp) : Prop := e.1 = tkey s ∧ e.2.2 = sS s.2.1
theorem ent_keys : ∀ {es : List Ent} {ss : List TStp}, Paired EntRel es ss → es.map (·.1) = ss.map tkey
  | _, _, .nil => rfl
  | _, _, .cons h t => by rw [List.map_cons, List.map_cons, h.1, ent_keys t]
theorem take_fresh {ss : List TStp} (nd : (ss.map tkey).Nodup) {i : Nat} {s : TStp} (h : ss[i]? = some s) : tkey s ∉ (ss.take i).map tkey := fun hm => by
  rw [List.map_take] at hm
  obtain ⟨j, hj, ej⟩ := List.mem_iff_getElem.mp hm
  rw [List.getElem_take] at ej
  rw [List.length_take, List.length_map] at hj
  obtain ⟨hi, ei⟩ := List.getElem?_eq_some_iff.mp h
  have e2 : (ss.map tkey)[i]'(by rw [List.length_map]; exact hi) = tkey s := by rw [List.getElem_map, ei]
  rw [← e2] at ej
  have := (List.getElem_inj nd).mp ej
  omega
/-- what ''.join asks -/
abbrev rJoin (K : PySem.W.Frag) : V → List V → Hp → VK → Prop := fun x xs H Q => ∃ a p, ∃ ys : List Str, x = V.str a ∧ xs = [V.ref p] ∧ (SqL K H p (ys.map V.str) ∨ SqT K H p (ys.map V.str)) ∧ (ys.map (·.length)).sum + ys.length * a.length ≤ 16777216 ∧ Q (V.str (Txt.join a ys)) H
theorem len_signs : ∀ us : List Nat, ((us.map fun c => (⟨#[c]⟩ : Str)).map (·.length)).sum = us.length
  | [] => rfl
  | a :: r => by
    rw [List.map_cons, List.map_cons, List.sum_cons, len_signs r]
    show 1 + r.length = r.length + 1
    omega
/-- ''.join of a list of signs -/
theorem join_ok {K : PySem.W.Frag} {H : Hp} {L : Addr} {us : List Nat} {Q : VK} (h : H L = some (.lst (us.map cV))) (hl : us.length ≤ 16777216) (q : Q (sV us) H) : rJoin K (.str "") [.ref L] H Q := by
  refine ⟨_, L, us.map fun c => (⟨#[c]⟩ : Str), rfl, rfl, .inl (.inl (.inl (by rw [List.map_map]; exact h))), ?_, ?_⟩
  · rw [len_signs, List.length_map]
    show us.length + us.length * 0 ≤ _
    omega
  · rw [join_signs]
    exact q
section
variable {P : Program} {w : World} {K : PySem.W.Frag} {mg : Str → Option Value} {base : Heap}
def spMerged : Sp := fun vs H Q _ => ∃ (a : Addr) (sv : List V) (ss : List TStp), vs = [.ref a] ∧ H a = some (.lst sv) ∧ Paired (TStpAt H) sv ss ∧ TStpsOk ss ∧ ∀ (p : Addr) (sv' : List V) H', Same H H' → H' p = some (.lst sv') → Paired (TStpAt H') sv' ss → Q (.ref p) H'
abbrev nmMerged : List Str := ["steps", "found", "place", "signs", "other"]
theorem scMerged : FnScope nmMerged ["steps"] (defScope sMerged) := ⟨rfl, rfl, rfl, by decide +kernel, rfl, by decide +kernel, by decide +kernel⟩
theorem ok_merged {f : Addr} {fd : FuncData} (F : FnP K "merged" "merged" sMerged f fd) (B : Bi mg) : FnOk P w K mg base CX0 1 f fd ["steps"] spMerged := by
  refine F.okP scMerged (fun vs H Q E h => ?_) (fun cdv A outer s H vs Q E hr h => ?_)
  · obtain ⟨a, sv, ss, rfl, _⟩ := h
    rfl
  · obtain ⟨a, sv, ss, rfl, ha, hp, ok, q⟩ := h
    refine ⟨_, pss_cons (ps_set (i := 1) scMerged.nd rfl (.inl rfl) pe_ndnew)
      (pss_cons (ps_for PassesOwn.never rfl (pi_list (pv 0)) (pg_tup rfl (pgs_cons (pg_name (i := 2) scMerged.nd rfl (.inl rfl)) (pgs_cons (pg_name (i := 3) scMerged.nd rfl (.inl rfl)) (pgs_cons (pg_name (i := 4) scMerged.nd rfl (.inl rfl)) pgs_nil))))
        (pss_one (ps_ndput (by exact hu64 hr) (pv 1) (pe_tup (pa_cons (pv 2) (pa_cons (pv 4) pa_nil))) (pe_op op_add_str (pe_ndget2 (by exact hu64 hr) (pv 1) (pe_tup (pa_cons (pv 2) (pa_cons (pv 4) pa_nil))) pe_str ⟨rfl, rfl, rfl, rfl⟩) (pv 3)) rfl)))
      (pss_one (ps_ret (pe_lock (pe_lc (own := [("place", 2), ("other", 4), ("signs", 3)]) (g := gTup K 2 (gCons (gTup K 2 (gCons (gName 2) (gCons (gName 4) gNil))) (gCons (gName 3) gNil))) (tt := tYes) (te := tTup (tCons (tVar 2) (tCons (tM1 (rJoin K) (tC (.str "")) (tCB rSortS (tCons (tVar 3) tNil))) (tCons (tVar 4) tNil)))) rfl scMerged.nd (pi_ndItems (pv 1))
        (blkOk_by (N := nmMerged) (sc := defScope sMerged) (by decide +kernel)) (fun _ _ _ _ _ => pg_tup rfl (pgs_cons (pg_tup rfl (pgs_cons (pg_name (i := 2) scMerged.nd rfl (.inl rfl)) (pgs_cons (pg_name (i := 4) scMerged.nd rfl (.inl rfl)) pgs_nil))) (pgs_cons (pg_name (i := 3) scMerged.nd rfl (.inl rfl)) pgs_nil)))
        (fun _ _ _ _ _ => pts_nil) (fun _ _ _ _ _ => pe_tup (pa_cons (pv 2) (pa_cons (pe_join pe_str (pe_callB (cr_sortS rfl (by exact hu64 hr)) (by rfl) B.sorted (by decide +kernel) (pa_cons (pv 3) pa_nil))) (pa_cons (pv 4) pa_nil))))))))), ?_⟩
    have line : (1000 : Nat) < sizeLine := by decide
    have slen := ok.len
    refine fun Fd hFd => ?_
    refine ⟨_, rfl, a, rfl, ⟨_, .inl (.inl (same_upd hFd _ _ ha))⟩, ?_⟩
    refine for_it (walk_list (xs := sv)) (fun i σ Hx => ∃ (es : List Ent) (y2 y3 y4 : Option V), σ = [some (.ref a), some (.ref Fd), y2, y3, y4] ∧ Same H Hx ∧ NdAt P w Hx Fd es ∧ Paired EntRel es (ss.take i))
      ⟨[], none, none, none, rfl, same_upd hFd, ⟨upd_same, fun e he => by cases he⟩, .nil⟩ (fun _ _ _ _ ⟨_, _, _, _, _, sx, _⟩ => .inl (.inl (sx _ _ ha))) ?_ ?_
    · rintro i v σ Hx Hx' hi ⟨es, y2, y3, y4, rfl, sx, nd, pr⟩ ⟨rfl, hv⟩
      obtain ⟨⟨p, sg, p'⟩, e2, t, b1, b2, rfl, ht, hb1, hb2⟩ := paired_get hp hv
      have ht' := sx _ _ ht
      have hb1' := sx _ _ hb1
      have hb2' := sx _ _ hb2
      have kn : tkey (p, sg, p') ∉ es.map (·.1) := by
        rw [ent_keys pr]
        exact take_fresh ok.uniq e2
      have sgok := ok.sg _ (List.mem_of_getElem? e2)
      refine ⟨t, _, rfl, .inl (.inl ht'), rfl, _, _, rfl, _, _, rfl, _, _, rfl, rfl, ?_⟩
      refine ⟨_, rfl, Fd, es, rfl, nd, _, rfl, _, rfl, (by show 2 ≤ sizeLine; decide), fun T hT => ⟨T, es, tkey (p, sg, p'), rfl, nd.same (same_upd hT), ⟨b1, b2, upd_same, same_upd hT _ _ hb1', same_upd hT _ _ hb2'⟩, kn, ?_⟩⟩
      refine ⟨_, rfl, _, _, rfl, rfl, ?_, ?_⟩
      · rw [sS_len]
        exact Nat.le_trans (Nat.add_le_add (Nat.le_refl 0) sgok.len) (by decide)
      have s1 : Same Hx' (upd Hx' T (.tup [.ref b1, .ref b2])) := same_upd hT
      refine ⟨_, rfl, _, rfl, _, rfl, (by show 2 ≤ sizeLine; decide), fun U hU => ⟨Fd, U, es, tkey (p, sg, p'), sS sg, rfl, rfl, by rw [str_empty_append], nd.same (s1.trans (same_upd hU)), ⟨b1, b2, upd_same, same_upd hU _ _ (s1 _ _ hb1'), same_upd hU _ _ (s1 _ _ hb2')⟩, kn, ?_, ?_⟩⟩
      · have := Paired.length pr
        rw [this, List.length_take]
        omega
      · have s2 := s1.trans (same_upd hU (o := .tup [.ref b1, .ref b2]))
        have nd2 := nd.same s2
        have ts : TupS (upd (upd Hx' T (.tup [.ref b1, .ref b2])) U (.tup [.ref b1, .ref b2])) (upd (upd (upd Hx' T (.tup [.ref b1, .ref b2])) U (.tup [.ref b1, .ref b2])) Fd (NdO P w Fd (es ++ [(tkey (p, sg, p'), U, sS sg)]))) := TupS.upd nd2.1 fun xs z => by cases z
        refine ⟨_, _, _, _, rfl, same_new (sx.trans s2) hFd, ⟨upd_same, fun e he => ?_⟩, ?_⟩
        · rcases List.mem_append.mp he with he | he
          · exact (nd2.2 e he).mono ts
          · rw [List.mem_singleton.mp he]
            exact KeyAt.mono ts ⟨b1, b2, upd_same, same_upd hU _ _ (s1 _ _ hb1'), same_upd hU _ _ (s1 _ _ hb2')⟩
        · rw [List.take_succ, e2]
          exact paired_snoc pr ⟨rfl, rfl⟩
    · rintro σ Hx ⟨es, y2, y3, y4, rfl, sx, nd, pr⟩
      rw [Paired.length hp, List.take_length] at pr
      refine ⟨Fd, NdO P w Fd es, nd.1, trivial, fun od => ?_⟩
      have tl : TupS Hx (upd Hx Fd (.frz od (NdO P w Fd es))) := TupS.upd nd.1 fun xs z => by cases z
      refine ⟨_, rfl, Fd, od, es, rfl, upd_same, fun L hL => ?_⟩
      refine lc_map hL TStpAt (fun _ _ _ _ e r => r.mono e) walk_nd (fun _ s1 => s1 _ _ upd_same) (fun i => ss.take i) rfl (by rw [Paired.length pr]; omega) (fun i y Hc H' Post Skip hi sc hy k1 k2 => ?_) (fun H1 acc s1 ha1 hp1 => ?_)
      · obtain ⟨T, x, z, rfl, hT, rfl, hx, hz⟩ := hy
        simp only at hx hz
        cases he : es[i]? with
        | none => rw [he] at hx; cases hx
        | some e =>
          rw [he] at hx hz
          cases hx
          cases hz
          obtain ⟨s, e2, k0, k1'⟩ := paired_get pr he
          obtain ⟨b1, b2, q0, q1, q2⟩ := (nd.2 e (List.mem_of_getElem? he)).mono (tl.trans (TupS.same sc))
          have sgok := ok.sg _ (List.mem_of_getElem? e2)
          have sT : Same Hc (upd Hc T (.tup [.ref e.2.1, .str e.2.2])) := same_upd hT
          refine ⟨T, _, rfl, .inl (.inl upd_same), rfl, _, _, rfl, ⟨e.2.1, _, rfl, .inl (.inl (sT _ _ q0)), rfl, _, _, rfl, _, _, rfl, rfl, _, _, rfl, rfl, ?_⟩⟩
          refine ⟨rfl, _, rfl, ⟨_, rfl⟩, _, rfl, e.2.2, rfl, ?_, fun L2 hL2 => ?_⟩
          · rw [k1', sS_len]
            exact Nat.le_trans sgok.len (by decide)
          · rw [k1', sS_cps, sort_rise sgok.rise]
            refine join_ok (us := s.2.1) upd_same (Nat.le_trans sgok.len (by decide)) ?_
            · skip
              have s3 : Same Hc (upd (upd Hc T (.tup [.ref e.2.1, .str e.2.2])) L2 (.lst (s.2.1.map fun c => V.str ⟨#[c]⟩))) := sT.trans (same_upd hL2)
              refine ⟨_, rfl, (by show 3 ≤ sizeLine; decide), fun U hU => ?_⟩
              refine k1 _ _ s (s3.trans (same_upd hU)) ⟨U, b1, b2, rfl, upd_same, ?_, ?_⟩ ?_
              · have := same_upd hU (o := .tup [.ref b1, sV s.2.1, .ref b2]) _ _ (s3 _ _ q1)
                rw [k0] at this
                exact this
              · have := same_upd hU (o := .tup [.ref b1, sV s.2.1, .ref b2]) _ _ (s3 _ _ q2)
                rw [k0] at this
                exact this
              · rw [List.take_succ, e2]
                rfl
      · rw [Paired.length pr, List.take_length] at hp1
        have eF := s1 _ _ upd_same
        refine ⟨eF, ?_⟩
        have nLF : L ≠ Fd := fun e => by
          rw [e, upd_same] at hL
          cases hL
        have tu : TupS H1 (upd H1 Fd (NdO P w Fd es)) := TupS.upd eF fun xs z => by cases z
        refine q L acc _ (fun b o e => ?_) (by rw [upd_ne nLF]; exact ha1) (paired_mono hp1 fun _ _ r => r.mono tu)
        have nb : b ≠ Fd := ne_of_none e hFd
        rw [upd_ne nb]
        exact s1 _ _ (by rw [upd_ne nb]; exact sx _ _ e)
end
end KM
/-! text KW13 -/
set_option Elab.async false
set_option linter.all false
set_option maxRecDepth 100000
set_option maxHeartbeats 4000000
namespace KM
open PySem PySem.Spec PyProof.Rows L2
section
variable {P : Program} {w : World} {K : PySem.W.Frag} {mg : Str → Option Value} {base : Heap}
abbrev nmTogether : List Str := ["steps", "found", "key", "signs", "other", "ahead", "sign"]
theorem scTogether : FnScope nmTogether ["steps"] (defScope sTogether) := ⟨rfl, rfl, rfl, by decide +kernel, rfl, by decide +kernel, by decide +kernel⟩
theorem ok_together {f : Addr} {fd : FuncData} (F : FnP K "together" "together" sTogether f fd) (B : Bi mg) : FnOk P w K mg base CX0 1 f fd ["steps"] spMerged := by
  refine F.okP scTogether (fun vs H Q E h => ?_) (fun cdv A outer s H vs Q E hr h => ?_)
  · obtain ⟨a, sv, ss, rfl, _⟩ := h
    rfl
  · obtain ⟨a, sv, ss, rfl, ha, hp, ok, q⟩ := h
    refine ⟨_, pss_cons (ps_set (i := 1) scTogether.nd rfl (.inl rfl) pe_ndnew)
      (pss_cons (ps_for PassesOwn.never rfl (pi_list (pv 0)) (pg_tup rfl (pgs_cons (pg_name (i := 2) scTogether.nd rfl (.inl rfl)) (pgs_cons (pg_name (i := 3) scTogether.nd rfl (.inl rfl)) (pgs_cons (pg_name (i := 4) scTogether.nd rfl (.inl rfl)) pgs_nil))))
        (pss_cons (ps_set (i := 5) scTogether.nd rfl (.inr rfl) (pe_ndget2 (by exact hu64 hr) (pv 1) (pe_tup (pa_cons (pv 2) (pa_cons (pv 4) pa_nil))) pe_str ⟨rfl, rfl, rfl, rfl⟩))
        (pss_one (ps_ndput (by exact hu64 hr) (pv 1) (pe_tup (pa_cons (pv 2) (pa_cons (pv 4) pa_nil))) (pe_op op_add_str (pv 5) (pe_join pe_str (pe_lc (own := [("sign", 6)]) (g := gName 6) rfl scTogether.nd (pi_str (pv 3))
          (blkOk_by (N := nmTogether) (sc := defScope sTogether) (by decide +kernel)) (fun _ _ _ _ _ => pg_name (i := 6) scTogether.nd rfl (.inl rfl)) (fun _ _ _ _ _ => pts_one (pt_cmpR op_notIn_sign (pv 6) (pv 5) rfl)) (fun _ _ _ _ _ => pv 6)))) rfl))))
      (pss_one (ps_ret (pe_lock (pe_lc (own := [("key", 2), ("other", 4), ("signs", 3)]) (g := gTup K 2 (gCons (gTup K 2 (gCons (gName 2) (gCons (gName 4) gNil))) (gCons (gName 3) gNil))) (tt := tYes) rfl scTogether.nd (pi_ndItems (pv 1))
        (blkOk_by (N := nmTogether) (sc := defScope sTogether) (by decide +kernel)) (fun _ _ _ _ _ => pg_tup rfl (pgs_cons (pg_tup rfl (pgs_cons (pg_name (i := 2) scTogether.nd rfl (.inl rfl)) (pgs_cons (pg_name (i := 4) scTogether.nd rfl (.inl rfl)) pgs_nil))) (pgs_cons (pg_name (i := 3) scTogether.nd rfl (.inl rfl)) pgs_nil)))
        (fun _ _ _ _ _ => pts_nil) (fun _ _ _ _ _ => pe_tup (pa_cons (pv 2) (pa_cons (pv 3) (pa_cons (pv 4) pa_nil))))))))), ?_⟩
    have line : (1000 : Nat) < sizeLine := by decide
    have slen := ok.len
    refine fun Fd hFd => ?_
    refine ⟨_, rfl, a, rfl, ⟨_, .inl (.inl (same_upd hFd _ _ ha))⟩, ?_⟩
    refine for_it (walk_list (xs := sv)) (fun i σ Hx => ∃ (es : List Ent) (y2 y3 y4 y5 y6 : Option V), σ = [some (.ref a), some (.ref Fd), y2, y3, y4, y5, y6] ∧ Same H Hx ∧ NdAt P w Hx Fd es ∧ Paired EntRel es (ss.take i))
      ⟨[], none, none, none, none, none, rfl, same_upd hFd, ⟨upd_same, fun e he => by cases he⟩, .nil⟩ (fun _ _ _ _ ⟨_, _, _, _, _, _, _, sx, _⟩ => .inl (.inl (sx _ _ ha))) ?_ ?_
    · rintro i v σ Hx Hx' hi ⟨es, y2, y3, y4, y5, y6, rfl, sx, nd, pr⟩ ⟨rfl, hv⟩
      obtain ⟨⟨p, sg, p'⟩, e2, t, b1, b2, rfl, ht, hb1, hb2⟩ := paired_get hp hv
      have ht' := sx _ _ ht
      have hb1' := sx _ _ hb1
      have hb2' := sx _ _ hb2
      have kn : tkey (p, sg, p') ∉ es.map (·.1) := by
        rw [ent_keys pr]
        exact take_fresh ok.uniq e2
      have sgok := ok.sg _ (List.mem_of_getElem? e2)
      refine ⟨t, _, rfl, .inl (.inl ht'), rfl, _, _, rfl, _, _, rfl, _, _, rfl, rfl, ?_⟩
      refine ⟨_, rfl, Fd, es, rfl, nd, _, rfl, _, rfl, (by show 2 ≤ sizeLine; decide), fun T hT => ⟨T, es, tkey (p, sg, p'), rfl, nd.same (same_upd hT), ⟨b1, b2, upd_same, same_upd hT _ _ hb1', same_upd hT _ _ hb2'⟩, kn, ?_⟩⟩
      have s1 : Same Hx' (upd Hx' T (.tup [.ref b1, .ref b2])) := same_upd hT
      refine ⟨_, rfl, ⟨_, rfl⟩, ?_⟩
      refine ⟨_, rfl, sS sg, rfl, fun L hL => ?_⟩
      refine lc_map hL (β := Nat) (fun _ v b => v = cV b) (fun _ _ _ _ _ z => z) (walk_str (z := sS sg)) (fun _ _ => trivial) (fun i => sg.take i) rfl (by show sg.toArray.size < sizeLine; rw [List.size_toArray]; exact Nat.lt_of_le_of_lt sgok.len (by decide)) (fun i y Hc H' Post Skip hi sc hy k1 k2 => ?_) (fun H1 acc sl ha1 hp1 => ?_)
      · obtain ⟨rfl, c, hc, rfl⟩ := hy
        have e : sg[i]? = some c := by
          have e2 : sg.toArray[i]? = some c := hc
          simpa using e2
        refine ⟨rfl, _, rfl, _, rfl, c, ("" : Str), rfl, rfl, true, ?_, iteT ⟨_, rfl, k1 _ _ c (Same.refl _) rfl ?_⟩⟩
        · show V.bl (!decide (c ∈ ([] : List Nat))) = _
          rw [decide_eq_false List.not_mem_nil]
          rfl
        · rw [List.take_succ, e]
          rfl
      · have el : (sS sg).cps.size = sg.length := List.size_toArray
        rw [el, List.take_length] at hp1
        rw [paired_vals hp1] at ha1
        refine ⟨_, L, sg.map fun c => (⟨#[c]⟩ : Str), rfl, rfl, .inl (.inl (.inl (by rw [List.map_map]; exact ha1))), ?_, ?_⟩
        · rw [len_signs, List.length_map]
          have : sg.length ≤ 127 := sgok.len
          show sg.length + sg.length * 0 ≤ 16777216
          omega
        have ej : Txt.join ("" : Str) (sg.map fun c => (⟨#[c]⟩ : Str)) = sS sg := join_signs sg
        rw [show Txt.join _ (sg.map fun c => (⟨#[c]⟩ : Str)) = sS sg from ej]
        refine ⟨_, _, rfl, rfl, ?_, ?_⟩
        · rw [sS_len]
          exact Nat.le_trans (Nat.add_le_add (Nat.le_refl 0) sgok.len) (by decide)
        have s2 := s1.trans sl
        refine ⟨_, rfl, _, rfl, _, rfl, (by show 2 ≤ sizeLine; decide), fun U hU => ⟨Fd, U, es, tkey (p, sg, p'), sS sg, rfl, rfl, by rw [str_empty_append], nd.same (s2.trans (same_upd hU)), ⟨b1, b2, upd_same, same_upd hU _ _ (s2 _ _ hb1'), same_upd hU _ _ (s2 _ _ hb2')⟩, kn, ?_, ?_⟩⟩
        · have := Paired.length pr
          rw [this, List.length_take]
          omega
        · have s3 := s2.trans (same_upd hU (o := .tup [.ref b1, .ref b2]))
          have nd2 := nd.same s3
          have ts : TupS (upd H1 U (.tup [.ref b1, .ref b2])) (upd (upd H1 U (.tup [.ref b1, .ref b2])) Fd (NdO P w Fd (es ++ [(tkey (p, sg, p'), U, sS sg)]))) := TupS.upd nd2.1 fun xs z => by cases z
          refine ⟨_, _, _, _, _, _, rfl, same_new (sx.trans s3) hFd, ⟨upd_same, fun e he => ?_⟩, ?_⟩
          · rcases List.mem_append.mp he with he | he
            · exact (nd2.2 e he).mono ts
            · rw [List.mem_singleton.mp he]
              exact KeyAt.mono ts ⟨b1, b2, upd_same, same_upd hU _ _ (s2 _ _ hb1'), same_upd hU _ _ (s2 _ _ hb2')⟩
          · rw [List.take_succ, e2]
            exact paired_snoc pr ⟨rfl, rfl⟩
    · rintro σ Hx ⟨es, y2, y3, y4, y5, y6, rfl, sx, nd, pr⟩
      rw [Paired.length hp, List.take_length] at pr
      refine ⟨Fd, NdO P w Fd es, nd.1, trivial, fun od => ?_⟩
      have tl : TupS Hx (upd Hx Fd (.frz od (NdO P w Fd es))) := TupS.upd nd.1 fun xs z => by cases z
      refine ⟨_, rfl, Fd, od, es, rfl, upd_same, fun L hL => ?_⟩
      refine lc_map hL TStpAt (fun _ _ _ _ e r => r.mono e) walk_nd (fun _ s1 => s1 _ _ upd_same) (fun i => ss.take i) rfl (by rw [Paired.length pr]; omega) (fun i y Hc H' Post Skip hi sc hy k1 k2 => ?_) (fun H1 acc s1 ha1 hp1 => ?_)
      · obtain ⟨T, x, z, rfl, hT, rfl, hx, hz⟩ := hy
        simp only at hx hz
        cases he : es[i]? with
        | none => rw [he] at hx; cases hx
        | some e =>
          rw [he] at hx hz
          cases hx
          cases hz
          obtain ⟨s, e2, k0, k1'⟩ := paired_get pr he
          obtain ⟨b1, b2, q0, q1, q2⟩ := (nd.2 e (List.mem_of_getElem? he)).mono (tl.trans (TupS.same sc))
          have sT : Same Hc (upd Hc T (.tup [.ref e.2.1, .str e.2.2])) := same_upd hT
          refine ⟨T, _, rfl, .inl (.inl upd_same), rfl, _, _, rfl, ⟨e.2.1, _, rfl, .inl (.inl (sT _ _ q0)), rfl, _, _, rfl, _, _, rfl, rfl, _, _, rfl, rfl, ?_⟩⟩
          refine ⟨rfl, _, rfl, _, rfl, _, rfl, (by show 3 ≤ sizeLine; decide), fun U hU => ?_⟩
          refine k1 _ _ s (sT.trans (same_upd hU)) ⟨U, b1, b2, rfl, by rw [upd_same]; show some (HO.tup [.ref b1, .str e.2.2, .ref b2]) = _; rw [k1']; rfl, ?_, ?_⟩ ?_
          · have := same_upd hU (o := .tup [.ref b1, .str e.2.2, .ref b2]) _ _ (sT _ _ q1)
            rw [k0] at this
            exact this
          · have := same_upd hU (o := .tup [.ref b1, .str e.2.2, .ref b2]) _ _ (sT _ _ q2)
            rw [k0] at this
            exact this
          · rw [List.take_succ, e2]
            rfl
      · rw [Paired.length pr, List.take_length] at hp1
        have eF := s1 _ _ upd_same
        refine ⟨eF, ?_⟩
        have nLF : L ≠ Fd := fun e => by
          rw [e, upd_same] at hL
          cases hL
        have tu : TupS H1 (upd H1 Fd (NdO P w Fd es)) := TupS.upd eF fun xs z => by cases z
        refine q L acc _ (fun b o e => ?_) (by rw [upd_ne nLF]; exact ha1) (paired_mono hp1 fun _ _ r => r.mono tu)
        have nb : b ≠ Fd := ne_of_none e hFd
        rw [upd_ne nb]
        exact s1 _ _ (by rw [upd_ne nb]; exact sx _ _ e)
end
end KM
/-! text KP2 -/
set_option Elab.async false
set_option linter.all false
set_option maxRecDepth 100000
set_option maxHeartbeats 4000000
/-! Reaching, and the machine that is assembled: it accepts the same words. -/
namespace KM
/-- what can be reached along the edges -/
inductive Reach {α : Type} (bs : List α) (es : List (α × α)) : α → Prop
  | base {p : α} (h : p ∈ bs) : Reach bs es p
  | step {p q : α} (r : Reach bs es p) (h : (p, q) ∈ es) : Reach bs es q
/-- a set that holds the begins and is closed holds all that is reached -/
theorem Reach.sub {α : Type} {bs : List α} {es : List (α × α)} {S : α → Prop} (hb : ∀ p ∈ bs, S p) (hc : ∀ p q, S p → (p, q) ∈ es → S q) {p : α} (h : Reach bs es p) : S p := by
  induction h with
  | base h => exact hb _ h
  | step _ h ih => exact hc _ _ ih h
section
variable {α : Type} [DecidableEq α]
/-- the edges of steps -/
def fwd (ss : List (α × List Nat × α)) : List (α × α) := ss.map fun s => (s.1, s.2.2)
def bwd (ss : List (α × List Nat × α)) : List (α × α) := ss.map fun s => (s.2.2, s.1)
theorem mem_fwd {ss : List (α × List Nat × α)} {p q : α} : (p, q) ∈ fwd ss ↔ ∃ sg, (p, sg, q) ∈ ss := by
  unfold fwd
  rw [List.mem_map]
  constructor
  · rintro ⟨⟨a, b, c⟩, h, e⟩
    cases e
    exact ⟨b, h⟩
  · rintro ⟨sg, h⟩
    exact ⟨_, h, rfl⟩
theorem mem_bwd {ss : List (α × List Nat × α)} {p q : α} : (q, p) ∈ bwd ss ↔ ∃ sg, (p, sg, q) ∈ ss := by
  unfold bwd
  rw [List.mem_map]
  constructor
  · rintro ⟨⟨a, b, c⟩, h, e⟩
    cases e
    exact ⟨b, h⟩
  · rintro ⟨sg, h⟩
    exact ⟨_, h, rfl⟩
/-- the numbered machine: P the places kept, in their order -/
structure Numbered (bs : List α) (ss : List (α × List Nat × α)) (es : List α) (P : List α) (M : Mch) : Prop where
  nd : P.Nodup
  mem : ∀ p, p ∈ P ↔ Reach bs (fwd ss) p ∧ Reach es (bwd ss) p
  many : M.many = P.length
  begins : ∀ i, i ∈ M.begins ↔ ∃ p ∈ bs, P[i]? = some p
  ends : ∀ i, i ∈ M.ends ↔ ∃ p ∈ es, P[i]? = some p
  steps : ∀ i sg j, (i, sg, j) ∈ M.steps ↔ ∃ p q, P[i]? = some p ∧ P[j]? = some q ∧ (p, sg, q) ∈ ss
theorem at_inj {P : List α} (nd : P.Nodup) {i j : Nat} {p : α} (h1 : P[i]? = some p) (h2 : P[j]? = some p) : i = j := by
  obtain ⟨a, b⟩ := List.getElem?_eq_some_iff.mp h1
  obtain ⟨c, d⟩ := List.getElem?_eq_some_iff.mp h2
  exact (List.getElem_inj nd).mp (b.trans d.symm)
theorem Numbered.out {bs : List α} {ss : List (α × List Nat × α)} {es P : List α} {M : Mch} (n : Numbered bs ss es P M) : ∀ {w : List Nat} {i j : Nat} {p : α}, Path M.steps i w j → P[i]? = some p → ∃ q, P[j]? = some q ∧ Path ss p w q
  | [], i, j, p, h, e => by
    cases h
    exact ⟨p, e, .nil p⟩
  | c :: w, i, j, p, h, e => by
    obtain ⟨sg, k, h1, h2, h3⟩ := path_cons_iff.mp h
    obtain ⟨p', q', e1, e2, hs⟩ := (n.steps i sg k).mp h1
    rw [e] at e1
    cases e1
    obtain ⟨q, eq, pa⟩ := n.out h3 e2
    exact ⟨q, eq, .cons hs h2 pa⟩
theorem Numbered.in_ {bs : List α} {ss : List (α × List Nat × α)} {es P : List α} {M : Mch} (n : Numbered bs ss es P M) : ∀ {w : List Nat} {p q : α}, Path ss p w q → Reach bs (fwd ss) p → q ∈ es → ∃ i j, P[i]? = some p ∧ P[j]? = some q ∧ Path M.steps i w j
  | [], p, q, h, r, hq => by
    cases h
    have : p ∈ P := (n.mem p).mpr ⟨r, .base hq⟩
    obtain ⟨i, hi⟩ := List.getElem?_of_mem this
    exact ⟨i, i, hi, hi, .nil i⟩
  | c :: w, p, q, h, r, hq => by
    obtain ⟨sg, z, h1, h2, h3⟩ := path_cons_iff.mp h
    obtain ⟨i, j, ei, ej, pa⟩ := n.in_ h3 (.step r (mem_fwd.mpr ⟨sg, h1⟩)) hq
    have zP : z ∈ P := List.mem_of_getElem? ei
    have pP : p ∈ P := (n.mem p).mpr ⟨r, .step ((n.mem z).mp zP).2 (mem_bwd.mpr ⟨sg, h1⟩)⟩
    obtain ⟨k, hk⟩ := List.getElem?_of_mem pP
    exact ⟨k, j, hk, ej, .cons ((n.steps k sg i).mpr ⟨p, z, hk, ei, h1⟩) h2 pa⟩
/-- the machine accepts what the steps accept -/
theorem Numbered.acc {bs : List α} {ss : List (α × List Nat × α)} {es P : List α} {M : Mch} (n : Numbered bs ss es P M) (w : List Nat) : M.Acc w ↔ Acc bs ss es w := by
  constructor
  · rintro ⟨i, hi, j, hj, pa⟩
    obtain ⟨p, hp, e⟩ := (n.begins i).mp hi
    obtain ⟨q, eq, pb⟩ := n.out pa e
    obtain ⟨q', hq', e'⟩ := (n.ends j).mp hj
    rw [eq] at e'
    cases e'
    exact ⟨p, hp, q, hq', pb⟩
  · rintro ⟨p, hp, q, hq, pa⟩
    obtain ⟨i, j, ei, ej, pb⟩ := n.in_ pa (.base hp) hq
    exact ⟨i, (n.begins i).mpr ⟨p, hp, ei⟩, j, (n.ends j).mpr ⟨q, hq, ej⟩, pb⟩
/-! ### the search -/
/-- a search's state: F found, R still to be looked at -/
structure Srch (bs : List α) (es : List (α × α)) (F R : List α) : Prop where
  nd : F.Nodup
  sub : ∀ p ∈ R, p ∈ F
  beg : ∀ p ∈ bs, p ∈ F
  re : ∀ p ∈ F, Reach bs es p
  clos : ∀ p ∈ F, p ∉ R → ∀ q, (p, q) ∈ es → q ∈ F
theorem Srch.done {bs : List α} {es : List (α × α)} {F : List α} (s : Srch bs es F []) (p : α) : p ∈ F ↔ Reach bs es p :=
  ⟨s.re p, fun h => h.sub s.beg fun p q hp h => s.clos p hp (by simp) q h⟩
theorem Srch.start {bs : List α} {es : List (α × α)} (nd : bs.Nodup) : Srch bs es bs bs := ⟨nd, fun _ h => h, fun _ h => h, fun _ h => .base h, fun p h n => absurd h n⟩
/-- while p is looked at: the first of its ways are in -/
structure SrchAt (bs : List α) (es : List (α × α)) (p : α) (done : List α) (F R : List α) : Prop where
  nd : F.Nodup
  pF : p ∈ F
  sub : ∀ p ∈ R, p ∈ F
  beg : ∀ p ∈ bs, p ∈ F
  re : ∀ p ∈ F, Reach bs es p
  clos : ∀ z ∈ F, z ∉ R → z ≠ p → ∀ q, (z, q) ∈ es → q ∈ F
  dn : ∀ q ∈ done, q ∈ F
theorem Srch.pop {bs : List α} {es : List (α × α)} {F R : List α} {p : α} (s : Srch bs es F (R ++ [p])) : SrchAt bs es p [] F R :=
  ⟨s.nd, s.sub p (List.mem_append_right _ List.mem_cons_self), fun q h => s.sub q (List.mem_append_left _ h), s.beg, s.re, fun z h n ne => s.clos z h fun hm => (List.mem_append.mp hm).elim n fun e => ne (List.mem_singleton.mp e), fun _ h => by cases h⟩
theorem SrchAt.skip {bs : List α} {es : List (α × α)} {F R dn : List α} {p q : α} (s : SrchAt bs es p dn F R) (h : q ∈ F) : SrchAt bs es p (dn ++ [q]) F R :=
  { s with dn := fun z hz => (List.mem_append.mp hz).elim (s.dn z) fun e => by rw [List.mem_singleton.mp e]; exact h }
theorem SrchAt.add {bs : List α} {es : List (α × α)} {F R dn : List α} {p q : α} (s : SrchAt bs es p dn F R) (h : q ∉ F) (he : (p, q) ∈ es) : SrchAt bs es p (dn ++ [q]) (F ++ [q]) (R ++ [q]) := by
  refine ⟨?_, List.mem_append_left _ s.pF, fun z hz => ?_, fun z hz => List.mem_append_left _ (s.beg z hz), fun z hz => ?_, fun z hz hn ne y hy => ?_, fun z hz => ?_⟩
  · rw [List.nodup_append]
    refine ⟨s.nd, by simp, fun a ha b hb => ?_⟩
    rw [List.mem_singleton.mp hb]
    exact fun e => h (by rw [← e]; exact ha)
  · rcases List.mem_append.mp hz with hz | hz
    · exact List.mem_append_left _ (s.sub z hz)
    · exact List.mem_append_right _ hz
  · rcases List.mem_append.mp hz with hz | hz
    · exact s.re z hz
    · rw [List.mem_singleton.mp hz]
      exact .step (s.re p s.pF) he
  · rcases List.mem_append.mp hz with hz | hz
    · exact List.mem_append_left _ (s.clos z hz (fun hm => hn (List.mem_append_left _ hm)) ne y hy)
    · exact absurd (List.mem_append_right _ hz) hn
  · rcases List.mem_append.mp hz with hz | hz
    · exact List.mem_append_left _ (s.dn z hz)
    · exact List.mem_append_right _ hz
theorem SrchAt.next {bs : List α} {es : List (α × α)} {F R dn : List α} {p : α} (s : SrchAt bs es p dn F R) (h : ∀ q, (p, q) ∈ es → q ∈ dn) : Srch bs es F R :=
  ⟨s.nd, s.sub, s.beg, s.re, fun z hz hn q hq => by
    by_cases e : z = p
    · subst e
      exact s.dn q (h q hq)
    · exact s.clos z hz hn e q hq⟩
end
end KM
/-! text KW14 -/
set_option Elab.async false
set_option linter.all false
set_option maxRecDepth 100000
set_option maxHeartbeats 4000000
namespace KM
open PySem PySem.Spec PyProof.Rows L2
section
variable {X : Cx}
/-- d.setdefault(k, x), keys tuples -/
def rSetDefT : V → List V → Hp → VK → Prop := fun x xs H Q => ∃ (a : Addr) (kvs : List (List L2.Key × V)) (k : List L2.Key) (b : Addr) (d : V), x = .ref a ∧ xs = [.ref b, d] ∧ H a = some (.dT kvs) ∧ H b = some (.tup (k.map kV)) ∧ kvs.length < sizeLine ∧
  (∀ v, valV kvs k = some v → Q v H) ∧ (valV kvs k = none → Q d (upd H a (.dT (putK kvs k d))))
theorem mt_setDefT (hu : X.A.units + 64 < cLine) : MtR X "dict.setdefault" rSetDefT := by
  intro pins s σ H x xs v us Q I rx rxs h
  obtain ⟨a, kvs, k, b, d, rfl, rfl, ha, hb, hl, q1, q2⟩ := h
  cases rx
  obtain ⟨u1, u2, rfl, r1, r2⟩ := vals2 rxs
  cases r1
  obtain ⟨z, hd, xs', rel, dd⟩ := dt_of I.hok ha
  have hz : xs'.length ≤ sizeLine := by rw [← Paired.length rel]; exact z
  refine call_setdefault_heap (hsz := hz) (tupleKind_room_in1 (by omega)) (key_of I.hok hb) hd dd (fun p hp => ?_) (fun hn h' dd' hs => ?_)
  · have r := rel.val k
    rw [hp] at r
    cases ev : valV kvs k with
    | none =>
      rw [ev] at r
      exact (show False from r).elim
    | some v0 =>
      rw [ev] at r
      exact ⟨v0, H, I.tok _, r, q1 v0 ev⟩
  · have r := rel.val k
    rw [hn] at r
    have e : valV kvs k = none := by
      cases ev : valV kvs k with
      | none => rfl
      | some v0 =>
        rw [ev] at r
        exact (show False from r).elim
    obtain ⟨q, es, ep, hq, h2, h3, h4, _, h5⟩ := dd'
    have hl2 : (putK kvs k d).length ≤ sizeLine := by have := length_putK kvs k d; omega
    refine ⟨d, upd H a (.dT (putK kvs k d)), d_write I (by rw [ha]; exact True.intro) hs ⟨q, hq⟩ ⟨hl2, hd, _, (rel.put k hb r2).keeps fun c ys ec => ?_, q, es, ep, hq, h2, h3, h4, h5⟩, r2, q2 e⟩
    rw [upd_ne (ne_of ec ha (fun z => nomatch z))]
    exact ec
/-- a list or a tuple -/
def iSeq (K : PySem.W.Frag) (tl : TE) : TI := fun σ H R => tl σ H fun x H1 => ∃ a, x = .ref a ∧ ((∃ xs, SqL K H1 a xs ∧ R (Itl K a) H1) ∨ (∃ xs, SqT K H1 a xs ∧ R (Itt K a) H1))
theorem pi_seq {tg l : Expr} {tl : TE} (hl : PE X l tl) : PI X tg l (iSeq X.K tl) := by
  refine ⟨fun pins s σ H R I h => ?_⟩
  refine thn (hl.run pins s σ H _ I h) fun v s1 ⟨x, H1, I1, r1, q1⟩ => ?_
  obtain ⟨a, e, q⟩ := q1
  subst e
  cases r1
  rcases q with ⟨xs, hq, q⟩ | ⟨xs, hq, q⟩
  · obtain ⟨its, rv, p, hz⟩ := I1.list hq
    refine wpAny_pyIter_list p.isList ?_
    refine ⟨s1.heap.objs.size, [s1.heap.objs.size], _, _, H1, rfl, I1.kept (t' := s1.toks) fun b o e => Heap.get?_push_of_some _ e, turn_list a _, ⟨_, Heap.get?_push_size _ rfl, rfl, rfl⟩, fun b hb => ?_, q⟩
    have e : b = s1.heap.objs.size := by simpa using hb
    subst e
    exact I1.fpOk (Nat.le_refl _) (I1.hok.fresh (Nat.le_refl _))
  · obtain ⟨its, rv, p, hz⟩ := I1.tuple hq
    refine wpAny_pyIter_tuple (show s1.heap.IsTuple a its.toArray from p) ?_
    refine ⟨s1.heap.objs.size, [s1.heap.objs.size], _, _, H1, rfl, I1.kept (t' := s1.toks) fun b o e => Heap.get?_push_of_some _ e, turn_tuple a _, ⟨_, Heap.get?_push_size _ rfl, rfl, rfl⟩, fun b hb => ?_, q⟩
    have e : b = s1.heap.objs.size := by simpa using hb
    subst e
    exact I1.fpOk (Nat.le_refl _) (I1.hok.fresh (Nat.le_refl _))
end
/-- a pair as a key -/
def kP (p : Pr) : List L2.Key := [.inl (p.1 : Int), .inl (p.2 : Int)]
theorem kP_V (p : Pr) : (kP p).map kV = [nV p.1, nV p.2] := rfl
theorem kP_inj {p q : Pr} (h : kP p = kP q) : p = q := Prod.ext (inl_inj (List.cons.inj h).1) (inl_inj (List.cons.inj (List.cons.inj h).2).1)
theorem PrAt.mono {H H' : Hp} {v : V} {p : Pr} (t : TupS H H') (h : PrAt H v p) : PrAt H' v p := Tup.mono t h
/-- a pair of pairs -/
def PPAt (H : Hp) (v : V) (e : Pr × Pr) : Prop := ∃ t a b, v = .ref t ∧ H t = some (.tup [.ref a, .ref b]) ∧ PrAt H (.ref a) e.1 ∧ PrAt H (.ref b) e.2
theorem PPAt.mono {H H' : Hp} {v : V} {e : Pr × Pr} (t : TupS H H') (h : PPAt H v e) : PPAt H' v e := let ⟨a, b, c, h0, h1, h2, h3⟩ := h; ⟨a, b, c, h0, t _ _ h1, h2.mono t, h3.mono t⟩
def succs (ps : List (Pr × Pr)) (p : Pr) : List Pr := (ps.filter fun e => decide (e.1 = p)).map fun e => e.2
theorem mem_succs {ps : List (Pr × Pr)} {p q : Pr} : q ∈ succs ps p ↔ (p, q) ∈ ps := by
  unfold succs
  rw [List.mem_map]
  constructor
  · rintro ⟨⟨a, b⟩, h, rfl⟩
    obtain ⟨h1, h2⟩ := List.mem_filter.mp h
    have : a = p := of_decide_eq_true h2
    subst this
    exact h1
  · intro h
    exact ⟨(p, q), List.mem_filter.mpr ⟨h, decide_eq_true rfl⟩, rfl⟩
theorem succs_snoc (ps : List (Pr × Pr)) (e : Pr × Pr) (p : Pr) : succs (ps ++ [e]) p = succs ps p ++ (if e.1 = p then [e.2] else []) := by
  unfold succs
  rw [List.filter_append, List.map_append]
  congr 1
  by_cases h : e.1 = p <;> simp [h]
/-- the dict of ways: from a pair to the list of the pairs behind -/
structure WaysAt (H : Hp) (d : Addr) (ps : List (Pr × Pr)) : Prop where
  ex : ∃ kvs, H d = some (.dT kvs) ∧ ∀ p : Pr, (∃ la ov, valV kvs (kP p) = some (.ref la) ∧ H la = some (.lst ov) ∧ Paired (PrAt H) ov (succs ps p)) ∨ (valV kvs (kP p) = none ∧ succs ps p = [])
section
variable {P : Program} {w : World} {K : PySem.W.Frag} {mg : Str → Option Value} {base : Heap}
def spWaysOf : Sp := fun vs H Q _ => ∃ (a : Addr) (sv : List V) (ps : List (Pr × Pr)), vs = [.ref a] ∧ H a = some (.lst sv) ∧ Paired (PPAt H) sv ps ∧ ps.length ≤ 1000 ∧ ∀ (d : Addr) H', Same H H' → WaysAt H' d ps → Q (.ref d) H'
abbrev nmWaysOf : List Str := ["pairs", "found", "place", "other"]
theorem scWaysOf : FnScope nmWaysOf ["pairs"] (defScope sWaysOf) := ⟨rfl, rfl, rfl, by decide +kernel, rfl, by decide +kernel, by decide +kernel⟩
theorem ok_ways_of {f : Addr} {fd : FuncData} (F : FnP K "ways_of" "ways_of" sWaysOf f fd) (B : Bi mg) : FnOk P w K mg base CX0 1 f fd ["pairs"] spWaysOf := by
  refine F.okP scWaysOf (fun vs H Q E h => ?_) (fun cdv A outer s H vs Q E hr h => ?_)
  · obtain ⟨a, sv, ss, rfl, _⟩ := h
    rfl
  · obtain ⟨a, sv, ps, rfl, ha, hp, plen, q⟩ := h
    refine ⟨_, pss_cons (ps_set (i := 1) scWaysOf.nd rfl (.inl rfl) pe_dnewT)
      (pss_cons (ps_for PassesOwn.never rfl (pi_list (pv 0)) (pg_tup rfl (pgs_cons (pg_name (i := 2) scWaysOf.nd rfl (.inl rfl)) (pgs_cons (pg_name (i := 3) scWaysOf.nd rfl (.inl rfl)) pgs_nil)))
        (pss_one (ps_expr (pe_bm PySem.F.plainAttrs_list PySem.F.slot_list_append PySem.F.type_list_append mt_append
          (pe_bm PySem.F.plainAttrs_dict PySem.F.slot_dict_setdefault PySem.F.type_dict_setdefault (mt_setDefT (by exact hu64 hr)) (pv 1) (pa_cons (pv 2) (pa_cons (pe_lst pa_nil) pa_nil))) (pa_cons (pv 3) pa_nil)))))
      (pss_one (ps_ret (pv 1)))), ?_⟩
    have line : (1000 : Nat) < sizeLine := by decide
    refine fun Fd hFd => ?_
    refine ⟨_, rfl, a, rfl, ⟨_, .inl (.inl (same_upd hFd _ _ ha))⟩, ?_⟩
    have svl := Paired.length hp
    refine for_it (walk_list (xs := sv)) (fun i σ Hx => ∃ (kvs : List (List L2.Key × V)) (y2 y3 : Option V), σ = [some (.ref a), some (.ref Fd), y2, y3] ∧ Same H Hx ∧ Hx Fd = some (.dT kvs) ∧ kvs.length ≤ i ∧
        ∃ Am : Pr → Option Addr, (∀ p, valV kvs (kP p) = (Am p).map V.ref) ∧ (∀ p p' l, Am p = some l → Am p' = some l → p = p') ∧ (∀ p l, Am p = some l → H l = none) ∧
          ∀ p, (∃ la ov, Am p = some la ∧ Hx la = some (.lst ov) ∧ ov.length ≤ i ∧ Paired (PrAt Hx) ov (succs (ps.take i) p)) ∨ (Am p = none ∧ succs (ps.take i) p = []))
      ⟨[], none, none, rfl, same_upd hFd, upd_same, Nat.zero_le _, fun _ => none, fun p => rfl, (fun _ _ _ h => by cases h), (fun _ _ h => by cases h), fun p => .inr ⟨rfl, rfl⟩⟩ (fun _ _ _ _ ⟨_, _, _, _, sx, _⟩ => .inl (.inl (sx _ _ ha))) ?_ ?_
    · rintro i v σ Hx Hx' hi ⟨kvs, y2, y3, rfl, sx, hF, kl, Am, hA1, hA2, hA3, hA4⟩ ⟨rfl, hv⟩
      obtain ⟨⟨p, p'⟩, e2, t, b1, b2, rfl, ht, hb1, hb2⟩ := paired_get hp hv
      have tsx := TupS.same sx
      obtain ⟨b1', eb1, hb1'⟩ := hb1.mono tsx
      cases eb1
      obtain ⟨b2', eb2, hb2'⟩ := hb2.mono tsx
      cases eb2
      refine ⟨t, _, rfl, .inl (.inl (sx _ _ ht)), rfl, _, _, rfl, _, _, rfl, rfl, ?_⟩
      have ext : ∀ z, succs (ps.take (i + 1)) z = succs (ps.take i) z ++ (if p = z then [p'] else []) := fun z => by
        rw [List.take_succ, e2]
        exact succs_snoc _ _ _
      refine ⟨_, rfl, .inr (.inr (.inl ⟨rfl, .inr ⟨kvs, hF⟩⟩)), _, rfl, Nat.zero_le _, fun l hl => ?_⟩
      have sl : Same Hx' (upd Hx' l (.lst [])) := same_upd hl
      have Hl := none_of sx hl
      have nlF : l ≠ Fd := (ne_of_none hF hl).symm
      refine ⟨Fd, kvs, kP p, b1, .ref l, rfl, rfl, sl _ _ hF, sl _ _ hb1', by omega, fun v hv => ?_, fun hv => ?_⟩
      · -- the list is there
        rw [hA1 p] at hv
        rcases hA4 p with ⟨la, ov, q1, q2, q3, q4⟩ | ⟨q1, _⟩
        · rw [q1] at hv
          cases hv
          have q2' := sl _ _ q2
          refine ⟨.inl ⟨rfl, _, .inl (.inl q2')⟩, _, rfl, la, ov, _, rfl, rfl, q2', by omega, ?_⟩
          have tw : TupS (upd Hx' l (.lst [])) (upd (upd Hx' l (.lst [])) la (.lst (ov ++ [.ref b2]))) := TupS.upd q2' fun xs z => by cases z
          have tw2 := (TupS.same sl).trans tw
          have nla : la ≠ Fd := ne_of q2 hF (fun z => by cases z)
          refine ⟨kvs, _, _, rfl, same_new (sx.trans sl) (hA3 p la q1), by rw [upd_ne nla.symm]; exact sl _ _ hF, by omega, Am, hA1, hA2, hA3, fun z => ?_⟩
          by_cases ez : p = z
          · subst ez
            rw [ext, if_pos rfl]
            exact .inl ⟨la, _, q1, upd_same, by rw [List.length_append, List.length_singleton]; omega, paired_snoc (paired_mono q4 fun _ _ r => r.mono tw2) ⟨b2, rfl, tw2 _ _ hb2'⟩⟩
          · rw [ext, if_neg ez, List.append_nil]
            rcases hA4 z with ⟨lz, oz, r1, r2, r3, r4⟩ | r
            · have nz : lz ≠ la := fun e => ez (hA2 _ _ _ q1 (by rw [← e]; exact r1))
              exact .inl ⟨lz, oz, r1, by rw [upd_ne nz]; exact sl _ _ r2, by omega, paired_mono r4 fun _ _ r => r.mono tw2⟩
            · exact .inr r
        · rw [q1] at hv
          cases hv
      · -- a new list
        rw [hA1 p] at hv
        have hAp : Am p = none := by
          cases e : Am p with
          | none => rfl
          | some x =>
            rw [e] at hv
            cases hv
        have hsucc : succs (ps.take i) p = [] := by
          rcases hA4 p with ⟨la, ov, q1, _⟩ | ⟨_, q⟩
          · rw [hAp] at q1
            cases q1
          · exact q
        have hF2 := sl _ _ hF
        have hl2 : upd (upd Hx' l (.lst [])) Fd (.dT (putK kvs (kP p) (.ref l))) l = some (.lst []) := by rw [upd_ne nlF, upd_same]
        have t1 : TupS (upd Hx' l (.lst [])) (upd (upd Hx' l (.lst [])) Fd (.dT (putK kvs (kP p) (.ref l)))) := TupS.upd hF2 fun xs z => by cases z
        have t2 : TupS (upd (upd Hx' l (.lst [])) Fd (.dT (putK kvs (kP p) (.ref l)))) (upd (upd (upd Hx' l (.lst [])) Fd (.dT (putK kvs (kP p) (.ref l)))) l (.lst [.ref b2])) := TupS.upd hl2 fun xs z => by cases z
        have tw := (TupS.same sl).trans (t1.trans t2)
        refine ⟨.inl ⟨rfl, _, .inl (.inl hl2)⟩, _, rfl, l, [], _, rfl, rfl, hl2, by decide, ?_⟩
        refine ⟨putK kvs (kP p) (.ref l), _, _, rfl, same_new (same_new (sx.trans sl) hFd) Hl, by rw [upd_ne nlF.symm, upd_same], by have := length_putK kvs (kP p) (V.ref l); omega, fun z => if z = p then some l else Am z, fun z => ?_, fun z z' l' h1 h2 => ?_, fun z l' h1 => ?_, fun z => ?_⟩
        · rw [valV_put]
          show _ = Option.map V.ref (if z = p then some l else Am z)
          by_cases ez : z = p
          · rw [ez, if_pos rfl, if_pos rfl]
            rfl
          · rw [if_neg (fun e => ez (kP_inj e)), if_neg ez]
            exact hA1 z
        · have old : ∀ y, Am y = some l → False := fun y hy => by
            rcases hA4 y with ⟨la, ov, q1, q2, _⟩ | ⟨q1, _⟩
            · rw [hy] at q1
              cases q1
              rw [hl] at q2
              cases q2
            · rw [hy] at q1
              cases q1
          have h1 : (if z = p then some l else Am z) = some l' := h1
          have h2 : (if z' = p then some l else Am z') = some l' := h2
          by_cases e1 : z = p
          · rw [if_pos e1] at h1
            cases h1
            by_cases e2 : z' = p
            · rw [e1, e2]
            · rw [if_neg e2] at h2
              exact (old _ h2).elim
          · rw [if_neg e1] at h1
            by_cases e2 : z' = p
            · rw [if_pos e2] at h2
              cases h2
              exact (old _ h1).elim
            · rw [if_neg e2] at h2
              exact hA2 _ _ _ h1 h2
        · have h1 : (if z = p then some l else Am z) = some l' := h1
          by_cases e1 : z = p
          · rw [if_pos e1] at h1
            cases h1
            exact Hl
          · rw [if_neg e1] at h1
            exact hA3 _ _ h1
        · show (∃ la ov, (if z = p then some l else Am z) = some la ∧ _) ∨ ((if z = p then some l else Am z) = none ∧ _)
          by_cases ez : z = p
          · rw [if_pos ez, ext, ez, if_pos rfl, hsucc]
            exact .inl ⟨l, _, rfl, upd_same, by simp, .cons ⟨b2, rfl, tw _ _ hb2'⟩ .nil⟩
          · rw [if_neg ez, ext, if_neg (fun e => ez e.symm), List.append_nil]
            rcases hA4 z with ⟨lz, oz, r1, r2, r3, r4⟩ | r
            · have nz : lz ≠ l := ne_of_none r2 hl
              have nz2 : lz ≠ Fd := ne_of r2 hF (fun z => by cases z)
              exact .inl ⟨lz, oz, r1, by rw [upd_ne nz, upd_ne nz2]; exact sl _ _ r2, by omega, paired_mono r4 fun _ _ r => r.mono tw⟩
            · exact .inr r
    · rintro σ Hx ⟨kvs, y2, y3, rfl, sx, hF, kl, Am, hA1, hA2, hA3, hA4⟩
      rw [svl, List.take_length] at hA4
      refine ⟨_, rfl, q Fd Hx sx ⟨kvs, hF, fun p => ?_⟩⟩
      rcases hA4 p with ⟨la, ov, q1, q2, _, q4⟩ | ⟨q1, q2⟩
      · exact .inl ⟨la, ov, by rw [hA1, q1]; rfl, q2, q4⟩
      · exact .inr ⟨by rw [hA1, q1]; rfl, q2⟩
end
end KM
/-! text KW15 -/
set_option Elab.async false
set_option linter.all false
set_option maxRecDepth 100000
set_option maxHeartbeats 4000000
namespace KM
open PySem PySem.Spec PyProof.Rows L2
theorem paired_snoc_inv {α β : Type} {F : α → β → Prop} : ∀ {R : List β} {l : List α} {p : β}, Paired F l (R ++ [p]) → ∃ l' v, l = l' ++ [v] ∧ Paired F l' R ∧ F v p
  | [], _, p, .cons h .nil => ⟨[], _, rfl, .nil, h⟩
  | q :: R, _, p, .cons h t => by
    obtain ⟨l', v, rfl, h1, h2⟩ := paired_snoc_inv t
    exact ⟨_ :: l', v, rfl, .cons h h1, h2⟩
/-- the found ones -/
def fT (F : List Pr) : List (List L2.Key × V) := F.map fun p => (kP p, V.bl true)
theorem fT_len (F : List Pr) : (fT F).length = F.length := List.length_map _
theorem fT_keys {F : List Pr} {p : Pr} : kP p ∈ (fT F).map (·.1) ↔ p ∈ F := by
  unfold fT
  rw [List.map_map]
  constructor
  · intro h
    obtain ⟨q, hq, e⟩ := List.mem_map.mp h
    rw [← kP_inj e]
    exact hq
  · exact fun h => List.mem_map.mpr ⟨p, h, rfl⟩
theorem fT_no {F : List Pr} {p : Pr} (h : p ∉ F) : valV (fT F) (kP p) = none := valV_none fun q => h (fT_keys.mp q)
theorem fT_in {F : List Pr} {p : Pr} (h : p ∈ F) : (valV (fT F) (kP p)).isSome = true := (valV_keys _ _).mpr (fT_keys.mpr h)
theorem fT_put {F : List Pr} {p : Pr} (h : p ∉ F) : putK (fT F) (kP p) (V.bl true) = fT (F ++ [p]) := by
  rw [putK_new _ (fT_no h)]
  simp [fT]
theorem fT_isSome {F : List Pr} (p : Pr) : (valV (fT F) (kP p)).isSome = decide (p ∈ F) := by
  by_cases h : p ∈ F
  · rw [fT_in h, decide_eq_true h]
  · rw [fT_no h, decide_eq_false h]
    rfl
/-- a pair as data -/
def pD (p : Pr) : PyData := .tuple [.int (p.1 : Int), .int (p.2 : Int)]
theorem dp_pr {K : PySem.W.Frag} {H : Hp} {v : V} {p : Pr} (h : PrAt H v p) : Dp K H v (pD p) := by
  obtain ⟨t, rfl, ht⟩ := h
  exact .tup (.inl (.inl ht)) (.cons (.int _) (.cons (.int _) .nil))
theorem dpAll_pr {K : PySem.W.Frag} {H : Hp} : ∀ {vs : List V} {ss : List Pr}, Paired (PrAt H) vs ss → DpAll K H vs (ss.map pD)
  | _, _, .nil => .nil
  | _, _, .cons h t => .cons (dp_pr h) (dpAll_pr t)
theorem depth_prs : ∀ ss : List Pr, PyData.depthAll (ss.map pD) ≤ 2
  | [] => by simp [PyData.depthAll]
  | a :: r => by
    have := depth_prs r
    simp only [List.map_cons, PyData.depthAll, pD, PyData.depth]
    omega
theorem canLay_prs : ∀ ss : List Pr, PyData.canLay0 (.list (ss.map pD)) = true
  | [] => rfl
  | a :: r => canLay_prs r
theorem shaped_prs (ss : List Pr) : SeqAt.shaped (.list (ss.map pD)) = true := by
  unfold SeqAt.shaped
  rw [canLay_prs, Bool.true_and, decide_eq_true]
  have := depth_prs ss
  simp only [PyData.depth]
  omega
theorem take_fresh' {α : Type} {l : List α} (nd : l.Nodup) {i : Nat} {a : α} (h : l[i]? = some a) : a ∉ l.take i := fun hm => by
  obtain ⟨j, hj, ej⟩ := List.mem_iff_getElem.mp hm
  rw [List.getElem_take] at ej
  rw [List.length_take] at hj
  obtain ⟨hi, ei⟩ := List.getElem?_eq_some_iff.mp h
  rw [← ei] at ej
  have := (List.getElem_inj nd).mp ej
  omega
theorem reach_in {bs : List Pr} {ps : List (Pr × Pr)} {p : Pr} (h : Reach bs ps p) : p ∈ bs ++ ps.map (·.2) := by
  cases h with
  | base h => exact List.mem_append_left _ h
  | step _ h => exact List.mem_append_right _ (List.mem_map.mpr ⟨_, h, rfl⟩)
section
variable {P : Program} {w : World} {K : PySem.W.Frag} {mg : Str → Option Value} {base : Heap}
def spComeTo : Sp := fun vs H Q _ => ∃ (a d : Addr) (bv : List V) (bs : List Pr) (ps : List (Pr × Pr)), vs = [.ref a, .ref d] ∧ H a = some (.lst bv) ∧ Paired (PrAt H) bv bs ∧ bs.Nodup ∧ WaysAt H d ps ∧ bs.length + ps.length ≤ 1000 ∧
  ∀ (l : Addr) (F : List Pr) H', Same H H' → H l = none → H' l = some (.dT (fT F)) → F.Nodup → (∀ p, p ∈ F ↔ Reach bs ps p) → Q (.ref l) H'
abbrev nmComeTo : List Str := ["begins", "ways", "found", "row", "other", "place"]
theorem scComeTo : FnScope nmComeTo ["begins", "ways"] (defScope sComeTo) := ⟨rfl, rfl, rfl, by decide +kernel, rfl, by decide +kernel, by decide +kernel⟩
theorem ok_come_to {f : Addr} {fd : FuncData} (F : FnP K "come_to" "come_to" sComeTo f fd) (B : Bi mg) : FnOk P w K mg base CX0 1 f fd ["begins", "ways"] spComeTo := by
  refine F.okP scComeTo (fun vs H Q E h => ?_) (fun cdv A outer s H vs Q E hr h => ?_)
  · obtain ⟨a, d, bv, bs, ps, rfl, _⟩ := h
    rfl
  · obtain ⟨a, d, bv, bs, ps, rfl, ha, hp, bnd, hW, blen, q⟩ := h
    obtain ⟨kvs, hd, hways⟩ := hW.ex
    refine ⟨_, pss_cons (ps_setDcT (i := 2) (own := [("place", 5)]) (g := gName 5) (tt := tYes) (by exact Nat.lt_of_le_of_lt (Nat.le_add_right _ _) (hu64 hr)) rfl scComeTo.nd rfl rfl (sw_trueD rfl rfl rfl (by decide +kernel)) (pi_list (pv 0))
        (blkOk_by (N := nmComeTo) (sc := defScope sComeTo) (by decide +kernel)) (fun _ _ _ _ _ => pg_name (i := 5) scComeTo.nd rfl (.inl rfl)) (fun _ _ _ _ _ => pts_nil) (fun _ _ _ _ _ => pv 5) (fun _ _ _ _ _ => pe_bl))
      (pss_cons (ps_set (i := 3) scComeTo.nd rfl (.inl rfl) (pe_callTy call_list_of (by rfl) B.list (by decide +kernel) (pa_cons (pv 0) pa_nil)))
      (pss_cons (ps_while PassesOwn.never (pt_cmpR (op_neD (by exact hu64 hr)) (pv 3) (pe_lst pa_nil) (nomark _))
        (pss_one (ps_for PassesOwn.never rfl (pi_seq (pe_dget2 (by exact Nat.lt_of_le_of_lt (Nat.add_le_add_left (by decide) _) (hu64 hr)) (pv 1) (pe_bm0 PySem.F.plainAttrs_list PySem.F.slot_list_pop PySem.F.type_list_pop mt_pop (pv 3)) (pe_tup pa_nil) ⟨rfl, rfl, rfl, rfl⟩)) (pg_name (i := 4) scComeTo.nd rfl (.inl rfl))
          (pss_one (ps_if (pt_cmp (pc_dnotin (by exact Nat.lt_of_le_of_lt (Nat.add_le_add_left (by decide) _) (hu64 hr)) (pv 4) (pv 2)))
            (pss_cons (ps_dput (by exact Nat.lt_of_le_of_lt (Nat.add_le_add_left (by decide) _) (hu64 hr)) (pv 2) (pv 4) pe_bl rfl)
            (pss_one (ps_expr (pe_bm PySem.F.plainAttrs_list PySem.F.slot_list_append PySem.F.type_list_append mt_append (pv 3) (pa_cons (pv 4) pa_nil))))) pss_nil)))))
      (pss_one (ps_ret (pv 2))))), ?_⟩
    have line : (1001 : Nat) < sizeLine := by decide
    have bvl := Paired.length hp
    refine ⟨_, rfl, a, rfl, ⟨_, .inl (.inl ha)⟩, fun Fd hFd => ?_⟩
    refine dt_map hFd (walk_list (xs := bv)) (fun _ s1 => .inl (.inl (s1 _ _ ha))) (fun i => fT (bs.take i)) rfl (fun i _ => by rw [fT_len, List.length_take]; omega) (fun i y Hc H' Post Skip hi sc hy k1 k2 => ?_) (fun H1 s1 hF1 => ?_)
    · obtain ⟨rfl, hy⟩ := hy
      obtain ⟨p, e2, b, rfl, hb⟩ := paired_get hp hy
      refine ⟨rfl, _, rfl, ?_⟩
      refine k1 b (kP p) _ _ (Same.refl _) (sc _ _ hb) ?_
      rw [fT_put (take_fresh' bnd e2), List.take_succ, e2]
      rfl
    rw [bvl, List.take_length] at hF1
    refine ⟨_, rfl, a, bv, rfl, .inl (.inl (.inl (s1 _ _ ha))), fun Rn hRn => ?_⟩
    have nFR : Fd ≠ Rn := fun e => by
      rw [← e, hF1] at hRn
      cases hRn
    have HRn := none_of s1 hRn
    have Flen : ∀ F : List Pr, F.Nodup → (∀ p ∈ F, Reach bs ps p) → F.length ≤ (bs ++ ps.map (·.2)).length := fun F nd h => nodup_sub nd fun p hp => reach_in (h p hp)
    have Ulen : (bs ++ ps.map (·.2)).length ≤ 1000 := by rw [List.length_append, List.length_map]; exact blen
    generalize (bs ++ ps.map (·.2)).length = U at Flen Ulen
    have tR : TupS H (upd H1 Rn (.lst bv)) := TupS.same (s1.trans (same_upd hRn))
    refine ⟨fun m σ Hx => ∃ (F R : List Pr) (rv : List V) (y4 y5 : Option V), m = (U - F.length) + R.length ∧ σ = [some (.ref a), some (.ref d), some (.ref Fd), some (.ref Rn), y4, y5] ∧ Same H Hx ∧ Hx Fd = some (.dT (fT F)) ∧ Hx Rn = some (.lst rv) ∧ Paired (PrAt Hx) rv R ∧ rv.length ≤ F.length ∧ Srch bs ps F R,
      ⟨_, bs, bs, bv, _, _, rfl, rfl, s1.trans (same_upd hRn), by rw [upd_ne nFR]; exact hF1, upd_same, paired_mono hp fun _ _ r => r.mono tR, Nat.le_of_eq bvl, Srch.start bnd⟩, ?_⟩
    rintro m σ Hx ⟨F, R, rv, y4, y5, rfl, rfl, sx, hFx, hRx, pr, rvl, sr⟩
    have nd2 : Fd ≠ Rn := nFR
    refine ⟨_, rfl, Nat.zero_le _, fun e0 he0 => ⟨.list (R.map pD), .list [], .lst (.inl (.inl (by rw [upd_ne (ne_of_none hRx he0)]; exact hRx))) (dpAll_pr (paired_mono pr fun _ _ r => r.mono (TupS.same (same_upd he0)))), .lst (.inl (.inl upd_same)) .nil, shaped_prs R, rfl, ?_⟩⟩
    rw [eqv_nil]
    have se : Same Hx (upd Hx e0 (.lst [])) := same_upd he0
    obtain ⟨Hy, hHy⟩ : ∃ Hy, upd Hx e0 (.lst []) = Hy := ⟨_, rfl⟩
    rw [hHy] at se ⊢
    have hFy := se _ _ hFx
    have hRy := se _ _ hRx
    have pry := paired_mono pr fun _ _ r => r.mono (TupS.same se)
    have sy := sx.trans se
    clear hHy
    have Fl := Flen F sr.nd sr.re
    rcases List.eq_nil_or_concat R with rfl | ⟨R', p, eR⟩
    · refine ⟨false, rfl, iteF ⟨_, rfl, q Fd F Hy sy hFd hFy sr.nd fun p => sr.done p⟩⟩
    rw [List.concat_eq_append] at eR
    subst eR
    have hemp : ((R' ++ [p]).map pD).isEmpty = false := by
      cases R' <;> rfl
    rw [hemp]
    obtain ⟨rv', v, rfl, prv, hv⟩ := paired_snoc_inv pry
    obtain ⟨b, rfl, hb⟩ := hv
    refine ⟨true, rfl, iteT ⟨fun σ' H' => ∃ m', m' < (U - F.length) + (R' ++ [p]).length ∧ ∃ (F R : List Pr) (rv : List V) (y4 y5 : Option V), m' = (U - F.length) + R.length ∧ σ' = [some (.ref a), some (.ref d), some (.ref Fd), some (.ref Rn), y4, y5] ∧ Same H H' ∧ H' Fd = some (.dT (fT F)) ∧ H' Rn = some (.lst rv) ∧ Paired (PrAt H') rv R ∧ rv.length ≤ F.length ∧ Srch bs ps F R, fun _ _ z => z, ?_⟩⟩
    have lv : (rv' ++ [V.ref b])[(rv' ++ [V.ref b]).length - 1]? = some (V.ref b) := by
      rw [List.length_append, List.length_singleton, Nat.add_sub_cancel, List.getElem?_append_right (Nat.le_refl _), Nat.sub_self]
      rfl
    refine ⟨_, rfl, d, rfl, .inr ⟨kvs, .inl (sy _ _ hd)⟩, _, rfl, .inl ⟨rfl, _, .inl (.inl hRy)⟩, Rn, _, .ref b, rfl, rfl, hRy, lv, Nat.zero_le _, fun t0 ht0 => ?_⟩
    rw [List.dropLast_concat] at ht0 ⊢
    have tpop : TupS Hy (upd Hy Rn (.lst rv')) := TupS.upd hRy fun xs z => by cases z
    have st0 : Same (upd Hy Rn (.lst rv')) (upd (upd Hy Rn (.lst rv')) t0 (.tup [])) := same_upd ht0
    have ty2 : TupS Hy (upd (upd Hy Rn (.lst rv')) t0 (.tup [])) := tpop.trans (TupS.same st0)
    have sz : Same H (upd (upd Hy Rn (.lst rv')) t0 (.tup [])) := (same_new sy HRn).trans st0
    have hFz := st0 _ _ (show upd Hy Rn (.lst rv') Fd = some (.dT (fT F)) by rw [upd_ne nFR]; exact hFy)
    have hRz := st0 _ _ (show upd Hy Rn (.lst rv') Rn = some (.lst rv') from upd_same)
    have prz := paired_mono prv fun _ _ r => r.mono ty2
    obtain ⟨Hz, hHz⟩ : ∃ Hz, upd (upd Hy Rn (.lst rv')) t0 (.tup []) = Hz := ⟨_, rfl⟩
    have ht0z : Hz t0 = some (.tup []) := by rw [← hHz]; exact upd_same
    rw [hHz] at sz hFz hRz prz ty2 ⊢
    clear st0 hHz ht0
    refine ⟨valV kvs (kP p), DGet.t (k := kP p) (sz _ _ hd) (ty2 _ _ hb), ?_⟩
    have fin : ∀ (F' R'' : List Pr) (rv'' : List V) (y4 : Option V) (Hw : Hp), (U - F'.length) + R''.length = (U - F.length) + R'.length → Same H Hw → Hw Fd = some (.dT (fT F')) → Hw Rn = some (.lst rv'') → Paired (PrAt Hw) rv'' R'' → rv''.length ≤ F'.length → Srch bs ps F' R'' →
        ∃ m', m' < (U - F.length) + (R' ++ [p]).length ∧ ∃ (F R : List Pr) (rv : List V) (y4' y5' : Option V), m' = (U - F.length) + R.length ∧ [some (V.ref a), some (V.ref d), some (V.ref Fd), some (V.ref Rn), y4, y5] = [some (.ref a), some (.ref d), some (.ref Fd), some (.ref Rn), y4', y5'] ∧ Same H Hw ∧ Hw Fd = some (.dT (fT F)) ∧ Hw Rn = some (.lst rv) ∧ Paired (PrAt Hw) rv R ∧ rv.length ≤ F.length ∧ Srch bs ps F R := by
      intro F' R'' rv'' y4 Hw e sw hF' hR' pw lw sr'
      refine ⟨_, ?_, F', R'', rv'', y4, y5, rfl, rfl, sw, hF', hR', pw, lw, sr'⟩
      rw [e, List.length_append, List.length_singleton]
      omega
    have rvl' : rv'.length ≤ F.length := by
      rw [List.length_append, List.length_singleton] at rvl
      omega
    rcases hways p with ⟨la, ov, ev, hla, hov⟩ | ⟨ev, hs⟩
    · rw [ev]
      refine ⟨la, rfl, .inl ⟨ov, .inl (.inl (sz _ _ hla)), ?_⟩⟩
      refine for_it (walk_list (xs := ov)) (fun j σ Hw => ∃ (F' R'' : List Pr) (rv'' : List V) (y4 : Option V), σ = [some (.ref a), some (.ref d), some (.ref Fd), some (.ref Rn), y4, y5] ∧ (U - F'.length) + R''.length = (U - F.length) + R'.length ∧ Same H Hw ∧ Hw Fd = some (.dT (fT F')) ∧ Hw Rn = some (.lst rv'') ∧ Paired (PrAt Hw) rv'' R'' ∧ rv''.length ≤ F'.length ∧ SrchAt bs ps p ((succs ps p).take j) F' R'')
        ⟨F, R', rv', y4, rfl, rfl, sz, hFz, hRz, prz, rvl', sr.pop⟩ (fun _ _ _ _ ⟨_, _, _, _, _, _, sw, _⟩ => .inl (.inl (sw _ _ hla))) ?_ ?_
      · rintro j v σ Hw Hw' hj ⟨F', R'', rv'', y4, rfl, em, sw, hFw, hRw, pw, lw, sa⟩ ⟨rfl, hv⟩
        obtain ⟨q', e2, b', rfl, hb'⟩ := paired_get hov hv
        have hqm : (p, q') ∈ ps := mem_succs.mp (List.mem_of_getElem? e2)
        have et : (succs ps p).take (j + 1) = (succs ps p).take j ++ [q'] := by
          rw [List.take_succ, e2]
          rfl
        refine ⟨_, rfl, _, rfl, Fd, _, rfl, DGet.t (k := kP q') hFw (sw _ _ hb'), _, rfl, ?_⟩
        rw [fT_isSome]
        by_cases hin : q' ∈ F'
        · rw [decide_eq_true hin]
          refine iteF ⟨F', R'', rv'', _, rfl, em, sw, hFw, hRw, pw, lw, ?_⟩
          rw [et]
          exact sa.skip hin
        · rw [decide_eq_false hin]
          have sa' := sa.add hin hqm
          have l1 := Flen _ sa'.nd sa'.re
          rw [List.length_append, List.length_singleton] at l1
          refine iteT ⟨_, rfl, _, rfl, Fd, _, rfl, DPut.t (k := kP q') hFw (sw _ _ hb') (by rw [fT_len]; omega), ?_⟩
          rw [fT_put hin]
          have t1 : TupS Hw' (upd Hw' Fd (.dT (fT (F' ++ [q'])))) := TupS.upd hFw fun xs z => by cases z
          have hR2 : upd Hw' Fd (.dT (fT (F' ++ [q']))) Rn = some (.lst rv'') := by rw [upd_ne nFR.symm]; exact hRw
          have t2 : TupS (upd Hw' Fd (.dT (fT (F' ++ [q'])))) (upd (upd Hw' Fd (.dT (fT (F' ++ [q'])))) Rn (.lst (rv'' ++ [.ref b']))) := TupS.upd hR2 fun xs z => by cases z
          have t12 := t1.trans t2
          refine ⟨_, rfl, .inl ⟨rfl, _, .inl (.inl hR2)⟩, _, rfl, Rn, _, _, rfl, rfl, hR2, by omega, ?_⟩
          refine ⟨F' ++ [q'], R'' ++ [q'], rv'' ++ [.ref b'], _, rfl, ?_, same_new (same_new sw hFd) HRn, by rw [upd_ne nFR, upd_same], upd_same, paired_snoc (paired_mono pw fun _ _ r => r.mono t12) ⟨b', rfl, t12 _ _ (sw _ _ hb')⟩, ?_, ?_⟩
          · simp only [List.length_append, List.length_singleton]
            omega
          · simp only [List.length_append, List.length_singleton]
            omega
          · rw [et]
            exact sa'
      · rintro σ Hw ⟨F', R'', rv'', y4, rfl, em, sw, hFw, hRw, pw, lw, sa⟩
        rw [Paired.length hov, List.take_length] at sa
        exact fin F' R'' rv'' y4 Hw em sw hFw hRw pw lw (sa.next fun z hz => mem_succs.mpr hz)
    · rw [ev]
      refine ⟨t0, rfl, .inr ⟨[], .inl (.inl ht0z), ?_⟩⟩
      refine for_it (walk_tup (xs := [])) (fun j σ Hw => σ = [some (.ref a), some (.ref d), some (.ref Fd), some (.ref Rn), y4, y5] ∧ Hw = Hz) ⟨rfl, rfl⟩ (fun _ _ _ _ ⟨_, e⟩ => by rw [e]; exact .inl (.inl ht0z)) (fun j v σ Hw Hw' hj => absurd hj (Nat.not_lt_zero _)) ?_
      rintro σ Hw ⟨rfl, rfl⟩
      exact fin F R' rv' y4 Hw rfl sz hFz hRz prz rvl' (sr.pop.next fun z hz => by
        have := mem_succs.mpr hz
        rw [hs] at this
        cases this)
end
end KM
/-! text KR3 -/
set_option Elab.async false
set_option linter.all false
set_option maxRecDepth 100000
set_option maxHeartbeats 4000000
namespace KM
open PySem PySem.Spec PyProof.Rows L2
theorem stpLt_total {a b : Stp} (h : (a.1, a.2.2) ≠ (b.1, b.2.2)) (n : ¬ stpLt b a) : stpLt a b := by
  obtain ⟨p, l, q⟩ := a
  obtain ⟨p', l', q'⟩ := b
  unfold stpLt at n ⊢
  simp only at n ⊢
  have h : ¬ (p = p' ∧ q = q') := fun e => h (by rw [e.1, e.2])
  by_cases h1 : p < p'
  · exact .inl h1
  · by_cases h2 : p' < p
    · exact absurd (.inl h2) n
    · have e : p = p' := by omega
      subst e
      refine .inr ⟨rfl, ?_⟩
      by_cases h3 : l < l'
      · exact .inl h3
      · by_cases h4 : l' < l
        · exact absurd (.inr ⟨rfl, .inl h4⟩) n
        · have e : l = l' := by
            have a1 : l ≤ l' := List.not_lt.mp h4
            have a2 : l' ≤ l := List.not_lt.mp h3
            exact List.le_antisymm a1 a2
          subst e
          refine .inr ⟨rfl, ?_⟩
          by_cases h5 : q < q'
          · exact h5
          · by_cases h6 : q' < q
            · exact absurd (.inr ⟨rfl, .inr ⟨rfl, h6⟩⟩) n
            · exact absurd (show (p, q) = (p, q') by rw [show q = q' by omega]) h
theorem paired_zip {α β : Type} {F : α → β → Prop} : ∀ {l : List α} {m : List β}, Paired F l m → (l.zip m).map (·.1) = l ∧ (l.zip m).map (·.2) = m ∧ ∀ x ∈ l.zip m, F x.1 x.2
  | _, _, .nil => ⟨rfl, rfl, fun _ h => by cases h⟩
  | _, _, .cons h t => by
    obtain ⟨a, b, c⟩ := paired_zip t
    refine ⟨by rw [List.zip_cons_cons, List.map_cons, a], by rw [List.zip_cons_cons, List.map_cons, b], fun x hx => ?_⟩
    rw [List.zip_cons_cons] at hx
    rcases List.mem_cons.mp hx with rfl | hx
    · exact h
    · exact c x hx
theorem paired_of {α β γ : Type} {F : α → β → Prop} {f : γ → α} {g : γ → β} : ∀ {l : List γ}, (∀ x ∈ l, F (f x) (g x)) → Paired F (l.map f) (l.map g)
  | [], _ => .nil
  | x :: l, h => .cons (h x List.mem_cons_self) (paired_of fun y hy => h y (List.mem_cons_of_mem _ hy))
/-- sorted(xs) of steps, told of their data -/
theorem sort_stps {K : PySem.W.Frag} {H : Hp} {kv : List V} {ks : List Stp} (hp : Paired (StpAt H) kv ks) (uq : (ks.map fun s => (s.1, s.2.2)).Nodup) (hl : ks.length ≤ 1000) :
    ∃ bs : List (V × PyData), bs.map (·.1) = kv ∧ (∀ b ∈ bs, Dp K H b.1 b.2) ∧ PySem.W.AllAlike (bs.map (·.2)) ∧ PySem.W.Sortable (bs.map (·.2)) ∧ bs.length ≤ sizeLine ∧ (∀ b ∈ bs, b.2.depth ≤ 8) ∧
      ∃ (kv' : List V) (ks' : List Stp), (bs.mergeSort (PySem.W.dataLe false (·.2))).map (·.1) = kv' ∧ ks'.Perm ks ∧ ks'.Pairwise stpLt ∧ Paired (StpAt H) kv' ks' := by
  obtain ⟨z1, z2, z3⟩ := paired_zip hp
  have zl : (kv.zip ks).length = ks.length := by
    have := congrArg List.length z2
    rwa [List.length_map] at this
  let enc : V × Stp → V × PyData := fun x => (x.1, stpD x.2)
  have e1 : ((kv.zip ks).map enc).map (·.1) = kv := by
    rw [List.map_map]
    exact z1
  have e2 : ((kv.zip ks).map enc).map (·.2) = ks.map stpD := by
    rw [List.map_map]
    show (kv.zip ks).map (fun x => stpD x.2) = _
    rw [← z2, List.map_map]
    rw [z2]
    rfl
  refine ⟨(kv.zip ks).map enc, e1, fun b hb => ?_, ?_, ?_, ?_, fun b hb => ?_, ?_⟩
  · obtain ⟨x, hx, rfl⟩ := List.mem_map.mp hb
    exact dp_stp (z3 x hx)
  · rw [e2]
    intro d hd d' hd'
    obtain ⟨s, _, rfl⟩ := List.mem_map.mp hd
    obtain ⟨s', _, rfl⟩ := List.mem_map.mp hd'
    simp [stpD, PySem.W.alike, PySem.W.alikeAll]
  · rw [e2]
    refine .inl fun d hd => ?_
    obtain ⟨s, _, rfl⟩ := List.mem_map.mp hd
    exact ⟨_, _, rfl⟩
  · rw [List.length_map, zl]
    exact Nat.le_trans hl (by decide)
  · obtain ⟨x, hx, rfl⟩ := List.mem_map.mp hb
    simp [enc, stpD, PyData.depth, PyData.depthAll]
  · let r : V × Stp → V × Stp → Bool := fun x y => PySem.W.dataLe false (fun s : V × PyData => s.2) (enc x) (enc y)
    have em : ((kv.zip ks).map enc).mergeSort (PySem.W.dataLe false (·.2)) = ((kv.zip ks).mergeSort r).map enc := (List.map_mergeSort (r := r) (s := PySem.W.dataLe false (·.2)) (f := enc) (l := kv.zip ks) fun _ _ _ _ => rfl).symm
    rw [em, List.map_map]
    have pm : ((kv.zip ks).mergeSort r).Perm (kv.zip ks) := List.mergeSort_perm _ _
    refine ⟨((kv.zip ks).mergeSort r).map (·.1), ((kv.zip ks).mergeSort r).map (·.2), rfl, ?_, ?_, paired_of fun x hx => z3 x (pm.mem_iff.mp hx)⟩
    · have := pm.map (·.2)
      rwa [z2] at this
    · have tot := PySem.W.sortLe_total (PyProof.Rows.listOrd itemOrd) false (fun x : V × Stp => PySem.W.keyToks (stpD x.2))
      have srt : ((kv.zip ks).mergeSort r).Pairwise fun x y => r x y = true := PySem.W.sort_pairwise tot _
      have nd : (((kv.zip ks).mergeSort r).map fun x => (x.2.1, x.2.2.2)).Nodup := by
        have p1 := pm.map fun x => (x.2.1, x.2.2.2)
        refine p1.nodup_iff.mpr ?_
        have : (kv.zip ks).map (fun x => (x.2.1, x.2.2.2)) = ks.map fun s => (s.1, s.2.2) := by
          conv => rhs; rw [← z2]
          rw [List.map_map]
          rfl
        rw [this]
        exact uq
      rw [List.pairwise_map]
      have nd2 := List.pairwise_map.mp nd
      refine (srt.and nd2).imp fun {x y} h => ?_
      obtain ⟨h1, h2⟩ := h
      refine stpLt_total h2 fun lt => ?_
      have h1 : (!PySem.W.dataLt (stpD y.2) (stpD x.2)) = true := h1
      rw [(dataLt_stp _ _).mpr lt] at h1
      cases h1
end KM
/-! text KP3 -/
set_option Elab.async false
set_option linter.all false
set_option maxRecDepth 100000
set_option maxHeartbeats 4000000
/-! The assembled machine is a machine. -/
namespace KM
/-- a place's number -/
def num : List Pr → Pr → Nat
  | [], _ => 0
  | a :: r, p => if a = p then 0 else num r p + 1
theorem num_at : ∀ {P : List Pr} {p : Pr}, p ∈ P → P[num P p]? = some p
  | a :: r, p, h => by
    unfold num
    by_cases e : a = p
    · rw [if_pos e, e]
      rfl
    · rw [if_neg e]
      rcases List.mem_cons.mp h with h | h
      · exact absurd h.symm e
      · exact num_at h
theorem num_lt {P : List Pr} {p : Pr} (h : p ∈ P) : num P p < P.length := (List.getElem?_eq_some_iff.mp (num_at h)).1
theorem num_eq {P : List Pr} (nd : P.Nodup) {p : Pr} {i : Nat} (h : P[i]? = some p) : num P p = i := at_inj nd (num_at (List.mem_of_getElem? h)) h
theorem num_inj {P : List Pr} {p q : Pr} (hp : p ∈ P) (hq : q ∈ P) (e : num P p = num P q) : p = q := by
  have a := num_at hp
  rw [e, num_at hq] at a
  exact (Option.some.inj a).symm
/-- the kept steps -/
def keptOf (P : List Pr) (ss : List TStp) : List Stp := (ss.filter fun s => decide (s.1 ∈ P) && decide (s.2.2 ∈ P)).map fun s => (num P s.1, s.2.1, num P s.2.2)
def firstOf (P bs : List Pr) : List Nat := (bs.filter fun p => decide (p ∈ P)).map (num P)
theorem nodup_map_on {α β : Type} {f : α → β} : ∀ {l : List α}, (∀ a ∈ l, ∀ b ∈ l, f a = f b → a = b) → l.Nodup → (l.map f).Nodup
  | [], _, _ => .nil
  | a :: l, hf, h => by
    rw [List.nodup_cons] at h
    rw [List.map_cons, List.nodup_cons]
    refine ⟨fun hm => ?_, nodup_map_on (fun x hx y hy => hf x (List.mem_cons_of_mem _ hx) y (List.mem_cons_of_mem _ hy)) h.2⟩
    obtain ⟨b, hb, e⟩ := List.mem_map.mp hm
    exact h.1 (by rw [← hf b (List.mem_cons_of_mem _ hb) a List.mem_cons_self e]; exact hb)
theorem first_mem {P bs : List Pr} (nd : P.Nodup) {i : Nat} : i ∈ firstOf P bs ↔ ∃ p ∈ bs, P[i]? = some p := by
  unfold firstOf
  rw [List.mem_map]
  constructor
  · rintro ⟨p, hp, rfl⟩
    obtain ⟨a, b⟩ := List.mem_filter.mp hp
    exact ⟨p, a, num_at (of_decide_eq_true b)⟩
  · rintro ⟨p, hp, e⟩
    exact ⟨p, List.mem_filter.mpr ⟨hp, decide_eq_true (List.mem_of_getElem? e)⟩, num_eq nd e⟩
theorem first_nd {P bs : List Pr} (nb : bs.Nodup) : (firstOf P bs).Nodup :=
  nodup_map_on (fun a ha b hb e => num_inj (of_decide_eq_true (List.mem_filter.mp ha).2) (of_decide_eq_true (List.mem_filter.mp hb).2) e) (nb.sublist List.filter_sublist)
theorem kept_mem {P : List Pr} {ss : List TStp} (nd : P.Nodup) {i j : Nat} {sg : List Nat} : (i, sg, j) ∈ keptOf P ss ↔ ∃ p q, P[i]? = some p ∧ P[j]? = some q ∧ (p, sg, q) ∈ ss := by
  unfold keptOf
  rw [List.mem_map]
  constructor
  · rintro ⟨⟨p, sg', q⟩, hs, e⟩
    obtain ⟨a, b⟩ := List.mem_filter.mp hs
    rw [Bool.and_eq_true, decide_eq_true_iff, decide_eq_true_iff] at b
    cases e
    exact ⟨p, q, num_at b.1, num_at b.2, a⟩
  · rintro ⟨p, q, e1, e2, hs⟩
    refine ⟨(p, sg, q), List.mem_filter.mpr ⟨hs, ?_⟩, ?_⟩
    · rw [Bool.and_eq_true, decide_eq_true_iff, decide_eq_true_iff]
      exact ⟨List.mem_of_getElem? e1, List.mem_of_getElem? e2⟩
    · show (num P p, sg, num P q) = _
      rw [num_eq nd e1, num_eq nd e2]
theorem kept_uniq {P : List Pr} {ss : List TStp} (ok : TStpsOk ss) : ((keptOf P ss).map fun s => (s.1, s.2.2)).Nodup := by
  unfold keptOf
  rw [List.map_map]
  refine nodup_map_on (fun a ha b hb e => ?_) ?_
  · obtain ⟨a1, a2⟩ := List.mem_filter.mp ha
    obtain ⟨b1, b2⟩ := List.mem_filter.mp hb
    rw [Bool.and_eq_true, decide_eq_true_iff, decide_eq_true_iff] at a2 b2
    have e1 := (Prod.mk.inj e).1
    have e2 := (Prod.mk.inj e).2
    have k : tkey a = tkey b := Prod.ext (num_inj a2.1 b2.1 e1) (num_inj a2.2 b2.2 e2)
    have key : ∀ l : List TStp, (l.map tkey).Nodup → a ∈ l → b ∈ l → a = b := by
      intro l
      induction l with
      | nil => intro _ h; cases h
      | cons x l ih =>
        intro nd h1 h2
        rw [List.map_cons, List.nodup_cons] at nd
        rcases List.mem_cons.mp h1 with e1 | h1
        · rcases List.mem_cons.mp h2 with e2 | h2
          · rw [e1, e2]
          · exact absurd (List.mem_map.mpr ⟨_, h2, by rw [← k, e1]⟩) nd.1
        · rcases List.mem_cons.mp h2 with e2 | h2
          · exact absurd (List.mem_map.mpr ⟨_, h1, by rw [k, e2]⟩) nd.1
          · exact ih nd.2 h1 h2
    exact key ss ok.uniq a1 b1
  · have : ss.Nodup := by
      have u := ok.uniq
      rw [List.Nodup, List.pairwise_map] at u
      exact u.imp fun h e => h (by rw [e])
    exact this.sublist List.filter_sublist
/-- what is told of an assembled machine -/
structure Asm (bs : List Pr) (ss : List TStp) (es : List Pr) (M : Mch) : Prop where
  wf : M.WF
  acc : ∀ w, M.Acc w ↔ Acc bs ss es w
  sl : M.steps.length ≤ ss.length
  bl : M.begins.length ≤ bs.length
  el : M.ends.length ≤ es.length
  sg : ∀ s ∈ M.steps, ∃ s' ∈ ss, s'.2.1 = s.2.1
  ml : ∀ U : List Pr, (∀ p ∈ bs, p ∈ U) → (∀ s ∈ ss, s.2.2 ∈ U) → M.many ≤ U.length
theorem asm_ok {bs : List Pr} {ss : List TStp} {es P : List Pr} {fs ls : List Nat} {ks : List Stp} (nd : P.Nodup) (mem : ∀ p, p ∈ P ↔ Reach bs (fwd ss) p ∧ Reach es (bwd ss) p) (hl : P.length ≤ 1000) (ok : TStpsOk ss)
    (pf : fs.Perm (firstOf P bs)) (rf : fs.Pairwise (· < ·)) (pl : ls.Perm (firstOf P es)) (rl : ls.Pairwise (· < ·)) (pk : ks.Perm (keptOf P ss)) (rk : ks.Pairwise stpLt) : Asm bs ss es ⟨P.length, fs, ks, ls⟩ := by
  have kl : (keptOf P ss).length ≤ ss.length := by
    unfold keptOf
    rw [List.length_map]
    exact List.length_filter_le _ _
  have n : Numbered bs ss es P ⟨P.length, fs, ks, ls⟩ := ⟨nd, mem, rfl, fun i => by rw [pf.mem_iff, first_mem nd], fun i => by rw [pl.mem_iff, first_mem nd], fun i sg j => by rw [pk.mem_iff, kept_mem nd]⟩
  have km : ∀ s ∈ ks, ∃ p q, P[s.1]? = some p ∧ P[s.2.2]? = some q ∧ (p, s.2.1, q) ∈ ss := fun s hs => (kept_mem nd).mp (pk.mem_iff.mp hs)
  refine ⟨⟨rf, fun p hp => ?_, rl, fun p hp => ?_, ⟨fun s hs => ?_, rk, ?_, ?_⟩, hl⟩, n.acc, ?_, ?_, ?_, fun s hs => ?_, fun U h1 h2 => nodup_sub nd fun p hp => ?_⟩
  · obtain ⟨q, _, e⟩ := (first_mem nd).mp (pf.mem_iff.mp hp)
    exact (List.getElem?_eq_some_iff.mp e).1
  · obtain ⟨q, _, e⟩ := (first_mem nd).mp (pl.mem_iff.mp hp)
    exact (List.getElem?_eq_some_iff.mp e).1
  · obtain ⟨p, q, e1, e2, hm⟩ := km s hs
    exact ⟨(List.getElem?_eq_some_iff.mp e1).1, (List.getElem?_eq_some_iff.mp e2).1, ok.sg _ hm⟩
  · exact (pk.map _).nodup_iff.mpr (kept_uniq ok)
  · show ks.length ≤ 1000
    rw [pk.length_eq]
    exact Nat.le_trans kl ok.len
  · show ks.length ≤ _
    rw [pk.length_eq]
    exact kl
  · show fs.length ≤ _
    rw [pf.length_eq]
    unfold firstOf
    rw [List.length_map]
    exact List.length_filter_le _ _
  · show ls.length ≤ _
    rw [pl.length_eq]
    unfold firstOf
    rw [List.length_map]
    exact List.length_filter_le _ _
  · obtain ⟨p, q, _, _, hm⟩ := km s hs
    exact ⟨_, hm, rfl⟩
  · cases ((mem p).mp hp).1 with
    | base h => exact h1 p h
    | step _ h =>
      obtain ⟨sg, hs⟩ := mem_fwd.mp h
      exact h2 _ hs
end KM
/-! text KW16 -/
set_option Elab.async false
set_option linter.all false
set_option maxRecDepth 100000
set_option maxHeartbeats 4000000
namespace KM
open PySem PySem.Spec PyProof.Rows L2
/-- the numbers as the dict holds them -/
def numT (P Q : List Pr) : List (List L2.Key × V) := Q.map fun p => (kP p, nV (num P p))
theorem numT_keys {P Q : List Pr} {p : Pr} : kP p ∈ (numT P Q).map (·.1) ↔ p ∈ Q := by
  unfold numT
  rw [List.map_map]
  constructor
  · intro h
    obtain ⟨q, hq, e⟩ := List.mem_map.mp h
    rw [← kP_inj e]
    exact hq
  · exact fun h => List.mem_map.mpr ⟨p, h, rfl⟩
theorem numT_no {P Q : List Pr} {p : Pr} (h : p ∉ Q) : valV (numT P Q) (kP p) = none := valV_none fun q => h (numT_keys.mp q)
theorem numT_at {P Q : List Pr} (nd : Q.Nodup) {p : Pr} (h : p ∈ Q) : valV (numT P Q) (kP p) = some (nV (num P p)) := by
  refine mem_valV ?_ (List.mem_map.mpr ⟨p, h, rfl⟩)
  unfold numT
  rw [List.map_map]
  exact nodup_map (f := fun p => kP p) (fun a b e => kP_inj e) nd
theorem numT_isSome {P Q : List Pr} (p : Pr) : (valV (numT P Q) (kP p)).isSome = decide (p ∈ Q) := by
  by_cases h : p ∈ Q
  · rw [decide_eq_true h]
    exact (valV_keys _ _).mpr (numT_keys.mpr h)
  · rw [numT_no h, decide_eq_false h]
    rfl
/-- sorted(..) of numbers without doubles -/
theorem nat_sorted {ns : List Nat} {ms : List Int} (nd : ns.Nodup) (pm : ms.Perm (ns.map fun n : Nat => (n : Int))) (rise : ms.Pairwise (· ≤ ·)) : ∃ ns' : List Nat, ms.map V.int = ns'.map nV ∧ ns'.Perm ns ∧ ns'.Pairwise (· < ·) := by
  have pm2 : (ms.map Int.toNat).Perm ns := by
    have := pm.map Int.toNat
    rw [List.map_map] at this
    have e2 : ns.map (Int.toNat ∘ fun n : Nat => (n : Int)) = ns := (List.map_congr_left fun k _ => rfl).trans (List.map_id ns)
    rwa [e2] at this
  refine ⟨ms.map Int.toNat, ?_, pm2, ?_⟩
  · rw [List.map_map]
    exact List.map_congr_left fun k hk => by
      obtain ⟨n, _, rfl⟩ := List.mem_map.mp (pm.mem_iff.mp hk)
      rfl
  · have nd2 : (ms.map Int.toNat).Nodup := pm2.nodup_iff.mpr nd
    rw [List.Nodup, List.pairwise_map] at nd2
    rw [List.pairwise_map]
    refine (rise.and nd2).imp_of_mem fun {x y} hx hy h => ?_
    obtain ⟨n, _, rfl⟩ := List.mem_map.mp (pm.mem_iff.mp hx)
    obtain ⟨m, _, rfl⟩ := List.mem_map.mp (pm.mem_iff.mp hy)
    obtain ⟨h1, h2⟩ := h
    simp only [Int.toNat_natCast] at h2 ⊢
    omega
theorem bwd_len (ss : List TStp) : (bwd ss).length = ss.length := List.length_map _
theorem fwd_len (ss : List TStp) : (fwd ss).length = ss.length := List.length_map _
section
variable {P : Program} {w : World} {K : PySem.W.Frag} {mg : Str → Option Value} {base : Heap}
def spAssembled (C : Addr) : Sp := fun vs H Q _ => ∃ (a b c : Addr) (bv sv ev : List V) (bs : List Pr) (ss : List TStp) (es : List Pr), vs = [.ref a, .ref b, .ref c] ∧ H a = some (.lst bv) ∧ Paired (PrAt H) bv bs ∧ bs.Nodup ∧ H b = some (.lst sv) ∧ Paired (TStpAt H) sv ss ∧ TStpsOk ss ∧
  H c = some (.lst ev) ∧ Paired (PrAt H) ev es ∧ es.Nodup ∧ bs.length + ss.length ≤ 1000 ∧ es.length + ss.length ≤ 1000 ∧ ∀ (x : Addr) (M : Mch) H', Same H H' → MachAt C H' x M → Asm bs ss es M → Q (.ref x) H'
abbrev nmAsm : List Str := ["begins", "steps", "ends", "ahead", "behind", "places", "number", "kept", "first", "last", "place", "signs", "other", "at"]
theorem scAsm : FnScope nmAsm ["begins", "steps", "ends"] (defScope sAssembled) := ⟨rfl, rfl, rfl, by decide +kernel, rfl, by decide +kernel, by decide +kernel⟩
theorem ok_assembled {C f fi f1 f2 f3 : Addr} {fd fd1 fd2 fd3 fdi : FuncData} (F : FnP K "assembled" "assembled" sAssembled f fd) (B : Bi mg) (T : MC K mg C fi) (Fi : FnP K "__init__" "Machine.__init__" sInit fi fdi)
    (Oi : FnOk P w K mg base CX0 5 fi fdi ["self", "many", "begins", "steps", "ends"] (spInit C))
    (F1 : FnP K "come_to" "come_to" sComeTo f1 fd1) (g1 : mg "come_to" = some (.ref f1)) (F2 : FnP K "ways_of" "ways_of" sWaysOf f2 fd2) (g2 : mg "ways_of" = some (.ref f2)) (F3 : FnP K "merged" "merged" sMerged f3 fd3) (g3 : mg "merged" = some (.ref f3)) :
    FnOk P w K mg base CX0 7 f fd ["begins", "steps", "ends"] (spAssembled C) := by
  have O1 : FnOk P w K mg base CX0 1 f1 fd1 ["begins", "ways"] spComeTo := ok_come_to F1 B
  have O2 : FnOk P w K mg base CX0 1 f2 fd2 ["pairs"] spWaysOf := ok_ways_of F2 B
  have O3 : FnOk P w K mg base CX0 1 f3 fd3 ["steps"] spMerged := ok_merged F3 B
  have b1 : Binds K fd1 ["begins", "ways"] [] := F1.bindsN fun _ _ _ _ _ _ us hl => match us, hl with | [_, _], _ => rfl
  have b2 : Binds K fd2 ["pairs"] [] := F2.bindsN fun _ _ _ _ _ _ us hl => match us, hl with | [_], _ => rfl
  have b3 : Binds K fd3 ["steps"] [] := F3.bindsN fun _ _ _ _ _ _ us hl => match us, hl with | [_], _ => rfl
  have bi : Binds K fdi ["self", "many", "begins", "steps", "ends"] [] := Fi.bindsN fun _ _ _ _ _ _ us hl => match us, hl with | [_, _, _, _, _], _ => rfl
  refine F.okP scAsm (fun vs H Q E h => ?_) (fun cdv A outer s H vs Q E hr h => ?_)
  · obtain ⟨a, b, c, bv, sv, ev, bs, ss, es, rfl, _⟩ := h
    rfl
  · obtain ⟨a, b, c, bv, sv, ev, bs, ss, es, rfl, ha, pa, nb, hb, pb, ok, hc, pc, ne, l1, l2, q⟩ := h
    have hr1 : Room 1 _ := hr.mono (by decide)
    refine ⟨_, pss_cons (ps_set (i := 3) scAsm.nd rfl (.inl rfl) (pe_call O1 hr1 (by rfl) g1 F1.kp b1 .nil pass0 (pa_cons (pv 0) (pa_cons (pe_call O2 hr1 (by rfl) g2 F2.kp b2 .nil pass0 (pa_cons (pe_lc (own := [("place", 10), ("signs", 11), ("other", 12)]) (g := gTup K 3 (gCons (gName 10) (gCons (gName 11) (gCons (gName 12) gNil)))) (tt := tYes) rfl scAsm.nd (pi_list (pv 1))
        (blkOk_by (N := nmAsm) (sc := defScope sAssembled) (by decide +kernel)) (fun _ _ _ _ _ => pg_tup rfl (pgs_cons (pg_name (i := 10) scAsm.nd rfl (.inl rfl)) (pgs_cons (pg_name (i := 11) scAsm.nd rfl (.inl rfl)) (pgs_cons (pg_name (i := 12) scAsm.nd rfl (.inl rfl)) pgs_nil)))) (fun _ _ _ _ _ => pts_nil)
        (fun _ _ _ _ _ => pe_tup (pa_cons (pv 10) (pa_cons (pv 12) pa_nil)))) pa_nil)) pa_nil))))
      (pss_cons (ps_set (i := 4) scAsm.nd rfl (.inr rfl) (pe_call O1 hr1 (by rfl) g1 F1.kp b1 .nil pass0 (pa_cons (pv 2) (pa_cons (pe_call O2 hr1 (by rfl) g2 F2.kp b2 .nil pass0 (pa_cons (pe_lc (own := [("place", 10), ("signs", 11), ("other", 12)]) (g := gTup K 3 (gCons (gName 10) (gCons (gName 11) (gCons (gName 12) gNil)))) (tt := tYes) rfl scAsm.nd (pi_list (pv 1))
        (blkOk_by (N := nmAsm) (sc := defScope sAssembled) (by decide +kernel)) (fun _ _ _ _ _ => pg_tup rfl (pgs_cons (pg_name (i := 10) scAsm.nd rfl (.inl rfl)) (pgs_cons (pg_name (i := 11) scAsm.nd rfl (.inl rfl)) (pgs_cons (pg_name (i := 12) scAsm.nd rfl (.inl rfl)) pgs_nil)))) (fun _ _ _ _ _ => pts_nil)
        (fun _ _ _ _ _ => pe_tup (pa_cons (pv 12) (pa_cons (pv 10) pa_nil)))) pa_nil)) pa_nil))))
      (pss_cons (ps_lock (ps_setLc (i := 5) (own := [("place", 10)]) (g := gName 10) rfl scAsm.nd rfl rfl (sw_true rfl rfl rfl (by decide +kernel)) (pi_keys (pv 3))
        (blkOk_by (N := nmAsm) (sc := defScope sAssembled) (by decide +kernel)) (fun _ _ _ _ _ => pg_name (i := 10) scAsm.nd rfl (.inl rfl))
        (fun _ _ _ _ _ => pts_one (pt_cmp (pc_din (by exact Nat.lt_of_le_of_lt (Nat.add_le_add_left (by decide) _) (hu64 hr)) (pv 10) (pv 4)))) (fun _ _ _ _ _ => pv 10)))
      (pss_cons (ps_set (i := 6) scAsm.nd rfl (.inr rfl) (pe_dcT (own := [("at", 13), ("place", 10)]) (g := gTup K 2 (gCons (gName 13) (gCons (gName 10) gNil))) (tt := tYes) (by exact Nat.lt_of_le_of_lt (Nat.le_add_right _ _) (hu64 hr)) rfl scAsm.nd (pi_enum (by rfl) B.enumerate (pa_cons (pv 5) pa_nil))
        (blkOk_by (N := nmAsm) (sc := defScope sAssembled) (by decide +kernel)) (fun _ _ _ _ _ => pg_tup rfl (pgs_cons (pg_name (i := 13) scAsm.nd rfl (.inl rfl)) (pgs_cons (pg_name (i := 10) scAsm.nd rfl (.inl rfl)) pgs_nil))) (fun _ _ _ _ _ => pts_nil) (fun _ _ _ _ _ => pv 10) (fun _ _ _ _ _ => pv 13)))
      (pss_cons (ps_setLc (i := 7) (own := [("place", 10), ("signs", 11), ("other", 12)]) (g := gTup K 3 (gCons (gName 10) (gCons (gName 11) (gCons (gName 12) gNil)))) rfl scAsm.nd rfl rfl (sw_true rfl rfl rfl (by decide +kernel)) (pi_list (pe_call O3 hr1 (by rfl) g3 F3.kp b3 .nil pass0 (pa_cons (pv 1) pa_nil)))
        (blkOk_by (N := nmAsm) (sc := defScope sAssembled) (by decide +kernel)) (fun _ _ _ _ _ => pg_tup rfl (pgs_cons (pg_name (i := 10) scAsm.nd rfl (.inl rfl)) (pgs_cons (pg_name (i := 11) scAsm.nd rfl (.inl rfl)) (pgs_cons (pg_name (i := 12) scAsm.nd rfl (.inl rfl)) pgs_nil))))
        (fun _ _ _ _ _ => pts_one (PW.pt (pw_and (pt_cmp (pc_din (by exact Nat.lt_of_le_of_lt (Nat.add_le_add_left (by decide) _) (hu64 hr)) (pv 10) (pv 6))) (pw_and1 (pt_cmp (pc_din (by exact Nat.lt_of_le_of_lt (Nat.add_le_add_left (by decide) _) (hu64 hr)) (pv 12) (pv 6)))))))
        (fun _ _ _ _ _ => pe_tup (pa_cons (pe_dget (by exact Nat.lt_of_le_of_lt (Nat.add_le_add_left (by decide) _) (hu64 hr)) (pv 6) (pv 10) (fun _ _ => rfl)) (pa_cons (pv 11) (pa_cons (pe_dget (by exact Nat.lt_of_le_of_lt (Nat.add_le_add_left (by decide) _) (hu64 hr)) (pv 6) (pv 12) (fun _ _ => rfl)) pa_nil)))))
      (pss_cons (ps_set (i := 8) scAsm.nd rfl (.inl rfl) (pe_callTy call_tuple_of (by rfl) B.tuple (by decide +kernel) (pa_cons (pe_callB cr_sortedI (by rfl) B.sorted (by decide +kernel) (pa_cons (pe_lc (own := [("place", 10)]) (g := gName 10) rfl scAsm.nd (pi_list (pv 0))
        (blkOk_by (N := nmAsm) (sc := defScope sAssembled) (by decide +kernel)) (fun _ _ _ _ _ => pg_name (i := 10) scAsm.nd rfl (.inl rfl))
        (fun _ _ _ _ _ => pts_one (pt_cmp (pc_din (by exact Nat.lt_of_le_of_lt (Nat.add_le_add_left (by decide) _) (hu64 hr)) (pv 10) (pv 6))))
        (fun _ _ _ _ _ => pe_dget (by exact Nat.lt_of_le_of_lt (Nat.add_le_add_left (by decide) _) (hu64 hr)) (pv 6) (pv 10) (fun _ _ => rfl))) pa_nil)) pa_nil)))
      (pss_cons (ps_set (i := 9) scAsm.nd rfl (.inl rfl) (pe_callTy call_tuple_of (by rfl) B.tuple (by decide +kernel) (pa_cons (pe_callB cr_sortedI (by rfl) B.sorted (by decide +kernel) (pa_cons (pe_lc (own := [("place", 10)]) (g := gName 10) rfl scAsm.nd (pi_list (pv 2))
        (blkOk_by (N := nmAsm) (sc := defScope sAssembled) (by decide +kernel)) (fun _ _ _ _ _ => pg_name (i := 10) scAsm.nd rfl (.inl rfl))
        (fun _ _ _ _ _ => pts_one (pt_cmp (pc_din (by exact Nat.lt_of_le_of_lt (Nat.add_le_add_left (by decide) _) (hu64 hr)) (pv 10) (pv 6))))
        (fun _ _ _ _ _ => pe_dget (by exact Nat.lt_of_le_of_lt (Nat.add_le_add_left (by decide) _) (hu64 hr)) (pv 6) (pv 10) (fun _ _ => rfl))) pa_nil)) pa_nil)))
      (pss_one (ps_ret (pe_make T.mkr Oi hr (by rfl) T.g bi .nil pass0 (pa_cons (pe_callB call_len_seq (by rfl) B.len PySem.boot_len (pa_cons (pv 5) pa_nil)) (pa_cons (pv 8) (pa_cons (pe_callTy call_tuple_of (by rfl) B.tuple (by decide +kernel) (pa_cons (pe_callB (cr_sortedD (by exact hu64 hr)) (by rfl) B.sorted (by decide +kernel) (pa_cons (pv 7) pa_nil)) pa_nil)) (pa_cons (pv 9) pa_nil))))))))))))), ?_⟩
    have line : (1001 : Nat) < sizeLine := by decide
    have slen := ok.len
    have svl := Paired.length pb
    have bvl := Paired.length pa
    have evl := Paired.length pc
    -- ahead
    refine ⟨_, rfl, _, rfl, b, rfl, ⟨_, .inl (.inl hb)⟩, fun L1 hL1 => ?_⟩
    refine lc_map hL1 PPAt (fun _ _ _ _ e r => r.mono e) (walk_list (xs := sv)) (fun _ s1 => .inl (.inl (s1 _ _ hb))) (fun i => fwd (ss.take i)) rfl (by omega) (fun i y Hc H' Post Skip hi sc hy k1 k2 => ?_) (fun H1 acc1 s1 ha1 hp1 => ?_)
    · obtain ⟨rfl, hy⟩ := hy
      obtain ⟨⟨p, sg, p'⟩, e2, t, x, z, rfl, ht, hx, hz⟩ := paired_get pb hy
      refine ⟨t, _, rfl, .inl (.inl (sc _ _ ht)), rfl, _, _, rfl, _, _, rfl, _, _, rfl, rfl, ?_⟩
      refine ⟨rfl, _, rfl, _, rfl, (by show 2 ≤ sizeLine; decide), fun u hu => k1 _ _ (p, p') (same_upd hu) ⟨u, x, z, rfl, upd_same, ⟨x, rfl, same_upd hu _ _ (sc _ _ hx)⟩, ⟨z, rfl, same_upd hu _ _ (sc _ _ hz)⟩⟩ ?_⟩
      rw [List.take_succ, e2]
      simp [fwd]
    rw [svl, List.take_length] at hp1
    refine ⟨L1, acc1, fwd ss, rfl, ha1, hp1, by rw [fwd_len]; exact slen, fun W1 H2 s2 hW1 => ?_⟩
    have S2 := s1.trans s2
    refine ⟨a, W1, bv, bs, fwd ss, rfl, S2 _ _ ha, paired_mono pa fun _ _ r => r.mono (TupS.same S2), nb, hW1, by rw [fwd_len]; exact l1, fun Ad FA H3 s3 hAn hA ndA memA => ?_⟩
    have S3 := S2.trans s3
    -- behind
    refine ⟨_, rfl, _, rfl, b, rfl, ⟨_, .inl (.inl (S3 _ _ hb))⟩, fun L2 hL2 => ?_⟩
    refine lc_map hL2 PPAt (fun _ _ _ _ e r => r.mono e) (walk_list (xs := sv)) (fun _ s1 => .inl (.inl (s1 _ _ (S3 _ _ hb)))) (fun i => bwd (ss.take i)) rfl (by omega) (fun i y Hc H' Post Skip hi sc hy k1 k2 => ?_) (fun H4 acc2 s4 ha2 hp2 => ?_)
    · obtain ⟨rfl, hy⟩ := hy
      obtain ⟨⟨p, sg, p'⟩, e2, t, x, z, rfl, ht, hx, hz⟩ := paired_get pb hy
      have sc := S3.trans sc
      refine ⟨t, _, rfl, .inl (.inl (sc _ _ ht)), rfl, _, _, rfl, _, _, rfl, _, _, rfl, rfl, ?_⟩
      refine ⟨rfl, _, rfl, _, rfl, (by show 2 ≤ sizeLine; decide), fun u hu => k1 _ _ (p', p) (same_upd hu) ⟨u, z, x, rfl, upd_same, ⟨z, rfl, same_upd hu _ _ (sc _ _ hz)⟩, ⟨x, rfl, same_upd hu _ _ (sc _ _ hx)⟩⟩ ?_⟩
      rw [List.take_succ, e2]
      simp [bwd]
    rw [svl, List.take_length] at hp2
    refine ⟨L2, acc2, bwd ss, rfl, ha2, hp2, by rw [bwd_len]; exact slen, fun W2 H5 s5 hW2 => ?_⟩
    have S5 := (S3.trans s4).trans s5
    have s35 := s4.trans s5
    refine ⟨c, W2, ev, es, bwd ss, rfl, S5 _ _ hc, paired_mono pc fun _ _ r => r.mono (TupS.same S5), ne, hW2, by rw [bwd_len]; exact l2, fun Bd FB H6 s6 hBn hB ndB memB => ?_⟩
    have S6 := S5.trans s6
    have hA6 := s6 _ _ (s35 _ _ hA)
    have nAB : Bd ≠ Ad := fun e => by
      rw [e, s35 _ _ hA] at hBn
      cases hBn
    have hAnH : H Ad = none := none_of S2 hAn
    -- places
    obtain ⟨Pp, hPp⟩ : ∃ Pp, FA.filter (fun p => decide (p ∈ FB)) = Pp := ⟨_, rfl⟩
    have ndP : Pp.Nodup := by rw [← hPp]; exact ndA.sublist List.filter_sublist
    have memP : ∀ p, p ∈ Pp ↔ Reach bs (fwd ss) p ∧ Reach es (bwd ss) p := fun p => by rw [← hPp, List.mem_filter, decide_eq_true_iff, memA, memB]
    have lenA : FA.length ≤ 1000 := by
      have := nodup_sub ndA fun p hp => reach_in ((memA p).mp hp)
      rw [List.length_append, List.length_map, fwd_len] at this
      omega
    have lenP : Pp.length ≤ 1000 := by
      rw [← hPp]
      exact Nat.le_trans (List.length_filter_le _ _) lenA
    refine ⟨Ad, .dT (fT FA), hA6, trivial, fun od => ?_⟩
    have tl : TupS H6 (upd H6 Ad (.frz od (.dT (fT FA)))) := TupS.upd hA6 fun xs z => by cases z
    refine ⟨_, rfl, Ad, od, rfl, .inr ⟨fT FA, upd_same, fun Pl hPl => ?_⟩⟩
    refine lc_map hPl PrAt (fun _ _ _ _ e r => r.mono e) walk_keysT (fun _ s1 => s1 _ _ upd_same) (fun i => (FA.take i).filter fun p => decide (p ∈ FB)) rfl (by rw [fT_len]; omega) (fun i y Hc H' Post Skip hi sc hy k1 k2 => ?_) (fun H7 acc7 s7 ha7 hp7 => ?_)
    · obtain ⟨rfl, k, v, u, hk, rfl, hu⟩ := hy
      unfold fT at hk
      rw [List.getElem?_map] at hk
      cases hp : FA[i]? with
      | none => rw [hp] at hk; cases hk
      | some p =>
        rw [hp] at hk
        cases hk
        have ext : (FA.take (i + 1)).filter (fun p => decide (p ∈ FB)) = (FA.take i).filter (fun p => decide (p ∈ FB)) ++ (if p ∈ FB then [p] else []) := by
          rw [List.take_succ, hp, List.filter_append]
          congr 1
          show [p].filter _ = _
          by_cases h : p ∈ FB <;> simp [h]
        have hB' : H' Bd = some (.dT (fT FB)) := sc _ _ (by rw [upd_ne nAB]; exact hB)
        refine ⟨rfl, _, rfl, _, rfl, Bd, _, rfl, DGet.t (k := kP p) hB' hu, _, rfl, ?_⟩
        rw [fT_isSome]
        by_cases h : p ∈ FB
        · rw [decide_eq_true h]
          refine iteT ⟨_, rfl, k1 _ _ p (Same.refl _) ⟨u, rfl, hu⟩ ?_⟩
          rw [ext, if_pos h]
        · rw [decide_eq_false h]
          refine iteF (k2 _ (Same.refl _) ?_)
          rw [ext, if_neg h, List.append_nil]
    rw [fT_len, List.take_length, hPp] at hp7
    have hA7 := s7 _ _ upd_same
    refine ⟨hA7, ?_⟩
    have nPA : Pl ≠ Ad := fun e => by
      rw [e, upd_same] at hPl
      cases hPl
    have tu : TupS H7 (upd H7 Ad (.dT (fT FA))) := TupS.upd hA7 fun xs z => by cases z
    obtain ⟨H8, hH8⟩ : ∃ H8, upd H7 Ad (.dT (fT FA)) = H8 := ⟨_, rfl⟩
    have S8 : Same H H8 := fun x o e => by
      have nx : x ≠ Ad := ne_of_none e hAnH
      rw [← hH8, upd_ne nx]
      exact s7 _ _ (by rw [upd_ne nx]; exact S6 _ _ e)
    have hP8 : H8 Pl = some (.lst acc7) := by rw [← hH8, upd_ne nPA]; exact ha7
    have pP8 : Paired (PrAt H8) acc7 Pp := by rw [← hH8]; exact paired_mono hp7 fun _ _ r => r.mono tu
    rw [hH8]
    clear hH8 tu nPA hA7 hp7 ha7 s7 hPl tl hA6 s6 hB s35
    -- number
    refine ⟨_, rfl, Pl, acc7, rfl, .inl (.inl hP8), fun Nn hNn => ?_⟩
    have al7 := Paired.length pP8
    refine dt_map hNn walk_enum (fun _ s1 => .inl (.inl (s1 _ _ hP8))) (fun i => numT Pp (Pp.take i)) rfl (fun i _ => by unfold numT; rw [List.length_map, List.length_take]; omega) (fun i y Hc H' Post Skip hi sc hy k1 k2 => ?_) (fun H9 s9 hN9 => ?_)
    · obtain ⟨u, v1, v2, rfl, hu, rfl, e1, e2⟩ := hy
      cases e1
      have e2 : acc7[i]? = some v2 := e2
      obtain ⟨p, e3, u2, rfl, hu2⟩ := paired_get pP8 e2
      have sT := same_upd hu (o := .tup [V.int (i : Int), .ref u2])
      refine ⟨u, _, rfl, .inl (.inl upd_same), rfl, _, _, rfl, _, _, rfl, rfl, ?_⟩
      refine ⟨rfl, _, rfl, _, rfl, k1 u2 (kP p) _ _ sT (sT _ _ (sc _ _ hu2)) ?_⟩
      have en : num Pp p = i := num_eq ndP e3
      rw [putK_new _ (numT_no (take_fresh' ndP e3)), List.take_succ, e3]
      unfold numT
      rw [List.map_append]
      show _ ++ [(kP p, nV (num Pp p))] = _
      rw [en]
      rfl
    rw [al7, List.take_length] at hN9
    have S9 := S8.trans s9
    -- kept
    refine ⟨_, rfl, b, sv, ss, rfl, S9 _ _ hb, paired_mono pb fun _ _ r => r.mono (TupS.same S9), ok, fun Mg sv2 H10 s10 hMg pMg => ?_⟩
    have svl2 := Paired.length pMg
    have hN10 := s10 _ _ hN9
    refine ⟨Mg, rfl, ⟨_, .inl (.inl hMg)⟩, fun Kp hKp => ?_⟩
    refine lc_map hKp StpAt (fun _ _ _ _ e r => Tup.mono e r) (walk_list (xs := sv2)) (fun _ s1 => .inl (.inl (s1 _ _ hMg))) (fun i => keptOf Pp (ss.take i)) rfl (by omega) (fun i y Hc H' Post Skip hi sc hy k1 k2 => ?_) (fun H11 acc11 s11 ha11 hp11 => ?_)
    · obtain ⟨rfl, hy⟩ := hy
      obtain ⟨⟨p, sg, p'⟩, e2, t, x, z, rfl, ht, hx, hz⟩ := paired_get pMg hy
      have hx' := sc _ _ hx
      have hz' := sc _ _ hz
      have hN' := sc _ _ hN10
      have ext : keptOf Pp (ss.take (i + 1)) = keptOf Pp (ss.take i) ++ (if p ∈ Pp ∧ p' ∈ Pp then [(num Pp p, sg, num Pp p')] else []) := by
        rw [List.take_succ, e2]
        unfold keptOf
        rw [List.filter_append, List.map_append]
        congr 1
        show ([((p, sg, p') : TStp)].filter _).map _ = _
        by_cases h1 : p ∈ Pp <;> by_cases h2 : p' ∈ Pp <;> simp [h1, h2]
      refine ⟨t, _, rfl, .inl (.inl (sc _ _ ht)), rfl, _, _, rfl, _, _, rfl, _, _, rfl, rfl, ?_⟩
      refine ⟨rfl, _, rfl, _, rfl, Nn, _, rfl, DGet.t (k := kP p) hN' hx', _, rfl, ?_⟩
      rw [numT_isSome]
      by_cases h1 : p ∈ Pp
      · rw [decide_eq_true h1]
        refine iteT ⟨_, rfl, _, rfl, Nn, _, rfl, DGet.t (k := kP p') hN' hz', _, rfl, ?_⟩
        rw [numT_isSome]
        by_cases h2 : p' ∈ Pp
        · rw [decide_eq_true h2]
          refine iteT ⟨_, rfl, _, rfl, Nn, _, rfl, (numT_at ndP h1) ▸ DGet.t (k := kP p) hN' hx', _, rfl, _, rfl, _, rfl, Nn, _, rfl, (numT_at ndP h2) ▸ DGet.t (k := kP p') hN' hz', (by show 3 ≤ sizeLine; decide), fun u hu => k1 _ _ (num Pp p, sg, num Pp p') (same_upd hu) ⟨u, rfl, upd_same⟩ ?_⟩
          rw [ext, if_pos ⟨h1, h2⟩]
        · rw [decide_eq_false h2]
          refine iteF (k2 _ (Same.refl _) ?_)
          rw [ext, if_neg (fun h => h2 h.2), List.append_nil]
      · rw [decide_eq_false h1]
        refine iteF (k2 _ (Same.refl _) ?_)
        rw [ext, if_neg (fun h => h1 h.1), List.append_nil]
    rw [svl2, List.take_length] at hp11
    have S11 := (S9.trans s10).trans s11
    have hN11 := s11 _ _ hN10
    have hP11 := s11 _ _ (s10 _ _ (s9 _ _ hP8))
    clear hN10 hMg pMg hp1 hp2 ha1 ha2 hW1 hW2
    -- first
    refine ⟨_, rfl, a, rfl, ⟨_, .inl (.inl (S11 _ _ ha))⟩, fun L3 hL3 => ?_⟩
    refine lc_map hL3 (β := Nat) (fun _ v b => v = nV b) (fun _ _ _ _ _ z => z) (walk_list (xs := bv)) (fun _ s1 => .inl (.inl (s1 _ _ (S11 _ _ ha)))) (fun i => firstOf Pp (bs.take i)) rfl (by omega) (fun i y Hc H' Post Skip hi sc hy k1 k2 => ?_) (fun H12 acc12 s12 ha12 hp12 => ?_)
    · obtain ⟨rfl, hy⟩ := hy
      obtain ⟨p, e2, u, rfl, hu⟩ := paired_get pa hy
      have hu' := sc _ _ (S11 _ _ hu)
      have hN' := sc _ _ hN11
      have ext : firstOf Pp (bs.take (i + 1)) = firstOf Pp (bs.take i) ++ (if p ∈ Pp then [num Pp p] else []) := by
        rw [List.take_succ, e2]
        unfold firstOf
        rw [List.filter_append, List.map_append]
        congr 1
        show ([p].filter _).map _ = _
        by_cases h1 : p ∈ Pp <;> simp [h1]
      refine ⟨rfl, _, rfl, _, rfl, Nn, _, rfl, DGet.t (k := kP p) hN' hu', _, rfl, ?_⟩
      rw [numT_isSome]
      by_cases h1 : p ∈ Pp
      · rw [decide_eq_true h1]
        refine iteT ⟨_, rfl, _, rfl, Nn, _, rfl, (numT_at ndP h1) ▸ DGet.t (k := kP p) hN' hu', k1 _ _ (num Pp p) (Same.refl _) rfl ?_⟩
        rw [ext, if_pos h1]
      · rw [decide_eq_false h1]
        refine iteF (k2 _ (Same.refl _) ?_)
        rw [ext, if_neg h1, List.append_nil]
    rw [bvl, List.take_length] at hp12
    rw [paired_vals hp12] at ha12
    refine ⟨L3, (firstOf Pp bs).map fun n : Nat => (n : Int), rfl, .inl (.inl (by rw [List.map_map]; exact ha12)), fun ms L4 pm rise hL4 => ?_⟩
    obtain ⟨fs, em, pf, rf⟩ := nat_sorted (first_nd nb) pm rise
    rw [em]
    clear em pm rise
    refine ⟨L4, _, rfl, .inl ⟨.inl (.inl upd_same), fun Tb hTb => ?_⟩⟩
    obtain ⟨H13, hH13⟩ : ∃ H13, upd (upd H12 L4 (.lst (fs.map nV))) Tb (.tup (fs.map nV)) = H13 := ⟨_, rfl⟩
    have s13 : Same H12 H13 := by rw [← hH13]; exact (same_upd hL4).trans (same_upd hTb)
    have hTb13 : H13 Tb = some (.tup (fs.map nV)) := by rw [← hH13]; exact upd_same
    rw [hH13]
    clear hH13 hTb hL4 ha12 hp12
    have S13 := (S11.trans s12).trans s13
    have hN13 := s13 _ _ (s12 _ _ hN11)
    -- last
    refine ⟨_, rfl, c, rfl, ⟨_, .inl (.inl (S13 _ _ hc))⟩, fun L5 hL5 => ?_⟩
    refine lc_map hL5 (β := Nat) (fun _ v b => v = nV b) (fun _ _ _ _ _ z => z) (walk_list (xs := ev)) (fun _ s1 => .inl (.inl (s1 _ _ (S13 _ _ hc)))) (fun i => firstOf Pp (es.take i)) rfl (by omega) (fun i y Hc H' Post Skip hi sc hy k1 k2 => ?_) (fun H14 acc14 s14 ha14 hp14 => ?_)
    · obtain ⟨rfl, hy⟩ := hy
      obtain ⟨p, e2, u, rfl, hu⟩ := paired_get pc hy
      have hu' := sc _ _ (S13 _ _ hu)
      have hN' := sc _ _ hN13
      have ext : firstOf Pp (es.take (i + 1)) = firstOf Pp (es.take i) ++ (if p ∈ Pp then [num Pp p] else []) := by
        rw [List.take_succ, e2]
        unfold firstOf
        rw [List.filter_append, List.map_append]
        congr 1
        show ([p].filter _).map _ = _
        by_cases h1 : p ∈ Pp <;> simp [h1]
      refine ⟨rfl, _, rfl, _, rfl, Nn, _, rfl, DGet.t (k := kP p) hN' hu', _, rfl, ?_⟩
      rw [numT_isSome]
      by_cases h1 : p ∈ Pp
      · rw [decide_eq_true h1]
        refine iteT ⟨_, rfl, _, rfl, Nn, _, rfl, (numT_at ndP h1) ▸ DGet.t (k := kP p) hN' hu', k1 _ _ (num Pp p) (Same.refl _) rfl ?_⟩
        rw [ext, if_pos h1]
      · rw [decide_eq_false h1]
        refine iteF (k2 _ (Same.refl _) ?_)
        rw [ext, if_neg h1, List.append_nil]
    rw [evl, List.take_length] at hp14
    rw [paired_vals hp14] at ha14
    refine ⟨L5, (firstOf Pp es).map fun n : Nat => (n : Int), rfl, .inl (.inl (by rw [List.map_map]; exact ha14)), fun ms2 L6 pm2 rise2 hL6 => ?_⟩
    obtain ⟨ls, em, pl, rl⟩ := nat_sorted (first_nd ne) pm2 rise2
    rw [em]
    clear em pm2 rise2
    refine ⟨L6, _, rfl, .inl ⟨.inl (.inl upd_same), fun Te hTe => ?_⟩⟩
    obtain ⟨H15, hH15⟩ : ∃ H15, upd (upd H14 L6 (.lst (ls.map nV))) Te (.tup (ls.map nV)) = H15 := ⟨_, rfl⟩
    have s15 : Same H14 H15 := by rw [← hH15]; exact (same_upd hL6).trans (same_upd hTe)
    have hTe15 : H15 Te = some (.tup (ls.map nV)) := by rw [← hH15]; exact upd_same
    rw [hH15]
    clear hH15 hTe hL6 ha14 hp14
    have s11_15 := ((s12.trans s13).trans s14).trans s15
    have S15 := S11.trans s11_15
    have hTb15 := s15 _ _ (s14 _ _ hTb13)
    -- the machine
    refine ⟨_, rfl, Pl, acc7, rfl, .inl (.inl (.inl (s11_15 _ _ hP11))), _, rfl, ?_⟩
    refine ⟨_, rfl, ?_⟩
    have kl : (keptOf Pp ss).length ≤ 1000 := by
      unfold keptOf
      rw [List.length_map]
      exact Nat.le_trans (List.length_filter_le _ _) slen
    obtain ⟨sb, z1, z2, z3, z4, z5, z6, kv, ks, ekv, pk, rk, pkv⟩ := sort_stps (K := K) (paired_mono hp11 fun _ _ r => Tup.mono (TupS.same s11_15) r) (kept_uniq ok) kl
    refine ⟨Kp, sb, rfl, by rw [z1]; exact .inl (.inl (s11_15 _ _ ha11)), z2, z3, z4, z5, z6, fun L7 hL7 => ?_⟩
    rw [ekv]
    refine ⟨L7, kv, rfl, .inl ⟨.inl (.inl upd_same), fun Ts hTs => ?_⟩⟩
    have s17 : Same H15 (upd (upd H15 L7 (.lst kv)) Ts (.tup kv)) := (same_upd hL7).trans (same_upd hTs)
    obtain ⟨H17, hH17⟩ : ∃ H17, upd (upd H15 L7 (.lst kv)) Ts (.tup kv) = H17 := ⟨_, rfl⟩
    have hTs17 : H17 Ts = some (.tup kv) := by rw [← hH17]; exact upd_same
    rw [hH17] at s17 ⊢
    clear hH17
    have asm := asm_ok (es := es) ndP memP lenP ok pf rf pl rl pk rk
    refine ⟨_, rfl, fun x dx hx hdx nxd => ?_⟩
    have S17 := S15.trans s17
    have sI : Same H17 (upd (upd H17 dx (.own x)) x (.ins C dx [])) := same_new (same_upd hdx) hx
    refine ⟨x, dx, Tb, Ts, Te, kv, ⟨Pp.length, fs, ks, ls⟩, by rw [al7]; rfl, upd_same, sI _ _ (s17 _ _ hTb15), sI _ _ hTs17, paired_mono pkv fun _ _ r => r.same (s17.trans sI), sI _ _ (s17 _ _ hTe15), asm.wf, fun H' sB hM => ⟨rfl, q x _ H' (fun y o e => ?_) hM asm⟩⟩
    have e17 := S17 _ _ e
    exact sB y o (ne_of_none e17 hx) (sI _ _ e17)
end
end KM
/-! text KES -/
set_option Elab.async false
set_option linter.all false
set_option maxRecDepth 100000
set_option maxHeartbeats 4000000
/-! enumerate(text) -/
namespace KM
open PySem PySem.Spec PyProof.Rows L2
def ItS (x : Str) : It :=
  ⟨fun i _ => i < x.cps.size, fun i H v H' => ∃ T c, v = .ref T ∧ H T = none ∧ H' = upd H T (.tup [.int (i : Nat), .str ⟨#[c]⟩]) ∧ x.cps[i]? = some c, fun i _ => x.cps.size ≤ i⟩
theorem turn_enumS {P : Program} {w : World} {K : PySem.W.Frag} {elts : List Expr} {kk : Nat} {tpos : Pos} (e it : Addr) (x : Str) (t : Tok) (ty : String) (hty : ty = "str_ascii_iterator" ∨ ty = "str_iterator") :
    Turn P w K (.Tuple elts kk tpos) (ItS x) [e, it] e (fun i h => (∃ old, IsEnum h e it ((i : Nat) : Int) old) ∧ h.IsStrIter it ty x t i ∧ e ≠ it ∧ i ≤ x.cps.size) where
  mem := by simp
  obj := fun i h st b hb => by
    obtain ⟨⟨old, he⟩, ⟨o, ho, hc, hd⟩, _⟩ := st
    have e' : b = e ∨ b = it := by simpa using hb
    rcases e' with z | z
    · rw [z]; exact ⟨_, he, fun v q => nomatch q⟩
    · rw [z]; exact ⟨o, ho, fun v q => by rw [hd] at q; cases q⟩
  keep := fun i h h' st k => let ⟨⟨old, he⟩, ⟨o, ho, r⟩, hne, hl⟩ := st; ⟨⟨old, k e (by simp) _ he⟩, ⟨o, k it (by simp) o ho, r⟩, hne, hl⟩
  item := by
    intro X hP hw hK hc i pins s σ H E I hf st hg
    subst hP hw hK
    obtain ⟨⟨old, he⟩, hit, hne, hl⟩ := st
    have hel : e < s.heap.objs.size := Heap.lt_size he
    have hil : it < s.heap.objs.size := by obtain ⟨_, q, _⟩ := hit; exact Heap.lt_size q
    have hh := I.ok.hd hc
    have D : Draws X.prog X.w X.A.in1 it [it] x.cps.size (SignAt x) (fun i h => h.IsStrIter it ty x t i) := by
      rcases hty with z | z
      · rw [z]; exact Draws.strAscii (A := X.A.in1) hh it x t
      · rw [z]; exact Draws.strWide (A := X.A.in1) hh it x t
    have hef : e ∉ [it] := by simpa using hne
    refine wpAny_pyNext_enum_itemD D he hit hg hne hef fun v h' tk hv ho hit' hT hsz hk => ?_
    obtain ⟨c, u, hcx, rfl⟩ := hv
    refine ⟨_, rfl, wpAny_letOwnedTupleGo_enum (s := { s with heap := h', toks := tk + 1 }) ho fun h'' he' sb => ?_⟩
    have hT2 : h''.get? s.heap.objs.size = some { cls := .type "tuple", data := .seq #[.int i tk, .str ⟨#[c]⟩ u] } := (sb.2 _ (Nat.ne_of_gt hel)).trans hT
    have new : ObjOk X.prog X.w (upd H s.heap.objs.size (.tup [.int (i : Nat), .str ⟨#[c]⟩])) h'' s.heap.objs.size (.tup [.int (i : Nat), .str ⟨#[c]⟩]) :=
      ⟨by show 2 ≤ sizeLine; decide, [.int i tk, .str ⟨#[c]⟩ u], .cons ⟨_, rfl⟩ (.cons ⟨_, rfl⟩ .nil), ⟨_, hT2, rfl, _, rfl⟩⟩
    have I1 : Inv X pins σ (upd H s.heap.objs.size (.tup [.int (i : Nat), .str ⟨#[c]⟩])) { s with heap := h'', toks := tk + 1 } :=
      I.turnedNew (ch := [e, it]) (fun b ob hb q => (sb.2 b (fun z => hb (by simp [z]))).trans (hk b ob (fun z => hb (by simp [z])) (fun z => hb (by simp [z])) q)) hf (Nat.le_refl _) new
    refine ⟨.ref s.heap.objs.size, _, I1, rfl, ⟨_, c, rfl, I.hok.fresh (Nat.le_refl _), rfl, hcx⟩, ⟨⟨.str ⟨#[c]⟩ u, ?_⟩, ?_, hne, hg⟩, fun b hb => ?_⟩
    · have e1 : ((i + 1 : Nat) : Int) = (i : Int) + 1 := by omega
      rw [e1]; exact he'
    · obtain ⟨o, q, r⟩ := hit'
      exact ⟨o, (sb.2 it (Ne.symm hne)).trans q, r⟩
    · have hb' : b < s.heap.objs.size := by
        have e' : b = e ∨ b = it := by simpa using hb
        rcases e' with z | z
        · rw [z]; exact hel
        · rw [z]; exact hil
      rw [upd_ne (Nat.ne_of_lt hb')]
      exact (hf b hb).1
  done := by
    intro X hP hw hK hc i pins s σ H E I hf st hg
    subst hP hw hK
    obtain ⟨⟨old, he⟩, hit, hne, hl⟩ := st
    obtain ⟨f0, f1, f2, f3, f4, f5⟩ := hf it (by simp)
    have hh := I.ok.hd hc
    have D : Draws X.prog X.w X.A.in1 it [it] x.cps.size (SignAt x) (fun i h => h.IsStrIter it ty x t i) := by
      rcases hty with z | z
      · rw [z]; exact Draws.strAscii (A := X.A.in1) hh it x t
      · rw [z]; exact Draws.strWide (A := X.A.in1) hh it x t
    have ei : i = x.cps.size := Nat.le_antisymm hl hg
    subst ei
    exact wpAny_pyNext_enum_endD D he hit fun h' eb => ⟨rfl, I.turned (t' := s.toks) (fun b o hb q => eb b o hb q) f0 f1 f3 f4 f5⟩
  self := fun A i s Q E st h => let ⟨⟨_, he⟩, _⟩ := st; wpAny_pyIter_enum he h
def iEnumS (ta : TA) : TI := fun σ H R => ta σ H fun vs H1 => ∃ x, vs = [.str x] ∧ R (ItS x) H1
theorem pi_enumS {X : Cx} {e : Expr} {ta : TA} {p pos tpos : Pos} {elts : List Expr} {kk : Nat} (hg : Gl X "enumerate") (hm : X.mg "enumerate" = none) (ha : PA X [e] ta) (hs : starEach [e] X.env = [(false, eval e X.env)] := by rfl) :
    PI X (.Tuple elts kk tpos) (.Call (.Name "enumerate" p) [e] [] pos) (iEnumS ta) := by
  refine ⟨fun pins s σ H R I h => ?_⟩
  refine Call_ (ld_blt I hg hm boot_enumerate (PyProof.Rows.callWith_type1 (thn (ha.run pos pins s σ H _ I h) fun us s1 ⟨vs, H1, I1, r1, q1⟩ => ?_) hs rfl))
  obtain ⟨x, ex, q⟩ := q1
  subst ex
  obtain ⟨u, rfl, t, rfl⟩ := vals1 r1
  refine call_enumerate_str fun h' he hit hsz hk => wpAny_pyIter_enum he ?_
  have I2 : Inv X pins σ H1 { s1 with heap := h' } := I1.kept (t' := s1.toks) hk
  have hty : strIterType x = "str_ascii_iterator" ∨ strIterType x = "str_iterator" := by
    unfold strIterType
    split
    · exact .inl rfl
    · exact .inr rfl
  refine ⟨s1.heap.objs.size + 1, [s1.heap.objs.size + 1, s1.heap.objs.size], _, _, H1, rfl, I2, turn_enumS (s1.heap.objs.size + 1) s1.heap.objs.size x t _ hty, ⟨⟨.none, he⟩, hit, Nat.succ_ne_self _, Nat.zero_le _⟩, fun b hb => ?_, q⟩
  have e' : b = s1.heap.objs.size + 1 ∨ b = s1.heap.objs.size := by simpa using hb
  have hle : s1.heap.objs.size ≤ b := by
    rcases e' with z | z
    · rw [z]; exact Nat.le_add_right _ _
    · rw [z]; exact Nat.le_refl _
  exact I1.fpOk hle (I1.hok.fresh hle)
theorem walk_enumS {x : Str} : Walk (ItS x) x.cps.size (fun _ => True) (YPair (fun i => some (.int (i : Nat))) (fun i => x.cps[i]?.map fun c => V.str ⟨#[c]⟩)) := by
  refine ⟨fun _ _ hi _ => hi, fun _ _ => Nat.le_refl _, fun i H v H' _ _ y => ?_⟩
  obtain ⟨T, c, h1, h2, h3, h4⟩ := y
  exact ⟨T, .int (i : Nat), .str ⟨#[c]⟩, h1, h2, h3, rfl, by simp [h4]⟩
end KM
/-! text KW17 -/
set_option Elab.async false
set_option linter.all false
set_option maxRecDepth 100000
set_option maxHeartbeats 4000000
namespace KM
open PySem PySem.Spec PyProof.Rows L2
/-- the steps of a text's machine -/
def txSteps (t : List Nat) : List Stp := (List.range t.length).map fun i => (i, [t.getD i 0], i + 1)
theorem txSteps_take {t : List Nat} {i c : Nat} (h : t[i]? = some c) : (List.range (i + 1)).map (fun i => ((i, [t.getD i 0], i + 1) : Stp)) = (List.range i).map (fun i => ((i, [t.getD i 0], i + 1) : Stp)) ++ [(i, [c], i + 1)] := by
  rw [List.range_succ, List.map_append]
  have : t.getD i 0 = c := by rw [List.getD_eq_getElem?_getD, h]; rfl
  show _ ++ [((i, [t.getD i 0], i + 1) : Stp)] = _
  rw [this]
def txM (t : List Nat) : Mch := ⟨t.length + 1, [0], txSteps t, [t.length]⟩
theorem txM_wf {t : List Nat} (ok : ∀ c ∈ t, okSign c) (hl : t.length ≤ 100) : (txM t).WF := by
  have mem : ∀ s ∈ txSteps t, ∃ i c, t[i]? = some c ∧ s = (i, [c], i + 1) := fun s hs => by
    obtain ⟨i, hi, rfl⟩ := List.mem_map.mp hs
    have hi := List.mem_range.mp hi
    refine ⟨i, t[i], List.getElem?_eq_getElem hi, ?_⟩
    have : t.getD i 0 = t[i] := by rw [List.getD_eq_getElem?_getD, List.getElem?_eq_getElem hi]; rfl
    rw [this]
  refine ⟨by simp [txM], fun p hp => ?_, by simp [txM], fun p hp => ?_, ⟨fun s hs => ?_, ?_, ?_, ?_⟩, ?_⟩
  · have : p = 0 := by simpa [txM] using hp
    rw [this]
    exact Nat.succ_pos _
  · have : p = t.length := by simpa [txM] using hp
    rw [this]
    exact Nat.lt_succ_self _
  · obtain ⟨i, c, hc, rfl⟩ := mem s hs
    have hi := (List.getElem?_eq_some_iff.mp hc).1
    exact ⟨Nat.lt_succ_of_lt hi, Nat.succ_lt_succ hi, ⟨by simp, by simp, fun d hd => by rw [List.mem_singleton.mp hd]; exact ok c (List.mem_of_getElem? hc)⟩⟩
  · show (txSteps t).Pairwise stpLt
    unfold txSteps
    rw [List.pairwise_map]
    exact List.pairwise_lt_range.imp fun h => .inl h
  · show ((txSteps t).map fun s => (s.1, s.2.2)).Nodup
    unfold txSteps
    rw [List.map_map]
    exact nodup_map (f := fun i : Nat => (i, i + 1)) (fun a b e => (Prod.mk.inj e).1) List.nodup_range
  · show (txSteps t).length ≤ 1000
    unfold txSteps
    rw [List.length_map, List.length_range]
    omega
  · show t.length + 1 ≤ 1000
    omega
section
variable {P : Program} {w : World} {K : PySem.W.Frag} {mg : Str → Option Value} {base : Heap}
def spTextMachine (C : Addr) : Sp := fun vs H Q _ => ∃ (t : List Nat), vs = [sV t] ∧ (∀ c ∈ t, okSign c) ∧ t.length ≤ 100 ∧ ∀ (x : Addr) H', Same H H' → MachAt C H' x (txM t) → Q (.ref x) H'
abbrev nmTextMachine : List Str := ["text", "steps", "at", "sign"]
theorem scTextMachine : FnScope nmTextMachine ["text"] (defScope sTextMachine) := ⟨rfl, rfl, rfl, by decide +kernel, rfl, by decide +kernel, by decide +kernel⟩
theorem ok_text_machine {C f fi : Addr} {fd fdi : FuncData} (F : FnP K "text_machine" "text_machine" sTextMachine f fd) (B : Bi mg) (T : MC K mg C fi) (Fi : FnP K "__init__" "Machine.__init__" sInit fi fdi)
    (Oi : FnOk P w K mg base CX0 5 fi fdi ["self", "many", "begins", "steps", "ends"] (spInit C)) : FnOk P w K mg base CX0 7 f fd ["text"] (spTextMachine C) := by
  have bi : Binds K fdi ["self", "many", "begins", "steps", "ends"] [] := Fi.bindsN fun _ _ _ _ _ _ us hl => match us, hl with | [_, _, _, _, _], _ => rfl
  refine F.okP scTextMachine (fun vs H Q E h => ?_) (fun cdv A outer s H vs Q E hr h => ?_)
  · obtain ⟨t, rfl, _⟩ := h
    rfl
  · obtain ⟨t, rfl, ok, hl, q⟩ := h
    refine ⟨_, pss_cons (ps_setLc (i := 1) (own := [("at", 2), ("sign", 3)]) (g := gTup K 2 (gCons (gName 2) (gCons (gName 3) gNil))) (tt := tYes) rfl scTextMachine.nd rfl rfl (sw_true rfl rfl rfl (by decide +kernel)) (pi_enumS (by rfl) B.enumerate (pa_cons (pv 0) pa_nil))
        (blkOk_by (N := nmTextMachine) (sc := defScope sTextMachine) (by decide +kernel)) (fun _ _ _ _ _ => pg_tup rfl (pgs_cons (pg_name (i := 2) scTextMachine.nd rfl (.inl rfl)) (pgs_cons (pg_name (i := 3) scTextMachine.nd rfl (.inl rfl)) pgs_nil))) (fun _ _ _ _ _ => pts_nil)
        (fun _ _ _ _ _ => pe_tup (pa_cons (pv 2) (pa_cons (pv 3) (pa_cons (pe_op op_add (pv 2) pe_int) pa_nil)))))
      (pss_one (ps_ret (pe_make T.mkr Oi hr (by rfl) T.g bi .nil pass0 (pa_cons (pe_op op_add (pe_callB call_len_str (by rfl) B.len PySem.boot_len (pa_cons (pv 0) pa_nil)) pe_int) (pa_cons (pe_tup (pa_cons pe_int pa_nil)) (pa_cons (pe_callTy call_tuple_of (by rfl) B.tuple (by decide +kernel) (pa_cons (pv 1) pa_nil)) (pa_cons (pe_tup (pa_cons (pe_callB call_len_str (by rfl) B.len PySem.boot_len (pa_cons (pv 0) pa_nil)) pa_nil)) pa_nil))))))), ?_⟩
    have line : (101 : Nat) < sizeLine := by decide
    have cs : (sS t).cps.size = t.length := List.size_toArray
    refine ⟨_, rfl, sS t, rfl, fun L hL => ?_⟩
    refine lc_map hL StpAt (fun _ _ _ _ e r => Tup.mono e r) walk_enumS (fun _ _ => trivial) (fun i => (List.range i).map fun i => ((i, [t.getD i 0], i + 1) : Stp)) rfl (by omega) (fun i y Hc H' Post Skip hi sc hy k1 k2 => ?_) (fun H1 acc s1 ha1 hp1 => ?_)
    · obtain ⟨u, v1, v2, rfl, hu, rfl, e1, e2⟩ := hy
      cases e1
      have e2 : ((sS t).cps[i]?.map fun c => V.str ⟨#[c]⟩) = some v2 := e2
      have e3 : (sS t).cps[i]? = t[i]? := by
        show t.toArray[i]? = _
        simp
      rw [e3] at e2
      cases hc : t[i]? with
      | none => rw [hc] at e2; cases e2
      | some c =>
        rw [hc] at e2
        cases e2
        have sT := same_upd hu (o := .tup [V.int (i : Int), V.str ⟨#[c]⟩])
        refine ⟨u, _, rfl, .inl (.inl upd_same), rfl, _, _, rfl, _, _, rfl, rfl, ?_⟩
        refine ⟨rfl, _, rfl, _, rfl, _, rfl, _, _, rfl, rfl, (by show 3 ≤ sizeLine; decide), fun z hz => k1 _ _ (i, [c], i + 1) (sT.trans (same_upd hz)) ⟨z, rfl, upd_same⟩ (txSteps_take hc)⟩
    rw [cs] at hp1
    have hp1 : Paired (StpAt H1) acc (txSteps t) := hp1
    have ll : (sS t).length ≤ sizeLine := by rw [sS_len]; omega
    refine ⟨_, rfl, sS t, rfl, ll, _, _, rfl, rfl, (by show 1 ≤ sizeLine; decide), fun Tb hTb => ⟨_, rfl, ?_⟩⟩
    have sb : Same H1 (upd H1 Tb (.tup [V.int 0])) := same_upd hTb
    refine ⟨L, acc, rfl, .inl ⟨.inl (.inl (sb _ _ ha1)), fun Ts hTs => ?_⟩⟩
    have ss : Same (upd H1 Tb (.tup [V.int 0])) (upd (upd H1 Tb (.tup [V.int 0])) Ts (.tup acc)) := same_upd hTs
    refine ⟨_, rfl, sS t, rfl, ll, (by show 1 ≤ sizeLine; decide), fun Te hTe => ?_⟩
    have se := same_upd hTe (o := .tup [V.int ((sS t).length : Int)])
    intro x dx hx hdx nxd
    have S := ((s1.trans sb).trans ss).trans se
    have sI := same_new (same_upd hdx (o := .own x)) hx (o := .ins C dx [])
    refine ⟨x, dx, Tb, Ts, Te, acc, txM t, ?_, upd_same, sI _ _ (se _ _ (ss _ _ upd_same)), sI _ _ (se _ _ upd_same), paired_mono hp1 fun _ _ r => r.same ((sb.trans ss).trans (se.trans sI)), ?_, txM_wf ok hl, fun H' sB hM => ⟨rfl, q x H' (fun y o e => ?_) hM⟩⟩
    · show [V.ref x, V.int (((sS t).length : Int) + 1), V.ref Tb, V.ref Ts, V.ref Te] = [V.ref x, nV (t.length + 1), V.ref Tb, V.ref Ts, V.ref Te]
      rw [sS_len]
      rfl
    · have := sI _ _ (upd_same (H := upd (upd H1 Tb (.tup [V.int 0])) Ts (.tup acc)) (a := Te) (o := .tup [V.int ((sS t).length : Int)]))
      rw [this, sS_len]
      rfl
    · have e17 := S _ _ e
      exact sB y o (ne_of_none e17 hx) (sI _ _ e17)
end
end KM
/-! text KW18 -/
set_option Elab.async false
set_option linter.all false
set_option maxRecDepth 100000
set_option maxHeartbeats 4000000
namespace KM
open PySem PySem.Spec PyProof.Rows L2
/-- the parts of the first n machines, one behind the other -/
def fl {β : Type} (f : Nat → Mch → List β) (Ms : List Mch) (n : Nat) : List β := (List.range n).flatMap fun k => match Ms[k]? with | some M => f k M | none => []
theorem fl_succ {β : Type} {f : Nat → Mch → List β} {Ms : List Mch} {n : Nat} {M : Mch} (h : Ms[n]? = some M) : fl f Ms (n + 1) = fl f Ms n ++ f n M := by
  unfold fl
  rw [List.range_succ, List.flatMap_append]
  simp [h]
theorem fl_mem {β : Type} {f : Nat → Mch → List β} {Ms : List Mch} {n : Nat} {b : β} : b ∈ fl f Ms n ↔ ∃ k M, k < n ∧ Ms[k]? = some M ∧ b ∈ f k M := by
  unfold fl
  rw [List.mem_flatMap]
  constructor
  · rintro ⟨k, hk, hb⟩
    cases e : Ms[k]? with
    | none => rw [e] at hb; cases hb
    | some M =>
      rw [e] at hb
      exact ⟨k, M, List.mem_range.mp hk, e, hb⟩
  · rintro ⟨k, M, hk, e, hb⟩
    exact ⟨k, List.mem_range.mpr hk, by rw [e]; exact hb⟩
theorem fl_len {β : Type} {f : Nat → Mch → List β} {Ms : List Mch} {n : Nat} : ∀ {m : Nat}, n ≤ m → (fl f Ms n).length ≤ (fl f Ms m).length
  | 0, h => by
    have : n = 0 := by omega
    rw [this]
    exact Nat.le_refl _
  | m + 1, h => by
    by_cases e : n = m + 1
    · rw [e]
      exact Nat.le_refl _
    · refine Nat.le_trans (fl_len (m := m) (by omega)) ?_
      unfold fl
      rw [List.range_succ, List.flatMap_append, List.length_append]
      exact Nat.le_add_right _ _
def fB (k : Nat) (M : Mch) : List Pr := M.begins.map fun p => (k, p)
def fE (k : Nat) (M : Mch) : List Pr := M.ends.map fun p => (k, p)
def fS (k : Nat) (M : Mch) : List TStp := M.steps.map fun s => ((k, s.1), s.2.1, (k, s.2.2))
theorem fl_nd {β : Type} {f : Nat → Mch → List β} (g : β → Nat) {Ms : List Mch} (hg : ∀ k M b, b ∈ f k M → g b = k) (hf : ∀ (k : Nat) M, Ms[k]? = some M → (f k M).Nodup) : ∀ n, n ≤ Ms.length → (fl f Ms n).Nodup
  | 0, _ => .nil
  | n + 1, h => by
    have e : Ms[n]? = some (Ms[n]'h) := List.getElem?_eq_getElem h
    rw [fl_succ e, List.nodup_append]
    refine ⟨fl_nd g hg hf n (by omega), hf n _ e, fun a ha b hb q => ?_⟩
    obtain ⟨k, M, hk, e2, hm⟩ := fl_mem.mp ha
    have a1 := hg _ _ _ hm
    have b1 := hg _ _ _ hb
    rw [q] at a1
    omega
theorem fB_nd {Ms : List Mch} (wf : ∀ M ∈ Ms, M.WF) : (fl fB Ms Ms.length).Nodup := fl_nd (fun p => p.1) (fun k M b h => by
    obtain ⟨p, _, rfl⟩ := List.mem_map.mp h
    rfl) (fun k M h => nodup_map (f := fun p => (k, p)) (fun a b e => (Prod.mk.inj e).2) ((wf M (List.mem_of_getElem? h)).bRise.imp fun h => Nat.ne_of_lt h)) _ (Nat.le_refl _)
theorem fE_nd {Ms : List Mch} (wf : ∀ M ∈ Ms, M.WF) : (fl fE Ms Ms.length).Nodup := fl_nd (fun p => p.1) (fun k M b h => by
    obtain ⟨p, _, rfl⟩ := List.mem_map.mp h
    rfl) (fun k M h => nodup_map (f := fun p => (k, p)) (fun a b e => (Prod.mk.inj e).2) ((wf M (List.mem_of_getElem? h)).eRise.imp fun h => Nat.ne_of_lt h)) _ (Nat.le_refl _)
theorem fS_ok {Ms : List Mch} (wf : ∀ M ∈ Ms, M.WF) (hl : (fl fS Ms Ms.length).length ≤ 1000) : TStpsOk (fl fS Ms Ms.length) := by
  refine ⟨?_, fun s hs => ?_, hl⟩
  · have e : (fl fS Ms Ms.length).map tkey = fl (fun k M => (fS k M).map tkey) Ms Ms.length := by
      unfold fl
      rw [List.map_flatMap]
      refine congrArg (fun g => List.flatMap g (List.range Ms.length)) (funext fun k => ?_)
      cases Ms[k]? <;> rfl
    rw [e]
    refine fl_nd (fun k => k.1.1) (fun k M b h => ?_) (fun k M h => ?_) _ (Nat.le_refl _)
    · obtain ⟨s, hs, rfl⟩ := List.mem_map.mp h
      obtain ⟨s', _, rfl⟩ := List.mem_map.mp hs
      rfl
    · have u := (wf M (List.mem_of_getElem? h)).st.uniq
      unfold fS
      rw [List.map_map]
      have := nodup_map (f := fun e : Nat × Nat => (((k, e.1), (k, e.2)) : Key4)) (fun a b e => Prod.ext (Prod.mk.inj (Prod.mk.inj e).1).2 (Prod.mk.inj (Prod.mk.inj e).2).2) u
      rw [List.map_map] at this
      exact this
  · obtain ⟨k, M, _, e, hm⟩ := fl_mem.mp hs
    obtain ⟨s', h', rfl⟩ := List.mem_map.mp hm
    exact ((wf M (List.mem_of_getElem? e)).st.each s' h').sg
theorem paired_append {α β : Type} {F : α → β → Prop} : ∀ {l₁ : List α} {l₂ : List β} {m₁ : List α} {m₂ : List β}, Paired F l₁ l₂ → Paired F m₁ m₂ → Paired F (l₁ ++ m₁) (l₂ ++ m₂)
  | _, _, _, _, .nil, r => r
  | _, _, _, _, .cons h t, r => .cons h (paired_append t r)
section
variable {P : Program} {w : World} {K : PySem.W.Frag} {mg : Str → Option Value} {base : Heap}
def MRef (C : Addr) (H : Hp) (v : V) (M : Mch) : Prop := ∃ x, v = .ref x ∧ MachAt C H x M
def spEither (C : Addr) : Sp := fun vs H Q _ => ∃ (a : Addr) (av : List V) (Ms : List Mch), vs = [.ref a] ∧ H a = some (.lst av) ∧ Paired (MRef C H) av Ms ∧ (∀ M ∈ Ms, M.WF) ∧ (fl fB Ms Ms.length).length + (fl fS Ms Ms.length).length ≤ 1000 ∧ (fl fE Ms Ms.length).length + (fl fS Ms Ms.length).length ≤ 1000 ∧
  ∀ (x : Addr) (M : Mch) H', Same H H' → MachAt C H' x M → Asm (fl fB Ms Ms.length) (fl fS Ms Ms.length) (fl fE Ms Ms.length) M → Q (.ref x) H'
abbrev nmEither : List Str := ["machines", "begins", "steps", "ends", "at", "machine", "place", "signs", "other"]
theorem scEither : FnScope nmEither ["machines"] (defScope sEither) := ⟨rfl, rfl, rfl, by decide +kernel, rfl, by decide +kernel, by decide +kernel⟩
theorem ok_either {C f fi f1 : Addr} {fd fd1 : FuncData} (F : FnP K "either" "either" sEither f fd) (B : Bi mg) (T_ : MC K mg C fi) (F1 : FnP K "assembled" "assembled" sAssembled f1 fd1) (g1 : mg "assembled" = some (.ref f1))
    (O1 : FnOk P w K mg base CX0 7 f1 fd1 ["begins", "steps", "ends"] (spAssembled C)) : FnOk P w K mg base CX0 8 f fd ["machines"] (spEither C) := by
  have b1 : Binds K fd1 ["begins", "steps", "ends"] [] := F1.bindsN fun _ _ _ _ _ _ us hl => match us, hl with | [_, _, _], _ => rfl
  refine F.okP scEither (fun vs H Q E h => ?_) (fun cdv A outer s H vs Q E hr h => ?_)
  · obtain ⟨a, av, Ms, rfl, _⟩ := h
    rfl
  · obtain ⟨a, av, Ms, rfl, ha, pa, wf, l1, l2, q⟩ := h
    refine ⟨_, pss_cons (ps_par3 (i := 1) (j := 2) (l := 3) rfl scEither.nd rfl rfl rfl (by decide) (by decide) (by decide) rfl rfl rfl (pa_cons (pe_lst pa_nil) (pa_cons (pe_lst pa_nil) (pa_cons (pe_lst pa_nil) pa_nil))) (by rfl))
      (pss_cons (ps_for PassesOwn.never rfl (pi_enum (by rfl) B.enumerate (pa_cons (pv 0) pa_nil)) (pg_tup rfl (pgs_cons (pg_name (i := 4) scEither.nd rfl (.inr rfl)) (pgs_cons (pg_name (i := 5) scEither.nd rfl (.inl rfl)) pgs_nil)))
        (pss_cons (ps_expr (pe_bm PySem.F.plainAttrs_list PySem.F.slot_list_extend PySem.F.type_list_extend mt_extend (pv 1) (pa_cons (pe_lc (own := [("place", 6)]) (g := gName 6) (tt := tYes) rfl scEither.nd (pi_tup (pe_fld (pv 5) rfl))
          (blkOk_by (N := nmEither) (sc := defScope sEither) (by decide +kernel)) (fun _ _ _ _ _ => pg_name (i := 6) scEither.nd rfl (.inl rfl)) (fun _ _ _ _ _ => pts_nil) (fun _ _ _ _ _ => pe_tup (pa_cons (pv 4) (pa_cons (pv 6) pa_nil)))) pa_nil)))
        (pss_cons (ps_expr (pe_bm PySem.F.plainAttrs_list PySem.F.slot_list_extend PySem.F.type_list_extend mt_extend (pv 3) (pa_cons (pe_lc (own := [("place", 6)]) (g := gName 6) (tt := tYes) rfl scEither.nd (pi_tup (pe_fld (pv 5) rfl))
          (blkOk_by (N := nmEither) (sc := defScope sEither) (by decide +kernel)) (fun _ _ _ _ _ => pg_name (i := 6) scEither.nd rfl (.inl rfl)) (fun _ _ _ _ _ => pts_nil) (fun _ _ _ _ _ => pe_tup (pa_cons (pv 4) (pa_cons (pv 6) pa_nil)))) pa_nil)))
        (pss_one (ps_expr (pe_bm PySem.F.plainAttrs_list PySem.F.slot_list_extend PySem.F.type_list_extend mt_extend (pv 2) (pa_cons (pe_lc (own := [("place", 6), ("signs", 7), ("other", 8)]) (g := gTup K 3 (gCons (gName 6) (gCons (gName 7) (gCons (gName 8) gNil)))) (tt := tYes) rfl scEither.nd (pi_tup (pe_fld (pv 5) rfl))
          (blkOk_by (N := nmEither) (sc := defScope sEither) (by decide +kernel)) (fun _ _ _ _ _ => pg_tup rfl (pgs_cons (pg_name (i := 6) scEither.nd rfl (.inl rfl)) (pgs_cons (pg_name (i := 7) scEither.nd rfl (.inl rfl)) (pgs_cons (pg_name (i := 8) scEither.nd rfl (.inl rfl)) pgs_nil)))) (fun _ _ _ _ _ => pts_nil)
          (fun _ _ _ _ _ => pe_tup (pa_cons (pe_tup (pa_cons (pv 4) (pa_cons (pv 6) pa_nil))) (pa_cons (pv 7) (pa_cons (pe_tup (pa_cons (pv 4) (pa_cons (pv 8) pa_nil))) pa_nil))))) pa_nil)))))))
      (pss_one (ps_ret (pe_call O1 hr (by rfl) g1 F1.kp b1 .nil pass0 (pa_cons (pv 1) (pa_cons (pv 2) (pa_cons (pv 3) pa_nil))))))), ?_⟩
    have line : (1001 : Nat) < sizeLine := by decide
    have avl := Paired.length pa
    refine ⟨Nat.zero_le _, fun Bd hBd => ⟨Nat.zero_le _, fun Sd hSd => ⟨Nat.zero_le _, fun Ed hEd => ⟨_, _, _, rfl, ?_⟩⟩⟩⟩
    have nSB : Sd ≠ Bd := fun e => by
      rw [e, upd_same] at hSd
      cases hSd
    have nES : Ed ≠ Sd := fun e => by
      rw [e, upd_same] at hEd
      cases hEd
    have nEB : Ed ≠ Bd := fun e => by
      rw [e, upd_ne nSB.symm, upd_same] at hEd
      cases hEd
    have sB := same_upd hBd (o := .lst [])
    have sS := same_upd hSd (o := .lst [])
    have sE := same_upd hEd (o := .lst [])
    have HS := none_of sB hSd
    have HE := none_of (sB.trans sS) hEd
    have S0 := (sB.trans sS).trans sE
    refine ⟨_, rfl, a, av, rfl, .inl (.inl (S0 _ _ ha)), ?_⟩
    refine for_it walk_enum (fun i σ Hx => ∃ (bv sv ev : List V) (y4 y5 y6 y7 y8 : Option V), σ = [some (.ref a), some (.ref Bd), some (.ref Sd), some (.ref Ed), y4, y5, y6, y7, y8] ∧ Same H Hx ∧ Hx Bd = some (.lst bv) ∧ Hx Sd = some (.lst sv) ∧ Hx Ed = some (.lst ev) ∧
        Paired (PrAt Hx) bv (fl fB Ms i) ∧ Paired (TStpAt Hx) sv (fl fS Ms i) ∧ Paired (PrAt Hx) ev (fl fE Ms i))
      ⟨[], [], [], none, none, none, none, none, rfl, S0, by rw [upd_ne nEB.symm, upd_ne nSB.symm, upd_same], by rw [upd_ne nES.symm, upd_same], upd_same, .nil, .nil, .nil⟩ (fun _ _ _ _ ⟨_, _, _, _, _, _, _, _, _, sx, _⟩ => .inl (.inl (sx _ _ ha))) ?_ ?_
    · rintro i v σ Hx Hx' hi ⟨bv, sv, ev, y4, y5, y6, y7, y8, rfl, sx, hB, hS, hE, pb, ps, pe⟩ ⟨T, v1, v2, rfl, hT, rfl, e1, e2⟩
      cases e1
      have e2 : av[i]? = some v2 := e2
      obtain ⟨M, e3, x, rfl, hM⟩ := paired_get pa e2
      have mwf := wf M (List.mem_of_getElem? e3)
      obtain ⟨dx, tb, ts, te, lo, mv, las, h1, h2, h3, h4, h5, h6, h7, h8⟩ := hM.ex
      have sT := same_upd hT (o := .tup [V.int (i : Int), V.ref x])
      have sx1 := sx.trans sT
      have hiM : i + 1 ≤ Ms.length := by omega
      have bl : M.begins.length ≤ M.many := rise_len mwf.bRise mwf.bLt
      have el : M.ends.length ≤ M.many := rise_len mwf.eRise mwf.eLt
      have m1000 := mwf.mLe
      have stl := mwf.st.len
      have mvl := Paired.length h4
      refine ⟨T, _, rfl, .inl (.inl upd_same), rfl, _, _, rfl, _, _, rfl, rfl, ?_⟩
      have f1 := fl_len (f := fB) (Ms := Ms) hiM
      have f2 := fl_len (f := fE) (Ms := Ms) hiM
      have f3 := fl_len (f := fS) (Ms := Ms) hiM
      rw [fl_succ e3, List.length_append] at f1 f2 f3
      have g1 := Paired.length pb
      have g2 := Paired.length pe
      have g3 := Paired.length ps
      -- begins
      refine ⟨_, rfl, .inl ⟨rfl, _, .inl (.inl (sT _ _ hB))⟩, _, rfl, x, C, dx, _, _, rfl, sx1 _ _ h1, T_.cl, T_.nBegins, mf_begins _ _ _ _ _, tb, rfl, ⟨_, .inl (.inl (sx1 _ _ h2))⟩, fun L1 hL1 => ?_⟩
      refine lc_map hL1 PrAt (fun _ _ _ _ e r => r.mono e) (walk_tup (xs := M.begins.map nV)) (fun _ s1 => .inl (.inl (s1 _ _ (sx1 _ _ h2)))) (fun j => (M.begins.take j).map fun p => (i, p)) rfl (by rw [List.length_map]; omega) (fun j y Hc H' Post Skip hj sc hy k1 k2 => ?_) (fun H1 acc1 s1 ha1 hp1 => ?_)
      · obtain ⟨rfl, hy⟩ := hy
        rw [List.getElem?_map] at hy
        cases hp : M.begins[j]? with
        | none => rw [hp] at hy; cases hy
        | some p =>
          rw [hp] at hy
          cases hy
          refine ⟨rfl, _, rfl, _, rfl, (by show 2 ≤ sizeLine; decide), fun u hu => k1 _ _ (i, p) (same_upd hu) ⟨u, rfl, upd_same⟩ ?_⟩
          rw [List.take_succ, hp, List.map_append]
          rfl
      rw [List.length_map, List.take_length] at hp1
      have al1 := Paired.length hp1
      have hp1 : Paired (PrAt H1) acc1 (fB i M) := hp1
      have hB1 := s1 _ _ (sT _ _ hB)
      refine ⟨Bd, L1, bv, acc1, rfl, rfl, hB1, ha1, by rw [Paired.length hp1]; omega, ?_⟩
      have t1 : TupS H1 (upd H1 Bd (.lst (bv ++ acc1))) := TupS.upd hB1 fun xs z => by cases z
      have tx1 : TupS Hx H1 := TupS.same (sT.trans s1)
      have S1 : Same H (upd H1 Bd (.lst (bv ++ acc1))) := same_new (sx1.trans s1) hBd
      have pb1 : Paired (PrAt (upd H1 Bd (.lst (bv ++ acc1)))) (bv ++ acc1) (fl fB Ms (i + 1)) := by
        rw [fl_succ e3]
        exact paired_append (paired_mono pb fun _ _ r => r.mono (tx1.trans t1)) (paired_mono hp1 fun _ _ r => r.mono t1)
      have nSB' : Sd ≠ Bd := nSB
      have hE1 : upd H1 Bd (.lst (bv ++ acc1)) Ed = some (.lst ev) := by rw [upd_ne nEB]; exact s1 _ _ (sT _ _ hE)
      have hS1 : upd H1 Bd (.lst (bv ++ acc1)) Sd = some (.lst sv) := by rw [upd_ne nSB]; exact s1 _ _ (sT _ _ hS)
      have hB1' : upd H1 Bd (.lst (bv ++ acc1)) Bd = some (.lst (bv ++ acc1)) := upd_same
      have tx2 := tx1.trans t1
      obtain ⟨Ha, hHa⟩ : ∃ Ha, upd H1 Bd (.lst (bv ++ acc1)) = Ha := ⟨_, rfl⟩
      rw [hHa] at S1 pb1 hE1 hS1 hB1' tx2 ⊢
      clear hHa t1 hB1 ha1 hp1 s1
      -- ends
      refine ⟨_, rfl, .inl ⟨rfl, _, .inl (.inl hE1)⟩, _, rfl, x, C, dx, _, _, rfl, S1 _ _ h1, T_.cl, T_.nEnds, mf_ends _ _ _ _ _, te, rfl, ⟨_, .inl (.inl (S1 _ _ h5))⟩, fun L2 hL2 => ?_⟩
      refine lc_map hL2 PrAt (fun _ _ _ _ e r => r.mono e) (walk_tup (xs := M.ends.map nV)) (fun _ s1 => .inl (.inl (s1 _ _ (S1 _ _ h5)))) (fun j => (M.ends.take j).map fun p => (i, p)) rfl (by rw [List.length_map]; omega) (fun j y Hc H' Post Skip hj sc hy k1 k2 => ?_) (fun H2 acc2 s2 ha2 hp2 => ?_)
      · obtain ⟨rfl, hy⟩ := hy
        rw [List.getElem?_map] at hy
        cases hp : M.ends[j]? with
        | none => rw [hp] at hy; cases hy
        | some p =>
          rw [hp] at hy
          cases hy
          refine ⟨rfl, _, rfl, _, rfl, (by show 2 ≤ sizeLine; decide), fun u hu => k1 _ _ (i, p) (same_upd hu) ⟨u, rfl, upd_same⟩ ?_⟩
          rw [List.take_succ, hp, List.map_append]
          rfl
      rw [List.length_map, List.take_length] at hp2
      have hp2 : Paired (PrAt H2) acc2 (fE i M) := hp2
      have hE2 := s2 _ _ hE1
      refine ⟨Ed, L2, ev, acc2, rfl, rfl, hE2, ha2, by rw [Paired.length hp2]; omega, ?_⟩
      have t2 : TupS H2 (upd H2 Ed (.lst (ev ++ acc2))) := TupS.upd hE2 fun xs z => by cases z
      have tx3 : TupS Ha H2 := TupS.same s2
      have S2 : Same H (upd H2 Ed (.lst (ev ++ acc2))) := same_new (S1.trans s2) HE
      have pe2 : Paired (PrAt (upd H2 Ed (.lst (ev ++ acc2)))) (ev ++ acc2) (fl fE Ms (i + 1)) := by
        rw [fl_succ e3]
        exact paired_append (paired_mono pe fun _ _ r => r.mono ((tx2.trans tx3).trans t2)) (paired_mono hp2 fun _ _ r => r.mono t2)
      have pb2 := paired_mono pb1 fun _ _ (r : PrAt Ha _ _) => r.mono (tx3.trans t2)
      have hB2 : upd H2 Ed (.lst (ev ++ acc2)) Bd = some (.lst (bv ++ acc1)) := by rw [upd_ne nEB.symm]; exact s2 _ _ hB1'
      have hS2 : upd H2 Ed (.lst (ev ++ acc2)) Sd = some (.lst sv) := by rw [upd_ne nES.symm]; exact s2 _ _ hS1
      have hE2' : upd H2 Ed (.lst (ev ++ acc2)) Ed = some (.lst (ev ++ acc2)) := upd_same
      have tx4 := (tx2.trans tx3).trans t2
      obtain ⟨Hb, hHb⟩ : ∃ Hb, upd H2 Ed (.lst (ev ++ acc2)) = Hb := ⟨_, rfl⟩
      rw [hHb] at S2 pe2 pb2 hB2 hS2 hE2' tx4 ⊢
      clear hHb t2 hE2 ha2 hp2 s2 tx3
      -- steps
      refine ⟨_, rfl, .inl ⟨rfl, _, .inl (.inl hS2)⟩, _, rfl, x, C, dx, _, _, rfl, S2 _ _ h1, T_.cl, T_.nSteps, mf_steps _ _ _ _ _, ts, rfl, ⟨_, .inl (.inl (S2 _ _ h3))⟩, fun L3 hL3 => ?_⟩
      refine lc_map hL3 TStpAt (fun _ _ _ _ e r => r.mono e) (walk_tup (xs := mv)) (fun _ s1 => .inl (.inl (s1 _ _ (S2 _ _ h3)))) (fun j => (M.steps.take j).map fun s => (((i, s.1), s.2.1, (i, s.2.2)) : TStp)) rfl (by omega) (fun j y Hc H' Post Skip hj sc hy k1 k2 => ?_) (fun H3 acc3 s3 ha3 hp3 => ?_)
      · obtain ⟨rfl, hy⟩ := hy
        obtain ⟨⟨p, sg, r⟩, e4, u, rfl, hu⟩ := paired_get h4 hy
        have hu' := sc _ _ (S2 _ _ hu)
        refine ⟨u, _, rfl, .inl (.inl hu'), rfl, _, _, rfl, _, _, rfl, _, _, rfl, rfl, ?_⟩
        refine ⟨rfl, _, rfl, _, rfl, (by show 2 ≤ sizeLine; decide), fun z1 hz1 => ⟨_, rfl, _, rfl, _, rfl, (by show 2 ≤ sizeLine; decide), fun z2 hz2 => ⟨(by show 3 ≤ sizeLine; decide), fun z3 hz3 => ?_⟩⟩⟩
        have q1 := same_upd hz1 (o := .tup [V.int (i : Int), nV p])
        have q2 := same_upd hz2 (o := .tup [V.int (i : Int), nV r])
        have q3 := same_upd hz3 (o := .tup [V.ref z1, sV sg, V.ref z2])
        refine k1 _ _ (((i, p), sg, (i, r)) : TStp) ((q1.trans q2).trans q3) ⟨z3, z1, z2, rfl, upd_same, q3 _ _ (q2 _ _ upd_same), q3 _ _ upd_same⟩ ?_
        rw [List.take_succ, e4, List.map_append]
        rfl
      rw [mvl, List.take_length] at hp3
      have hp3 : Paired (TStpAt H3) acc3 (fS i M) := hp3
      have hS3 := s3 _ _ hS2
      refine ⟨Sd, L3, sv, acc3, rfl, rfl, hS3, ha3, by rw [Paired.length hp3]; omega, ?_⟩
      have t3 : TupS H3 (upd H3 Sd (.lst (sv ++ acc3))) := TupS.upd hS3 fun xs z => by cases z
      have tx5 : TupS Hb H3 := TupS.same s3
      refine ⟨bv ++ acc1, sv ++ acc3, ev ++ acc2, _, _, _, _, _, rfl, same_new (S2.trans s3) HS, by rw [upd_ne nSB.symm]; exact s3 _ _ hB2, upd_same, by rw [upd_ne nES]; exact s3 _ _ hE2', paired_mono pb2 fun _ _ r => r.mono (tx5.trans t3), ?_, paired_mono pe2 fun _ _ r => r.mono (tx5.trans t3)⟩
      rw [fl_succ e3]
      exact paired_append (paired_mono ps fun _ _ r => r.mono ((tx4.trans tx5).trans t3)) (paired_mono hp3 fun _ _ r => r.mono t3)
    · rintro σ Hx ⟨bv, sv, ev, y4, y5, y6, y7, y8, rfl, sx, hB, hS, hE, pb, ps, pe⟩
      rw [avl] at pb ps pe
      exact ⟨_, rfl, _, rfl, _, rfl, Bd, Sd, Ed, bv, sv, ev, _, _, _, rfl, hB, pb, fB_nd wf, hS, ps, fS_ok wf (by omega), hE, pe, fE_nd wf, l1, l2, fun x M H' sH hM asm => q x M H' (sx.trans sH) hM asm⟩
end
end KM
/-! text KW19 -/
set_option Elab.async false
set_option linter.all false
set_option maxRecDepth 100000
set_option maxHeartbeats 4000000
namespace KM
open PySem PySem.Spec PyProof.Rows L2
/-- the signs of both, in the first one's order -/
def inter (a b : List Nat) : List Nat := a.filter fun c => decide (c ∈ b)
theorem inter_snoc {a b : List Nat} {i c : Nat} (h : a[i]? = some c) : inter (a.take (i + 1)) b = inter (a.take i) b ++ (if c ∈ b then [c] else []) := by
  unfold inter
  rw [List.take_succ, h, List.filter_append]
  congr 1
  show [c].filter _ = _
  by_cases h : c ∈ b <;> simp [h]
section
variable {P : Program} {w : World} {K : PySem.W.Frag} {mg : Str → Option Value} {base : Heap}
def spCommon : Sp := fun vs H Q _ => ∃ (a b : List Nat), vs = [sV a, sV b] ∧ a.length ≤ 127 ∧ ∀ H', Same H H' → Q (sV (inter a b)) H'
abbrev nmCommon : List Str := ["one", "other", "sign"]
theorem scCommon : FnScope nmCommon ["one", "other"] (defScope sCommon) := ⟨rfl, rfl, rfl, by decide +kernel, rfl, by decide +kernel, by decide +kernel⟩
theorem ok_common {f : Addr} {fd : FuncData} (F : FnP K "common" "common" sCommon f fd) (B : Bi mg) : FnOk P w K mg base CX0 1 f fd ["one", "other"] spCommon := by
  refine F.okP scCommon (fun vs H Q E h => ?_) (fun cdv A outer s H vs Q E hr h => ?_)
  · obtain ⟨a, b, rfl, _⟩ := h
    rfl
  · obtain ⟨a, b, rfl, hl, q⟩ := h
    refine ⟨_, pss_one (ps_ret (pe_join pe_str (pe_lc (own := [("sign", 2)]) (g := gName 2) rfl scCommon.nd (pi_str (pv 0))
      (blkOk_by (N := nmCommon) (sc := defScope sCommon) (by decide +kernel)) (fun _ _ _ _ _ => pg_name (i := 2) scCommon.nd rfl (.inl rfl)) (fun _ _ _ _ _ => pts_one (pt_cmpR op_in_sign (pv 2) (pv 1) rfl)) (fun _ _ _ _ _ => pv 2)))), ?_⟩
    refine ⟨⟨_, rfl⟩, _, rfl, sS a, rfl, fun L hL => ?_⟩
    have el : (sS a).cps.size = a.length := List.size_toArray
    refine lc_map hL (β := Nat) (fun _ v b => v = cV b) (fun _ _ _ _ _ z => z) (walk_str (z := sS a)) (fun _ _ => trivial) (fun i => inter (a.take i) b) rfl (by rw [el]; exact Nat.lt_of_le_of_lt hl (by decide)) (fun i y Hc H' Post Skip hi sc hy k1 k2 => ?_) (fun H1 acc sl ha1 hp1 => ?_)
    · obtain ⟨rfl, c, hc, rfl⟩ := hy
      have e : a[i]? = some c := by
        have e2 : a.toArray[i]? = some c := hc
        simpa using e2
      refine ⟨rfl, _, rfl, _, rfl, c, sS b, rfl, rfl, _, rfl, ?_⟩
      rw [sS_cps]
      by_cases h : c ∈ b
      · rw [decide_eq_true h]
        refine iteT ⟨_, rfl, k1 _ _ c (Same.refl _) rfl ?_⟩
        rw [inter_snoc e, if_pos h]
      · rw [decide_eq_false h]
        refine iteF (k2 _ (Same.refl _) ?_)
        rw [inter_snoc e, if_neg h, List.append_nil]
    · rw [el, List.take_length] at hp1
      rw [paired_vals hp1] at ha1
      have il : (inter a b).length ≤ 127 := Nat.le_trans (List.length_filter_le _ _) hl
      refine ⟨_, L, (inter a b).map fun c => (⟨#[c]⟩ : Str), rfl, rfl, .inl (.inl (.inl (by rw [List.map_map]; exact ha1))), ?_, ?_⟩
      · rw [len_signs, List.length_map]
        show (inter a b).length + (inter a b).length * 0 ≤ 16777216
        omega
      · have ej : Txt.join ("" : Str) ((inter a b).map fun c => (⟨#[c]⟩ : Str)) = sS (inter a b) := join_signs _
        rw [show Txt.join _ ((inter a b).map fun c => (⟨#[c]⟩ : Str)) = sS (inter a b) from ej]
        exact q _ sl
def spMeet : Sp := fun vs H Q _ => ∃ (a b : List Nat), vs = [sV a, sV b] ∧ a.length ≤ 127 ∧ ∀ (k : Bool) H', Same H H' → (k = true ↔ inter a b ≠ []) → Q (.bl k) H'
theorem scMeet : FnScope nmCommon ["one", "other"] (defScope sMeet) := ⟨rfl, rfl, rfl, by decide +kernel, rfl, by decide +kernel, by decide +kernel⟩
theorem ok_meet {f : Addr} {fd : FuncData} (F : FnP K "meet" "meet" sMeet f fd) (B : Bi mg) : FnOk P w K mg base CX0 1 f fd ["one", "other"] spMeet := by
  refine F.okP scMeet (fun vs H Q E h => ?_) (fun cdv A outer s H vs Q E hr h => ?_)
  · obtain ⟨a, b, rfl, _⟩ := h
    rfl
  · obtain ⟨a, b, rfl, hl, q⟩ := h
    refine ⟨_, pss_one (ps_ret (pe_callB (cr_any rfl) (by rfl) B.any (by decide +kernel) (pa_cons (pe_lc (own := [("sign", 2)]) (g := gName 2) (tt := tYes) rfl scMeet.nd (pi_str (pv 0))
      (blkOk_by (N := nmCommon) (sc := defScope sMeet) (by decide +kernel)) (fun _ _ _ _ _ => pg_name (i := 2) scMeet.nd rfl (.inl rfl)) (fun _ _ _ _ _ => pts_nil) (fun _ _ _ _ _ => pe_cmpR op_in_sign (pv 2) (pv 1) rfl)) pa_nil))), ?_⟩
    refine ⟨_, rfl, sS a, rfl, fun L hL => ?_⟩
    have el : (sS a).cps.size = a.length := List.size_toArray
    refine lc_map hL (β := Bool) (fun _ v b => v = .bl b) (fun _ _ _ _ _ z => z) (walk_str (z := sS a)) (fun _ _ => trivial) (fun i => (a.take i).map fun c => decide (c ∈ b)) rfl (by rw [el]; exact Nat.lt_of_le_of_lt hl (by decide)) (fun i y Hc H' Post Skip hi sc hy k1 k2 => ?_) (fun H1 acc sl ha1 hp1 => ?_)
    · obtain ⟨rfl, c, hc, rfl⟩ := hy
      have e : a[i]? = some c := by
        have e2 : a.toArray[i]? = some c := hc
        simpa using e2
      refine ⟨rfl, _, rfl, _, rfl, c, sS b, rfl, rfl, k1 _ _ _ (Same.refl _) (by rw [sS_cps]) ?_⟩
      rw [List.take_succ, e, List.map_append]
      rfl
    · rw [el, List.take_length] at hp1
      rw [bls_of hp1] at ha1
      refine ⟨L, _, rfl, .inl (.inl ha1), q _ _ sl ?_⟩
      rw [List.any_eq_true]
      constructor
      · rintro ⟨k, hk, e⟩
        obtain ⟨c, hc, rfl⟩ := List.mem_map.mp hk
        exact List.ne_nil_of_mem (List.mem_filter.mpr ⟨hc, e⟩)
      · intro h
        obtain ⟨c, hc⟩ := List.exists_mem_of_ne_nil _ h
        obtain ⟨h1, h2⟩ := List.mem_filter.mp hc
        exact ⟨_, List.mem_map.mpr ⟨c, h1, rfl⟩, h2⟩
def spArePairs : Sp := fun vs H Q _ => ∃ (a : Addr) (pv : List V) (ps : List Pr) (m n : Nat), vs = [.ref a, nV m, nV n] ∧ H a = some (.lst pv) ∧ Paired (PrAt H) pv ps ∧ (∀ p ∈ ps, p.1 < m ∧ p.2 < n) ∧ Q (.bl true) H
abbrev nmArePairs : List Str := ["thing", "many", "more", "pair"]
theorem scArePairs : FnScope nmArePairs ["thing", "many", "more"] (defScope sArePairs) := ⟨rfl, rfl, rfl, by decide +kernel, rfl, by decide +kernel, by decide +kernel⟩
theorem ok_are_pairs {f f1 : Addr} {fd fd1 : FuncData} (F : FnP K "are_pairs" "are_pairs" sArePairs f fd) (B : Bi mg) (F1 : FnP K "is_count" "is_count" sIsCount f1 fd1) (g1 : mg "is_count" = some (.ref f1)) : FnOk P w K mg base CX0 2 f fd ["thing", "many", "more"] spArePairs := by
  have O1 : FnOk P w K mg base CX0 1 f1 fd1 ["thing"] spIsCount := ok_is_count F1 B
  have b1 : Binds K fd1 ["thing"] [] := F1.bindsN fun _ _ _ _ _ _ us hl => match us, hl with | [_], _ => rfl
  refine F.okP scArePairs (fun vs H Q E h => ?_) (fun cdv A outer s H vs Q E hr h => ?_)
  · obtain ⟨a, pv, ps, m, n, rfl, _⟩ := h
    rfl
  · obtain ⟨a, pl, ps, m, n, rfl, ha, hp, hin, q⟩ := h
    refine ⟨_, pss_cons (ps_if (pt_not (pt_val (pe_callB call_isi (by rfl) B.isinstance (by decide +kernel) (pa_cons (pv 0) (pa_cons (pe_bltn (v := .ty "list") (by rfl) B.list (by decide +kernel) rfl) pa_nil))))) (pss_one (ps_ret pe_bl)) pss_nil)
      (pss_cons (ps_for PassesOwn.never rfl (pi_list (pv 0)) (pg_name (i := 3) scArePairs.nd rfl (.inl rfl))
        (pss_cons (ps_if (PW.pt (pw_or (pt_not (pt_val (pe_callB call_isi (by rfl) B.isinstance (by decide +kernel) (pa_cons (pv 3) (pa_cons (pe_bltn (v := .ty "tuple") (by rfl) B.tuple (by decide +kernel) rfl) pa_nil)))))
          (pw_or (pt_cmpR op_ne (pe_callB call_len_seq (by rfl) B.len PySem.boot_len (pa_cons (pv 3) pa_nil)) pe_int (nomark _))
          (pw_or (pt_not (pt_val (pe_call O1 hr (by rfl) g1 F1.kp b1 .nil pass0 (pa_cons (pe_ix ix_tup (pv 3) pe_int (fun _ _ => rfl)) pa_nil))))
          (pw_or1 (pt_not (pt_val (pe_call O1 hr (by rfl) g1 F1.kp b1 .nil pass0 (pa_cons (pe_ix ix_tup (pv 3) pe_int (fun _ _ => rfl)) pa_nil))))))))) (pss_one (ps_ret pe_bl)) pss_nil)
        (pss_one (ps_if (PW.pt (pw_or (pt_cmpR op_ge (pe_ix ix_tup (pv 3) pe_int (fun _ _ => rfl)) (pv 1) (nomark _)) (pw_or1 (pt_cmpR op_ge (pe_ix ix_tup (pv 3) pe_int (fun _ _ => rfl)) (pv 2) (nomark _))))) (pss_one (ps_ret pe_bl)) pss_nil))))
      (pss_one (ps_ret pe_bl))), ?_⟩
    refine ⟨_, rfl, _, _, _, _, true, rfl, .ty "list", .base (.lst ha), kit_ty (by decide +kernel), true, rfl, ?_⟩
    refine iteF ⟨_, rfl, a, rfl, ⟨_, .inl (.inl ha)⟩, ?_⟩
    refine for_it (walk_list (xs := pl)) (fun i σ Hx => ∃ y3, σ = [some (.ref a), some (nV m), some (nV n), y3] ∧ Hx = H) ⟨none, rfl, rfl⟩ (fun _ _ _ _ ⟨_, _, e⟩ => by rw [e]; exact .inl (.inl ha)) ?_ ?_
    · rintro i v σ Hx Hx' hi ⟨y3, rfl, e0⟩ ⟨e1, hv⟩
      have e2 : Hx' = H := e1.trans e0
      clear e1 e0
      subst e2
      obtain ⟨⟨p, r⟩, e2, u, rfl, hu⟩ := paired_get hp hv
      obtain ⟨l1, l2⟩ := hin _ (List.mem_of_getElem? e2)
      refine ⟨_, rfl, _, _, _, _, true, rfl, .ty "tuple", .base (.tup hu), kit_ty (by decide +kernel), true, rfl, ?_⟩
      refine iteF ⟨_, rfl, u, _, rfl, .inr (.inl (.inl hu)), rfl, _, rfl, ?_⟩
      refine iteF ⟨_, rfl, u, _, 0, nV p, rfl, rfl, .inl (.inl hu), atI0 rfl, (p : Int), rfl, true, by rw [decide_eq_true (by omega)], ?_⟩
      refine iteF ⟨_, rfl, u, _, 1, nV r, rfl, rfl, .inl (.inl hu), atI_nat (j := 1) rfl, (r : Int), rfl, true, by rw [decide_eq_true (by omega)], ?_⟩
      refine iteF ⟨_, rfl, u, _, 0, nV p, rfl, rfl, .inl (.inl hu), atI0 rfl, _, rfl, _, _, rfl, rfl, false, ?_, ?_⟩
      · show V.bl (decide ((m : Int) ≤ (p : Int))) = _
        rw [decide_eq_false (by have : p < m := l1; omega)]
      refine iteF ⟨_, rfl, u, _, 1, nV r, rfl, rfl, .inl (.inl hu), atI_nat (j := 1) rfl, _, rfl, _, _, rfl, rfl, false, ?_, ?_⟩
      · show V.bl (decide ((n : Int) ≤ (r : Int))) = _
        rw [decide_eq_false (by have : r < n := l2; omega)]
      exact iteF ⟨_, rfl, rfl⟩
    · rintro σ Hx ⟨y3, rfl, rfl⟩
      exact q
end
end KM
/-! text KP4 -/
set_option Elab.async false
set_option linter.all false
set_option maxRecDepth 100000
set_option maxHeartbeats 4000000
/-! The product of two machines. -/
namespace KM
/-- one step with the other's steps -/
def prodOne (s : Stp) (ts : List Stp) : List TStp := ts.flatMap fun t => if inter s.2.1 t.2.1 = [] then [] else [((s.1, t.1), inter s.2.1 t.2.1, (s.2.2, t.2.2))]
def prodS (ss ts : List Stp) : List TStp := ss.flatMap fun s => prodOne s ts
def prodP (as bs : List Nat) : List Pr := as.flatMap fun a => bs.map fun b => (a, b)
theorem mem_prodP {as bs : List Nat} {p : Pr} : p ∈ prodP as bs ↔ p.1 ∈ as ∧ p.2 ∈ bs := by
  unfold prodP
  rw [List.mem_flatMap]
  constructor
  · rintro ⟨a, ha, h⟩
    obtain ⟨b, hb, rfl⟩ := List.mem_map.mp h
    exact ⟨ha, hb⟩
  · rintro ⟨h1, h2⟩
    exact ⟨p.1, h1, List.mem_map.mpr ⟨p.2, h2, rfl⟩⟩
theorem mem_prodS {ss ts : List Stp} {p q : Pr} {sg : List Nat} : (p, sg, q) ∈ prodS ss ts ↔ ∃ a b, (p.1, a, q.1) ∈ ss ∧ (p.2, b, q.2) ∈ ts ∧ sg = inter a b ∧ sg ≠ [] := by
  unfold prodS prodOne
  rw [List.mem_flatMap]
  constructor
  · rintro ⟨⟨x, a, y⟩, hs, h⟩
    obtain ⟨⟨z, b, w⟩, ht, h⟩ := List.mem_flatMap.mp h
    by_cases e : inter a b = []
    · simp only [e, if_true] at h
      cases h
    · simp only [e, if_false, List.mem_singleton] at h
      cases h
      exact ⟨a, b, hs, ht, rfl, e⟩
  · rintro ⟨a, b, h1, h2, rfl, h3⟩
    refine ⟨_, h1, List.mem_flatMap.mpr ⟨_, h2, ?_⟩⟩
    simp only [h3, if_false, List.mem_singleton]
theorem prodP_nd {as bs : List Nat} (ha : as.Nodup) (hb : bs.Nodup) : (prodP as bs).Nodup := by
  unfold prodP
  induction as with
  | nil => exact .nil
  | cons a as ih =>
    rw [List.nodup_cons] at ha
    rw [List.flatMap_cons, List.nodup_append]
    refine ⟨nodup_map (f := fun b => (a, b)) (fun x y e => (Prod.mk.inj e).2) hb, ih ha.2, fun x hx y hy e => ?_⟩
    obtain ⟨b, _, rfl⟩ := List.mem_map.mp hx
    subst e
    exact ha.1 (mem_prodP.mp hy).1
theorem prodP_len (as bs : List Nat) : (prodP as bs).length = as.length * bs.length := by
  unfold prodP
  induction as with
  | nil => simp
  | cons a as ih => rw [List.flatMap_cons, List.length_append, List.length_map, ih, List.length_cons, Nat.add_mul, Nat.one_mul, Nat.add_comm]
theorem prodOne_len (s : Stp) (ts : List Stp) : (prodOne s ts).length ≤ ts.length := by
  unfold prodOne
  induction ts with
  | nil => exact Nat.le_refl _
  | cons t ts ih =>
    rw [List.flatMap_cons, List.length_append, List.length_cons]
    by_cases e : inter s.2.1 t.2.1 = []
    · rw [if_pos e, List.length_nil]
      omega
    · rw [if_neg e, List.length_singleton]
      omega
theorem prodS_len (ss ts : List Stp) : (prodS ss ts).length ≤ ss.length * ts.length := by
  unfold prodS
  induction ss with
  | nil => simp
  | cons s ss ih =>
    rw [List.flatMap_cons, List.length_append, List.length_cons, Nat.add_mul, Nat.one_mul]
    have := prodOne_len s ts
    omega
theorem inter_ok {a b : List Nat} (h : SgOk a) (n : inter a b ≠ []) : SgOk (inter a b) := ⟨n, h.rise.sublist List.filter_sublist, fun c hc => h.ok c (List.mem_filter.mp hc).1⟩
theorem prodS_uniq {ss ts : List Stp} (hs : (ss.map fun s => (s.1, s.2.2)).Nodup) (ht : (ts.map fun s => (s.1, s.2.2)).Nodup) : ((prodS ss ts).map tkey).Nodup := by
  unfold prodS
  induction ss with
  | nil => exact .nil
  | cons s ss ih =>
    rw [List.map_cons, List.nodup_cons] at hs
    rw [List.flatMap_cons, List.map_append, List.nodup_append]
    refine ⟨?_, ih hs.2, fun x hx y hy e => ?_⟩
    · clear ih hs
      unfold prodOne
      induction ts with
      | nil => exact .nil
      | cons t ts ih =>
        rw [List.map_cons, List.nodup_cons] at ht
        rw [List.flatMap_cons, List.map_append]
        by_cases e : inter s.2.1 t.2.1 = []
        · rw [if_pos e]
          exact ih ht.2
        · rw [if_neg e, List.nodup_append]
          refine ⟨by simp, ih ht.2, fun x hx y hy q => ?_⟩
          have ex : x = ((s.1, t.1), (s.2.2, t.2.2)) := by simpa [tkey] using hx
          obtain ⟨z, hz, rfl⟩ := List.mem_map.mp hy
          obtain ⟨t', ht', hz⟩ := List.mem_flatMap.mp hz
          by_cases e' : inter s.2.1 t'.2.1 = []
          · rw [if_pos e'] at hz
            cases hz
          · rw [if_neg e', List.mem_singleton] at hz
            subst hz
            rw [ex] at q
            have q1 := (Prod.mk.inj q).1
            have q2 := (Prod.mk.inj q).2
            exact ht.1 (List.mem_map.mpr ⟨t', ht', Prod.ext (Prod.mk.inj q1).2.symm (Prod.mk.inj q2).2.symm⟩)
    · obtain ⟨⟨p, sg, q⟩, hz, rfl⟩ := List.mem_map.mp hx
      obtain ⟨⟨p', sg', q'⟩, hz', rfl⟩ := List.mem_map.mp hy
      have a1 : p.1 = s.1 ∧ q.1 = s.2.2 := by
        obtain ⟨t, _, h⟩ := List.mem_flatMap.mp hz
        by_cases e' : inter s.2.1 t.2.1 = []
        · rw [if_pos e'] at h
          cases h
        · rw [if_neg e', List.mem_singleton] at h
          cases h
          exact ⟨rfl, rfl⟩
      obtain ⟨a, b, h1, _⟩ := mem_prodS.mp (show (p', sg', q') ∈ prodS ss ts from hz')
      have e1 : p = p' := (Prod.mk.inj e).1
      have e2 : q = q' := (Prod.mk.inj e).2
      exact hs.1 (List.mem_map.mpr ⟨_, h1, Prod.ext (by show p'.1 = s.1; rw [← e1]; exact a1.1) (by show q'.1 = s.2.2; rw [← e2]; exact a1.2)⟩)
theorem prodS_ok {M N : Mch} (wm : M.WF) (wn : N.WF) (hl : M.steps.length * N.steps.length ≤ 1000) : TStpsOk (prodS M.steps N.steps) := by
  refine ⟨prodS_uniq wm.st.uniq wn.st.uniq, fun ⟨p, sg, q⟩ hs => ?_, Nat.le_trans (prodS_len _ _) hl⟩
  obtain ⟨a, b, h1, _, rfl, h3⟩ := mem_prodS.mp hs
  exact inter_ok (wm.st.each _ h1).sg h3
/-- the product's paths -/
theorem path_prod {ss ts : List Stp} : ∀ {w : List Nat} {p q : Pr}, Path (prodS ss ts) p w q ↔ Path ss p.1 w q.1 ∧ Path ts p.2 w q.2
  | [], p, q => by
    rw [path_nil_iff, path_nil_iff, path_nil_iff]
    exact ⟨fun e => by rw [e]; exact ⟨rfl, rfl⟩, fun h => Prod.ext h.1 h.2⟩
  | c :: w, p, q => by
    rw [path_cons_iff, path_cons_iff, path_cons_iff]
    constructor
    · rintro ⟨sg, z, h1, h2, h3⟩
      obtain ⟨a, b, ha, hb, rfl, _⟩ := mem_prodS.mp h1
      obtain ⟨m1, m2⟩ := List.mem_filter.mp h2
      obtain ⟨p1, p2⟩ := path_prod.mp h3
      exact ⟨⟨a, z.1, ha, m1, p1⟩, ⟨b, z.2, hb, of_decide_eq_true m2, p2⟩⟩
    · rintro ⟨⟨a, x, ha, ca, pa⟩, ⟨b, y, hb, cb, pb⟩⟩
      have hc : c ∈ inter a b := List.mem_filter.mpr ⟨ca, decide_eq_true cb⟩
      exact ⟨inter a b, (x, y), mem_prodS.mpr ⟨a, b, ha, hb, rfl, List.ne_nil_of_mem hc⟩, hc, path_prod.mpr ⟨pa, pb⟩⟩
theorem acc_prod {M N : Mch} {w : List Nat} : Acc (prodP M.begins N.begins) (prodS M.steps N.steps) (prodP M.ends N.ends) w ↔ M.Acc w ∧ N.Acc w := by
  constructor
  · rintro ⟨p, hp, q, hq, pa⟩
    obtain ⟨a, b⟩ := path_prod.mp pa
    exact ⟨⟨p.1, (mem_prodP.mp hp).1, q.1, (mem_prodP.mp hq).1, a⟩, ⟨p.2, (mem_prodP.mp hp).2, q.2, (mem_prodP.mp hq).2, b⟩⟩
  · rintro ⟨⟨p, hp, q, hq, pa⟩, ⟨p', hp', q', hq', pb⟩⟩
    exact ⟨(p, p'), mem_prodP.mpr ⟨hp, hp'⟩, (q, q'), mem_prodP.mpr ⟨hq, hq'⟩, path_prod.mpr ⟨pa, pb⟩⟩
/-- the steps that leave from what is reached suffice, and the ends that are reached -/
structure Cut (M N : Mch) (R : List Pr) (ss : List TStp) (bad : List Pr) : Prop where
  re : ∀ p, p ∈ R ↔ Reach (prodP M.begins N.begins) (fwd (prodS M.steps N.steps)) p
  st : ∀ p sg q, (p, sg, q) ∈ ss ↔ p ∈ R ∧ (p, sg, q) ∈ prodS M.steps N.steps
  bd : ∀ p, p ∈ bad ↔ p ∈ R ∧ p ∈ prodP M.ends N.ends
theorem Cut.path {M N : Mch} {R : List Pr} {ss : List TStp} {bad : List Pr} (c : Cut M N R ss bad) : ∀ {w : List Nat} {p q : Pr}, p ∈ R → (Path ss p w q ↔ Path (prodS M.steps N.steps) p w q)
  | [], p, q, _ => by rw [path_nil_iff, path_nil_iff]
  | d :: w, p, q, hp => by
    rw [path_cons_iff, path_cons_iff]
    have nx : ∀ sg z, (p, sg, z) ∈ prodS M.steps N.steps → z ∈ R := fun sg z h => (c.re z).mpr (.step ((c.re p).mp hp) (mem_fwd.mpr ⟨sg, h⟩))
    constructor
    · rintro ⟨sg, z, h1, h2, h3⟩
      have h1' := ((c.st p sg z).mp h1).2
      exact ⟨sg, z, h1', h2, (c.path (nx sg z h1')).mp h3⟩
    · rintro ⟨sg, z, h1, h2, h3⟩
      exact ⟨sg, z, (c.st p sg z).mpr ⟨hp, h1⟩, h2, (c.path (nx sg z h1)).mpr h3⟩
theorem Cut.inR {M N : Mch} {R : List Pr} {ss : List TStp} {bad : List Pr} (c : Cut M N R ss bad) : ∀ {w : List Nat} {p q : Pr}, p ∈ R → Path (prodS M.steps N.steps) p w q → q ∈ R
  | [], p, q, hp, h => by cases h; exact hp
  | d :: w, p, q, hp, h => by
    obtain ⟨sg, z, h1, h2, h3⟩ := path_cons_iff.mp h
    exact c.inR ((c.re z).mpr (.step ((c.re p).mp hp) (mem_fwd.mpr ⟨sg, h1⟩))) h3
theorem Cut.acc {M N : Mch} {R : List Pr} {ss : List TStp} {bad : List Pr} (c : Cut M N R ss bad) (w : List Nat) : Acc (prodP M.begins N.begins) ss bad w ↔ M.Acc w ∧ N.Acc w := by
  rw [← acc_prod]
  constructor
  · rintro ⟨p, hp, q, hq, pa⟩
    have pR : p ∈ R := (c.re p).mpr (.base hp)
    exact ⟨p, hp, q, ((c.bd q).mp hq).2, (c.path pR).mp pa⟩
  · rintro ⟨p, hp, q, hq, pa⟩
    have pR : p ∈ R := (c.re p).mpr (.base hp)
    exact ⟨p, hp, q, (c.bd q).mpr ⟨c.inR pR pa, hq⟩, (c.path pR).mpr pa⟩
/-- a paper that shows the two apart -/
structure Paper (M N : Mch) (ps : List Pr) : Prop where
  beg : ∀ p ∈ M.begins, ∀ q ∈ N.begins, (p, q) ∈ ps
  fin : ∀ p ∈ ps, ¬ (p.1 ∈ M.ends ∧ p.2 ∈ N.ends)
  clos : ∀ p ∈ ps, ∀ a p', (a, p') ∈ M.onw p.1 → ∀ b q', (b, q') ∈ N.onw p.2 → inter a b ≠ [] → (p', q') ∈ ps
theorem Paper.stay {M N : Mch} {ps : List Pr} (c : Paper M N ps) : ∀ {w : List Nat} {p q : Pr}, p ∈ ps → Path (prodS M.steps N.steps) p w q → q ∈ ps
  | [], p, q, hp, h => by cases h; exact hp
  | d :: w, p, q, hp, h => by
    obtain ⟨sg, z, h1, h2, h3⟩ := path_cons_iff.mp h
    obtain ⟨a, b, ha, hb, rfl, hn⟩ := mem_prodS.mp h1
    exact c.stay (c.clos p hp a z.1 (mem_onw.mpr ha) b z.2 (mem_onw.mpr hb) hn) h3
/-- where there is such a paper, no word is of both -/
theorem Paper.none {M N : Mch} {ps : List Pr} (c : Paper M N ps) (w : List Nat) : ¬ (M.Acc w ∧ N.Acc w) := fun h => by
  obtain ⟨p, hp, q, hq, pa⟩ := acc_prod.mpr h
  exact c.fin q (c.stay (c.beg p.1 (mem_prodP.mp hp).1 p.2 (mem_prodP.mp hp).2) pa) (mem_prodP.mp hq)
/-- what is reached is one, when no end is among it -/
theorem Cut.paper {M N : Mch} {R : List Pr} {ss : List TStp} (c : Cut M N R ss []) {ps : List Pr} (hp : ∀ p, p ∈ ps ↔ p ∈ R) : Paper M N ps := by
  refine ⟨fun p h q h' => (hp _).mpr ((c.re _).mpr (.base (mem_prodP.mpr ⟨h, h'⟩))), fun p h e => ?_, fun p h a p' ha b q' hb n => ?_⟩
  · have := (c.bd p).mpr ⟨(hp p).mp h, mem_prodP.mpr e⟩
    cases this
  · refine (hp _).mpr ((c.re _).mpr (.step ((c.re p).mp ((hp p).mp h)) (mem_fwd.mpr ⟨inter a b, mem_prodS.mpr ⟨a, b, mem_onw.mp ha, mem_onw.mp hb, rfl, n⟩⟩)))
end KM
/-! text KCL -/
set_option Elab.async false
set_option linter.all false
set_option maxRecDepth 100000
set_option maxHeartbeats 4000000
/-! A nested def handed to a def of the text, which calls it. -/
namespace KM
open PySem PySem.Spec PyProof.Rows L2 NdefX LamX
/-- the promise of a def that is handed a nested def: cl its captured cells, ws what they hold -/
structure FnOkC (P : Program) (w : World) (K : PySem.W.Frag) (mg : Str → Option Value) (base : Heap) (CX : CXT) (k : Nat) (f : Addr) (fd : FuncData) (ps fr : List Str) (sp : List (Str × Addr) → List (Option V) → Sp) : Prop where
  len : ∀ cl ws vs H Q E, sp cl ws vs H Q E → vs.length = ps.length
  run : ∀ (cl : List (Str × Addr)) (ws : List (Option V)) (A : Around) (outer : List Env) (s : Shared) (H : Hp) (args : Args) (us : List Value) (vs : List V) (Q : VK) (E : XK), Room k A → Env0 P w K mg base A outer s H → BindsTo s fd args (ps.zip us) → Vals vs us →
    CellsAt cl fr ws s.heap H → (∀ y c, cl.lookup y = some c → c ∉ frs outer) → sp cl ws vs H Q E → codeAny (model P w) A (.call (.ref f) args) (CR CX outer P w H s Q E) s
section
variable {P : Program} {w : World} {K : PySem.W.Frag} {mg : Str → Option Value} {base : Heap}
theorem fnc_of {CX : CXT} {x qual : Str} {params : Arguments} {body : List Stmt} {scope : Scope} {dvs : List V} {kws : List (Str × V)} {f : Addr} {fd : FuncData} {N ps fr : List Str} {k : Nat} {sp : List (Str × Addr) → List (Option V) → Sp} (F : FunD K x qual params body scope dvs kws f fd) (S : FnScope N ps scope)
    (len : ∀ cl ws vs H Q E, sp cl ws vs H Q E → vs.length = ps.length)
    (hbody : ∀ (cl : List (Str × Addr)) (ws : List (Option V)) (cdv : Value) (A : Around) (outer : List Env) (s : Shared) (H : Hp) (vs : List V) (Q : VK) (E : XK), Room k (A.deeper (envOfC qual scope s.heap.objs.size f cdv)) → CellsAt cl fr ws s.heap H → (∀ y c, cl.lookup y = some c → c ∉ frs outer) → sp cl ws vs H Q E →
      ∃ t, PSs (cxOf CX P w K mg base N qual scope f cdv A outer s H E) body t ∧ t { nx := fun _ H' => Q .non H', rt := Q } (start N vs) H) : FnOkC P w K mg base CX (k + 1) f fd ps fr sp := by
  obtain ⟨oc, od, dV, kV, doc, pm, an, cdv, ct, osl, rfl, lk, hcd, _, _⟩ := F.ex
  refine ⟨len, fun cl ws A outer s H args us vs Q E hr e0 hb r hcl hnf hsp => ?_⟩
  -- the plain rule, asked at this entry alone
  have KX : K.In s.heap := e0.mod.kin.keeps fun b o e => (e0.bs b o e).1
  have lim : s.heap.NoLimit := e0.mod.nolimit.keeps fun b o e => (e0.bs b o e).1
  have hpar : ∀ y ∈ ps.zip us, scope.names.lookup y.1 = some .local ∨ (scope.names.lookup y.1 = some .cell ∧ ((cellsFrom (s.heap.objs.size + 1) scope.names []).lookup y.1).isSome = true) := fun ⟨n, _⟩ hy =>
    (S.par n (List.of_mem_zip hy).1).elim .inl fun q => .inr ⟨q, PySem.W.cellsFrom_some _ _ _ (.inl q)⟩
  refine codeAny_call_function hr.depth (KX _ _ lk) rfl S.co S.gen rfl (PySem.W.codeRec_of KX hcd) (hb _ _ _ _ (wpAny_newFunctionEnv_cells S.kind hpar fun env he s1 x => ?_))
  subst he
  obtain ⟨t, ht, hq⟩ := hbody cl ws cdv A outer s H vs Q E (hr.deeper _) hcl hnf hsp
  have I : Inv (cxOf CX P w K mg base N qual scope f cdv A outer s H E) [] (start N vs) H s1 := inv_start S hr.hd e0 (len _ _ _ _ _ _ hsp) r x
  refine ⟨lim.keeps x.toInCall.keep, codeAny_func (wpAny_mono (ht.run [] s1 _ H _ I hq) (fun fl s' hs => ?_) fun e s' hs => hs)⟩
  cases fl with
  | ret u =>
    obtain ⟨v, _, H', J, rv, q⟩ := hs
    exact ⟨v, H', J.os, J.bare, J.base, J.hok, rv, q⟩
  | next =>
    obtain ⟨_, H', J, q⟩ := hs
    exact ⟨V.non, H', J.os, J.bare, J.base, J.hok, rfl, q⟩
  | brk =>
    obtain ⟨_, _, _, q⟩ := hs
    exact q.elim
  | cont =>
    obtain ⟨_, _, _, q⟩ := hs
    exact q.elim
end
theorem funs_lt {h base : Heap} : ∀ {l : List Env}, h.FunFrames base l → ∀ b ∈ frs l, b < h.objs.size
  | [], _, b, hb => by cases hb
  | env :: r, ⟨_, ⟨L, o, hf, _, ho, _⟩, hr⟩, b, hb => by
    unfold frs at hb
    rw [List.filterMap_cons, hf] at hb
    rcases List.mem_cons.mp hb with e | hb
    · rw [e]
      exact Heap.lt_size ho
    · exact funs_lt hr b hb
section
variable {X : Cx}
/-- the call of such a def by the def that made the nested one -/
def tCallC (cl : List (Str × Addr)) (js : List Nat) (sp : List (Str × Addr) → List (Option V) → Sp) (E : XK) (t : TA) : TE := fun σ H Q => t σ H fun vs H1 => sp cl (js.map (slotAt σ)) vs H1 Q E
theorem pe_callC {CX : CXT} {k : Nat} {f : Addr} {fd : FuncData} {ps fr : List Str} {sp : List (Str × Addr) → List (Option V) → Sp} {cl : List (Str × Addr)} {js : List Nat} {x : Str} {E : XK} {t : TA} {e : Expr} {es : List Expr} {p pos : Pos} (F : FnOkC X.prog X.w X.K X.mg X.base CX k f fd ps fr sp) (cp : X.Ok → Caps X cl fr js)
    (hfn : ∀ y, X.fn y = true) (hr : Room k X.A) (hg : Gl X x) (hm : X.mg x = some (.ref f)) (hk : PySem.W.keepIn X.K (.ref f) = true) (hb : Binds X.K fd ps []) (hx : Passes CX X E)
    (ha : PA X (e :: es) t) (hdb : (x == ("__debug__" : Str)) = false := by decide) (he : starEach (e :: es) X.env = (false, eval e X.env) :: starEach es X.env := by rfl) (hpl : (backTo pos (starEach es X.env)).any (·.1) = false := by rfl) :
    PE X (.Call (.Name x p) (e :: es) [] pos) (tCallC cl js sp E t) := by
  refine ⟨fun pins s σ H Q I h => ?_⟩
  refine wpAny_Call_Name_kw (ld_glob I hg hm ?_ hdb)
  refine PySem.W.callWith_K (h₀ := X.base) I.ok.mod.kin hk (thn (ha.run pos pins s σ H _ I h) fun us s1 ⟨vs, H1, I1, r, q⟩ => ⟨I1.kIn, ?_⟩) he hpl
  have hl : (us ++ []).length = ps.length := by rw [List.append_nil, ← r.length]; exact F.len _ _ _ _ _ _ q
  have r2 : Vals vs (us ++ []) := by rw [List.append_nil]; exact r
  have hnf : ∀ y c, cl.lookup y = some c → c ∉ frs X.stack := fun y c hc hm => by
    have hX := (cp I1.ok).sub y c hc
    have ge := I1.ok.cab y c (hfn y) hX
    rcases List.mem_cons.mp (I1.stkSub c hm) with e | e
    · exact I1.cne y c hX e
    · exact absurd (funs_lt I1.ok.funs c e) (Nat.not_lt.mpr ge)
  refine wpAny_call (codeAny_mono (F.run cl _ X.A X.stack s1 H1 ⟨us, []⟩ (us ++ []) vs Q E hr I1.env0 (hb s1 us I1.kIn hl) r2 (cells_of I1 (cp I1.ok)) hnf q) fun r s' hq => ?_)
  cases r with
  | error e => exact hx pins σ H1 s1 e s' I1 hq
  | ok fl =>
    cases fl with
    | ret u => exact I1.after hq
    | next => exact False.elim hq
    | brk => exact False.elim hq
    | cont => exact False.elim hq
/-- the call of the nested def by the def that was handed it (in slot i) -/
def tCallF (mk : Addr → NF) (i : Nat) (ws : List (Option V)) (sp : Addr → Addr → List (Option V) → Sp) (E : XK) (t : TA) : TE := fun σ H Q => ∃ f c', σ[i]? = some (some (.ref f)) ∧ H f = some (FnO f (mk c')) ∧
  t σ H fun vs H1 => H1 f = some (FnO f (mk c')) ∧ H1 (mk c').c = some (CodeO (mk c').c (mk c').qual) ∧ sp f c' ws vs H1 Q E
theorem pe_callF {CX : CXT} {mk : Addr → NF} {cl : List (Str × Addr)} {ps fr : List Str} {ws : List (Option V)} {i j k : Nat} {x : Str} {sp : Addr → Addr → List (Option V) → Sp} {E : XK} {t : TA} {e : Expr} {es : List Expr} {p pos : Pos} (Fn : ∀ f c', NOk X.prog X.w X.K X.mg X.base CX k f (mk c') ps fr (sp f c')) (hcl : ∀ c', (mk c').cl = cl)
    (C : CellsAt cl fr ws X.s_0.heap X.H_0) (nf : ∀ y c, cl.lookup y = some c → c ∉ X.fs) (nx : ∀ y c, cl.lookup y = some c → c ∉ X.ex) (hr : Room j X.A) (hk : k ≤ j) (hx : Passes CX X E) (hN : X.N[i]? = some x) (hv : Vis X.env.scope x) (ha : PA X (e :: es) t)
    (hd : (x == ("__debug__" : Str)) = false := by decide) (hcd : (x == ("__classdict__" : Str)) = false := by decide)
    (he : starEach (e :: es) X.env = (false, eval e X.env) :: starEach es X.env := by rfl) (hpl : (backTo pos (starEach es X.env)).any (·.1) = false := by rfl) :
    PE X (.Call (.Name x p) (e :: es) [] pos) (tCallF mk i ws sp E t) := by
  refine ⟨fun pins s σ H Q I h => ?_⟩
  obtain ⟨f, c', hs, hf, ht⟩ := h
  refine wpAny_Call_Name_kw (thn ((pe_var (pos := p) hN hv hd hcd).run pins s σ H (fun v H1 => v = .ref f ∧ H1 = H) I ⟨.ref f, hs, rfl, rfl⟩) fun u s1 ⟨v, H1, I1, r1, ev, eH⟩ => ?_)
  subst ev
  rw [eH] at I1
  obtain rfl : u = Value.ref f := r1
  refine PySem.W.callWith_F (first := []) (fnAt_of I1 hf) (thn (ha.run pos pins s1 σ H _ I1 ht) fun us s2 ⟨vs, H2, I2, r, h1, h2, q⟩ => ⟨fnAt_of I2 h1, ?_⟩) he hpl
  show wpAny _ _ (call (.ref f) us) _ _ _
  have C2 : CellsAt (mk c').cl fr ws s2.heap H2 := by
    rw [hcl c']
    exact C.later nf nx I2
  refine wpAny_call (codeAny_mono ((Fn f c').run X.A X.stack s2 H2 us vs ws Q E (hr.mono hk) I2.env0 h1 h2 C2 r q) fun r s' hq => ?_)
  cases r with
  | error e => exact hx pins σ H2 s2 e s' I2 hq
  | ok fl =>
    cases fl with
    | ret u => exact I2.after hq
    | next => exact False.elim hq
    | brk => exact False.elim hq
    | cont => exact False.elim hq
end
end KM
/-! text KW20 -/
set_option Elab.async false
set_option linter.all false
set_option maxRecDepth 100000
set_option maxHeartbeats 4000000
namespace KM
open PySem PySem.Spec PyProof.Rows L2
theorem prodS_snoc {ss ts : List Stp} {i : Nat} {s : Stp} (h : ss[i]? = some s) : prodS (ss.take (i + 1)) ts = prodS (ss.take i) ts ++ prodOne s ts := by
  unfold prodS
  rw [List.take_succ, h, List.flatMap_append]
  show _ ++ [s].flatMap _ = _
  rw [List.flatMap_singleton]
theorem prodOne_snoc {s : Stp} {ts : List Stp} {j : Nat} {t : Stp} (h : ts[j]? = some t) : prodOne s (ts.take (j + 1)) = prodOne s (ts.take j) ++ (if inter s.2.1 t.2.1 = [] then [] else [((s.1, t.1), inter s.2.1 t.2.1, (s.2.2, t.2.2))]) := by
  unfold prodOne
  rw [List.take_succ, h, List.flatMap_append]
  show _ ++ [t].flatMap _ = _
  rw [List.flatMap_singleton]
theorem prodP_snoc {as bs : List Nat} {i a : Nat} (h : as[i]? = some a) : prodP (as.take (i + 1)) bs = prodP (as.take i) bs ++ bs.map fun b => (a, b) := by
  unfold prodP
  rw [List.take_succ, h, List.flatMap_append]
  show _ ++ [a].flatMap _ = _
  rw [List.flatMap_singleton]
section
variable {P : Program} {w : World} {K : PySem.W.Frag} {mg : Str → Option Value} {base : Heap}
/-- the reading of [(a, b) for a in one.x for b in other.y] -/
theorem pairs_map {tx ty : Addr} {as bs : List Nat} {vs vs1 : List Nat} {σ : L2.St} {H1 : Hp} {D : Addr} {Qd : Hp → Prop} {i1 i2 : Nat} {wi1 : TI} {te : TE} (hD : H1 D = none) (hx : SqT K H1 tx (as.map nV)) (hy : H1 ty = some (.tup (bs.map nV))) (hx' : H1 tx = some (.tup (as.map nV))) (hla : as.length ≤ 1000) (hlb : bs.length ≤ 1000)
    (hin : ∀ (v : V) (H : Hp) (Q : It → Hp → Prop), Same H1 H → Q (Itt K ty) H → wi1 ((wipe σ vs).set i1 (some v)) H Q)
    (hw : ∀ v, wipe ((wipe σ vs).set i1 (some v)) vs = wipe σ vs) (hw1 : ∀ v v', wipe ((wipe ((wipe σ vs).set i1 (some v)) vs1).set i2 (some v')) vs1 = wipe ((wipe σ vs).set i1 (some v)) vs1)
    (hte : ∀ (a b : Nat) (H : Hp) (Q : VK), (∀ t, H t = none → Q (.ref t) (upd H t (.tup [nV a, nV b]))) → te ((wipe ((wipe σ vs).set i1 (some (nV a))) vs1).set i2 (some (nV b))) H Q)
    (hd : ∀ (H' : Hp) (acc : List V), Same H1 H' → H' D = some (.lst acc) → Paired (PrAt H') acc (prodP as bs) → Qd H') :
    ∃ W : Nat → Nat → Hp → Prop, (∃ m, W 0 m (upd H1 D (.lst []))) ∧ ∀ i m H, W i m H →
      ((Itt K tx).stop i H ∧ Qd H) ∨ ((Itt K tx).go i H ∧ ∃ Nx : Hp → Prop, (∀ H', Nx H' → ∃ m', m' < m ∧ W (i + 1) m' H') ∧ ∀ x H', (Itt K tx).yld i H x H' → gName i1 x (wipe σ vs) H' fun σ2 H2 => wipe σ2 vs = wipe σ vs ∧ tYes σ2 H2 fun b H3 =>
        if b = true then wi1 σ2 H3 fun J1 H4 => ∃ W1 : Nat → Nat → Hp → Prop, (∃ m, W1 0 m H4) ∧ ∀ j k H, W1 j k H →
          (J1.stop j H ∧ Nx H) ∨ (J1.go j H ∧ ∃ Nx1 : Hp → Prop, (∀ H', Nx1 H' → ∃ k', k' < k ∧ W1 (j + 1) k' H') ∧ ∀ x H', J1.yld j H x H' → gName i2 x (wipe σ2 vs1) H' fun σ3 H5 => wipe σ3 vs1 = wipe σ2 vs1 ∧ tYes σ3 H5 fun b H6 =>
            if b = true then te σ3 H6 fun y H7 => ∃ acc, H7 D = some (.lst acc) ∧ acc.length < sizeLine ∧ Nx1 (upd H7 D (.lst (acc ++ [y]))) else Nx1 H6)
        else Nx H3) := by
  refine lc2_map hD PrAt (fun _ _ _ _ e r => r.mono e) (walk_tup (xs := as.map nV)) (fun _ s1 => .inl (.inl (s1 _ _ hx'))) (fun i => prodP (as.take i) bs) rfl (fun i y Hc H' Go Skip hi sc hy2 go skip => ?_) (fun H' acc s1 ha hp => hd H' acc s1 ha (by rw [List.length_map, List.take_length] at hp; exact hp))
  obtain ⟨rfl, hy2⟩ := hy2
  rw [List.getElem?_map] at hy2
  cases hp : as[i]? with
  | none => rw [hp] at hy2; cases hy2
  | some a =>
    rw [hp] at hy2
    cases hy2
    refine ⟨hw _, ?_⟩
    show wi1 _ H' (Go _)
    have wk : Walk (Itt K ty) bs.length (fun H => SqT K H ty (bs.map nV)) (YAt (bs.map nV)) := by
      have := walk_tup (K := K) (a := ty) (xs := bs.map nV)
      rw [List.length_map] at this
      exact this
    refine hin _ _ _ sc (go _ _ _ (Same.refl _) ⟨bs.length, fun H => SqT K H ty (bs.map nV), YAt (bs.map nV), fun j => prodP (as.take i) bs ++ (bs.take j).map fun b => (a, b), wk, fun Hd sd _ => .inl (.inl (sd _ _ hy)), by simp, ?_, fun j y Hd Hd' Post Skip hj sd td hv k1 k2 => ?_⟩)
    · show prodP (as.take i) bs ++ (bs.take bs.length).map (fun b => (a, b)) = _
      rw [prodP_snoc hp, List.take_length]
    obtain ⟨rfl, hv⟩ := hv
    rw [List.getElem?_map] at hv
    cases hq : bs[j]? with
    | none => rw [hq] at hv; cases hv
    | some b =>
      rw [hq] at hv
      cases hv
      refine ⟨hw1 _ _, ?_⟩
      show te _ _ Post
      refine hte a b _ _ fun t ht => k1 _ _ (a, b) (same_upd ht) ⟨t, rfl, upd_same⟩ ?_ ?_
      · show prodP (as.take i) bs ++ (bs.take (j + 1)).map (fun b => (a, b)) = (prodP (as.take i) bs ++ (bs.take j).map fun b => (a, b)) ++ [(a, b)]
        rw [List.take_succ, hq, List.map_append, List.append_assoc]
        rfl
      · rw [List.length_append, prodP_len, List.length_map, List.length_take, List.length_take]
        have l1 : min i as.length ≤ 1000 := Nat.le_trans (Nat.min_le_right _ _) hla
        have l2 : min j bs.length ≤ 1000 := Nat.le_trans (Nat.min_le_right _ _) hlb
        have := Nat.mul_le_mul l1 hlb
        have : (1000 * 1000 + 1000 : Nat) < sizeLine := by decide
        omega
def spBoth (C : Addr) : Sp := fun vs H Q _ => ∃ (x y : Addr) (M N : Mch), vs = [.ref x, .ref y] ∧ MachAt C H x M ∧ MachAt C H y N ∧ M.WF ∧ N.WF ∧ M.begins.length * N.begins.length + M.steps.length * N.steps.length ≤ 1000 ∧ M.ends.length * N.ends.length + M.steps.length * N.steps.length ≤ 1000 ∧
  ∀ (z : Addr) (R : Mch) H', Same H H' → MachAt C H' z R → Asm (prodP M.begins N.begins) (prodS M.steps N.steps) (prodP M.ends N.ends) R → Q (.ref z) H'
abbrev nmBoth : List Str := ["one", "other", "steps", "place", "signs", "place_behind", "there", "more", "there_behind", "common", "begins", "sign"]
theorem scBoth : FnScope nmBoth ["one", "other"] (defScope sBoth) := ⟨rfl, rfl, rfl, by decide +kernel, rfl, by decide +kernel, by decide +kernel⟩
theorem ok_both {C f fi f1 : Addr} {fd fd1 : FuncData} (F : FnP K "both" "both" sBoth f fd) (B : Bi mg) (T : MC K mg C fi) (F1 : FnP K "assembled" "assembled" sAssembled f1 fd1) (g1 : mg "assembled" = some (.ref f1))
    (O1 : FnOk P w K mg base CX0 7 f1 fd1 ["begins", "steps", "ends"] (spAssembled C)) : FnOk P w K mg base CX0 8 f fd ["one", "other"] (spBoth C) := by
  have b1 : Binds K fd1 ["begins", "steps", "ends"] [] := F1.bindsN fun _ _ _ _ _ _ us hl => match us, hl with | [_, _, _], _ => rfl
  refine F.okP scBoth (fun vs H Q E h => ?_) (fun cdv A outer s H vs Q E hr h => ?_)
  · obtain ⟨x, y, M, N, rfl, _⟩ := h
    rfl
  · obtain ⟨x, y, M, N, rfl, hM, hN, wm, wn, l1, l2, q⟩ := h
    refine ⟨_, pss_cons (ps_set (i := 2) scBoth.nd rfl (.inl rfl) (pe_lst pa_nil))
      (pss_cons (ps_for PassesOwn.never rfl (pi_tup (pe_fld (pv 0) rfl)) (pg_tup rfl (pgs_cons (pg_name (i := 3) scBoth.nd rfl (.inl rfl)) (pgs_cons (pg_name (i := 4) scBoth.nd rfl (.inl rfl)) (pgs_cons (pg_name (i := 5) scBoth.nd rfl (.inl rfl)) pgs_nil))))
        (pss_one (ps_for PassesOwn.never rfl (pi_tup (pe_fld (pv 1) rfl)) (pg_tup rfl (pgs_cons (pg_name (i := 6) scBoth.nd rfl (.inl rfl)) (pgs_cons (pg_name (i := 7) scBoth.nd rfl (.inr rfl)) (pgs_cons (pg_name (i := 8) scBoth.nd rfl (.inl rfl)) pgs_nil))))
          (pss_cons (ps_set (i := 9) scBoth.nd rfl (.inl rfl) (pe_join pe_str (pe_lc (own := [("sign", 11)]) (g := gName 11) rfl scBoth.nd (pi_str (pv 4))
            (blkOk_by (N := nmBoth) (sc := defScope sBoth) (by decide +kernel)) (fun _ _ _ _ _ => pg_name (i := 11) scBoth.nd rfl (.inl rfl)) (fun _ _ _ _ _ => pts_one (pt_cmpR op_in_sign (pv 11) (pv 7) rfl)) (fun _ _ _ _ _ => pv 11))))
          (pss_one (ps_if (pt_cmpR op_ne (pv 9) pe_str (nomark _)) (pss_one (ps_expr (pe_bm PySem.F.plainAttrs_list PySem.F.slot_list_append PySem.F.type_list_append mt_append (pv 2) (pa_cons (pe_tup (pa_cons (pe_tup (pa_cons (pv 3) (pa_cons (pv 6) pa_nil))) (pa_cons (pv 9) (pa_cons (pe_tup (pa_cons (pv 5) (pa_cons (pv 8) pa_nil))) pa_nil)))) pa_nil)))) pss_nil))))))
      (pss_cons (ps_setLc2 (i := 10) (own := [("place", 3), ("there", 6)]) (vs1 := [6]) (wi1 := iTup K (tFld K (tVar 1) "begins")) (g := gName 3) (tt := tYes) (g1 := gName 6) (tt1 := tYes) (te := tTup (tCons (tVar 3) (tCons (tVar 6) tNil))) rfl scBoth.nd rfl rfl (by unfold swapsWith; rfl) (pi_tup (pe_fld (pv 0) rfl))
        (blkOk_by (N := nmBoth) (sc := defScope sBoth) (by decide +kernel)) (by decide) (fun _ _ _ _ _ => pg_name (i := 3) scBoth.nd rfl (.inl rfl)) (fun _ _ _ _ _ => pts_nil)
        (fun _ _ _ _ _ => pi_tup (pe_fld (pv 1) rfl)) (fun _ _ _ _ _ => pg_name (i := 6) scBoth.nd rfl (.inl rfl)) (fun _ _ _ _ _ => pts_nil) (fun _ _ _ _ _ => pe_tup (pa_cons (pv 3) (pa_cons (pv 6) pa_nil))))
      (pss_one (ps_ret (pe_call O1 hr (by rfl) g1 F1.kp b1 .nil pass0 (pa_cons (pv 10) (pa_cons (pv 2) (pa_cons
        (pe_lc2 (own := [("place", 3), ("there", 6)]) (vs1 := [6]) (wi1 := iTup K (tFld K (tVar 1) "ends")) (g := gName 3) (tt := tYes) (g1 := gName 6) (tt1 := tYes) (te := tTup (tCons (tVar 3) (tCons (tVar 6) tNil))) rfl scBoth.nd (pi_tup (pe_fld (pv 0) rfl))
        (blkOk_by (N := nmBoth) (sc := defScope sBoth) (by decide +kernel)) (by decide) (fun _ _ _ _ _ => pg_name (i := 3) scBoth.nd rfl (.inl rfl)) (fun _ _ _ _ _ => pts_nil)
        (fun _ _ _ _ _ => pi_tup (pe_fld (pv 1) rfl)) (fun _ _ _ _ _ => pg_name (i := 6) scBoth.nd rfl (.inl rfl)) (fun _ _ _ _ _ => pts_nil) (fun _ _ _ _ _ => pe_tup (pa_cons (pv 3) (pa_cons (pv 6) pa_nil)))) pa_nil)))))))), ?_⟩
    obtain ⟨dx, tb, ts, te, lo, sv, las, h1, h2, h3, h4, h5, h6, h7, h8⟩ := hM.ex
    obtain ⟨dx', tb', ts', te', lo', sv', las', h1', h2', h3', h4', h5', h6', h7', h8'⟩ := hN.ex
    have line : (1001 : Nat) < sizeLine := by decide
    have bl : M.begins.length ≤ M.many := rise_len wm.bRise wm.bLt
    have el : M.ends.length ≤ M.many := rise_len wm.eRise wm.eLt
    have bl' : N.begins.length ≤ N.many := rise_len wn.bRise wn.bLt
    have el' : N.ends.length ≤ N.many := rise_len wn.eRise wn.eLt
    have m1000 := wm.mLe
    have m1000' := wn.mLe
    have svl := Paired.length h4
    have svl' := Paired.length h4'
    have pok : TStpsOk (prodS M.steps N.steps) := prodS_ok wm wn (by omega)
    refine ⟨Nat.zero_le _, fun Sd hSd => ?_⟩
    refine ⟨_, rfl, x, C, dx, _, _, rfl, same_upd hSd _ _ h1, T.cl, T.nSteps, mf_steps _ _ _ _ _, ts, rfl, ⟨_, .inl (.inl (same_upd hSd _ _ h3))⟩, ?_⟩
    refine for_it (walk_tup (xs := sv)) (fun i σ Hx => ∃ (rv : List V) (y3 y4 y5 y6 y7 y8 y9 : Option V), σ = [some (.ref x), some (.ref y), some (.ref Sd), y3, y4, y5, y6, y7, y8, y9, none, none] ∧ Same H Hx ∧ Hx Sd = some (.lst rv) ∧ Paired (TStpAt Hx) rv (prodS (M.steps.take i) N.steps))
      ⟨[], none, none, none, none, none, none, none, rfl, same_upd hSd, upd_same, .nil⟩ (fun _ _ _ _ ⟨_, _, _, _, _, _, _, _, _, sx, _⟩ => .inl (.inl (sx _ _ h3))) ?_ ?_
    · rintro i v σ Hx Hx' hi ⟨rv, y3, y4, y5, y6, y7, y8, y9, rfl, sx, hS, pr⟩ ⟨rfl, hv⟩
      obtain ⟨⟨p, a, p'⟩, e2, u, rfl, hu⟩ := paired_get h4 hv
      have aok := (wm.st.each _ (List.mem_of_getElem? e2)).sg
      refine ⟨u, _, rfl, .inl (.inl (sx _ _ hu)), rfl, _, _, rfl, _, _, rfl, _, _, rfl, rfl, ?_⟩
      refine ⟨_, rfl, y, C, dx', _, _, rfl, sx _ _ h1', T.cl, T.nSteps, mf_steps _ _ _ _ _, ts', rfl, ⟨_, .inl (.inl (sx _ _ h3'))⟩, ?_⟩
      refine for_it (walk_tup (xs := sv')) (fun j σ Hy => ∃ (rv : List V) (y6 y7 y8 y9 : Option V), σ = [some (.ref x), some (.ref y), some (.ref Sd), some (nV p), some (sV a), some (nV p'), y6, y7, y8, y9, none, none] ∧ Same H Hy ∧ Hy Sd = some (.lst rv) ∧ Paired (TStpAt Hy) rv (prodS (M.steps.take i) N.steps ++ prodOne (p, a, p') (N.steps.take j)))
        ⟨rv, _, _, _, _, rfl, sx, hS, by simpa [prodOne] using pr⟩ (fun _ _ _ _ ⟨_, _, _, _, _, _, sy, _⟩ => .inl (.inl (sy _ _ h3'))) ?_ ?_
      · rintro j v σ Hy Hy' hj ⟨rv, y6, y7, y8, y9, rfl, sy, hSy, pry⟩ ⟨rfl, hv⟩
        obtain ⟨⟨r, b, r'⟩, e3, u', rfl, hu'⟩ := paired_get h4' hv
        refine ⟨u', _, rfl, .inl (.inl (sy _ _ hu')), rfl, _, _, rfl, _, _, rfl, _, _, rfl, rfl, ?_⟩
        refine ⟨⟨_, rfl⟩, _, rfl, sS a, rfl, fun L hL => ?_⟩
        have el : (sS a).cps.size = a.length := List.size_toArray
        have al : a.length ≤ 127 := aok.len
        refine lc_map hL (β := Nat) (fun _ v b => v = cV b) (fun _ _ _ _ _ z => z) (walk_str (z := sS a)) (fun _ _ => trivial) (fun i => inter (a.take i) b) rfl (by rw [el]; exact Nat.lt_of_le_of_lt al (by decide)) (fun i y Hc H' Post Skip hi sc hy k1 k2 => ?_) (fun H1 acc sl ha1 hp1 => ?_)
        · obtain ⟨rfl, c, hc, rfl⟩ := hy
          have e : a[i]? = some c := by
            have e2 : a.toArray[i]? = some c := hc
            simpa using e2
          refine ⟨rfl, _, rfl, _, rfl, c, sS b, rfl, rfl, _, rfl, ?_⟩
          rw [sS_cps]
          by_cases h : c ∈ b
          · rw [decide_eq_true h]
            refine iteT ⟨_, rfl, k1 _ _ c (Same.refl _) rfl ?_⟩
            rw [inter_snoc e, if_pos h]
          · rw [decide_eq_false h]
            refine iteF (k2 _ (Same.refl _) ?_)
            rw [inter_snoc e, if_neg h, List.append_nil]
        rw [el, List.take_length] at hp1
        rw [paired_vals hp1] at ha1
        have il : (inter a b).length ≤ 127 := Nat.le_trans (List.length_filter_le _ _) al
        refine ⟨_, L, (inter a b).map fun c => (⟨#[c]⟩ : Str), rfl, rfl, .inl (.inl (.inl (by rw [List.map_map]; exact ha1))), ?_, ?_⟩
        · rw [len_signs, List.length_map]
          show (inter a b).length + (inter a b).length * 0 ≤ 16777216
          omega
        have ej : Txt.join ("" : Str) ((inter a b).map fun c => (⟨#[c]⟩ : Str)) = sS (inter a b) := join_signs _
        rw [show Txt.join _ ((inter a b).map fun c => (⟨#[c]⟩ : Str)) = sS (inter a b) from ej]
        have sy1 := sy.trans sl
        have hSy1 := sl _ _ hSy
        have pry1 := paired_mono pry fun _ _ (r : TStpAt Hy' _ _) => r.mono (TupS.same sl)
        have ext := prodOne_snoc (s := (p, a, p')) e3
        refine ⟨_, rfl, rfl, ?_⟩
        by_cases hn : inter a b = []
        · refine ⟨false, ?_, iteF ?_⟩
          · show V.bl (!decide (sV (inter a b) = V.str "")) = V.bl false
            rw [decide_eq_true (show sV (inter a b) = V.str "" by rw [hn]; rfl)]
            rfl
          refine ⟨rv, _, _, _, _, rfl, sy1, hSy1, ?_⟩
          rw [ext, if_pos hn, List.append_nil]
          exact pry1
        · refine ⟨true, ?_, iteT ?_⟩
          · show V.bl (!decide (sV (inter a b) = V.str "")) = V.bl true
            rw [decide_eq_false (fun z : sV (inter a b) = V.str "" => hn (by
              have z2 : sS (inter a b) = "" := V.str.inj z
              have z4 := congrArg (fun x : Str => x.cps.toList) z2
              rw [sS_cps] at z4
              exact z4))]
            rfl
          refine ⟨_, rfl, .inl ⟨rfl, _, .inl (.inl hSy1)⟩, _, rfl, _, rfl, (by show 2 ≤ sizeLine; decide), fun z1 hz1 => ⟨_, rfl, _, rfl, _, rfl, (by show 2 ≤ sizeLine; decide), fun z2 hz2 => ⟨(by show 3 ≤ sizeLine; decide), fun z3 hz3 => ?_⟩⟩⟩
          have q1 := same_upd hz1 (o := .tup [nV p, nV r])
          have q2 := same_upd hz2 (o := .tup [nV p', nV r'])
          have q3 := same_upd hz3 (o := .tup [V.ref z1, sV (inter a b), V.ref z2])
          have q123 := (q1.trans q2).trans q3
          have hS3 := q123 _ _ hSy1
          refine ⟨Sd, rv, _, rfl, rfl, hS3, ?_, ?_⟩
          · have g := Paired.length pry
            rw [g, List.length_append]
            have a1 := prodS_len (M.steps.take i) N.steps
            have a2 := prodOne_len (p, a, p') (N.steps.take j)
            rw [List.length_take] at a1 a2
            have a3 := Nat.mul_le_mul_right N.steps.length (Nat.min_le_right i M.steps.length)
            have a4 := wn.st.len
            have : (1000 + 1000 : Nat) < sizeLine := by decide
            omega
          · have tu : TupS (upd (upd (upd H1 z1 (.tup [nV p, nV r])) z2 (.tup [nV p', nV r'])) z3 (.tup [V.ref z1, sV (inter a b), V.ref z2])) (upd (upd (upd (upd H1 z1 (.tup [nV p, nV r])) z2 (.tup [nV p', nV r'])) z3 (.tup [V.ref z1, sV (inter a b), V.ref z2])) Sd (.lst (rv ++ [.ref z3]))) := TupS.upd hS3 fun xs z => by cases z
            refine ⟨rv ++ [.ref z3], _, _, _, _, rfl, same_new (sy1.trans q123) hSd, upd_same, ?_⟩
            rw [ext, if_neg hn, ← List.append_assoc]
            exact paired_snoc (paired_mono pry1 fun _ _ r => r.mono ((TupS.same q123).trans tu)) ⟨z3, z1, z2, rfl, tu _ _ upd_same, tu _ _ (q3 _ _ (q2 _ _ upd_same)), tu _ _ (q3 _ _ upd_same)⟩
      · rintro σ Hy ⟨rv, y6, y7, y8, y9, rfl, sy, hSy, pry⟩
        refine ⟨rv, _, _, _, _, _, _, _, rfl, sy, hSy, ?_⟩
        rw [svl', List.take_length] at pry
        rw [prodS_snoc e2]
        exact pry
    · rintro σ Hx ⟨rv, y3, y4, y5, y6, y7, y8, y9, rfl, sx, hS, pr⟩
      rw [svl, List.take_length] at pr
      refine ⟨_, rfl, x, C, dx, _, _, rfl, sx _ _ h1, T.cl, T.nBegins, mf_begins _ _ _ _ _, tb, rfl, ⟨_, .inl (.inl (sx _ _ h2))⟩, fun Bd hBd => ?_⟩
      refine pairs_map hBd (.inl (.inl (sx _ _ h2))) (sx _ _ h2') (sx _ _ h2) (by omega) (by omega) (fun v H' Q' s' k => ⟨_, rfl, y, C, dx', _, _, rfl, s' _ _ (sx _ _ h1'), T.cl, T.nBegins, mf_begins _ _ _ _ _, tb', rfl, ⟨_, .inl (.inl (s' _ _ (sx _ _ h2')))⟩, k⟩) (fun v => rfl) (fun v v' => rfl) (fun a b H' Q' k => ⟨_, rfl, _, rfl, (by show 2 ≤ sizeLine; decide), k⟩) (fun H1 acc1 s1 ha1 hp1 => ?_)
      have sx1 := sx.trans s1
      refine ⟨_, rfl, _, rfl, _, rfl, x, C, dx, _, _, rfl, sx1 _ _ h1, T.cl, T.nEnds, mf_ends _ _ _ _ _, te, rfl, ⟨_, .inl (.inl (sx1 _ _ h5))⟩, fun Ed hEd => ?_⟩
      refine pairs_map hEd (.inl (.inl (sx1 _ _ h5))) (sx1 _ _ h5') (sx1 _ _ h5) (by omega) (by omega) (fun v H' Q' s' k => ⟨_, rfl, y, C, dx', _, _, rfl, s' _ _ (sx1 _ _ h1'), T.cl, T.nEnds, mf_ends _ _ _ _ _, te', rfl, ⟨_, .inl (.inl (s' _ _ (sx1 _ _ h5')))⟩, k⟩) (fun v => rfl) (fun v v' => rfl) (fun a b H' Q' k => ⟨_, rfl, _, rfl, (by show 2 ≤ sizeLine; decide), k⟩) (fun H2 acc2 s2 ha2 hp2 => ?_)
      have ndr : ∀ {l : List Nat}, l.Pairwise (· < ·) → l.Nodup := fun h => h.imp fun h => Nat.ne_of_lt h
      have pl := prodS_len M.steps N.steps
      exact ⟨Bd, Sd, Ed, acc1, rv, acc2, _, _, _, rfl, s2 _ _ ha1, paired_mono hp1 fun _ _ r => r.mono (TupS.same s2), prodP_nd (ndr wm.bRise) (ndr wn.bRise), s2 _ _ (s1 _ _ hS), paired_mono pr fun _ _ r => r.mono (TupS.same (s1.trans s2)), pok, ha2, hp2, prodP_nd (ndr wm.eRise) (ndr wn.eRise), by rw [prodP_len]; omega, by rw [prodP_len]; omega, fun z R H' sH hR asm => q z R H' ((sx1.trans s2).trans sH) hR asm⟩
end
end KM
/-! text KW21 -/
set_option Elab.async false
set_option linter.all false
set_option maxRecDepth 100000
set_option maxHeartbeats 4000000
namespace KM
open PySem PySem.Spec PyProof.Rows L2
theorem inV_nat (p : Nat) (l : List Nat) : inV (nV p) (l.map nV) = decide (p ∈ l) := by
  unfold inV
  rw [Bool.eq_iff_iff, List.any_eq_true, decide_eq_true_iff]
  constructor
  · rintro ⟨x, hx, e⟩
    obtain ⟨q, hq, rfl⟩ := List.mem_map.mp hx
    have : (q : Int) = (p : Int) := by
      simpa [nV, eqV] using e
    have : q = p := by omega
    rw [← this]
    exact hq
  · intro h
    exact ⟨nV p, List.mem_map.mpr ⟨p, h, rfl⟩, by simp [nV, eqV]⟩
theorem flat_nats (l : List Nat) : (l.map nV).all flatV = true := by
  rw [List.all_eq_true]
  intro x hx
  obtain ⟨q, _, rfl⟩ := List.mem_map.mp hx
  rfl
section
variable {P : Program} {w : World} {K : PySem.W.Frag} {mg : Str → Option Value} {base : Heap}
/-- the reading of [f(a, b) for a in one.x for b in other.y] -/
theorem pairs_mapG {β : Type} {tx ty : Addr} {as bs : List Nat} {vs vs1 : List Nat} {σ : L2.St} {H1 : Hp} {D : Addr} {Qd : Hp → Prop} {i1 i2 : Nat} {wi1 : TI} {te : TE} (Rel : Hp → V → β → Prop) (st : TupStable Rel) (f : Pr → β) (hD : H1 D = none) (hx' : H1 tx = some (.tup (as.map nV))) (hy : H1 ty = some (.tup (bs.map nV))) (hla : as.length ≤ 1000) (hlb : bs.length ≤ 1000)
    (hin : ∀ (v : V) (H : Hp) (Q : It → Hp → Prop), Same H1 H → Q (Itt K ty) H → wi1 ((wipe σ vs).set i1 (some v)) H Q)
    (hw : ∀ v, wipe ((wipe σ vs).set i1 (some v)) vs = wipe σ vs) (hw1 : ∀ v v', wipe ((wipe ((wipe σ vs).set i1 (some v)) vs1).set i2 (some v')) vs1 = wipe ((wipe σ vs).set i1 (some v)) vs1)
    (hte : ∀ (a b : Nat) (H : Hp) (Q : VK), Same H1 H → (∀ z H', Same H H' → Rel H' z (f (a, b)) → Q z H') → te ((wipe ((wipe σ vs).set i1 (some (nV a))) vs1).set i2 (some (nV b))) H Q)
    (hd : ∀ (H' : Hp) (acc : List V), Same H1 H' → H' D = some (.lst acc) → Paired (Rel H') acc ((prodP as bs).map f) → Qd H') :
    ∃ W : Nat → Nat → Hp → Prop, (∃ m, W 0 m (upd H1 D (.lst []))) ∧ ∀ i m H, W i m H →
      ((Itt K tx).stop i H ∧ Qd H) ∨ ((Itt K tx).go i H ∧ ∃ Nx : Hp → Prop, (∀ H', Nx H' → ∃ m', m' < m ∧ W (i + 1) m' H') ∧ ∀ x H', (Itt K tx).yld i H x H' → gName i1 x (wipe σ vs) H' fun σ2 H2 => wipe σ2 vs = wipe σ vs ∧ tYes σ2 H2 fun b H3 =>
        if b = true then wi1 σ2 H3 fun J1 H4 => ∃ W1 : Nat → Nat → Hp → Prop, (∃ m, W1 0 m H4) ∧ ∀ j k H, W1 j k H →
          (J1.stop j H ∧ Nx H) ∨ (J1.go j H ∧ ∃ Nx1 : Hp → Prop, (∀ H', Nx1 H' → ∃ k', k' < k ∧ W1 (j + 1) k' H') ∧ ∀ x H', J1.yld j H x H' → gName i2 x (wipe σ2 vs1) H' fun σ3 H5 => wipe σ3 vs1 = wipe σ2 vs1 ∧ tYes σ3 H5 fun b H6 =>
            if b = true then te σ3 H6 fun y H7 => ∃ acc, H7 D = some (.lst acc) ∧ acc.length < sizeLine ∧ Nx1 (upd H7 D (.lst (acc ++ [y]))) else Nx1 H6)
        else Nx H3) := by
  refine lc2_map hD Rel st (walk_tup (xs := as.map nV)) (fun _ s1 => .inl (.inl (s1 _ _ hx'))) (fun i => (prodP (as.take i) bs).map f) rfl (fun i y Hc H' Go Skip hi sc hy2 go skip => ?_) (fun H' acc s1 ha hp => hd H' acc s1 ha (by rw [List.length_map, List.take_length] at hp; exact hp))
  obtain ⟨rfl, hy2⟩ := hy2
  rw [List.getElem?_map] at hy2
  cases hp : as[i]? with
  | none => rw [hp] at hy2; cases hy2
  | some a =>
    rw [hp] at hy2
    cases hy2
    refine ⟨hw _, ?_⟩
    show wi1 _ H' (Go _)
    have wk : Walk (Itt K ty) bs.length (fun H => SqT K H ty (bs.map nV)) (YAt (bs.map nV)) := by
      have := walk_tup (K := K) (a := ty) (xs := bs.map nV)
      rw [List.length_map] at this
      exact this
    refine hin _ _ _ sc (go _ _ _ (Same.refl _) ⟨bs.length, fun H => SqT K H ty (bs.map nV), YAt (bs.map nV), fun j => (prodP (as.take i) bs).map f ++ (bs.take j).map fun b => f (a, b), wk, fun Hd sd _ => .inl (.inl (sd _ _ hy)), by simp, ?_, fun j y Hd Hd' Post Skip hj sd td hv k1 k2 => ?_⟩)
    · show (prodP (as.take i) bs).map f ++ (bs.take bs.length).map (fun b => f (a, b)) = _
      rw [prodP_snoc hp, List.take_length, List.map_append, List.map_map]
      rfl
    obtain ⟨rfl, hv⟩ := hv
    rw [List.getElem?_map] at hv
    cases hq : bs[j]? with
    | none => rw [hq] at hv; cases hv
    | some b =>
      rw [hq] at hv
      cases hv
      refine ⟨hw1 _ _, ?_⟩
      show te _ _ Post
      refine hte a b _ _ sd fun z H5 s5 r => k1 _ _ (f (a, b)) s5 r ?_ ?_
      · show (prodP (as.take i) bs).map f ++ (bs.take (j + 1)).map (fun b => f (a, b)) = ((prodP (as.take i) bs).map f ++ (bs.take j).map fun b => f (a, b)) ++ [f (a, b)]
        rw [List.take_succ, hq, List.map_append, List.append_assoc]
        rfl
      · rw [List.length_append, List.length_map, prodP_len, List.length_map, List.length_take, List.length_take]
        have l1 : min i as.length ≤ 1000 := Nat.le_trans (Nat.min_le_right _ _) hla
        have l2 : min j bs.length ≤ 1000 := Nat.le_trans (Nat.min_le_right _ _) hlb
        have := Nat.mul_le_mul l1 hlb
        have : (1000 * 1000 + 1000 : Nat) < sizeLine := by decide
        omega
theorem two_ways {a b : Bool} {X R C : Prop} (hab : (a && b) = false) (hx : (if b = true then R else C) → X) (hc : C) : if a = true then X else C := by
  cases a with
  | false => exact iteF hc
  | true =>
    cases b with
    | false => exact iteT (hx (iteF hc))
    | true => cases hab
def spShows (C : Addr) : Sp := fun vs H Q _ => ∃ (x y a : Addr) (M N : Mch) (pl : List V) (ps : List Pr), vs = [.ref x, .ref y, .ref a] ∧ MachAt C H x M ∧ MachAt C H y N ∧ M.WF ∧ N.WF ∧ H a = some (.lst pl) ∧ Paired (PrAt H) pl ps ∧ (∀ p ∈ ps, p.1 < M.many ∧ p.2 < N.many) ∧ ps.Nodup ∧ ps.length ≤ 1000 ∧
  ∀ (k : Bool) H', Same H H' → (k = true ↔ Paper M N ps) → Q (.bl k) H'
abbrev nmShows : List Str := ["one", "other", "thing", "paper", "place", "there", "signs", "behind", "more", "behind_there", "pair"]
theorem scShows : FnScope nmShows ["one", "other", "thing"] (defScope sShowsApart) := ⟨rfl, rfl, rfl, by decide +kernel, rfl, by decide +kernel, by decide +kernel⟩
theorem ok_shows_apart {C f fi f1 f2 f3 : Addr} {fd fd1 fd2 fd3 : FuncData} (F : FnP K "shows_apart" "shows_apart" sShowsApart f fd) (B : Bi mg) (T : MC K mg C fi) (F1 : FnP K "are_pairs" "are_pairs" sArePairs f1 fd1) (g1 : mg "are_pairs" = some (.ref f1))
    (F2 : FnP K "meet" "meet" sMeet f2 fd2) (g2 : mg "meet" = some (.ref f2)) (F3 : FnP K "is_count" "is_count" sIsCount f3 fd3) (g3 : mg "is_count" = some (.ref f3)) : FnOk P w K mg base CX0 3 f fd ["one", "other", "thing"] (spShows C) := by
  have O1 : FnOk P w K mg base CX0 2 f1 fd1 ["thing", "many", "more"] spArePairs := ok_are_pairs F1 B F3 g3
  have O2 : FnOk P w K mg base CX0 1 f2 fd2 ["one", "other"] spMeet := ok_meet F2 B
  have b1 : Binds K fd1 ["thing", "many", "more"] [] := F1.bindsN fun _ _ _ _ _ _ us hl => match us, hl with | [_, _, _], _ => rfl
  have b2 : Binds K fd2 ["one", "other"] [] := F2.bindsN fun _ _ _ _ _ _ us hl => match us, hl with | [_, _], _ => rfl
  refine F.okP scShows (fun vs H Q E h => ?_) (fun cdv A outer s H vs Q E hr h => ?_)
  · obtain ⟨x, y, a, M, N, pl, ps, rfl, _⟩ := h
    rfl
  · obtain ⟨x, y, a, M, N, pl, ps, rfl, hM, hN, wm, wn, ha, hp, hin, pnd, plen, q⟩ := h
    have hr1 : Room 1 _ := hr.mono (by decide)
    refine ⟨_, pss_cons (ps_if (pt_not (pt_val (pe_call O1 hr (by rfl) g1 F1.kp b1 .nil pass0 (pa_cons (pv 2) (pa_cons (pe_fld (pv 0) rfl) (pa_cons (pe_fld (pv 1) rfl) pa_nil)))))) (pss_one (ps_ret pe_bl)) pss_nil)
      (pss_cons (ps_set (i := 3) scShows.nd rfl (.inr rfl) (pe_dcT (own := [("pair", 10)]) (g := gName 10) (tt := tYes) (by exact Nat.lt_of_le_of_lt (Nat.le_add_right _ _) (hu64 hr)) rfl scShows.nd (pi_list (pv 2))
        (blkOk_by (N := nmShows) (sc := defScope sShowsApart) (by decide +kernel)) (fun _ _ _ _ _ => pg_name (i := 10) scShows.nd rfl (.inl rfl)) (fun _ _ _ _ _ => pts_nil) (fun _ _ _ _ _ => pv 10) (fun _ _ _ _ _ => pe_bl)))
      (pss_cons (ps_if (pt_not (pt_val (pe_callB (cr_all rfl) (by rfl) B.all (by decide +kernel) (pa_cons
        (pe_lc2 (own := [("place", 4), ("there", 5)]) (vs1 := [5]) (wi1 := iTup K (tFld K (tVar 1) "begins")) (g := gName 4) (tt := tYes) (g1 := gName 5) (tt1 := tYes) (te := tDIn (tTup (tCons (tVar 4) (tCons (tVar 5) tNil))) (tVar 3)) rfl scShows.nd (pi_tup (pe_fld (pv 0) rfl))
          (blkOk_by (N := nmShows) (sc := defScope sShowsApart) (by decide +kernel)) (by decide) (fun _ _ _ _ _ => pg_name (i := 4) scShows.nd rfl (.inl rfl)) (fun _ _ _ _ _ => pts_nil)
          (fun _ _ _ _ _ => pi_tup (pe_fld (pv 1) rfl)) (fun _ _ _ _ _ => pg_name (i := 5) scShows.nd rfl (.inl rfl)) (fun _ _ _ _ _ => pts_nil)
          (fun _ _ _ _ _ => pe_cmp (pc_din (by exact Nat.lt_of_le_of_lt (Nat.add_le_add_left (by decide) _) (hu64 hr)) (pe_tup (pa_cons (pv 4) (pa_cons (pv 5) pa_nil))) (pv 3)) rfl)) pa_nil)))) (pss_one (ps_ret pe_bl)) pss_nil)
      (pss_cons (ps_lock (ps_for PassesOwn.never rfl (pi_keys (pv 3)) (pg_tup rfl (pgs_cons (pg_name (i := 4) scShows.nd rfl (.inl rfl)) (pgs_cons (pg_name (i := 5) scShows.nd rfl (.inl rfl)) pgs_nil)))
        (pss_cons (ps_if (PW.pt (pw_and (pt_cmpR op_in_seq (pv 4) (pe_fld (pv 0) rfl) rfl) (pw_and1 (pt_cmpR op_in_seq (pv 5) (pe_fld (pv 1) rfl) rfl)))) (pss_one (ps_ret pe_bl)) pss_nil)
        (pss_one (ps_for PassesOwn.never rfl (pi_list (pe_ix ix_list (pe_fld (pv 0) rfl) (pv 4) (fun _ _ => rfl))) (pg_tup rfl (pgs_cons (pg_name (i := 6) scShows.nd rfl (.inl rfl)) (pgs_cons (pg_name (i := 7) scShows.nd rfl (.inl rfl)) pgs_nil)))
          (pss_one (ps_for PassesOwn.never rfl (pi_list (pe_ix ix_list (pe_fld (pv 1) rfl) (pv 5) (fun _ _ => rfl))) (pg_tup rfl (pgs_cons (pg_name (i := 8) scShows.nd rfl (.inl rfl)) (pgs_cons (pg_name (i := 9) scShows.nd rfl (.inl rfl)) pgs_nil)))
            (pss_one (ps_if (PW.pt (pw_and (pt_val (pe_call O2 hr1 (by rfl) g2 F2.kp b2 .nil pass0 (pa_cons (pv 6) (pa_cons (pv 8) pa_nil)))) (pw_and1 (pt_cmp (pc_dnotin (by exact Nat.lt_of_le_of_lt (Nat.add_le_add_left (by decide) _) (hu64 hr)) (pe_tup (pa_cons (pv 7) (pa_cons (pv 9) pa_nil))) (pv 3)))))) (pss_one (ps_ret pe_bl)) pss_nil)))))))))
      (pss_one (ps_ret pe_bl))))), ?_⟩
    obtain ⟨dx, tb, ts, te, lo, sv, las, h1, h2, h3, h4, h5, h6, h7, h8⟩ := hM.ex
    obtain ⟨dx', tb', ts', te', lo', sv', las', h1', h2', h3', h4', h5', h6', h7', h8'⟩ := hN.ex
    have line : (1001 : Nat) < sizeLine := by decide
    have bl : M.begins.length ≤ M.many := rise_len wm.bRise wm.bLt
    have bl' : N.begins.length ≤ N.many := rise_len wn.bRise wn.bLt
    have m1000 := wm.mLe
    have m1000' := wn.mLe
    have pll := Paired.length hp
    refine ⟨_, rfl, _, rfl, x, C, dx, _, _, rfl, h1, T.cl, T.nMany, mf_many _ _ _ _ _, _, rfl, y, C, dx', _, _, rfl, h1', T.cl, T.nMany, mf_many _ _ _ _ _, a, pl, ps, M.many, N.many, rfl, ha, hp, hin, true, rfl, ?_⟩
    refine iteF ⟨_, rfl, a, rfl, ⟨_, .inl (.inl ha)⟩, fun Pd hPd => ?_⟩
    refine dt_map hPd (walk_list (xs := pl)) (fun _ s1 => .inl (.inl (s1 _ _ ha))) (fun i => fT (ps.take i)) rfl (fun i _ => by rw [fT_len, List.length_take]; omega) (fun i y Hc H' Post Skip hi sc hy k1 k2 => ?_) (fun H1 s1 hP1 => ?_)
    · obtain ⟨rfl, hy⟩ := hy
      obtain ⟨p, e2, b, rfl, hb⟩ := paired_get hp hy
      refine ⟨rfl, _, rfl, ?_⟩
      refine k1 b (kP p) _ _ (Same.refl _) (sc _ _ hb) ?_
      rw [fT_put (take_fresh' pnd e2), List.take_succ, e2]
      rfl
    rw [pll, List.take_length] at hP1
    -- the begins
    refine ⟨_, rfl, x, C, dx, _, _, rfl, s1 _ _ h1, T.cl, T.nBegins, mf_begins _ _ _ _ _, tb, rfl, ⟨_, .inl (.inl (s1 _ _ h2))⟩, fun Ld hLd => ?_⟩
    refine pairs_mapG (β := Bool) (fun _ v b => v = .bl b) (fun _ _ _ _ _ z => z) (fun p => decide (p ∈ ps)) hLd (s1 _ _ h2) (s1 _ _ h2') (by omega) (by omega) (fun v H' Q' s' k => ⟨_, rfl, y, C, dx', _, _, rfl, s' _ _ (s1 _ _ h1'), T.cl, T.nBegins, mf_begins _ _ _ _ _, tb', rfl, ⟨_, .inl (.inl (s' _ _ (s1 _ _ h2')))⟩, k⟩) (fun v => rfl) (fun v v' => rfl)
      (fun b c H' Q' s' k => ⟨_, rfl, _, rfl, (by show 2 ≤ sizeLine; decide), fun t ht => ⟨_, rfl, Pd, _, rfl, DGet.t (k := kP (b, c)) (same_upd ht _ _ (s' _ _ hP1)) upd_same, k _ _ (same_upd ht) (by rw [fT_isSome])⟩⟩) (fun H2 acc s2 ha2 hp2 => ?_)
    rw [bls_of hp2] at ha2
    have s12 := s1.trans s2
    refine ⟨Ld, _, rfl, .inl (.inl ha2), _, rfl, ?_⟩
    by_cases hbeg : ∀ p ∈ M.begins, ∀ r ∈ N.begins, (p, r) ∈ ps
    case neg =>
      have e : (((prodP M.begins N.begins).map fun p => decide (p ∈ ps)).all id) = false := by
        rw [Bool.eq_false_iff]
        intro h
        rw [List.all_eq_true] at h
        refine hbeg fun p hp' r hr' => ?_
        exact of_decide_eq_true (h _ (List.mem_map.mpr ⟨(p, r), mem_prodP.mpr ⟨hp', hr'⟩, rfl⟩))
      rw [e]
      exact iteT (q false H2 s12 ⟨(fun h => by cases h), (fun h => absurd h.beg hbeg)⟩)
    have e : (((prodP M.begins N.begins).map fun p => decide (p ∈ ps)).all id) = true := by
      rw [List.all_eq_true]
      intro b hb
      obtain ⟨p, hp', rfl⟩ := List.mem_map.mp hb
      obtain ⟨u, v⟩ := mem_prodP.mp hp'
      exact decide_eq_true (hbeg p.1 u p.2 v)
    rw [e]
    refine iteF ?_
    have hP2 := s2 _ _ hP1
    refine ⟨Pd, .dT (fT ps), hP2, trivial, fun od => ?_⟩
    have HPd : H Pd = none := hPd
    have sl : Same H (upd H2 Pd (.frz od (.dT (fT ps)))) := same_new s12 HPd
    have unl : ∀ Hx : Hp, Same H Hx → Same H (upd Hx Pd (.dT (fT ps))) := fun Hx s => same_new s HPd
    refine ⟨_, rfl, Pd, od, rfl, .inr ⟨fT ps, upd_same, ?_⟩⟩
    refine for_it walk_keysT (fun i σ Hx => ∃ y4 y5 y6 y7 y8 y9 : Option V, σ = [some (.ref x), some (.ref y), some (.ref a), some (.ref Pd), y4, y5, y6, y7, y8, y9, none] ∧ Same H Hx ∧ Hx Pd = some (.frz od (.dT (fT ps))) ∧
        ∀ p ∈ ps.take i, ¬ (p.1 ∈ M.ends ∧ p.2 ∈ N.ends) ∧ ∀ g p', (g, p') ∈ M.onw p.1 → ∀ h q', (h, q') ∈ N.onw p.2 → inter g h ≠ [] → (p', q') ∈ ps)
      ⟨none, none, none, none, none, none, rfl, sl, upd_same, fun p hp' => by simp at hp'⟩ (fun _ _ _ _ ⟨_, _, _, _, _, _, _, _, z, _⟩ => z) ?_ ?_
    · rintro i v σ Hx Hx' hi ⟨y4, y5, y6, y7, y8, y9, rfl, sx, hPx, don⟩ ⟨rfl, k, v', u, hk, rfl, hu⟩
      unfold fT at hk
      rw [List.getElem?_map] at hk
      cases hpi : ps[i]? with
      | none => rw [hpi] at hk; cases hk
      | some p =>
        rw [hpi] at hk
        cases hk
        have pm := List.mem_of_getElem? hpi
        obtain ⟨l1, l2⟩ := hin p pm
        have hl1 : p.1 < las.length := by rw [h7]; exact l1
        have hl2 : p.2 < las'.length := by rw [h7']; exact l2
        have hla : las[p.1]? = some las[p.1] := List.getElem?_eq_getElem hl1
        have hla' : las'[p.2]? = some las'[p.2] := List.getElem?_eq_getElem hl2
        obtain ⟨ov, o1, o2⟩ := h8 p.1 las[p.1] hla
        obtain ⟨ov', o1', o2'⟩ := h8' p.2 las'[p.2] hla'
        refine ⟨u, _, rfl, .inl (.inl hu), rfl, _, _, rfl, _, _, rfl, rfl, ?_⟩
        have ext : ps.take (i + 1) = ps.take i ++ [p] := by
          rw [List.take_succ, hpi]
          rfl
        refine ⟨_, rfl, _, rfl, x, C, dx, _, _, rfl, sx _ _ h1, T.cl, T.nEnds, mf_ends _ _ _ _ _, te, _, rfl, .inr (.inl (.inl (sx _ _ h5))), rfl, flat_nats _, decide (p.1 ∈ M.ends), (congrArg V.bl (inV_nat p.1 M.ends)), ?_⟩
        have no : ∀ hnp : ¬ Paper M N ps, ∀ Hz : Hp, Same H Hz → Hz Pd = some (.frz od (.dT (fT ps))) → Hz Pd = some (.frz od (.dT (fT ps))) ∧ Q (.bl false) (upd Hz Pd (.dT (fT ps))) := fun hnp Hz sz hz => ⟨hz, q false _ (unl _ sz) ⟨(fun h => by cases h), (fun h => absurd h hnp)⟩⟩
        by_cases hend : p.1 ∈ M.ends ∧ p.2 ∈ N.ends
        · rw [decide_eq_true hend.1]
          refine iteT ⟨_, rfl, _, rfl, y, C, dx', _, _, rfl, sx _ _ h1', T.cl, T.nEnds, mf_ends _ _ _ _ _, te', _, rfl, .inr (.inl (.inl (sx _ _ h5'))), rfl, flat_nats _, decide (p.2 ∈ N.ends), (congrArg V.bl (inV_nat p.2 N.ends)), ?_⟩
          rw [decide_eq_true hend.2]
          exact iteT (no (fun pa => pa.fin p pm hend) _ sx hPx)
        have hab : (decide (p.1 ∈ M.ends) && decide (p.2 ∈ N.ends)) = false := by
          rw [Bool.eq_false_iff]
          intro e
          rw [Bool.and_eq_true, decide_eq_true_iff, decide_eq_true_iff] at e
          exact hend e
        show (if decide (p.1 ∈ M.ends) = true then _ else _)
        refine two_ways hab (fun hb => ⟨_, rfl, _, rfl, y, C, dx', _, _, rfl, sx _ _ h1', T.cl, T.nEnds, mf_ends _ _ _ _ _, te', _, rfl, .inr (.inl (.inl (sx _ _ h5'))), rfl, flat_nats _, decide (p.2 ∈ N.ends), (congrArg V.bl (inV_nat p.2 N.ends)), hb⟩) ?_
        refine ⟨_, rfl, x, C, dx, _, _, rfl, sx _ _ h1, T.cl, T.nOnward, mf_onward _ _ _ _ _, _, rfl, lo, _, (p.1 : Int), .ref las[p.1], rfl, rfl, .inl (.inl (sx _ _ h6)), atI_nat (by rw [List.getElem?_map, hla]; rfl), las[p.1], rfl, ⟨_, .inl (.inl (sx _ _ o1))⟩, ?_⟩
        refine for_it (walk_list (xs := ov)) (fun j σ Hy => ∃ y6 y7 y8 y9 : Option V, σ = [some (.ref x), some (.ref y), some (.ref a), some (.ref Pd), some (nV p.1), some (nV p.2), y6, y7, y8, y9, none] ∧ Same H Hy ∧ Hy Pd = some (.frz od (.dT (fT ps))) ∧
            ∀ e ∈ (M.onw p.1).take j, ∀ h q', (h, q') ∈ N.onw p.2 → inter e.1 h ≠ [] → (e.2, q') ∈ ps)
          ⟨_, _, _, _, rfl, sx, hPx, fun e he => by simp at he⟩ (fun _ _ _ _ ⟨_, _, _, _, _, sy, _⟩ => .inl (.inl (sy _ _ o1))) ?_ ?_
        · rintro j v σ Hy Hy' hj ⟨y6, y7, y8, y9, rfl, sy, hPy, don1⟩ ⟨rfl, hv⟩
          obtain ⟨⟨g, p'⟩, e2, t, rfl, ht⟩ := paired_get o2 hv
          have em := List.mem_of_getElem? e2
          have gok := (wm.st.each _ (mem_onw.mp em)).sg
          refine ⟨t, _, rfl, .inl (.inl (sy _ _ ht)), rfl, _, _, rfl, _, _, rfl, rfl, ?_⟩
          refine ⟨_, rfl, y, C, dx', _, _, rfl, sy _ _ h1', T.cl, T.nOnward, mf_onward _ _ _ _ _, _, rfl, lo', _, (p.2 : Int), .ref las'[p.2], rfl, rfl, .inl (.inl (sy _ _ h6')), atI_nat (by rw [List.getElem?_map, hla']; rfl), las'[p.2], rfl, ⟨_, .inl (.inl (sy _ _ o1'))⟩, ?_⟩
          refine for_it (walk_list (xs := ov')) (fun k σ Hz => ∃ y8 y9 : Option V, σ = [some (.ref x), some (.ref y), some (.ref a), some (.ref Pd), some (nV p.1), some (nV p.2), some (sV g), some (nV p'), y8, y9, none] ∧ Same H Hz ∧ Hz Pd = some (.frz od (.dT (fT ps))) ∧
              ∀ e ∈ (N.onw p.2).take k, inter g e.1 ≠ [] → (p', e.2) ∈ ps)
            ⟨_, _, rfl, sy, hPy, fun e he => by simp at he⟩ (fun _ _ _ _ ⟨_, _, _, sz, _⟩ => .inl (.inl (sz _ _ o1'))) ?_ ?_
          · rintro k v σ Hz Hz' hk ⟨y8, y9, rfl, sz, hPz, don2⟩ ⟨rfl, hv⟩
            obtain ⟨⟨h, q'⟩, e3, t', rfl, ht'⟩ := paired_get o2' hv
            have em' := List.mem_of_getElem? e3
            have ext2 : (N.onw p.2).take (k + 1) = (N.onw p.2).take k ++ [(h, q')] := by
              rw [List.take_succ, e3]
              rfl
            refine ⟨t', _, rfl, .inl (.inl (sz _ _ ht')), rfl, _, _, rfl, _, _, rfl, rfl, ?_⟩
            refine ⟨_, rfl, _, rfl, g, h, rfl, gok.len, fun m Hm sm hm => ⟨m, rfl, ?_⟩⟩
            have szm := sz.trans sm
            have hPm := sm _ _ hPz
            have step : (inter g h ≠ [] → (p', q') ∈ ps) → ∀ e ∈ (N.onw p.2).take (k + 1), inter g e.1 ≠ [] → (p', e.2) ∈ ps := fun hs e he => by
              rw [ext2] at he
              rcases List.mem_append.mp he with he | he
              · exact don2 e he
              · rw [List.mem_singleton.mp he]
                exact hs
            by_cases hin1 : inter g h = []
            · have hmf : m = false := by
                cases m with
                | false => rfl
                | true => exact absurd hin1 (hm.mp rfl)
              rw [hmf]
              exact iteF ⟨_, _, rfl, szm, hPm, step fun n => absurd hin1 n⟩
            · rw [hm.mpr hin1]
              refine iteT ⟨_, rfl, _, rfl, (by show 2 ≤ sizeLine; decide), fun t2 ht2 => ⟨_, rfl, Pd, _, rfl, .inr ⟨fT ps, kP (p', q'), t2, .inr ⟨od, same_upd ht2 _ _ hPm⟩, rfl, upd_same, rfl⟩, _, rfl, ?_⟩⟩
              have s2 := same_upd ht2 (o := .tup [nV p', nV q'])
              have sz2 := szm.trans s2
              have hP2z := s2 _ _ hPm
              rw [fT_isSome]
              by_cases hq : (p', q') ∈ ps
              · rw [decide_eq_true hq]
                exact iteF ⟨_, _, rfl, sz2, hP2z, step fun _ => hq⟩
              · rw [decide_eq_false hq]
                exact iteT (no (fun pa => hq (pa.clos p pm g p' em h q' em' hin1)) _ sz2 hP2z)
          · rintro σ Hz ⟨y8, y9, rfl, sz, hPz, don2⟩
            refine ⟨_, _, _, _, rfl, sz, hPz, fun e he h q' hm n => ?_⟩
            rw [Paired.length o2', List.take_length] at don2
            rw [List.take_succ, e2] at he
            rcases List.mem_append.mp he with he | he
            · exact don1 e he h q' hm n
            · have he : e = (g, p') := by simpa using he
              rw [he] at n ⊢
              exact don2 (h, q') hm n
        · rintro σ Hy ⟨y6, y7, y8, y9, rfl, sy, hPy, don1⟩
          rw [Paired.length o2, List.take_length] at don1
          refine ⟨_, _, _, _, _, _, rfl, sy, hPy, fun z hz => ?_⟩
          rw [ext] at hz
          rcases List.mem_append.mp hz with hz | hz
          · exact don z hz
          · rw [List.mem_singleton.mp hz]
            exact ⟨hend, fun g p' hg h q' hh n => don1 (g, p') hg h q' hh n⟩
    · rintro σ Hx ⟨y4, y5, y6, y7, y8, y9, rfl, sx, hPx, don⟩
      refine ⟨hPx, q true _ (unl _ sx) ⟨fun _ => ⟨hbeg, fun p hp' => (don p ?_).1, fun p hp' => (don p ?_).2⟩, fun _ => rfl⟩⟩
      · rw [fT_len, List.take_length]; exact hp'
      · rw [fT_len, List.take_length]; exact hp'
end
end KM
/-! text KW22 -/
set_option Elab.async false
set_option linter.all false
set_option maxRecDepth 100000
set_option maxHeartbeats 4000000
namespace KM
open PySem PySem.Spec PyProof.Rows L2 NdefX LamX
/-- the nested def -/
abbrev sOnward : Stmt := (defBody sApart).getD 0 (.Pass ⟨0, 0, 0, 0⟩)
abbrev Onw2 := List Nat × Pr
def OnwPAt (H : Hp) (v : V) (e : Onw2) : Prop := ∃ t b, v = .ref t ∧ H t = some (.tup [sV e.1, .ref b]) ∧ H b = some (.tup [nV e.2.1, nV e.2.2])
theorem OnwPAt.mono {H H' : Hp} {v : V} {e : Onw2} (t : TupS H H') (h : OnwPAt H v e) : OnwPAt H' v e := let ⟨a, b, h0, h1, h2⟩ := h; ⟨a, b, h0, t _ _ h1, t _ _ h2⟩
def onwIn (e : List Nat × Nat) (l : List (List Nat × Nat)) : List Onw2 := l.flatMap fun e' => if inter e.1 e'.1 = [] then [] else [(inter e.1 e'.1, (e.2, e'.2))]
def onwProd (M N : Mch) (p : Pr) : List Onw2 := (M.onw p.1).flatMap fun e => onwIn e (N.onw p.2)
theorem onwIn_snoc {e : List Nat × Nat} {l : List (List Nat × Nat)} {j : Nat} {e' : List Nat × Nat} (h : l[j]? = some e') : onwIn e (l.take (j + 1)) = onwIn e (l.take j) ++ (if inter e.1 e'.1 = [] then [] else [(inter e.1 e'.1, (e.2, e'.2))]) := by
  unfold onwIn
  rw [List.take_succ, h, List.flatMap_append]
  show _ ++ [e'].flatMap _ = _
  rw [List.flatMap_singleton]
theorem onwIn_len (e : List Nat × Nat) (l : List (List Nat × Nat)) : (onwIn e l).length ≤ l.length := by
  unfold onwIn
  induction l with
  | nil => exact Nat.le_refl _
  | cons t ts ih =>
    rw [List.flatMap_cons, List.length_append, List.length_cons]
    by_cases h : inter e.1 t.1 = []
    · rw [if_pos h, List.length_nil]
      omega
    · rw [if_neg h, List.length_singleton]
      omega
theorem flatIn_len (l : List (List Nat × Nat)) : ∀ as : List (List Nat × Nat), (as.flatMap fun e => onwIn e l).length ≤ as.length * l.length
  | [] => by simp
  | a :: as => by
    rw [List.flatMap_cons, List.length_append, List.length_cons, Nat.add_mul, Nat.one_mul]
    have := onwIn_len a l
    have := flatIn_len l as
    omega
section
variable {P : Program} {w : World} {K : PySem.W.Frag} {mg : Str → Option Value} {base : Heap}
def spOnward (C : Addr) : List (Option V) → Sp := fun ws vs H Q _ => ∃ (x y a : Addr) (M N : Mch) (p : Pr), ws = [some (.ref x), some (.ref y)] ∧ vs = [.ref a] ∧ MachAt C H x M ∧ MachAt C H y N ∧ M.WF ∧ N.WF ∧ PrAt H (.ref a) p ∧ p.1 < M.many ∧ p.2 < N.many ∧
  ∀ (l : Addr) (lv : List V) H', Same H H' → H l = none → H' l = some (.lst lv) → Paired (OnwPAt H') lv (onwProd M N p) → Q (.ref l) H'
abbrev nmOnward : List Str := ["key", "one", "other", "found", "signs", "place", "more", "there"]
theorem scOnward : NScope nmOnward ["key"] ["one", "other"] (C8.fnScope sOnward) := nscope_by (by decide +kernel)
theorem ok_onward {C f fi f1 : Addr} {fd1 : FuncData} {qn : Str} {cl : List (Str × Addr)} {c' : Addr} (B : Bi mg) (T : MC K mg C fi) (F1 : FnP K "common" "common" sCommon f1 fd1) (g1 : mg "common" = some (.ref f1)) :
    NOk P w K mg base CX0 2 f (NF.of sOnward "onward" qn cl c') ["key"] ["one", "other"] (spOnward C) := by
  have O1 : FnOk P w K mg base CX0 1 f1 fd1 ["one", "other"] spCommon := ok_common F1 B
  have b1 : Binds K fd1 ["one", "other"] [] := F1.bindsN fun _ _ _ _ _ _ us hl => match us, hl with | [_, _], _ => rfl
  refine nok_of (N := nmOnward) scOnward (fun _ _ _ us hl => match us, hl with | [_], _ => rfl) (fun ws vs H Q E h => ?_) (fun A outer s H vs ws Q E hr hf hc hl h => ?_)
  · obtain ⟨x, y, a, M, N, p, _, rfl, _⟩ := h
    rfl
  · obtain ⟨x, y, a, M, N, p, rfl, rfl, hM, hN, wm, wn, ha, hp1, hp2, q⟩ := h
    suffices hh : ∃ t, PSs (ncx CX0 P w K mg base nmOnward (NF.of sOnward "onward" qn cl c') f A outer s H E).nox (NF.of sOnward "onward" qn cl c').body t ∧ t { nx := fun _ H' => Q .non H', rt := Q } (startF nmOnward [.ref a] [some (.ref x), some (.ref y)]) H by
      obtain ⟨t, h, z⟩ := hh
      exact ⟨t, h.nox, z⟩
    refine ⟨_, pss_cons (ps_set (i := 3) scOnward.nd rfl (.inl rfl) (pe_lst pa_nil))
      (pss_cons (ps_for PassesOwn.never rfl (pi_list (pe_ix ix_list (pe_fld (pv 1) rfl) (pe_ix ix_tup (pv 0) pe_int (fun _ _ => rfl)) (fun _ _ => rfl))) (pg_tup rfl (pgs_cons (pg_name (i := 4) scOnward.nd rfl (.inl rfl)) (pgs_cons (pg_name (i := 5) scOnward.nd rfl (.inl rfl)) pgs_nil)))
        (pss_one (ps_for PassesOwn.never rfl (pi_list (pe_ix ix_list (pe_fld (pv 2) rfl) (pe_ix ix_tup (pv 0) pe_int (fun _ _ => rfl)) (fun _ _ => rfl))) (pg_tup rfl (pgs_cons (pg_name (i := 6) scOnward.nd rfl (.inl rfl)) (pgs_cons (pg_name (i := 7) scOnward.nd rfl (.inl rfl)) pgs_nil)))
          (pss_one (ps_if (pt_cmpR op_ne (pe_call O1 hr (by rfl) g1 F1.kp b1 .nil pass0 (pa_cons (pv 4) (pa_cons (pv 6) pa_nil))) pe_str (nomark _))
            (pss_one (ps_expr (pe_bm PySem.F.plainAttrs_list PySem.F.slot_list_append PySem.F.type_list_append mt_append (pv 3) (pa_cons (pe_tup (pa_cons (pe_call O1 hr (by rfl) g1 F1.kp b1 .nil pass0 (pa_cons (pv 4) (pa_cons (pv 6) pa_nil))) (pa_cons (pe_tup (pa_cons (pv 5) (pa_cons (pv 7) pa_nil))) pa_nil))) pa_nil)))) pss_nil)))))
      (pss_one (ps_ret (pv 3)))), ?_⟩
    obtain ⟨dx, tb, ts, te, lo, sv, las, h1, h2, h3, h4, h5, h6, h7, h8⟩ := hM.ex
    obtain ⟨dx', tb', ts', te', lo', sv', las', h1', h2', h3', h4', h5', h6', h7', h8'⟩ := hN.ex
    obtain ⟨a', ea, ha⟩ := ha
    cases ea
    have hl1 : p.1 < las.length := by rw [h7]; exact hp1
    have hl2 : p.2 < las'.length := by rw [h7']; exact hp2
    have hla : las[p.1]? = some las[p.1] := List.getElem?_eq_getElem hl1
    have hla' : las'[p.2]? = some las'[p.2] := List.getElem?_eq_getElem hl2
    obtain ⟨ov, o1, o2⟩ := h8 p.1 las[p.1] hla
    obtain ⟨ov', o1', o2'⟩ := h8' p.2 las'[p.2] hla'
    have ol : (M.onw p.1).length ≤ 1000 := by
      unfold Mch.onw
      rw [List.length_map]
      exact Nat.le_trans (List.length_filter_le _ _) wm.st.len
    have ol' : (N.onw p.2).length ≤ 1000 := by
      unfold Mch.onw
      rw [List.length_map]
      exact Nat.le_trans (List.length_filter_le _ _) wn.st.len
    refine ⟨Nat.zero_le _, fun Fd hFd => ?_⟩
    have s0 := same_upd hFd (o := .lst [])
    refine ⟨_, rfl, x, C, dx, _, _, rfl, s0 _ _ h1, T.cl, T.nOnward, mf_onward _ _ _ _ _, _, rfl, a, _, 0, nV p.1, rfl, rfl, .inl (.inl (s0 _ _ ha)), atI0 rfl, lo, _, (p.1 : Int), .ref las[p.1], rfl, rfl, .inl (.inl (s0 _ _ h6)), atI_nat (by rw [List.getElem?_map, hla]; rfl), las[p.1], rfl, ⟨_, .inl (.inl (s0 _ _ o1))⟩, ?_⟩
    refine for_it (walk_list (xs := ov)) (fun i σ Hx => ∃ (lv : List V) (y4 y5 y6 y7 : Option V), σ = [some (.ref a), some (.ref x), some (.ref y), some (.ref Fd), y4, y5, y6, y7] ∧ Same H Hx ∧ Hx Fd = some (.lst lv) ∧ Paired (OnwPAt Hx) lv (((M.onw p.1).take i).flatMap fun e => onwIn e (N.onw p.2)))
      ⟨[], none, none, none, none, rfl, s0, upd_same, .nil⟩ (fun _ _ _ _ ⟨_, _, _, _, _, _, sx, _⟩ => .inl (.inl (sx _ _ o1))) ?_ ?_
    · rintro i v σ Hx Hx' hi ⟨lv, y4, y5, y6, y7, rfl, sx, hF, pr⟩ ⟨rfl, hv⟩
      obtain ⟨⟨g, p'⟩, e2, t, rfl, ht⟩ := paired_get o2 hv
      have gok := (wm.st.each _ (mem_onw.mp (List.mem_of_getElem? e2))).sg
      refine ⟨t, _, rfl, .inl (.inl (sx _ _ ht)), rfl, _, _, rfl, _, _, rfl, rfl, ?_⟩
      refine ⟨_, rfl, y, C, dx', _, _, rfl, sx _ _ h1', T.cl, T.nOnward, mf_onward _ _ _ _ _, _, rfl, a, _, 1, nV p.2, rfl, rfl, .inl (.inl (sx _ _ ha)), atI_nat (j := 1) rfl, lo', _, (p.2 : Int), .ref las'[p.2], rfl, rfl, .inl (.inl (sx _ _ h6')), atI_nat (by rw [List.getElem?_map, hla']; rfl), las'[p.2], rfl, ⟨_, .inl (.inl (sx _ _ o1'))⟩, ?_⟩
      refine for_it (walk_list (xs := ov')) (fun j σ Hy => ∃ (lv : List V) (y6 y7 : Option V), σ = [some (.ref a), some (.ref x), some (.ref y), some (.ref Fd), some (sV g), some (nV p'), y6, y7] ∧ Same H Hy ∧ Hy Fd = some (.lst lv) ∧ Paired (OnwPAt Hy) lv ((((M.onw p.1).take i).flatMap fun e => onwIn e (N.onw p.2)) ++ onwIn (g, p') ((N.onw p.2).take j)))
        ⟨lv, _, _, rfl, sx, hF, by simpa [onwIn] using pr⟩ (fun _ _ _ _ ⟨_, _, _, _, sy, _⟩ => .inl (.inl (sy _ _ o1'))) ?_ ?_
      · rintro j v σ Hy Hy' hj ⟨lv, y6, y7, rfl, sy, hFy, pry⟩ ⟨rfl, hv⟩
        obtain ⟨⟨h, q'⟩, e3, t', rfl, ht'⟩ := paired_get o2' hv
        have ext := onwIn_snoc (e := (g, p')) e3
        refine ⟨t', _, rfl, .inl (.inl (sy _ _ ht')), rfl, _, _, rfl, _, _, rfl, rfl, ?_⟩
        refine ⟨_, rfl, _, rfl, g, h, rfl, gok.len, fun Hm sm => ⟨rfl, ?_⟩⟩
        have sym := sy.trans sm
        have hFm := sm _ _ hFy
        have prm := paired_mono pry fun _ _ (r : OnwPAt Hy' _ _) => r.mono (TupS.same sm)
        by_cases hn : inter g h = []
        · refine ⟨false, ?_, iteF ?_⟩
          · show V.bl (!decide (sV (inter g h) = V.str "")) = V.bl false
            rw [decide_eq_true (show sV (inter g h) = V.str "" by rw [hn]; rfl)]
            rfl
          refine ⟨lv, _, _, rfl, sym, hFm, ?_⟩
          rw [ext, if_pos hn, List.append_nil]
          exact prm
        · refine ⟨true, ?_, iteT ?_⟩
          · show V.bl (!decide (sV (inter g h) = V.str "")) = V.bl true
            rw [decide_eq_false (fun z : sV (inter g h) = V.str "" => hn (by
              have z2 : sS (inter g h) = "" := V.str.inj z
              have z4 := congrArg (fun x : Str => x.cps.toList) z2
              rw [sS_cps] at z4
              exact z4))]
            rfl
          refine ⟨_, rfl, .inl ⟨rfl, _, .inl (.inl hFm)⟩, _, rfl, _, rfl, g, h, rfl, gok.len, fun Hn sn => ⟨_, rfl, _, rfl, (by show 2 ≤ sizeLine; decide), fun z1 hz1 => ⟨(by show 2 ≤ sizeLine; decide), fun z2 hz2 => ?_⟩⟩⟩
          have q1 := same_upd hz1 (o := .tup [nV p', nV q'])
          have q2 := same_upd hz2 (o := .tup [sV (inter g h), V.ref z1])
          have q12 := (sn.trans q1).trans q2
          have hF2 := q12 _ _ hFm
          refine ⟨Fd, lv, _, rfl, rfl, hF2, ?_, ?_⟩
          · rw [Paired.length pry, List.length_append]
            have a1 := flatIn_len (N.onw p.2) ((M.onw p.1).take i)
            have a2 := onwIn_len (g, p') ((N.onw p.2).take j)
            rw [List.length_take] at a1 a2
            have a3 := Nat.mul_le_mul (Nat.le_trans (Nat.min_le_right i (M.onw p.1).length) ol) ol'
            have : (1000 * 1000 + 1000 : Nat) < sizeLine := by decide
            omega
          · have tu : TupS (upd (upd Hn z1 (.tup [nV p', nV q'])) z2 (.tup [sV (inter g h), V.ref z1])) (upd (upd (upd Hn z1 (.tup [nV p', nV q'])) z2 (.tup [sV (inter g h), V.ref z1])) Fd (.lst (lv ++ [.ref z2]))) := TupS.upd hF2 fun xs z => by cases z
            refine ⟨lv ++ [.ref z2], _, _, rfl, same_new (sym.trans q12) hFd, upd_same, ?_⟩
            rw [ext, if_neg hn, ← List.append_assoc]
            exact paired_snoc (paired_mono prm fun _ _ r => r.mono ((TupS.same q12).trans tu)) ⟨z2, z1, rfl, tu _ _ upd_same, tu _ _ (q2 _ _ upd_same)⟩
      · rintro σ Hy ⟨lv, y6, y7, rfl, sy, hFy, pry⟩
        refine ⟨lv, _, _, _, _, rfl, sy, hFy, ?_⟩
        rw [Paired.length o2', List.take_length] at pry
        rw [List.take_succ, e2, List.flatMap_append]
        show Paired _ _ (_ ++ [(g, p')].flatMap _)
        rw [List.flatMap_singleton]
        exact pry
    · rintro σ Hx ⟨lv, y4, y5, y6, y7, rfl, sx, hF, pr⟩
      rw [Paired.length o2, List.take_length] at pr
      exact ⟨_, rfl, q Fd lv Hx sx hFd hF pr⟩
end
end KM
/-! text KP5 -/
set_option Elab.async false
set_option linter.all false
set_option maxRecDepth 100000
set_option maxHeartbeats 4000000
/-! What walked gathers. -/
namespace KM
theorem mem_onwIn {e : List Nat × Nat} {l : List (List Nat × Nat)} {o : Onw2} : o ∈ onwIn e l ↔ ∃ e' ∈ l, inter e.1 e'.1 ≠ [] ∧ o = (inter e.1 e'.1, (e.2, e'.2)) := by
  unfold onwIn
  rw [List.mem_flatMap]
  constructor
  · rintro ⟨e', he, h⟩
    by_cases n : inter e.1 e'.1 = []
    · rw [if_pos n] at h
      cases h
    · rw [if_neg n, List.mem_singleton] at h
      exact ⟨e', he, n, h⟩
  · rintro ⟨e', he, n, rfl⟩
    exact ⟨e', he, by rw [if_neg n]; exact List.mem_cons_self⟩
theorem mem_onwProd {M N : Mch} {p q : Pr} {sg : List Nat} : (sg, q) ∈ onwProd M N p ↔ (p, sg, q) ∈ prodS M.steps N.steps := by
  rw [mem_prodS]
  unfold onwProd
  rw [List.mem_flatMap]
  constructor
  · rintro ⟨⟨a, p'⟩, he, h⟩
    obtain ⟨⟨b, q'⟩, he', n, e⟩ := mem_onwIn.mp h
    cases e
    exact ⟨a, b, mem_onw.mp he, mem_onw.mp he', rfl, n⟩
  · rintro ⟨a, b, h1, h2, rfl, n⟩
    exact ⟨(a, q.1), mem_onw.mpr h1, mem_onwIn.mpr ⟨(b, q.2), mem_onw.mpr h2, n, rfl⟩⟩
theorem onw_nd {M : Mch} (wf : M.WF) (p : Nat) : ((M.onw p).map (·.2)).Nodup := by
  unfold Mch.onw
  rw [List.map_map]
  have u := wf.st.uniq
  rw [List.Nodup, List.pairwise_map] at u
  rw [List.Nodup, List.pairwise_map]
  refine (u.sublist List.filter_sublist).imp_of_mem fun {a b} ha hb h e => h ?_
  have e1 : a.1 = p := of_decide_eq_true (List.mem_filter.mp ha).2
  have e2 : b.1 = p := of_decide_eq_true (List.mem_filter.mp hb).2
  exact Prod.ext (e1.trans e2.symm) e
theorem onwIn_nd {e : List Nat × Nat} : ∀ {l : List (List Nat × Nat)}, (l.map (·.2)).Nodup → ((onwIn e l).map (·.2)).Nodup
  | [], _ => .nil
  | t :: ts, h => by
    rw [List.map_cons, List.nodup_cons] at h
    unfold onwIn
    rw [List.flatMap_cons, List.map_append]
    by_cases n : inter e.1 t.1 = []
    · rw [if_pos n]
      exact onwIn_nd h.2
    · rw [if_neg n, List.nodup_append]
      refine ⟨by simp, onwIn_nd h.2, fun x hx y hy q => ?_⟩
      have ex : x = (e.2, t.2) := by simpa using hx
      obtain ⟨o, ho, rfl⟩ := List.mem_map.mp hy
      obtain ⟨e', he, _, rfl⟩ := mem_onwIn.mp (show o ∈ onwIn e ts from ho)
      rw [ex] at q
      exact h.1 (List.mem_map.mpr ⟨e', he, ((Prod.mk.inj q).2).symm⟩)
theorem flatIn_nd {l : List (List Nat × Nat)} (hl : (l.map (·.2)).Nodup) : ∀ {as : List (List Nat × Nat)}, (as.map (·.2)).Nodup → ((as.flatMap fun e => onwIn e l).map (·.2)).Nodup
  | [], _ => .nil
  | a :: as, h => by
    rw [List.map_cons, List.nodup_cons] at h
    rw [List.flatMap_cons, List.map_append, List.nodup_append]
    refine ⟨onwIn_nd hl, flatIn_nd hl h.2, fun x hx y hy q => ?_⟩
    obtain ⟨o, ho, rfl⟩ := List.mem_map.mp hx
    obtain ⟨o', ho', rfl⟩ := List.mem_map.mp hy
    obtain ⟨e', _, _, rfl⟩ := mem_onwIn.mp ho
    obtain ⟨a', ha', ho'⟩ := List.mem_flatMap.mp ho'
    obtain ⟨e'', _, _, rfl⟩ := mem_onwIn.mp ho'
    exact h.1 (List.mem_map.mpr ⟨a', ha', ((Prod.mk.inj q).1).symm⟩)
/-- the steps that leave from the places of F -/
def stepsOf (M N : Mch) (F : List Pr) : List TStp := F.flatMap fun p => (onwProd M N p).map fun e => (p, e.1, e.2)
theorem mem_stepsOf {M N : Mch} {F : List Pr} {p q : Pr} {sg : List Nat} : (p, sg, q) ∈ stepsOf M N F ↔ p ∈ F ∧ (p, sg, q) ∈ prodS M.steps N.steps := by
  unfold stepsOf
  rw [List.mem_flatMap]
  constructor
  · rintro ⟨z, hz, h⟩
    obtain ⟨e, he, q⟩ := List.mem_map.mp h
    cases q
    exact ⟨hz, mem_onwProd.mp he⟩
  · rintro ⟨hp, h⟩
    exact ⟨p, hp, List.mem_map.mpr ⟨(sg, q), mem_onwProd.mpr h, rfl⟩⟩
theorem stepsOf_uniq {M N : Mch} (wm : M.WF) (wn : N.WF) : ∀ {F : List Pr}, F.Nodup → ((stepsOf M N F).map tkey).Nodup
  | [], _ => .nil
  | p :: F, h => by
    rw [List.nodup_cons] at h
    unfold stepsOf
    rw [List.flatMap_cons, List.map_append, List.nodup_append]
    refine ⟨?_, stepsOf_uniq wm wn h.2, fun x hx y hy e => ?_⟩
    · have u := flatIn_nd (onw_nd wn p.2) (onw_nd wm p.1)
      rw [List.map_map]
      have u2 := nodup_map (f := fun q : Pr => ((p, q) : Key4)) (fun a b e => (Prod.mk.inj e).2) u
      rw [List.map_map] at u2
      exact u2
    · obtain ⟨s, hs, rfl⟩ := List.mem_map.mp hx
      obtain ⟨z, hz, rfl⟩ := List.mem_map.mp hs
      obtain ⟨s', hs', rfl⟩ := List.mem_map.mp hy
      have := (mem_stepsOf (p := s'.1) (sg := s'.2.1) (q := s'.2.2)).mp hs'
      have e1 : p = s'.1 := (Prod.mk.inj e).1
      exact h.1 (by rw [e1]; exact this.1)
theorem stepsOf_len {M N : Mch} (wm : M.WF) (wn : N.WF) {F : List Pr} (nd : F.Nodup) : (stepsOf M N F).length ≤ (prodS M.steps N.steps).length := by
  have := nodup_sub (stepsOf_uniq wm wn nd) (l' := (prodS M.steps N.steps).map tkey) fun k hk => by
    obtain ⟨⟨p, sg, q⟩, hs, rfl⟩ := List.mem_map.mp hk
    exact List.mem_map.mpr ⟨_, (mem_stepsOf.mp hs).2, rfl⟩
  rwa [List.length_map, List.length_map] at this
theorem stepsOf_ok {M N : Mch} (wm : M.WF) (wn : N.WF) {F : List Pr} (nd : F.Nodup) (hl : M.steps.length * N.steps.length ≤ 1000) : TStpsOk (stepsOf M N F) :=
  ⟨stepsOf_uniq wm wn nd, fun ⟨p, sg, q⟩ hs => (prodS_ok wm wn hl).sg _ (mem_stepsOf.mp hs).2, Nat.le_trans (stepsOf_len wm wn nd) (prodS_ok wm wn hl).len⟩
theorem stepsOf_snoc {M N : Mch} {F : List Pr} {i : Nat} {p : Pr} (h : F[i]? = some p) : stepsOf M N (F.take (i + 1)) = stepsOf M N (F.take i) ++ (onwProd M N p).map fun e => (p, e.1, e.2) := by
  unfold stepsOf
  rw [List.take_succ, h, List.flatMap_append]
  show _ ++ [p].flatMap _ = _
  rw [List.flatMap_singleton]
theorem Srch.popFront {α : Type} {bs : List α} {es : List (α × α)} {F R : List α} {p : α} (s : Srch bs es F (p :: R)) : SrchAt bs es p [] F R :=
  ⟨s.nd, s.sub p List.mem_cons_self, fun q h => s.sub q (List.mem_cons_of_mem _ h), s.beg, s.re, fun z h n ne => s.clos z h fun hm => (List.mem_cons.mp hm).elim ne n, fun _ h => by cases h⟩
end KM
/-! text KW23 -/
set_option Elab.async false
set_option linter.all false
set_option maxRecDepth 100000
set_option maxHeartbeats 4000000
namespace KM
open PySem PySem.Spec PyProof.Rows L2 NdefX LamX
theorem isKeys_fT {H : Hp} : ∀ {F : List Pr} {bs : List Addr}, IsKeys H (fT F) bs → Paired (PrAt H) (bs.map V.ref) F
  | [], _, h => by
    cases h
    exact .nil
  | p :: F, _, h => by
    have h : Paired (fun (q : List L2.Key × V) b => H b = some (.tup (q.1.map kV))) ((kP p, V.bl true) :: fT F) _ := h
    cases h with
    | cons a t => exact .cons ⟨_, rfl, a⟩ (isKeys_fT t)
section
variable {P : Program} {w : World} {K : PySem.W.Frag} {mg : Str → Option Value} {base : Heap}
def spWalked (C : Addr) (qn : Str) : List (Str × Addr) → List (Option V) → Sp := fun cl ws vs H Q _ => ∃ (a fo c' x y : Addr) (bv : List V) (M N : Mch), vs = [.ref a, .ref fo] ∧ ws = [some (.ref x), some (.ref y)] ∧ H fo = some (FnO fo (NF.of sOnward "onward" qn cl c')) ∧ H c' = some (CodeO c' qn) ∧
  H a = some (.lst bv) ∧ Paired (PrAt H) bv (prodP M.begins N.begins) ∧ MachAt C H x M ∧ MachAt C H y N ∧ M.WF ∧ N.WF ∧ M.begins.length * N.begins.length + M.steps.length * N.steps.length ≤ 1000 ∧
  ∀ (t r l : Addr) (rv sl : List V) (F : List Pr) H', Same H H' → H' t = some (.tup [.ref r, .ref l]) → H' r = some (.lst rv) → Paired (PrAt H') rv F → F.Nodup → (∀ p, p ∈ F ↔ Reach (prodP M.begins N.begins) (fwd (prodS M.steps N.steps)) p) → H' l = some (.lst sl) → Paired (TStpAt H') sl (stepsOf M N F) → Q (.ref t) H'
abbrev nmWalked : List Str := ["begins", "onward", "key", "found", "row", "steps", "at", "signs"]
theorem scWalked : FnScope nmWalked ["begins", "onward"] (defScope sWalked) := ⟨rfl, rfl, rfl, by decide +kernel, rfl, by decide +kernel, by decide +kernel⟩
theorem ok_walked {C f fi f1 : Addr} {fd fd1 : FuncData} {qn : Str} (F_ : FnP K "walked" "walked" sWalked f fd) (B : Bi mg) (T : MC K mg C fi) (F1 : FnP K "common" "common" sCommon f1 fd1) (g1 : mg "common" = some (.ref f1)) :
    FnOkC P w K mg base CX0 3 f fd ["begins", "onward"] ["one", "other"] (spWalked C qn) := by
  refine fnc_of F_ scWalked (fun cl ws vs H Q E h => ?_) (fun cl ws cdv A outer s H vs Q E hr hC hnf h => ?_)
  · obtain ⟨a, fo, c', x, y, bv, M, N, rfl, _⟩ := h
    rfl
  · obtain ⟨a, fo, c', x, y, bv, M, N, rfl, rfl, hfo, hco, ha, hp, hM, hN, wm, wn, hle, q⟩ := h
    have Fn : ∀ f c', NOk P w K mg base CX0 2 f (NF.of sOnward "onward" qn cl c') ["key"] ["one", "other"] (spOnward C) := fun f c' => ok_onward B T F1 g1
    suffices hh : ∃ t, PSs (cxOf CX0 P w K mg base nmWalked "walked" (defScope sWalked) f cdv A outer s H E).nox (defBody sWalked) t ∧ t { nx := fun _ H' => Q .non H', rt := Q } (L2.start nmWalked [.ref a, .ref fo]) H by
      obtain ⟨t, h, z⟩ := hh
      exact ⟨t, h.nox, z⟩
    refine ⟨_, pss_cons (ps_setDcT (i := 3) (own := [("key", 2)]) (g := gName 2) (tt := tYes) (by exact Nat.lt_of_le_of_lt (Nat.le_add_right _ _) (hu64 hr)) rfl scWalked.nd rfl rfl (sw_trueD rfl rfl rfl (by decide +kernel)) (pi_list (pv 0))
        (blkOk_by (N := nmWalked) (sc := defScope sWalked) (by decide +kernel)) (fun _ _ _ _ _ => pg_name (i := 2) scWalked.nd rfl (.inl rfl)) (fun _ _ _ _ _ => pts_nil) (fun _ _ _ _ _ => pv 2) (fun _ _ _ _ _ => pe_bl))
      (pss_cons (ps_set (i := 4) scWalked.nd rfl (.inl rfl) (pe_callTy (call_list_dT rfl) (by rfl) B.list (by decide +kernel) (pa_cons (pv 3) pa_nil)))
      (pss_cons (ps_set (i := 5) scWalked.nd rfl (.inl rfl) (pe_lst pa_nil))
      (pss_cons (ps_set (i := 6) scWalked.nd rfl (.inl rfl) pe_int)
      (pss_cons (ps_while PassesOwn.never (pt_cmpR op_lt (pv 6) (pe_callB call_len_seq (by rfl) B.len PySem.boot_len (pa_cons (pv 4) pa_nil)) (nomark _))
        (pss_cons (ps_for PassesOwn.never rfl (pi_list (pe_callF (mk := NF.of sOnward "onward" qn cl) (cl := cl) (ps := ["key"]) (fr := ["one", "other"]) (ws := [some (.ref x), some (.ref y)]) (i := 1) (k := 2) (sp := fun _ _ => spOnward C) Fn (fun _ => rfl) hC hnf (fun _ _ _ h => by cases h) hr (Nat.le_refl _) pass0 rfl (.inl rfl) (pa_cons (pe_ix ix_list (pv 4) (pv 6) (fun _ _ => rfl)) pa_nil)))
            (pg_tup rfl (pgs_cons (pg_name (i := 7) scWalked.nd rfl (.inl rfl)) (pgs_cons (pg_name (i := 2) scWalked.nd rfl (.inl rfl)) pgs_nil)))
          (pss_cons (ps_expr (pe_bm PySem.F.plainAttrs_list PySem.F.slot_list_append PySem.F.type_list_append mt_append (pv 5) (pa_cons (pe_tup (pa_cons (pe_ix ix_list (pv 4) (pv 6) (fun _ _ => rfl)) (pa_cons (pv 7) (pa_cons (pv 2) pa_nil)))) pa_nil)))
          (pss_one (ps_if (pt_cmp (pc_dnotin (by exact Nat.lt_of_le_of_lt (Nat.add_le_add_left (by decide) _) (hu64 hr)) (pv 2) (pv 3)))
            (pss_cons (ps_dput (by exact Nat.lt_of_le_of_lt (Nat.add_le_add_left (by decide) _) (hu64 hr)) (pv 3) (pv 2) pe_bl rfl)
            (pss_one (ps_expr (pe_bm PySem.F.plainAttrs_list PySem.F.slot_list_append PySem.F.type_list_append mt_append (pv 4) (pa_cons (pv 2) pa_nil))))) pss_nil))))
        (pss_one (ps_aug (i := 6) scWalked.nd rfl (.inl rfl) pe_int ip_add))))
      (pss_one (ps_ret (pe_tup (pa_cons (pv 4) (pa_cons (pv 5) pa_nil))))))))), ?_⟩
    have line : (1001 : Nat) < sizeLine := by decide
    have ndr : ∀ {l : List Nat}, l.Pairwise (· < ·) → l.Nodup := fun h => h.imp fun h => Nat.ne_of_lt h
    have bnd : (prodP M.begins N.begins).Nodup := prodP_nd (ndr wm.bRise) (ndr wn.bRise)
    have pok := prodS_ok wm wn (by omega)
    have plen : (prodS M.steps N.steps).length ≤ M.steps.length * N.steps.length := prodS_len _ _
    have blen : (prodP M.begins N.begins).length = M.begins.length * N.begins.length := prodP_len _ _
    obtain ⟨bs, hbs⟩ : ∃ bs, prodP M.begins N.begins = bs := ⟨_, rfl⟩
    have bin : ∀ p ∈ bs, p.1 < M.many ∧ p.2 < N.many := fun p h => by
      rw [← hbs] at h
      obtain ⟨u, v⟩ := mem_prodP.mp h
      exact ⟨wm.bLt _ u, wn.bLt _ v⟩
    rw [hbs] at hp bnd blen q
    obtain ⟨es, hes⟩ : ∃ es, fwd (prodS M.steps N.steps) = es := ⟨_, rfl⟩
    have elen : es.length = (prodS M.steps N.steps).length := by rw [← hes]; exact List.length_map _
    have ein : ∀ p q : Pr, (p, q) ∈ es → q.1 < M.many ∧ q.2 < N.many := fun p q h => by
      rw [← hes] at h
      obtain ⟨sg, h⟩ := mem_fwd.mp h
      obtain ⟨g, h', h1, h2, _⟩ := mem_prodS.mp h
      exact ⟨(wm.st.each _ h1).l2, (wn.st.each _ h2).l2⟩
    have rin : ∀ p, Reach bs es p → p.1 < M.many ∧ p.2 < N.many := fun p h => by
      cases h with
      | base h => exact bin p h
      | step _ h => exact ein _ _ h
    rw [hes] at q
    have bvl := Paired.length hp
    refine ⟨_, rfl, a, rfl, ⟨_, .inl (.inl ha)⟩, fun Fd hFd => ?_⟩
    refine dt_map hFd (walk_list (xs := bv)) (fun _ s1 => .inl (.inl (s1 _ _ ha))) (fun i => fT (bs.take i)) rfl (fun i _ => by rw [fT_len, List.length_take]; omega) (fun i y Hc H' Post Skip hi sc hy k1 k2 => ?_) (fun H1 s1 hF1 => ?_)
    · obtain ⟨rfl, hy⟩ := hy
      obtain ⟨p, e2, b, rfl, hb⟩ := paired_get hp hy
      refine ⟨rfl, _, rfl, ?_⟩
      refine k1 b (kP p) _ _ (Same.refl _) (sc _ _ hb) ?_
      rw [fT_put (take_fresh' bnd e2), List.take_succ, e2]
      rfl
    rw [bvl, List.take_length] at hF1
    refine ⟨_, rfl, Fd, _, rfl, .inl hF1, fun Rn rbs hRn hrb => ?_⟩
    have prb := isKeys_fT hrb
    have nFR : Fd ≠ Rn := ne_of_none hF1 hRn
    have HRn := none_of s1 hRn
    have sR := same_upd hRn (o := .lst (rbs.map V.ref))
    refine ⟨Nat.zero_le _, fun Sn hSn => ?_⟩
    have sS := same_upd hSn (o := .lst [])
    have S0 := (s1.trans sR).trans sS
    have HSn := none_of (s1.trans sR) hSn
    have nSR : Sn ≠ Rn := fun e => by
      rw [e, upd_same] at hSn
      cases hSn
    have nSF : Sn ≠ Fd := fun e => by
      rw [e, upd_ne nFR, hF1] at hSn
      cases hSn
    have Flen : ∀ F : List Pr, F.Nodup → (∀ p ∈ F, Reach bs es p) → F.length ≤ 1000 := fun F nd h => by
      have := nodup_sub nd fun p hp => reach_in (h p hp)
      rw [List.length_append, List.length_map] at this
      omega
    refine ⟨fun m σ Hx => ∃ (i : Nat) (F : List Pr) (rv sl : List V) (y2 y7 : Option V), m = 1000 - i ∧ σ = [some (.ref a), some (.ref fo), y2, some (.ref Fd), some (.ref Rn), some (.ref Sn), some (nV i), y7] ∧ Same H Hx ∧ Hx Fd = some (.dT (fT F)) ∧ Hx Rn = some (.lst rv) ∧ Paired (PrAt Hx) rv F ∧ Hx Sn = some (.lst sl) ∧ Paired (TStpAt Hx) sl (stepsOf M N (F.take i)) ∧ Srch bs es F (F.drop i),
      ⟨_, 0, bs, _, [], _, _, rfl, rfl, S0, by rw [upd_ne nSF.symm, upd_ne nFR]; exact hF1, by rw [upd_ne nSR.symm, upd_same], paired_mono prb fun _ _ r => r.mono (TupS.same (sR.trans sS)), upd_same, .nil, Srch.start bnd⟩, ?_⟩
    rintro m σ Hx ⟨i, F, rv, sl, y2, y7, rfl, rfl, sx, hFx, hRx, pr, hSx, ps, sr⟩
    have Fl := Flen F sr.nd sr.re
    refine ⟨_, rfl, _, rfl, Rn, _, rfl, .inl (.inl (.inl hRx)), _, _, rfl, rfl, _, rfl, ?_⟩
    rw [Paired.length pr]
    by_cases hlt : i < F.length
    · rw [decide_eq_true (by omega)]
      refine iteT ⟨fun σ' H' => ∃ m', m' < 1000 - i ∧ ∃ (i : Nat) (F : List Pr) (rv sl : List V) (y2 y7 : Option V), m' = 1000 - i ∧ σ' = [some (.ref a), some (.ref fo), y2, some (.ref Fd), some (.ref Rn), some (.ref Sn), some (nV i), y7] ∧ Same H H' ∧ H' Fd = some (.dT (fT F)) ∧ H' Rn = some (.lst rv) ∧ Paired (PrAt H') rv F ∧ H' Sn = some (.lst sl) ∧ Paired (TStpAt H') sl (stepsOf M N (F.take i)) ∧ Srch bs es F (F.drop i), fun _ _ z => z, ?_⟩
      have hFi : F[i]? = some F[i] := List.getElem?_eq_getElem hlt
      obtain ⟨v0, ev0, p, hv0⟩ : ∃ v0, rv[i]? = some v0 ∧ ∃ b, v0 = .ref b ∧ Hx b = some (.tup [nV F[i].1, nV F[i].2]) := by
        obtain ⟨v0, e, b, h1, h2⟩ := paired_get' pr hFi
        exact ⟨v0, e, b, h1, h2⟩
      obtain ⟨rfl, hb0⟩ := hv0
      have pr0 := rin _ (sr.re _ (List.getElem_mem hlt))
      have hd : F.drop i = F[i] :: F.drop (i + 1) := List.drop_eq_getElem_cons hlt
      rw [hd] at sr
      refine ⟨fo, c', rfl, sx _ _ hfo, _, rfl, _, rfl, Rn, _, (i : Int), .ref p, rfl, rfl, .inl (.inl hRx), atI_nat ev0, sx _ _ hfo, sx _ _ hco, x, y, p, M, N, F[i], rfl, rfl, hM.same sx, hN.same sx, wm, wn, ⟨p, rfl, hb0⟩, pr0.1, pr0.2, fun lo lv Hl sl' hlon hlo plv => ?_⟩
      refine ⟨lo, rfl, ⟨_, .inl (.inl hlo)⟩, ?_⟩
      have sxl := sx.trans sl'
      have nloS : lo ≠ Sn := (ne_of_none hSx hlon).symm
      have nloR : lo ≠ Rn := (ne_of_none hRx hlon).symm
      have nloF : lo ≠ Fd := (ne_of_none hFx hlon).symm
      refine for_it (walk_list (xs := lv)) (fun j σ Hy => ∃ (F' : List Pr) (rv' sl : List V) (y2 y7 : Option V), σ = [some (.ref a), some (.ref fo), y2, some (.ref Fd), some (.ref Rn), some (.ref Sn), some (nV i), y7] ∧ Same H Hy ∧ Hy lo = some (.lst lv) ∧ Paired (OnwPAt Hy) lv (onwProd M N F[i]) ∧ Hy Fd = some (.dT (fT F')) ∧ Hy Rn = some (.lst rv') ∧ Paired (PrAt Hy) rv' F' ∧
          Hy Sn = some (.lst sl) ∧ Paired (TStpAt Hy) sl (stepsOf M N (F.take i) ++ ((onwProd M N F[i]).take j).map fun e => (F[i], e.1, e.2)) ∧ SrchAt bs es F[i] (((onwProd M N F[i]).take j).map (·.2)) F' (F'.drop (i + 1)) ∧ F'.take (i + 1) = F.take (i + 1) ∧ i < F'.length)
        ⟨F, rv, sl, _, _, rfl, sxl, hlo, plv, sl' _ _ hFx, sl' _ _ hRx, paired_mono pr fun _ _ r => r.mono (TupS.same sl'), sl' _ _ hSx, by simpa using paired_mono ps fun _ _ r => r.mono (TupS.same sl'), by simpa using sr.popFront, rfl, hlt⟩ (fun _ _ _ _ ⟨_, _, _, _, _, _, _, z, _⟩ => .inl (.inl z)) ?_ ?_
      · rintro j v σ Hy Hy' hj ⟨F', rv', sl, y2, y7, rfl, sy, hloy, plvy, hFy, hRy, pry, hSy, psy, sa, ft, fl⟩ ⟨rfl, hv⟩
        obtain ⟨⟨sg, q'⟩, e3, t, b, rfl, ht, hb⟩ := paired_get plvy hv
        have e3m := mem_onwProd.mp (List.mem_of_getElem? e3)
        have et : (onwProd M N F[i]).take (j + 1) = (onwProd M N F[i]).take j ++ [(sg, q')] := by
          rw [List.take_succ, e3]
          rfl
        have fi' : F'[i]? = some F[i] := by
          have h1 : (F'.take (i + 1))[i]? = F'[i]? := by rw [List.getElem?_take_of_lt (by omega)]
          have h2 : (F.take (i + 1))[i]? = F[i]? := by rw [List.getElem?_take_of_lt (by omega)]
          rw [← h1, ft, h2, hFi]
        obtain ⟨v1, ev1, p1, rfl, hp1⟩ := paired_get' pry fi'
        refine ⟨t, _, rfl, .inl (.inl ht), rfl, _, _, rfl, _, _, rfl, rfl, ?_⟩
        refine ⟨_, rfl, .inl ⟨rfl, _, .inl (.inl hSy)⟩, _, rfl, _, rfl, Rn, _, (i : Int), .ref p1, rfl, rfl, .inl (.inl hRy), atI_nat ev1, _, rfl, _, rfl, (by show 3 ≤ sizeLine; decide), fun z hz => ?_⟩
        have sz := same_upd hz (o := .tup [.ref p1, sV sg, .ref b])
        have hSz := sz _ _ hSy
        have tz := TupS.same sz
        have tw : TupS (upd Hy' z (.tup [.ref p1, sV sg, .ref b])) (upd (upd Hy' z (.tup [.ref p1, sV sg, .ref b])) Sn (.lst (sl ++ [.ref z]))) := TupS.upd hSz fun xs z => by cases z
        have slen : sl.length < sizeLine := by
          rw [Paired.length psy, List.length_append, List.length_map, List.length_take]
          have a1 := stepsOf_len (M := M) (N := N) wm wn (F := F.take (i + 1)) (sr.nd.sublist (List.take_sublist _ _))
          rw [stepsOf_snoc hFi, List.length_append, List.length_map] at a1
          have := Nat.min_le_right j (onwProd M N F[i]).length
          omega
        refine ⟨Sn, sl, _, rfl, rfl, hSz, slen, ?_⟩
        have t2 := tz.trans tw
        have s2 : Same H (upd (upd Hy' z (.tup [.ref p1, sV sg, .ref b])) Sn (.lst (sl ++ [.ref z]))) := same_new (sy.trans sz) HSn
        have ps2 : Paired (TStpAt (upd (upd Hy' z (.tup [.ref p1, sV sg, .ref b])) Sn (.lst (sl ++ [.ref z])))) (sl ++ [.ref z]) (stepsOf M N (F.take i) ++ ((onwProd M N F[i]).take (j + 1)).map fun e => (F[i], e.1, e.2)) := by
          rw [et, List.map_append, ← List.append_assoc]
          exact paired_snoc (paired_mono psy fun _ _ r => r.mono t2) ⟨z, p1, b, rfl, tw _ _ upd_same, t2 _ _ hp1, t2 _ _ hb⟩
        have hF2 : upd (upd Hy' z (.tup [.ref p1, sV sg, .ref b])) Sn (.lst (sl ++ [.ref z])) Fd = some (.dT (fT F')) := by rw [upd_ne nSF.symm]; exact sz _ _ hFy
        have hR2 : upd (upd Hy' z (.tup [.ref p1, sV sg, .ref b])) Sn (.lst (sl ++ [.ref z])) Rn = some (.lst rv') := by rw [upd_ne nSR.symm]; exact sz _ _ hRy
        have hlo2 : upd (upd Hy' z (.tup [.ref p1, sV sg, .ref b])) Sn (.lst (sl ++ [.ref z])) lo = some (.lst lv) := by rw [upd_ne nloS]; exact sz _ _ hloy
        have hb2 := t2 _ _ hb
        have pr2 := paired_mono pry fun _ _ (r : PrAt Hy' _ _) => r.mono t2
        have plv2 := paired_mono plvy fun _ _ (r : OnwPAt Hy' _ _) => r.mono t2
        have hS2 : upd (upd Hy' z (.tup [.ref p1, sV sg, .ref b])) Sn (.lst (sl ++ [.ref z])) Sn = some (.lst (sl ++ [.ref z])) := upd_same
        obtain ⟨Hz, hHz⟩ : ∃ Hz, upd (upd Hy' z (.tup [.ref p1, sV sg, .ref b])) Sn (.lst (sl ++ [.ref z])) = Hz := ⟨_, rfl⟩
        rw [hHz] at s2 ps2 hF2 hR2 hlo2 hb2 pr2 plv2 hS2 ⊢
        clear hHz tw t2
        have dn : ((onwProd M N F[i]).take (j + 1)).map (·.2) = ((onwProd M N F[i]).take j).map (·.2) ++ [q'] := by
          rw [et, List.map_append]
          rfl
        refine ⟨_, rfl, _, rfl, Fd, _, rfl, DGet.t (k := kP q') hF2 hb2, _, rfl, ?_⟩
        rw [fT_isSome]
        have Fl' := Flen F' sa.nd sa.re
        by_cases hin : q' ∈ F'
        · rw [decide_eq_true hin]
          refine iteF ⟨F', rv', _, _, _, rfl, s2, hlo2, plv2, hF2, hR2, pr2, hS2, ps2, ?_, ft, fl⟩
          rw [dn]
          exact sa.skip hin
        · rw [decide_eq_false hin]
          have heq : (F[i], q') ∈ es := by
            rw [← hes]
            exact mem_fwd.mpr ⟨sg, e3m⟩
          have sa' := sa.add hin heq
          refine iteT ⟨_, rfl, _, rfl, Fd, _, rfl, DPut.t (k := kP q') hF2 hb2 (by rw [fT_len]; omega), ?_⟩
          rw [fT_put hin]
          have t1 : TupS Hz (upd Hz Fd (.dT (fT (F' ++ [q'])))) := TupS.upd hF2 fun xs z => by cases z
          have hR3 : upd Hz Fd (.dT (fT (F' ++ [q']))) Rn = some (.lst rv') := by rw [upd_ne nFR.symm]; exact hR2
          have t2 : TupS (upd Hz Fd (.dT (fT (F' ++ [q'])))) (upd (upd Hz Fd (.dT (fT (F' ++ [q'])))) Rn (.lst (rv' ++ [.ref b]))) := TupS.upd hR3 fun xs z => by cases z
          have t12 := t1.trans t2
          refine ⟨_, rfl, .inl ⟨rfl, _, .inl (.inl hR3)⟩, _, rfl, Rn, _, _, rfl, rfl, hR3, by rw [Paired.length pr2]; omega, ?_⟩
          refine ⟨F' ++ [q'], rv' ++ [.ref b], _, _, _, rfl, same_new (same_new s2 hFd) HRn, by rw [upd_ne nloR, upd_ne nloF]; exact hlo2, paired_mono plv2 fun _ _ r => r.mono t12, by rw [upd_ne nFR, upd_same], upd_same, paired_snoc (paired_mono pr2 fun _ _ r => r.mono t12) ⟨b, rfl, t12 _ _ hb2⟩, by rw [upd_ne nSR, upd_ne nSF]; exact hS2, paired_mono ps2 fun _ _ r => r.mono t12, ?_, ?_, ?_⟩
          · rw [dn, List.drop_append_of_le_length (by omega)]
            exact sa'
          · rw [List.take_append_of_le_length (by omega)]
            exact ft
          · rw [List.length_append]
            omega
      · rintro σ Hy ⟨F', rv', sl, y2, y7, rfl, sy, hloy, plvy, hFy, hRy, pry, hSy, psy, sa, ft, fl⟩
        rw [Paired.length plvy, List.take_length] at psy sa
        refine ⟨_, rfl, _, _, rfl, rfl, ?_⟩
        refine ⟨1000 - (i + 1), by omega, i + 1, F', rv', sl, y2, y7, rfl, rfl, sy, hFy, hRy, pry, hSy, ?_, sa.next fun q' hq => ?_⟩
        · rw [ft, stepsOf_snoc hFi]
          exact psy
        · rw [← hes] at hq
          obtain ⟨sg, h⟩ := mem_fwd.mp hq
          exact List.mem_map.mpr ⟨(sg, q'), mem_onwProd.mpr h, rfl⟩
    · rw [decide_eq_false (by omega)]
      have e0 : F.drop i = [] := List.drop_eq_nil_of_le (by omega)
      have e1 : F.take i = F := List.take_of_length_le (by omega)
      rw [e0] at sr
      rw [e1] at ps
      refine iteF ⟨_, rfl, _, rfl, (by show 2 ≤ sizeLine; decide), fun t ht => ?_⟩
      have st := same_upd ht (o := .tup [.ref Rn, .ref Sn])
      exact q t Rn Sn rv sl F _ (sx.trans st) upd_same (st _ _ hRx) (paired_mono pr fun _ _ r => r.mono (TupS.same st)) sr.nd (fun p => sr.done p) (st _ _ hSx) (paired_mono ps fun _ _ r => r.mono (TupS.same st))
end
end KM
/-! text KCF -/
set_option Elab.async false
set_option linter.all false
set_option maxRecDepth 100000
set_option maxHeartbeats 4000000
/-! {k: v for .. for ..}: two clauses. -/
namespace KM
open PySem PySem.Spec PyProof.Rows L2
/-- the comprehension -/
abbrev dc2 (kx vx t0 i0 : Expr) (f0 : List Expr) (t1 i1 : Expr) (f1 : List Expr) (sc : Scope) (pos : Pos) : Expr := .DictComp kx vx [⟨t0, i0, f0, 0⟩, ⟨t1, i1, f1, 0⟩] sc pos
section
variable {prog : Program} {w : World} {A : Around} {R : Result → Shared → Prop} {s : Shared} {kx vx t0 i0 t1 i1 : Expr} {f0 f1 : List Expr} {sc : Scope} {pos : Pos} {it : Value} {D : Addr} {env : Env}
abbrev dNote (prog : Program) (w : World) (A : Around) (env : Env) (R : Result → Shared → Prop) : Value → Shared → Prop := notedBy (model prog w) A env fun e s' => R (.error e) s'
theorem dc2_loop0 {acc : Value} (hs : ∀ x, foldedSetIterable i1 env x = pure x) (I : Nat → Shared → Prop)
    (turn : ∀ n s, I n s → wpAny (model prog w) A (pyNext it) (fun r s1 => match r with
      | none => R (.ok .next) s1
      | some v => wpAny (model prog w) A (letOwnedTupleGo t0 it v) (fun _ s2 => wpAny (model prog w) A (assign t0 env v) (fun _ s3 => wpAny (model prog w) A (testsT f0 env) (fun ok s4 =>
          if ok = true then wpAny (model prog w) A (eval i1 env) (fun x s5 => wpAny (model prog w) A (pyIter x) (fun it1 s6 => codeAny (model prog w) A (.compStart (dc2 kx vx t0 i0 f0 t1 i1 f1 sc pos) 1 it1 acc env) (fun r s' => match r with
            | .ok _ => ∃ m, m < n ∧ I m s'
            | .error _ => False) s6) (dNote prog w A env R) s5) (dNote prog w A env R) s4
          else ∃ m, m < n ∧ I m s4) (dNote prog w A env R) s3) (dNote prog w A env R) s2) (dNote prog w A env R) s1) (dNote prog w A env R) s)
    (n : Nat) (h : I n s) : codeAny (model prog w) A (.compLoop (dc2 kx vx t0 i0 f0 t1 i1 f1 sc pos) 0 it acc env) R s := by
  refine codeAny_loop rfl I (fun n s hI => ?_) n h
  show wpAny _ A ((compTurn (dc2 kx vx t0 i0 f0 t1 i1 f1 sc pos) 0 it acc env).onRaise (fun x => do noteFrame x env; theTreesLotGoes x)) _ _ s
  refine wpAny_noted ?_
  unfold compTurn
  simp only [dc2, List.getElem?_cons_zero, List.getElem?_cons_succ, List.getElem?_nil, bne_self_eq_false, Bool.false_eq_true, if_false, Nat.reduceAdd]
  refine wpAny_bind (wpAny_standAt (wpAny_bind (thn (turn n s hI) fun r s1 h1 => ?_)))
  cases r with
  | none => exact wpAny_pure h1
  | some v =>
    refine wpAny_bind (thn h1 fun _ s2 h2 => wpAny_bind (thn h2 fun _ s3 h3 => wpAny_bind (thn h3 fun ok s4 h4 => ?_)))
    cases ok with
    | false => exact wpAny_pure ⟨rfl, h4⟩
    | true =>
      refine wpAny_bind (thn h4 fun x s5 h5 => wpAny_bind (wpAny_standAt (wpAny_bind (wpAny_of_eq (hs x) (wpAny_bind (wpAny_holding (thn h5 fun it1 s6 h6 => wpAny_bind (wpAny_runOwn ?_))))))))
      rw [Around.mark_none]
      refine codeAny_mono h6 fun r s' hr => ?_
      cases r with
      | ok f =>
        first
          | exact wpAny_pure ⟨rfl, hr⟩
          | exact wpAny_bind (wpAny_pure (wpAny_pure ⟨rfl, hr⟩))
      | error e => exact hr.elim
theorem dc2_loop1 (I : Nat → Shared → Prop)
    (turn : ∀ n s, I n s → wpAny (model prog w) A (pyNext it) (fun r s1 => match r with
      | none => R (.ok .next) s1
      | some v => wpAny (model prog w) A (letOwnedTupleGo t1 it v) (fun _ s2 => wpAny (model prog w) A (assign t1 env v) (fun _ s3 => wpAny (model prog w) A (testsT f1 env) (fun ok s4 =>
          if ok = true then wpAny (model prog w) A (eval kx env) (fun k s5 => wpAny (model prog w) A (eval vx env) (fun v s6 => wpAny (model prog w) A (dictSet D k v) (fun _ s7 => ∃ m, m < n ∧ I m s7) (dNote prog w A env R) s6) (dNote prog w A env R) s5) (dNote prog w A env R) s4
          else ∃ m, m < n ∧ I m s4) (dNote prog w A env R) s3) (dNote prog w A env R) s2) (dNote prog w A env R) s1) (dNote prog w A env R) s)
    (n : Nat) (h : I n s) : codeAny (model prog w) A (.compLoop (dc2 kx vx t0 i0 f0 t1 i1 f1 sc pos) 1 it (.ref D) env) R s := by
  refine codeAny_loop rfl I (fun n s hI => ?_) n h
  show wpAny _ A ((compTurn (dc2 kx vx t0 i0 f0 t1 i1 f1 sc pos) 1 it (.ref D) env).onRaise (fun x => do noteFrame x env; theTreesLotGoes x)) _ _ s
  refine wpAny_noted ?_
  unfold compTurn
  simp only [dc2, List.getElem?_cons_zero, List.getElem?_cons_succ, List.getElem?_nil, bne_self_eq_false, Bool.false_eq_true, if_false, Nat.reduceAdd]
  refine wpAny_bind (wpAny_standAt (wpAny_bind (thn (turn n s hI) fun r s1 h1 => ?_)))
  cases r with
  | none => exact wpAny_pure h1
  | some v =>
    refine wpAny_bind (thn h1 fun _ s2 h2 => wpAny_bind (thn h2 fun _ s3 h3 => wpAny_bind (thn h3 fun ok s4 h4 => ?_)))
    cases ok with
    | false => exact wpAny_pure ⟨rfl, h4⟩
    | true => exact wpAny_bind (wpAny_bind (thn h4 fun k s5 h5 => wpAny_bind (wpAny_holding (thn h5 fun v s6 h6 => wpAny_bind (wpAny_standAt (wpAny_holding (thn h6 fun _ s7 h7 => wpAny_pure ⟨rfl, h7⟩)))))))
theorem dc2_start1 {acc : Value} (h0 : codeAny (model prog w) A (.compLoop (dc2 kx vx t0 i0 f0 t1 i1 f1 sc pos) 1 it acc env) R s)
    (h : wpAny (model prog w) A (pyIter it) (fun it' s' => codeAny (model prog w) A (.compLoop (dc2 kx vx t0 i0 f0 t1 i1 f1 sc pos) 1 it' acc env) R s') (dNote prog w A env R) s) :
    codeAny (model prog w) A (.compStart (dc2 kx vx t0 i0 f0 t1 i1 f1 sc pos) 1 it acc env) R s := by
  refine codeAny_of_tree ?_
  show wpAny _ _ ((compStart (dc2 kx vx t0 i0 f0 t1 i1 f1 sc pos) 1 it acc env).onRaise (fun x => do noteFrame x env; standAt theWindowsPlace)) _ _ s
  refine wpAny_notedAt ?_
  unfold compStart
  show wpAny _ _ (ask >>= _) _ _ s
  refine wpAny_bind (wpAny_askSetting (wpAny_ite ?_))
  split
  · first
      | exact wpAny_bind (wpAny_pure (wpAny_pure (And.intro rfl h0)))
      | exact wpAny_pure (And.intro rfl h0)
  · first
      | exact wpAny_bind (wpAny_rule (wpAny_bind (wpAny_standAt (wpAny_bind (wpAny_mono h (fun it' s' h' => wpAny_pure (And.intro rfl h')) fun _ _ x => x)))))
      | (refine wpAny_bind (wpAny_rule ?_); show wpAny _ _ (standAt i1.pos >>= _) _ _ s; exact wpAny_bind (wpAny_standAt (wpAny_bind (wpAny_mono h (fun it' s' h' => wpAny_pure (And.intro rfl h')) fun _ _ x => x))))
end
section
variable {X : Cx}
/-- what the second clause asks: its walk, a put at each turn -/
def accDc2 (wi1 : TI) (g1 : TG) (tt1 : TT) (tk tv : TE) (vs1 : List Nat) : L2.St → Hp → Addr → (Hp → Prop) → Prop := fun σ H D Nx => wi1 σ H fun J H1 => ∃ W : Nat → Nat → Hp → Prop, (∃ k, W 0 k H1) ∧ ∀ j k Hj, W j k Hj →
  (J.stop j Hj ∧ Nx Hj) ∨ (J.go j Hj ∧ ∃ Nx1 : Hp → Prop, (∀ H', Nx1 H' → ∃ k', k' < k ∧ W (j + 1) k' H') ∧
    ∀ x H', J.yld j Hj x H' → g1 x (wipe σ vs1) H' fun σ3 H5 => wipe σ3 vs1 = wipe σ vs1 ∧ tt1 σ3 H5 fun b H6 => if b = true then accD tk tv σ3 H6 D Nx1 else Nx1 H6)
def tDc2 (wi : TI) (g : TG) (tt : TT) (wi1 : TI) (g1 : TG) (tt1 : TT) (tk tv : TE) (vs vs1 : List Nat) : TE := tComp (fun _ => .dT []) wi g tt (accDc2 wi1 g1 tt1 tk tv vs1) vs
theorem sink_dc2 {kx vx tg iter tg1 iter1 : Expr} {ifs ifs1 : List Expr} {scope : Scope} {vs vs1 : List Nat} {pos : Pos} {wi1 : TI} {g1 : TG} {tt1 : TT} {tk tv : TE} (hu : X.A.units < cLine) (hc : X.calm = true) (hv : ∀ i ∈ vs1, i ∈ vs)
    (hi1 : ∀ s H C cl fp, PI (X.blk s H scope (compEnvC scope cl C X.env) fp) tg1 iter1 wi1) (hg1 : ∀ s H C cl fp, PG (X.blk s H scope (compEnvC scope cl C X.env) fp) tg1 g1) (ht1 : ∀ s H C cl fp, PTs (X.blk s H scope (compEnvC scope cl C X.env) fp) ifs1 tt1)
    (hk : ∀ s H C cl fp, PE (X.blk s H scope (compEnvC scope cl C X.env) fp) kx tk) (hvx : ∀ s H C cl fp, PE (X.blk s H scope (compEnvC scope cl C X.env) fp) vx tv) (hs1 : ∀ env x, foldedSetIterable iter1 env x = pure x) :
    Sink X (dc2 kx vx tg iter ifs tg1 iter1 ifs1 scope pos) tg iter ifs scope newDict { cls := .type "dict", data := .dict #[] } (fun _ => .dT []) (accDc2 wi1 g1 tt1 tk tv vs1) vs where
  cls := ⟨_, rfl⟩
  mkOk := fun E Q s h => wpAny_newObj_type h
  empOk := fun _ h hb => dt_empty h hb
  start := fun it D env R s h0 h => codeAny_compStart_dict h0 (h _)
  loop := fun s0 H0 C cl fp it D R I turn n s hI => by
    have pi1 := hi1 s0 H0 C cl fp
    have pg1 := hg1 s0 H0 C cl fp
    have pt1 := ht1 s0 H0 C cl fp
    have pk := hk s0 H0 C cl fp
    have pv := hvx s0 H0 C cl fp
    obtain ⟨ce, hce⟩ : ∃ ce, compEnvC scope cl C X.env = ce := ⟨_, rfl⟩
    rw [hce] at pi1 pg1 pt1 pk pv turn ⊢
    refine dc2_loop0 (hs1 ce) I (fun n s hn => ?_) n hI
    refine thn (turn n s hn _) fun r s1 h1 => ?_
    cases r with
    | none => exact h1
    | some v =>
      refine thn h1 fun _ s2 h2 => thn h2 fun _ s3 h3 => thn h3 fun ok s4 h4 => ?_
      cases ok with
      | false => exact h4
      | true =>
        simp only [if_true] at h4 ⊢
        obtain ⟨pins, σ, H, Nx, I4, walk, fin⟩ := h4
        refine thnF (pi1.run pins s4 σ H _ I4 walk) fun xv s5 h5 => thnF h5 fun iv s6 h6 => ?_
        obtain ⟨it1, fp1, tn, J, H6, rfl, I6, T, st6, free6, W, ⟨m1, w1⟩, turn1⟩ := h6
        -- the second clause's turns
        have inner : codeAny (model X.prog X.w) X.A (.compLoop (dc2 kx vx tg iter ifs tg1 iter1 ifs1 scope pos) 1 (.ref it1) (.ref D) ce) (fun r s' => match r with
            | .ok _ => ∃ m, m < n ∧ I m s'
            | .error _ => False) s6 := by
          refine dc2_loop1 (fun k s' => ∃ j H', Inv (X.blk s0 H0 scope ce fp) pins (wipe σ vs1) H' s' ∧ tn j s'.heap ∧ (∀ b ∈ fp1, H' b = none) ∧ W j k H') (fun k s7 ⟨j, H7, I7, st7, none7, w7⟩ => ?_) m1
            ⟨0, H6, I6.weak (wipe_length _ _) (fun j v e => (wipe_some e).1), st6, fun b hb => (free6 b hb).1, w1⟩
          have at7 : ∀ b ∈ fp1, FpOk (X.blk s0 H0 scope ce fp) pins H7 b := fun b hb => ⟨none7 b hb, (free6 b hb).2⟩
          rcases turn1 j k H7 w7 with ⟨stop, nx⟩ | ⟨go, Nx1, hNx1, step⟩
          · refine thnF (T.done (X.blk s0 H0 scope ce fp) rfl rfl rfl hc j _ s7 (wipe σ vs1) H7 (fun _ _ => False) I7 at7 st7 stop) fun r s8 ⟨er, I8⟩ => ?_
            subst er
            exact fin (wipe σ vs1) s8 H7 ⟨wipe_length _ _, fun i v ni e => by rw [wipe_out fun z => ni (hv i z)]; exact e⟩ I8 nx
          · refine thnF (T.item (X.blk s0 H0 scope ce fp) rfl rfl rfl hc j _ s7 (wipe σ vs1) H7 (fun _ _ => False) I7 at7 st7 go) fun r s8 ⟨u, er, h8⟩ => ?_
            subst er
            refine thnF h8 fun _ s9 ⟨x, H9, I9, r9, y9, st9, none9⟩ => ?_
            have P9 := I9.pinned (fun b hb => ⟨none9 b hb, (free6 b hb).2⟩) (T.obj _ _ st9)
            refine thnF (pg1.run _ s9 (wipe σ vs1) H9 x u _ P9 r9 (step x H9 y9)) fun _ s10 ⟨σ10, H10, I10, w10, q10⟩ => thnF (pt1.run _ s10 σ10 H10 _ I10 q10) fun b s11 ⟨H11, I11, q11⟩ => ?_
            have next : ∀ {s' : Shared} {H' : Hp}, Inv (X.blk s0 H0 scope ce fp) (pins ++ pinsAt fp1 s9.heap) σ10 H' s' → Nx1 H' → ∃ m, m < k ∧ ∃ j H', Inv (X.blk s0 H0 scope ce fp) pins (wipe σ vs1) H' s' ∧ tn j s'.heap ∧ (∀ b ∈ fp1, H' b = none) ∧ W j m H' := fun {s' H'} I' nx => by
              obtain ⟨m', lt, w'⟩ := hNx1 H' nx
              have still : ∀ b ∈ fp1, ∀ o, s9.heap.get? b = some o → s'.heap.get? b = some o ∧ H' b = none := fun b hb o e =>
                let p := I'.pin (b, o) (List.mem_append_right _ (List.mem_append_right _ (mem_pinsAt hb e)))
                ⟨p.1, p.2.1⟩
              have len10 : (wipe σ vs1).length = σ10.length := by rw [← w10]; exact wipe_length _ _
              refine ⟨m', lt, j + 1, H', I'.unpinned.weak len10 (fun i v e => (wipe_some (by rw [← w10] at e; exact e)).1), T.keep _ _ _ st9 fun b hb o e => (still b hb o e).1, fun b hb => ?_, w'⟩
              obtain ⟨o, e, _⟩ := T.obj _ _ st9 b hb
              exact (still b hb o e).2
            cases b with
            | false => exact next I11 q11
            | true =>
              refine thnF (pk.run _ s11 σ10 H11 _ I11 q11) fun kv s12 ⟨y, H12, I12, r12, q12⟩ => ?_
              refine thnF (pv.run _ s12 σ10 H12 _ I12 q12) fun vv s13 ⟨z, H13, I13, r13, H14, put, nx⟩ => ?_
              exact dput_ok (X := X.blk s0 H0 scope ce fp) hu I13 put r12 r13 fun s14 I14 => next I14 nx
        exact dc2_start1 inner (T.self X.A 0 _ _ _ st6 inner)
theorem pe_dc2 {kx vx tg iter tg1 iter1 : Expr} {ifs ifs1 : List Expr} {scope : Scope} {own : List (Str × Nat)} {vs1 : List Nat} {pos : Pos} {wi wi1 : TI} {g g1 : TG} {tt tt1 : TT} {tk tv : TE} (hu : X.A.units < cLine) (hc : X.calm = true) (hN : X.N.Nodup) (hi : PI X tg iter wi) (ok : BlkOk X.N X.env.scope scope own) (hv : ∀ i ∈ vs1, i ∈ own.map (·.2))
    (hg : ∀ s H C cl fp, PG (X.blk s H scope (compEnvC scope cl C X.env) fp) tg g) (ht : ∀ s H C cl fp, PTs (X.blk s H scope (compEnvC scope cl C X.env) fp) ifs tt)
    (hi1 : ∀ s H C cl fp, PI (X.blk s H scope (compEnvC scope cl C X.env) fp) tg1 iter1 wi1) (hg1 : ∀ s H C cl fp, PG (X.blk s H scope (compEnvC scope cl C X.env) fp) tg1 g1) (ht1 : ∀ s H C cl fp, PTs (X.blk s H scope (compEnvC scope cl C X.env) fp) ifs1 tt1)
    (hk : ∀ s H C cl fp, PE (X.blk s H scope (compEnvC scope cl C X.env) fp) kx tk) (hvx : ∀ s H C cl fp, PE (X.blk s H scope (compEnvC scope cl C X.env) fp) vx tv) (hs : ∀ x, foldedSetIterable iter X.env x = pure x := by intro _; rfl) (hs1 : ∀ env x, foldedSetIterable iter1 env x = pure x := by intro _ _; rfl) :
    PE X (dc2 kx vx tg iter ifs tg1 iter1 ifs1 scope pos) (tDc2 wi g tt wi1 g1 tt1 tk tv (own.map (·.2)) vs1) :=
  pe_comp (sink_dc2 hu hc hv hi1 hg1 ht1 hk hvx hs1) (arm_eval_DictComp _ _ _ _ _ _) hc hN hi ok hg ht hs
end
end KM
/-! text KW24 -/
set_option Elab.async false
set_option linter.all false
set_option maxRecDepth 100000
set_option maxHeartbeats 4000000
namespace KM
open PySem PySem.Spec PyProof.Rows L2 NdefX LamX
theorem paired_perm {α β : Type} {F : α → β → Prop} {l l' : List α} {m : List β} (hp : Paired F l m) (pm : l'.Perm l) : ∃ m', m'.Perm m ∧ Paired F l' m' := by
  induction pm generalizing m with
  | nil =>
    cases hp
    exact ⟨[], .nil, .nil⟩
  | cons x _ ih =>
    cases hp with
    | cons h t =>
      obtain ⟨m', p, q⟩ := ih t
      exact ⟨_ :: m', p.cons _, .cons h q⟩
  | swap x y l =>
    cases hp with
    | cons h t =>
      cases t with
      | cons h2 t2 => exact ⟨_, .swap _ _ _, .cons h2 (.cons h t2)⟩
  | trans _ _ ih1 ih2 =>
    obtain ⟨m1, p1, q1⟩ := ih2 hp
    obtain ⟨m2, p2, q2⟩ := ih1 q1
    exact ⟨m2, p2.trans p1, q2⟩
theorem MachAt.ext {C : Addr} {H H' : Hp} {a : Addr} {M : Mch} (e : ExtN H H') (h : MachAt C H a M) : MachAt C H' a M := by
  obtain ⟨dx, tb, ts, te, lo, sv, las, h1, h2, h3, h4, h5, h6, h7, h8⟩ := h.ex
  have tp : TupS H H' := fun b xs z => e _ _ z (fun _ q => by cases q)
  refine ⟨dx, tb, ts, te, lo, sv, las, e _ _ h1 (fun _ q => by cases q), tp _ _ h2, tp _ _ h3, paired_mono h4 fun _ _ r => Tup.mono tp r, tp _ _ h5, e _ _ h6 (fun _ q => by cases q), h7, fun p la hp => ?_⟩
  obtain ⟨ov, q1, q2⟩ := h8 p la hp
  exact ⟨ov, e _ _ q1 (fun _ q => by cases q), paired_mono q2 fun _ _ r => Tup.mono tp r⟩
section
variable {P : Program} {w : World} {K : PySem.W.Frag} {mg : Str → Option Value} {base : Heap}
/-- the code object of a def and its table -/
structure CodeT (K : PySem.W.Frag) (mg : Str → Option Value) (base : Heap) (fd : FuncData) (Pt : Addr) : Prop where
  ex : ∃ c, fd.code = .ref c ∧ TabB base mg c Pt
theorem FnP.okC {x q : Str} {st : Stmt} {f : Addr} {fd : FuncData} {N ps : List Str} {k : Nat} {sp : Sp} (F : FnP K x q st f fd) (S : FnScope N ps (defScope st)) (len : ∀ vs H Q E, sp vs H Q E → vs.length = ps.length)
    (hbody : ∀ (A : Around) (outer : List Env) (s : Shared) (H : Hp) (vs : List V) (Q : VK) (E : XK), Room k (A.deeper (envOfC q (defScope st) s.heap.objs.size f fd.code)) → sp vs H Q E →
      ∃ t, PSs (cxOf CX0 P w K mg base N q (defScope st) f fd.code A outer s H E).nox (defBody st) t ∧ t { nx := fun _ H' => Q .non H', rt := Q } (start N vs) H) : FnOk P w K mg base CX0 (k + 1) f fd ps sp := by
  obtain ⟨oc, od, dV, kV, doc, pm, an, cdv, ct, osl, rfl, lk, hcd, _, _⟩ := F.ex
  exact fn_of lk hcd S len fun A outer s H vs Q E hr hsp => by
    obtain ⟨t, h, z⟩ := hbody A outer s H vs Q E hr hsp
    exact ⟨t, h.nox, z⟩
/-- the reading of {(a, b): True for a in one.x for b in other.y} -/
theorem pairs_dT {tx ty : Addr} {as bs : List Nat} {vs vs1 : List Nat} {σ : L2.St} {H1 : Hp} {D : Addr} {Qd : Hp → Prop} {i1 i2 : Nat} {wi1 : TI} {tk : TE} (hD : H1 D = none) (hx' : H1 tx = some (.tup (as.map nV))) (hy : H1 ty = some (.tup (bs.map nV))) (na : as.Nodup) (nb : bs.Nodup) (hla : as.length ≤ 1000) (hlb : bs.length ≤ 1000)
    (hin : ∀ (v : V) (H : Hp) (Q : It → Hp → Prop), Same H1 H → Q (Itt K ty) H → wi1 ((wipe σ vs).set i1 (some v)) H Q)
    (hw : ∀ v, wipe ((wipe σ vs).set i1 (some v)) vs = wipe σ vs) (hw1 : ∀ v v', wipe ((wipe ((wipe σ vs).set i1 (some v)) vs1).set i2 (some v')) vs1 = wipe ((wipe σ vs).set i1 (some v)) vs1)
    (hte : ∀ (a b : Nat) (H : Hp) (Q : VK), (∀ t, H t = none → Q (.ref t) (upd H t (.tup [nV a, nV b]))) → tk ((wipe ((wipe σ vs).set i1 (some (nV a))) vs1).set i2 (some (nV b))) H Q)
    (hd : ∀ (H' : Hp), Same H1 H' → H' D = some (.dT (fT (prodP as bs))) → Qd H') :
    ∃ W : Nat → Nat → Hp → Prop, (∃ m, W 0 m (upd H1 D (.dT []))) ∧ ∀ i m H, W i m H →
      ((Itt K tx).stop i H ∧ Qd H) ∨ ((Itt K tx).go i H ∧ ∃ Nx : Hp → Prop, (∀ H', Nx H' → ∃ m', m' < m ∧ W (i + 1) m' H') ∧ ∀ x H', (Itt K tx).yld i H x H' → gName i1 x (wipe σ vs) H' fun σ2 H2 => wipe σ2 vs = wipe σ vs ∧ tYes σ2 H2 fun b H3 =>
        if b = true then wi1 σ2 H3 fun J1 H4 => ∃ W1 : Nat → Nat → Hp → Prop, (∃ m, W1 0 m H4) ∧ ∀ j k H, W1 j k H →
          (J1.stop j H ∧ Nx H) ∨ (J1.go j H ∧ ∃ Nx1 : Hp → Prop, (∀ H', Nx1 H' → ∃ k', k' < k ∧ W1 (j + 1) k' H') ∧ ∀ x H', J1.yld j H x H' → gName i2 x (wipe σ2 vs1) H' fun σ3 H5 => wipe σ3 vs1 = wipe σ2 vs1 ∧ tYes σ3 H5 fun b H6 =>
            if b = true then accD tk (tC (.bl true)) σ3 H6 D Nx1 else Nx1 H6)
        else Nx H3) := by
  have wa : Walk (Itt K tx) as.length (fun H => SqT K H tx (as.map nV)) (YAt (as.map nV)) := by
    have := walk_tup (K := K) (a := tx) (xs := as.map nV)
    rw [List.length_map] at this
    exact this
  have wb : Walk (Itt K ty) bs.length (fun H => SqT K H ty (bs.map nV)) (YAt (bs.map nV)) := by
    have := walk_tup (K := K) (a := ty) (xs := bs.map nV)
    rw [List.length_map] at this
    exact this
  have ga : ∀ {H : Hp}, Same H1 H → SqT K H tx (as.map nV) := fun s => .inl (.inl (s _ _ hx'))
  have gb : ∀ {H : Hp}, Same H1 H → SqT K H ty (bs.map nV) := fun s => .inl (.inl (s _ _ hy))
  refine ⟨fun i m H => m = as.length - i ∧ i ≤ as.length ∧ Same H1 H ∧ H D = some (.dT (fT (prodP (as.take i) bs))), ⟨as.length, by simp, Nat.zero_le _, same_upd hD, upd_same⟩, ?_⟩
  rintro i m H ⟨rfl, hi, s1, hDi⟩
  by_cases hlt : i < as.length
  · refine .inr ⟨wa.goes i H hlt (ga s1), fun H' => Same H1 H' ∧ H' D = some (.dT (fT (prodP (as.take (i + 1)) bs))), fun H' z => ⟨as.length - (i + 1), by omega, rfl, hlt, z⟩, fun x H' y => ?_⟩
    obtain ⟨rfl, hv⟩ := wa.yields i H x H' hlt (ga s1) y
    have hai : as[i]? = some as[i] := List.getElem?_eq_getElem hlt
    rw [List.getElem?_map, hai] at hv
    cases hv
    refine ⟨hw _, ?_⟩
    show wi1 _ H' _
    refine hin _ _ _ s1 ⟨fun j k H => k = bs.length - j ∧ j ≤ bs.length ∧ Same H1 H ∧ H D = some (.dT (fT (prodP (as.take i) bs ++ (bs.take j).map fun b => (as[i], b)))), ⟨bs.length, by simp, Nat.zero_le _, s1, by simpa using hDi⟩, ?_⟩
    rintro j k Hj ⟨rfl, hj, sj, hDj⟩
    by_cases hlt1 : j < bs.length
    · refine .inr ⟨wb.goes j Hj hlt1 (gb sj), fun H => Same H1 H ∧ H D = some (.dT (fT (prodP (as.take i) bs ++ (bs.take (j + 1)).map fun b => (as[i], b)))), fun H' z => ⟨bs.length - (j + 1), by omega, rfl, hlt1, z⟩, fun x H' y => ?_⟩
      obtain ⟨rfl, hv⟩ := wb.yields j Hj x H' hlt1 (gb sj) y
      have hbj : bs[j]? = some bs[j] := List.getElem?_eq_getElem hlt1
      rw [List.getElem?_map, hbj] at hv
      cases hv
      refine ⟨hw1 _ _, ?_⟩
      show accD tk (tC (.bl true)) _ H' D _
      refine hte _ _ _ _ fun t ht => ?_
      have st := same_upd ht (o := .tup [nV as[i], nV bs[j]])
      have hDt := st _ _ hDj
      have hn : (as[i], bs[j]) ∉ prodP (as.take i) bs ++ (bs.take j).map fun b => (as[i], b) := fun hm => by
        rcases List.mem_append.mp hm with hm | hm
        · exact take_fresh' na hai (mem_prodP.mp hm).1
        · obtain ⟨b, hb, e⟩ := List.mem_map.mp hm
          have e : b = bs[j] := (Prod.mk.inj e).2
          rw [e] at hb
          exact take_fresh' nb hbj hb
      refine ⟨_, DPut.t (k := kP (as[i], bs[j])) hDt upd_same ?_, same_new (sj.trans st) hD, ?_⟩
      · rw [fT_len, List.length_append, prodP_len, List.length_map, List.length_take, List.length_take]
        have l1 : min i as.length ≤ 1000 := Nat.le_trans (Nat.min_le_right _ _) hla
        have l2 : min j bs.length ≤ 1000 := Nat.le_trans (Nat.min_le_right _ _) hlb
        have := Nat.mul_le_mul l1 hlb
        have : (1000 * 1000 + 1000 : Nat) < sizeLine := by decide
        omega
      · rw [upd_same, fT_put hn]
        have e : (bs.take (j + 1)).map (fun b => (as[i], b)) = (bs.take j).map (fun b => (as[i], b)) ++ [(as[i], bs[j])] := by
          rw [List.take_succ, hbj, List.map_append]
          rfl
        rw [e, List.append_assoc]
    · have e : j = bs.length := by omega
      subst e
      refine .inl ⟨wb.stops Hj (gb sj), sj, ?_⟩
      rw [prodP_snoc hai]
      rw [List.take_length] at hDj
      exact hDj
  · have e : i = as.length := by omega
    subst e
    refine .inl ⟨wa.stops H (ga s1), hd H s1 ?_⟩
    rw [List.take_length] at hDi
    exact hDi
/-- the nested def's name in full -/
def qnA : Str := (envOfC "apart" (defScope sApart) 0 0 .none).qual ++ "onward"
def spApart (C Pt : Addr) : Sp := fun vs H Q _ => ∃ (x y : Addr) (M N : Mch), vs = [.ref x, .ref y] ∧ MachAt C H x M ∧ MachAt C H y N ∧ M.WF ∧ N.WF ∧ M.begins.length * N.begins.length + M.steps.length * N.steps.length ≤ 1000 ∧ M.ends.length * N.ends.length + M.steps.length * N.steps.length ≤ 1000 ∧ M.many * N.many ≤ 500 ∧ TabsN [(Pt, fun _ _ => qnA)] H ∧
  (∀ (t l : Addr) (lv : List V) (F : List Pr) H', ExtN H H' → TabsN [(Pt, fun _ _ => qnA)] H' → H' t = some (.tup [.str "apart", .ref l]) → H' l = some (.lst lv) → Paired (PrAt H') lv F → F.Nodup → (∀ p ∈ F, p.1 < M.many ∧ p.2 < N.many) → Paper M N F → Q (.ref t) H') ∧
  ∀ (t : Addr) (u : List Nat) H', ExtN H H' → TabsN [(Pt, fun _ _ => qnA)] H' → H' t = some (.tup [.str "met", sV u]) → IsLeast (fun v => M.Acc v ∧ N.Acc v) u → Q (.ref t) H'
abbrev nmApart : List Str := ["one", "other", "onward", "begins", "keys", "steps", "ends", "bad", "place", "there", "key"]
theorem scApart : FnScope nmApart ["one", "other"] (defScope sApart) := ⟨rfl, rfl, rfl, by decide +kernel, rfl, by decide +kernel, by decide +kernel⟩
theorem nd_apart : ndefB (defScope sApart) (C8.fnScope sOnward) ["one", "other"] = true := by decide +kernel
abbrev posOnward : Pos := match sOnward with | .FunctionDef (pos := p) .. => p | _ => ⟨0, 0, 0, 0⟩
theorem ok_apart {C f fi f1 f2 f3 f4 f5 Pt : Addr} {fd fd1 fd2 fd3 fd4 fd5 : FuncData} (F_ : FnP K "apart" "apart" sApart f fd) (B : Bi mg) (T : MC K mg C fi) (TB : CodeT K mg base fd Pt) (F1 : FnP K "common" "common" sCommon f1 fd1) (g1 : mg "common" = some (.ref f1))
    (F2 : FnP K "walked" "walked" sWalked f2 fd2) (g2 : mg "walked" = some (.ref f2)) (F3 : FnP K "least_text" "least_text" sLeastText f3 fd3) (g3 : mg "least_text" = some (.ref f3)) (O3 : FnOk P w K mg base CX0 2 f3 fd3 ["machine"] (spLeastText C))
    (F4 : FnP K "assembled" "assembled" sAssembled f4 fd4) (g4 : mg "assembled" = some (.ref f4)) (O4 : FnOk P w K mg base CX0 7 f4 fd4 ["begins", "steps", "ends"] (spAssembled C)) (F5 : FnP K "together" "together" sTogether f5 fd5) (g5 : mg "together" = some (.ref f5)) :
    FnOk P w K mg base CX0 8 f fd ["one", "other"] (spApart C Pt) := by
  obtain ⟨c, hcode, tb⟩ := TB.ex
  have O2 : FnOkC P w K mg base CX0 3 f2 fd2 ["begins", "onward"] ["one", "other"] (spWalked C qnA) := ok_walked F2 B T F1 g1
  have O5 : FnOk P w K mg base CX0 1 f5 fd5 ["steps"] spMerged := ok_together F5 B
  have b2 : Binds K fd2 ["begins", "onward"] [] := F2.bindsN fun _ _ _ _ _ _ us hl => match us, hl with | [_, _], _ => rfl
  have b3 : Binds K fd3 ["machine"] [] := F3.bindsN fun _ _ _ _ _ _ us hl => match us, hl with | [_], _ => rfl
  have b4 : Binds K fd4 ["begins", "steps", "ends"] [] := F4.bindsN fun _ _ _ _ _ _ us hl => match us, hl with | [_, _, _], _ => rfl
  have b5 : Binds K fd5 ["steps"] [] := F5.bindsN fun _ _ _ _ _ _ us hl => match us, hl with | [_], _ => rfl
  refine F_.okC scApart (fun vs H Q E h => ?_) (fun A outer s H vs Q E hr h => ?_)
  · obtain ⟨x, y, M, N, rfl, _⟩ := h
    rfl
  · obtain ⟨x, y, M, N, rfl, hM, hN, wm, wn, le1, le2, le3, hT, qa, qm⟩ := h
    have hr3 : Room 3 _ := hr.mono (by decide)
    have hr2 : Room 2 _ := hr.mono (by decide)
    have hr1 : Room 1 _ := hr.mono (by decide)
    refine ⟨_, pss_cons (ps_ndefMS (st := sOnward) (T := [(Pt, fun _ _ => qnA)]) (nm := fun _ _ => qnA) (c := c) (P := Pt) (name := "onward") (pos := posOnward) (i := 2) rfl tb hcode List.mem_cons_self rfl (fun p hp _ => by rw [List.mem_singleton.mp hp]) (ndef_free nd_apart) rfl rfl rfl scApart.nd rfl (.inl rfl) (.inl rfl))
      (pss_cons (ps_setLc2 (i := 3) (own := [("place", 8), ("there", 9)]) (vs1 := [9]) (wi1 := iTup K (tFld K (tVar 1) "begins")) (g := gName 8) (tt := tYes) (g1 := gName 9) (tt1 := tYes) (te := tTup (tCons (tVar 8) (tCons (tVar 9) tNil))) rfl scApart.nd rfl rfl (by unfold swapsWith; rfl) (pi_tup (pe_fld (pv 0) rfl))
        (blkOk_by (N := nmApart) (sc := defScope sApart) (by decide +kernel)) (by decide) (fun _ _ _ _ _ => pg_name (i := 8) scApart.nd rfl (.inl rfl)) (fun _ _ _ _ _ => pts_nil)
        (fun _ _ _ _ _ => pi_tup (pe_fld (pv 1) rfl)) (fun _ _ _ _ _ => pg_name (i := 9) scApart.nd rfl (.inl rfl)) (fun _ _ _ _ _ => pts_nil) (fun _ _ _ _ _ => pe_tup (pa_cons (pv 8) (pa_cons (pv 9) pa_nil))))
      (pss_cons (ps_asg (pe_callC (js := [0, 1]) O2 (fun ok => Caps.made (scope := C8.fnScope sOnward) ok (ndef_free nd_apart) (ndef_fr nd_apart) rfl) (fun _ => rfl) hr3 (by rfl) g2 F2.kp b2 pass0 (pa_cons (pv 3) (pa_cons (pv 2) pa_nil)))
          (pg_tup (by rfl) (pgs_cons (pg_name (i := 4) scApart.nd rfl (.inl rfl)) (pgs_cons (pg_name (i := 5) scApart.nd rfl (.inl rfl)) pgs_nil))))
      (pss_cons (ps_set (i := 6) scApart.nd rfl (.inr rfl) (pe_dc2 (own := [("place", 8), ("there", 9)]) (vs1 := [9]) (wi1 := iTup K (tFld K (tVar 1) "ends")) (g := gName 8) (tt := tYes) (g1 := gName 9) (tt1 := tYes) (tk := tTup (tCons (tVar 8) (tCons (tVar 9) tNil))) (tv := tC (.bl true)) (by exact Nat.lt_of_le_of_lt (Nat.le_add_right _ _) (hu64 hr)) rfl scApart.nd (pi_tup (pe_fld (pv 0) rfl))
        (blkOk_by (N := nmApart) (sc := defScope sApart) (by decide +kernel)) (by decide) (fun _ _ _ _ _ => pg_name (i := 8) scApart.nd rfl (.inl rfl)) (fun _ _ _ _ _ => pts_nil)
        (fun _ _ _ _ _ => pi_tup (pe_fld (pv 1) rfl)) (fun _ _ _ _ _ => pg_name (i := 9) scApart.nd rfl (.inl rfl)) (fun _ _ _ _ _ => pts_nil) (fun _ _ _ _ _ => pe_tup (pa_cons (pv 8) (pa_cons (pv 9) pa_nil))) (fun _ _ _ _ _ => pe_bl)))
      (pss_cons (ps_setLc (i := 7) (own := [("key", 10)]) (g := gName 10) rfl scApart.nd rfl rfl (sw_true rfl rfl rfl (by decide +kernel)) (pi_list (pv 4))
        (blkOk_by (N := nmApart) (sc := defScope sApart) (by decide +kernel)) (fun _ _ _ _ _ => pg_name (i := 10) scApart.nd rfl (.inl rfl))
        (fun _ _ _ _ _ => pts_one (pt_cmp (pc_din (by exact Nat.lt_of_le_of_lt (Nat.add_le_add_left (by decide) _) (hu64 hr)) (pv 10) (pv 6)))) (fun _ _ _ _ _ => pv 10))
      (pss_cons (ps_if (pt_cmpR (op_eqD (by exact hu64 hr)) (pv 7) (pe_lst pa_nil) (nomark _)) (pss_one (ps_ret (pe_tup (pa_cons pe_str (pa_cons (pe_callB cr_sortedP (by rfl) B.sorted (by decide +kernel) (pa_cons (pv 4) pa_nil)) pa_nil))))) pss_nil)
      (pss_one (ps_ret (pe_tup (pa_cons pe_str (pa_cons (pe_call O3 hr2 (by rfl) g3 F3.kp b3 .nil pass0 (pa_cons (pe_call O4 hr (by rfl) g4 F4.kp b4 .nil pass0 (pa_cons (pv 3) (pa_cons (pe_call O5 hr1 (by rfl) g5 F5.kp b5 .nil pass0 (pa_cons (pv 5) pa_nil)) (pa_cons (pv 7) pa_nil)))) pa_nil)) pa_nil)))))))))), ?_⟩
    have line : (1001 : Nat) < sizeLine := by decide
    have ndr : ∀ {l : List Nat}, l.Pairwise (· < ·) → l.Nodup := fun h => h.imp fun h => Nat.ne_of_lt h
    have bl : M.begins.length ≤ M.many := rise_len wm.bRise wm.bLt
    have el : M.ends.length ≤ M.many := rise_len wm.eRise wm.eLt
    have bl' : N.begins.length ≤ N.many := rise_len wn.bRise wn.bLt
    have el' : N.ends.length ≤ N.many := rise_len wn.eRise wn.eLt
    have m1000 := wm.mLe
    have m1000' := wn.mLe
    have sps : M.steps.length * N.steps.length ≤ 1000 := Nat.le_trans (Nat.le_add_left _ _) le1
    refine ⟨hT, fun fo c' H1 eN nn T1 f0 f1 c1 => ?_⟩
    have hM1 := hM.ext eN
    have hN1 := hN.ext eN
    obtain ⟨dx, tb_, ts, te, lo, sv, las, h1, h2, h3, h4, h5, h6, h7, h8⟩ := hM1.ex
    obtain ⟨dx', tb', ts', te', lo', sv', las', h1', h2', h3', h4', h5', h6', h7', h8'⟩ := hN1.ex
    -- begins
    refine ⟨_, rfl, x, C, dx, _, _, rfl, h1, T.cl, T.nBegins, mf_begins _ _ _ _ _, tb_, rfl, ⟨_, .inl (.inl h2)⟩, fun Bd hBd => ?_⟩
    refine pairs_map hBd (.inl (.inl h2)) h2' h2 (by omega) (by omega) (fun v H' Q' s' k => ⟨_, rfl, y, C, dx', _, _, rfl, s' _ _ h1', T.cl, T.nBegins, mf_begins _ _ _ _ _, tb', rfl, ⟨_, .inl (.inl (s' _ _ h2'))⟩, k⟩) (fun v => rfl) (fun v v' => rfl) (fun a b H' Q' k => ⟨_, rfl, _, rfl, (by show 2 ≤ sizeLine; decide), k⟩) (fun H2 bv s2 hB2 pB2 => ?_)
    -- walked
    refine ⟨_, rfl, _, rfl, Bd, fo, c', x, y, bv, M, N, rfl, rfl, s2 _ _ f1, s2 _ _ c1, hB2, pB2, hM1.same s2, hN1.same s2, wm, wn, le1, fun t r l rv sl F H3 s3 ht3 hr3' pr3 ndF memF hl3 pl3 => ?_⟩
    have s13 := s2.trans s3
    refine ⟨t, _, rfl, .inl (.inl ht3), rfl, _, _, rfl, _, _, rfl, rfl, ?_⟩
    have Fin : ∀ p ∈ F, p.1 < M.many ∧ p.2 < N.many := fun p hp => by
      cases (memF p).mp hp with
      | base h =>
        obtain ⟨u, v⟩ := mem_prodP.mp h
        exact ⟨wm.bLt _ u, wn.bLt _ v⟩
      | step _ h =>
        obtain ⟨sg, h⟩ := mem_fwd.mp h
        obtain ⟨g, h', q1, q2, _⟩ := mem_prodS.mp h
        exact ⟨(wm.st.each _ q1).l2, (wn.st.each _ q2).l2⟩
    have Flen : F.length ≤ 500 := by
      have := nodup_sub ndF (l' := prodP (List.range M.many) (List.range N.many)) fun p hp => mem_prodP.mpr ⟨List.mem_range.mpr (Fin p hp).1, List.mem_range.mpr (Fin p hp).2⟩
      rw [prodP_len, List.length_range, List.length_range] at this
      omega
    -- ends
    refine ⟨_, rfl, x, C, dx, _, _, rfl, s13 _ _ h1, T.cl, T.nEnds, mf_ends _ _ _ _ _, te, rfl, ⟨_, .inl (.inl (s13 _ _ h5))⟩, fun Ed hEd => ?_⟩
    refine pairs_dT hEd (s13 _ _ h5) (s13 _ _ h5') (ndr wm.eRise) (ndr wn.eRise) (by omega) (by omega) (fun v H' Q' s' k => ⟨_, rfl, y, C, dx', _, _, rfl, s' _ _ (s13 _ _ h1'), T.cl, T.nEnds, mf_ends _ _ _ _ _, te', rfl, ⟨_, .inl (.inl (s' _ _ (s13 _ _ h5')))⟩, k⟩) (fun v => rfl) (fun v v' => rfl) (fun a b H' Q' k => ⟨_, rfl, _, rfl, (by show 2 ≤ sizeLine; decide), k⟩) (fun H4 s4 hE4 => ?_)
    have s14 := s13.trans s4
    -- bad
    refine ⟨_, rfl, r, rfl, ⟨_, .inl (.inl (s4 _ _ hr3'))⟩, fun Bad hBad => ?_⟩
    have rvl := Paired.length pr3
    refine lc_map hBad PrAt (fun _ _ _ _ e r => r.mono e) (walk_list (xs := rv)) (fun _ s1 => .inl (.inl (s1 _ _ (s4 _ _ hr3')))) (fun i => (F.take i).filter fun p => decide (p ∈ prodP M.ends N.ends)) rfl (by omega) (fun i y Hc H' Post Skip hi sc hy k1 k2 => ?_) (fun H5 av s5 hA5 pA5 => ?_)
    · obtain ⟨rfl, hy⟩ := hy
      obtain ⟨p, e2, b, rfl, hb⟩ := paired_get pr3 hy
      have hb' := sc _ _ (s4 _ _ hb)
      have ext : (F.take (i + 1)).filter (fun p => decide (p ∈ prodP M.ends N.ends)) = (F.take i).filter (fun p => decide (p ∈ prodP M.ends N.ends)) ++ (if p ∈ prodP M.ends N.ends then [p] else []) := by
        rw [List.take_succ, e2, List.filter_append]
        congr 1
        show [p].filter _ = _
        by_cases h : p ∈ prodP M.ends N.ends <;> simp [h]
      refine ⟨rfl, _, rfl, _, rfl, Ed, _, rfl, DGet.t (k := kP p) (sc _ _ hE4) hb', _, rfl, ?_⟩
      rw [fT_isSome]
      by_cases h : p ∈ prodP M.ends N.ends
      · rw [decide_eq_true h]
        refine iteT ⟨_, rfl, k1 _ _ p (Same.refl _) ⟨b, rfl, hb'⟩ ?_⟩
        rw [ext, if_pos h]
      · rw [decide_eq_false h]
        refine iteF (k2 _ (Same.refl _) ?_)
        rw [ext, if_neg h, List.append_nil]
    rw [rvl, List.take_length] at pA5
    have s15 := s14.trans s5
    obtain ⟨bad, hbad⟩ : ∃ bad, (F.filter fun p => decide (p ∈ prodP M.ends N.ends)) = bad := ⟨_, rfl⟩
    rw [hbad] at pA5
    have bmem : ∀ p, p ∈ bad ↔ p ∈ F ∧ p ∈ prodP M.ends N.ends := fun p => by rw [← hbad, List.mem_filter, decide_eq_true_iff]
    have cut : Cut M N F (stepsOf M N F) bad := ⟨memF, fun p sg q => mem_stepsOf, bmem⟩
    -- the test
    refine ⟨_, rfl, Nat.zero_le _, fun e0 he0 => ⟨.list (bad.map pD), .list [], .lst (.inl (.inl (by rw [upd_ne (ne_of_none hA5 he0)]; exact hA5))) (dpAll_pr (paired_mono pA5 fun _ _ r => r.mono (TupS.same (same_upd he0)))), .lst (.inl (.inl upd_same)) .nil, shaped_prs bad, rfl, ?_⟩⟩
    rw [eqv_nil]
    have s6 := same_upd he0 (o := .lst [])
    obtain ⟨H6, hH6⟩ : ∃ H6, upd H5 e0 (.lst []) = H6 := ⟨_, rfl⟩
    rw [hH6] at s6 ⊢
    clear hH6 he0
    have s16 := s15.trans s6
    have s46 := s5.trans s6
    have s36 := s4.trans s46
    have extN : ∀ {H' : Hp}, Same H1 H' → ExtN H H' := fun s => eN.trans (ExtN.of s)
    by_cases hb0 : bad = []
    · rw [hb0]
      refine ⟨true, rfl, iteT ⟨_, rfl, r, rv, rfl, .inl (.inl (s36 _ _ hr3')), fun v hv => ?_, fun ys p pm hp => ?_⟩⟩
      · obtain ⟨i, hi, ei⟩ := List.mem_iff_getElem.mp hv
        obtain ⟨pr, _, b, e, hb⟩ := paired_get pr3 (List.getElem?_eq_some_iff.mpr ⟨hi, ei⟩)
        exact ⟨b, _, _, e, s36 _ _ hb⟩
      · obtain ⟨F', pf, pf2⟩ := paired_perm pr3 pm
        have s7 := same_upd hp (o := .lst ys)
        refine ⟨(by show 2 ≤ sizeLine; decide), fun tt htt => ?_⟩
        have s8 := same_upd htt (o := .tup [V.str "apart", .ref p])
        have s18 := (s16.trans s7).trans s8
        have s38 := (s36.trans s7).trans s8
        rw [hb0] at cut
        exact qa tt p ys F' _ (extN s18) (T1.ext s18) upd_same (s8 _ _ upd_same) (paired_mono pf2 fun _ _ r => r.mono (TupS.same s38)) (pf.nodup_iff.mpr ndF) (fun p hp => Fin p (pf.mem_iff.mp hp)) (cut.paper fun p => pf.mem_iff)
    · have hemp : (bad.map pD).isEmpty = false := by
        cases bad with
        | nil => exact absurd rfl hb0
        | cons a r => rfl
      rw [hemp]
      refine ⟨false, rfl, iteF ?_⟩
      have sok := stepsOf_ok wm wn ndF sps
      have badlen : bad.length ≤ (prodP M.ends N.ends).length := nodup_sub (by rw [← hbad]; exact ndF.sublist List.filter_sublist) fun p hp => ((bmem p).mp hp).2
      have slen := stepsOf_len wm wn ndF
      have plen := prodS_len M.steps N.steps
      rw [prodP_len] at badlen
      refine ⟨_, rfl, _, rfl, l, sl, stepsOf M N F, rfl, s36 _ _ hl3, paired_mono pl3 fun _ _ r => r.mono (TupS.same s36), sok, fun m ml H7 s7 hm7 pm7 => ?_⟩
      have s17 := s16.trans s7
      have s27 := (s3.trans s36).trans s7
      refine ⟨_, rfl, Bd, m, Bad, bv, ml, av, _, _, bad, rfl, s27 _ _ hB2, paired_mono pB2 fun _ _ r => r.mono (TupS.same s27), prodP_nd (ndr wm.bRise) (ndr wn.bRise), hm7, pm7, sok, s7 _ _ (s6 _ _ hA5), paired_mono pA5 fun _ _ r => r.mono (TupS.same (s6.trans s7)), (by rw [← hbad]; exact ndF.sublist List.filter_sublist), by rw [prodP_len]; omega, by omega, fun z R H8 s8 hR asm => ?_⟩
      have accR : ∀ v, R.Acc v ↔ M.Acc v ∧ N.Acc v := fun v => (asm.acc v).trans (cut.acc v)
      refine ⟨z, R, rfl, hR, asm.wf, fun H9 s9 => ⟨fun u hu => ⟨(by show 2 ≤ sizeLine; decide), fun tt htt => ?_⟩, fun hno => ?_⟩⟩
      · have s10 := same_upd htt (o := .tup [V.str "met", sV u])
        have s19 := ((s17.trans s8).trans s9).trans s10
        exact qm tt u _ (extN s19) (T1.ext s19) upd_same (hu.congr accR)
      · obtain ⟨p, hp⟩ := List.exists_mem_of_ne_nil _ hb0
        obtain ⟨pF, pE⟩ := (bmem p).mp hp
        have rp := (memF p).mp pF
        have rpath : ∀ {p : Pr}, Reach (prodP M.begins N.begins) (fwd (prodS M.steps N.steps)) p → ∃ b ∈ prodP M.begins N.begins, ∃ v, Path (prodS M.steps N.steps) b v p := by
          intro p h
          induction h with
          | base h => exact ⟨_, h, [], .nil _⟩
          | step _ h ih =>
            obtain ⟨b, hb, v, pv⟩ := ih
            obtain ⟨sg, hs⟩ := mem_fwd.mp h
            obtain ⟨c, hc⟩ := List.exists_mem_of_ne_nil _ ((prodS_ok wm wn sps).sg _ hs).ne
            exact ⟨b, hb, v ++ [c], path_snoc.mpr ⟨_, sg, pv, hs, hc⟩⟩
        obtain ⟨b, hb, v, pv⟩ := rpath rp
        exact absurd ((accR v).mpr (acc_prod.mp ⟨b, hb, p, pE, pv⟩)) (hno v)
end
end KM
/-! text KW25 -/
set_option Elab.async false
set_option linter.all false
set_option maxRecDepth 100000
set_option maxHeartbeats 4000000
namespace KM
open PySem PySem.Spec PyProof.Rows L2
/-- the feed: its cells, its place, what is left -/
def feedK (L : Addr) (a l : Int) : List (L2.Key × V) := [(.inr "cells", .ref L), (.inr "at", .int a), (.inr "left", .int l)]
structure FeedAt (H : Hp) (d L : Addr) (k : Nat) : Prop where
  ex : ∃ (cs : List Int) (a l : Nat), H d = some (.dK (feedK L a l)) ∧ H L = some (.lst (cs.map V.int)) ∧ a ≤ k ∧ cs.length ≤ 63
theorem kca : ¬ (Sum.inr "cells" : L2.Key) = (Sum.inr "at" : L2.Key) := by decide +kernel
theorem kcl : ¬ (Sum.inr "cells" : L2.Key) = (Sum.inr "left" : L2.Key) := by decide +kernel
theorem kal : ¬ (Sum.inr "at" : L2.Key) = (Sum.inr "left" : L2.Key) := by decide +kernel
theorem feed_cells (L : Addr) (a l : Int) : valV (feedK L a l) (.inr "cells" : L2.Key) = some (.ref L) := by rw [feedK, valV_pos rfl]
theorem feed_at (L : Addr) (a l : Int) : valV (feedK L a l) (.inr "at" : L2.Key) = some (.int a) := by rw [feedK, valV_neg kca, valV_pos rfl]
theorem feed_left (L : Addr) (a l : Int) : valV (feedK L a l) (.inr "left" : L2.Key) = some (.int l) := by rw [feedK, valV_neg kcl, valV_neg kal, valV_pos rfl]
theorem feed_putL (L : Addr) (a l l' : Int) : putK (feedK L a l) (.inr "left" : L2.Key) (.int l') = feedK L a l' := by
  rw [putK_old (show (.inr "left" : L2.Key) ∈ (feedK L a l).map (·.1) from .tail _ (.tail _ (.head _)))]
  simp only [feedK, List.map_cons, List.map_nil]
  rw [if_neg kcl, if_neg kal, if_pos trivial]
theorem feed_putA (L : Addr) (a l a' : Int) : putK (feedK L a l) (.inr "at" : L2.Key) (.int a') = feedK L a' l := by
  rw [putK_old (show (.inr "at" : L2.Key) ∈ (feedK L a l).map (·.1) from .tail _ (.head _))]
  simp only [feedK, List.map_cons, List.map_nil]
  rw [if_neg kca, if_pos trivial, if_neg (fun e => kal e.symm)]
theorem SameB.refl (d : Addr) (H : Hp) : SameB d H H := fun _ _ _ h => h
theorem SameB.trans {d : Addr} {H H1 H2 : Hp} (a : SameB d H H1) (b : SameB d H1 H2) : SameB d H H2 := fun c o n h => b c o n (a c o n h)
theorem SameB.of {d : Addr} {H H' : Hp} (s : Same H H') : SameB d H H' := fun c o _ h => s c o h
theorem SameB.tup {d L : Addr} {H H' : Hp} {k : Nat} (s : SameB d H H') (f : FeedAt H d L k) : TupS H H' := fun b xs h => by
  obtain ⟨cs, a, l, h1, _⟩ := f.ex
  exact s b _ (ne_of h h1 (fun z => by cases z)) h
section
variable {P : Program} {w : World} {K : PySem.W.Frag} {mg : Str → Option Value} {base : Heap}
theorem cell_ways {R : Int → Prop} {c0 : Int} {b : Bool} {X : Prop} (h : ∀ c, R c) (hx : b = true → (∀ c, R c) → X) : if b = true then X else R c0 := by
  cases b with
  | false => exact iteF (h c0)
  | true => exact iteT (hx rfl h)
theorem dpAll_int {K : PySem.W.Frag} (H : Hp) : ∀ ns : List Int, DpAll K H (ns.map V.int) (ns.map fun n => PyData.int n)
  | [] => .nil
  | n :: ns => .cons (.int n) (dpAll_int H ns)
theorem depth_int : ∀ ns : List Int, PyData.depthAll (ns.map fun n => PyData.int n) ≤ 2
  | [] => by simp [PyData.depthAll]
  | a :: r => by
    have := depth_int r
    simp only [List.map_cons, PyData.depthAll, PyData.depth]
    omega
theorem canLay_int : ∀ ns : List Int, PyData.canLay0 (.list (ns.map fun n => PyData.int n)) = true
  | [] => rfl
  | a :: r => canLay_int r
theorem shaped_int (ns : List Int) : SeqAt.shaped (.list (ns.map fun n => PyData.int n)) = true := by
  unfold SeqAt.shaped
  rw [canLay_int, Bool.true_and, decide_eq_true]
  have := depth_int ns
  simp only [PyData.depth]
  omega
def spDraw : Sp := fun vs H Q _ => ∃ (d L : Addr) (m k : Nat), vs = [.ref d, nV m] ∧ 0 < m ∧ m ≤ 1000 ∧ FeedAt H d L k ∧ k ≤ 1000000 ∧ ∀ (n : Nat) H', n < m → SameB d H H' → FeedAt H' d L (k + 1) → Q (nV n) H'
abbrev nmDraw : List Str := ["_law_feed_here", "_law_many", "_law_digit", "_law_at", "_law_cell", "_law_number", "_law_turn"]
theorem scDraw : FnScope nmDraw ["_law_feed_here", "_law_many"] (defScope sDraw) := ⟨rfl, rfl, rfl, by decide +kernel, rfl, by decide +kernel, by decide +kernel⟩
theorem mod_nat (i : Int) {m : Nat} (h : 0 < m) : ∃ n : Nat, n < m ∧ i % (m : Int) = (n : Int) := by
  have h1 := Int.emod_nonneg i (b := (m : Int)) (by omega)
  have h2 := Int.emod_lt_of_pos i (b := (m : Int)) (by omega)
  exact ⟨(i % (m : Int)).toNat, by omega, by omega⟩
theorem ok_draw {f : Addr} {fd : FuncData} (F : FnP K "_law_draw" "_law_draw" sDraw f fd) (B : Bi mg) : FnOk P w K mg base CX0 1 f fd ["_law_feed_here", "_law_many"] spDraw := by
  refine F.okP scDraw (fun vs H Q E h => ?_) (fun cdv A outer s H vs Q E hr h => ?_)
  · obtain ⟨d, L, m, k, rfl, _⟩ := h
    rfl
  · obtain ⟨d, L, m, k, rfl, hm, hm2, hf, hk, q⟩ := h
    obtain ⟨cs, a, l, hd, hL, hak, hcl⟩ := hf.ex
    have nLd : L ≠ d := ne_of hL hd (fun z => by cases z)
    refine ⟨_, pss_cons (ps_if (pt_cmpR op_gt (pe_dget (by exact Nat.lt_of_le_of_lt (Nat.add_le_add_left (by decide) _) (hu64 hr)) (pv 0) pe_str (fun _ _ => rfl)) pe_int (nomark _))
        (pss_cons (ps_set (i := 2) scDraw.nd rfl (.inl rfl) (pe_op op_mod (pe_dget (by exact Nat.lt_of_le_of_lt (Nat.add_le_add_left (by decide) _) (hu64 hr)) (pv 0) pe_str (fun _ _ => rfl)) (pv 1)))
        (pss_cons (ps_dput (by exact Nat.lt_of_le_of_lt (Nat.add_le_add_left (by decide) _) (hu64 hr)) (pv 0) pe_str (pe_op op_fdivN (pe_dget (by exact Nat.lt_of_le_of_lt (Nat.add_le_add_left (by decide) _) (hu64 hr)) (pv 0) pe_str (fun _ _ => rfl)) (pv 1)) rfl)
        (pss_one (ps_ret (pv 2))))) pss_nil)
      (pss_cons (ps_set (i := 3) scDraw.nd rfl (.inl rfl) (pe_dget (by exact Nat.lt_of_le_of_lt (Nat.add_le_add_left (by decide) _) (hu64 hr)) (pv 0) pe_str (fun _ _ => rfl)))
      (pss_cons (ps_dput (by exact Nat.lt_of_le_of_lt (Nat.add_le_add_left (by decide) _) (hu64 hr)) (pv 0) pe_str (pe_op op_add (pv 3) pe_int) rfl)
      (pss_cons (ps_set (i := 4) scDraw.nd rfl (.inl rfl) (pe_op op_add (pe_op op_mul (pv 3) (pv 3)) pe_int))
      (pss_cons (ps_if (pt_cmpR (op_neD (by exact hu64 hr)) (pe_dget (by exact Nat.lt_of_le_of_lt (Nat.add_le_add_left (by decide) _) (hu64 hr)) (pv 0) pe_str (fun _ _ => rfl)) (pe_lst pa_nil) (nomark _))
        (pss_one (ps_set (i := 4) scDraw.nd rfl (.inl rfl) (pe_ix ix_list (pe_dget (by exact Nat.lt_of_le_of_lt (Nat.add_le_add_left (by decide) _) (hu64 hr)) (pv 0) pe_str (fun _ _ => rfl)) (pe_op op_mod (pv 3) (pe_callB call_len_seq (by rfl) B.len PySem.boot_len (pa_cons (pe_dget (by exact Nat.lt_of_le_of_lt (Nat.add_le_add_left (by decide) _) (hu64 hr)) (pv 0) pe_str (fun _ _ => rfl)) pa_nil))) (fun _ _ => rfl)))) pss_nil)
      (pss_cons (ps_if (PW.pt (pw_and (pt_cmpR op_lt (pv 3) (pe_callB call_len_seq (by rfl) B.len PySem.boot_len (pa_cons (pe_dget (by exact Nat.lt_of_le_of_lt (Nat.add_le_add_left (by decide) _) (hu64 hr)) (pv 0) pe_str (fun _ _ => rfl)) pa_nil)) (nomark _))
          (pw_and1 (pt_cmpR op_ge (pe_callB call_abs (by rfl) B.abs (by decide +kernel) (pa_cons (pv 4) pa_nil)) (pe_op op_pow pe_int pe_int) (nomark _)))))
        (pss_cons (ps_dput (by exact Nat.lt_of_le_of_lt (Nat.add_le_add_left (by decide) _) (hu64 hr)) (pv 0) pe_str (pe_op op_fdivN (pe_callB call_abs (by rfl) B.abs (by decide +kernel) (pa_cons (pv 4) pa_nil)) (pv 1)) rfl)
        (pss_one (ps_ret (pe_op op_mod (pe_callB call_abs (by rfl) B.abs (by decide +kernel) (pa_cons (pv 4) pa_nil)) (pv 1))))) pss_nil)
      (pss_cons (ps_set (i := 5) scDraw.nd rfl (.inl rfl) (pe_op op_mod (pe_op op_mul (pe_op op_add (pe_op op_add (pe_op op_mod (pv 4) pe_int) (pe_op op_mul pe_int (pv 3))) pe_int) pe_int) pe_int))
      (pss_cons (ps_for PassesOwn.never rfl (pi_range1 rfl B.range (pa_cons pe_int pa_nil)) (pg_name (i := 6) scDraw.nd rfl (.inl rfl))
        (pss_cons (ps_set (i := 5) scDraw.nd rfl (.inl rfl) (pe_op op_add (pe_op op_add (pe_op op_add (pe_op op_mul (pv 5) (pv 5)) (pe_op op_mul pe_int (pv 5))) (pv 3)) (pv 6)))
        (pss_one (ps_set (i := 5) scDraw.nd rfl (.inl rfl) (pe_op op_mod (pv 5) pe_int)))))
      (pss_one (ps_ret (pe_op op_mod (pe_op op_fdivN (pv 5) pe_int) (pv 1))))))))))), ?_⟩
    have gl := DGet.k (k := (.inr "left" : L2.Key)) hd
    have ga := DGet.k (k := (.inr "at" : L2.Key)) hd
    rw [feed_left] at gl
    rw [feed_at] at ga
    have mdiv : ((m : Int) ≠ 0 ∧ (m : Int).natAbs < 1073741824) := ⟨by omega, by omega⟩
    -- a digit is left
    refine ⟨_, rfl, d, _, rfl, gl, _, _, rfl, rfl, _, rfl, ?_⟩
    by_cases hl0 : 0 < l
    · rw [decide_eq_true (by omega)]
      obtain ⟨n, hn, en⟩ := mod_nat (l : Int) hm
      refine iteT ⟨_, rfl, d, _, rfl, gl, _, rfl, _, _, rfl, rfl, by omega, ?_⟩
      simp only [en]
      refine ⟨_, rfl, d, _, rfl, gl, _, rfl, _, _, rfl, rfl, mdiv, _, rfl, d, _, rfl, DPut.k (k := (.inr "left" : L2.Key)) hd (by show 3 < sizeLine; decide), ?_⟩
      rw [feed_putL]
      obtain ⟨l', el'⟩ : ∃ l' : Nat, (l : Int).fdiv (m : Int) = (l' : Int) := ⟨l / m, by rw [Int.fdiv_eq_ediv_of_nonneg _ (by omega)]; rfl⟩
      simp only [el']
      exact ⟨_, rfl, q n _ hn (fun b o nb e => by rw [upd_ne nb]; exact e) ⟨cs, a, l', upd_same, by rw [upd_ne nLd]; exact hL, by omega, hcl⟩⟩
    rw [decide_eq_false (by omega)]
    refine iteF ⟨_, rfl, d, _, rfl, ga, ?_⟩
    refine ⟨_, rfl, _, _, rfl, rfl, _, rfl, d, _, rfl, DPut.k (k := (.inr "at" : L2.Key)) hd (by show 3 < sizeLine; decide), ?_⟩
    rw [feed_putA]
    have eA : ((a : Int) + 1) = ((a + 1 : Nat) : Int) := rfl
    simp only [eA]
    obtain ⟨H1, hH1⟩ : ∃ H1, upd H d (.dK (feedK L ((a + 1 : Nat) : Int) (l : Int))) = H1 := ⟨_, rfl⟩
    have hd1 : H1 d = some (.dK (feedK L ((a + 1 : Nat) : Int) (l : Int))) := by rw [← hH1]; exact upd_same
    have hL1 : H1 L = some (.lst (cs.map V.int)) := by rw [← hH1, upd_ne nLd]; exact hL
    have sb1 : SameB d H H1 := fun b o nb e => by rw [← hH1, upd_ne nb]; exact e
    rw [hH1]
    clear hH1 gl ga
    have gc := DGet.k (k := (.inr "cells" : L2.Key)) hd1
    rw [feed_cells] at gc
    refine ⟨_, rfl, _, rfl, _, _, rfl, rfl, .inl ⟨by omega, by omega⟩, _, _, rfl, rfl, ?_⟩
    -- the cell
    obtain ⟨c0, hc0⟩ : ∃ c0 : Int, (a : Int) * (a : Int) + 5 = c0 := ⟨_, rfl⟩
    simp only [hc0]
    clear hc0
    refine ⟨_, rfl, d, _, rfl, gc, Nat.zero_le _, fun e0 he0 => ?_⟩
    have se := same_upd he0 (o := .lst [])
    refine ⟨.list (cs.map fun c => PyData.int c), .list [], .lst (.inl (.inl (se _ _ hL1))) (dpAll_int _ cs), .lst (.inl (.inl upd_same)) .nil, shaped_int cs, rfl, _, rfl, ?_⟩
    rw [eqv_nil]
    obtain ⟨H2, hH2⟩ : ∃ H2, upd H1 e0 (.lst []) = H2 := ⟨_, rfl⟩
    rw [hH2] at se ⊢
    clear hH2 he0
    have hd2 := se _ _ hd1
    have hL2 := se _ _ hL1
    have gc2 := DGet.k (k := (.inr "cells" : L2.Key)) hd2
    rw [feed_cells] at gc2
    have sb2 : SameB d H H2 := sb1.trans (SameB.of se)
    by_cases cne : cs = []
    rotate_left
    have cpos : 0 < cs.length := List.length_pos_iff.mpr cne
    have hix : a % cs.length < cs.length := Nat.mod_lt _ cpos
    have ht : (!(cs.map fun c => PyData.int c).isEmpty) = true := by
      cases cs with
      | nil => exact absurd rfl cne
      | cons x r => rfl
    rw [ht]
    obtain ⟨cell, hcell⟩ : ∃ cell : Int, cs[a % cs.length] = cell := ⟨_, rfl⟩
    have hci : cs[a % cs.length]? = some cell := by rw [List.getElem?_eq_getElem hix, hcell]
    refine iteT ⟨_, rfl, d, _, rfl, gc2, _, rfl, _, rfl, d, _, rfl, gc2, L, _, rfl, .inl (.inl (.inl hL2)), _, _, rfl, rfl, by rw [List.length_map]; omega, L, _, ((a % cs.length : Nat) : Int), .int cell, rfl, (by rw [List.length_map]; rfl), .inl (.inl hL2), atI_nat (by rw [List.getElem?_map, hci]; rfl), ?_⟩
    clear hci hcell
    rotate_left
    have ht : (!(cs.map fun c => PyData.int c).isEmpty) = false := by rw [cne]; rfl
    rw [ht]
    obtain ⟨cell, hcell⟩ : ∃ cell : Int, c0 = cell := ⟨_, rfl⟩
    rw [hcell]
    refine iteF ?_
    clear hcell
    all_goals
      have ab : ∃ n : Nat, (if cell < 0 then -cell else cell) = (n : Int) := ⟨cell.natAbs, by split <;> omega⟩
      obtain ⟨ac, eac⟩ := ab
      -- a great cell
      have feed2 : FeedAt H2 d L (k + 1) := ⟨cs, a + 1, l, hd2, hL2, by omega, hcl⟩
      refine ⟨_, rfl, _, rfl, d, _, rfl, gc2, L, _, rfl, .inl (.inl (.inl hL2)), _, _, rfl, rfl, decide ((a : Int) < ((cs.map V.int).length : Int)), rfl, ?_⟩
      by_cases hg : a < cs.length ∧ (1000000000000000000 : Int) ≤ (ac : Int)
      · rw [decide_eq_true (by rw [List.length_map]; omega)]
        refine iteT ⟨_, rfl, cell, rfl, _, _, rfl, rfl, ⟨by decide, by decide, by decide⟩, _, _, rfl, rfl, true, ?_, iteT ?_⟩
        · show V.bl (decide ((10 : Int) ^ (18 : Int).toNat ≤ (if cell < 0 then -cell else cell))) = _
          rw [eac, decide_eq_true (show (10 : Int) ^ (18 : Int).toNat ≤ (ac : Int) from hg.2)]
        refine ⟨_, rfl, cell, rfl, _, rfl, _, _, rfl, rfl, mdiv, _, rfl, d, _, rfl, DPut.k (k := (.inr "left" : L2.Key)) hd2 (by show 3 < sizeLine; decide), ?_⟩
        rw [feed_putL]
        obtain ⟨l', el'⟩ : ∃ l' : Nat, (if cell < 0 then -cell else cell).fdiv (m : Int) = (l' : Int) := ⟨ac / m, by rw [eac, Int.fdiv_eq_ediv_of_nonneg _ (by omega)]; rfl⟩
        simp only [el']
        obtain ⟨n, hn, en⟩ := mod_nat (if cell < 0 then -cell else cell) hm
        refine ⟨_, rfl, cell, rfl, _, rfl, _, _, rfl, rfl, by omega, ?_⟩
        simp only [en]
        exact q n _ hn (fun b o nb e => by rw [upd_ne nb]; exact sb2 b o nb e) ⟨cs, a + 1, l', upd_same, by rw [upd_ne nLd]; exact hL2, by omega, hcl⟩
      have hab : (decide ((a : Int) < ((cs.map V.int).length : Int)) && decide ((1000000000000000000 : Int) ≤ (ac : Int))) = false := by
        rw [Bool.eq_false_iff]
        intro e
        rw [Bool.and_eq_true, decide_eq_true_iff, decide_eq_true_iff, List.length_map] at e
        exact hg ⟨by omega, e.2⟩
      show (if decide ((a : Int) < ((cs.map V.int).length : Int)) = true then _ else _)
      refine two_ways hab (fun hb => ⟨_, rfl, cell, rfl, _, _, rfl, rfl, ⟨by decide, by decide, by decide⟩, _, _, rfl, rfl, decide ((1000000000000000000 : Int) ≤ (ac : Int)), ?_, hb⟩) ?_
      · show V.bl (decide ((10 : Int) ^ (18 : Int).toNat ≤ (if cell < 0 then -cell else cell))) = _
        rw [eac]
        rfl
      refine ⟨_, rfl, _, _, rfl, rfl, (by show (0 : Int) < 4294967311; decide), _, rfl, _, _, rfl, rfl, .inl ⟨by decide, by decide⟩, _, _, rfl, rfl, _, _, rfl, rfl, _, _, rfl, rfl, .inr ⟨by decide, by decide⟩, _, _, rfl, rfl, (by show (0 : Int) < 4294967311; decide), ?_⟩
      obtain ⟨n0, hn0, en0⟩ := mod_nat ((cell % 4294967311 + 65539 * (a : Int) + 17) * 48271) (m := 4294967311) (by decide)
      have en0 : (cell % 4294967311 + 65539 * (a : Int) + 17) * 48271 % 4294967311 = (n0 : Int) := en0
      simp only [en0]
      refine ⟨3, rfl, by decide, by decide, ?_⟩
      refine for_range (lo := 0) (n := 3) (fun i σ Hx => ∃ (n : Nat) (y2 y6 : Option V), σ = [some (.ref d), some (nV m), y2, some (.int (a : Int)), some (.int cell), some (nV n), y6] ∧ n < 4294967311 ∧ Hx = H2) ⟨n0, _, _, rfl, hn0, rfl⟩ ?_ ?_
      · rintro i σ Hx hi ⟨n, y2, y6, rfl, hn, rfl⟩
        refine ⟨_, rfl, _, rfl, _, _, rfl, rfl, .inl ⟨by omega, by omega⟩, _, rfl, _, _, rfl, rfl, .inl ⟨by decide, by decide⟩, _, _, rfl, rfl, _, rfl, _, _, rfl, rfl, _, rfl, _, _, rfl, rfl, _, rfl, _, _, rfl, rfl, (by show (0 : Int) < 4294967311; decide), ?_⟩
        obtain ⟨n1, hn1, en1⟩ := mod_nat ((n : Int) * (n : Int) + 69621 * (n : Int) + (a : Int) + (0 + (i : Int))) (m := 4294967311) (by decide)
        have en1 : ((n : Int) * (n : Int) + 69621 * (n : Int) + (a : Int) + (0 + (i : Int))) % 4294967311 = (n1 : Int) := en1
        simp only [en1]
        exact ⟨n1, _, _, rfl, hn1, rfl⟩
      · rintro σ Hx ⟨n, y2, y6, rfl, hn, rfl⟩
        obtain ⟨r, hr', er⟩ := mod_nat ((n : Int).fdiv 32) hm
        refine ⟨_, rfl, _, _, rfl, rfl, ⟨by decide, by decide⟩, _, rfl, _, _, rfl, rfl, by omega, ?_⟩
        simp only [er]
        exact q r _ hr' sb2 feed2
end
end KM
/-! text KW26 -/
set_option Elab.async false
set_option linter.all false
set_option maxRecDepth 100000
set_option maxHeartbeats 4000000
namespace KM
open PySem PySem.Spec PyProof.Rows L2
theorem FeedAt.ne {H : Hp} {d L b : Addr} {k : Nat} (f : FeedAt H d L k) (h : H b = none) : d ≠ b ∧ L ≠ b := by
  obtain ⟨cs, a, l, h1, h2, _⟩ := f.ex
  exact ⟨ne_of_none h1 h, ne_of_none h2 h⟩
theorem FeedAt.same {H H' : Hp} {d L : Addr} {k : Nat} (s : Same H H') (f : FeedAt H d L k) : FeedAt H' d L k := by
  obtain ⟨cs, a, l, h1, h2, h3, h4⟩ := f.ex
  exact ⟨cs, a, l, s _ _ h1, s _ _ h2, h3, h4⟩
theorem FeedAt.mono {H : Hp} {d L : Addr} {k k' : Nat} (f : FeedAt H d L k) (h : k ≤ k') : FeedAt H d L k' := by
  obtain ⟨cs, a, l, h1, h2, h3, h4⟩ := f.ex
  exact ⟨cs, a, l, h1, h2, Nat.le_trans h3 h, h4⟩
theorem FeedAt.upd {H : Hp} {d L b : Addr} {k : Nat} {o : HO} (f : FeedAt H d L k) (h : d ≠ b) (h' : L ≠ b) : FeedAt (L2.upd H b o) d L k := by
  obtain ⟨cs, a, l, h1, h2, h3, h4⟩ := f.ex
  exact ⟨cs, a, l, by rw [upd_ne h]; exact h1, by rw [upd_ne h']; exact h2, h3, h4⟩
theorem SameB.ndict {d L b : Addr} {H : Hp} {k : Nat} {o : HO} (f : FeedAt H d L k) (h : H b = some o) (n : ∀ kvs, o ≠ .dK kvs) : b ≠ d := by
  obtain ⟨cs, a, l, h1, _⟩ := f.ex
  exact ne_of h h1 (n _)
section
variable {J : It} {n : Nat} {G : Hp → Prop} {Y : Nat → Hp → V → Hp → Prop} {g : TG} {tt : TT} {te : TE} {vs : List Nat} {σ : L2.St} {H1 : Hp} {β : Type}
/-- a comprehension whose turns draw -/
theorem lc_mapF {D d L : Addr} {Qd : Hp → Prop} {k0 c : Nat} (hD : H1 D = none) (hF : FeedAt H1 d L k0) (Rel : Hp → V → β → Prop) (st : TupStable Rel) (w : Walk J n G Y) (hG : ∀ H', SameB d H1 H' → G H') (Ok : Nat → List β → Prop) (h0 : Ok 0 []) (hz : n < sizeLine)
    (hs : ∀ (i : Nat) (x : V) (Hc H' : Hp) (bs : List β) (k : Nat) (Post : V → Hp → Prop) (Skip : Hp → Prop), i < n → SameB d H1 Hc → FeedAt Hc d L k → k ≤ k0 + c * i → Ok i bs → Y i Hc x H' →
      (∀ y H4 b k', SameB d Hc H4 → FeedAt H4 d L k' → k' ≤ k + c → Rel H4 y b → Ok (i + 1) (bs ++ [b]) → Post y H4) → (∀ H3 k', SameB d Hc H3 → FeedAt H3 d L k' → k' ≤ k + c → Ok (i + 1) bs → Skip H3) →
      g x (wipe σ vs) H' fun σ2 H2 => wipe σ2 vs = wipe σ vs ∧ tt σ2 H2 fun b H3 => if b = true then te σ2 H3 Post else Skip H3)
    (hd : ∀ (H' : Hp) (acc : List V) (bs : List β) (k : Nat), SameB d H1 H' → FeedAt H' d L k → k ≤ k0 + c * n → H' D = some (.lst acc) → Paired (Rel H') acc bs → Ok n bs → Qd H') :
    ∃ W : Nat → Nat → Hp → Prop, (∃ m, W 0 m (upd H1 D (.lst []))) ∧ ∀ i m H, W i m H →
      (J.stop i H ∧ Qd H) ∨ (J.go i H ∧ ∃ Nx : Hp → Prop, (∀ H', Nx H' → ∃ m', m' < m ∧ W (i + 1) m' H') ∧ ∀ x H', J.yld i H x H' → g x (wipe σ vs) H' fun σ2 H2 => wipe σ2 vs = wipe σ vs ∧ tt σ2 H2 fun b H3 =>
        if b = true then te σ2 H3 fun y H4 => ∃ acc, H4 D = some (.lst acc) ∧ acc.length < sizeLine ∧ Nx (upd H4 D (.lst (acc ++ [y]))) else Nx H3) := by
  have nd := hF.ne hD
  refine lc_it w (fun i H => SameB d H1 H ∧ ∃ (k : Nat) (acc : List V) (bs : List β), FeedAt H d L k ∧ k ≤ k0 + c * i ∧ H D = some (.lst acc) ∧ Paired (Rel H) acc bs ∧ Ok i bs ∧ acc.length ≤ i)
    ⟨SameB.of (same_upd hD), k0, [], [], hF.same (same_upd hD), by omega, upd_same, .nil, h0, Nat.le_refl _⟩ (fun i H _ z => hG H z.1) ?_ ?_
  · rintro i x H H' hi ⟨sb, k, acc, bs, f, hk, ha, hp, ok, hl⟩ hy
    have hck : c * (i + 1) = c * i + c := Nat.mul_succ c i
    refine hs i x H H' bs k _ _ hi sb f hk ok hy (fun y H4 b k' s4 f4 hk4 hr ok4 => ?_) (fun H3 k' s3 f3 hk3 ok3 => ?_)
    · have e4 := s4 _ _ nd.1.symm ha
      have t4 : TupS H4 (upd H4 D (.lst (acc ++ [y]))) := TupS.upd e4 (fun xs z => by cases z)
      refine ⟨acc, e4, by omega, fun b o nb e => ?_, k', _, _, f4.upd nd.1 nd.2, by omega, upd_same, paired_snoc (paired_mono hp fun a b r => st _ _ _ _ ((s4.tup f).trans t4) r) (st _ _ _ _ t4 hr), ok4, ?_⟩
      · rw [upd_ne (ne_of_none e hD)]
        exact s4 _ _ nb (sb _ _ nb e)
      · rw [List.length_append, List.length_singleton]
        omega
    · exact ⟨sb.trans s3, k', acc, bs, f3, by omega, s3 _ _ nd.1.symm ha, paired_mono hp fun a b r => st _ _ _ _ (s3.tup f) r, ok3, by omega⟩
  · rintro H' ⟨sb, k, acc, bs, f, hk, ha, hp, ok, hl⟩
    exact hd H' acc bs k sb f hk ha hp ok
end
section
variable {P : Program} {w : World} {K : PySem.W.Frag} {mg : Str → Option Value} {base : Heap}
/-- _law_feed: a new feed -/
def spFeed (K : PySem.W.Frag) : Sp := fun vs H Q _ => ∃ (a : Addr) (ns : List Int), vs = [.ref a] ∧ SqL K H a (ns.map V.int) ∧ ∀ (d L : Addr) H', Same H H' → H d = none → FeedAt H' d L 0 → Q (.ref d) H'
abbrev nmFeed : List Str := ["_law_script", "_law_cell"]
theorem scFeed : FnScope nmFeed ["_law_script"] (defScope sFeed) := ⟨rfl, rfl, rfl, by decide +kernel, rfl, by decide +kernel, by decide +kernel⟩
theorem ok_feed {f : Addr} {fd : FuncData} (F : FnP K "_law_feed" "_law_feed" sFeed f fd) (B : Bi mg) : FnOk P w K mg base CX0 1 f fd ["_law_script"] (spFeed K) := by
  refine F.okP scFeed (fun vs H Q E h => ?_) (fun cdv A outer s H vs Q E hr h => ?_)
  · obtain ⟨a, ns, rfl, _⟩ := h
    rfl
  · obtain ⟨a, ns, rfl, ha, q⟩ := h
    refine ⟨_, pss_one (ps_ret (pe_disp (pps_cons pe_str (pe_lc (own := [("_law_cell", 1)]) (g := gName 1) (tt := tYes) rfl scFeed.nd (pi_list (pe_slice sl_list (pv 0) po_none (po_some pe_int)))
        (blkOk_by (N := nmFeed) (sc := defScope sFeed) (by decide +kernel)) (fun _ _ _ _ _ => pg_name (i := 1) scFeed.nd rfl (.inl rfl)) (fun _ _ _ _ _ => pts_nil) (fun _ _ _ _ _ => pv 1))
      (pps_cons pe_str pe_int (pps_cons pe_str pe_int pps_nil))) (by rfl) (by rfl) (fun z => by cases z) (by decide))), ?_⟩
    refine fun d hd => ?_
    have sd := same_upd hd (o := .dK [])
    have ha1 : SqL K (upd H d (.dK [])) a (ns.map V.int) := ha.imp (fun z => z.imp (fun e => sd _ _ e) (fun ⟨o, e⟩ => ⟨o, sd _ _ e⟩)) (fun z => z)
    have ecut : cutV (ns.map V.int) none (some 63) = (ns.take (min 63 ns.length)).map V.int := by
      unfold cutV
      rw [HT.sIx_none, List.drop_zero, List.map_take]
      congr 1
      rw [show (some (63 : Int)) = some ((63 : Nat) : Int) from rfl, HT.sIx_nat, List.length_map]
      rfl
    refine ⟨_, rfl, 63, rfl, a, _, rfl, ha1, fun p hp => ?_⟩
    rw [ecut]
    obtain ⟨cs, hcs⟩ : ∃ cs, ns.take (min 63 ns.length) = cs := ⟨_, rfl⟩
    have cl : cs.length ≤ 63 := by
      rw [← hcs, List.length_take]
      omega
    rw [hcs]
    have sp := same_upd hp (o := .lst (cs.map V.int))
    refine ⟨p, rfl, ⟨_, .inl (.inl upd_same)⟩, fun D hD => ?_⟩
    refine lc_map hD (β := Int) (fun _ v b => v = .int b) (fun _ _ _ _ _ z => z) (walk_list (xs := cs.map V.int)) (fun _ s1 => .inl (.inl (s1 _ _ upd_same))) (fun i => cs.take i) rfl (by rw [List.length_map]; exact Nat.lt_of_le_of_lt cl (by decide)) (fun i y Hc H' Post Skip hi sc hy k1 k2 => ?_) (fun H1 acc s1 ha1 hp1 => ?_)
    · obtain ⟨rfl, hy⟩ := hy
      rw [List.getElem?_map] at hy
      cases hc : cs[i]? with
      | none => rw [hc] at hy; cases hy
      | some c =>
        rw [hc] at hy
        cases hy
        refine ⟨rfl, _, rfl, k1 _ _ c (Same.refl _) rfl ?_⟩
        rw [List.take_succ, hc]
        rfl
    · rw [List.length_map, List.take_length] at hp1
      rw [paired_vals hp1] at ha1
      have hd1 := s1 _ _ (sp _ _ upd_same)
      refine ⟨hd1, [(.inr "cells", .ref D), (.inr "at", .int 0), (.inr "left", .int 0)], rfl, (by show 3 ≤ 15; decide), ?_⟩
      have nD : D ≠ d := ne_of ha1 hd1 (fun z => by cases z)
      refine q d D _ (same_new ((sd.trans sp).trans s1) hd) hd ⟨cs, 0, 0, ?_, by rw [upd_ne nD]; exact ha1, Nat.le_refl _, cl⟩
      rw [upd_same]
      have em : mergeK [] [((Sum.inr "cells" : L2.Key), V.ref D), ((Sum.inr "at" : L2.Key), V.int 0), ((Sum.inr "left" : L2.Key), V.int 0)] = feedK D 0 0 := by
        unfold mergeK
        rw [List.foldl_cons, List.foldl_cons, List.foldl_cons, List.foldl_nil]
        rw [putK_new (kvs := []) _ rfl, putK_new (k := (Sum.inr "at" : L2.Key)) _ (valV_none (by simp; exact fun e => kca (congrArg Sum.inr e.symm))), putK_new (k := (Sum.inr "left" : L2.Key)) _ (valV_none (by simp; exact ⟨fun e => kcl (congrArg Sum.inr e.symm), fun e => kal (congrArg Sum.inr e.symm)⟩))]
        rfl
      exact congrArg (fun z => some (HO.dK z)) em
end
end KM
/-! text KW27 -/
set_option Elab.async false
set_option linter.all false
set_option maxRecDepth 100000
set_option maxHeartbeats 4000000
namespace KM
open PySem PySem.Spec PyProof.Rows L2
section
variable {P : Program} {w : World} {K : PySem.W.Frag} {mg : Str → Option Value} {base : Heap}
/-- what is told of a machine to be made: (many, begins, steps, ends) -/
structure RawAt (H : Hp) (v : V) (M : Mch) : Prop where
  ex : ∃ (t tb ts te : Addr) (sv : List V), v = .ref t ∧ H t = some (.tup [nV M.many, .ref tb, .ref ts, .ref te]) ∧ H tb = some (.tup (M.begins.map nV)) ∧ H ts = some (.tup sv) ∧ Paired (StpAt H) sv M.steps ∧ H te = some (.tup (M.ends.map nV))
def spMade (C : Addr) : Sp := fun vs H Q _ => ∃ (v : V) (M : Mch), vs = [v] ∧ RawAt H v M ∧ M.WF ∧ ∀ (x : Addr) H', Same H H' → MachAt C H' x M → Q (.ref x) H'
abbrev nmMade : List Str := ["_law_raw_here"]
theorem scMade : FnScope nmMade ["_law_raw_here"] (defScope sMade) := ⟨rfl, rfl, rfl, by decide +kernel, rfl, by decide +kernel, by decide +kernel⟩
theorem ok_made {C f fi : Addr} {fd fdi : FuncData} (F : FnP K "_law_made" "_law_made" sMade f fd) (B : Bi mg) (T : MC K mg C fi) (Fi : FnP K "__init__" "Machine.__init__" sInit fi fdi)
    (Oi : FnOk P w K mg base CX0 5 fi fdi ["self", "many", "begins", "steps", "ends"] (spInit C)) : FnOk P w K mg base CX0 7 f fd ["_law_raw_here"] (spMade C) := by
  have bi : Binds K fdi ["self", "many", "begins", "steps", "ends"] [] := Fi.bindsN fun _ _ _ _ _ _ us hl => match us, hl with | [_, _, _, _, _], _ => rfl
  refine F.okP scMade (fun vs H Q E h => ?_) (fun cdv A outer s H vs Q E hr h => ?_)
  · obtain ⟨v, M, rfl, _⟩ := h
    rfl
  · obtain ⟨v, M, rfl, hR, wf, q⟩ := h
    obtain ⟨t, tb, ts, te, sv, rfl, h1, h2, h3, h4, h5⟩ := hR.ex
    refine ⟨_, pss_one (ps_ret (pe_make T.mkr Oi hr (by rfl) T.g bi .nil pass0 (pa_cons (pe_ix ix_tup (pv 0) pe_int (fun _ _ => rfl)) (pa_cons (pe_ix ix_tup (pv 0) pe_int (fun _ _ => rfl)) (pa_cons (pe_ix ix_tup (pv 0) pe_int (fun _ _ => rfl)) (pa_cons (pe_ix ix_tup (pv 0) pe_int (fun _ _ => rfl)) pa_nil)))))), ?_⟩
    refine ⟨_, rfl, t, _, 0, nV M.many, rfl, rfl, .inl (.inl h1), atI0 rfl, _, rfl, t, _, 1, .ref tb, rfl, rfl, .inl (.inl h1), atI_nat (j := 1) rfl, _, rfl, t, _, 2, .ref ts, rfl, rfl, .inl (.inl h1), atI_nat (j := 2) rfl, _, rfl, t, _, 3, .ref te, rfl, rfl, .inl (.inl h1), atI_nat (j := 3) rfl, fun x dx hx hdx nxd => ?_⟩
    have sI : Same H (upd (upd H dx (.own x)) x (.ins C dx [])) := same_new (same_upd hdx) hx
    refine ⟨x, dx, tb, ts, te, sv, M, rfl, upd_same, sI _ _ h2, sI _ _ h3, paired_mono h4 fun _ _ r => r.same sI, sI _ _ h5, wf, fun H' sB hM => ⟨rfl, q x H' (fun y o e => ?_) hM⟩⟩
    exact sB y o (ne_of_none e hx) (sI _ _ e)
/-! ### some of the things -/
def spSome : Sp := fun vs H Q _ => ∃ (d L : Addr) (k : Nat), FeedAt H d L k ∧ k ≤ 900000 ∧
  ((∃ l : List Nat, vs = [.ref d, sV l] ∧ l.length ≤ 10 ∧ ∀ (p : Addr) (l' : List Nat) (k' : Nat) H', SameB d H H' → FeedAt H' d L k' → k' ≤ k + 10 → H p = none → H' p = some (.lst (l'.map cV)) → l'.Sublist l → Q (.ref p) H') ∨
   (∃ (a : Addr) (l : List Nat), vs = [.ref d, .ref a] ∧ H a = some (.lst (l.map nV)) ∧ l.length ≤ 10 ∧ ∀ (p : Addr) (l' : List Nat) (k' : Nat) H', SameB d H H' → FeedAt H' d L k' → k' ≤ k + 10 → H p = none → H' p = some (.lst (l'.map nV)) → l'.Sublist l → Q (.ref p) H'))
abbrev nmSome : List Str := ["_law_feed_here", "_law_things", "_law_thing"]
theorem scSome : FnScope nmSome ["_law_feed_here", "_law_things"] (defScope sSome) := ⟨rfl, rfl, rfl, by decide +kernel, rfl, by decide +kernel, by decide +kernel⟩
theorem ok_some {f f1 : Addr} {fd fd1 : FuncData} (F : FnP K "_law_some" "_law_some" sSome f fd) (B : Bi mg) (F1 : FnP K "_law_draw" "_law_draw" sDraw f1 fd1) (g1 : mg "_law_draw" = some (.ref f1)) : FnOk P w K mg base CX0 2 f fd ["_law_feed_here", "_law_things"] spSome := by
  have O1 : FnOk P w K mg base CX0 1 f1 fd1 ["_law_feed_here", "_law_many"] spDraw := ok_draw F1 B
  have b1 : Binds K fd1 ["_law_feed_here", "_law_many"] [] := F1.bindsN fun _ _ _ _ _ _ us hl => match us, hl with | [_, _], _ => rfl
  refine F.okP scSome (fun vs H Q E h => ?_) (fun cdv A outer s H vs Q E hr h => ?_)
  · obtain ⟨d, L, k, _, _, ⟨l, rfl, _⟩ | ⟨a, l, rfl, _⟩⟩ := h <;> rfl
  · obtain ⟨d, L, k, hf, hk, ⟨l, rfl, hl, q⟩ | ⟨a, l, rfl, ha, hl, q⟩⟩ := h
    · refine ⟨_, pss_one (ps_ret (pe_lc (own := [("_law_thing", 2)]) (g := gName 2) rfl scSome.nd (pi_str (pv 1))
        (blkOk_by (N := nmSome) (sc := defScope sSome) (by decide +kernel)) (fun _ _ _ _ _ => pg_name (i := 2) scSome.nd rfl (.inl rfl))
        (fun _ _ _ _ _ => pts_one (pt_cmpR op_eq (pe_call O1 hr (by rfl) g1 F1.kp b1 .nil pass0 (pa_cons (pv 0) (pa_cons pe_int pa_nil))) pe_int (nomark _))) (fun _ _ _ _ _ => pv 2))), ?_⟩
      refine ⟨_, rfl, sS l, rfl, fun D hD => ?_⟩
      have el : (sS l).cps.size = l.length := List.size_toArray
      refine lc_mapF (β := Nat) (c := 1) hD hf (fun _ v b => v = cV b) (fun _ _ _ _ _ z => z) (walk_str (z := sS l)) (fun _ _ => trivial) (fun i bs => bs.Sublist (l.take i)) (.slnil) (by rw [el]; exact Nat.lt_of_le_of_lt hl (by decide)) (fun i y Hc H' bs k2 Post Skip hi sb f hk2 ok hy k3 k4 => ?_) (fun H' acc bs k2 sb f hk2 ha hp ok => ?_)
      · obtain ⟨rfl, c, hc, rfl⟩ := hy
        have e : l[i]? = some c := by
          have e2 : l.toArray[i]? = some c := hc
          simpa using e2
        have et : l.take (i + 1) = l.take i ++ [c] := by
          rw [List.take_succ, e]
          rfl
        rw [el] at hi
        refine ⟨rfl, _, rfl, d, L, 2, k2, rfl, by decide, by decide, f, by omega, fun n H2 hn s2 f2 => ⟨rfl, _, rfl, ?_⟩⟩
        by_cases h1 : n = 1
        · subst h1
          refine iteT ⟨_, rfl, k3 _ _ c _ s2 f2 (Nat.le_refl _) rfl ?_⟩
          rw [et]
          exact ok.append (List.Sublist.refl _)
        · rw [decide_eq_false (fun e => h1 (by have := V.int.inj e; omega))]
          refine iteF (k4 _ _ s2 f2 (Nat.le_refl _) ?_)
          rw [et]
          exact ok.trans (List.sublist_append_left _ _)
      · rw [el] at hk2 ok
        rw [List.take_length] at ok
        rw [paired_vals hp] at ha
        exact q D bs k2 H' sb f (by omega) hD ha ok
    · refine ⟨_, pss_one (ps_ret (pe_lc (own := [("_law_thing", 2)]) (g := gName 2) rfl scSome.nd (pi_list (pv 1))
        (blkOk_by (N := nmSome) (sc := defScope sSome) (by decide +kernel)) (fun _ _ _ _ _ => pg_name (i := 2) scSome.nd rfl (.inl rfl))
        (fun _ _ _ _ _ => pts_one (pt_cmpR op_eq (pe_call O1 hr (by rfl) g1 F1.kp b1 .nil pass0 (pa_cons (pv 0) (pa_cons pe_int pa_nil))) pe_int (nomark _))) (fun _ _ _ _ _ => pv 2))), ?_⟩
      refine ⟨_, rfl, a, rfl, ⟨_, .inl (.inl ha)⟩, fun D hD => ?_⟩
      have nad : a ≠ d := SameB.ndict hf ha (fun _ z => by cases z)
      refine lc_mapF (β := Nat) (c := 1) hD hf (fun _ v b => v = nV b) (fun _ _ _ _ _ z => z) (walk_list (xs := l.map nV)) (fun _ s1 => .inl (.inl (s1 _ _ nad ha))) (fun i bs => bs.Sublist (l.take i)) (.slnil) (by rw [List.length_map]; exact Nat.lt_of_le_of_lt hl (by decide)) (fun i y Hc H' bs k2 Post Skip hi sb f hk2 ok hy k3 k4 => ?_) (fun H' acc bs k2 sb f hk2 ha' hp ok => ?_)
      · obtain ⟨rfl, hy⟩ := hy
        rw [List.getElem?_map] at hy
        cases e : l[i]? with
        | none => rw [e] at hy; cases hy
        | some c =>
          rw [e] at hy
          cases hy
          have et : l.take (i + 1) = l.take i ++ [c] := by
            rw [List.take_succ, e]
            rfl
          rw [List.length_map] at hi
          refine ⟨rfl, _, rfl, d, L, 2, k2, rfl, by decide, by decide, f, by omega, fun n H2 hn s2 f2 => ⟨rfl, _, rfl, ?_⟩⟩
          by_cases h1 : n = 1
          · subst h1
            refine iteT ⟨_, rfl, k3 _ _ c _ s2 f2 (Nat.le_refl _) rfl ?_⟩
            rw [et]
            exact ok.append (List.Sublist.refl _)
          · rw [decide_eq_false (fun e => h1 (by have := V.int.inj e; omega))]
            refine iteF (k4 _ _ s2 f2 (Nat.le_refl _) ?_)
            rw [et]
            exact ok.trans (List.sublist_append_left _ _)
      · rw [List.length_map] at hk2 ok
        rw [List.take_length] at ok
        rw [paired_vals hp] at ha'
        exact q D bs k2 H' sb f (by omega) hD ha' ok
end
end KM
/-! text KW28 -/
set_option Elab.async false
set_option linter.all false
set_option maxRecDepth 100000
set_option maxHeartbeats 4000000
namespace KM
open PySem PySem.Spec PyProof.Rows L2
/-- the signs' text, as it stands -/
def sgLit : Str := match (defBody sSigns).getD 0 (.Pass ⟨0, 0, 0, 0⟩) with
  | .Assign _ (.Constant (.str x) _ _) _ => x
  | _ => ""
def sgAt (i : Nat) : Nat := if i < 5 then 32 + i else 33 + i
theorem sgLit_at : ∀ i < 94, sgLit.cps.toList[i]? = some (sgAt i) := by decide +kernel
theorem sgLit_len : sgLit.length = 94 := by decide +kernel
theorem sgAt_ok {i : Nat} (h : i < 94) : okSign (sgAt i) := by
  unfold sgAt okSign
  split <;> omega
theorem sgAt_inj {i j : Nat} (h : sgAt i = sgAt j) : i = j := by
  unfold sgAt at h
  split at h <;> split at h <;> omega
theorem rise_signs : ∀ us : List Nat, us.Nodup → sortedS (us.map fun c => (⟨#[c]⟩ : Str)) = true → us.Pairwise (· < ·) := by
  have key : ∀ (us : List Nat) (p : Nat), (p :: us).Nodup → risingS ⟨#[p]⟩ (us.map fun c => (⟨#[c]⟩ : Str)) = true → (p :: us).Pairwise (· < ·) := by
    intro us
    induction us with
    | nil => intro p _ _; simp
    | cons c r ih =>
      intro p nd h
      have h : (!ltCps [c] [p] && risingS ⟨#[c]⟩ (r.map fun c => (⟨#[c]⟩ : Str))) = true := h
      rw [Bool.and_eq_true, Bool.not_eq_true'] at h
      have nd1 := List.nodup_cons.mp nd
      have hr := ih c nd1.2 h.2
      have ne : p ≠ c := fun e => nd1.1 (by rw [e]; exact List.mem_cons_self)
      have h1 : ¬ c < p := fun lt => by
        have z := h.1
        simp [ltCps, lt] at z
      have lt : p < c := by omega
      rw [List.pairwise_cons]
      refine ⟨fun x hx => ?_, hr⟩
      rcases List.mem_cons.mp hx with rfl | hx
      · exact lt
      · exact Nat.lt_trans lt ((List.pairwise_cons.mp hr).1 x hx)
  intro us nd h
  cases us with
  | nil => exact .nil
  | cons p r => exact key r p nd h
section
variable {P : Program} {w : World} {K : PySem.W.Frag} {mg : Str → Option Value} {base : Heap}
def spSigns : Sp := fun vs H Q _ => ∃ (d L : Addr) (k : Nat), vs = [.ref d, nV 3] ∧ FeedAt H d L k ∧ k ≤ 900000 ∧ ∀ (l : List Nat) H', SameB d H H' → FeedAt H' d L (k + 2) → SgOk l → l.length = 3 → Q (sV l) H'
abbrev nmSigns : List Str := ["_law_feed_here", "_law_many", "_law_signs_here", "_law_first", "_law_step", "_law_k"]
theorem scSigns : FnScope nmSigns ["_law_feed_here", "_law_many"] (defScope sSigns) := ⟨rfl, rfl, rfl, by decide +kernel, rfl, by decide +kernel, by decide +kernel⟩
theorem ok_signs {f f1 : Addr} {fd fd1 : FuncData} (F : FnP K "_law_signs" "_law_signs" sSigns f fd) (B : Bi mg) (F1 : FnP K "_law_draw" "_law_draw" sDraw f1 fd1) (g1 : mg "_law_draw" = some (.ref f1)) : FnOk P w K mg base CX0 2 f fd ["_law_feed_here", "_law_many"] spSigns := by
  have O1 : FnOk P w K mg base CX0 1 f1 fd1 ["_law_feed_here", "_law_many"] spDraw := ok_draw F1 B
  have b1 : Binds K fd1 ["_law_feed_here", "_law_many"] [] := F1.bindsN fun _ _ _ _ _ _ us hl => match us, hl with | [_, _], _ => rfl
  refine F.okP scSigns (fun vs H Q E h => ?_) (fun cdv A outer s H vs Q E hr h => ?_)
  · obtain ⟨d, L, k, rfl, _⟩ := h
    rfl
  · obtain ⟨d, L, k, rfl, hf, hk, q⟩ := h
    refine ⟨_, pss_cons (ps_set (i := 2) scSigns.nd rfl (.inr rfl) pe_str)
      (pss_cons (ps_set (i := 3) scSigns.nd rfl (.inr rfl) (pe_call O1 hr (by rfl) g1 F1.kp b1 .nil pass0 (pa_cons (pv 0) (pa_cons pe_int pa_nil))))
      (pss_cons (ps_set (i := 4) scSigns.nd rfl (.inr rfl) (pe_ix ix_list (pe_lst (pa_cons pe_int (pa_cons pe_int (pa_cons pe_int (pa_cons pe_int (pa_cons pe_int (pa_cons pe_int pa_nil))))))) (pe_call O1 hr (by rfl) g1 F1.kp b1 .nil pass0 (pa_cons (pv 0) (pa_cons pe_int pa_nil))) (fun _ _ => rfl)))
      (pss_one (ps_ret (pe_join pe_str (pe_callB cr_sortedS (by rfl) B.sorted (by decide +kernel) (pa_cons (pe_lc (own := [("_law_k", 5)]) (g := gName 5) (tt := tYes) rfl scSigns.nd (pi_range1 rfl B.range (pa_cons (pv 1) pa_nil))
        (blkOk_by (N := nmSigns) (sc := defScope sSigns) (by decide +kernel)) (fun _ _ _ _ _ => pg_name (i := 5) scSigns.nd rfl (.inl rfl)) (fun _ _ _ _ _ => pts_nil)
        (fun _ _ _ _ _ => pe_ix ix_str (pv 2) (pe_op op_mod (pe_op op_add (pv 3) (pe_op op_mul (pv 4) (pv 5))) pe_int) (fun _ _ => rfl))) pa_nil))))))), ?_⟩
    refine ⟨_, rfl, d, L, 94, k, rfl, by decide, by decide, hf, by omega, fun a H1 ha s1 f1' => ?_⟩
    refine ⟨(by show 6 ≤ sizeLine; decide), fun l0 hl0 => ⟨_, rfl, d, L, 6, k + 1, rfl, by decide, by decide, f1'.same (same_upd hl0), by omega, fun b H2 hb s2 f2' => ?_⟩⟩
    have nl0 := (f1'.ne hl0).1
    have hL0 := s2 _ _ nl0.symm (upd_same (H := H1) (a := l0) (o := .lst [V.int 1, .int 3, .int 5, .int 7, .int 9, .int 11]))
    have hstep : ([V.int 1, .int 3, .int 5, .int 7, .int 9, .int 11] : List V)[b]? = some (nV (2 * b + 1)) := by
      have : b = 0 ∨ b = 1 ∨ b = 2 ∨ b = 3 ∨ b = 4 ∨ b = 5 := by omega
      rcases this with rfl | rfl | rfl | rfl | rfl | rfl <;> rfl
    refine ⟨l0, _, (b : Int), nV (2 * b + 1), rfl, rfl, .inl (.inl hL0), atI_nat hstep, ?_⟩
    refine ⟨⟨_, rfl⟩, _, rfl, 3, rfl, by decide, by decide, fun D hD => ?_⟩
    let f : Nat → Nat := fun i => sgAt ((a + (2 * b + 1) * i) % 94)
    refine lc_map hD (β := Nat) (fun _ v c => v = cV c) (fun _ _ _ _ _ z => z) (walk_range (lo := 0) (n := 3)) (fun _ _ => trivial) (fun i => (List.range i).map f) rfl (by decide) (fun i y Hc H' Post Skip hi sc hy k1 k2 => ?_) (fun H3 acc s3 ha3 hp3 => ?_)
    · obtain ⟨rfl, rfl⟩ := hy
      have em : ((a : Int) + ((2 * b + 1 : Nat) : Int) * (0 + (i : Int))) % 94 = (((a + (2 * b + 1) * i) % 94 : Nat) : Int) := by
        rw [Int.zero_add]
        rfl
      refine ⟨rfl, _, rfl, _, rfl, _, rfl, _, rfl, _, _, rfl, rfl, .inl ⟨by omega, by omega⟩, _, _, rfl, rfl, _, _, rfl, rfl, (by show (0 : Int) < 94; decide), sgLit, _, f i, rfl, congrArg V.int em, ?_, ?_, ?_⟩
      · rw [sgLit_len]
        decide
      · exact atI_nat (sgLit_at _ (Nat.mod_lt _ (by decide)))
      · refine k1 _ _ (f i) (Same.refl _) rfl ?_
        rw [List.range_succ, List.map_append]
        rfl
    rw [paired_vals hp3] at ha3
    have ess : ((List.range 3).map f).map cV = ((List.range 3).map fun i => (⟨#[f i]⟩ : Str)).map V.str := by
      rw [List.map_map, List.map_map]
      rfl
    rw [ess] at ha3
    refine ⟨D, _, rfl, .inl (.inl ha3), (by rw [List.length_map, List.length_range]; decide), fun ys p pm srt hp => ?_⟩
    -- the three signs, in order
    obtain ⟨us, pu, eys⟩ := perm_lift (fun c : Nat => (⟨#[c]⟩ : Str)) (m := ys) (n := (List.range 3).map fun i => (⟨#[f i]⟩ : Str)) pm ((List.range 3).map f) (by rw [List.map_map]; rfl)
    have s4 := same_upd hp (o := .lst (ys.map V.str))
    have nd : ((List.range 3).map f).Nodup := by
      refine nodup_map_on (fun x hx y hy e => ?_) List.nodup_range
      have hx := List.mem_range.mp hx
      have hy := List.mem_range.mp hy
      have e := sgAt_inj e
      have hb2 : b ≤ 5 := by omega
      have : b = 0 ∨ b = 1 ∨ b = 2 ∨ b = 3 ∨ b = 4 ∨ b = 5 := by omega
      rcases this with rfl | rfl | rfl | rfl | rfl | rfl <;> omega
    have ul : us.length = 3 := by rw [pu.length_eq]; rfl
    have und : us.Nodup := pu.nodup_iff.mpr nd
    have uok : ∀ c ∈ us, okSign c := fun c hc => by
      obtain ⟨i, _, rfl⟩ := List.mem_map.mp (pu.mem_iff.mp hc)
      exact sgAt_ok (Nat.mod_lt _ (by decide))
    have urise : us.Pairwise (· < ·) := by
      rw [← eys] at srt
      exact rise_signs us und srt
    have eyV : ys.map V.str = us.map cV := by
      rw [← eys, List.map_map]
      rfl
    rw [eyV] at s4 ⊢
    have esgok : SgOk us := ⟨(fun e => by rw [e] at ul; cases ul), urise, uok⟩
    refine ⟨_, p, us.map fun c => (⟨#[c]⟩ : Str), rfl, rfl, .inl (.inl (.inl (by rw [List.map_map]; exact upd_same))), ?_, ?_⟩
    · rw [len_signs, List.length_map]
      show us.length + us.length * 0 ≤ 16777216
      omega
    · have ej : Txt.join ("" : Str) (us.map fun c => (⟨#[c]⟩ : Str)) = sS us := join_signs us
      rw [show Txt.join _ (us.map fun c => (⟨#[c]⟩ : Str)) = sS us from ej]
      have sl0 : Same H1 (upd H1 l0 (.lst [V.int 1, .int 3, .int 5, .int 7, .int 9, .int 11])) := same_upd hl0
      exact q us _ (((s1.trans (SameB.of sl0)).trans s2).trans (SameB.of (s3.trans s4))) ((f2'.same s3).same s4) esgok ul
end
end KM
/-! text KW29 -/
set_option Elab.async false
set_option linter.all false
set_option maxRecDepth 100000
set_option maxHeartbeats 4000000
namespace KM
open PySem PySem.Spec PyProof.Rows L2
/-- every text, one sign longer -/
def longer (l : List Nat) (row : List (List Nat)) : List (List Nat) := row.flatMap fun t => l.map fun c => t ++ [c]
def rowN (l : List Nat) : Nat → List (List Nat)
  | 0 => [[]]
  | n + 1 => longer l (rowN l n)
def textsN (l : List Nat) : Nat → List (List Nat)
  | 0 => [[]]
  | n + 1 => textsN l n ++ rowN l (n + 1)
theorem longer_len (l : List Nat) (row : List (List Nat)) : (longer l row).length = row.length * l.length := by
  unfold longer
  induction row with
  | nil => simp
  | cons t r ih => rw [List.flatMap_cons, List.length_append, List.length_map, ih, List.length_cons, Nat.add_mul, Nat.one_mul, Nat.add_comm]
theorem rowN_len {l : List Nat} (h : l.length ≤ 3) : ∀ n, (rowN l n).length ≤ 3 ^ n
  | 0 => Nat.le_refl _
  | n + 1 => by
    show (longer l (rowN l n)).length ≤ 3 ^ n * 3
    rw [longer_len]
    exact Nat.mul_le_mul (rowN_len h n) h
theorem textsN_len {l : List Nat} (h : l.length ≤ 3) : ∀ n, (textsN l n).length ≤ 2 * 3 ^ n
  | 0 => (by show 1 ≤ 2 * 1; decide)
  | n + 1 => by
    show (textsN l n ++ rowN l (n + 1)).length ≤ 2 * (3 ^ n * 3)
    rw [List.length_append]
    have a := textsN_len h n
    have b := rowN_len h (n + 1)
    have b : (rowN l (n + 1)).length ≤ 3 ^ n * 3 := b
    omega
theorem longer_snoc {l : List Nat} {row : List (List Nat)} {i : Nat} {t : List Nat} (h : row[i]? = some t) : longer l (row.take (i + 1)) = longer l (row.take i) ++ l.map fun c => t ++ [c] := by
  unfold longer
  rw [List.take_succ, h, List.flatMap_append]
  show _ ++ [t].flatMap _ = _
  rw [List.flatMap_singleton]
theorem rowN_word {l : List Nat} : ∀ {n : Nat} {t : List Nat}, t ∈ rowN l n → t.length = n
  | 0, t, h => by
    rw [List.mem_singleton.mp h]
    rfl
  | n + 1, t, h => by
    obtain ⟨u, hu, h⟩ := List.mem_flatMap.mp h
    obtain ⟨c, _, rfl⟩ := List.mem_map.mp h
    rw [List.length_append, rowN_word hu]
    rfl
theorem sS_append (a b : List Nat) : sS a ++ sS b = sS (a ++ b) := by
  refine TL.ext_tl ?_
  rw [TL.tl_append, tl_sS, tl_sS, tl_sS]
section
variable {P : Program} {w : World} {K : PySem.W.Frag} {mg : Str → Option Value} {base : Heap}
def spTexts : Sp := fun vs H Q _ => ∃ l : List Nat, vs = [sV l, nV 4] ∧ l.length = 3 ∧ ∀ (p : Addr) H', Same H H' → H' p = some (.lst ((textsN l 4).map sV)) → Q (.ref p) H'
abbrev nmTexts : List Str := ["_law_signs_here", "_law_longest", "_law_found", "_law_row", "_law_turn", "_law_longer", "_law_text", "_law_sign"]
theorem scTexts : FnScope nmTexts ["_law_signs_here", "_law_longest"] (defScope sTexts) := ⟨rfl, rfl, rfl, by decide +kernel, rfl, by decide +kernel, by decide +kernel⟩
theorem ok_texts {f : Addr} {fd : FuncData} (F : FnP K "_law_texts" "_law_texts" sTexts f fd) (B : Bi mg) : FnOk P w K mg base CX0 1 f fd ["_law_signs_here", "_law_longest"] spTexts := by
  refine F.okP scTexts (fun vs H Q E h => ?_) (fun cdv A outer s H vs Q E hr h => ?_)
  · obtain ⟨l, rfl, _⟩ := h
    rfl
  · obtain ⟨l, rfl, hl, q⟩ := h
    refine ⟨_, pss_cons (ps_par (i := 2) (j := 3) (by rfl) scTexts.nd rfl rfl (by decide) rfl rfl (pa_cons (pe_lst (pa_cons pe_str pa_nil)) (pa_cons (pe_lst (pa_cons pe_str pa_nil)) pa_nil)) (by rfl))
      (pss_cons (ps_for PassesOwn.never rfl (pi_range1 rfl B.range (pa_cons (pv 1) pa_nil)) (pg_name (i := 4) scTexts.nd rfl (.inl rfl))
        (pss_cons (ps_set (i := 5) scTexts.nd rfl (.inl rfl) (pe_lst pa_nil))
        (pss_cons (ps_for PassesOwn.never rfl (pi_list (pv 3)) (pg_name (i := 6) scTexts.nd rfl (.inr rfl))
          (pss_one (ps_set (i := 5) scTexts.nd rfl (.inl rfl) (pe_op op_cat (pv 5) (pe_lc (own := [("_law_sign", 7)]) (g := gName 7) (tt := tYes) rfl scTexts.nd (pi_str (pv 0))
            (blkOk_by (N := nmTexts) (sc := defScope sTexts) (by decide +kernel)) (fun _ _ _ _ _ => pg_name (i := 7) scTexts.nd rfl (.inl rfl)) (fun _ _ _ _ _ => pts_nil) (fun _ _ _ _ _ => pe_op op_add_str (pv 6) (pv 7)))))))
        (pss_cons (ps_set (i := 3) scTexts.nd rfl (.inl rfl) (pv 5))
        (pss_one (ps_set (i := 2) scTexts.nd rfl (.inl rfl) (pe_op op_cat (pv 2) (pv 3))))))))
      (pss_one (ps_ret (pv 2)))), ?_⟩
    have line : (2000 : Nat) < sizeLine := by decide
    have l3 : l.length ≤ 3 := Nat.le_of_eq hl
    have el : (sS l).cps.size = l.length := List.size_toArray
    have p34 : ∀ i, i ≤ 4 → 3 ^ i ≤ 81 := fun i hi => Nat.pow_le_pow_right (by decide) hi
    refine ⟨(by show 1 ≤ sizeLine; decide), fun Fa hFa => ⟨(by show 1 ≤ sizeLine; decide), fun Ra hRa => ⟨_, _, rfl, ?_⟩⟩⟩
    have s1 := same_upd hFa (o := .lst [sV []])
    have s2 := same_upd hRa (o := .lst [sV []])
    refine ⟨_, rfl, 4, rfl, by decide, by decide, ?_⟩
    refine for_range (lo := 0) (n := 4) (fun i σ Hx => ∃ (Fa Ra : Addr) (y4 y5 y6 : Option V), σ = [some (sV l), some (nV 4), some (.ref Fa), some (.ref Ra), y4, y5, y6, none] ∧ Same H Hx ∧ Hx Fa = some (.lst ((textsN l i).map sV)) ∧ Hx Ra = some (.lst ((rowN l i).map sV)))
      ⟨Fa, Ra, none, none, none, rfl, s1.trans s2, s2 _ _ upd_same, upd_same⟩ ?_ ?_
    · rintro i σ Hx hi ⟨Fa, Ra, y4, y5, y6, rfl, sx, hF, hR⟩
      have r1 := rowN_len l3 i
      have r2 := rowN_len l3 (i + 1)
      have r3 := textsN_len l3 i
      have p1 := p34 i (by omega)
      have p2 := p34 (i + 1) (by omega)
      refine ⟨Nat.zero_le _, fun Ld hLd => ?_⟩
      have s3 := same_upd hLd (o := .lst [])
      refine ⟨_, rfl, Ra, rfl, ⟨_, .inl (.inl (s3 _ _ hR))⟩, ?_⟩
      refine for_it (walk_list (xs := (rowN l i).map sV)) (fun j σ Hy => ∃ (Ld : Addr) (y6 : Option V), σ = [some (sV l), some (nV 4), some (.ref Fa), some (.ref Ra), some (.int (0 + (i : Int))), some (.ref Ld), y6, none] ∧ Same Hx Hy ∧ Hy Ld = some (.lst ((longer l ((rowN l i).take j)).map sV)))
        ⟨Ld, _, rfl, s3, upd_same⟩ (fun _ _ _ _ ⟨_, _, _, sy, _⟩ => .inl (.inl (sy _ _ hR))) ?_ ?_
      · rintro j v σ Hy Hy' hj ⟨Ld, y6, rfl, sy, hL⟩ ⟨rfl, hv⟩
        rw [List.getElem?_map] at hv
        cases ht : (rowN l i)[j]? with
        | none => rw [ht] at hv; cases hv
        | some t =>
          rw [ht] at hv
          cases hv
          have tl := rowN_word (List.mem_of_getElem? ht)
          refine ⟨_, rfl, _, rfl, sS l, rfl, fun D hD => ?_⟩
          refine lc_map hD (β := List Nat) (fun _ v b => v = sV b) (fun _ _ _ _ _ z => z) (walk_str (z := sS l)) (fun _ _ => trivial) (fun i => (l.take i).map fun c => t ++ [c]) rfl (by rw [el]; omega) (fun i y Hc H' Post Skip hi sc hy k1 k2 => ?_) (fun H1 acc sl ha1 hp1 => ?_)
          · obtain ⟨rfl, c, hc, rfl⟩ := hy
            have e : l[i]? = some c := by
              have e2 : l.toArray[i]? = some c := hc
              simpa using e2
            refine ⟨rfl, _, rfl, _, rfl, sS t, sS [c], rfl, rfl, ?_, ?_⟩
            · rw [sS_len, sS_len, tl]
              show _ + 1 ≤ sizeLine
              omega
            · refine k1 _ _ (t ++ [c]) (Same.refl _) (by rw [sS_append]; rfl) ?_
              rw [List.take_succ, e, List.map_append]
              rfl
          · rw [el, List.take_length] at hp1
            rw [paired_vals hp1] at ha1
            have lj : (longer l ((rowN l i).take j)).length ≤ 243 := by
              rw [longer_len, List.length_take]
              have := Nat.mul_le_mul (Nat.le_trans (Nat.min_le_right j (rowN l i).length) r1) l3
              omega
            refine ⟨Ld, D, _, _, rfl, rfl, sl _ _ hL, ha1, by rw [List.length_map, List.length_map, List.length_map]; omega, fun p hp => ?_⟩
            refine ⟨p, _, rfl, (sy.trans sl).trans (same_upd hp), ?_⟩
            rw [upd_same, longer_snoc ht, List.map_append]
      · rintro σ Hy ⟨Ld, y6, rfl, sy, hL⟩
        rw [List.length_map, List.take_length] at hL
        have hL : Hy Ld = some (.lst ((rowN l (i + 1)).map sV)) := hL
        refine ⟨_, rfl, _, rfl, _, rfl, Fa, Ld, _, _, rfl, rfl, sy _ _ hF, hL, by rw [List.length_map, List.length_map]; omega, fun p hp => ?_⟩
        have s5 := same_upd hp (o := .lst ((textsN l i).map sV ++ (rowN l (i + 1)).map sV))
        refine ⟨p, Ld, _, _, _, rfl, (sx.trans sy).trans s5, ?_, s5 _ _ hL⟩
        rw [upd_same, ← List.map_append]
        rfl
    · rintro σ Hx ⟨Fa, Ra, y4, y5, y6, rfl, sx, hF, hR⟩
      exact ⟨_, rfl, q Fa Hx sx hF⟩
end
end KM
/-! text KW30 -/
set_option Elab.async false
set_option linter.all false
set_option maxRecDepth 100000
set_option maxHeartbeats 4000000
namespace KM
open PySem PySem.Spec PyProof.Rows L2
theorem rgV0 (m : Nat) : rgV 0 (m : Int) = (List.range m).map nV := by
  unfold rgV
  rw [show ((m : Int) - 0).toNat = m by omega]
  refine List.map_congr_left fun i _ => ?_
  show V.int (0 + (i : Int)) = V.int (i : Int)
  rw [Int.zero_add]
/-- what the law's machines are: small, their signs from l -/
structure MOk (l : List Nat) (M : Mch) : Prop where
  wf : M.WF
  many : M.many ≤ 5
  st : M.steps.length ≤ 16
  sg : ∀ s ∈ M.steps, ∀ c ∈ s.2.1, c ∈ l
theorem sub_range_rise {l : List Nat} {m : Nat} (h : l.Sublist (List.range m)) : l.Pairwise (· < ·) ∧ ∀ p ∈ l, p < m := ⟨List.pairwise_lt_range.sublist h, fun p hp => List.mem_range.mp (h.subset hp)⟩
section
variable {P : Program} {w : World} {K : PySem.W.Frag} {mg : Str → Option Value} {base : Heap}
theorem same_updE {H : Hp} {a : Addr} {o : HO} (h : H a = none) : Same H (upd H a o) ∧ upd H a o a = some o := ⟨same_upd h, upd_same⟩
theorem RawAt.mono {H H' : Hp} {v : V} {M : Mch} (t : TupS H H') (h : RawAt H v M) : RawAt H' v M := by
  obtain ⟨a, tb, ts, te, sv, h0, h1, h2, h3, h4, h5⟩ := h.ex
  exact ⟨a, tb, ts, te, sv, h0, t _ _ h1, t _ _ h2, t _ _ h3, paired_mono h4 fun _ _ r => Tup.mono t r, t _ _ h5⟩
def spRaw : Sp := fun vs H Q _ => ∃ (d L : Addr) (k : Nat) (l : List Nat), vs = [.ref d, sV l, nV 4] ∧ FeedAt H d L k ∧ k ≤ 500000 ∧ SgOk l ∧ l.length ≤ 3 ∧ ∀ (v : V) (M : Mch) (k' : Nat) H', SameB d H H' → FeedAt H' d L k' → k' ≤ k + 1000 → RawAt H' v M → MOk l M → Q v H'
abbrev nmRaw : List Str := ["_law_feed_here", "_law_signs_here", "_law_most", "_law_many", "_law_steps", "_law_place", "_law_other", "_law_by", "_law_begins", "_law_ends"]
theorem scRaw : FnScope nmRaw ["_law_feed_here", "_law_signs_here", "_law_most"] (defScope sRaw) := ⟨rfl, rfl, rfl, by decide +kernel, rfl, by decide +kernel, by decide +kernel⟩
theorem ok_raw {f f1 f2 : Addr} {fd fd1 fd2 : FuncData} (F : FnP K "_law_raw" "_law_raw" sRaw f fd) (B : Bi mg) (F1 : FnP K "_law_draw" "_law_draw" sDraw f1 fd1) (g1 : mg "_law_draw" = some (.ref f1)) (F2 : FnP K "_law_some" "_law_some" sSome f2 fd2) (g2 : mg "_law_some" = some (.ref f2)) :
    FnOk P w K mg base CX0 3 f fd ["_law_feed_here", "_law_signs_here", "_law_most"] spRaw := by
  have O1 : FnOk P w K mg base CX0 1 f1 fd1 ["_law_feed_here", "_law_many"] spDraw := ok_draw F1 B
  have O2 : FnOk P w K mg base CX0 2 f2 fd2 ["_law_feed_here", "_law_things"] spSome := ok_some F2 B F1 g1
  have b1 : Binds K fd1 ["_law_feed_here", "_law_many"] [] := F1.bindsN fun _ _ _ _ _ _ us hl => match us, hl with | [_, _], _ => rfl
  have b2 : Binds K fd2 ["_law_feed_here", "_law_things"] [] := F2.bindsN fun _ _ _ _ _ _ us hl => match us, hl with | [_, _], _ => rfl
  refine F.okP scRaw (fun vs H Q E h => ?_) (fun cdv A outer s H vs Q E hr h => ?_)
  · obtain ⟨d, L, k, l, rfl, _⟩ := h
    rfl
  · obtain ⟨d, L, k, l, rfl, hf, hk, lok, ll, q⟩ := h
    have hr1 : Room 1 _ := hr.mono (by decide)
    refine ⟨_, pss_cons (ps_set (i := 3) scRaw.nd rfl (.inl rfl) (pe_op op_add pe_int (pe_call O1 hr1 (by rfl) g1 F1.kp b1 .nil pass0 (pa_cons (pv 0) (pa_cons (pv 2) pa_nil)))))
      (pss_cons (ps_set (i := 4) scRaw.nd rfl (.inl rfl) (pe_lst pa_nil))
      (pss_cons (ps_for PassesOwn.never rfl (pi_range1 rfl B.range (pa_cons (pv 3) pa_nil)) (pg_name (i := 5) scRaw.nd rfl (.inl rfl))
        (pss_one (ps_for PassesOwn.never rfl (pi_range1 rfl B.range (pa_cons (pv 3) pa_nil)) (pg_name (i := 6) scRaw.nd rfl (.inl rfl))
          (pss_cons (ps_set (i := 7) scRaw.nd rfl (.inl rfl) (pe_join pe_str (pe_call O2 hr (by rfl) g2 F2.kp b2 .nil pass0 (pa_cons (pv 0) (pa_cons (pv 1) pa_nil)))))
          (pss_one (ps_if (PW.pt (pw_and (pt_cmpR op_ne (pv 7) pe_str (nomark _)) (pw_and1 (pt_cmpR op_lt (pe_call O1 hr1 (by rfl) g1 F1.kp b1 .nil pass0 (pa_cons (pv 0) (pa_cons pe_int pa_nil))) pe_int (nomark _)))))
            (pss_one (ps_expr (pe_bm PySem.F.plainAttrs_list PySem.F.slot_list_append PySem.F.type_list_append mt_append (pv 4) (pa_cons (pe_tup (pa_cons (pv 5) (pa_cons (pv 7) (pa_cons (pv 6) pa_nil)))) pa_nil)))) pss_nil))))))
      (pss_cons (ps_par (i := 8) (j := 9) (by rfl) scRaw.nd rfl rfl (by decide) rfl rfl (pa_cons (pe_call O2 hr (by rfl) g2 F2.kp b2 .nil pass0 (pa_cons (pv 0) (pa_cons (pe_listRg rfl (by rfl) B.list (prg_1 (by rfl) B.range (pv 3))) pa_nil))) (pa_cons (pe_call O2 hr (by rfl) g2 F2.kp b2 .nil pass0 (pa_cons (pv 0) (pa_cons (pe_listRg rfl (by rfl) B.list (prg_1 (by rfl) B.range (pv 3))) pa_nil))) pa_nil)) (by rfl))
      (pss_cons (ps_if (pt_cmpR (op_eqD (by exact hu64 hr)) (pv 8) (pe_lst pa_nil) (nomark _)) (pss_one (ps_set (i := 8) scRaw.nd rfl (.inl rfl) (pe_lst (pa_cons (pe_call O1 hr1 (by rfl) g1 F1.kp b1 .nil pass0 (pa_cons (pv 0) (pa_cons (pv 3) pa_nil))) pa_nil)))) pss_nil)
      (pss_cons (ps_if (PW.pt (pw_and (pt_cmpR (op_eqD (by exact hu64 hr)) (pv 9) (pe_lst pa_nil) (nomark _)) (pw_and1 (pt_cmpR op_gt (pe_call O1 hr1 (by rfl) g1 F1.kp b1 .nil pass0 (pa_cons (pv 0) (pa_cons pe_int pa_nil))) pe_int (nomark _))))) (pss_one (ps_set (i := 9) scRaw.nd rfl (.inl rfl) (pe_lst (pa_cons (pe_call O1 hr1 (by rfl) g1 F1.kp b1 .nil pass0 (pa_cons (pv 0) (pa_cons (pv 3) pa_nil))) pa_nil)))) pss_nil)
      (pss_one (ps_ret (pe_tup (pa_cons (pv 3) (pa_cons (pe_callTy call_tuple_of (by rfl) B.tuple (by decide +kernel) (pa_cons (pv 8) pa_nil)) (pa_cons (pe_callTy call_tuple_of (by rfl) B.tuple (by decide +kernel) (pa_cons (pe_callB (cr_sortedD (by exact hu64 hr)) (by rfl) B.sorted (by decide +kernel) (pa_cons (pv 4) pa_nil)) pa_nil)) (pa_cons (pe_callTy call_tuple_of (by rfl) B.tuple (by decide +kernel) (pa_cons (pv 9) pa_nil)) pa_nil)))))))))))), ?_⟩
    have line : (2000 : Nat) < sizeLine := by decide
    refine ⟨_, rfl, _, rfl, d, L, 4, k, rfl, by decide, by decide, hf, by omega, fun n H1 hn s1 f1' => ?_⟩
    obtain ⟨m, hm, m1, m4⟩ : ∃ m : Nat, (1 : Int) + (n : Int) = (m : Int) ∧ 1 ≤ m ∧ m ≤ 4 := ⟨1 + n, rfl, by omega, by omega⟩
    refine ⟨_, _, rfl, rfl, ?_⟩
    simp only [hm]
    clear hm
    refine ⟨Nat.zero_le _, fun Sd hSd => ?_⟩
    have nSd : Sd ≠ d := (f1'.ne hSd).1.symm
    have HSd : H Sd = none := by
      cases z : H Sd with
      | none => rfl
      | some o =>
        rw [s1 _ _ nSd z] at hSd
        cases hSd
    refine ⟨_, rfl, (m : Int), rfl, by omega, by omega, ?_⟩
    refine for_range (lo := 0) (n := ((m : Int)).toNat) (fun i σ Hx => ∃ (kk : Nat) (ss : List Stp) (sv : List V) (y5 y6 y7 : Option V), σ = [some (.ref d), some (sV l), some (nV 4), some (nV m), some (.ref Sd), y5, y6, y7, none, none] ∧ SameB d H Hx ∧ FeedAt Hx d L kk ∧ kk ≤ k + 1 + 44 * i ∧ Hx Sd = some (.lst sv) ∧ Paired (StpAt Hx) sv ss ∧
        ss.length ≤ 4 * i ∧ (ss.map fun s => (s.1, s.2.2)).Nodup ∧ ∀ s ∈ ss, s.1 < i ∧ s.1 < m ∧ s.2.2 < m ∧ SgOk s.2.1 ∧ ∀ c ∈ s.2.1, c ∈ l)
      ⟨k + 1, [], [], none, none, none, rfl, s1.trans (SameB.of (same_upd hSd)), f1'.same (same_upd hSd), by omega, upd_same, .nil, by simp, .nil, fun s hs => by cases hs⟩ ?_ ?_
    · rintro i σ Hx hi ⟨kk, ss, sv, y5, y6, y7, rfl, sb, f, hkk, hS, pS, sl, snd, sall⟩
      have hi : i < m := by omega
      refine ⟨_, rfl, (m : Int), rfl, by omega, by omega, ?_⟩
      refine for_range (lo := 0) (n := ((m : Int)).toNat) (fun j σ Hy => ∃ (kk : Nat) (ss : List Stp) (sv : List V) (y6 y7 : Option V), σ = [some (.ref d), some (sV l), some (nV 4), some (nV m), some (.ref Sd), some (.int (0 + (i : Int))), y6, y7, none, none] ∧ SameB d H Hy ∧ FeedAt Hy d L kk ∧ kk ≤ k + 1 + 44 * i + 11 * j ∧ Hy Sd = some (.lst sv) ∧ Paired (StpAt Hy) sv ss ∧
          ss.length ≤ 4 * i + j ∧ (ss.map fun s => (s.1, s.2.2)).Nodup ∧ ∀ s ∈ ss, (s.1 < i ∨ (s.1 = i ∧ s.2.2 < j)) ∧ s.1 < m ∧ s.2.2 < m ∧ SgOk s.2.1 ∧ ∀ c ∈ s.2.1, c ∈ l)
        ⟨kk, ss, sv, _, _, rfl, sb, f, by omega, hS, pS, by omega, snd, fun s hs => ⟨.inl (sall s hs).1, (sall s hs).2⟩⟩ ?_ ?_
      · rintro j σ Hy hj ⟨kk, ss, sv, y6, y7, rfl, sb, f, hkk, hS, pS, sl, snd, sall⟩
        have hj : j < m := by omega
        refine ⟨⟨_, rfl⟩, _, rfl, _, rfl, d, L, kk, f, by omega, .inl ⟨l, rfl, by omega, fun p l' k' H2 s2 f2 hk2 hpn hp sub => ?_⟩⟩
        have l'l : l'.length ≤ l.length := sub.length_le
        refine ⟨_, p, l'.map fun c => (⟨#[c]⟩ : Str), rfl, rfl, .inl (.inl (.inl (by rw [List.map_map]; exact hp))), ?_, ?_⟩
        · rw [len_signs, List.length_map]
          show l'.length + l'.length * 0 ≤ 16777216
          omega
        have ej : Txt.join ("" : Str) (l'.map fun c => (⟨#[c]⟩ : Str)) = sS l' := join_signs l'
        rw [show Txt.join _ (l'.map fun c => (⟨#[c]⟩ : Str)) = sS l' from ej]
        have sb2 := sb.trans s2
        have hS2 := s2 _ _ nSd hS
        have pS2 := paired_mono pS fun _ _ (r : StpAt Hy _ _) => Tup.mono (s2.tup f) r
        have okj : ∀ s ∈ ss, (s.1 < i ∨ (s.1 = i ∧ s.2.2 < j + 1)) ∧ s.1 < m ∧ s.2.2 < m ∧ SgOk s.2.1 ∧ ∀ c ∈ s.2.1, c ∈ l := fun s hs => by
          obtain ⟨z, r⟩ := sall s hs
          exact ⟨z.imp id (fun z => ⟨z.1, by omega⟩), r⟩
        refine ⟨_, rfl, rfl, ?_⟩
        by_cases hne : l' = []
        · refine ⟨false, ?_, iteF ⟨k', ss, sv, _, _, rfl, sb2, f2, by omega, hS2, pS2, by omega, snd, okj⟩⟩
          show V.bl (!decide (sV l' = V.str "")) = V.bl false
          rw [decide_eq_true (show sV l' = V.str "" by rw [hne]; rfl)]
          rfl
        refine ⟨true, ?_, iteT ?_⟩
        · show V.bl (!decide (sV l' = V.str "")) = V.bl true
          rw [decide_eq_false (fun z : sV l' = V.str "" => hne (by
            have z2 : sS l' = "" := V.str.inj z
            have z4 := congrArg (fun x : Str => x.cps.toList) z2
            rw [sS_cps] at z4
            exact z4))]
          rfl
        refine ⟨_, rfl, d, L, 3, k', rfl, by decide, by decide, f2, by omega, fun n3 H3 hn3 s3 f3 => ⟨_, _, rfl, rfl, _, rfl, ?_⟩⟩
        have sb3 := sb2.trans s3
        have hS3 := s3 _ _ nSd hS2
        have pS3 := paired_mono pS2 fun _ _ (r : StpAt H2 _ _) => Tup.mono (s3.tup f2) r
        by_cases h2 : n3 < 2
        · rw [decide_eq_true (by omega)]
          have lok' : SgOk l' := ⟨hne, lok.rise.sublist sub, fun c hc => lok.ok c (sub.subset hc)⟩
          refine iteT ⟨_, rfl, .inl ⟨rfl, _, .inl (.inl hS3)⟩, _, rfl, _, rfl, _, rfl, (by show 3 ≤ sizeLine; decide), fun u hu => ?_⟩
          have su := same_upd hu (o := .tup [.int (0 + (i : Int)), sV l', .int (0 + (j : Int))])
          have hSu := su _ _ hS3
          have svl := Paired.length pS
          refine ⟨Sd, sv, _, rfl, rfl, hSu, by omega, ?_⟩
          have tu : TupS (upd H3 u (.tup [.int (0 + (i : Int)), sV l', .int (0 + (j : Int))])) (upd (upd H3 u (.tup [.int (0 + (i : Int)), sV l', .int (0 + (j : Int))])) Sd (.lst (sv ++ [.ref u]))) := TupS.upd hSu fun xs z => by cases z
          have f4 := (f3.same su)
          have nL : L ≠ Sd := (f1'.ne hSd).2
          refine ⟨k' + 1, ss ++ [(i, l', j)], _, _, _, rfl, fun b o nb e => ?_, f4.upd nSd.symm nL, by omega, upd_same, paired_snoc (paired_mono pS3 fun _ _ r => Tup.mono ((TupS.same su).trans tu) r) ⟨u, rfl, ?_⟩, by rw [List.length_append, List.length_singleton]; omega, ?_, fun s hs => ?_⟩
          · rw [upd_ne (ne_of_none e HSd)]
            exact su _ _ (sb3 _ _ nb e)
          · rw [upd_ne (ne_of_none hS3 hu).symm, upd_same, Int.zero_add, Int.zero_add]
            rfl
          · rw [List.map_append, List.nodup_append]
            refine ⟨snd, by simp, fun x hx y hy e => ?_⟩
            have ey : y = (i, j) := by simpa using hy
            obtain ⟨s, hs, rfl⟩ := List.mem_map.mp hx
            rw [ey] at e
            have e1 := (Prod.mk.inj e).1
            have e2 := (Prod.mk.inj e).2
            rcases (sall s hs).1 with z | ⟨_, z⟩ <;> omega
          · rcases List.mem_append.mp hs with hs | hs
            · exact okj s hs
            · rw [List.mem_singleton.mp hs]
              exact ⟨.inr ⟨rfl, Nat.lt_succ_self _⟩, hi, hj, lok', fun c hc => sub.subset hc⟩
        · rw [decide_eq_false (by omega)]
          exact iteF ⟨k' + 1, ss, sv, _, _, rfl, sb3, f3, by omega, hS3, pS3, by omega, snd, okj⟩
      · rintro σ Hy ⟨kk, ss, sv, y6, y7, rfl, sb, f, hkk, hS, pS, sl, snd, sall⟩
        have em : ((m : Int)).toNat = m := rfl
        rw [em] at hkk sl
        exact ⟨kk, ss, sv, _, _, _, rfl, sb, f, by omega, hS, pS, by omega, snd, fun s hs => ⟨by rcases (sall s hs).1 with z | ⟨z, _⟩ <;> omega, (sall s hs).2⟩⟩
    · rintro σ Hx ⟨kk, ss, sv, y5, y6, y7, rfl, sb, f, hkk, hS, pS, sl, snd, sall⟩
      have em : ((m : Int)).toNat = m := rfl
      rw [em] at hkk sl
      have nL : L ≠ Sd := (f1'.ne hSd).2
      -- begins and ends
      refine ⟨_, rfl, _, rfl, (m : Int), rfl, RgOk.of_le (by omega) (by omega) (by omega) (by omega), fun r1 hr1' => ⟨d, L, kk, f.same (same_upd hr1'), by omega, .inr ⟨r1, List.range m, rfl, by rw [upd_same, rgV0], by rw [List.length_range]; omega, fun Ba bs k2 H2 s2 f2 hk2 hBn hB2 subB => ?_⟩⟩⟩
      have sr1 : SameB d Hx H2 := (SameB.of (same_upd hr1')).trans s2
      refine ⟨_, rfl, _, rfl, (m : Int), rfl, RgOk.of_le (by omega) (by omega) (by omega) (by omega), fun r2 hr2' => ⟨d, L, k2, f2.same (same_upd hr2'), by omega, .inr ⟨r2, List.range m, rfl, by rw [upd_same, rgV0], by rw [List.length_range]; omega, fun Ea es k3 H3 s3 f3 hk3 hEn hE3 subE => ?_⟩⟩⟩
      have sr2 : SameB d H2 H3 := (SameB.of (same_upd hr2')).trans s3
      have nBd : Ba ≠ d := SameB.ndict f2 hB2 (fun _ z => by cases z)
      have hB3 := sr2 _ _ nBd hB2
      have sb3 := (sb.trans sr1).trans sr2
      have hS3 := sr2 _ _ nSd (sr1 _ _ nSd hS)
      have pS3 := paired_mono pS fun _ _ (r : StpAt Hx _ _) => Tup.mono ((sr1.tup f).trans (sr2.tup f2)) r
      have hk4 : k3 ≤ k + 1 + 44 * m + 20 := by omega
      refine ⟨_, _, rfl, ?_⟩
      refine ⟨_, rfl, Nat.zero_le _, fun e0 he0 => ?_⟩
      have se := same_upd he0 (o := .lst [])
      refine ⟨.list (bs.map fun n : Nat => PyData.int (n : Int)), .list [], .lst (.inl (.inl (se _ _ hB3))) (dpAll_ints _ bs), .lst (.inl (.inl upd_same)) .nil, shaped_ints bs, rfl, _, rfl, ?_⟩
      rw [eqv_nil]
      obtain ⟨H4, hH4⟩ : ∃ H4, upd H3 e0 (.lst []) = H4 := ⟨_, rfl⟩
      rw [hH4] at se ⊢
      clear hH4 he0
      have hB4 := se _ _ hB3
      have hE4 := se _ _ hE3
      have hS4 := se _ _ hS3
      have pS4 := paired_mono pS3 fun _ _ (r : StpAt H3 _ _) => r.same se
      have f4 := f3.same se
      have sb4 := sb3.trans (SameB.of se)
      have nEd : Ea ≠ d := SameB.ndict f3 hE3 (fun _ z => by cases z)
      obtain ⟨rB0, lB0⟩ := sub_range_rise subB
      obtain ⟨rE0, lE0⟩ := sub_range_rise subE
      clear subB subE hB3 hE3 hS3 pS3 sb3 hB2 hS pS sb s2 s3 sr1 sr2 se
      by_cases hb0 : bs = []
      rotate_left
      -- some begins
      have ht : (bs.map fun n : Nat => PyData.int (n : Int)).isEmpty = false := by
        cases bs with
        | nil => exact absurd rfl hb0
        | cons x r => rfl
      rw [ht]
      refine iteF ?_
      have hB5 := hB4
      have rB := rB0
      have lB := lB0
      have f5 := f4
      have hk5 : k3 ≤ k + 1 + 44 * m + 21 := by omega
      have sb5 := sb4
      have hS5 := hS4
      have pS5 := pS4
      have hE5 := hE4
      clear hB4 rB0 lB0 f4 sb4 hS4 pS4 hE4 hb0 ht
      obtain ⟨bx, ebx⟩ : ∃ bx, bs = bx := ⟨_, rfl⟩
      rw [ebx] at hB5 rB lB
      clear ebx
      rotate_left
      -- none: one is drawn
      rw [hb0]
      refine iteT ⟨_, rfl, _, rfl, d, L, m, k3, rfl, by omega, by omega, f4, by omega, fun n5 H5 hn5 s5 f5' => ⟨(by show 1 ≤ sizeLine; decide), fun Bn hBn => ?_⟩⟩
      have sn := same_upd hBn (o := .lst [nV n5])
      have hB5 : upd H5 Bn (.lst [nV n5]) Bn = some (.lst (([n5] : List Nat).map nV)) := upd_same
      have rB : ([n5] : List Nat).Pairwise (· < ·) := by simp
      have lB : ∀ p ∈ ([n5] : List Nat), p < m := fun p hp => by rw [List.mem_singleton.mp hp]; exact hn5
      have f5 := f5'.same sn
      have hk5 : k3 + 1 ≤ k + 1 + 44 * m + 21 := by omega
      have sb5 := (sb4.trans s5).trans (SameB.of sn)
      have hS5 := sn _ _ (s5 _ _ nSd hS4)
      have pS5 := paired_mono pS4 fun _ _ (r : StpAt H4 _ _) => Tup.mono ((s5.tup f4).trans (TupS.same sn)) r
      have hE5 := sn _ _ (s5 _ _ nEd hE4)
      clear hB4 rB0 lB0 f4 sb4 hS4 pS4 hE4 hb0 f5' s5 sn
      obtain ⟨bx, ebx⟩ : ∃ bx, [n5] = bx := ⟨_, rfl⟩
      rw [ebx] at hB5 rB lB
      clear ebx
      all_goals
        refine ⟨_, rfl, Nat.zero_le _, fun e1 he1 => ?_⟩
        have se := same_upd he1 (o := .lst [])
        refine ⟨.list (es.map fun n : Nat => PyData.int (n : Int)), .list [], .lst (.inl (.inl (se _ _ hE5))) (dpAll_ints _ es), .lst (.inl (.inl upd_same)) .nil, shaped_ints es, rfl, (es.map fun n : Nat => PyData.int (n : Int)).isEmpty, by rw [eqv_nil], ?_⟩
        have hB6 := se _ _ hB5
        have hE6 := se _ _ hE5
        have hS6 := se _ _ hS5
        have pS6 := paired_mono pS5 fun _ _ (r : StpAt _ _ _) => r.same se
        have f6 := f5.same se
        have sb6 := sb5.trans (SameB.of se)
        clear hB5 hE5 hS5 pS5 f5 sb5 se
        by_cases he0 : es = []
        rotate_left
        have ht : (es.map fun n : Nat => PyData.int (n : Int)).isEmpty = false := by
          cases es with
          | nil => exact absurd rfl he0
          | cons x r => rfl
        rw [ht]
        refine iteF ?_
        have hB7 := hB6
        have hE7 := hE6
        have rE := rE0
        have lE := lE0
        have hS7 := hS6
        have pS7 := pS6
        have f7 := f6
        have hk7 := Nat.le_trans hk5 (Nat.le_add_right _ 2)
        have sb7 := sb6
        clear hB6 hE6 rE0 lE0 hS6 pS6 f6 sb6 he0 ht
        obtain ⟨ex, eex⟩ : ∃ ex, es = ex := ⟨_, rfl⟩
        rw [eex] at hE7 rE lE
        clear eex
        rotate_left
        rw [he0]
        refine iteT ⟨_, rfl, d, L, 4, _, rfl, by decide, by decide, f6, by omega, fun n6 H6 hn6 s6 f6' => ⟨_, _, rfl, rfl, decide ((0 : Int) < (n6 : Int)), rfl, ?_⟩⟩
        have nBd6 := SameB.ndict f6 hB6 (fun _ z => by cases z)
        have hB6' := s6 _ _ nBd6 hB6
        have hE6' := s6 _ _ nEd hE6
        have hS6' := s6 _ _ nSd hS6
        have pS6' := paired_mono pS6 fun _ _ (r : StpAt _ _ _) => Tup.mono (s6.tup f6) r
        have sb6' := sb6.trans s6
        have hE0 : H6 Ea = some (.lst (([] : List Nat).map nV)) := by
          rw [he0] at hE6'
          exact hE6'
        clear hB6 hE6 hS6 pS6 f6 sb6 s6
        by_cases h6 : 0 < n6
        rotate_left
        rw [decide_eq_false (by omega)]
        refine iteF ?_
        have hB7 := hB6'
        have hE7 := hE0
        have rE : ([] : List Nat).Pairwise (· < ·) := .nil
        have lE : ∀ p ∈ ([] : List Nat), p < m := fun p hp => by cases hp
        have hS7 := hS6'
        have pS7 := pS6'
        have f7 := f6'
        have hk7 := Nat.le_trans (Nat.add_le_add_right hk5 1) (Nat.le_succ (k + 1 + 44 * m + 21 + 1))
        have sb7 := sb6'
        clear hB6' hE6' hS6' pS6' f6' sb6' hE0
        obtain ⟨ex, eex⟩ : ∃ ex, ([] : List Nat) = ex := ⟨_, rfl⟩
        rw [eex] at hE7 rE lE
        clear eex
        rotate_left 2
        rw [decide_eq_true (by omega)]
        refine iteT ⟨_, rfl, _, rfl, d, L, m, _, rfl, by omega, by omega, f6', by omega, fun n8 H8 hn8 s8 f8 => ⟨(by show 1 ≤ sizeLine; decide), fun En hEn => ?_⟩⟩
        have sn := same_upd hEn (o := .lst [nV n8])
        have hB7 := sn _ _ (s8 _ _ nBd6 hB6')
        have hE7 : upd H8 En (.lst [nV n8]) En = some (.lst (([n8] : List Nat).map nV)) := upd_same
        have rE : ([n8] : List Nat).Pairwise (· < ·) := by simp
        have lE : ∀ p ∈ ([n8] : List Nat), p < m := fun p hp => by rw [List.mem_singleton.mp hp]; exact hn8
        have hS7 := sn _ _ (s8 _ _ nSd hS6')
        have pS7 := paired_mono pS6' fun _ _ (r : StpAt _ _ _) => Tup.mono ((s8.tup f6').trans (TupS.same sn)) r
        have f7 := f8.same sn
        have hk7 := Nat.add_le_add_right hk5 2
        have sb7 := (sb6'.trans s8).trans (SameB.of sn)
        clear hB6' hE6' hS6' pS6' f6' sb6' hE0 s8 sn f8
        obtain ⟨ex, eex⟩ : ∃ ex, [n8] = ex := ⟨_, rfl⟩
        rw [eex] at hE7 rE lE
        clear eex
        all_goals
          have svl := Paired.length pS7
          have sl16 : ss.length ≤ 16 := by omega
          refine ⟨_, rfl, _, rfl, _, _, rfl, .inl ⟨.inl (.inl hB7), fun Tb hTb => ⟨_, rfl, ?_⟩⟩⟩
          obtain ⟨sT, hT1⟩ := same_updE hTb (o := .tup (bx.map nV))
          obtain ⟨sv', z1, z2, z3, z4, z5, z6, kv, ks, ekv, pk, rk, pkv⟩ := sort_stps (K := K) (paired_mono pS7 fun _ _ r => r.same sT) snd (by omega)
          refine ⟨Sd, sv', rfl, by rw [z1]; exact .inl (.inl (sT _ _ hS7)), z2, z3, z4, z5, z6, fun L7 hL7 => ?_⟩
          rw [ekv]
          have s7 := same_upd hL7 (o := .lst kv)
          refine ⟨L7, kv, rfl, .inl ⟨.inl (.inl upd_same), fun Ts hTs => ⟨_, rfl, _, _, rfl, .inl ⟨.inl (.inl ((same_upd hTs) _ _ (s7 _ _ (sT _ _ hE7)))), fun Te hTe => ⟨(by show 4 ≤ sizeLine; decide), fun t ht => ?_⟩⟩⟩⟩⟩
          have s8 := ((same_upd hTs (o := .tup kv)).trans (same_upd hTe (o := .tup (ex.map nV)))).trans (same_upd ht (o := .tup [nV m, .ref Tb, .ref Ts, .ref Te]))
          have sA := (sT.trans s7).trans s8
          have hTb9 := s8 _ _ (s7 _ _ hT1)
          have ok := fun s hs => sall s (pk.mem_iff.mp hs)
          refine q (.ref t) ⟨m, bx, ks, ex⟩ _ _ (sb7.trans (SameB.of sA)) (f7.same sA) (by omega) ⟨t, Tb, Ts, Te, kv, rfl, upd_same, hTb9, (same_upd ht) _ _ ((same_upd hTe) _ _ upd_same), paired_mono pkv fun _ _ r => r.same (s7.trans s8), (same_upd ht) _ _ upd_same⟩ ⟨⟨rB, lB, rE, lE, ?_, by show m ≤ 1000; omega⟩, by show m ≤ 5; omega, by show ks.length ≤ 16; rw [pk.length_eq]; exact sl16, fun s hs => (ok s hs).2.2.2.2⟩
          exact ⟨fun s hs => ⟨(ok s hs).2.1, (ok s hs).2.2.1, (ok s hs).2.2.2.1⟩, rk, (pk.map _).nodup_iff.mpr snd, by show ks.length ≤ 1000; rw [pk.length_eq]; omega⟩
end
end KM
/-! text KST -/
set_option Elab.async false
set_option linter.all false
set_option maxRecDepth 100000
set_option maxHeartbeats 4000000
/-! Sets of texts, told by a list: made of a text's signs, put in order. -/
namespace KM
open PySem PySem.Spec PyProof.Rows L2
/-- an entry of the set that is the text k -/
def EntS (w : World) (e : Int × Value) (k : Str) : Prop := ∃ u, e = (hashStr w k, Value.str k u)
/-- lists that agree, one of them in another order -/
theorem pairs_perm {α β : Type} {F : α → β → Prop} {l l' : List α} (p : l'.Perm l) : ∀ {m : List β}, Paired F l m → ∃ m', m'.Perm m ∧ Paired F l' m' := by
  induction p with
  | nil => exact fun {m} r => ⟨m, .refl _, r⟩
  | cons x _ ih =>
    intro m r
    cases r with
    | cons h t =>
      obtain ⟨m', p', r'⟩ := ih t
      exact ⟨_ :: m', p'.cons _, .cons h r'⟩
  | swap x y l =>
    intro m r
    cases r with
    | cons h t =>
      cases t with
      | cons h' t' => exact ⟨_, .swap _ _ _, .cons h' (.cons h t')⟩
  | trans _ _ ih1 ih2 =>
    intro m r
    obtain ⟨m1, p1, r1⟩ := ih2 r
    obtain ⟨m2, p2, r2⟩ := ih1 r1
    exact ⟨m2, p2.trans p1, r2⟩
/-- the object at a is a set of just the texts l -/
structure SetL (w : World) (h : Heap) (a : Addr) (l : List Str) : Prop where
  ex : ∃ o es ep t ks, h.get? a = some o ∧ o.ExactSet ∧ o.data = .set es ep t ∧ Paired (EntS w) es.toList ks ∧ ks.Perm l ∧ t.fits es.size = true ∧ Ris t.place.toList ∧ (w.params.followText "set-order" = true ∨ t.led = true)
  nd : l.Nodup
  few : l.length < 4000
theorem SetL.move {w : World} {h h' : Heap} {a : Addr} {l : List Str} (S : SetL w h a l) (k : ∀ o, h.get? a = some o → h'.get? a = some o) : SetL w h' a l :=
  let ⟨o, es, ep, t, ks, ho, r⟩ := S.ex
  ⟨⟨o, es, ep, t, ks, k o ho, r⟩, S.nd, S.few⟩
theorem ents_size {w : World} {es : Array (Int × Value)} {ks l : List Str} (p : Paired (EntS w) es.toList ks) (q : ks.Perm l) : es.size = l.length := by
  rw [← q.length_eq, ← Paired.length p]
  rfl
theorem ents_are {P : Program} {w : World} : ∀ {es : List (Int × Value)} {ks : List Str}, Paired (EntS w) es ks → ElemsOf (strKind P w) es
  | _, _, .nil => fun e he => by cases he
  | _, _, .cons (a := a) (b := b) r t => fun e he => by
    rcases List.mem_cons.mp he with h | h
    · obtain ⟨u, er⟩ := r
      rw [h, er]
      exact ⟨⟨b, strKind_is P w b u, rfl⟩, rfl⟩
    · exact ents_are t e h
theorem is_text {P : Program} {w : World} {k k' : Str} {u : Tok} (h : (strKind P w).is k (.str k' u) = true) : k' = k := (strKind P w).inj _ _ _ (strKind_is P w k' u) h
/-- where the text stands among them, or that it is none -/
theorem ents_find {P : Program} {w : World} (k : Str) : ∀ {es : List (Int × Value)} {ks : List Str}, Paired (EntS w) es ks → (es.findIdx? (fun e => (strKind P w).is k e.2)).isSome = decide (k ∈ ks)
  | _, _, .nil => rfl
  | _, _, .cons (a := a) (b := b) (l₁ := es) (l₂ := ks) r t => by
    obtain ⟨u, er⟩ := r
    have ih := ents_find (P := P) k t
    rw [List.findIdx?_cons]
    by_cases e : b = k
    · subst e
      have z : (strKind P w).is b a.2 = true := by rw [er]; exact strKind_is P w b u
      rw [z]
      simp
    · have z : (strKind P w).is k a.2 = false := by
        cases q : (strKind P w).is k a.2 with
        | false => rfl
        | true =>
          rw [er] at q
          exact absurd (is_text q) e
      rw [z]
      simp only [Bool.false_eq_true, if_false, Option.isSome_map, ih, List.mem_cons]
      have ne : ¬ k = b := fun q => e q.symm
      simp [ne]
theorem hashBy_str (n : Nat) (k : Str) (u : Tok) : hashByValue n (.str k u) = pure false := by
  cases n <;> rfl
section
variable {P : Program} {w : World} {A : Around} {E : Value → Shared → Prop} {s : Shared} {a : Addr}
/-- the set's object written -/
theorem write_set {o : Obj} {es es1 : Array (Int × Value)} {ep : Nat} {t t1 : SetTable} {ks l : List Str} (ho : s.heap.get? a = some o) (hex : o.ExactSet) (hd : o.data = .set es ep t) (pe : Paired (EntS w) es1.toList ks) (pk : ks.Perm l) (nd : l.Nodup)
    (few : l.length < 4000) (hf : t1.fits es1.size = true) (hr : Ris t1.place.toList) (hl : w.params.followText "set-order" = true ∨ t1.led = true) {α : Type} {f : Unit → Sem α} {Q : α → Shared → Prop}
    (go : ∀ h', Heap.SameBut a s.heap h' → SetL w h' a l → (∃ o', h'.get? a = some o' ∧ o'.ExactSet ∧ o'.data = .set es1 (ep + 1) t1) → wpAny (model P w) A (f ()) Q E { s with heap := h' }) : wpAny (model P w) A (storeSet a es1 t1 >>= f) Q E s := by
  have sz := ents_size pe pk
  refine wpAny_bind (wpAny_storeSet_of ho hd ?_ (by rw [sz, sizeLine_eq]; omega))
  have new := store_at (es' := es1) (t' := t1) ho hd
  have x : ({ o with data := .set es1 (ep + 1) t1 } : Obj).ExactSet := ⟨hex.1, hex.2.1, hex.2.2⟩
  exact go _ (Heap.SameBut.update ..) ⟨⟨_, es1, _, t1, ks, new, x, rfl, pe, pk, hf, hr, hl⟩, nd, few⟩ ⟨_, new, x, rfl⟩
theorem put_text {k : Str} {u : Tok} {l : List Str} {Q : Bool → Shared → Prop} (S : SetL w s.heap a l) (room : l.length + 1 < 4000) (old : k ∈ l → Q false s)
    (new : k ∉ l → ∀ h', Heap.SameBut a s.heap h' → SetL w h' a (k :: l) → Q true { s with heap := h' }) : wpAny (model P w) A (setAddHashed a (.str k u) ((strKind P w).hash k)) Q E s := by
  obtain ⟨o, es, ep, t, ks, ho, hex, hd, pe, pk, hf, hr, hl⟩ := S.ex
  have sz := ents_size pe pk
  have els := ents_are (P := P) pe
  have found := ents_find (P := P) k pe
  unfold setAddHashed setAddHashedIn
  refine wpAny_holding (wpAny_bind (wpAny_setState_of ho hd hf ?_))
  simp only [byScan_of (x := Value.str k u) rfl (show es.size < 4096 by have := S.few; omega) els, if_true]
  refine wpAny_bind ?_
  unfold setAddByScan
  refine wpAny_bind (wpAny_rule (wpAny_bind (wpAny_setScan_of (strKind_is P w k u) ho hd hf els ?_)))
  cases hfi : List.findIdx? (fun e => (strKind P w).is k e.2) es.toList with
  | some j =>
    rw [hfi] at found
    exact wpAny_pure (wpAny_pure (old (pk.mem_iff.mp (of_decide_eq_true found.symm))))
  | none =>
    rw [hfi] at found
    have nk : k ∉ l := fun z => of_decide_eq_false found.symm (pk.mem_iff.mpr z)
    dsimp only
    have f1 := layNew_perm t es ((strKind P w).hash k) (.str k u)
    have f2 := layNew_fits t es ((strKind P w).hash k) (.str k u)
    have f3 := layNew_ris t es ((strKind P w).hash k) (.str k u) hr
    have f4 := layNew_led t es ((strKind P w).hash k) (.str k u)
    obtain ⟨⟨es1, t1, dummy, gave⟩, hZ⟩ : ∃ Z, layNew t es ((strKind P w).hash k) (.str k u) = Z := ⟨_, rfl⟩
    rw [hZ] at f1 f2 f3 f4 ⊢
    dsimp only at f1 f2 f3 f4 ⊢
    obtain ⟨ks1, p1, pe1⟩ := pairs_perm f1 (m := ks ++ [k]) (by rw [Array.toList_push]; exact pe.snoc ⟨u, rfl⟩)
    have pk1 : ks1.Perm (k :: l) := p1.trans ((List.perm_append_singleton k ks).trans (pk.cons k))
    have nd1 : (k :: l).Nodup := List.nodup_cons.mpr ⟨nk, S.nd⟩
    have fin : ∀ h', Heap.SameBut a s.heap h' → SetL w h' a (k :: l) → Q true { s with heap := h' } := new nk
    clear hZ f1 p1 found hfi old new
    -- what the table is said to be, then the write, perhaps a table laid anew
    have gw : ∀ {α : Type} {f : Unit → Sem α} {R : α → Shared → Prop}, wpAny (model P w) A (f ()) R E s → wpAny (model P w) A ((match gave with | true => rule "set.scan.the-table-gave-way" | false => pure ()) >>= f) R E s := fun h => by
      cases gave
      · exact wpAny_bind (wpAny_pure h)
      · exact wpAny_bind (wpAny_rule h)
    refine gw ?_
    by_cases hp : t1.plain = true
    all_goals
      first
        | (refine wp_if_pos hp ?_; rw [hashBy_str])
        | refine wp_if_neg hp ?_
      refine wpAny_bind (wpAny_pure ?_)
      simp only [Bool.false_eq_true, if_false, if_true]
      refine write_set ho hex hd pe1 pk1 nd1 room (by exact f2) (by exact f3) (by rw [← f4] at hl; exact hl) fun h1 sb1 S1 ⟨o1, ho1, hex1, hd1⟩ => ?_
      split
      · generalize hz : relayAll _ es1 _ = Z
        have g1 : Z.1.toList.Perm es1.toList := by rw [← hz]; exact relayAll_perm _ _ _
        have g2 : Z.2.1.fits Z.1.size = true := by rw [← hz]; exact relayAll_fits _ _ _
        have g3 : Ris Z.2.1.place.toList := by rw [← hz]; exact relayAll_ris _ _ _
        have g4 : Z.2.1.led = t1.led := by rw [← hz]; exact relayAll_led _ _ _
        obtain ⟨es2, t2, gave2⟩ := Z
        dsimp only at g1 g2 g3 g4 ⊢
        obtain ⟨ks2, p2, pe2⟩ := pairs_perm g1 pe1
        cases gave2
        · refine wpAny_bind (wpAny_pure ?_)
          exact write_set (s := { s with heap := h1 }) ho1 hex1 hd1 pe2 (p2.trans pk1) nd1 room g2 g3 (by rw [g4, f4]; exact hl) fun h2 sb2 S2 _ => wpAny_pure (wpAny_pure (fin h2 (sb1.trans sb2) S2))
        · refine wpAny_bind (wpAny_rule ?_)
          exact write_set (s := { s with heap := h1 }) ho1 hex1 hd1 pe2 (p2.trans pk1) nd1 room g2 g3 (by rw [g4, f4]; exact hl) fun h2 sb2 S2 _ => wpAny_pure (wpAny_pure (fin h2 (sb1.trans sb2) S2))
      · exact wpAny_pure (wpAny_pure (fin h1 sb1 S1))
end
theorem new_set (w : World) {h : Heap} {a : Addr} (ho : h.get? a = some { cls := .type "set", dict := none, data := .set #[] 0 (.fresh 0 0 (!w.params.followText "set-order")) }) : SetL w h a [] := by
  refine ⟨⟨_, #[], 0, _, [], ho, ⟨rfl, rfl, rfl⟩, rfl, .nil, .refl _, rfl, List.Pairwise.nil, ?_⟩, .nil, by decide⟩
  by_cases c : w.params.followText "set-order" = true
  · exact .inl c
  · exact .inr (by rw [Bool.not_eq_true] at c; show (!w.params.followText "set-order") = true; rw [c]; rfl)
/-- the signs of a text, each as a text -/
def signsOf (x : Str) : List Str := x.cps.toList.map fun c => (⟨#[c]⟩ : Str)
section
variable {prog : Program} {w : World} {A : Around} {R : Result → Shared → Prop} {I : Addr} {fp wr : List Addr} {G : Array GenState → Array GenState → Prop} {x : Str} {St : Nat → Shared → Prop}
/-- the signs are put in, from the i-th on -/
theorem put_signs (W : WalksS prog w A.in1 I fp wr G x.cps.size (SignAt x) St) {D : Addr} (nD : D ∉ fp) (few : x.cps.size + 1 < 4000) : ∀ (m i : Nat) (l : List Str) (s : Shared), i + m = x.cps.size → l.length ≤ i → St i s → SetL w s.heap D l →
    (∀ y, y ∈ l ↔ y ∈ (signsOf x).take i) → (∀ s' l', l'.length ≤ x.cps.size → (∀ y, y ∈ l' ↔ y ∈ signsOf x) → Moved (D :: wr) G s s' → SetL w s'.heap D l' → R (.ok (.ret .none)) s') →
    codeAny (model prog w) A (.builtin "set.update.loop" ⟨[.ref D, .ref I], []⟩) R s
  | 0, i, l, s, hi, hl, hst, S, mem, fin => by
    have nW : D ∉ wr := fun z => nD (W.sub _ z)
    have e : i = x.cps.size := by omega
    subst e
    refine codeAny_builtin PyProof.Rows.F.entry_set_update_loop ?_
    rw [Around.under_plainId PyProof.Rows.F.plain_set_update_loop _]
    show wpAny _ A.in1 (pyNext (.ref I) >>= _) _ _ s
    refine wpAny_bind (W.done s _ _ hst fun s' mv => ?_)
    show wpAny _ A.in1 (ret Value.none) _ _ s'
    refine wpAny_pure (fin s' l hl (fun y => ?_) (mv.mono fun b hb => List.mem_cons_of_mem _ hb) (S.move fun o ho => mv.heap D _ nW ho))
    rw [mem y, List.take_of_length_le]
    unfold signsOf
    rw [List.length_map, Array.length_toList]
    exact Nat.le_refl _
  | m + 1, i, l, s, hi, hl, hst, S, mem, fin => by
    have nW : D ∉ wr := fun z => nD (W.sub _ z)
    refine codeAny_builtin PyProof.Rows.F.entry_set_update_loop ?_
    rw [Around.under_plainId PyProof.Rows.F.plain_set_update_loop _]
    show wpAny _ A.in1 (pyNext (.ref I) >>= _) _ _ s
    refine wpAny_bind (W.item i s _ _ (by omega) hst fun v s1 hv hst1 mv => ?_)
    obtain ⟨c, u, hc, rfl⟩ := hv
    have S1 : SetL w s1.heap D l := S.move fun o ho => mv.heap D _ nW ho
    have up : (signsOf x).take (i + 1) = (signsOf x).take i ++ [(⟨#[c]⟩ : Str)] := by
      unfold signsOf
      rw [List.take_add_one, List.getElem?_map, Array.getElem?_toList, hc]
      rfl
    have mv1 : Moved (D :: wr) G s s1 := mv.mono fun b hb => List.mem_cons_of_mem _ hb
    show wpAny _ A.in1 (holding [Value.str ⟨#[c]⟩ u] (setAdd D (.str ⟨#[c]⟩ u)) >>= _) _ _ s1
    refine wpAny_bind (wpAny_holding ?_)
    unfold setAdd
    refine wpAny_holding ?_
    refine wpAny_bind ((strKind prog w).pyHash (k := (⟨#[c]⟩ : Str)) (strKind_is prog w _ u) ?_)
    -- on to the next sign, whatever became of the set
    have on : ∀ (b : Bool) (h' : Heap) (l' : List Str), Heap.SameBut D s1.heap h' → SetL w h' D l' → l'.length ≤ i + 1 → (∀ y, y ∈ l' ↔ y ∈ (signsOf x).take (i + 1)) →
        codeAny (model prog w) A (.builtin "set.update.loop" ⟨[.ref D, .ref I], []⟩) R { s1 with heap := h', toks := s1.toks + 1 } := fun b h' l' sb S' hl' mem' => by
      refine put_signs W nD few m (i + 1) l' _ (by omega) hl' (W.frame _ s1 _ _ hst1 (Nat.le_succ _) fun b hb o e => ?_) S' mem' fun s2 l2 h2 m2 mv2 S2 => ?_
      · rw [sb.2 b (fun z : b = D => nD (z ▸ hb))]
        exact e
      · refine fin s2 l2 h2 m2 (Moved.trans W.gtrans (mv1.then_heap (Nat.le_succ _) fun b o hb e => ?_) mv2) S2
        rw [sb.2 b fun z => hb (z ▸ List.mem_cons_self)]
        exact e
    refine put_text (s := { s1 with toks := s1.toks + 1 }) S1 (by omega) (fun hk => ?_) (fun nk h' sb S' => ?_)
    · refine wpAny_pure ⟨plainId_quiet PyProof.Rows.F.plain_set_update_loop _, on false s1.heap l (Heap.SameBut.refl D _) S1 (by omega) fun y => ?_⟩
      rw [mem y, up, List.mem_append, List.mem_singleton]
      exact ⟨.inl, fun z => z.elim id fun e => e ▸ (mem _).mp hk⟩
    · refine wpAny_pure ⟨plainId_quiet PyProof.Rows.F.plain_set_update_loop _, on true h' _ sb S' (by rw [List.length_cons]; omega) fun y => ?_⟩
      rw [List.mem_cons, mem y, up, List.mem_append, List.mem_singleton]
      exact Or.comm
end
/-- a set as it is made -/
abbrev freshSet (w : World) : Obj := { cls := .type "set", dict := none, data := .set #[] 0 (.fresh 0 0 (!w.params.followText "set-order")) }
section
variable {prog : Program} {w : World} {A : Around} {E : Value → Shared → Prop} {s : Shared}
/-- set(text) -/
theorem set_of_text {x : Str} {u : Tok} {Q : Value → Shared → Prop} (hh : A.handled = none) (few : x.cps.size + 1 < 4000)
    (fin : ∀ (h' : Heap) (tk : Nat) (l : List Str), l.length ≤ x.cps.size → (∀ y, y ∈ l ↔ y ∈ signsOf x) → SetL w h' s.heap.objs.size l → (∀ b o, s.heap.get? b = some o → h'.get? b = some o) → Q (.ref s.heap.objs.size) { s with heap := h', toks := tk }) :
    wpAny (model prog w) A (call (.type "set") [.str x u]) Q E s := by
  obtain ⟨D, eD⟩ : ∃ D, s.heap.objs.size = D := ⟨_, rfl⟩
  rw [eD] at fin
  have made0 : (s.heap.push (freshSet w)).get? D = some (freshSet w) := by rw [← eD]; exact Heap.get?_push_size _ rfl
  obtain ⟨c, tl, hmro⟩ := PySem.F.called_set.mro
  have q1 := PySem.F.called_set.made
  have q2 := PySem.F.called_set.sub
  have q3 := PySem.F.called_set.notType
  have q4 := PySem.F.called_set.canCreate
  have q5 := PySem.F.typeCall_set_1 (.str x u)
  refine wpAny_call (codeAny_of_tree ?_)
  show wpAny _ _ (callAny (.type "set") _) _ _ _
  refine wpAny_pure ⟨Code.quiet_builtin _ (by decide +kernel), codeAny_builtin PySem.F.entry_type_call ?_⟩
  rw [Around.under_plain (weight_type_call_type "set" [.str x u] []) rfl]
  repeat (any_goals (first | assumption | wp_step))
  refine codeAny_mono (code_set_led1 (.str x u) (E := E) (Q₁ := fun v s1 => v = .ref D ∧ s1 = { s with heap := s.heap.push (freshSet w) }) ⟨by rw [eD], rfl⟩) fun r s1 hr => ?_
  match r, hr with
  | .error e, hr => exact hr
  | .ok (.ret v), ⟨hv, hs⟩ =>
    subst hv
    subst hs
    have hT : Shared.TypeIs { s with heap := s.heap.push (freshSet w) } (.ref D) "set" := ⟨_, made0, rfl⟩
    have q6 := PySem.F.called_set.init.lookup
    have q7 := PySem.F.called_set.init.bind (.ref D)
    repeat (any_goals (first | assumption | wp_step))
    refine codeAny_mono (codeAny_call_builtin (R := wants (fun v s2 => v = .none ∧ ∃ h' tk l, s2 = { s with heap := h', toks := tk } ∧ l.length ≤ x.cps.size ∧ (∀ y, y ∈ l ↔ y ∈ signsOf x) ∧ SetL w h' D l ∧ ∀ b o, s.heap.get? b = some o → h'.get? b = some o) E)
      PySem.F.called_set.init.plain PySem.F.entry_set_init (check_set_init_1 hT ?_)) fun r2 s2 hr2 => ?_
    · have q8 := PySem.F.sub_str_set
      have q9 := PySem.F.sub_str_frozenset
      have q10 : (Value.type "str" == Value.type "dict") = false := by decide
      unfold Builtin.«set.__init__» noKeywords Builtin.Frozenset.updateFrom
      generalize hIt : pyIter = It
      wp_walk
      subst hIt
      refine wpAny_pyIter_str fun o St hW st0 => ?_
      refine wpAny_bind (wpAny_runValue ?_)
      have sz2 : (s.heap.push (freshSet w)).objs.size = D + 1 := by rw [Heap.size_push, eD]
      refine put_signs ((hW _ (by simp [hh])).toS) (D := D) (by rw [sz2]; simp) few x.cps.size 0 [] _ (Nat.zero_add _) (Nat.le_refl _) st0 ((new_set w made0).move fun o' e => Heap.get?_push_of_some _ e) (fun y => by simp) fun s' l' hl mem mv S' => ?_
      obtain ⟨h', g', d', tk', os'⟩ := s'
      have e1 : g' = s.gens := mv.gens
      have e2 : d' = s.drawn := mv.drawn
      have e3 : os' = s.os := mv.os
      subst e1 e2 e3
      show wpAny _ _ _ _ _ _
      refine wpAny_pure ?_
      show wpAny _ _ (ret Value.none) _ _ _
      refine wpAny_pure ⟨rfl, h', tk', l', rfl, hl, mem, S', fun b o' e => mv.heap b o' (fun z => ?_) (Heap.get?_push_of_some _ (Heap.get?_push_of_some _ e))⟩
      have lt := Heap.lt_size e
      rw [sz2] at z
      rw [eD] at lt
      rcases List.mem_cons.mp z with z | z
      · exact absurd lt (by rw [z]; exact Nat.lt_irrefl _)
      · rw [List.mem_singleton.mp z] at lt
        exact absurd lt (Nat.not_lt.mpr (Nat.le_succ _))
    · match r2, hr2 with
      | .error e, hr2 => exact hr2
      | .ok (.ret v), ⟨hv, h', tk, l, hs, hl, mem, S', keep⟩ =>
        subst hv
        subst hs
        repeat (any_goals (first | assumption | wp_step))
        exact fin h' tk l hl mem S' keep
end
/-- what a value is as a text -/
def textOf (v : Value) : Str := match v with | .str k _ => k | _ => Str.empty
theorem texts_are {w : World} : ∀ {es : List (Int × Value)} {ks : List Str}, Paired (EntS w) es ks → (es.map (·.2)).map textOf = ks ∧ ∀ v ∈ es.map (·.2), ∃ k u, v = Value.str k u
  | _, _, .nil => ⟨rfl, fun v hv => by cases hv⟩
  | _, _, .cons r t => by
    obtain ⟨u, rfl⟩ := r
    obtain ⟨h1, h2⟩ := texts_are t
    refine ⟨by rw [List.map_cons, List.map_cons, h1]; rfl, fun v hv => ?_⟩
    rcases List.mem_cons.mp hv with rfl | hv
    · exact ⟨_, u, rfl⟩
    · exact h2 v hv
theorem strs_of : ∀ (vs : List Value), (∀ v ∈ vs, ∃ k u, v = Value.str k u) → StrsAre vs (vs.map textOf)
  | [], _ => .nil
  | v :: vs, h => by
    obtain ⟨k, u, rfl⟩ := h v List.mem_cons_self
    exact .cons k u (strs_of vs fun y hy => h y (List.mem_cons_of_mem _ hy))
section
variable {P : Program} {w : World} {A : Around} {E : Value → Shared → Prop} {s : Shared} {a : Addr} {l : List Str}
/-- sorted(set of texts) -/
theorem order_set {Q : Value → Shared → Prop} (S : SetL w s.heap a l) (hh : A.handled = none) (few : l.length < 64)
    (fin : ∀ s' p (out : Array Value) (c : Nat) (ns : List Str), (∀ b o, s.heap.get? b = some o → s'.heap.get? b = some o) → s'.gens = s.gens → s'.os = s.os → s.heap.objs.size ≤ p →
      s'.heap.get? p = some (seqObj "list" out c) → StrsAre out.toList ns → sortedS ns = true → ns.Perm l → Q (.ref p) s') : wpAny (model P w) A (call (.builtin "sorted") [.ref a]) Q E s := by
  obtain ⟨o, es, ep, t, ks, ho, hex, hd, pe, pk, hf, hr, hl⟩ := S.ex
  have sz := ents_size pe pk
  refine Calls.call_function_entry kind_sorted plain_sorted entry_sorted (args_sorted1 _) ?_
  unfold Builtin.«sorted»
  refine wpAny_bind (m := checkCount "sorted" 1 1 _) (wpAny_pure ?_)
  refine wpAny_bind (collect_set (A := A.in1) hh ⟨o, ho, hex.1, hd⟩ hf (by show es.size < 4096; omega) hr hl fun s1 vs keep grow eg eo pm => ?_)
  obtain ⟨e1, all⟩ := texts_are pe
  have len : vs.length = l.length := by rw [pm.length_eq, List.length_map, Array.length_toList, sz]
  have tx := strs_of vs fun v hv => all v (pm.mem_iff.mp hv)
  have pt : (vs.map textOf).Perm l := by
    have z := pm.map textOf
    rw [e1] at z
    exact z.trans pk
  refine wpAny_bind (wpAny_newList ?_ (by rw [len, sizeLine_eq]; omega))
  have at1 : (s1.heap.push (seqObj "list" vs.toArray 0)).get? s1.heap.objs.size = some (seqObj "list" vs.toArray 0) := Heap.get?_push_size _ rfl
  refine wpAny_bind (wpAny_holding (wpAny_call_entry slot_list_sort ⟨_, at1, rfl⟩ entry_list_sort (list_sort_treeK strKind_oneLt at1 tx.keysOf (fun v1 v2 rest e => keyKind_strs (by rw [← e]; exact tx)) (by rw [len]; exact few) fun st a1 a2 => ⟨_, rfl, ?_⟩) (args_list_sort _)))
  obtain ⟨ns, n1, n2, n3⟩ := sorted_out_str tx a1 a2
  obtain ⟨c, hc⟩ := sortedHeap_at (vs := vs) (out := (arrOf st).map (·.2)) at1
  refine wpAny_pure ⟨_, rfl, fin _ s1.heap.objs.size _ c ns (fun b u e => ?_) eg eo grow hc n1 n3 (n2.trans pt)⟩
  have lt := Heap.lt_size (keep b u e)
  show (sortedHeap (s1.heap.push (seqObj "list" vs.toArray 0)) s1.heap.objs.size vs _).get? b = some u
  rw [sortedHeap_old (Nat.ne_of_lt lt) (by rw [size_push']; exact Nat.lt_succ_of_lt lt)]
  exact Heap.get?_push_of_some _ (keep b u e)
end
/-! ### the rules -/
def SetTO (w : World) (a : Addr) (l : List Str) : HO := .ext fun h => SetL w h a l
section
variable {X : Cx}
theorem setTx_ok {P : Program} {H : Hp} {h : Heap} {w : World} {a : Addr} {l : List Str} (S : SetL w h a l) : ObjOk P w H h a (KM.SetTO w a l) := by
  obtain ⟨o, _, _, _, _, ho, _⟩ := S.ex
  exact ⟨S, ⟨o, ho⟩, fun h1 h2 p k => SetL.move p k⟩
def rSetT (w : World) : List V → Hp → VK → Prop := fun xs H Q => ∃ x : Str, xs = [.str x] ∧ x.cps.size < 63 ∧ ∀ p l, l.length ≤ x.cps.size → l.Nodup → (∀ y, y ∈ l ↔ y ∈ signsOf x) → H p = none → Q (.ref p) (upd H p (KM.SetTO w p l))
theorem cr_setT (hc : X.calm = true) : CallR X (.type "set") (rSetT X.w) := by
  intro pins s σ H xs us Q I r h
  obtain ⟨x, rfl, hx, q⟩ := h
  cases r with
  | cons r1 r2 =>
    cases r2
    obtain ⟨tk, rfl⟩ := r1
    refine set_of_text (I.ok.hd hc) (by omega) fun h' tk l hl mem S keep => ?_
    exact ⟨.ref _, upd H s.heap.objs.size _, I.laid (t' := tk) keep (Nat.le_refl _) (setTx_ok S), rfl, q _ l hl S.nd mem (I.hok.fresh (Nat.le_refl _))⟩
def rSortedST (w : World) : List V → Hp → VK → Prop := fun vs H Q => ∃ (a : Addr) (l : List Str), vs = [V.ref a] ∧ H a = some (KM.SetTO w a l) ∧ l.length < 64 ∧
  ∀ (ns : List Str) (p : Addr), sortedS ns = true → ns.Perm l → H p = none → Q (.ref p) (upd H p (.lst (ns.map V.str)))
theorem cr_sortedST (hc : X.calm = true) : CallR X (.builtin "sorted") (rSortedST X.w) := by
  intro pins s σ H vs us Q I r h
  obtain ⟨a, l, rfl, ha, few, q⟩ := h
  have S : SetL X.w s.heap a l := (I.hok a _ ha).1
  rw [Vals.ref1 r]
  refine order_set S (I.ok.hd hc) few fun s' p out c ns keep eg eo hp at' hi srt pm => ?_
  have len : (ns.map V.str).length ≤ sizeLine := by rw [List.length_map, pm.length_eq, sizeLine_eq]; omega
  have hn : H p = none := I.hok.fresh hp
  have J : Inv X pins σ (upd H p (.lst (ns.map V.str))) { s with heap := s'.heap, gens := s'.gens, drawn := s'.drawn, toks := s'.toks } :=
    I.call (ch := []) (Un.laid keep hp hn) (I.hok.laid keep hp ⟨len, out.toList, c, vals_of_strs hi, at'⟩) (by rw [eg]; exact I.bare) (fun _ z => nomatch z)
  have e : s' = { s with heap := s'.heap, gens := s'.gens, drawn := s'.drawn, toks := s'.toks } := by
    obtain ⟨_, _, _, _, _⟩ := s'
    obtain ⟨_, _, _, _, _⟩ := s
    cases eo
    rfl
  rw [e]
  exact ⟨.ref p, _, J, rfl, q ns p srt pm hn⟩
end
end KM
/-! text KW31 -/
set_option Elab.async false
set_option linter.all false
set_option maxRecDepth 100000
set_option maxHeartbeats 4000000
namespace KM
open PySem PySem.Spec PyProof.Rows L2
abbrev TEnt := Pr × List Nat
def tEnc (e : TEnt) : List L2.Key × V := (kP e.1, sV e.2)
structure TabOk (many : Nat) (l : List Nat) (kvs : List (List L2.Key × V)) : Prop where
  nd : (kvs.map (·.1)).Nodup
  all : ∀ e ∈ kvs, ∃ t : TEnt, e = tEnc t ∧ t.1.1 < many ∧ t.1.2 < many ∧ SgOk t.2 ∧ ∀ c ∈ t.2, c ∈ l
theorem enc_list : ∀ {kvs : List (List L2.Key × V)} {T : TEnt → Prop}, (∀ e ∈ kvs, ∃ t, e = tEnc t ∧ T t) → ∃ es : List TEnt, kvs = es.map tEnc ∧ ∀ t ∈ es, T t
  | [], _, _ => ⟨[], rfl, fun t h => by cases h⟩
  | e :: r, T, h => by
    obtain ⟨t, e1, h1⟩ := h e List.mem_cons_self
    obtain ⟨es, e2, h2⟩ := enc_list (kvs := r) (T := T) fun x hx => h x (List.mem_cons_of_mem _ hx)
    refine ⟨t :: es, by rw [e1, e2]; rfl, fun x hx => ?_⟩
    rcases List.mem_cons.mp hx with rfl | hx
    · exact h1
    · exact h2 x hx
theorem sing_list : ∀ {ys : List Str} {A : List Nat}, (∀ y ∈ ys, y ∈ A.map fun c => (⟨#[c]⟩ : Str)) → ∃ us : List Nat, ys = us.map (fun c => (⟨#[c]⟩ : Str)) ∧ ∀ c ∈ us, c ∈ A
  | [], _, _ => ⟨[], rfl, fun t h => by cases h⟩
  | e :: r, A, h => by
    obtain ⟨c, hc, e1⟩ := List.mem_map.mp (h e List.mem_cons_self)
    obtain ⟨us, e2, h2⟩ := sing_list (ys := r) (A := A) fun x hx => h x (List.mem_cons_of_mem _ hx)
    refine ⟨c :: us, by rw [← e1, e2]; rfl, fun x hx => ?_⟩
    rcases List.mem_cons.mp hx with rfl | hx
    · exact hc
    · exact h2 x hx
theorem nodup_key {κ : Type} {kvs : List (κ × V)} (nd : (kvs.map (·.1)).Nodup) {k : κ} {v v' : V} (h : (k, v) ∈ kvs) (h' : (k, v') ∈ kvs) : v = v' := by
  induction kvs with
  | nil => cases h
  | cons x r ih =>
    obtain ⟨n1, n2⟩ := List.nodup_cons.mp nd
    rcases List.mem_cons.mp h with e | h
    · rcases List.mem_cons.mp h' with e' | h'
      · rw [← e] at e'
        exact (Prod.mk.inj e').2.symm
      · rw [← e] at n1
        exact absurd (List.mem_map.mpr ⟨_, h', rfl⟩) n1
    · rcases List.mem_cons.mp h' with e' | h'
      · rw [← e'] at n1
        exact absurd (List.mem_map.mpr ⟨_, h, rfl⟩) n1
      · exact ih n2 h h'
section
variable {P : Program} {w : World} {K : PySem.W.Frag} {mg : Str → Option Value} {base : Heap}
def spNear : Sp := fun vs H Q _ => ∃ (d L : Addr) (k : Nat) (l : List Nat), vs = [.ref d, sV l] ∧ FeedAt H d L k ∧ k ≤ 400000 ∧ SgOk l ∧ l.length ≤ 3 ∧ ∀ (v : V) (M : Mch) (k' : Nat) H', SameB d H H' → FeedAt H' d L k' → k' ≤ k + 2000 → RawAt H' v M → MOk l M → Q v H'
abbrev nmNear : List Str := ["_law_feed_here", "_law_signs_here", "_law_many", "_law_table", "_law_turn", "_law_pair", "_law_steps"]
theorem scNear : FnScope nmNear ["_law_feed_here", "_law_signs_here"] (defScope sNear) := ⟨rfl, rfl, rfl, by decide +kernel, rfl, by decide +kernel, by decide +kernel⟩
theorem ok_near {f f1 f2 f3 : Addr} {fd fd1 fd2 fd3 : FuncData} (F : FnP K "_law_near_clear" "_law_near_clear" sNear f fd) (B : Bi mg) (F1 : FnP K "_law_draw" "_law_draw" sDraw f1 fd1) (g1 : mg "_law_draw" = some (.ref f1)) (F2 : FnP K "_law_some" "_law_some" sSome f2 fd2) (g2 : mg "_law_some" = some (.ref f2))
    (F3 : FnP K "_law_raw" "_law_raw" sRaw f3 fd3) (g3 : mg "_law_raw" = some (.ref f3)) :
    FnOk P w K mg base CX0 4 f fd ["_law_feed_here", "_law_signs_here"] spNear := by
  have O1 : FnOk P w K mg base CX0 1 f1 fd1 ["_law_feed_here", "_law_many"] spDraw := ok_draw F1 B
  have O2 : FnOk P w K mg base CX0 2 f2 fd2 ["_law_feed_here", "_law_things"] spSome := ok_some F2 B F1 g1
  have O3 : FnOk P w K mg base CX0 3 f3 fd3 ["_law_feed_here", "_law_signs_here", "_law_most"] spRaw := ok_raw F3 B F1 g1 F2 g2
  have b1 : Binds K fd1 ["_law_feed_here", "_law_many"] [] := F1.bindsN fun _ _ _ _ _ _ us hl => match us, hl with | [_, _], _ => rfl
  have b2 : Binds K fd2 ["_law_feed_here", "_law_things"] [] := F2.bindsN fun _ _ _ _ _ _ us hl => match us, hl with | [_, _], _ => rfl
  have b3 : Binds K fd3 ["_law_feed_here", "_law_signs_here", "_law_most"] [] := F3.bindsN fun _ _ _ _ _ _ us hl => match us, hl with | [_, _, _], _ => rfl
  refine F.okP scNear (fun vs H Q E h => ?_) (fun cdv A outer s H vs Q E hr h => ?_)
  · obtain ⟨d, L, k, l, rfl, _⟩ := h
    rfl
  · obtain ⟨d, L, k, l, rfl, hf, hk, lok, ll, q⟩ := h
    have hr1 : Room 1 _ := hr.mono (by decide)
    have hr2 : Room 2 _ := hr.mono (by decide)
    refine ⟨_, pss_cons (ps_if (pt_cmpR op_eq (pe_call O1 hr1 (by rfl) g1 F1.kp b1 .nil pass0 (pa_cons (pv 0) (pa_cons pe_int pa_nil))) pe_int (nomark _)) (pss_one (ps_ret (pe_call O3 hr (by rfl) g3 F3.kp b3 .nil pass0 (pa_cons (pv 0) (pa_cons (pv 1) (pa_cons pe_int pa_nil)))))) pss_nil)
      (pss_cons (ps_set (i := 2) scNear.nd rfl (.inl rfl) (pe_op op_add pe_int (pe_call O1 hr1 (by rfl) g1 F1.kp b1 .nil pass0 (pa_cons (pv 0) (pa_cons pe_int pa_nil)))))
      (pss_cons (ps_set (i := 3) scNear.nd rfl (.inr rfl) pe_dnewT)
      (pss_cons (ps_for PassesOwn.never rfl (pi_range1 rfl B.range (pa_cons (pe_op op_add pe_int (pe_call O1 hr1 (by rfl) g1 F1.kp b1 .nil pass0 (pa_cons (pv 0) (pa_cons (pe_op op_mul pe_int (pv 2)) pa_nil)))) pa_nil)) (pg_name (i := 4) scNear.nd rfl (.inl rfl))
        (pss_cons (ps_set (i := 5) scNear.nd rfl (.inl rfl) (pe_tup (pa_cons (pe_call O1 hr1 (by rfl) g1 F1.kp b1 .nil pass0 (pa_cons (pv 0) (pa_cons (pv 2) pa_nil))) (pa_cons (pe_call O1 hr1 (by rfl) g1 F1.kp b1 .nil pass0 (pa_cons (pv 0) (pa_cons (pv 2) pa_nil))) pa_nil))))
        (pss_one (ps_dput (by exact Nat.lt_of_le_of_lt (Nat.add_le_add_left (by decide) _) (hu64 hr)) (pv 3) (pv 5)
          (pe_join pe_str (pe_callB (cr_sortedST (by rfl)) (by rfl) B.sorted (by decide +kernel) (pa_cons (pe_callTy (cr_setT (by rfl)) (by rfl) B.set (by decide +kernel) (pa_cons
            (pe_op op_add_str (pe_dget2 (by exact Nat.lt_of_le_of_lt (Nat.add_le_add_left (by decide) _) (hu64 hr)) (pv 3) (pv 5) pe_str ⟨rfl, rfl, rfl, rfl⟩) (pe_ix ix_str (pv 1) (pe_call O1 hr1 (by rfl) g1 F1.kp b1 .nil pass0 (pa_cons (pv 0) (pa_cons (pe_callB call_len_str (by rfl) B.len PySem.boot_len (pa_cons (pv 1) pa_nil)) pa_nil))) (fun _ _ => rfl))) pa_nil)) pa_nil))) rfl))))
      (pss_cons (ps_set (i := 6) scNear.nd rfl (.inl rfl) (pe_callTy call_tuple_of (by rfl) B.tuple (by decide +kernel) (pa_cons (pe_callB (cr_sortedD (by exact hu64 hr)) (by rfl) B.sorted (by decide +kernel) (pa_cons
        (pe_lock (pe_lc (own := [("_law_pair", 5)]) (g := gName 5) (tt := tYes) (te := tTup (tCons (tOp (rIxT K) (tVar 5) (tC (.int 0))) (tCons (tDGet (tVar 3) (tVar 5)) (tCons (tOp (rIxT K) (tVar 5) (tC (.int 1))) tNil)))) rfl scNear.nd (pi_keys (pv 3)) (blkOk_by (N := nmNear) (sc := defScope sNear) (by decide +kernel)) (fun _ _ _ _ _ => pg_name (i := 5) scNear.nd rfl (.inl rfl)) (fun _ _ _ _ _ => pts_nil)
          (fun _ _ _ _ _ => pe_tup (pa_cons (pe_ix ix_tup (pv 5) pe_int (fun _ _ => rfl)) (pa_cons (pe_dget (by exact Nat.lt_of_le_of_lt (Nat.add_le_add_left (by decide) _) (hu64 hr)) (pv 3) (pv 5) (fun _ _ => rfl)) (pa_cons (pe_ix ix_tup (pv 5) pe_int (fun _ _ => rfl)) pa_nil)))))) pa_nil)) pa_nil)))
      (pss_one (ps_ret (pe_tup (pa_cons (pv 2) (pa_cons (pe_tup (pa_cons (pe_call O1 hr1 (by rfl) g1 F1.kp b1 .nil pass0 (pa_cons (pv 0) (pa_cons (pv 2) pa_nil))) pa_nil)) (pa_cons (pv 6) (pa_cons (pe_callTy call_tuple_of (by rfl) B.tuple (by decide +kernel) (pa_cons (pe_call O2 hr2 (by rfl) g2 F2.kp b2 .nil pass0 (pa_cons (pv 0) (pa_cons (pe_listRg rfl (by rfl) B.list (prg_1 (by rfl) B.range (pv 2))) pa_nil))) pa_nil)) pa_nil))))))))))), ?_⟩
    have line : (2000 : Nat) < sizeLine := by decide
    refine ⟨_, rfl, d, L, 3, k, rfl, by decide, by decide, hf, by omega, fun n0 H1 hn0 s1 f1' => ⟨rfl, _, rfl, ?_⟩⟩
    by_cases h0 : n0 = 0
    · subst h0
      refine iteT ⟨_, rfl, _, rfl, d, L, k + 1, l, rfl, f1', by omega, lok, ll, fun v M k' H' s2 f2 hk2 hr mok => q v M k' H' (s1.trans s2) f2 (by omega) hr mok⟩
    rw [decide_eq_false (fun e => h0 (by have := V.int.inj e; omega))]
    refine iteF ⟨_, rfl, d, L, 4, k + 1, rfl, by decide, by decide, f1', by omega, fun n H2 hn s2 f2' => ⟨_, _, rfl, rfl, ?_⟩⟩
    obtain ⟨m, hm, m1, m4⟩ : ∃ m : Nat, (2 : Int) + (n : Int) = (m : Int) ∧ 1 ≤ m ∧ m ≤ 5 := ⟨2 + n, rfl, by omega, by omega⟩
    simp only [hm]
    clear hm
    refine fun Td hTd => ?_
    have s12 := s1.trans s2
    have nTd : Td ≠ d := (f2'.ne hTd).1.symm
    have nTL : L ≠ Td := (f2'.ne hTd).2
    have HTd : H Td = none := by
      cases z : H Td with
      | none => rfl
      | some o =>
        rw [s12 _ _ nTd z] at hTd
        cases hTd
    refine ⟨_, rfl, _, rfl, _, _, rfl, rfl, .inl ⟨by omega, by omega⟩, d, L, 2 * m, k + 2, rfl, by omega, by omega, f2'.same (same_upd hTd), by omega, fun n2 H3 hn2 s3 f3 => ⟨_, _, rfl, rfl, ?_⟩⟩
    obtain ⟨t, ht, t11⟩ : ∃ t : Nat, (2 : Int) + (n2 : Int) = (t : Int) ∧ t ≤ 11 := ⟨2 + n2, rfl, by omega⟩
    refine ⟨(t : Int), congrArg (fun z => [V.int z]) ht, by omega, by omega, ?_⟩
    clear ht
    refine for_range (lo := 0) (n := ((t : Int)).toNat) (fun i σ Hx => ∃ (kk : Nat) (kvs : List (List L2.Key × V)) (y4 y5 : Option V), σ = [some (.ref d), some (sV l), some (nV m), some (.ref Td), y4, y5, none] ∧ SameB d H Hx ∧ FeedAt Hx d L kk ∧ kk ≤ k + 3 + 3 * i ∧ Hx Td = some (.dT kvs) ∧ TabOk m l kvs ∧ kvs.length ≤ i)
      ⟨k + 2 + 1, [], none, none, rfl, ?_, f3, by omega, s3 _ _ nTd upd_same, ⟨.nil, fun e he => by cases he⟩, Nat.le_refl _⟩ ?_ ?_
    · exact (s12.trans (SameB.of (same_upd hTd))).trans s3
    · rintro i σ Hx hi ⟨kk, kvs, y4, y5, rfl, sb, f, hkk, hT, ok, kl⟩
      have hi : i < t := hi
      refine ⟨_, rfl, _, rfl, d, L, m, kk, rfl, by omega, by omega, f, by omega, fun a H4 ha s4 f4 => ⟨_, rfl, _, rfl, d, L, m, kk + 1, rfl, by omega, by omega, f4, by omega, fun b H5 hb s5 f5 => ⟨(by show 2 ≤ sizeLine; decide), fun u hu => ?_⟩⟩⟩
      have sb5 := (sb.trans s4).trans s5
      have hT5 := s5 _ _ nTd (s4 _ _ nTd hT)
      have su := same_upd hu (o := .tup [nV a, nV b])
      have hTu := su _ _ hT5
      refine ⟨⟨_, rfl⟩, _, rfl, Td, rfl, .inr ⟨kvs, .inl hTu⟩, _, rfl, valV kvs (kP (a, b)), DGet.t (k := kP (a, b)) hTu upd_same, ?_⟩
      obtain ⟨sg, esg, sgd, sgl, sgn0⟩ : ∃ sg : List Nat, (valV kvs (kP (a, b))).getD (V.str "") = sV sg ∧ sg.Nodup ∧ (∀ c ∈ sg, c ∈ l) ∧ True := by
        cases z : valV kvs (kP (a, b)) with
        | none => exact ⟨[], rfl, .nil, (fun c hc => by cases hc), trivial⟩
        | some v =>
          obtain ⟨tt, e, _, _, h3, h4⟩ := ok.all _ (valV_mem z)
          have ev : v = sV tt.2 := (Prod.mk.inj e).2
          exact ⟨tt.2, by rw [ev]; rfl, h3.rise.imp (fun h => Nat.ne_of_lt h), h4, trivial⟩
      rw [esg]
      have sglen : sg.length ≤ 3 := Nat.le_trans (nodup_sub sgd sgl) ll
      have ls3 : (sS l).length ≤ 3 := by rw [sS_len]; exact ll
      have l0 : 0 < l.length := List.length_pos_iff.mpr lok.ne
      refine ⟨_, rfl, _, rfl, _, rfl, sS l, rfl, Nat.le_trans ls3 (by decide), d, L, l.length, kk + 2, ?_, l0, by omega, f5.same su, by omega, fun r H6 hr6 s6 f6 => ?_⟩
      · rw [sS_len]
        rfl
      have hT6 := s6 _ _ nTd hTu
      have nud : u ≠ d := SameB.ndict (f5.same su) upd_same (fun _ z => by cases z)
      have hu6 := s6 _ _ nud upd_same
      obtain ⟨c, hc, hcl⟩ : ∃ c, (sS l).cps.toList[r]? = some c ∧ c ∈ l := by
        rw [sS_cps]
        exact ⟨l[r], List.getElem?_eq_getElem hr6, List.getElem_mem hr6⟩
      refine ⟨sS l, (r : Int), c, rfl, rfl, Nat.le_trans ls3 (by decide), atI_nat hc, sS sg, ⟨#[c]⟩, rfl, rfl, ?_, ?_⟩
      · rw [sS_len]
        show sg.length + 1 ≤ sizeLine
        exact Nat.le_trans (Nat.succ_le_succ sglen) (by decide)
      rw [show sS sg ++ (⟨#[c]⟩ : Str) = sS (sg ++ [c]) from sS_append sg [c]]
      have xsz : (sS (sg ++ [c])).cps.size = sg.length + 1 := by
        rw [← Array.length_toList, sS_cps, List.length_append]
        rfl
      refine ⟨_, rfl, by rw [xsz]; omega, fun p1 l1 hl1 nd1 mem1 hp1 => ⟨p1, l1, rfl, upd_same, by omega, fun ys p2 srt pm hp2 => ?_⟩⟩
      have mem2 : ∀ y, y ∈ ys ↔ y ∈ (sg ++ [c]).map fun c => (⟨#[c]⟩ : Str) := fun y => by
        rw [pm.mem_iff, mem1 y]
        unfold signsOf
        rw [sS_cps]
      obtain ⟨us, eus, usub⟩ := sing_list fun y hy => (mem2 y).mp hy
      have und : us.Nodup := by
        have nd := pm.nodup_iff.mpr nd1
        rw [eus] at nd
        exact (List.pairwise_map.mp nd).imp fun h e => h (by rw [e])
      have sgok : SgOk us := by
        refine ⟨fun e => ?_, rise_signs us und (eus ▸ srt), fun x hx => ?_⟩
        · have : (⟨#[c]⟩ : Str) ∈ ys := (mem2 _).mpr (List.mem_map.mpr ⟨c, List.mem_append_right _ (List.mem_singleton.mpr rfl), rfl⟩)
          rw [eus, e] at this
          cases this
        · rcases List.mem_append.mp (usub x hx) with z | z
          · exact lok.ok x (sgl x z)
          · rw [List.mem_singleton.mp z]
            exact lok.ok c hcl
      have usl : ∀ x ∈ us, x ∈ l := fun x hx => by
        rcases List.mem_append.mp (usub x hx) with z | z
        · exact sgl x z
        · rw [List.mem_singleton.mp z]
          exact hcl
      have uslen : us.length ≤ 3 := Nat.le_trans (nodup_sub und usl) ll
      have eyV : ys.map V.str = us.map cV := by
        rw [eus, List.map_map]
        rfl
      have s7 := (same_upd hp1 (o := KM.SetTO w p1 l1)).trans (same_upd hp2 (o := .lst (ys.map V.str)))
      refine ⟨_, p2, ys, rfl, rfl, .inl (.inl (.inl upd_same)), ?_, ?_⟩
      · rw [eus, len_signs, List.length_map]
        show us.length + us.length * 0 ≤ 16777216
        omega
      rw [show Txt.join _ ys = sS us by rw [eus]; exact join_signs us]
      have hT7 := s7 _ _ hT6
      refine ⟨_, rfl, _, rfl, Td, _, rfl, DPut.t (k := kP (a, b)) hT7 (s7 _ _ hu6) (by omega), ?_⟩
      refine ⟨kk + 3, putK kvs (kP (a, b)) (sV us), _, _, rfl, fun b' o nb e => ?_, (f6.same s7).upd nTd.symm nTL, by omega, upd_same, ⟨putK_nd _ _ ok.nd, fun e he => ?_⟩, ?_⟩
      · rw [upd_ne (ne_of_none e HTd)]
        exact s7 _ _ (s6 _ _ nb (su _ _ (sb5 _ _ nb e)))
      · rcases putK_mem he with z | z
        · exact ⟨((a, b), us), z, ha, hb, sgok, usl⟩
        · exact ok.all e z
      · have z := congrArg List.length (putK_keys kvs (kP (a, b)) (sV us))
        rw [List.length_map] at z
        rw [z]
        split
        · rw [List.length_map]; omega
        · rw [List.length_append, List.length_map, List.length_singleton]; omega
    · rintro σ Hx ⟨kk, kvs, y4, y5, rfl, sb, f, hkk, hT, ok, kl⟩
      have em : ((t : Int)).toNat = t := rfl
      rw [em] at hkk kl
      obtain ⟨es, ees, eok⟩ := enc_list ok.all
      have esl : es.length ≤ 11 := by
        have : kvs.length = es.length := by rw [ees, List.length_map]
        omega
      refine ⟨Td, .dT kvs, hT, trivial, fun od => ?_⟩
      have tl : TupS Hx (upd Hx Td (.frz od (.dT kvs))) := TupS.upd hT fun xs z => by cases z
      refine ⟨_, rfl, Td, od, rfl, .inr ⟨kvs, upd_same, fun Pl hPl => ?_⟩⟩
      have nTP : Td ≠ Pl := ne_of_none (H := upd Hx Td (.frz od (.dT kvs))) upd_same hPl
      refine lc_map hPl StpAt (fun _ _ _ _ e r => Tup.mono e r) walk_keysT (fun _ s1 => s1 _ _ upd_same) (fun i => (es.take i).map fun e => ((e.1.1, e.2, e.1.2) : Stp)) rfl (Nat.lt_of_le_of_lt kl (Nat.lt_of_le_of_lt t11 (by decide))) (fun i y Hc H' Post Skip hi sc hy k1 k2 => ?_) (fun H7 acc7 s7 ha7 hp7 => ?_)
      · obtain ⟨rfl, kx, v, u, hk, rfl, hu⟩ := hy
        rw [ees, List.getElem?_map] at hk
        cases he : es[i]? with
        | none => rw [he] at hk; cases hk
        | some e =>
          rw [he] at hk
          cases hk
          have hTc := sc _ _ (show upd Hx Td (.frz od (.dT kvs)) Td = _ from upd_same)
          have vk : valV kvs (kP e.1) = some (sV e.2) := by
            have z := (valV_keys (kP e.1) kvs).mpr (by rw [ees]; exact List.mem_map.mpr ⟨tEnc e, List.mem_map.mpr ⟨e, List.mem_of_getElem? he, rfl⟩, rfl⟩)
            cases q : valV kvs (kP e.1) with
            | none => rw [q] at z; cases z
            | some v =>
              have m1 := valV_mem q
              have m2 : (kP e.1, sV e.2) ∈ kvs := by rw [ees]; exact List.mem_map.mpr ⟨e, List.mem_of_getElem? he, rfl⟩
              rw [nodup_key ok.nd m1 m2]
          refine ⟨rfl, _, rfl, u, _, 0, nV e.1.1, rfl, rfl, .inl (.inl hu), atI0 rfl, _, rfl, _, rfl, Td, sV e.2, rfl, ?_, _, rfl, u, _, 1, nV e.1.2, rfl, rfl, .inl (.inl hu), atI_nat (j := 1) rfl, (by show 3 ≤ sizeLine; decide), fun p hp => ?_⟩
          · rw [← vk]
            exact .inr ⟨kvs, kP e.1, u, .inr ⟨od, hTc⟩, rfl, hu, rfl⟩
          · refine k1 _ _ (e.1.1, e.2, e.1.2) (same_upd hp) ⟨p, rfl, upd_same⟩ ?_
            rw [List.take_succ, he, List.map_append]
            rfl
      · rw [show kvs.length = es.length by rw [ees, List.length_map], List.take_length] at hp7
        have hT7 := s7 _ _ upd_same
        refine ⟨hT7, ?_⟩
        obtain ⟨H8, hH8⟩ : ∃ H8, upd H7 Td (.dT kvs) = H8 := ⟨_, rfl⟩
        have S8 : Same Hx H8 := fun x o e => by
          rw [← hH8]
          by_cases hx : x = Td
          · rw [hx] at e ⊢
            rw [hT] at e
            rw [upd_same]
            exact e
          · rw [upd_ne hx]
            exact s7 _ _ (by rw [upd_ne hx]; exact e)
        have nPT : Pl ≠ Td := fun e => by
          rw [e, upd_same] at hPl
          cases hPl
        have tu : TupS H7 (upd H7 Td (.dT kvs)) := TupS.upd hT7 fun xs z => by cases z
        have hP8 : H8 Pl = some (.lst acc7) := by rw [← hH8, upd_ne nPT]; exact ha7
        have hp8 := paired_mono hp7 fun _ _ (r : StpAt H7 _ _) => Tup.mono tu r
        rw [hH8] at hp8 ⊢
        clear hH8 tu
        have uq : ((es.map fun e => ((e.1.1, e.2, e.1.2) : Stp)).map fun s => (s.1, s.2.2)).Nodup := by
          have z := ok.nd
          rw [ees, List.map_map] at z
          rw [List.map_map]
          exact List.pairwise_map.mpr ((List.pairwise_map.mp z).imp fun h e => h (congrArg kP e))
        have ksl : (es.map fun e => ((e.1.1, e.2, e.1.2) : Stp)).length ≤ 11 := by rw [List.length_map]; exact esl
        obtain ⟨sv', z1, z2, z3, z4, z5, z6, kv, ks, ekv, pk, rk, pkv⟩ := sort_stps (K := K) hp8 uq (by omega)
        refine ⟨Pl, sv', rfl, by rw [z1]; exact .inl (.inl hP8), z2, z3, z4, z5, z6, fun L7 hL7 => ?_⟩
        rw [ekv]
        have t7 := same_upd hL7 (o := .lst kv)
        refine ⟨L7, kv, rfl, .inl ⟨.inl (.inl upd_same), fun Ts hTs => ?_⟩⟩
        have t8 := t7.trans (same_upd hTs (o := .tup kv))
        obtain ⟨H9, hH9⟩ : ∃ H9, upd (upd H8 L7 (.lst kv)) Ts (.tup kv) = H9 := ⟨_, rfl⟩
        have hTs9 : H9 Ts = some (.tup kv) := by rw [← hH9]; exact upd_same
        rw [hH9] at t8 ⊢
        clear hH9
        have S9 := S8.trans t8
        have f9 := f.same S9
        have nTs : Ts ≠ d := SameB.ndict f9 hTs9 (fun _ z => by cases z)
        refine ⟨_, rfl, _, rfl, _, rfl, d, L, m, kk, rfl, by omega, by omega, f9, by omega, fun bb H10 hbb s10 f10 => ⟨(by show 1 ≤ sizeLine; decide), fun Tb hTb => ?_⟩⟩
        have t11' := same_upd hTb (o := .tup [nV bb])
        have f11 := f10.same t11'
        have nTb : Tb ≠ d := SameB.ndict f11 upd_same (fun _ z => by cases z)
        refine ⟨_, rfl, _, rfl, _, rfl, (m : Int), rfl, RgOk.of_le (by omega) (by omega) (by omega) (by omega), fun r1 hr1' => ⟨d, L, kk + 1, f11.same (same_upd hr1'), by omega, .inr ⟨r1, List.range m, rfl, by rw [upd_same, rgV0], by rw [List.length_range]; omega, fun Ea en k3 H12 s12' f12 hk3 hEn hE3 subE => ?_⟩⟩⟩
        have tB := (SameB.of (same_upd hr1')).trans s12'
        refine ⟨_, _, rfl, .inl ⟨.inl (.inl hE3), fun Te hTe => ⟨(by show 4 ≤ sizeLine; decide), fun tt htt => ?_⟩⟩⟩
        have t13 := (same_upd hTe (o := .tup (en.map nV))).trans (same_upd htt (o := .tup [nV m, .ref Tb, .ref Ts, .ref Te]))
        have sZ := (s10.trans (SameB.of t11')).trans tB
        obtain ⟨rE, lE⟩ := sub_range_rise subE
        have ks' : ∀ s ∈ ks, s.1 < m ∧ s.2.2 < m ∧ SgOk s.2.1 ∧ ∀ c ∈ s.2.1, c ∈ l := fun s hs => by
          obtain ⟨e, he, rfl⟩ := List.mem_map.mp (pk.mem_iff.mp hs)
          exact eok e he
        have tZ : TupS H8 (upd (upd H12 Te (.tup (en.map nV))) tt (.tup [nV m, .ref Tb, .ref Ts, .ref Te])) := (TupS.same t8).trans (((sZ.tup f9).trans (TupS.same t13)))
        refine q (.ref tt) ⟨m, [bb], ks, en⟩ k3 _ (((sb.trans (SameB.of S9)).trans sZ).trans (SameB.of t13)) (f12.same t13) (by omega)
          ⟨tt, Tb, Ts, Te, kv, rfl, upd_same, t13 _ _ (tB _ _ nTb upd_same), t13 _ _ (sZ _ _ nTs hTs9), paired_mono pkv fun _ _ r => Tup.mono tZ r, (same_upd htt) _ _ upd_same⟩
          ⟨⟨List.pairwise_singleton _ _, fun p hp => by rw [List.mem_singleton.mp hp]; exact hbb, rE, lE, ⟨fun s hs => ⟨(ks' s hs).1, (ks' s hs).2.1, (ks' s hs).2.2.1⟩, rk, (pk.map _).nodup_iff.mpr uq, by show ks.length ≤ 1000; rw [pk.length_eq]; omega⟩, by show m ≤ 1000; omega⟩, m4, by show ks.length ≤ 16; rw [pk.length_eq]; omega, fun s hs => (ks' s hs).2.2.2⟩
end
end KM
/-! text KW32 -/
set_option Elab.async false
set_option linter.all false
set_option maxRecDepth 100000
set_option maxHeartbeats 4000000
namespace KM
open PySem PySem.Spec PyProof.Rows L2
theorem SameB.keepN {d L : Addr} {H H' : Hp} {k : Nat} (s : SameB d H H') (f : FeedAt H d L k) {b : Addr} {o : HO} (h : H b = some o) (n : ∀ kvs, o ≠ .dK kvs) : H' b = some o := s _ _ (SameB.ndict f h n) h
theorem MachAt.sameB {C d L : Addr} {H H' : Hp} {a : Addr} {M : Mch} {k : Nat} (e : SameB d H H') (f : FeedAt H d L k) (h : MachAt C H a M) : MachAt C H' a M := by
  obtain ⟨dx, tb, ts, te, lo, sv, las, h1, h2, h3, h4, h5, h6, h7, h8⟩ := h.ex
  have tp : TupS H H' := e.tup f
  refine ⟨dx, tb, ts, te, lo, sv, las, e.keepN f h1 (fun _ q => by cases q), tp _ _ h2, tp _ _ h3, paired_mono h4 fun _ _ r => Tup.mono tp r, tp _ _ h5, e.keepN f h6 (fun _ q => by cases q), h7, fun p la hp => ?_⟩
  obtain ⟨ov, q1, q2⟩ := h8 p la hp
  exact ⟨ov, e.keepN f q1 (fun _ q => by cases q), paired_mono q2 fun _ _ r => Tup.mono tp r⟩
/-- a list of pairs within the machines' places -/
structure PapAt (H : Hp) (r : V) (m n : Nat) : Prop where
  ex : ∃ (b : Addr) (pl : List V) (ps : List Pr), r = .ref b ∧ H b = some (.lst pl) ∧ Paired (PrAt H) pl ps ∧ (∀ p ∈ ps, p.1 < m ∧ p.2 < n) ∧ ps.Nodup ∧ ps.length ≤ 400
theorem PapAt.sameB {d L : Addr} {H H' : Hp} {k : Nat} {r : V} {m n : Nat} (e : SameB d H H') (f : FeedAt H d L k) (h : PapAt H r m n) : PapAt H' r m n := by
  obtain ⟨b, pl, ps, h1, h2, h3, h4⟩ := h.ex
  exact ⟨b, pl, ps, h1, e.keepN f h2 (fun _ q => by cases q), paired_mono h3 fun _ _ r => Tup.mono (e.tup f) r, h4⟩
def evs (n i : Nat) : List Pr := (List.range i).flatMap fun p => (List.range n).map fun q => ((p, q) : Pr)
theorem evs_succ (n i : Nat) : evs n (i + 1) = evs n i ++ (List.range n).map fun q => ((i, q) : Pr) := by
  unfold evs
  rw [List.range_succ, List.flatMap_append]
  simp
theorem evs_mem {n i : Nat} {p : Pr} : p ∈ evs n i ↔ p.1 < i ∧ p.2 < n := by
  unfold evs
  rw [List.mem_flatMap]
  constructor
  · rintro ⟨a, ha, hp⟩
    obtain ⟨b, hb, rfl⟩ := List.mem_map.mp hp
    exact ⟨List.mem_range.mp ha, List.mem_range.mp hb⟩
  · rintro ⟨h1, h2⟩
    exact ⟨p.1, List.mem_range.mpr h1, List.mem_map.mpr ⟨p.2, List.mem_range.mpr h2, rfl⟩⟩
theorem evs_len (n : Nat) : ∀ i, (evs n i).length = i * n
  | 0 => by simp [evs]
  | i + 1 => by rw [evs_succ, List.length_append, evs_len n i, List.length_map, List.length_range, Nat.succ_mul]
theorem evs_nd (n : Nat) : ∀ i, (evs n i).Nodup
  | 0 => by simp [evs]
  | i + 1 => by
    rw [evs_succ, List.nodup_append]
    refine ⟨evs_nd n i, nodup_map_on (fun x _ y _ e => (Prod.mk.inj e).2) List.nodup_range, fun x hx y hy e => ?_⟩
    have h1 := (evs_mem.mp hx).1
    obtain ⟨b, _, rfl⟩ := List.mem_map.mp hy
    rw [e] at h1
    exact Nat.lt_irrefl _ h1
def fineB (M N : Mch) (p : Pr) : Bool := !inV (nV p.1) (M.ends.map nV) || !inV (nV p.2) (N.ends.map nV)
structure LSt (d L Ea D Fd : Addr) (pl fl rs : List V) (M N : Mch) (H Hx : Hp) (kk : Nat) : Prop where
  sb : SameB d H Hx
  f : FeedAt Hx d L kk
  hE : Hx Ea = some (.lst pl)
  hD : Hx D = some (.lst fl)
  hp : Paired (PrAt Hx) pl (evs N.many M.many)
  hfp : Paired (PrAt Hx) fl ((evs N.many M.many).filter (fineB M N))
  hF : Hx Fd = some (.lst rs)
  HF : H Fd = none
  nE : Ea ≠ Fd
  nL : L ≠ Fd
  nD : D ≠ Fd
  all : ∀ r ∈ rs, PapAt Hx r M.many N.many ∧ r ≠ .ref Fd
theorem PapAt.upd {H : Hp} {r : V} {m n : Nat} {F : Addr} {rs rs' : List V} (hF : H F = some (.lst rs)) (hr : r ≠ .ref F) (h : PapAt H r m n) : PapAt (upd H F (.lst rs')) r m n := by
  obtain ⟨b, pl, ps, rfl, h2, h3, h4⟩ := h.ex
  have t : TupS H (L2.upd H F (.lst rs')) := TupS.upd hF fun xs z => by cases z
  exact ⟨b, pl, ps, rfl, by rw [upd_ne (fun e => hr (by rw [e]))]; exact h2, paired_mono h3 fun _ _ r => Tup.mono t r, h4⟩
theorem LSt.app {d L Ea D Fd D' : Addr} {pl fl rs acc : List V} {M N : Mch} {H Hx H2 : Hp} {kk k2 : Nat} {bs : List Pr} (h : LSt d L Ea D Fd pl fl rs M N H Hx kk) (hmn : M.many * N.many ≤ 400) (s2 : SameB d Hx H2) (f2 : FeedAt H2 d L k2) (h0 : Hx D' = none)
    (ha : H2 D' = some (.lst acc)) (hp : Paired (PrAt H2) acc bs) (sub : bs.Sublist (evs N.many M.many)) : LSt d L Ea D Fd pl fl (rs ++ [.ref D']) M N H (upd H2 Fd (.lst (rs ++ [.ref D']))) k2 := by
  have hF2 := s2.keepN h.f h.hF (fun _ z => by cases z)
  have t : TupS H2 (upd H2 Fd (.lst (rs ++ [.ref D']))) := TupS.upd hF2 fun xs z => by cases z
  have nFd : Fd ≠ d := SameB.ndict h.f h.hF (fun _ z => by cases z)
  have hEd : Ea ≠ d := SameB.ndict h.f h.hE (fun _ z => by cases z)
  have nD'F : D' ≠ Fd := fun e => by
    rw [e, h.hF] at h0
    cases h0
  refine ⟨fun b o nb e => ?_, f2.upd nFd.symm h.nL, ?_, ?_, paired_mono h.hp fun _ _ r => Tup.mono ((s2.tup h.f).trans t) r, paired_mono h.hfp fun _ _ r => Tup.mono ((s2.tup h.f).trans t) r, upd_same, h.HF, h.nE, h.nL, h.nD, fun r hr => ?_⟩
  · rw [upd_ne (ne_of_none e h.HF)]
    exact s2 _ _ nb (h.sb _ _ nb e)
  · rw [upd_ne h.nE]
    exact s2.keepN h.f h.hE (fun _ z => by cases z)
  · rw [upd_ne h.nD]
    exact s2.keepN h.f h.hD (fun _ z => by cases z)
  · rcases List.mem_append.mp hr with hr | hr
    · obtain ⟨z1, z2⟩ := h.all r hr
      exact ⟨(z1.sameB s2 h.f).upd hF2 z2, z2⟩
    · rw [List.mem_singleton.mp hr]
      refine ⟨PapAt.upd hF2 (fun e => nD'F (V.ref.inj e)) ⟨D', acc, bs, rfl, ha, hp, fun p hp => ?_, (evs_nd _ _).sublist sub, ?_⟩, fun e => nD'F (V.ref.inj e)⟩
      · exact evs_mem.mp (sub.subset hp)
      · have := sub.length_le
        rw [evs_len] at this
        omega
section
variable {P : Program} {w : World} {K : PySem.W.Frag} {mg : Str → Option Value} {base : Heap}
def spLists (C : Addr) : Sp := fun vs H Q _ => ∃ (d L x y : Addr) (k : Nat) (M N : Mch), vs = [.ref d, .ref x, .ref y] ∧ FeedAt H d L k ∧ k ≤ 800000 ∧ MachAt C H x M ∧ MachAt C H y N ∧ M.WF ∧ N.WF ∧ M.many * N.many ≤ 400 ∧
  ∀ (a : Addr) (rs : List V) (k' : Nat) H', SameB d H H' → FeedAt H' d L k' → k' ≤ k + 3200 → H' a = some (.lst rs) → rs.length ≤ 11 → (∀ r ∈ rs, PapAt H' r M.many N.many) → Q (.ref a) H'
abbrev nmLists : List Str := ["_law_feed_here", "_law_one", "_law_other", "_law_every", "_law_place", "_law_fine", "_law_found", "_law_k", "_law_there", "_law_pair"]
theorem scLists : FnScope nmLists ["_law_feed_here", "_law_one", "_law_other"] (defScope sLists) := ⟨rfl, rfl, rfl, by decide +kernel, rfl, by decide +kernel, by decide +kernel⟩
theorem ok_lists {C f fi f1 : Addr} {fd fd1 : FuncData} (F : FnP K "_law_lists" "_law_lists" sLists f fd) (B : Bi mg) (T : MC K mg C fi) (F1 : FnP K "_law_draw" "_law_draw" sDraw f1 fd1) (g1 : mg "_law_draw" = some (.ref f1)) :
    FnOk P w K mg base CX0 2 f fd ["_law_feed_here", "_law_one", "_law_other"] (spLists C) := by
  have O1 : FnOk P w K mg base CX0 1 f1 fd1 ["_law_feed_here", "_law_many"] spDraw := ok_draw F1 B
  have b1 : Binds K fd1 ["_law_feed_here", "_law_many"] [] := F1.bindsN fun _ _ _ _ _ _ us hl => match us, hl with | [_, _], _ => rfl
  refine F.okP scLists (fun vs H Q E h => ?_) (fun cdv A outer s H vs Q E hr h => ?_)
  · obtain ⟨d, L, x, y, k, M, N, rfl, _⟩ := h
    rfl
  · obtain ⟨d, L, x, y, k, M, N, rfl, hf, hk, hM, hN, wm, wn, hmn, q⟩ := h
    refine ⟨_, pss_cons (ps_set (i := 3) scLists.nd rfl (.inl rfl) (pe_lst pa_nil))
      (pss_cons (ps_for PassesOwn.never rfl (pi_range1 rfl B.range (pa_cons (pe_fld (pv 1) rfl) pa_nil)) (pg_name (i := 4) scLists.nd rfl (.inr rfl))
        (pss_one (ps_set (i := 3) scLists.nd rfl (.inl rfl) (pe_op op_cat (pv 3) (pe_lc (own := [("_law_there", 8)]) (g := gName 8) (tt := tYes) (te := tTup (tCons (tVar 4) (tCons (tVar 8) tNil))) rfl scLists.nd (pi_range1 rfl B.range (pa_cons (pe_fld (pv 2) rfl) pa_nil))
          (blkOk_by (N := nmLists) (sc := defScope sLists) (by decide +kernel)) (fun _ _ _ _ _ => pg_name (i := 8) scLists.nd rfl (.inl rfl)) (fun _ _ _ _ _ => pts_nil) (fun _ _ _ _ _ => pe_tup (pa_cons (pv 4) (pa_cons (pv 8) pa_nil))))))))
      (pss_cons (ps_setLc (i := 5) (own := [("_law_pair", 9)]) (g := gName 9) (tt := tOr (tTest (tOp (rIn K true) (tOp (rIxT K) (tVar 9) (tC (.int 0))) (tFld K (tVar 1) "ends"))) (tTest (tOp (rIn K true) (tOp (rIxT K) (tVar 9) (tC (.int 1))) (tFld K (tVar 2) "ends")))) (te := tVar 9) rfl scLists.nd rfl rfl (sw_true rfl rfl rfl (by decide +kernel)) (pi_list (pv 3))
          (blkOk_by (N := nmLists) (sc := defScope sLists) (by decide +kernel)) (fun _ _ _ _ _ => pg_name (i := 9) scLists.nd rfl (.inl rfl))
          (fun _ _ _ _ _ => pts_one (PW.pt (pw_or (pt_cmpR op_notIn_seq (pe_ix ix_tup (pv 9) pe_int (fun _ _ => rfl)) (pe_fld (pv 1) rfl) rfl) (pw_or1 (pt_cmpR op_notIn_seq (pe_ix ix_tup (pv 9) pe_int (fun _ _ => rfl)) (pe_fld (pv 2) rfl) rfl))))) (fun _ _ _ _ _ => pv 9))
      (pss_cons (ps_set (i := 6) scLists.nd rfl (.inl rfl) (pe_lst (pa_cons (pe_lst pa_nil) (pa_cons (pv 3) (pa_cons (pv 5) pa_nil)))))
      (pss_cons (ps_for PassesOwn.never rfl (pi_range1 rfl B.range (pa_cons pe_int pa_nil)) (pg_name (i := 7) scLists.nd rfl (.inl rfl))
        (pss_cons (ps_expr (pe_bm PySem.F.plainAttrs_list PySem.F.slot_list_append PySem.F.type_list_append mt_append (pv 6) (pa_cons
          (pe_lc (own := [("_law_pair", 9)]) (g := gName 9) (te := tVar 9) rfl scLists.nd (pi_list (pv 5)) (blkOk_by (N := nmLists) (sc := defScope sLists) (by decide +kernel)) (fun _ _ _ _ _ => pg_name (i := 9) scLists.nd rfl (.inl rfl))
            (fun _ _ _ _ _ => pts_one (pt_cmpR op_gt (pe_call O1 hr (by rfl) g1 F1.kp b1 .nil pass0 (pa_cons (pv 0) (pa_cons pe_int pa_nil))) pe_int (nomark _))) (fun _ _ _ _ _ => pv 9)) pa_nil)))
        (pss_one (ps_expr (pe_bm PySem.F.plainAttrs_list PySem.F.slot_list_append PySem.F.type_list_append mt_append (pv 6) (pa_cons
          (pe_lc (own := [("_law_pair", 9)]) (g := gName 9) (te := tVar 9) rfl scLists.nd (pi_list (pv 3)) (blkOk_by (N := nmLists) (sc := defScope sLists) (by decide +kernel)) (fun _ _ _ _ _ => pg_name (i := 9) scLists.nd rfl (.inl rfl))
            (fun _ _ _ _ _ => pts_one (pt_cmpR op_gt (pe_call O1 hr (by rfl) g1 F1.kp b1 .nil pass0 (pa_cons (pv 0) (pa_cons pe_int pa_nil))) pe_int (nomark _))) (fun _ _ _ _ _ => pv 9)) pa_nil))))))
      (pss_one (ps_ret (pv 6))))))), ?_⟩
    obtain ⟨dx, tb, ts, te, lo, sv, las, h1, h2, h3, h4, h5, h6, h7, h8⟩ := hM.ex
    obtain ⟨dx', tb', ts', te', lo', sv', las', h1', h2', h3', h4', h5', h6', h7', h8'⟩ := hN.ex
    have line : (2000 : Nat) < sizeLine := by decide
    have m1000 := wm.mLe
    have m1000' := wn.mLe
    refine ⟨Nat.zero_le _, fun E0 hE0 => ?_⟩
    have s0 := same_upd hE0 (o := .lst [])
    refine ⟨_, rfl, x, C, dx, _, _, rfl, s0 _ _ h1, T.cl, T.nMany, mf_many _ _ _ _ _, (M.many : Int), rfl, by omega, by omega, ?_⟩
    refine for_range (lo := 0) (n := ((M.many : Int)).toNat) (fun i σ Hx => ∃ (Ea : Addr) (pl : List V) (y4 : Option V), σ = [some (.ref d), some (.ref x), some (.ref y), some (.ref Ea), y4, none, none, none, none, none] ∧ Same H Hx ∧ Hx Ea = some (.lst pl) ∧ Paired (PrAt Hx) pl (evs N.many i))
      ⟨E0, [], none, rfl, s0, upd_same, .nil⟩ ?_ ?_
    · rintro i σ Hx hi ⟨Ea, pl, y4, rfl, sx, hE, hp⟩
      have hi : i < M.many := hi
      refine ⟨_, rfl, _, rfl, y, C, dx', _, _, rfl, sx _ _ h1', T.cl, T.nMany, mf_many _ _ _ _ _, (N.many : Int), rfl, by omega, by omega, fun D hD => ?_⟩
      refine lc_map hD PrAt (fun _ _ _ _ e r => r.mono e) (walk_range (lo := 0) (n := N.many)) (fun _ _ => trivial) (fun j => (List.range j).map fun q => ((i, q) : Pr)) rfl (by omega) (fun j yv Hc H' Post Skip hj sc hy k1 k2 => ?_) (fun H1 acc sl ha1 hp1 => ?_)
      · obtain ⟨rfl, rfl⟩ := hy
        refine ⟨rfl, _, rfl, _, rfl, (by show 2 ≤ sizeLine; decide), fun t ht => k1 _ _ (i, j) (same_upd ht) ⟨t, rfl, ?_⟩ ?_⟩
        · rw [upd_same]
          show some (HO.tup [V.int (0 + (i : Int)), V.int (0 + (j : Int))]) = _
          rw [Int.zero_add, Int.zero_add]
          rfl
        · rw [List.range_succ, List.map_append]
          rfl
      · have l1 := Paired.length hp
        have l2 := Paired.length hp1
        rw [evs_len] at l1
        rw [List.length_map, List.length_range] at l2
        have hmul : (i + 1) * N.many ≤ M.many * N.many := Nat.mul_le_mul_right _ hi
        rw [Nat.succ_mul] at hmul
        refine ⟨Ea, D, _, _, rfl, rfl, sl _ _ hE, ha1, by omega, fun p hp' => ?_⟩
        have sp := same_upd hp' (o := .lst (pl ++ acc))
        refine ⟨p, _, _, rfl, (sx.trans sl).trans sp, upd_same, ?_⟩
        rw [evs_succ]
        exact paired_append (paired_mono hp fun _ _ r => Tup.mono (TupS.same (sl.trans sp)) r) (paired_mono hp1 fun _ _ r => Tup.mono (TupS.same sp) r)
    · rintro σ H1 ⟨Ea, pl, y4, rfl, s1, hE, hp⟩
      have hp : Paired (PrAt H1) pl (evs N.many M.many) := hp
      have pll := Paired.length hp
      rw [evs_len] at pll
      refine ⟨_, rfl, Ea, rfl, ⟨_, .inl (.inl hE)⟩, fun D hD => ?_⟩
      refine lc_map hD PrAt (fun _ _ _ _ e r => r.mono e) (walk_list (xs := pl)) (fun _ sl => .inl (.inl (sl _ _ hE))) (fun i => ((evs N.many M.many).take i).filter (fineB M N)) rfl (by omega) (fun i yv Hc H' Post Skip hi sc hy k1 k2 => ?_) (fun H2 acc s2 ha2 hp2 => ?_)
      · obtain ⟨rfl, hy⟩ := hy
        obtain ⟨p, e2, b, rfl, hb⟩ := paired_get hp hy
        have ext : ((evs N.many M.many).take (i + 1)).filter (fineB M N) = ((evs N.many M.many).take i).filter (fineB M N) ++ (if fineB M N p = true then [p] else []) := by
          rw [List.take_succ, e2, List.filter_append]
          congr 1
          show [p].filter _ = _
          by_cases h : fineB M N p = true <;> simp [h]
        have hbc := sc _ _ hb
        refine ⟨rfl, _, rfl, b, _, 0, nV p.1, rfl, rfl, .inl (.inl hbc), atI0 rfl, _, rfl, x, C, dx, _, _, rfl, sc _ _ (s1 _ _ h1), T.cl, T.nEnds, mf_ends _ _ _ _ _, te, _, rfl, .inr (.inl (.inl (sc _ _ (s1 _ _ h5)))), rfl, flat_nats _, !inV (nV p.1) (M.ends.map nV), rfl, ?_⟩
        have yes : fineB M N p = true → ∀ H3, H3 = H' → Post (.ref b) H3 := fun h H3 e => by
          rw [e]
          exact k1 _ _ p (Same.refl _) ⟨b, rfl, hbc⟩ (by rw [ext, if_pos h])
        cases e1 : inV (nV p.1) (M.ends.map nV) with
        | false => 
          have hy : fineB M N p = true := by unfold fineB; rw [e1]; rfl
          exact iteT (iteT ⟨_, rfl, yes hy _ rfl⟩)
        | true => 
          refine iteF ⟨_, rfl, b, _, 1, nV p.2, rfl, rfl, .inl (.inl hbc), atI_nat (j := 1) rfl, _, rfl, y, C, dx', _, _, rfl, sc _ _ (s1 _ _ h1'), T.cl, T.nEnds, mf_ends _ _ _ _ _, te', _, rfl, .inr (.inl (.inl (sc _ _ (s1 _ _ h5')))), rfl, flat_nats _, !inV (nV p.2) (N.ends.map nV), rfl, ?_⟩
          cases e2' : inV (nV p.2) (N.ends.map nV) with
          | false =>
            have hy : fineB M N p = true := by unfold fineB; rw [e1, e2']; rfl
            exact iteT ⟨_, rfl, yes hy _ rfl⟩
          | true =>
            have hn : ¬ fineB M N p = true := by unfold fineB; rw [e1, e2']; decide
            exact iteF (k2 _ (Same.refl _) (by rw [ext, if_neg hn, List.append_nil]))
      · rw [pll, ← evs_len N.many M.many, List.take_length] at hp2
        refine ⟨Nat.zero_le _, fun L0 hL0 => ⟨_, rfl, _, rfl, (by show 3 ≤ sizeLine; decide), fun Fd hFd => ?_⟩⟩
        have t1 := same_upd hL0 (o := .lst [])
        have t2 := same_upd hFd (o := .lst [.ref L0, .ref Ea, .ref D])
        have st := (s1.trans s2).trans (t1.trans t2)
        have s2' := (s2.trans t1).trans t2
        have HFd : H Fd = none := none_of ((s1.trans s2).trans t1) hFd
        have f0 := hf.same st
        have nF : ∀ {b : Addr} {o : HO}, upd H2 L0 (.lst []) b = some o → b ≠ Fd := fun e => ne_of_none e hFd
        have hE9 := s2' _ _ hE
        have hD9 := t2 _ _ (t1 _ _ ha2)
        have elen : (evs N.many M.many).length ≤ 400 := by rw [evs_len]; exact hmn
        have S0 : LSt d L Ea D Fd pl acc [.ref L0, .ref Ea, .ref D] M N H (upd (upd H2 L0 (.lst [])) Fd (.lst [.ref L0, .ref Ea, .ref D])) k := by
          have nL0 := nF (upd_same (H := H2) (a := L0) (o := .lst []))
          have nE0 := nF (t1 _ _ (s2 _ _ hE))
          have nD0 := nF (t1 _ _ ha2)
          have pE := paired_mono hp fun _ _ (r : PrAt H1 _ _) => Tup.mono (TupS.same s2') r
          have pD := paired_mono hp2 fun _ _ (r : PrAt H2 _ _) => Tup.mono (TupS.same (t1.trans t2)) r
          refine ⟨SameB.of st, f0, hE9, hD9, pE, pD, upd_same, HFd, nE0, (hf.ne HFd).2, nD0, fun r hr => ?_⟩
          rcases List.mem_cons.mp hr with rfl | hr
          · exact ⟨⟨L0, [], [], rfl, t2 _ _ upd_same, .nil, fun p hp => (by cases hp), .nil, Nat.zero_le _⟩, fun e => nL0 (V.ref.inj e)⟩
          rcases List.mem_cons.mp hr with rfl | hr
          · exact ⟨⟨Ea, pl, _, rfl, hE9, pE, fun p hp => evs_mem.mp hp, evs_nd _ _, elen⟩, fun e => nE0 (V.ref.inj e)⟩
          · rw [List.mem_singleton.mp hr]
            exact ⟨⟨D, acc, _, rfl, hD9, pD, fun p hp => evs_mem.mp (List.filter_sublist.subset hp), (evs_nd _ _).sublist List.filter_sublist, Nat.le_trans List.filter_sublist.length_le elen⟩, fun e => nD0 (V.ref.inj e)⟩
        refine ⟨4, rfl, by decide, by decide, ?_⟩
        refine for_range (lo := 0) (n := 4) (fun i σ Hx => ∃ (kk : Nat) (rs : List V) (y4 y7 : Option V), σ = [some (.ref d), some (.ref x), some (.ref y), some (.ref Ea), y4, some (.ref D), some (.ref Fd), y7, none, none] ∧ LSt d L Ea D Fd pl acc rs M N H Hx kk ∧ kk ≤ k + 800 * i ∧ rs.length = 3 + 2 * i)
          ⟨k, _, _, _, rfl, S0, by omega, rfl⟩ ?_ ?_
        · rintro i σ Hx hi ⟨kk, rs, y4, y7, rfl, S, hkk, hrs⟩
          have accl : acc.length ≤ 400 := by
            rw [Paired.length S.hfp]
            exact Nat.le_trans List.filter_sublist.length_le elen
          have pll4 : pl.length ≤ 400 := by rw [pll]; exact hmn
          refine ⟨_, rfl, .inl ⟨rfl, _, .inl (.inl S.hF)⟩, _, rfl, D, rfl, ⟨_, .inl (.inl S.hD)⟩, fun D1 hD1 => ?_⟩
          have nDd : D ≠ d := SameB.ndict S.f S.hD (fun _ z => by cases z)
          refine lc_mapF (β := Pr) (c := 1) hD1 S.f PrAt (fun _ _ _ _ e r => r.mono e) (walk_list (xs := acc)) (fun H' sb => .inl (.inl (sb _ _ nDd S.hD))) (fun i bs => bs.Sublist (((evs N.many M.many).filter (fineB M N)).take i)) (.slnil) (by omega) (fun i yv Hc H' bs k2 Post Skip hi sb f hk2 ok hy k3 k4 => ?_) (fun H3 acc3 bs3 k3 sb3 f3 hk3 ha3 hp3 ok3 => ?_)
          · obtain ⟨rfl, hy⟩ := hy
            obtain ⟨p, e2, b, rfl, hb⟩ := paired_get S.hfp hy
            have hbc := (sb.tup S.f) _ _ hb
            refine ⟨rfl, _, rfl, d, L, 6, k2, rfl, by decide, by decide, f, by omega, fun n H2 hn s2 f2 => ⟨_, _, rfl, rfl, decide ((0 : Int) < (n : Int)), rfl, ?_⟩⟩
            by_cases h0 : 0 < n
            · rw [decide_eq_true (by omega)]
              refine iteT ⟨_, rfl, k3 _ _ p _ s2 f2 (Nat.le_refl _) ⟨b, rfl, (s2.tup f) _ _ hbc⟩ ?_⟩
              rw [List.take_succ, e2]
              exact ok.append (List.Sublist.refl _)
            · rw [decide_eq_false (by omega)]
              refine iteF (k4 _ _ s2 f2 (Nat.le_refl _) ?_)
              rw [List.take_succ]
              exact ok.trans (List.sublist_append_left _ _)
          have S3 := S.app hmn sb3 f3 hD1 ha3 hp3 ((ok3.trans (List.take_sublist _ _)).trans List.filter_sublist)
          refine ⟨Fd, rs, _, rfl, rfl, sb3.keepN S.f S.hF (fun _ z => by cases z), by omega, ?_⟩
          have S3' := S3
          have nEd : Ea ≠ d := SameB.ndict S3.f S3.hE (fun _ z => by cases z)
          refine ⟨_, rfl, .inl ⟨rfl, _, .inl (.inl S3.hF)⟩, _, rfl, Ea, rfl, ⟨_, .inl (.inl S3.hE)⟩, fun D2 hD2 => ?_⟩
          refine lc_mapF (β := Pr) (c := 1) hD2 S3.f PrAt (fun _ _ _ _ e r => r.mono e) (walk_list (xs := pl)) (fun H' sb => .inl (.inl (sb _ _ nEd S3.hE))) (fun i bs => bs.Sublist ((evs N.many M.many).take i)) (.slnil) (by omega) (fun i yv Hc H' bs k2 Post Skip hi sb f hk2 ok hy k4 k5 => ?_) (fun H5 acc5 bs5 k5 sb5 f5 hk5 ha5 hp5 ok5 => ?_)
          · obtain ⟨rfl, hy⟩ := hy
            obtain ⟨p, e2, b, rfl, hb⟩ := paired_get S3.hp hy
            have hbc := (sb.tup S3.f) _ _ hb
            refine ⟨rfl, _, rfl, d, L, 2, k2, rfl, by decide, by decide, f, by omega, fun n H2 hn s2 f2 => ⟨_, _, rfl, rfl, decide ((0 : Int) < (n : Int)), rfl, ?_⟩⟩
            by_cases h0 : 0 < n
            · rw [decide_eq_true (by omega)]
              refine iteT ⟨_, rfl, k4 _ _ p _ s2 f2 (Nat.le_refl _) ⟨b, rfl, (s2.tup f) _ _ hbc⟩ ?_⟩
              rw [List.take_succ, e2]
              exact ok.append (List.Sublist.refl _)
            · rw [decide_eq_false (by omega)]
              refine iteF (k5 _ _ s2 f2 (Nat.le_refl _) ?_)
              rw [List.take_succ]
              exact ok.trans (List.sublist_append_left _ _)
          have S5 := S3.app hmn sb5 f5 hD2 ha5 hp5 (ok5.trans (List.take_sublist _ _))
          refine ⟨Fd, _, _, rfl, rfl, sb5.keepN S3.f S3.hF (fun _ z => by cases z), by rw [List.length_append, List.length_singleton]; omega, ?_⟩
          exact ⟨_, _, _, _, rfl, S5, by omega, by rw [List.length_append, List.length_append, List.length_singleton, List.length_singleton]; omega⟩
        · rintro σ Hx ⟨kk, rs, y4, y7, rfl, S, hkk, hrs⟩
          exact ⟨_, rfl, q Fd rs kk Hx S.sb S.f (by omega) S.hF (by omega) fun r hr => (S.all r hr).1⟩
end
end KM
/-! text KP6 -/
set_option Elab.async false
set_option linter.all false
set_option maxRecDepth 100000
set_option maxHeartbeats 4000000
/-! all texts up to a length, in order: the first common one is the least -/
namespace KM
theorem lexLe_app : ∀ {v w : List Nat} (a b : List Nat), v.length = w.length → lexLe v w → v ≠ w → lexLe (v ++ a) (w ++ b)
  | [], [], _, _, _, _, n => absurd rfl n
  | [], _ :: _, _, _, h, _, _ => by cases h
  | _ :: _, [], _, _, h, _, _ => by cases h
  | p :: x, q :: y, a, b, h, h1, n => by
    rcases h1 with h1 | ⟨rfl, h1⟩
    · exact .inl h1
    · exact .inr ⟨rfl, lexLe_app a b (by simpa using h) h1 fun e => n (by rw [e])⟩
theorem lexLe_same : ∀ (t : List Nat) {c d : Nat}, c < d → lexLe (t ++ [c]) (t ++ [d])
  | [], _, _, h => .inl h
  | _ :: t, _, _, h => .inr ⟨rfl, lexLe_same t h⟩
def rowLt (v w : List Nat) : Prop := lexLe v w ∧ v ≠ w
theorem rowN_rise {l : List Nat} (h : l.Pairwise (· < ·)) : ∀ n, (rowN l n).Pairwise rowLt
  | 0 => List.pairwise_singleton _ _
  | n + 1 => by
    show (longer l (rowN l n)).Pairwise rowLt
    unfold longer
    rw [List.pairwise_flatMap]
    refine ⟨fun t _ => List.pairwise_map.mpr (h.imp fun lt => ⟨lexLe_same t lt, fun e => Nat.ne_of_lt lt (List.cons.inj (List.append_cancel_left e)).1⟩), ?_⟩
    · refine List.Pairwise.imp_of_mem ?_ (rowN_rise h n)
      intro t u ht hu ⟨r1, r2⟩ x hx y hy
      obtain ⟨c, _, rfl⟩ := List.mem_map.mp hx
      obtain ⟨d, _, rfl⟩ := List.mem_map.mp hy
      have el : t.length = u.length := by rw [rowN_word ht, rowN_word hu]
      exact ⟨lexLe_app _ _ el r1 r2, fun e => r2 (List.append_inj_left e el)⟩
theorem rowN_all {l : List Nat} : ∀ {n : Nat} {t : List Nat}, t.length = n → (∀ c ∈ t, c ∈ l) → t ∈ rowN l n
  | 0, t, h, _ => by
    rw [List.length_eq_zero_iff.mp h]
    exact List.mem_singleton.mpr rfl
  | n + 1, t, h, hc => by
    rcases List.eq_nil_or_concat t with e | ⟨u, c, e⟩
    · rw [e] at h
      cases h
    · rw [List.concat_eq_append] at e
      subst e
      rw [List.length_append, List.length_singleton] at h
      refine List.mem_flatMap.mpr ⟨u, rowN_all (by omega) fun x hx => hc x (List.mem_append_left _ hx), List.mem_map.mpr ⟨c, hc c (List.mem_append_right _ (List.mem_singleton.mpr rfl)), rfl⟩⟩
theorem textsN_all {l : List Nat} : ∀ {n : Nat} {t : List Nat}, t.length ≤ n → (∀ c ∈ t, c ∈ l) → t ∈ textsN l n
  | 0, t, h, _ => by
    rw [List.length_eq_zero_iff.mp (Nat.le_zero.mp h)]
    exact List.mem_singleton.mpr rfl
  | n + 1, t, h, hc => by
    rcases Nat.lt_or_ge t.length (n + 1) with z | z
    · exact List.mem_append_left _ (textsN_all (by omega) hc)
    · exact List.mem_append_right _ (rowN_all (by omega) hc)
theorem textsN_len_le {l : List Nat} : ∀ {n : Nat} {t : List Nat}, t ∈ textsN l n → t.length ≤ n
  | 0, t, h => by rw [List.mem_singleton.mp h]; exact Nat.le_refl _
  | n + 1, t, h => by
    rcases List.mem_append.mp h with z | z
    · exact Nat.le_succ_of_le (textsN_len_le z)
    · exact Nat.le_of_eq (rowN_word z)
theorem textsN_rise {l : List Nat} (h : l.Pairwise (· < ·)) : ∀ n, (textsN l n).Pairwise SL
  | 0 => List.pairwise_singleton _ _
  | n + 1 => by
    show (textsN l n ++ rowN l (n + 1)).Pairwise SL
    rw [List.pairwise_append]
    refine ⟨textsN_rise h n, List.Pairwise.imp_of_mem (fun hx hy r => .inr ⟨by rw [rowN_word hx, rowN_word hy], r.1⟩) (rowN_rise h (n + 1)), fun x hx y hy => .inl ?_⟩
    rw [rowN_word hy]
    exact Nat.lt_succ_of_le (textsN_len_le hx)
theorem textsN_nd {l : List Nat} (h : l.Pairwise (· < ·)) : True := trivial
/-- the first text of the language is its least -/
theorem first_least {l : List Nat} (h : l.Pairwise (· < ·)) {L : List Nat → Prop} (sub : ∀ u, L u → ∀ c ∈ u, c ∈ l) {n i : Nat} {t : List Nat} (hi : (textsN l n)[i]? = some t) (ht : L t) (no : ∀ j u, j < i → (textsN l n)[j]? = some u → ¬ L u) : IsLeast L t := by
  refine ⟨ht, fun v hv => ?_⟩
  rcases Nat.lt_or_ge n v.length with z | z
  · have := textsN_len_le (List.mem_of_getElem? hi)
    exact .inl (by omega)
  · obtain ⟨j, hj⟩ := List.mem_iff_getElem?.mp (textsN_all z (sub v hv))
    rcases Nat.lt_trichotomy i j with c | c | c
    · obtain ⟨h1, e1⟩ := List.getElem?_eq_some_iff.mp hi
      obtain ⟨h2, e2⟩ := List.getElem?_eq_some_iff.mp hj
      have := List.pairwise_iff_getElem.mp (textsN_rise h n) i j h1 h2 c
      rw [e1, e2] at this
      exact this
    · subst c
      rw [hi] at hj
      cases hj
      exact .inr ⟨rfl, lexLe_refl _⟩
    · exact absurd hv (no j v c hj)
/-- none of them: the language's texts are longer -/
theorem none_long {l : List Nat} {L : List Nat → Prop} (sub : ∀ u, L u → ∀ c ∈ u, c ∈ l) {n : Nat} (no : ∀ u ∈ textsN l n, ¬ L u) {u : List Nat} (hu : L u) : n < u.length := by
  rcases Nat.lt_or_ge n u.length with z | z
  · exact z
  · exact absurd hu (no u (textsN_all z (sub u hu)))
end KM
/-! text KP7 -/
set_option Elab.async false
set_option linter.all false
set_option maxRecDepth 100000
set_option maxHeartbeats 4000000
/-! a shortest accepted word is shorter than the places are many -/
namespace KM
theorem path_states {α : Type} {st : List (α × List Nat × α)} {U : List α} (hU : ∀ s ∈ st, s.2.2 ∈ U) : ∀ {w : List Nat} {p q : α}, p ∈ U → Path st p w q →
    ∃ rs : List α, rs.length = w.length + 1 ∧ (∀ r ∈ rs, r ∈ U) ∧ ∀ k r, rs[k]? = some r → Path st p (w.take k) r ∧ Path st r (w.drop k) q
  | [], p, q, hp, h => ⟨[p], rfl, fun r hr => by rw [List.mem_singleton.mp hr]; exact hp, fun k r hk => by
      cases k with
      | zero =>
        cases hk
        exact ⟨.nil _, h⟩
      | succ k => cases hk⟩
  | c :: w, p, q, hp, h => by
    obtain ⟨sg, m, h1, h2, h3⟩ := path_cons_iff.mp h
    obtain ⟨rs, l1, l2, l3⟩ := path_states hU (hU _ h1) h3
    refine ⟨p :: rs, by rw [List.length_cons, l1, List.length_cons], fun r hr => ?_, fun k r hk => ?_⟩
    · rcases List.mem_cons.mp hr with rfl | hr
      · exact hp
      · exact l2 r hr
    · cases k with
      | zero =>
        cases hk
        exact ⟨.nil _, h⟩
      | succ k =>
        obtain ⟨a, b⟩ := l3 k r hk
        exact ⟨.cons h1 h2 a, b⟩
theorem short_acc {α : Type} [DecidableEq α] {b e : List α} {st : List (α × List Nat × α)} {U : List α} (hb : ∀ p ∈ b, p ∈ U) (hU : ∀ s ∈ st, s.2.2 ∈ U) {w : List Nat} (hw : Acc b st e w) (least : ∀ v, Acc b st e v → w.length ≤ v.length) : w.length < U.length := by
  obtain ⟨p, hp, q, hq, pa⟩ := hw
  obtain ⟨rs, l1, l2, l3⟩ := path_states hU (hb p hp) pa
  have nd : rs.Nodup := by
    rw [List.nodup_iff_pairwise_ne, List.pairwise_iff_getElem]
    intro i j hi hj hij e
    have a := (l3 i _ (List.getElem?_eq_getElem hi)).1
    have c := (l3 j _ (List.getElem?_eq_getElem hj)).2
    rw [← e] at c
    have z := least _ ⟨p, hp, q, hq, a.append c⟩
    rw [List.length_append, List.length_take, List.length_drop] at z
    omega
  have := nodup_sub nd l2
  omega
theorem least_short {M N : Mch} (wm : M.WF) (wn : N.WF) {u : List Nat} (h : IsLeast (fun v => M.Acc v ∧ N.Acc v) u) : u.length < M.many * N.many := by
  have hl : ∀ v, Acc (prodP M.begins N.begins) (prodS M.steps N.steps) (prodP M.ends N.ends) v → u.length ≤ v.length := fun v hv => by
    rcases h.2 v (acc_prod.mp hv) with z | z
    · omega
    · omega
  have z := short_acc (U := prodP (List.range M.many) (List.range N.many)) (fun p hp => mem_prodP.mpr ⟨List.mem_range.mpr (wm.bLt _ (mem_prodP.mp hp).1), List.mem_range.mpr (wn.bLt _ (mem_prodP.mp hp).2)⟩) (fun s hs => by
    obtain ⟨p, sg, q⟩ := s
    obtain ⟨a, b, h1, h2, _⟩ := mem_prodS.mp hs
    exact mem_prodP.mpr ⟨List.mem_range.mpr (wm.st.each _ h1).l2, List.mem_range.mpr (wn.st.each _ h2).l2⟩) (acc_prod.mpr h.1) hl
  rw [prodP_len, List.length_range, List.length_range] at z
  exact z
end KM
/-! text KW33 -/
set_option Elab.async false
set_option linter.all false
set_option maxRecDepth 100000
set_option maxHeartbeats 4000000
namespace KM
open PySem PySem.Spec PyProof.Rows L2 NdefX LamX
theorem FeedAt.ext {d L : Addr} {H H' : Hp} {k : Nat} (e : ExtN H H') (f : FeedAt H d L k) : FeedAt H' d L k := by
  obtain ⟨cs, a, l, h1, h2, h3, h4⟩ := f.ex
  exact ⟨cs, a, l, e _ _ h1 (fun _ z => by cases z), e _ _ h2 (fun _ z => by cases z), h3, h4⟩
section
variable {P : Program} {w : World} {K : PySem.W.Frag} {mg : Str → Option Value} {base : Heap}
/-- the sizes of the two machines -/
structure Fits (M N : Mch) : Prop where
  wm : M.WF
  wn : N.WF
  c1 : M.begins.length * N.begins.length + M.steps.length * N.steps.length ≤ 1000
  c2 : M.ends.length * N.ends.length + M.steps.length * N.steps.length ≤ 1000
  c3 : M.many * N.many ≤ 400
def spRight (C Pt : Addr) : Sp := fun vs H Q _ => ∃ (d L x y : Addr) (k : Nat) (l : List Nat) (M N : Mch), vs = [.ref d, .ref x, .ref y, sV l] ∧ FeedAt H d L k ∧ k ≤ 600000 ∧ l.length = 3 ∧ SgOk l ∧ MachAt C H x M ∧ MachAt C H y N ∧ Fits M N ∧ TabsN [(Pt, fun _ _ => qnA)] H ∧ (∀ u, M.Acc u → ∀ c ∈ u, c ∈ l) ∧
  ∀ (k' : Nat) H', (∀ b o, b ≠ d → H b = some o → (∀ t, o ≠ .tbl t) → H' b = some o) → FeedAt H' d L k' → k' ≤ k + 3200 → TabsN [(Pt, fun _ _ => qnA)] H' → Q (.bl true) H'
abbrev nmRight : List Str := ["_law_feed_here", "_law_one", "_law_other", "_law_signs_here", "_law_told", "_law_text", "_law_word", "_law_here", "_law_paper"]
theorem scRight : FnScope nmRight ["_law_feed_here", "_law_one", "_law_other", "_law_signs_here"] (defScope sRight) := ⟨rfl, rfl, rfl, by decide +kernel, rfl, by decide +kernel, by decide +kernel⟩
theorem ok_right {C Pt f fi f1 f2 f3 f4 f5 f6 f7 : Addr} {fd fd1 fd2 fd3 fd4 fd5 fd6 fd7 : FuncData} (F : FnP K "_law_right" "_law_right" sRight f fd) (B : Bi mg) (T : MC K mg C fi)
    (F1 : FnP K "apart" "apart" sApart f1 fd1) (g1 : mg "apart" = some (.ref f1)) (O1 : FnOk P w K mg base CX0 8 f1 fd1 ["one", "other"] (spApart C Pt))
    (F2 : FnP K "_law_texts" "_law_texts" sTexts f2 fd2) (g2 : mg "_law_texts" = some (.ref f2))
    (F3 : FnP K "runs" "runs" sRuns f3 fd3) (g3 : mg "runs" = some (.ref f3))
    (F4 : FnP K "both" "both" sBoth f4 fd4) (g4 : mg "both" = some (.ref f4)) (O4 : FnOk P w K mg base CX0 8 f4 fd4 ["one", "other"] (spBoth C))
    (F5 : FnP K "least_text" "least_text" sLeastText f5 fd5) (g5 : mg "least_text" = some (.ref f5)) (O5 : FnOk P w K mg base CX0 2 f5 fd5 ["machine"] (spLeastText C))
    (F6 : FnP K "shows_apart" "shows_apart" sShowsApart f6 fd6) (g6 : mg "shows_apart" = some (.ref f6)) (O6 : FnOk P w K mg base CX0 3 f6 fd6 ["one", "other", "thing"] (spShows C))
    (F7 : FnP K "_law_lists" "_law_lists" sLists f7 fd7) (g7 : mg "_law_lists" = some (.ref f7)) (O7 : FnOk P w K mg base CX0 2 f7 fd7 ["_law_feed_here", "_law_one", "_law_other"] (spLists C)) :
    FnOk P w K mg base CX0 9 f fd ["_law_feed_here", "_law_one", "_law_other", "_law_signs_here"] (spRight C Pt) := by
  have O2 : FnOk P w K mg base CX0 1 f2 fd2 ["_law_signs_here", "_law_longest"] spTexts := ok_texts F2 B
  have O3 : FnOk P w K mg base CX0 1 f3 fd3 ["machine", "text"] (spRuns C) := ok_runs F3 B T
  have b1 : Binds K fd1 ["one", "other"] [] := F1.bindsN fun _ _ _ _ _ _ us hl => match us, hl with | [_, _], _ => rfl
  have b2 : Binds K fd2 ["_law_signs_here", "_law_longest"] [] := F2.bindsN fun _ _ _ _ _ _ us hl => match us, hl with | [_, _], _ => rfl
  have b3 : Binds K fd3 ["machine", "text"] [] := F3.bindsN fun _ _ _ _ _ _ us hl => match us, hl with | [_, _], _ => rfl
  have b4 : Binds K fd4 ["one", "other"] [] := F4.bindsN fun _ _ _ _ _ _ us hl => match us, hl with | [_, _], _ => rfl
  have b5 : Binds K fd5 ["machine"] [] := F5.bindsN fun _ _ _ _ _ _ us hl => match us, hl with | [_], _ => rfl
  have b6 : Binds K fd6 ["one", "other", "thing"] [] := F6.bindsN fun _ _ _ _ _ _ us hl => match us, hl with | [_, _, _], _ => rfl
  have b7 : Binds K fd7 ["_law_feed_here", "_law_one", "_law_other"] [] := F7.bindsN fun _ _ _ _ _ _ us hl => match us, hl with | [_, _, _], _ => rfl
  refine F.okP scRight (fun vs H Q E h => ?_) (fun cdv A outer s H vs Q E hr h => ?_)
  · obtain ⟨d, L, x, y, k, l, M, N, rfl, _⟩ := h
    rfl
  · obtain ⟨d, L, x, y, k, l, M, N, rfl, hf, hk, hl, lok, hM, hN, fit, htab, sub, q⟩ := h
    have hr1 : Room 1 _ := hr.mono (by decide)
    have hr2 : Room 2 _ := hr.mono (by decide)
    have hr3 : Room 3 _ := hr.mono (by decide)
    refine ⟨_, pss_cons (ps_set (i := 4) scRight.nd rfl (.inl rfl) (pe_call O1 hr (by rfl) g1 F1.kp b1 .nil pass0 (pa_cons (pv 1) (pa_cons (pv 2) pa_nil))))
      (pss_cons (ps_set (i := 5) scRight.nd rfl (.inl rfl) (pe_ifExp (pt_cmpR op_eq (pe_ix ix_tup (pv 4) pe_int (fun _ _ => rfl)) pe_str (nomark _)) (pe_ix ix_tup (pv 4) pe_int (fun _ _ => rfl)) pe_non))
      (pss_cons (ps_for PassesOwn.never rfl (pi_list (pe_call O2 hr1 (by rfl) g2 F2.kp b2 .nil pass0 (pa_cons (pv 3) (pa_cons pe_int pa_nil)))) (pg_name (i := 6) scRight.nd rfl (.inl rfl))
        (pss_cons (ps_set (i := 7) scRight.nd rfl (.inl rfl) (pe_and (pe_cmpR op_gt (pe_call O3 hr1 (by rfl) g3 F3.kp b3 .nil pass0 (pa_cons (pv 1) (pa_cons (pv 6) pa_nil))) pe_int (nomark _)) (pe_one (pe_cmpR op_gt (pe_call O3 hr1 (by rfl) g3 F3.kp b3 .nil pass0 (pa_cons (pv 2) (pa_cons (pv 6) pa_nil))) pe_int (nomark _)))))
        (pss_one (ps_if (pt_val (pv 7)) (pss_one ps_break) pss_nil))))
      (pss_cons (ps_if (PW.pt (pw_or (PW.pt (pw_and (pt_val (pv 7)) (pw_and1 (pt_cmpR op_ne (pv 6) (pv 5) (nomark _))))) (pw_or1 (PW.pt (pw_and (pt_not (pt_val (pv 7))) (pw_and (pt_cmpR op_notN (pv 5) pe_non (nomark _)) (pw_and1 (pt_cmpR op_lt (pe_callB call_len_str (by rfl) B.len PySem.boot_len (pa_cons (pv 5) pa_nil)) pe_int (nomark _))))))))) (pss_one (ps_ret pe_bl)) pss_nil)
      (pss_cons (ps_if (pt_cmpR op_ne (pe_call O5 hr2 (by rfl) g5 F5.kp b5 .nil pass0 (pa_cons (pe_call O4 hr (by rfl) g4 F4.kp b4 .nil pass0 (pa_cons (pv 1) (pa_cons (pv 2) pa_nil))) pa_nil)) (pv 5) (nomark _)) (pss_one (ps_ret pe_bl)) pss_nil)
      (pss_cons (ps_if (pt_cmpR op_isN (pv 5) pe_non (nomark _)) (pss_one (ps_ret (pe_call O6 hr3 (by rfl) g6 F6.kp b6 .nil pass0 (pa_cons (pv 1) (pa_cons (pv 2) (pa_cons (pe_ix ix_tup (pv 4) pe_int (fun _ _ => rfl)) pa_nil)))))) pss_nil)
      (pss_one (ps_ret (pe_cmpR op_notIn_seq pe_bl (pe_lc (own := [("_law_paper", 8)]) (g := gName 8) (tt := tYes) rfl scRight.nd (pi_list (pe_call O7 hr2 (by rfl) g7 F7.kp b7 .nil pass0 (pa_cons (pv 0) (pa_cons (pv 1) (pa_cons (pv 2) pa_nil)))))
        (blkOk_by (N := nmRight) (sc := defScope sRight) (by decide +kernel)) (fun _ _ _ _ _ => pg_name (i := 8) scRight.nd rfl (.inl rfl)) (fun _ _ _ _ _ => pts_nil)
        (fun _ _ _ _ _ => pe_call O6 hr3 (by rfl) g6 F6.kp b6 .nil pass0 (pa_cons (pv 1) (pa_cons (pv 2) (pa_cons (pv 8) pa_nil))))) rfl)))))))), ?_⟩
    have line : (2000 : Nat) < sizeLine := by decide
    refine ⟨_, rfl, _, rfl, x, y, M, N, rfl, hM, hN, fit.wm, fit.wn, fit.c1, fit.c2, Nat.le_trans fit.c3 (by decide), htab, ?_, ?_⟩
    -- apart
    intro t pa lv ps H1 e1 tab1 ht hpa hlv pnd pin pap
    refine ⟨_, rfl, t, _, 0, .str "apart", rfl, rfl, .inl (.inl ht), atI0 rfl, rfl, _, rfl, ?_⟩
    refine iteF ?_
    obtain ⟨tv, etv⟩ : ∃ tv : V, tv = .non := ⟨_, rfl⟩
    have told : (tv = .non ∧ (∀ u, ¬ (M.Acc u ∧ N.Acc u)) ∧ ∃ (pa : Addr) (lv : List V) (ps : List Pr), H1 t = some (.tup [.str "apart", .ref pa]) ∧ H1 pa = some (.lst lv) ∧ Paired (PrAt H1) lv ps ∧ ps.Nodup ∧ (∀ p ∈ ps, p.1 < M.many ∧ p.2 < N.many) ∧ Paper M N ps) ∨ ∃ u, tv = sV u ∧ IsLeast (fun v => M.Acc v ∧ N.Acc v) u :=
      .inl ⟨etv, pap.none, pa, lv, ps, ht, hpa, hlv, pnd, pin, pap⟩
    have est : some V.non = some tv := by rw [etv]
    clear ht hpa hlv pnd pin pap etv
    rotate_left
    -- met
    intro t u H1 e1 tab1 ht lst
    refine ⟨_, rfl, t, _, 0, .str "met", rfl, rfl, .inl (.inl ht), atI0 rfl, rfl, _, rfl, ?_⟩
    refine iteT ⟨_, rfl, t, _, 1, sV u, rfl, rfl, .inl (.inl ht), atI_nat (j := 1) rfl, ?_⟩
    obtain ⟨tv, etv⟩ : ∃ tv : V, tv = sV u := ⟨_, rfl⟩
    have told : (tv = .non ∧ (∀ u, ¬ (M.Acc u ∧ N.Acc u)) ∧ ∃ (pa : Addr) (lv : List V) (ps : List Pr), H1 t = some (.tup [.str "apart", .ref pa]) ∧ H1 pa = some (.lst lv) ∧ Paired (PrAt H1) lv ps ∧ ps.Nodup ∧ (∀ p ∈ ps, p.1 < M.many ∧ p.2 < N.many) ∧ Paper M N ps) ∨ ∃ u, tv = sV u ∧ IsLeast (fun v => M.Acc v ∧ N.Acc v) u :=
      .inr ⟨u, etv, lst⟩
    have est : some (sV u) = some tv := by rw [etv]
    clear ht lst etv
    all_goals
      have f1 := hf.ext e1
      have hM1 := hM.ext e1
      have hN1 := hN.ext e1
      refine ⟨_, rfl, l, rfl, hl, fun p H2 s2 hp2 => ?_⟩
      have hM2 := hM1.same s2
      have hN2 := hN1.same s2
      have f2 := f1.same s2
      refine ⟨p, rfl, ⟨_, .inl (.inl hp2)⟩, ?_⟩
      refine for_it (walk_list (xs := (textsN l 4).map sV)) (fun i σ Hx => ∃ (y6 y7 : Option V), σ = [some (.ref d), some (.ref x), some (.ref y), some (sV l), some (.ref t), some tv, y6, y7, none] ∧ Same H2 Hx ∧ (∀ j v, j < i → (textsN l 4)[j]? = some v → ¬ (M.Acc v ∧ N.Acc v)) ∧ (0 < i → y7 = some (.bl false) ∧ ∃ v, y6 = some (sV v)))
        ⟨none, none, by rw [← est]; rfl, fun _ _ h => h, fun j v h => absurd h (Nat.not_lt_zero _), fun h => absurd h (Nat.lt_irrefl _)⟩ (fun _ _ _ _ ⟨_, _, _, sy, _⟩ => .inl (.inl (sy _ _ hp2))) ?_ ?_
      rintro i v σ Hx Hx' hi ⟨y6, y7, rfl, sx, no, y67⟩ ⟨rfl, hv⟩
      obtain ⟨wd, hw, rfl⟩ : ∃ wd, (textsN l 4)[i]? = some wd ∧ v = sV wd := by
        rw [List.getElem?_map] at hv
        cases hw : (textsN l 4)[i]? with
        | none => rw [hw] at hv; cases hv
        | some wd =>
          rw [hw] at hv
          cases hv
          exact ⟨wd, rfl, rfl⟩
      refine ⟨_, rfl, _, rfl, x, M, wd, rfl, hM2.same sx, fit.wm, fun n1 H3 s3 a1 => ⟨_, _, rfl, rfl, decide ((0 : Int) < n1), rfl, ?_⟩⟩
      have nxt : ¬ (M.Acc wd ∧ N.Acc wd) → ∀ j v, j < i + 1 → (textsN l 4)[j]? = some v → ¬ (M.Acc v ∧ N.Acc v) := fun h j v hj e => by
        rcases Nat.lt_or_ge j i with z | z
        · exact no j v z e
        · have : j = i := by omega
          subst this
          rw [hw] at e
          cases e
          exact h
      by_cases am : M.Acc wd
      rotate_left
      rw [decide_eq_false (fun h => am (a1.mp h))]
      refine iteF ⟨_, rfl, false, rfl, iteF ⟨_, _, rfl, sx.trans s3, nxt (fun h => am h.1), fun _ => ⟨rfl, wd, rfl⟩⟩⟩
      rotate_left
      rw [decide_eq_true (a1.mpr am)]
      have sx3 := sx.trans s3
      refine iteT ⟨_, rfl, _, rfl, y, N, wd, rfl, hN2.same sx3, fit.wn, fun n2 H4 s4 a2 => ⟨_, _, rfl, rfl, ?_⟩⟩
      have sx4 := sx3.trans s4
      by_cases an : N.Acc wd
      rotate_left
      have ed : decide ((0 : Int) < n2) = false := decide_eq_false (fun h => an (a2.mp h))
      simp only [ed]
      refine ⟨_, rfl, false, rfl, iteF ⟨_, _, rfl, sx4, nxt (fun h => an h.2), fun _ => ⟨rfl, wd, rfl⟩⟩⟩
      rotate_left
      have ed : decide ((0 : Int) < n2) = true := decide_eq_true (a2.mpr an)
      simp only [ed]
      refine ⟨_, rfl, true, rfl, iteT ?_⟩
      obtain ⟨hb, eb, hbT, hbF⟩ : ∃ hb : Bool, V.bl true = V.bl hb ∧ (hb = true → IsLeast (fun v => M.Acc v ∧ N.Acc v) wd) ∧ (hb = false → ∀ v, (M.Acc v ∧ N.Acc v) → 4 < v.length) :=
        ⟨true, rfl, fun _ => first_least lok.rise (fun v h => sub v h.1) hw ⟨am, an⟩ no, fun h => by cases h⟩
      clear no y67 nxt am an a1 a2 hi hw ed
      rotate_left
      rintro σ H4 ⟨y6, y7, rfl, sx4, no, y67⟩
      obtain ⟨rfl, wd, rfl⟩ := y67 (by
        rw [List.length_map]
        exact List.length_pos_of_mem (textsN_all (t := []) (Nat.zero_le _) (fun c hc => by cases hc)))
      obtain ⟨hb, eb, hbT, hbF⟩ : ∃ hb : Bool, V.bl false = V.bl hb ∧ (hb = true → IsLeast (fun v => M.Acc v ∧ N.Acc v) wd) ∧ (hb = false → ∀ v, (M.Acc v ∧ N.Acc v) → 4 < v.length) :=
        ⟨false, rfl, (fun h => by cases h), fun _ v hv => none_long (L := fun v => M.Acc v ∧ N.Acc v) (fun v h => sub v h.1) (fun u hu hL => by
          obtain ⟨j, hj⟩ := List.mem_iff_getElem?.mp hu
          exact no j u (by rw [List.length_map]; exact (List.getElem?_eq_some_iff.mp hj).1) hj hL) hv⟩
      clear no y67
      all_goals
        have cond : (hb = true → tv = sV wd) ∧ (hb = false → tv = .non ∨ ∃ u, tv = sV u ∧ 4 < u.length) := by
          refine ⟨fun h => ?_, fun h => ?_⟩
          · rcases told with ⟨_, z, _⟩ | ⟨u, e, z⟩
            · exact absurd (hbT h).1 (z wd)
            · rw [e, (z.uniq (hbT h))]
          · rcases told with ⟨e, _⟩ | ⟨u, e, z⟩
            · exact .inl e
            · exact .inr ⟨u, e, hbF h u z.1⟩
        clear hbT hbF
        cases hb
        rotate_left
        have e5 : tv = sV wd := cond.1 rfl
        refine ⟨_, rfl, true, eb, iteT ⟨_, rfl, _, rfl, by rw [e5]; rfl, false, by rw [e5, decide_eq_true rfl]; rfl, iteF ⟨_, rfl, true, eb, iteF (iteF ?_)⟩⟩⟩
        clear cond eb e5
        rotate_left
        refine ⟨_, rfl, false, eb, iteF (iteF ⟨_, rfl, false, eb, iteT ⟨_, rfl, rfl, ?_⟩⟩)⟩
        by_cases e5 : tv = .non
        refine ⟨false, by rw [decide_eq_true e5]; rfl, iteF (iteF ?_)⟩
        clear cond eb e5
        rotate_left
        refine ⟨true, by rw [decide_eq_false e5]; rfl, ?_⟩
        obtain ⟨u, eu, hu⟩ : ∃ u, tv = sV u ∧ 4 < u.length := (cond.2 rfl).resolve_left e5
        have hu4 : u.length ≤ 400 := by
          rcases told with ⟨e, _⟩ | ⟨u', e, z⟩
          · exact absurd e e5
          · have : sS u = sS u' := V.str.inj (eu.symm.trans e)
            have := sS_inj this
            subst this
            exact Nat.le_trans (Nat.le_of_lt (least_short fit.wm fit.wn z)) fit.c3
        refine iteT ⟨_, rfl, sS u, by rw [eu]; rfl, by rw [sS_len]; exact Nat.le_trans hu4 (by decide), _, _, rfl, rfl, false, by rw [sS_len]; exact congrArg V.bl (decide_eq_false (by omega)), iteF ?_⟩
        clear cond eb e5 eu hu hu4
        all_goals
          refine ⟨_, rfl, _, rfl, x, y, M, N, rfl, hM2.same sx4, hN2.same sx4, fit.wm, fit.wn, fit.c1, fit.c2, fun z R H5 s5 hR asm => ⟨z, R, rfl, hR, asm.wf, fun H6 s6 => ⟨fun t0 lst0 => ?_, fun none0 => ?_⟩⟩⟩
          have lst1 := lst0.congr fun v => (asm.acc v).trans acc_prod
          have e5 : tv = sV t0 := by
            rcases told with ⟨_, zz, _⟩ | ⟨u, e, zz⟩
            · exact absurd lst1.1 (zz t0)
            · rw [e, zz.uniq lst1]
          refine ⟨_, rfl, by rw [e5]; rfl, false, by rw [e5, decide_eq_true rfl]; rfl, iteF ⟨_, rfl, rfl, false, by rw [e5]; exact congrArg V.bl (decide_eq_false (fun h => by cases h)), iteF ?_⟩⟩
          rotate_left
          have none1 : ∀ v, ¬ (M.Acc v ∧ N.Acc v) := fun v hv => none0 v ((asm.acc v).mpr (acc_prod.mpr hv))
          obtain ⟨e5, pa, lv, ps, ht1, hpa1, hlv1, pnd, pin, pap⟩ : tv = .non ∧ ∃ (pa : Addr) (lv : List V) (ps : List Pr), H1 t = some (.tup [.str "apart", .ref pa]) ∧ H1 pa = some (.lst lv) ∧ Paired (PrAt H1) lv ps ∧ ps.Nodup ∧ (∀ p ∈ ps, p.1 < M.many ∧ p.2 < N.many) ∧ Paper M N ps := by
            rcases told with ⟨e, _, r⟩ | ⟨u, e, zz⟩
            · exact ⟨e, r⟩
            · exact absurd zz.1 (none1 u)
          have sT := ((s2.trans sx4).trans s5).trans s6
          refine ⟨_, rfl, by rw [e5]; rfl, false, by rw [e5, decide_eq_true rfl]; rfl, iteF ⟨_, rfl, rfl, true, by rw [e5]; exact congrArg V.bl (decide_eq_true rfl), iteT ⟨_, rfl, _, rfl, _, rfl, t, _, 1, .ref pa, rfl, rfl, .inl (.inl (sT _ _ ht1)), atI_nat (j := 1) rfl, ?_⟩⟩⟩
          have plen : ps.length ≤ 1000 := by
            have z := nodup_sub pnd (l' := prodP (List.range M.many) (List.range N.many)) fun p hp => mem_prodP.mpr ⟨List.mem_range.mpr (pin p hp).1, List.mem_range.mpr (pin p hp).2⟩
            rw [prodP_len, List.length_range, List.length_range] at z
            exact Nat.le_trans z (Nat.le_trans fit.c3 (by decide))
          refine ⟨x, y, pa, M, N, lv, ps, rfl, hM1.same sT, hN1.same sT, fit.wm, fit.wn, sT _ _ hpa1, paired_mono hlv1 fun _ _ r => r.same sT, pin, pnd, plen, fun kb H7 s7 hkb => ?_⟩
          have ek : kb = true := hkb.mpr pap
          subst ek
          have sZ := sT.trans s7
          refine q k H7 (fun b o nb e nt => sZ _ _ (e1 _ _ e nt)) (f1.same sZ) (by omega) (fun p hp => (tab1 p hp).ext sZ)
          have sT := ((s2.trans sx4).trans s5).trans s6
          refine ⟨_, rfl, _, rfl, _, rfl, d, L, x, y, k, M, N, rfl, f1.same sT, by omega, hM1.same sT, hN1.same sT, fit.wm, fit.wn, fit.c3, fun a rs k' H7 sb7 f7 hk7 ha7 hl7 all7 => ⟨a, rfl, ⟨_, .inl (.inl ha7)⟩, fun D hD => ?_⟩⟩
          have hM7 := (hM1.same sT).sameB sb7 (f1.same sT)
          have hN7 := (hN1.same sT).sameB sb7 (f1.same sT)
          refine lc_map hD (β := Bool) (fun _ v b => v = .bl b) (fun _ _ _ _ _ z => z) (walk_list (xs := rs)) (fun _ sl => .inl (.inl (sl _ _ ha7))) (fun i => List.replicate i false) rfl (by omega) (fun i yv Hc H' Post Skip hi sc hy k1 k2 => ?_) (fun H8 acc s8 ha8 hp8 => ?_)
          obtain ⟨rfl, hy⟩ := hy
          obtain ⟨pa, lv, ps, rfl, h2, h3, h4, h5, h6⟩ := (all7 yv (List.mem_of_getElem? hy)).ex
          refine ⟨rfl, _, rfl, _, rfl, _, rfl, x, y, pa, M, N, lv, ps, rfl, hM7.same sc, hN7.same sc, fit.wm, fit.wn, sc _ _ h2, paired_mono h3 fun _ _ r => r.same sc, h4, h5, Nat.le_trans h6 (by decide), fun kb H9 s9 hkb => ?_⟩
          have ek : kb = false := by
            cases kb with
            | false => rfl
            | true => exact absurd lst1.1 ((hkb.mp rfl).none t0)
          subst ek
          refine k1 _ _ false s9 rfl ?_
          rw [List.replicate_succ']
          rw [bls_of hp8] at ha8
          have fl : (((List.replicate rs.length false).map V.bl)).all flatV = true := List.all_eq_true.mpr fun v hv => by
            obtain ⟨b, _, rfl⟩ := List.mem_map.mp hv
            rfl
          have nin : inV (V.bl true) ((List.replicate rs.length false).map V.bl) = false := by
            unfold inV
            refine List.any_eq_false.mpr fun v hv => ?_
            obtain ⟨b, hb, rfl⟩ := List.mem_map.mp hv
            rw [(List.mem_replicate.mp hb).2]
            decide
          refine ⟨D, _, rfl, .inl (.inl (.inl ha8)), rfl, fl, ?_⟩
          rw [nin]
          have nPd : ∀ p ∈ ([(Pt, fun _ _ => qnA)] : List NTab), TabN H8 p.1 p.2 := fun p hp => by
            obtain ⟨ps, h1, h2, h3⟩ := (tab1 p hp).ext sT
            refine ⟨ps, s8 _ _ (sb7.keepN (f1.same sT) h1 (fun _ z => by cases z)), h2, fun pos cv hc => ?_⟩
            obtain ⟨c, z1, z2⟩ := h3 pos cv hc
            exact ⟨c, z1, s8 _ _ (sb7.keepN (f1.same sT) z2 (fun _ z => by cases z))⟩
          exact q k' H8 (fun b o nb e nt => s8 _ _ (sb7 _ _ nb (sT _ _ (e1 _ _ e nt)))) (f7.same s8) (by omega) nPd
end
end KM
/-! text KP8 -/
set_option Elab.async false
set_option linter.all false
set_option maxRecDepth 100000
set_option maxHeartbeats 4000000
/-! The sizes and signs of the law's machines. -/
namespace KM
/-- a small machine over some signs -/
structure Sm (l : List Nat) (b n st : Nat) (M : Mch) : Prop where
  wf : M.WF
  bl : M.begins.length ≤ b
  el : M.ends.length ≤ b
  ml : M.many ≤ n
  sl : M.steps.length ≤ st
  sg : ∀ s ∈ M.steps, ∀ c ∈ s.2.1, c ∈ l
theorem path_sub {α : Type} {st : List (α × List Nat × α)} {l : List Nat} (h : ∀ s ∈ st, ∀ c ∈ s.2.1, c ∈ l) {p q : α} {u : List Nat} (pa : Path st p u q) : ∀ c ∈ u, c ∈ l := by
  induction pa with
  | nil => intro c hc; cases hc
  | cons h1 h2 _ ih =>
    intro c hc
    rcases List.mem_cons.mp hc with rfl | hc
    · exact h _ h1 _ h2
    · exact ih c hc
theorem Sm.sub {l : List Nat} {b n st : Nat} {M : Mch} (s : Sm l b n st M) (u : List Nat) (h : M.Acc u) : ∀ c ∈ u, c ∈ l := by
  obtain ⟨p, _, q, _, pa⟩ := h
  exact path_sub s.sg pa
theorem Sm.fits {l l' : List Nat} {M N : Mch} (s : Sm l 10 10 20 M) (t : Sm l' 10 10 20 N) : Fits M N := by
  have a := Nat.mul_le_mul s.bl t.bl
  have b := Nat.mul_le_mul s.el t.el
  have c := Nat.mul_le_mul s.sl t.sl
  have d := Nat.mul_le_mul s.ml t.ml
  exact ⟨s.wf, t.wf, by omega, by omega, by omega⟩
theorem Sm.wide {l l' : List Nat} {b n st b' n' st' : Nat} {M : Mch} (s : Sm l b n st M) (h1 : b ≤ b') (h2 : n ≤ n') (h3 : st ≤ st') (h : ∀ c ∈ l, c ∈ l') : Sm l' b' n' st' M :=
  ⟨s.wf, Nat.le_trans s.bl h1, Nat.le_trans s.el h1, Nat.le_trans s.ml h2, Nat.le_trans s.sl h3, fun x hx c hc => h c (s.sg x hx c hc)⟩
theorem sm_raw {l : List Nat} {M : Mch} (h : MOk l M) : Sm l 5 5 16 M :=
  ⟨h.wf, Nat.le_trans (rise_len h.wf.bRise h.wf.bLt) h.many, Nat.le_trans (rise_len h.wf.eRise h.wf.eLt) h.many, h.many, h.st, h.sg⟩
theorem sm_txt {l t : List Nat} (ok : ∀ c ∈ t, okSign c) (sub : ∀ c ∈ t, c ∈ l) (hl : t.length ≤ 4) : Sm l 5 5 4 (txM t) := by
  refine ⟨txM_wf ok (by omega), by show 1 ≤ 5; decide, by show 1 ≤ 5; decide, by show t.length + 1 ≤ 5; omega, ?_, fun s hs c hc => ?_⟩
  · show (txSteps t).length ≤ 4
    unfold txSteps
    rw [List.length_map, List.length_range]
    exact hl
  · obtain ⟨i, hi, rfl⟩ := List.mem_map.mp (show s ∈ txSteps t from hs)
    have hi := List.mem_range.mp hi
    rw [List.mem_singleton.mp hc, List.getD_eq_getElem?_getD, List.getElem?_eq_getElem hi]
    exact sub _ (List.getElem_mem hi)
theorem fl_two {β : Type} (f : Nat → Mch → List β) (A B : Mch) : fl f [A, B] [A, B].length = f 0 A ++ f 1 B := by
  show fl f [A, B] 2 = _
  rw [fl_succ (show ([A, B] : List Mch)[1]? = some B from rfl), fl_succ (show ([A, B] : List Mch)[0]? = some A from rfl)]
  rfl
theorem two_lens {l : List Nat} {n m : Nat} {A B : Mch} (a : Sm l 5 5 n A) (b : Sm l 5 5 m B) (h : n + m ≤ 20) :
    (fl fB [A, B] [A, B].length).length ≤ 10 ∧ (fl fE [A, B] [A, B].length).length ≤ 10 ∧ (fl fS [A, B] [A, B].length).length ≤ 20 := by
  rw [fl_two, fl_two, fl_two, List.length_append, List.length_append, List.length_append]
  unfold fB fE fS
  simp only [List.length_map]
  have := a.bl
  have := b.bl
  have := a.el
  have := b.el
  have := a.sl
  have := b.sl
  omega
theorem sm_either {l : List Nat} {n m : Nat} {A B E : Mch} (a : Sm l 5 5 n A) (b : Sm l 5 5 m B) (h : n + m ≤ 20) (asm : Asm (fl fB [A, B] [A, B].length) (fl fS [A, B] [A, B].length) (fl fE [A, B] [A, B].length) E) : Sm l 10 10 20 E := by
  obtain ⟨l1, l2, l3⟩ := two_lens a b h
  refine ⟨asm.wf, Nat.le_trans asm.bl l1, Nat.le_trans asm.el l2, ?_, Nat.le_trans asm.sl l3, fun s hs c hc => ?_⟩
  · have z := asm.ml ((List.range A.many).map (fun p => (0, p)) ++ (List.range B.many).map (fun p => (1, p))) (fun p hp => ?_) fun s hs => ?_
    · rw [List.length_append, List.length_map, List.length_map, List.length_range, List.length_range] at z
      have := a.ml
      have := b.ml
      omega
    · rw [fl_two] at hp
      rcases List.mem_append.mp hp with hp | hp
      · obtain ⟨q, hq, rfl⟩ := List.mem_map.mp hp
        exact List.mem_append_left _ (List.mem_map.mpr ⟨q, List.mem_range.mpr (a.wf.bLt q hq), rfl⟩)
      · obtain ⟨q, hq, rfl⟩ := List.mem_map.mp hp
        exact List.mem_append_right _ (List.mem_map.mpr ⟨q, List.mem_range.mpr (b.wf.bLt q hq), rfl⟩)
    · rw [fl_two] at hs
      rcases List.mem_append.mp hs with hs | hs
      · obtain ⟨q, hq, rfl⟩ := List.mem_map.mp hs
        exact List.mem_append_left _ (List.mem_map.mpr ⟨_, List.mem_range.mpr (a.wf.st.each q hq).l2, rfl⟩)
      · obtain ⟨q, hq, rfl⟩ := List.mem_map.mp hs
        exact List.mem_append_right _ (List.mem_map.mpr ⟨_, List.mem_range.mpr (b.wf.st.each q hq).l2, rfl⟩)
  · obtain ⟨s', hs', e⟩ := asm.sg s hs
    rw [← e] at hc
    rw [fl_two] at hs'
    rcases List.mem_append.mp hs' with hs' | hs'
    · obtain ⟨q, hq, rfl⟩ := List.mem_map.mp hs'
      exact a.sg q hq c hc
    · obtain ⟨q, hq, rfl⟩ := List.mem_map.mp hs'
      exact b.sg q hq c hc
theorem SgOk.sub {l m : List Nat} (h : SgOk l) (s : m.Sublist l) (n : m ≠ []) : SgOk m := ⟨n, h.rise.sublist s, fun c hc => h.ok c (s.subset hc)⟩
end KM
/-! text KW34 -/
set_option Elab.async false
set_option linter.all false
set_option maxRecDepth 100000
set_option maxHeartbeats 4000000
namespace KM
open PySem PySem.Spec PyProof.Rows L2 NdefX LamX
/-- all but the feed's dict and the code tables stands -/
def StepD (d : Addr) (H H' : Hp) : Prop := ∀ b o, b ≠ d → H b = some o → (∀ t, o ≠ .tbl t) → H' b = some o
theorem StepD.of {d : Addr} {H H' : Hp} (s : Same H H') : StepD d H H' := fun b o _ h _ => s b o h
theorem StepD.trans {d : Addr} {H H1 H2 : Hp} (a : StepD d H H1) (b : StepD d H1 H2) : StepD d H H2 := fun c o n h t => b c o n (a c o n h t) t
theorem StepD.keep {d L : Addr} {H H' : Hp} {k : Nat} (s : StepD d H H') (f : FeedAt H d L k) {b : Addr} {o : HO} (h : H b = some o) (n : ∀ kvs, o ≠ .dK kvs) (t : ∀ ps, o ≠ .tbl ps) : H' b = some o := s _ _ (SameB.ndict f h n) h t
theorem MachAt.stepD {C d L : Addr} {H H' : Hp} {a : Addr} {M : Mch} {k : Nat} (e : StepD d H H') (f : FeedAt H d L k) (h : MachAt C H a M) : MachAt C H' a M := by
  obtain ⟨dx, tb, ts, te, lo, sv, las, h1, h2, h3, h4, h5, h6, h7, h8⟩ := h.ex
  have tp : TupS H H' := fun b xs z => e.keep f z (fun _ q => by cases q) (fun _ q => by cases q)
  refine ⟨dx, tb, ts, te, lo, sv, las, e.keep f h1 (fun _ q => by cases q) (fun _ q => by cases q), tp _ _ h2, tp _ _ h3, paired_mono h4 fun _ _ r => Tup.mono tp r, tp _ _ h5, e.keep f h6 (fun _ q => by cases q) (fun _ q => by cases q), h7, fun p la hp => ?_⟩
  obtain ⟨ov, q1, q2⟩ := h8 p la hp
  exact ⟨ov, e.keep f q1 (fun _ q => by cases q) (fun _ q => by cases q), paired_mono q2 fun _ _ r => Tup.mono tp r⟩
/-- a pair of two small machines -/
def TwoAt (C : Addr) (l : List Nat) (H : Hp) (v : V) : Prop := ∃ t x y M N l', v = .ref t ∧ H t = some (.tup [.ref x, .ref y]) ∧ MachAt C H x M ∧ MachAt C H y N ∧ Sm l 10 10 20 M ∧ Sm l' 10 10 20 N
theorem TwoAt.stepD {C d L : Addr} {l : List Nat} {H H' : Hp} {v : V} {k : Nat} (e : StepD d H H') (f : FeedAt H d L k) (h : TwoAt C l H v) : TwoAt C l H' v := by
  obtain ⟨t, x, y, M, N, l', h1, h2, h3, h4, h5, h6⟩ := h
  exact ⟨t, x, y, M, N, l', h1, e.keep f h2 (fun _ q => by cases q) (fun _ q => by cases q), h3.stepD e f, h4.stepD e f, h5, h6⟩
theorem TabsN.updL {T : List NTab} {H : Hp} {D : Addr} {xs : List V} {o : HO} (h : H D = some (.lst xs)) (t : TabsN T H) : TabsN T (upd H D o) := fun p hp => by
  obtain ⟨ps, h1, h2, h3⟩ := t p hp
  refine ⟨ps, by rw [upd_ne (ne_of h1 h (fun z => by cases z))]; exact h1, h2, fun pos cv hc => ?_⟩
  obtain ⟨c, e1, e2⟩ := h3 pos cv hc
  exact ⟨c, e1, by rw [upd_ne (ne_of e2 h (fun z => by cases z))]; exact e2⟩
theorem TabsN.sameB {T : List NTab} {d L : Addr} {H H' : Hp} {k : Nat} (s : SameB d H H') (f : FeedAt H d L k) (t : TabsN T H) : TabsN T H' := fun p hp => by
  obtain ⟨ps, h1, h2, h3⟩ := t p hp
  refine ⟨ps, s.keepN f h1 (fun _ z => by cases z), h2, fun pos cv hc => ?_⟩
  obtain ⟨c, e1, e2⟩ := h3 pos cv hc
  exact ⟨c, e1, s.keepN f e2 (fun _ z => by cases z)⟩
theorem cut_take (l : List Nat) (n : Nat) : V.str (cutS (sS l) none (some (n : Int))) = sV (l.take n) := by
  unfold cutS sV sS
  rw [HT.sIx_none, HT.sIx_nat]
  show V.str ⟨((l.toArray.toList.drop 0).take (min n l.toArray.size - 0)).toArray⟩ = _
  rw [List.drop_zero, Nat.sub_zero, List.size_toArray]
  show V.str ⟨(List.take (min n l.length) l).toArray⟩ = _
  rw [← List.take_eq_take_min]
theorem cut_drop (l : List Nat) (n : Nat) (h : n ≤ l.length) : V.str (cutS (sS l) (some (n : Int)) none) = sV (l.drop n) := by
  unfold cutS sV sS
  rw [HT.sIx_none, HT.sIx_nat]
  show V.str ⟨((l.toArray.toList.drop (min n l.toArray.size)).take (l.toArray.size - min n l.toArray.size)).toArray⟩ = _
  rw [List.size_toArray, Nat.min_eq_left h, List.take_of_length_le (by simp)]
section
variable {P : Program} {w : World} {K : PySem.W.Frag} {mg : Str → Option Value} {base : Heap}
def spLaw (K : PySem.W.Frag) (Pt : Addr) : Sp := fun vs H Q _ => ∃ (a : Addr) (ns : List Int), vs = [.ref a] ∧ SqL K H a (ns.map V.int) ∧ TabsN [(Pt, fun _ _ => qnA)] H ∧ ∀ H', Q (.bl true) H'
abbrev nmLaw : List Str := ["_law_script", "_law_feed_here", "_law_signs_here", "_law_one", "_law_other", "_law_word", "_law_pairs", "_law_place", "_law_first", "_law_last"]
theorem scLaw : FnScope nmLaw ["_law_script"] (defScope sLaw) := ⟨rfl, rfl, rfl, by decide +kernel, rfl, by decide +kernel, by decide +kernel⟩
theorem ok_law {C Pt f fi f1 f2 f3 f4 f5 f6 f7 f8 : Addr} {fd fd1 fd2 fd3 fd4 fd5 fd6 fd7 fd8 : FuncData} (F : FnP K "law" "law" sLaw f fd) (B : Bi mg) (T : MC K mg C fi)
    (F1 : FnP K "_law_feed" "_law_feed" sFeed f1 fd1) (g1 : mg "_law_feed" = some (.ref f1))
    (F2 : FnP K "_law_signs" "_law_signs" sSigns f2 fd2) (g2 : mg "_law_signs" = some (.ref f2)) (O2 : FnOk P w K mg base CX0 2 f2 fd2 ["_law_feed_here", "_law_many"] spSigns)
    (F3 : FnP K "_law_near_clear" "_law_near_clear" sNear f3 fd3) (g3 : mg "_law_near_clear" = some (.ref f3)) (O3 : FnOk P w K mg base CX0 4 f3 fd3 ["_law_feed_here", "_law_signs_here"] spNear)
    (F4 : FnP K "_law_made" "_law_made" sMade f4 fd4) (g4 : mg "_law_made" = some (.ref f4)) (O4 : FnOk P w K mg base CX0 7 f4 fd4 ["_law_raw_here"] (spMade C))
    (F5 : FnP K "_law_draw" "_law_draw" sDraw f5 fd5) (g5 : mg "_law_draw" = some (.ref f5))
    (F6 : FnP K "text_machine" "text_machine" sTextMachine f6 fd6) (g6 : mg "text_machine" = some (.ref f6)) (O6 : FnOk P w K mg base CX0 7 f6 fd6 ["text"] (spTextMachine C))
    (F7 : FnP K "either" "either" sEither f7 fd7) (g7 : mg "either" = some (.ref f7)) (O7 : FnOk P w K mg base CX0 8 f7 fd7 ["machines"] (spEither C))
    (F8 : FnP K "_law_right" "_law_right" sRight f8 fd8) (g8 : mg "_law_right" = some (.ref f8)) (O8 : FnOk P w K mg base CX0 9 f8 fd8 ["_law_feed_here", "_law_one", "_law_other", "_law_signs_here"] (spRight C Pt)) :
    FnOk P w K mg base CX0 10 f fd ["_law_script"] (spLaw K Pt) := by
  have O1 : FnOk P w K mg base CX0 1 f1 fd1 ["_law_script"] (spFeed K) := ok_feed F1 B
  have O5 : FnOk P w K mg base CX0 1 f5 fd5 ["_law_feed_here", "_law_many"] spDraw := ok_draw F5 B
  have b1 : Binds K fd1 ["_law_script"] [] := F1.bindsN fun _ _ _ _ _ _ us hl => match us, hl with | [_], _ => rfl
  have b2 : Binds K fd2 ["_law_feed_here", "_law_many"] [] := F2.bindsN fun _ _ _ _ _ _ us hl => match us, hl with | [_, _], _ => rfl
  have b3 : Binds K fd3 ["_law_feed_here", "_law_signs_here"] [] := F3.bindsN fun _ _ _ _ _ _ us hl => match us, hl with | [_, _], _ => rfl
  have b4 : Binds K fd4 ["_law_raw_here"] [] := F4.bindsN fun _ _ _ _ _ _ us hl => match us, hl with | [_], _ => rfl
  have b5 : Binds K fd5 ["_law_feed_here", "_law_many"] [] := F5.bindsN fun _ _ _ _ _ _ us hl => match us, hl with | [_, _], _ => rfl
  have b6 : Binds K fd6 ["text"] [] := F6.bindsN fun _ _ _ _ _ _ us hl => match us, hl with | [_], _ => rfl
  have b7 : Binds K fd7 ["machines"] [] := F7.bindsN fun _ _ _ _ _ _ us hl => match us, hl with | [_], _ => rfl
  have b8 : Binds K fd8 ["_law_feed_here", "_law_one", "_law_other", "_law_signs_here"] [] := F8.bindsN fun _ _ _ _ _ _ us hl => match us, hl with | [_, _, _, _], _ => rfl
  refine F.okP scLaw (fun vs H Q E h => ?_) (fun cdv A outer s H vs Q E hr h => ?_)
  · obtain ⟨a, ns, rfl, _⟩ := h
    rfl
  · obtain ⟨a, ns, rfl, ha, htab, q⟩ := h
    have hr1 : Room 1 _ := hr.mono (by decide)
    have hr2 : Room 2 _ := hr.mono (by decide)
    have hr4 : Room 4 _ := hr.mono (by decide)
    have hr7 : Room 7 _ := hr.mono (by decide)
    have hr8 : Room 8 _ := hr.mono (by decide)
    refine ⟨_, pss_cons (ps_set (i := 1) scLaw.nd rfl (.inr rfl) (pe_call O1 hr1 (by rfl) g1 F1.kp b1 .nil pass0 (pa_cons (pv 0) pa_nil)))
      (pss_cons (ps_set (i := 2) scLaw.nd rfl (.inr rfl) (pe_call O2 hr2 (by rfl) g2 F2.kp b2 .nil pass0 (pa_cons (pv 1) (pa_cons pe_int pa_nil))))
      (pss_cons (ps_set (i := 3) scLaw.nd rfl (.inl rfl) (pe_call O4 hr7 (by rfl) g4 F4.kp b4 .nil pass0 (pa_cons (pe_call O3 hr4 (by rfl) g3 F3.kp b3 .nil pass0 (pa_cons (pv 1) (pa_cons (pe_slice sl_str (pv 2) po_none (po_some pe_int)) pa_nil))) pa_nil)))
      (pss_cons (ps_set (i := 4) scLaw.nd rfl (.inl rfl) (pe_call O4 hr7 (by rfl) g4 F4.kp b4 .nil pass0 (pa_cons (pe_call O3 hr4 (by rfl) g3 F3.kp b3 .nil pass0 (pa_cons (pv 1) (pa_cons (pe_slice sl_str (pv 2) (po_some (pe_call O5 hr1 (by rfl) g5 F5.kp b5 .nil pass0 (pa_cons (pv 1) (pa_cons pe_int pa_nil)))) po_none) pa_nil))) pa_nil)))
      (pss_cons (ps_set (i := 5) scLaw.nd rfl (.inl rfl) (pe_call O6 hr7 (by rfl) g6 F6.kp b6 .nil pass0 (pa_cons (pe_join pe_str (pe_lc (own := [("_law_place", 7)]) (g := gName 7) (tt := tYes) rfl scLaw.nd (pi_range1 rfl B.range (pa_cons (pe_call O5 hr1 (by rfl) g5 F5.kp b5 .nil pass0 (pa_cons (pv 1) (pa_cons pe_int pa_nil))) pa_nil))
          (blkOk_by (N := nmLaw) (sc := defScope sLaw) (by decide +kernel)) (fun _ _ _ _ _ => pg_name (i := 7) scLaw.nd rfl (.inl rfl)) (fun _ _ _ _ _ => pts_nil)
          (fun _ _ _ _ _ => pe_ix ix_str (pv 2) (pe_call O5 hr1 (by rfl) g5 F5.kp b5 .nil pass0 (pa_cons (pv 1) (pa_cons pe_int pa_nil))) (fun _ _ => rfl)))) pa_nil)))
      (pss_cons (ps_set (i := 6) scLaw.nd rfl (.inl rfl) (pe_lst (pa_cons (pe_tup (pa_cons (pv 3) (pa_cons (pv 4) pa_nil)))
        (pa_cons (pe_tup (pa_cons (pe_call O7 hr8 (by rfl) g7 F7.kp b7 .nil pass0 (pa_cons (pe_lst (pa_cons (pv 3) (pa_cons (pv 5) pa_nil))) pa_nil)) (pa_cons (pe_call O7 hr8 (by rfl) g7 F7.kp b7 .nil pass0 (pa_cons (pe_lst (pa_cons (pv 4) (pa_cons (pv 5) pa_nil))) pa_nil)) pa_nil)))
        (pa_cons (pe_tup (pa_cons (pv 3) (pa_cons (pv 5) pa_nil)))
        (pa_cons (pe_tup (pa_cons (pe_call O7 hr8 (by rfl) g7 F7.kp b7 .nil pass0 (pa_cons (pe_lst (pa_cons (pv 5) (pa_cons (pv 3) pa_nil))) pa_nil)) (pa_cons (pv 4) pa_nil))) pa_nil))))))
      (pss_one (ps_ret (pe_cmpR op_notIn_seq pe_bl (pe_lc (own := [("_law_first", 8), ("_law_last", 9)]) (g := gTup K 2 (gCons (gName 8) (gCons (gName 9) gNil))) (tt := tYes) rfl scLaw.nd (pi_list (pv 6))
        (blkOk_by (N := nmLaw) (sc := defScope sLaw) (by decide +kernel)) (fun _ _ _ _ _ => pg_tup rfl (pgs_cons (pg_name (i := 8) scLaw.nd rfl (.inl rfl)) (pgs_cons (pg_name (i := 9) scLaw.nd rfl (.inl rfl)) pgs_nil))) (fun _ _ _ _ _ => pts_nil)
        (fun _ _ _ _ _ => pe_call O8 hr (by rfl) g8 F8.kp b8 .nil pass0 (pa_cons (pv 1) (pa_cons (pv 8) (pa_cons (pv 9) (pa_cons (pv 2) pa_nil)))))) rfl)))))))), ?_⟩
    refine ⟨_, rfl, a, ns, rfl, ha, fun d L H1 s1 hd f1 => ?_⟩
    have tab1 := htab.ext s1
    refine ⟨_, rfl, d, L, 0, rfl, f1, by decide, fun l H2 s2 f2 lok ll => ?_⟩
    have tab2 := TabsN.sameB s2 f1 tab1
    have lS : (sS l).length ≤ sizeLine := by rw [sS_len, ll]; decide
    have sub2 : SgOk (l.take 2) := lok.sub (List.take_sublist _ _) fun e => by
      have z := congrArg List.length e
      rw [List.length_take, ll] at z
      cases z
    -- the first machine
    refine ⟨_, rfl, _, rfl, 2, rfl, sS l, rfl, lS, ?_⟩
    refine ⟨d, L, _, l.take 2, congrArg (fun z => [V.ref d, z]) (cut_take l 2), f2, by decide, sub2, by rw [List.length_take]; omega, fun v1 M1 k3 H3 s3 f3 hk3 raw1 mok1 => ?_⟩
    have tab3 := TabsN.sameB s3 f2 tab2
    refine ⟨v1, M1, rfl, raw1, mok1.wf, fun x H4 s4 hM4 => ?_⟩
    have tab4 := tab3.ext s4
    have f4 := f3.same s4
    have sm1 : Sm l 5 5 16 M1 := (sm_raw mok1).wide (Nat.le_refl _) (Nat.le_refl _) (Nat.le_refl _) fun c hc => List.mem_of_mem_take hc
    clear raw1 mok1 s3 f3 s4 tab3 s2 f2 tab2 s1 f1 tab1
    -- the second
    refine ⟨_, rfl, _, rfl, _, rfl, d, L, 3, k3, rfl, by decide, by decide, f4, by omega, fun n H5 hn s5 f5 => ⟨_, rfl, sS l, rfl, lS, ?_⟩⟩
    have tab5 := TabsN.sameB s5 f4 tab4
    have hM5 := hM4.sameB s5 f4
    have sub3 : SgOk (l.drop n) := lok.sub (List.drop_sublist _ _) fun e => by
      have z := congrArg List.length e
      rw [List.length_drop, ll, List.length_nil] at z
      omega
    refine ⟨d, L, _, l.drop n, congrArg (fun z => [V.ref d, z]) (cut_drop l n (by omega)), f5, by omega, sub3, by rw [List.length_drop]; omega, fun v2 M2 k6 H6 s6 f6 hk6 raw2 mok2 => ?_⟩
    have tab6 := TabsN.sameB s6 f5 tab5
    have hM6 := hM5.sameB s6 f5
    refine ⟨v2, M2, rfl, raw2, mok2.wf, fun y H7 s7 hN7 => ?_⟩
    have tab7 := tab6.ext s7
    have f7 := f6.same s7
    have hM7 := hM6.same s7
    have sm2 : Sm l 5 5 16 M2 := (sm_raw mok2).wide (Nat.le_refl _) (Nat.le_refl _) (Nat.le_refl _) fun c hc => List.mem_of_mem_drop hc
    clear raw2 mok2 s5 f5 s6 f6 s7 tab4 tab5 tab6 hM4 hM5 hM6
    -- the text's machine
    refine ⟨⟨_, rfl⟩, _, rfl, d, L, 5, k6, rfl, by decide, by decide, f7, by omega, fun m H8 hm s8 f8 => ⟨(m : Int), rfl, by omega, by omega, fun D hD => ?_⟩⟩
    have tab8 := TabsN.sameB s8 f7 tab7
    have hM8 := hM7.sameB s8 f7
    have hN8 := hN7.sameB s8 f7
    refine lc_mapF (β := Nat) (c := 1) hD f8 (fun _ v b => v = cV b) (fun _ _ _ _ _ z => z) (walk_range (lo := 0) (n := m)) (fun _ _ => trivial) (fun i bs => bs.length = i ∧ ∀ c ∈ bs, c ∈ l) ⟨rfl, fun c hc => by cases hc⟩ (Nat.lt_trans hm (by decide))
      (fun i yv Hc H' bs k Post Skip hi sb f hk ok hy k1 k2 => ?_) (fun H9 acc bs k9 s9 f9 hk9 ha9 hp9 ok9 => ?_)
    · obtain ⟨rfl, rfl⟩ := hy
      refine ⟨rfl, _, rfl, _, rfl, d, L, 3, k, rfl, by decide, by decide, f, by omega, fun j Hj hj sj fj => ?_⟩
      have hc : l[j]? = some (l[j]'(by omega)) := List.getElem?_eq_getElem (by omega)
      refine ⟨sS l, _, l[j]'(by omega), rfl, rfl, lS, atI_nat (by rw [sS_cps]; exact hc), k1 _ _ _ _ sj fj (Nat.le_refl _) rfl ⟨by rw [List.length_append, ok.1]; rfl, fun c hc => ?_⟩⟩
      rcases List.mem_append.mp hc with hc | hc
      · exact ok.2 c hc
      · rw [List.mem_singleton.mp hc]
        exact List.getElem_mem _
    obtain ⟨bl, bsub⟩ := ok9
    have tab9 := TabsN.sameB s9 f8 tab8
    have hM9 := hM8.sameB s9 f8
    have hN9 := hN8.sameB s9 f8
    rw [paired_vals hp9] at ha9
    refine ⟨_, D, bs.map fun c => (⟨#[c]⟩ : Str), rfl, rfl, .inl (.inl (.inl (by rw [List.map_map]; exact ha9))), ?_, ?_⟩
    · rw [len_signs, List.length_map]
      show bs.length + bs.length * 0 ≤ 16777216
      omega
    have ej : Txt.join ("" : Str) (bs.map fun c => (⟨#[c]⟩ : Str)) = sS bs := join_signs bs
    rw [show Txt.join _ (bs.map fun c => (⟨#[c]⟩ : Str)) = sS bs from ej]
    have bok : ∀ c ∈ bs, okSign c := fun c hc => lok.ok c (bsub c hc)
    refine ⟨bs, rfl, bok, by omega, fun wd HA sA hW => ?_⟩
    have smW : Sm l 5 5 4 (txM bs) := sm_txt bok bsub (by omega)
    obtain ⟨W, eW⟩ : ∃ W, txM bs = W := ⟨_, rfl⟩
    rw [eW] at hW smW
    have tabA := tab9.ext sA
    have fA := f9.same sA
    have hMA := hM9.same sA
    have hNA := hN9.same sA
    clear s8 f8 tab8 hM8 hN8 tab7 f7 hM7 hN7 ha9 hp9 s9 f9 tab9 hM9 hN9 sA ej eW bok
    -- the pairs
    have l2 : (2 : Nat) ≤ sizeLine := by decide
    refine ⟨_, rfl, _, rfl, l2, fun t1 ht1 => ?_⟩
    have S1 := same_upd ht1 (o := .tup [.ref x, .ref y])
    have g1 : upd HA t1 (.tup [.ref x, .ref y]) t1 = some (.tup [.ref x, .ref y]) := upd_same
    obtain ⟨HB, eB⟩ : ∃ HB, upd HA t1 (.tup [.ref x, .ref y]) = HB := ⟨_, rfl⟩
    rw [eB] at S1 g1 ⊢
    have tabB := tabA.ext S1
    have fB_ := fA.same S1
    have hMB := hMA.same S1
    have hNB := hNA.same S1
    have hWB := hW.same S1
    clear eB S1 ht1 tabA fA hMA hNA hW
    have wfs : ∀ {A B : Mch}, A.WF → B.WF → ∀ M ∈ [A, B], M.WF := fun {A B} a b M hm => by
      rcases List.mem_cons.mp hm with rfl | hm
      · exact a
      · rw [List.mem_singleton.mp hm]
        exact b
    refine ⟨_, rfl, _, rfl, l2, fun p1 hp1 => ?_⟩
    have Sp := same_upd hp1 (o := .lst [.ref x, .ref wd])
    obtain ⟨b1, b2, b3⟩ := two_lens sm1 smW (by decide)
    refine ⟨p1, _, [M1, W], rfl, upd_same, .cons ⟨x, rfl, hMB.same Sp⟩ (.cons ⟨wd, rfl, hWB.same Sp⟩ .nil), wfs sm1.wf smW.wf, by omega, by omega, fun e1 E1 HC sC hE1 asm1 => ?_⟩
    have SC := Sp.trans sC
    have smE1 := sm_either sm1 smW (by decide) asm1
    clear asm1
    have g1C := SC _ _ g1
    have tabC := tabB.ext SC
    have fC := fB_.same SC
    have hMC := hMB.same SC
    have hNC := hNB.same SC
    have hWC := hWB.same SC
    clear SC Sp sC hp1 b1 b2 b3 tabB fB_ hMB hNB hWB g1
    refine ⟨_, rfl, _, rfl, l2, fun p2 hp2 => ?_⟩
    have Sp := same_upd hp2 (o := .lst [.ref y, .ref wd])
    obtain ⟨b1, b2, b3⟩ := two_lens sm2 smW (by decide)
    refine ⟨p2, _, [M2, W], rfl, upd_same, .cons ⟨y, rfl, hNC.same Sp⟩ (.cons ⟨wd, rfl, hWC.same Sp⟩ .nil), wfs sm2.wf smW.wf, by omega, by omega, fun e2 E2 HD sD hE2 asm2 => ⟨l2, fun t2 ht2 => ?_⟩⟩
    have SD := (Sp.trans sD).trans (same_upd ht2 (o := .tup [.ref e1, .ref e2]))
    have smE2 := sm_either sm2 smW (by decide) asm2
    have hE2 := hE2.same (same_upd ht2 (o := .tup [.ref e1, .ref e2]))
    have g2 : upd HD t2 (.tup [.ref e1, .ref e2]) t2 = some (.tup [.ref e1, .ref e2]) := upd_same
    obtain ⟨HE, eE⟩ : ∃ HE, upd HD t2 (.tup [.ref e1, .ref e2]) = HE := ⟨_, rfl⟩
    rw [eE] at SD hE2 g2 ⊢
    have g1E := SD _ _ g1C
    have tabE := tabC.ext SD
    have fE_ := fC.same SD
    have hME := hMC.same SD
    have hNE := hNC.same SD
    have hWE := hWC.same SD
    have hE1 := hE1.same SD
    clear eE SD Sp sD asm2 hp2 ht2 b1 b2 b3 tabC fC hMC hNC hWC g1C
    refine ⟨_, rfl, _, rfl, l2, fun t3 ht3 => ?_⟩
    have SF := same_upd ht3 (o := .tup [.ref x, .ref wd])
    have g3 : upd HE t3 (.tup [.ref x, .ref wd]) t3 = some (.tup [.ref x, .ref wd]) := upd_same
    obtain ⟨HF, eF⟩ : ∃ HF, upd HE t3 (.tup [.ref x, .ref wd]) = HF := ⟨_, rfl⟩
    rw [eF] at SF g3 ⊢
    refine ⟨_, rfl, _, rfl, l2, fun p3 hp3 => ?_⟩
    have Sp := same_upd hp3 (o := .lst [.ref wd, .ref x])
    have SFp := SF.trans Sp
    obtain ⟨b1, b2, b3⟩ := two_lens smW sm1 (by decide)
    refine ⟨p3, _, [W, M1], rfl, upd_same, .cons ⟨wd, rfl, hWE.same SFp⟩ (.cons ⟨x, rfl, hME.same SFp⟩ .nil), wfs smW.wf sm1.wf, by omega, by omega, fun e3 E3 HG sG hE3 asm3 => ⟨_, rfl, l2, fun t4 ht4 => ⟨(by show 4 ≤ sizeLine; decide), fun pl hpl => ?_⟩⟩⟩
    have smE3 := sm_either smW sm1 (by decide) asm3
    have S4 := same_upd ht4 (o := .tup [.ref e3, .ref y])
    have S5 := same_upd hpl (o := .lst [.ref t1, .ref t2, .ref t3, .ref t4])
    have S45 := S4.trans S5
    have SG := (Sp.trans sG).trans S45
    have SH := SF.trans SG
    have hE3 := hE3.same S45
    have g4 := S5 _ _ (upd_same (H := HG) (a := t4) (o := .tup [.ref e3, .ref y]))
    have gl : upd (upd HG t4 (.tup [.ref e3, .ref y])) pl (.lst [.ref t1, .ref t2, .ref t3, .ref t4]) pl = some (.lst [.ref t1, .ref t2, .ref t3, .ref t4]) := upd_same
    obtain ⟨HH, eH⟩ : ∃ HH, upd (upd HG t4 (.tup [.ref e3, .ref y])) pl (.lst [.ref t1, .ref t2, .ref t3, .ref t4]) = HH := ⟨_, rfl⟩
    rw [eH] at SG SH hE3 g4 gl ⊢
    have all4 : ∀ v ∈ [V.ref t1, .ref t2, .ref t3, .ref t4], TwoAt C l HH v := by
      have w1 := sm1.wide (l' := l) (b' := 10) (n' := 10) (st' := 20) (by decide) (by decide) (by decide) fun c hc => hc
      have w2 := sm2.wide (l' := l) (b' := 10) (n' := 10) (st' := 20) (by decide) (by decide) (by decide) fun c hc => hc
      have w3 := smW.wide (l' := l) (b' := 10) (n' := 10) (st' := 20) (by decide) (by decide) (by decide) fun c hc => hc
      intro v hv
      rcases List.mem_cons.mp hv with rfl | hv
      · exact ⟨t1, x, y, M1, M2, l, rfl, SH _ _ g1E, hME.same SH, hNE.same SH, w1, w2⟩
      rcases List.mem_cons.mp hv with rfl | hv
      · exact ⟨t2, e1, e2, E1, E2, l, rfl, SH _ _ g2, hE1.same SH, hE2.same SH, smE1, smE2⟩
      rcases List.mem_cons.mp hv with rfl | hv
      · exact ⟨t3, x, wd, M1, W, l, rfl, SG _ _ g3, hME.same SH, hWE.same SH, w1, w3⟩
      rcases List.mem_cons.mp hv with rfl | hv
      · exact ⟨t4, e3, y, E3, M2, l, rfl, g4, hE3, hNE.same SH, smE3, w2⟩
      · cases hv
    have tabH := tabE.ext SH
    have fH := fE_.same SH
    clear eH SH SG S45 S5 S4 SF eF asm3 hp3 ht3 b1 b2 b3 Sp SFp sG ht4 g3 g4 g1E g2 tabE fE_ hME hNE hWE hE1 hE2 hE3 hpl
    obtain ⟨pv, epv⟩ : ∃ pv, [V.ref t1, .ref t2, .ref t3, .ref t4] = pv := ⟨_, rfl⟩
    have plen : pv.length = 4 := by rw [← epv]; rfl
    rw [epv] at gl all4
    -- the four are right
    refine ⟨_, rfl, pl, rfl, ⟨_, .inl (.inl gl)⟩, fun Dl hDl => ?_⟩
    have nd := fH.ne hDl
    have keepL : ∀ {H' : Hp}, StepD d HH H' → H' pl = some (.lst pv) := fun s => s.keep fH gl (fun _ q => by cases q) (fun _ q => by cases q)
    refine lc_it (walk_list (xs := pv)) (fun i Hx => StepD d HH Hx ∧ ∃ k, FeedAt Hx d L k ∧ k ≤ 10000 + 3200 * i ∧ TabsN [(Pt, fun _ _ => qnA)] Hx ∧ Hx Dl = some (.lst (List.replicate i (.bl true)))) ?_ (fun i Hx _ z => .inl (.inl (keepL z.1))) ?_ ?_
    · exact ⟨.of (same_upd hDl), _, fH.same (same_upd hDl), by omega, tabH.ext (same_upd hDl), upd_same⟩
    · rintro i v Hx Hx' hi ⟨sx, k, fx, hk, tx, hD'⟩ ⟨rfl, hv⟩
      obtain ⟨tt, xx, yy, M, N, l', rfl, h2, h3, h4, h5, h6⟩ := (all4 v (List.mem_of_getElem? hv)).stepD sx fH
      rw [plen] at hi
      refine ⟨tt, [.ref xx, .ref yy], rfl, .inl (.inl h2), rfl, .ref xx, [.ref yy], rfl, .ref yy, [], rfl, rfl, rfl, ?_⟩
      refine ⟨_, rfl, _, rfl, _, rfl, _, rfl, d, L, xx, yy, k, l, M, N, rfl, fx, by omega, ll, lok, h3, h4, h5.fits h6, tx, h5.sub, fun k' H' s' f' hk' t' => ?_⟩
      have hD2 := s' _ _ nd.1.symm hD' (fun _ z => by cases z)
      refine ⟨_, hD2, by rw [List.length_replicate]; exact Nat.lt_trans hi (by decide), fun b o nb e nt => ?_, k', f'.upd nd.1 nd.2, by omega, TabsN.updL hD2 t', ?_⟩
      · rw [upd_ne (ne_of_none e hDl)]
        exact s' _ _ nb (sx _ _ nb e nt) nt
      · rw [upd_same, List.replicate_succ']
    · rintro Hx ⟨sx, k, fx, hk, tx, hD'⟩
      rw [plen] at hD'
      refine ⟨Dl, _, rfl, .inl (.inl (.inl hD')), rfl, rfl, ?_⟩
      rw [show inV (V.bl false) (List.replicate 4 (V.bl true)) = false from rfl]
      exact q _
end
end KM
/-! text KEnd -/
set_option Elab.async false
set_option linter.all false
set_option maxRecDepth 100000
set_option maxHeartbeats 0
/-! The facts that the top leaves, the promises one upon another. -/
namespace KM
open PySem PySem.Spec PyProof.Rows L2 NdefX LamX
theorem bi_of {K : PySem.W.Frag} {h : Heap} {mg : Str → Option Value} (X : K.In h) (G : h.Ns mainGlobals mg) (d : He.SaysD fa fn K) : Bi mg where
  isinstance := He.free_ok X G (d.fact 43 (f := .free "isinstance") rfl)
  int := He.free_ok X G (d.fact 44 (f := .free "int") rfl)
  bool := He.free_ok X G (d.fact 45 (f := .free "bool") rfl)
  tuple := He.free_ok X G (d.fact 46 (f := .free "tuple") rfl)
  str := He.free_ok X G (d.fact 47 (f := .free "str") rfl)
  list := He.free_ok X G (d.fact 48 (f := .free "list") rfl)
  all := He.free_ok X G (d.fact 49 (f := .free "all") rfl)
  any := He.free_ok X G (d.fact 50 (f := .free "any") rfl)
  zip := He.free_ok X G (d.fact 51 (f := .free "zip") rfl)
  len := He.free_ok X G (d.fact 52 (f := .free "len") rfl)
  ord := He.free_ok X G (d.fact 53 (f := .free "ord") rfl)
  range := He.free_ok X G (d.fact 54 (f := .free "range") rfl)
  sum := He.free_ok X G (d.fact 55 (f := .free "sum") rfl)
  min := He.free_ok X G (d.fact 56 (f := .free "min") rfl)
  sorted := He.free_ok X G (d.fact 57 (f := .free "sorted") rfl)
  enumerate := He.free_ok X G (d.fact 58 (f := .free "enumerate") rfl)
  set := He.free_ok X G (d.fact 59 (f := .free "set") rfl)
  abs := He.free_ok X G (d.fact 60 (f := .free "abs") rfl)
theorem mc_of {K : PySem.W.Frag} {h : Heap} {mg : Str → Option Value} (X : K.In h) (G : h.Ns mainGlobals mg) (d : He.SaysD fa fn K) : MC K mg (He.ga K "Machine") (He.ma K (He.ga K "Machine") "__init__") where
  cl := He.cls_ok (d.fact 0 (f := .cls "Machine") rfl)
  mkr := He.mkr_ok (d.fact 1 (f := .mkr "Machine") rfl)
  nMany := He.noat_ok (d.fact 2 (f := .noat "Machine" "many") rfl)
  nBegins := He.noat_ok (d.fact 3 (f := .noat "Machine" "begins") rfl)
  nSteps := He.noat_ok (d.fact 4 (f := .noat "Machine" "steps") rfl)
  nEnds := He.noat_ok (d.fact 5 (f := .noat "Machine" "ends") rfl)
  nOnward := He.noat_ok (d.fact 6 (f := .noat "Machine" "onward") rfl)
  g := He.glo_ok X G (d.fact 7 (f := .glo "Machine") rfl)
theorem law_at {w : World} {K : PySem.W.Frag} {h : Heap} {mg : Str → Option Value} {f : Addr} (X : K.In h) (G : h.Ns mainGlobals mg) (hfa : mg ("law" : Str) = some (.ref f)) (c : He.SaysX fa fn [] tf (fun _ => true) w h K) :
    LawAtS PySem.Challenge.rw_formatwords_k46_whole_no_paper_beside_a w K CX0 10 63 "_law_script" mg f h := by
  have d := c.t.d
  obtain ⟨fd_is_count, F_is_count⟩ := d.def_ 0 (d := dD "is_count" sIsCount) rfl
  obtain ⟨fd_is_rising, F_is_rising⟩ := d.def_ 1 (d := dD "is_rising" sIsRising) rfl
  obtain ⟨fd_are_places, F_are_places⟩ := d.def_ 2 (d := dD "are_places" sArePlaces) rfl
  obtain ⟨fd_are_signs, F_are_signs⟩ := d.def_ 3 (d := dD "are_signs" sAreSigns) rfl
  obtain ⟨fd_is_step, F_is_step⟩ := d.def_ 4 (d := dD "is_step" sIsStep) rfl
  obtain ⟨fd_are_steps, F_are_steps⟩ := d.def_ 5 (d := dD "are_steps" sAreSteps) rfl
  obtain ⟨fd_init, F_init⟩ := d.def_ 6 (d := ⟨("Machine", some "__init__"), "__init__", "Machine.__init__", defArgs sInit, defBody sInit, defScope sInit, [], []⟩) rfl
  obtain ⟨fd_runs, F_runs⟩ := d.def_ 7 (d := dD "runs" sRuns) rfl
  obtain ⟨fd_way_left, F_way_left⟩ := d.def_ 8 (d := dD "way_left" sWayLeft) rfl
  obtain ⟨fd_nearest, F_nearest⟩ := d.def_ 9 (d := dD "nearest" sNearest) rfl
  obtain ⟨fd_least_text, F_least_text⟩ := d.def_ 10 (d := dD "least_text" sLeastText) rfl
  obtain ⟨fd_merged, F_merged⟩ := d.def_ 11 (d := dD "merged" sMerged) rfl
  obtain ⟨fd_come_to, F_come_to⟩ := d.def_ 12 (d := dD "come_to" sComeTo) rfl
  obtain ⟨fd_ways_of, F_ways_of⟩ := d.def_ 13 (d := dD "ways_of" sWaysOf) rfl
  obtain ⟨fd_assembled, F_assembled⟩ := d.def_ 14 (d := dD "assembled" sAssembled) rfl
  obtain ⟨fd_text_machine, F_text_machine⟩ := d.def_ 15 (d := dD "text_machine" sTextMachine) rfl
  obtain ⟨fd_either, F_either⟩ := d.def_ 16 (d := dD "either" sEither) rfl
  obtain ⟨fd_both, F_both⟩ := d.def_ 17 (d := dD "both" sBoth) rfl
  obtain ⟨fd_are_pairs, F_are_pairs⟩ := d.def_ 18 (d := dD "are_pairs" sArePairs) rfl
  obtain ⟨fd_meet, F_meet⟩ := d.def_ 19 (d := dD "meet" sMeet) rfl
  obtain ⟨fd_shows_apart, F_shows_apart⟩ := d.def_ 20 (d := dD "shows_apart" sShowsApart) rfl
  obtain ⟨fd_common, F_common⟩ := d.def_ 21 (d := dD "common" sCommon) rfl
  obtain ⟨fd_walked, F_walked⟩ := d.def_ 22 (d := dD "walked" sWalked) rfl
  obtain ⟨fd_together, F_together⟩ := d.def_ 23 (d := dD "together" sTogether) rfl
  obtain ⟨fd_apart, F_apart⟩ := d.def_ 24 (d := dD "apart" sApart) rfl
  obtain ⟨fd_law_feed, F_law_feed⟩ := d.def_ 25 (d := dD "_law_feed" sFeed) rfl
  obtain ⟨fd_law_draw, F_law_draw⟩ := d.def_ 26 (d := dD "_law_draw" sDraw) rfl
  obtain ⟨fd_law_signs, F_law_signs⟩ := d.def_ 27 (d := dD "_law_signs" sSigns) rfl
  obtain ⟨fd_law_some, F_law_some⟩ := d.def_ 28 (d := dD "_law_some" sSome) rfl
  obtain ⟨fd_law_raw, F_law_raw⟩ := d.def_ 29 (d := dD "_law_raw" sRaw) rfl
  obtain ⟨fd_law_near_clear, F_law_near_clear⟩ := d.def_ 30 (d := dD "_law_near_clear" sNear) rfl
  obtain ⟨fd_law_texts, F_law_texts⟩ := d.def_ 31 (d := dD "_law_texts" sTexts) rfl
  obtain ⟨fd_law_made, F_law_made⟩ := d.def_ 32 (d := dD "_law_made" sMade) rfl
  obtain ⟨fd_law_lists, F_law_lists⟩ := d.def_ 33 (d := dD "_law_lists" sLists) rfl
  obtain ⟨fd_law_right, F_law_right⟩ := d.def_ 34 (d := dD "_law_right" sRight) rfl
  obtain ⟨fd_law, F_law⟩ := d.def_ 35 (d := dD "law" sLaw) rfl
  have e := hfa.symm.trans (He.glo_ok X G (d.fact 42 (f := .glo "law") rfl))
  cases e
  have b := FunD.bindsA (ps := ["_law_script"]) F_law fun _ _ _ _ _ _ us hl => match us, hl with | [_], _ => rfl
  refine ⟨fd_law, tf.map (He.cT K), spLaw K (He.cT K ("apart", none)).2, fun p hp => ?_, fun p hp => ?_, fun p hp => ?_, fun s u => b s [u] rfl, fun H a ns _ _ hT hS => ⟨a, ns, rfl, hS, fun p hp => ?_, fun _ => rfl⟩, fun base _ _ hT => ?_⟩
  · obtain ⟨q, hq, rfl⟩ := List.mem_map.mp hp
    exact c.empty q hq
  · obtain ⟨q, hq, rfl⟩ := List.mem_map.mp hp
    exact c.out q hq
  · obtain ⟨q, hq, rfl⟩ := List.mem_map.mp hp
    exact PySem.W.codeHd_of_K X (c.hd q hq)
  · rw [List.mem_singleton.mp hp]
    exact TabN.nil (hT _ (List.mem_map.mpr ⟨("apart", none), List.mem_singleton.mpr rfl, rfl⟩))
  have B := bi_of X G d
  have T := mc_of X G d
  have TB : CodeT K mg base fd_apart (He.cT K ("apart", none)).2 := by
    have tb := hT _ (List.mem_map.mpr ⟨("apart", none), List.mem_singleton.mpr rfl, rfl⟩)
    obtain ⟨oc, od, dV, kV, doc, pm, an, cdv, ct, osl, e, lk, hcd, _⟩ := F_apart.ex
    obtain ⟨k, ek⟩ := He.codeIn_ref hcd
    have e2 : fd_apart.code = .ref k := by rw [e, ← ek]
    have e3 := He.codeOf_eq (p := ("apart", none)) lk e2
    exact ⟨k, e2, by rw [← e3]; exact tb⟩
  have O_are_places := ok_are_places (P := PySem.Challenge.rw_formatwords_k46_whole_no_paper_beside_a.prog) (w := w) (base := base) F_are_places B F_is_count (He.glo_ok X G (d.fact 8 (f := .glo "is_count") rfl)) F_is_rising (He.glo_ok X G (d.fact 9 (f := .glo "is_rising") rfl))
  have O_are_signs := ok_are_signs (P := PySem.Challenge.rw_formatwords_k46_whole_no_paper_beside_a.prog) (w := w) (base := base) F_are_signs B F_is_rising (He.glo_ok X G (d.fact 9 (f := .glo "is_rising") rfl))
  have O_is_step := ok_is_step (P := PySem.Challenge.rw_formatwords_k46_whole_no_paper_beside_a.prog) (w := w) (base := base) F_is_step B F_is_count (He.glo_ok X G (d.fact 8 (f := .glo "is_count") rfl)) F_are_signs (He.glo_ok X G (d.fact 11 (f := .glo "are_signs") rfl)) O_are_signs
  have O_are_steps := ok_are_steps (P := PySem.Challenge.rw_formatwords_k46_whole_no_paper_beside_a.prog) (w := w) (base := base) F_are_steps B F_is_step (He.glo_ok X G (d.fact 12 (f := .glo "is_step") rfl)) O_is_step F_is_rising (He.glo_ok X G (d.fact 9 (f := .glo "is_rising") rfl))
  have O_init := ok_init (P := PySem.Challenge.rw_formatwords_k46_whole_no_paper_beside_a.prog) (w := w) (base := base) F_init B T F_is_count (He.glo_ok X G (d.fact 8 (f := .glo "is_count") rfl)) F_are_places (He.glo_ok X G (d.fact 10 (f := .glo "are_places") rfl)) O_are_places F_are_steps (He.glo_ok X G (d.fact 13 (f := .glo "are_steps") rfl)) O_are_steps
  have O_least_text := ok_least_text (P := PySem.Challenge.rw_formatwords_k46_whole_no_paper_beside_a.prog) (w := w) (base := base) F_least_text B T F_way_left (He.glo_ok X G (d.fact 15 (f := .glo "way_left") rfl)) F_nearest (He.glo_ok X G (d.fact 16 (f := .glo "nearest") rfl))
  have O_assembled := ok_assembled (P := PySem.Challenge.rw_formatwords_k46_whole_no_paper_beside_a.prog) (w := w) (base := base) F_assembled B T F_init O_init F_come_to (He.glo_ok X G (d.fact 19 (f := .glo "come_to") rfl)) F_ways_of (He.glo_ok X G (d.fact 20 (f := .glo "ways_of") rfl)) F_merged (He.glo_ok X G (d.fact 18 (f := .glo "merged") rfl))
  have O_text_machine := ok_text_machine (P := PySem.Challenge.rw_formatwords_k46_whole_no_paper_beside_a.prog) (w := w) (base := base) F_text_machine B T F_init O_init
  have O_either := ok_either (P := PySem.Challenge.rw_formatwords_k46_whole_no_paper_beside_a.prog) (w := w) (base := base) F_either B T F_assembled (He.glo_ok X G (d.fact 21 (f := .glo "assembled") rfl)) O_assembled
  have O_both := ok_both (P := PySem.Challenge.rw_formatwords_k46_whole_no_paper_beside_a.prog) (w := w) (base := base) F_both B T F_assembled (He.glo_ok X G (d.fact 21 (f := .glo "assembled") rfl)) O_assembled
  have O_shows_apart := ok_shows_apart (P := PySem.Challenge.rw_formatwords_k46_whole_no_paper_beside_a.prog) (w := w) (base := base) F_shows_apart B T F_are_pairs (He.glo_ok X G (d.fact 25 (f := .glo "are_pairs") rfl)) F_meet (He.glo_ok X G (d.fact 26 (f := .glo "meet") rfl)) F_is_count (He.glo_ok X G (d.fact 8 (f := .glo "is_count") rfl))
  have O_apart := ok_apart (P := PySem.Challenge.rw_formatwords_k46_whole_no_paper_beside_a.prog) (w := w) (base := base) F_apart B T TB F_common (He.glo_ok X G (d.fact 28 (f := .glo "common") rfl)) F_walked (He.glo_ok X G (d.fact 29 (f := .glo "walked") rfl)) F_least_text (He.glo_ok X G (d.fact 17 (f := .glo "least_text") rfl)) O_least_text F_assembled (He.glo_ok X G (d.fact 21 (f := .glo "assembled") rfl)) O_assembled F_together (He.glo_ok X G (d.fact 30 (f := .glo "together") rfl))
  have O_law_made := ok_made (P := PySem.Challenge.rw_formatwords_k46_whole_no_paper_beside_a.prog) (w := w) (base := base) F_law_made B T F_init O_init
  have O_law_signs := ok_signs (P := PySem.Challenge.rw_formatwords_k46_whole_no_paper_beside_a.prog) (w := w) (base := base) F_law_signs B F_law_draw (He.glo_ok X G (d.fact 33 (f := .glo "_law_draw") rfl))
  have O_law_near_clear := ok_near (P := PySem.Challenge.rw_formatwords_k46_whole_no_paper_beside_a.prog) (w := w) (base := base) F_law_near_clear B F_law_draw (He.glo_ok X G (d.fact 33 (f := .glo "_law_draw") rfl)) F_law_some (He.glo_ok X G (d.fact 35 (f := .glo "_law_some") rfl)) F_law_raw (He.glo_ok X G (d.fact 36 (f := .glo "_law_raw") rfl))
  have O_law_lists := ok_lists (P := PySem.Challenge.rw_formatwords_k46_whole_no_paper_beside_a.prog) (w := w) (base := base) F_law_lists B T F_law_draw (He.glo_ok X G (d.fact 33 (f := .glo "_law_draw") rfl))
  have O_law_right := ok_right (P := PySem.Challenge.rw_formatwords_k46_whole_no_paper_beside_a.prog) (w := w) (base := base) F_law_right B T F_apart (He.glo_ok X G (d.fact 31 (f := .glo "apart") rfl)) O_apart F_law_texts (He.glo_ok X G (d.fact 38 (f := .glo "_law_texts") rfl)) F_runs (He.glo_ok X G (d.fact 14 (f := .glo "runs") rfl)) F_both (He.glo_ok X G (d.fact 24 (f := .glo "both") rfl)) O_both F_least_text (He.glo_ok X G (d.fact 17 (f := .glo "least_text") rfl)) O_least_text F_shows_apart (He.glo_ok X G (d.fact 27 (f := .glo "shows_apart") rfl)) O_shows_apart F_law_lists (He.glo_ok X G (d.fact 40 (f := .glo "_law_lists") rfl)) O_law_lists
  exact ok_law (P := PySem.Challenge.rw_formatwords_k46_whole_no_paper_beside_a.prog) (w := w) (base := base) F_law B T F_law_feed (He.glo_ok X G (d.fact 32 (f := .glo "_law_feed") rfl)) F_law_signs (He.glo_ok X G (d.fact 34 (f := .glo "_law_signs") rfl)) O_law_signs F_law_near_clear (He.glo_ok X G (d.fact 37 (f := .glo "_law_near_clear") rfl)) O_law_near_clear F_law_made (He.glo_ok X G (d.fact 39 (f := .glo "_law_made") rfl)) O_law_made F_law_draw (He.glo_ok X G (d.fact 33 (f := .glo "_law_draw") rfl)) F_text_machine (He.glo_ok X G (d.fact 22 (f := .glo "text_machine") rfl)) O_text_machine F_either (He.glo_ok X G (d.fact 23 (f := .glo "either") rfl)) O_either F_law_right (He.glo_ok X G (d.fact 41 (f := .glo "_law_right") rfl)) O_law_right
end KM
open PySem PySem.W PySem.Calls PyProof.Rows
set_option maxRecDepth 100000 in
set_option maxHeartbeats 0 in
theorem PySem.Challenge.cw_formatwords_k46_whole_no_paper_beside_a_holds : PySem.Challenge.rw_formatwords_k46_whole_no_paper_beside_a.Holds := by
  w_on; o_law
  refine HandSHeadRun.head_any (r := KM.R) (q := KM.vw) (H := KM.hk) (ob := KM.ob) (M := 2400) (loose := KM.loose) (d := HandSHeadRun.topDef KM.R.prog 42) (kwd := []) KM.ob_eq
    (by kernel_rfl) (fun s => by kernel_rfl) KM.run (by kernel_rfl) (by kernel_rfl) (by kernel_rfl) (by rfl) (by first | assumption | decide +kernel) (by decide +kernel) ⟨rfl, rfl, rfl, rfl, rfl, by decide +kernel⟩ ?hw ?hc
  case hw => w_witness2
  case hc =>
    refine LamX.walk_ofTsE (l := PySem.Challenge.rw_formatwords_k46_whole_no_paper_beside_a) (n := 63) (k := 10) (x := "_law_script") (CX := fun _ => L2.CX0) rfl (by decide) (by kernel_rfl) ⟨rfl, by decide, by decide⟩ ?F (fun _ _ _ _ _ z => z)
    intro w mg fa h Y G hmg0
    obtain ⟨K, KX, c⟩ := Y
    have hmg : mg ("law" : PySem.Str) = some (.ref fa) := by
      have e : (HandSHeadRun.topDef KM.R.prog 42).name = ("law" : PySem.Str) := by kernel_rfl
      rw [← e]
      exact hmg0
    exact ⟨K, KX, KM.law_at KX G hmg c⟩
